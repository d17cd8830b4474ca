import PyProof.Rows.All
import Wide.All
import OpenK.AllK
import Wide.FinOn
import KE.GoesMore
import HandS.ForMost
import KE.KDictZip
import KE.KItemsList
import HandS.ListItems
import HandS.ForExc
import HandS.TryMany
import KE.KExcSuper
import HandS.ExcInit
import HandS.ExcSuper
import HandS.More
import HandS.IsInst
import HandS.TupAny
import HandS.DictComp
import HandS.Style
import HandS.ExcField
import HandS.Defaults
import HandS.SortInts
import PySem.Challenge.RW_movedwhole_k11_some_placing
/-! KMath -/
section
set_option maxHeartbeats 1000000
set_option linter.all false
namespace MW
/-! ## 1. the search for a way -/
abbrev Arc := Nat × Nat × Int
abbrev Came := List (Nat × Nat)
def keys (p : Nat) (cm : Came) : List Nat := p :: cm.map (·.1)
def relax (p : Nat) (s : Came × Bool) (a : Arc) : Came × Bool :=
  if a.1 ∈ keys p s.1 ∧ a.2.1 ∉ keys p s.1 then (s.1 ++ [(a.2.1, a.1)], true) else s
def pass (p : Nat) (A : List Arc) (cm : Came) : Came × Bool := A.foldl (relax p) (cm, false)
def bf (p : Nat) (A : List Arc) : Nat → Came → Came
  | 0, cm => cm
  | f + 1, cm => if (pass p A cm).2 = true then bf p A f (pass p A cm).1 else (pass p A cm).1
inductive WF (p : Nat) (A : List Arc) : Came → Prop
  | nil : WF p A []
  | snoc {cm : Came} {u v : Nat} {c : Int} (h : WF p A cm) (ha : (u, v, c) ∈ A) (hu : u ∈ keys p cm) (hv : v ∉ keys p cm) : WF p A (cm ++ [(v, u)])
theorem keys_snoc (p : Nat) (cm : Came) (v u : Nat) : keys p (cm ++ [(v, u)]) = keys p cm ++ [v] := by
  simp [keys]
theorem WF.nodup {p : Nat} {A : List Arc} {cm : Came} (h : WF p A cm) : (keys p cm).Nodup := by
  induction h with
  | nil => simp [keys]
  | snoc h ha hu hv ih =>
    rw [keys_snoc]
    refine List.nodup_append.mpr ⟨ih, by simp, ?_⟩
    intro a ha' b hb e
    simp at hb
    subst hb; subst e
    exact hv ha'
theorem WF.heads {p : Nat} {A : List Arc} {cm : Came} (h : WF p A cm) : ∀ x ∈ keys p cm, x = p ∨ ∃ u c, (u, x, c) ∈ A := by
  induction h with
  | nil => intro x hx; simp [keys] at hx; exact .inl hx
  | snoc h ha hu hv ih =>
    intro x hx
    rw [keys_snoc] at hx
    rcases List.mem_append.mp hx with hx | hx
    · exact ih x hx
    · simp at hx; subst hx; exact .inr ⟨_, _, ha⟩
theorem relax_wf {p : Nat} {A : List Arc} {cm : Came} {b : Bool} {a : Arc} (h : WF p A cm) (ha : a ∈ A) : WF p A (relax p (cm, b) a).1 := by
  unfold relax
  split
  · rename_i c
    exact .snoc (c := a.2.2) h ha c.1 c.2
  · exact h
theorem fold_wf {p : Nat} {A : List Arc} : ∀ {L : List Arc} {s : Came × Bool}, (∀ a ∈ L, a ∈ A) → WF p A s.1 → WF p A (L.foldl (relax p) s).1
  | [], _, _, h => h
  | a :: L, (cm, b), hl, h => fold_wf (L := L) (fun x hx => hl x (List.mem_cons_of_mem _ hx)) (relax_wf (b := b) h (hl a List.mem_cons_self))
theorem fold_ext (p : Nat) : ∀ (L : List Arc) (s : Came × Bool), ∃ t, (L.foldl (relax p) s).1 = s.1 ++ t ∧ (L.foldl (relax p) s).2 = (s.2 || !t.isEmpty)
  | [], s => ⟨[], by simp, by simp⟩
  | a :: L, s => by
    obtain ⟨t, h1, h2⟩ := fold_ext p L (relax p s a)
    rw [List.foldl_cons]
    by_cases c : a.1 ∈ keys p s.1 ∧ a.2.1 ∉ keys p s.1
    · have e : relax p s a = (s.1 ++ [(a.2.1, a.1)], true) := by unfold relax; rw [if_pos c]
      rw [e] at h1 h2 ⊢
      exact ⟨(a.2.1, a.1) :: t, by rw [h1]; simp, by rw [h2]; simp⟩
    · have e : relax p s a = s := by unfold relax; rw [if_neg c]
      rw [e] at h1 h2 ⊢
      exact ⟨t, h1, h2⟩
def Closed (p : Nat) (A : List Arc) (cm : Came) : Prop := ∀ a ∈ A, a.1 ∈ keys p cm → a.2.1 ∈ keys p cm
theorem fold_closed (p : Nat) : ∀ (L : List Arc) (s : Came × Bool), (L.foldl (relax p) s).1 = s.1 → ∀ a ∈ L, a.1 ∈ keys p s.1 → a.2.1 ∈ keys p s.1
  | [], _, _, a, ha, _ => by cases ha
  | b :: L, s, h, a, ha, hk => by
    rw [List.foldl_cons] at h
    by_cases c : b.1 ∈ keys p s.1 ∧ b.2.1 ∉ keys p s.1
    · have e : relax p s b = (s.1 ++ [(b.2.1, b.1)], true) := by unfold relax; rw [if_pos c]
      rw [e] at h
      obtain ⟨t, h1, _⟩ := fold_ext p L (s.1 ++ [(b.2.1, b.1)], true)
      rw [h1] at h
      have := congrArg List.length h
      simp at this
    · have e : relax p s b = s := by unfold relax; rw [if_neg c]
      rw [e] at h
      rcases List.mem_cons.mp ha with rfl | ha
      · exact Decidable.byContradiction fun z => c ⟨hk, z⟩
      · exact fold_closed p L s h a ha hk
theorem pass_wf {p : Nat} {A : List Arc} {cm : Came} (h : WF p A cm) : WF p A (pass p A cm).1 := fold_wf (fun _ h => h) h
theorem pass_still {p : Nat} {A : List Arc} {cm : Came} (h : (pass p A cm).2 = false) : (pass p A cm).1 = cm ∧ Closed p A cm := by
  obtain ⟨t, h1, h2⟩ := fold_ext p A (cm, false)
  unfold pass at h ⊢
  rw [h2] at h
  have e : t = [] := by simpa using h
  rw [e, List.append_nil] at h1
  exact ⟨h1, fold_closed p A (cm, false) h1⟩
theorem pass_moved {p : Nat} {A : List Arc} {cm : Came} (h : (pass p A cm).2 = true) : cm.length < (pass p A cm).1.length := by
  obtain ⟨t, h1, h2⟩ := fold_ext p A (cm, false)
  unfold pass at h ⊢
  rw [h2] at h
  have e : t ≠ [] := by intro z; subst z; simp at h
  rw [h1, List.length_append]
  have := List.length_pos_iff.mpr e
  simp only; omega
theorem WF.len {p N : Nat} {A : List Arc} {cm : Came} (h : WF p A cm) (hp : p < N) (hA : ∀ a ∈ A, a.2.1 < N) : cm.length + 1 ≤ N := by
  have hs : keys p cm ⊆ List.range N := fun x hx => by
    rcases h.heads x hx with rfl | ⟨u, c, ha⟩
    · exact List.mem_range.mpr hp
    · exact List.mem_range.mpr (hA _ ha)
  have := h.nodup.length_le_of_subset hs
  simpa [keys] using this
theorem bf_ok {p N : Nat} {A : List Arc} (hp : p < N) (hA : ∀ a ∈ A, a.2.1 < N) : ∀ (f : Nat) (cm : Came), WF p A cm → N < f + (cm.length + 1) → WF p A (bf p A f cm) ∧ Closed p A (bf p A f cm)
  | 0, cm, h, hf => by have := h.len hp hA; omega
  | f + 1, cm, h, hf => by
    unfold bf
    by_cases c : (pass p A cm).2 = true
    · rw [if_pos c]
      exact bf_ok hp hA f _ (pass_wf h) (by have := pass_moved c; omega)
    · rw [if_neg c]
      have c' : (pass p A cm).2 = false := by simpa using c
      obtain ⟨e, cl⟩ := pass_still c'
      rw [e]
      exact ⟨h, cl⟩
/-! the way back -/
inductive Back (p : Nat) (cm : Came) : Nat → List Nat → Prop
  | here : Back p cm p [p]
  | step {x u : Nat} {l : List Nat} (h : x ≠ p) (e : cm.lookup x = some u) (b : Back p cm u l) : Back p cm x (x :: l)
def traceR (p : Nat) : Came → Nat → List Nat
  | [], x => [x]
  | (v, u) :: r, x => if x = v then x :: traceR p r u else traceR p r x
/-- neighbours stand in R -/
def Ch {α : Type} (R : α → α → Prop) : List α → Prop
  | a :: b :: r => R a b ∧ Ch R (b :: r)
  | _ => True
theorem Back.more {p : Nat} {cm : Came} {x : Nat} {l : List Nat} (h : Back p cm x l) (e : Nat × Nat) : Back p (cm ++ [e]) x l := by
  induction h with
  | here => exact .here
  | step h e' b ih => exact .step h (by rw [List.lookup_append, e']; rfl) ih
theorem lookup_none_of {cm : Came} {v : Nat} (h : v ∉ cm.map (·.1)) : cm.lookup v = none := by
  induction cm with
  | nil => rfl
  | cons a r ih =>
    simp at h
    rw [List.lookup_cons]
    have : (v == a.1) = false := by simpa using h.1
    rw [this]
    exact ih (by simpa using h.2)
theorem back_head {p : Nat} {cm : Came} {x : Nat} {l : List Nat} (h : Back p cm x l) : ∃ r, l = x :: r := by
  cases h with
  | here => exact ⟨[], rfl⟩
  | step _ _ _ => exact ⟨_, rfl⟩
theorem back_last {p : Nat} {cm : Came} {x : Nat} {l : List Nat} (h : Back p cm x l) : ∃ r, l = r ++ [p] := by
  induction h with
  | here => exact ⟨[], rfl⟩
  | step _ _ _ ih =>
    obtain ⟨r, e⟩ := ih
    exact ⟨_ :: r, by rw [e]; rfl⟩
theorem trace_ok {p : Nat} {A : List Arc} {cm : Came} (h : WF p A cm) : ∀ x ∈ keys p cm, Back p cm x (traceR p cm.reverse x) ∧ (traceR p cm.reverse x).Nodup ∧ (∀ y ∈ traceR p cm.reverse x, y ∈ keys p cm) ∧ Ch (fun a b => ∃ c, (b, a, c) ∈ A) (traceR p cm.reverse x) := by
  induction h with
  | nil =>
    intro x hx
    simp [keys] at hx
    subst hx
    exact ⟨.here, by simp [traceR], by simp [traceR, keys], True.intro⟩
  | @snoc cm u v c h ha hu hv ih =>
    intro x hx
    rw [keys_snoc] at hx
    rw [List.reverse_append, List.reverse_singleton, List.singleton_append, traceR]
    by_cases e : x = v
    · subst e
      rw [if_pos rfl]
      obtain ⟨b1, b2, b3, b4⟩ := ih u hu
      have hp : x ≠ p := fun z => hv (by rw [z]; exact List.mem_cons_self)
      refine ⟨.step hp ?_ (b1.more _), ?_, ?_, ?_⟩
      · rw [List.lookup_append, lookup_none_of fun z => hv (List.mem_cons_of_mem _ z)]
        simp [List.lookup]
      · exact List.nodup_cons.mpr ⟨fun z => hv (b3 _ z), b2⟩
      · intro y hy
        rw [keys_snoc]
        rcases List.mem_cons.mp hy with rfl | hy
        · simp
        · exact List.mem_append_left _ (b3 y hy)
      · obtain ⟨r, er⟩ := back_head b1
        rw [er] at b4 ⊢
        exact ⟨⟨c, ha⟩, b4⟩
    · rw [if_neg e]
      have hx' : x ∈ keys p cm := by
        rcases List.mem_append.mp hx with hx | hx
        · exact hx
        · simp at hx; exact absurd hx e
      obtain ⟨b1, b2, b3, b4⟩ := ih x hx'
      exact ⟨b1.more _, b2, fun y hy => by rw [keys_snoc]; exact List.mem_append_left _ (b3 y hy), b4⟩
theorem nodup_rev {α : Type} {l : List α} (h : l.Nodup) : l.reverse.Nodup := (List.reverse_perm l).nodup_iff.mpr h
theorem ch_snoc {α : Type} {R : α → α → Prop} : ∀ {l : List α} {a b : α}, Ch R (l ++ [a]) → R a b → Ch R (l ++ [a, b])
  | [], _, _, _, h => ⟨h, True.intro⟩
  | [x], _, _, h, hr => ⟨h.1, hr, True.intro⟩
  | x :: y :: l, a, b, h, hr => ⟨h.1, ch_snoc (l := y :: l) h.2 hr⟩
theorem ch_rev {α : Type} {R : α → α → Prop} : ∀ {l : List α}, Ch (fun a b => R b a) l → Ch R l.reverse
  | [], _ => True.intro
  | [_], _ => True.intro
  | a :: b :: l, h => by
    rw [List.reverse_cons, List.reverse_cons, List.append_assoc]
    have ih := ch_rev (l := b :: l) h.2
    rw [List.reverse_cons] at ih
    exact ch_snoc ih h.1
/-- the search: from p to t, the nodes below N -/
def cameOf (p : Nat) (A : List Arc) (N : Nat) : Came := bf p A (N + 1) []
def wayOf (p : Nat) (A : List Arc) (N t : Nat) : Option (List Nat) :=
  if t ∈ keys p (cameOf p A N) then some (traceR p (cameOf p A N).reverse t).reverse else none
theorem way_some {p N t : Nat} {A : List Arc} {l : List Nat} (hp : p < N) (hA : ∀ a ∈ A, a.2.1 < N) (h : wayOf p A N t = some l) :
    l.Nodup ∧ Ch (fun a b => ∃ c, (a, b, c) ∈ A) l ∧ (∃ r, l = p :: r) ∧ ∃ r, l = r ++ [t] := by
  unfold wayOf at h
  split at h
  · rename_i ht
    obtain ⟨w, _⟩ := bf_ok hp hA (N + 1) [] .nil (by simp; omega)
    obtain ⟨b1, b2, b3, b4⟩ := trace_ok w t ht
    cases h
    refine ⟨nodup_rev b2, ch_rev (R := fun a b => ∃ c, (a, b, c) ∈ A) b4, ?_, ?_⟩
    · obtain ⟨r, e⟩ := back_last b1
      exact ⟨r.reverse, by show (traceR p (cameOf p A N).reverse t).reverse = _; unfold cameOf; rw [e]; simp⟩
    · obtain ⟨r, e⟩ := back_head b1
      exact ⟨r.reverse, by show (traceR p (cameOf p A N).reverse t).reverse = _; unfold cameOf; rw [e]; simp⟩
  · cases h
theorem way_none {p N t : Nat} {A : List Arc} (hp : p < N) (hA : ∀ a ∈ A, a.2.1 < N) (h : wayOf p A N t = none) :
    ∃ S : List Nat, p ∈ S ∧ t ∉ S ∧ ∀ a ∈ A, a.1 ∈ S → a.2.1 ∈ S := by
  unfold wayOf at h
  split at h
  · cases h
  · rename_i ht
    obtain ⟨w, cl⟩ := bf_ok hp hA (N + 1) [] .nil (by simp; omega)
    exact ⟨keys p (cameOf p A N), List.mem_cons_self, ht, cl⟩
end MW
namespace MW
/-! ## 2. lists that hold racks and stores -/
theorem ip {p : Prop} [Decidable p] {α : Type} {a b : α} (h : p) : (if p then a else b) = a := if_pos h
def uniq1 (acc : List Nat) (x : Nat) : List Nat := if x ∈ acc then acc else acc ++ [x]
def uniq (l : List Nat) : List Nat := l.foldl uniq1 []
theorem uniq_fold : ∀ (l acc : List Nat), acc.Nodup → (l.foldl uniq1 acc).Nodup ∧ ∀ x, x ∈ l.foldl uniq1 acc ↔ x ∈ acc ∨ x ∈ l
  | [], acc, h => ⟨h, by simp⟩
  | a :: l, acc, h => by
    rw [List.foldl_cons]
    by_cases c : a ∈ acc
    · have e : uniq1 acc a = acc := if_pos c
      rw [e]
      obtain ⟨h1, h2⟩ := uniq_fold l acc h
      refine ⟨h1, fun x => ?_⟩
      rw [h2, List.mem_cons]
      constructor
      · rintro (z | z)
        · exact .inl z
        · exact .inr (.inr z)
      · rintro (z | z | z)
        · exact .inl z
        · subst z; exact .inl c
        · exact .inr z
    · have e : uniq1 acc a = acc ++ [a] := if_neg c
      rw [e]
      have hn : (acc ++ [a]).Nodup := List.nodup_append.mpr ⟨h, by simp, fun x hx y hy z => by simp at hy; subst hy; subst z; exact c hx⟩
      obtain ⟨h1, h2⟩ := uniq_fold l (acc ++ [a]) hn
      refine ⟨h1, fun x => ?_⟩
      rw [h2, List.mem_append, List.mem_singleton, List.mem_cons, or_assoc]
theorem uniq_nodup (l : List Nat) : (uniq l).Nodup := (uniq_fold l [] List.nodup_nil).1
theorem mem_uniq {l : List Nat} {x : Nat} : x ∈ uniq l ↔ x ∈ l := by
  have := (uniq_fold l [] List.nodup_nil).2 x
  show x ∈ l.foldl uniq1 [] ↔ x ∈ l
  simpa using this
/-- the dict of a piece -/
abbrev Row := List (Nat × Nat)
abbrev Chosen := List Row
def put1 (l : Row) (k v : Nat) : Row :=
  if (l.any fun kv => decide (kv.1 = k)) = true then l.map (fun kv => if kv.1 = k then (kv.1, v) else kv) else l ++ [(k, v)]
def drop1 (l : Row) (k : Nat) : Row := l.filter fun kv => decide (kv.1 ≠ k)
def look (ch : Chosen) (q r : Nat) : Option Nat := (ch.getD q []).lookup r
theorem lookup_mem : ∀ {l : Row} {k v : Nat}, l.lookup k = some v → (k, v) ∈ l
  | [], _, _, h => by cases h
  | (a, b) :: l, k, v, h => by
    rw [List.lookup_cons] at h
    by_cases c : k = a
    · subst c
      simp at h
      subst h
      exact List.mem_cons_self
    · have : (k == a) = false := by simpa using c
      rw [this] at h
      exact List.mem_cons_of_mem _ (lookup_mem h)
theorem lookup_of_mem : ∀ {l : Row} {k v : Nat}, (l.map (·.1)).Nodup → (k, v) ∈ l → l.lookup k = some v
  | (a, b) :: l, k, v, hn, h => by
    rw [List.lookup_cons]
    rcases List.mem_cons.mp h with e | h
    · cases e
      simp
    · have hk : k ∈ l.map (·.1) := List.mem_map.mpr ⟨_, h, rfl⟩
      have hn' := List.nodup_cons.mp hn
      have : (k == a) = false := by
        simp
        intro z
        subst z
        exact hn'.1 hk
      rw [this]
      exact lookup_of_mem hn'.2 h
theorem lookup_none_iff {l : Row} {k : Nat} : l.lookup k = none ↔ k ∉ l.map (·.1) := by
  induction l with
  | nil => simp
  | cons a l ih =>
    obtain ⟨x, y⟩ := a
    rw [List.lookup_cons]
    by_cases c : k = x
    · subst c
      simp
    · have : (k == x) = false := by simpa using c
      rw [this]
      simp only [List.map_cons, List.mem_cons, c, false_or]
      exact ih
theorem any_key {l : Row} {k : Nat} : (l.any fun kv => decide (kv.1 = k)) = (l.lookup k).isSome := by
  cases h : l.lookup k with
  | none =>
    have := lookup_none_iff.mp h
    rw [Option.isSome_none, List.any_eq_false]
    intro x hx
    simp
    intro z
    exact this (List.mem_map.mpr ⟨x, hx, z⟩)
  | some v =>
    rw [Option.isSome_some, List.any_eq_true]
    exact ⟨_, lookup_mem h, by simp⟩
theorem map_keys_put (l : Row) (k v : Nat) : (l.map fun kv => if kv.1 = k then (kv.1, v) else kv).map (·.1) = l.map (·.1) := by
  rw [List.map_map]
  apply List.map_congr_left
  intro a _
  show (if a.1 = k then (a.1, v) else a).1 = a.1
  split <;> rfl
theorem keys_put1 (l : Row) (k v : Nat) : (put1 l k v).map (·.1) = if k ∈ l.map (·.1) then l.map (·.1) else l.map (·.1) ++ [k] := by
  unfold put1
  rw [any_key]
  by_cases c : k ∈ l.map (·.1)
  · have : (l.lookup k).isSome = true := by
      cases h : l.lookup k with
      | none => exact absurd c (lookup_none_iff.mp h)
      | some v => rfl
    rw [if_pos this, if_pos c, map_keys_put]
  · have : (l.lookup k) = none := lookup_none_iff.mpr c
    rw [this, if_neg c]
    simp
theorem nodup_put1 {l : Row} {k v : Nat} (h : (l.map (·.1)).Nodup) : ((put1 l k v).map (·.1)).Nodup := by
  rw [keys_put1]
  split
  · exact h
  · rename_i c
    exact List.nodup_append.mpr ⟨h, by simp, fun x hx y hy z => by simp at hy; subst hy; subst z; exact c hx⟩
theorem lookup_map_put (k v j : Nat) : ∀ l : Row, (l.map fun kv => if kv.1 = k then (kv.1, v) else kv).lookup j = (l.lookup j).map fun x => if j = k then v else x
  | [] => rfl
  | (a, b) :: l => by
    rw [List.map_cons, List.lookup_cons]
    by_cases c : j = a
    · subst c
      by_cases d : j = k
      · subst d; simp [List.lookup]
      · simp [List.lookup, d]
    · have h1 : (j == a) = false := by simpa using c
      have ih := lookup_map_put k v j l
      by_cases d : a = k
      · subst d
        simp only [if_true, h1, List.lookup_cons]
        exact ih
      · simp only [d, if_false, h1, List.lookup_cons]
        exact ih
theorem lookup_put1 (l : Row) (k v j : Nat) : (put1 l k v).lookup j = if j = k then some v else l.lookup j := by
  unfold put1
  rw [any_key]
  cases h : l.lookup k with
  | some x =>
    rw [Option.isSome_some, if_pos rfl, lookup_map_put]
    by_cases c : j = k
    · subst c; rw [h, if_pos rfl]; simp
    · rw [if_neg c]; cases l.lookup j <;> simp [c]
  | none =>
    rw [Option.isSome_none, if_neg (by decide), List.lookup_append]
    by_cases c : j = k
    · subst c; rw [h, if_pos rfl]; simp [List.lookup]
    · rw [if_neg c]
      have : (j == k) = false := by simpa using c
      simp [List.lookup, this]
theorem lookup_drop1 (k j : Nat) : ∀ l : Row, (drop1 l k).lookup j = if j = k then none else l.lookup j
  | [] => by simp [drop1]
  | (a, b) :: l => by
    have ih := lookup_drop1 k j l
    unfold drop1 at ih ⊢
    rw [List.filter_cons]
    by_cases d : a = k
    · subst d
      rw [if_neg (by simp), ih]
      by_cases c : j = a
      · subst c; simp
      · have : (j == a) = false := by simpa using c
        rw [if_neg c, if_neg c, List.lookup_cons, this]
    · rw [if_pos (by simpa using d), List.lookup_cons, List.lookup_cons, ih]
      by_cases c : j = a
      · subst c; simp [d]
      · have : (j == a) = false := by simpa using c
        rw [this]
theorem nodup_drop1 {l : Row} {k : Nat} (h : (l.map (·.1)).Nodup) : ((drop1 l k).map (·.1)).Nodup :=
  h.sublist (List.Sublist.map _ List.filter_sublist)
theorem getD_modify (ch : Chosen) (i q : Nat) (f : Row → Row) (hi : i < ch.length) : (ch.modify i f).getD q [] = if q = i then f (ch.getD i []) else ch.getD q [] := by
  rw [List.getD_eq_getElem?_getD, List.getD_eq_getElem?_getD, List.getElem?_modify]
  by_cases c : q = i
  · subst c
    simp [List.getElem?_eq_getElem hi]
  · rw [if_neg c]
    have c' : ¬ i = q := fun z => c z.symm
    simp [c']
theorem getD_modify_out (ch : Chosen) (i q : Nat) (f : Row → Row) (hi : ¬ i < ch.length) : (ch.modify i f).getD q [] = ch.getD q [] := by
  have : ch.modify i f = ch := by
    apply List.ext_getElem?
    intro j
    rw [List.getElem?_modify]
    by_cases c : i = j
    · subst c
      rw [List.getElem?_eq_none (by omega)]
      simp
    · simp [c]
  rw [this]
/-! ## 3. the cluster, its nodes and arcs -/
structure Inst where
  racks : List Nat
  rooms : List Nat
  W : List Nat
  rk : List Nat
namespace Inst
variable (I : Inst)
def n : Nat := I.racks.length
def m : Nat := I.W.length
def k : Nat := I.rk.length
def fg : Nat := I.m * (1 + I.k)
def fs : Nat := I.fg + I.n
def sink : Nat := I.fs + I.n
def rack (s : Nat) : Nat := I.racks.getD s 0
def room (s : Nat) : Nat := I.rooms.getD s 0
def wish (q : Nat) : Nat := I.W.getD q 0
structure Ok : Prop where
  nd : I.rk.Nodup
  mem : ∀ x, x ∈ I.rk ↔ x ∈ I.racks
  hr : I.rooms.length = I.racks.length
  hn : 0 < I.racks.length
end Inst
inductive Nd | pc (q : Nat) | pr (q r : Nat) | gt (s : Nat) | st (s : Nat) | sk
  deriving DecidableEq
open Nd
def enc (I : Inst) : Nd → Nat
  | pc q => q
  | pr q r => I.m + q * I.k + I.rk.idxOf r
  | gt s => I.fg + s
  | st s => I.fs + s
  | sk => I.sink
def Val (I : Inst) : Nd → Prop
  | pc q => q < I.m
  | pr q r => q < I.m ∧ r ∈ I.rk
  | gt s => s < I.n
  | st s => s < I.n
  | sk => True
def isPair (I : Inst) (x : Nat) : Bool := decide (I.m ≤ x ∧ x < I.fg)
def isEntry (I : Inst) (x : Nat) : Bool := decide (I.fg ≤ x ∧ x < I.sink)
def pOf (I : Inst) (x : Nat) : Nat := (x - I.m) / I.k
def rOf (I : Inst) (x : Nat) : Nat := I.rk.getD ((x - I.m) % I.k) 0
def dec (I : Inst) (x : Nat) : Nd :=
  if x < I.m then pc x else if x < I.fg then pr (pOf I x) (rOf I x) else if x < I.fs then gt (x - I.fg) else if x < I.sink then st (x - I.fs) else sk
theorem idx_lt {I : Inst} {r : Nat} (h : r ∈ I.rk) : I.rk.idxOf r < I.k := List.idxOf_lt_length_of_mem h
theorem pr_lt {I : Inst} {q r : Nat} (hq : q < I.m) (hr : r ∈ I.rk) : I.m + q * I.k + I.rk.idxOf r < I.fg := by
  have h1 := idx_lt hr
  have h2 : (q + 1) * I.k ≤ I.m * I.k := Nat.mul_le_mul_right _ hq
  rw [Nat.succ_mul] at h2
  unfold Inst.fg
  rw [Nat.mul_add, Nat.mul_one]
  omega
theorem pOf_pr {I : Inst} {q r : Nat} (hr : r ∈ I.rk) : pOf I (I.m + q * I.k + I.rk.idxOf r) = q := by
  have h1 := idx_lt hr
  unfold pOf
  rw [Nat.add_assoc, Nat.add_sub_cancel_left, Nat.add_comm, Nat.add_mul_div_right _ _ (by omega), Nat.div_eq_of_lt h1, Nat.zero_add]
theorem rOf_pr {I : Inst} {q r : Nat} (hr : r ∈ I.rk) : rOf I (I.m + q * I.k + I.rk.idxOf r) = r := by
  have h1 := idx_lt hr
  unfold rOf
  rw [Nat.add_assoc, Nat.add_sub_cancel_left, Nat.add_comm, Nat.add_mul_mod_self_right, Nat.mod_eq_of_lt h1, List.getD_eq_getElem?_getD]
  have h2 : I.rk.idxOf r < I.rk.length := h1
  rw [List.getElem?_eq_getElem h2]
  simp
theorem m_le_fg (I : Inst) : I.m ≤ I.fg := by
  unfold Inst.fg
  rw [Nat.mul_add, Nat.mul_one]
  omega
theorem dec_enc {I : Inst} {v : Nd} (h : Val I v) : dec I (enc I v) = v := by
  have hm := m_le_fg I
  cases v with
  | pc q =>
    have h : q < I.m := h
    exact if_pos h
  | pr q r =>
    obtain ⟨hq, hr⟩ : q < I.m ∧ r ∈ I.rk := h
    have h1 := pr_lt hq hr
    unfold dec enc
    simp only
    rw [if_neg (by omega), if_pos h1, pOf_pr hr, rOf_pr hr]
  | gt s =>
    have h : s < I.n := h
    unfold dec enc
    simp only
    rw [if_neg (by omega), if_neg (by omega), if_pos (by unfold Inst.fs; omega), Nat.add_sub_cancel_left]
  | st s =>
    have h : s < I.n := h
    unfold dec enc
    simp only
    have : I.fs = I.fg + I.n := rfl
    rw [if_neg (by omega), if_neg (by omega), if_neg (by omega), if_pos (by unfold Inst.sink; omega), Nat.add_sub_cancel_left]
  | sk =>
    unfold dec enc
    simp only
    have : I.fs = I.fg + I.n := rfl
    have : I.sink = I.fs + I.n := rfl
    rw [if_neg (by omega), if_neg (by omega), if_neg (by omega), if_neg (by omega)]
theorem enc_inj {I : Inst} {v w : Nd} (hv : Val I v) (hw : Val I w) (e : enc I v = enc I w) : v = w := by
  rw [← dec_enc hv, ← dec_enc hw, e]
def phi (I : Inst) (x : Nat) : Int := if x < I.fg then 0 else 1
def loadOf (ch : Chosen) (s : Nat) : Nat := ch.flatten.countP fun e => decide (e.2 = s)
def arcsPiece (I : Inst) (ch : Chosen) (q : Nat) : List (Nd × Nd × Int) :=
  (I.rk.map fun r => if (look ch q r).isSome = true then (pr q r, pc q, 0) else (pc q, pr q r, 0)) ++
  ((List.range I.n).map fun s => if look ch q (I.rack s) = some s then (gt s, pr q (I.rack s), -1) else (pr q (I.rack s), gt s, 1))
def arcsStore (I : Inst) (ch : Chosen) (s : Nat) : List (Nd × Nd × Int) :=
  (if loadOf ch s < I.m + 1 then [(gt s, st s, 0)] else []) ++ (if 0 < loadOf ch s then [(st s, gt s, 0)] else []) ++
  (if loadOf ch s < I.room s then [(st s, sk, 0)] else []) ++ (if 0 < loadOf ch s then [(sk, st s, 0)] else [])
def arcsN (I : Inst) (ch : Chosen) : List (Nd × Nd × Int) := (List.range I.m).flatMap (arcsPiece I ch) ++ (List.range I.n).flatMap (arcsStore I ch)
def encA (I : Inst) (a : Nd × Nd × Int) : Arc := (enc I a.1, enc I a.2.1, a.2.2)
def arcs (I : Inst) (ch : Chosen) : List Arc := (arcsN I ch).map (encA I)
/-- what an arc is -/
inductive IsArc (I : Inst) (ch : Chosen) : Nd → Nd → Prop
  | back {q r} (hq : q < I.m) (hr : r ∈ I.rk) (h : (look ch q r).isSome = true) : IsArc I ch (pr q r) (pc q)
  | out {q r} (hq : q < I.m) (hr : r ∈ I.rk) (h : look ch q r = none) : IsArc I ch (pc q) (pr q r)
  | take {q s} (hq : q < I.m) (hs : s < I.n) (h : look ch q (I.rack s) = some s) : IsArc I ch (gt s) (pr q (I.rack s))
  | give {q s} (hq : q < I.m) (hs : s < I.n) (h : look ch q (I.rack s) ≠ some s) : IsArc I ch (pr q (I.rack s)) (gt s)
  | down {s} (hs : s < I.n) (h : loadOf ch s < I.m + 1) : IsArc I ch (gt s) (st s)
  | up {s} (hs : s < I.n) (h : 0 < loadOf ch s) : IsArc I ch (st s) (gt s)
  | sink {s} (hs : s < I.n) (h : loadOf ch s < I.room s) : IsArc I ch (st s) sk
  | rise {s} (hs : s < I.n) (h : 0 < loadOf ch s) : IsArc I ch sk (st s)
theorem rack_mem {I : Inst} (ok : I.Ok) {s : Nat} (hs : s < I.n) : I.rack s ∈ I.rk := by
  rw [ok.mem]
  unfold Inst.rack
  rw [List.getD_eq_getElem?_getD, List.getElem?_eq_getElem hs]
  exact List.getElem_mem _
theorem isArc_of {I : Inst} {ch : Chosen} {a : Nd × Nd × Int} (h : a ∈ arcsN I ch) : IsArc I ch a.1 a.2.1 := by
  unfold arcsN at h
  rcases List.mem_append.mp h with h | h
  · obtain ⟨q, hq, h⟩ := List.mem_flatMap.mp h
    have hq := List.mem_range.mp hq
    unfold arcsPiece at h
    rcases List.mem_append.mp h with h | h
    · obtain ⟨r, hr, e⟩ := List.mem_map.mp h
      split at e
      · rename_i c
        subst e
        exact .back hq hr c
      · rename_i c
        subst e
        exact .out hq hr (by simpa using c)
    · obtain ⟨s, hs, e⟩ := List.mem_map.mp h
      have hs := List.mem_range.mp hs
      split at e
      · rename_i c
        subst e
        exact .take hq hs c
      · rename_i c
        subst e
        exact .give hq hs c
  · obtain ⟨s, hs, h⟩ := List.mem_flatMap.mp h
    have hs := List.mem_range.mp hs
    unfold arcsStore at h
    rcases List.mem_append.mp h with h | h
    · rcases List.mem_append.mp h with h | h
      · rcases List.mem_append.mp h with h | h
        · split at h
          · rename_i c
            simp at h; subst h; exact .down hs c
          · cases h
        · split at h
          · rename_i c
            simp at h; subst h; exact .up hs c
          · cases h
      · split at h
        · rename_i c
          simp at h; subst h; exact .sink hs c
        · cases h
    · split at h
      · rename_i c
        simp at h; subst h; exact .rise hs c
      · cases h
theorem of_isArc {I : Inst} {ch : Chosen} {u v : Nd} (h : IsArc I ch u v) : ∃ c, (u, v, c) ∈ arcsN I ch := by
  unfold arcsN
  cases h with
  | @back q r hq hr h =>
    refine ⟨0, List.mem_append_left _ (List.mem_flatMap.mpr ⟨q, List.mem_range.mpr hq, List.mem_append_left _ (List.mem_map.mpr ⟨r, hr, ?_⟩)⟩)⟩
    rw [if_pos h]
  | @out q r hq hr h =>
    refine ⟨0, List.mem_append_left _ (List.mem_flatMap.mpr ⟨q, List.mem_range.mpr hq, List.mem_append_left _ (List.mem_map.mpr ⟨r, hr, ?_⟩)⟩)⟩
    rw [if_neg (by rw [h]; simp)]
  | @take q s hq hs h =>
    refine ⟨-1, List.mem_append_left _ (List.mem_flatMap.mpr ⟨q, List.mem_range.mpr hq, List.mem_append_right _ (List.mem_map.mpr ⟨s, List.mem_range.mpr hs, ?_⟩)⟩)⟩
    rw [if_pos h]
  | @give q s hq hs h =>
    refine ⟨1, List.mem_append_left _ (List.mem_flatMap.mpr ⟨q, List.mem_range.mpr hq, List.mem_append_right _ (List.mem_map.mpr ⟨s, List.mem_range.mpr hs, ?_⟩)⟩)⟩
    rw [if_neg h]
  | @down s hs h =>
    refine ⟨0, List.mem_append_right _ (List.mem_flatMap.mpr ⟨s, List.mem_range.mpr hs, ?_⟩)⟩
    unfold arcsStore
    rw [if_pos h]
    simp
  | @up s hs h =>
    refine ⟨0, List.mem_append_right _ (List.mem_flatMap.mpr ⟨s, List.mem_range.mpr hs, ?_⟩)⟩
    unfold arcsStore
    simp [h]
  | @sink s hs h =>
    refine ⟨0, List.mem_append_right _ (List.mem_flatMap.mpr ⟨s, List.mem_range.mpr hs, ?_⟩)⟩
    unfold arcsStore
    simp [h]
  | @rise s hs h =>
    refine ⟨0, List.mem_append_right _ (List.mem_flatMap.mpr ⟨s, List.mem_range.mpr hs, ?_⟩)⟩
    unfold arcsStore
    simp [h]
theorem IsArc.val {I : Inst} (ok : I.Ok) {ch : Chosen} {u v : Nd} (h : IsArc I ch u v) : Val I u ∧ Val I v := by
  cases h with
  | back hq hr h => exact ⟨⟨hq, hr⟩, hq⟩
  | out hq hr h => exact ⟨hq, hq, hr⟩
  | take hq hs h => exact ⟨hs, hq, rack_mem ok hs⟩
  | give hq hs h => exact ⟨⟨hq, rack_mem ok hs⟩, hs⟩
  | down hs h => exact ⟨hs, hs⟩
  | up hs h => exact ⟨hs, hs⟩
  | sink hs h => exact ⟨hs, True.intro⟩
  | rise hs h => exact ⟨True.intro, hs⟩
theorem enc_le {I : Inst} {v : Nd} (h : Val I v) : enc I v < I.sink + 1 := by
  have hm := m_le_fg I
  have h1 : I.fs = I.fg + I.n := rfl
  have h2 : I.sink = I.fs + I.n := rfl
  cases v with
  | pc q => have h : q < I.m := h; show _ < _; simp only [enc]; omega
  | pr q r =>
    obtain ⟨hq, hr⟩ : q < I.m ∧ r ∈ I.rk := h
    have := pr_lt hq hr
    show _ < _; simp only [enc]; omega
  | gt s => have h : s < I.n := h; show _ < _; simp only [enc]; omega
  | st s => have h : s < I.n := h; show _ < _; simp only [enc]; omega
  | sk => show _ < _; simp only [enc]; omega
theorem arcs_lt {I : Inst} (ok : I.Ok) {ch : Chosen} : ∀ a ∈ arcs I ch, a.2.1 < I.sink + 1 := by
  intro a ha
  obtain ⟨b, hb, e⟩ := List.mem_map.mp ha
  subst e
  exact enc_le ((isArc_of hb).val ok).2
/-- the cost is a difference of heights -/
theorem arcs_phi {I : Inst} (ok : I.Ok) {ch : Chosen} : ∀ a ∈ arcs I ch, a.2.2 = phi I a.2.1 - phi I a.1 := by
  intro a ha
  obtain ⟨b, hb, e⟩ := List.mem_map.mp ha
  subst e
  have hm := m_le_fg I
  have h1 : I.fs = I.fg + I.n := rfl
  have h2 : I.sink = I.fs + I.n := rfl
  have lo : ∀ {x}, x < I.fg → phi I x = 0 := fun h => if_pos h
  have hi : ∀ {x}, I.fg ≤ x → phi I x = 1 := fun h => if_neg (by omega)
  unfold arcsN at hb
  rcases List.mem_append.mp hb with h | h
  · obtain ⟨q, hq, h⟩ := List.mem_flatMap.mp h
    have hq := List.mem_range.mp hq
    have lq : phi I (enc I (pc q)) = 0 := lo (show q < I.fg by omega)
    unfold arcsPiece at h
    rcases List.mem_append.mp h with h | h
    · obtain ⟨r, hr, e⟩ := List.mem_map.mp h
      have lr : phi I (enc I (pr q r)) = 0 := lo (pr_lt hq hr)
      split at e <;> subst e <;> simp only [encA, lq, lr] <;> rfl
    · obtain ⟨s, hs, e⟩ := List.mem_map.mp h
      have hs := List.mem_range.mp hs
      have lr : phi I (enc I (pr q (I.rack s))) = 0 := lo (pr_lt hq (rack_mem ok hs))
      have lg : phi I (enc I (gt s)) = 1 := hi (show I.fg ≤ I.fg + s by omega)
      split at e <;> subst e <;> simp only [encA, lr, lg] <;> rfl
  · obtain ⟨s, hs, h⟩ := List.mem_flatMap.mp h
    have hs := List.mem_range.mp hs
    have lg : phi I (enc I (gt s)) = 1 := hi (show I.fg ≤ I.fg + s by omega)
    have ls : phi I (enc I (st s)) = 1 := hi (show I.fg ≤ I.fs + s by omega)
    have lk : phi I (enc I sk) = 1 := hi (show I.fg ≤ I.sink by omega)
    unfold arcsStore at h
    rcases List.mem_append.mp h with h | h
    · rcases List.mem_append.mp h with h | h
      · rcases List.mem_append.mp h with h | h
        · split at h
          · simp at h; subst h; simp only [encA, lg, ls]; rfl
          · cases h
        · split at h
          · simp at h; subst h; simp only [encA, lg, ls]; rfl
          · cases h
      · split at h
        · simp at h; subst h; simp only [encA, ls, lk]; rfl
        · cases h
    · split at h
      · simp at h; subst h; simp only [encA, ls, lk]; rfl
      · cases h
end MW
namespace MW
open Nd
/-! ## 4. counting -/
def b2 (b : Bool) : Nat := if b then 1 else 0
theorem countP_upd {α : Type} [DecidableEq α] {p p' : α → Bool} {i : α} : ∀ {l : List α}, l.Nodup → i ∈ l → (∀ x ∈ l, x ≠ i → p' x = p x) → l.countP p' + b2 (p i) = l.countP p + b2 (p' i)
  | a :: l, hn, hi, h => by
    have hn' := List.nodup_cons.mp hn
    rw [List.countP_cons, List.countP_cons]
    by_cases c : i = a
    · subst c
      have e : l.countP p' = l.countP p := List.countP_congr fun x hx => by
        rw [h x (List.mem_cons_of_mem _ hx) fun z => hn'.1 (by rw [← z]; exact hx)]
      rw [e]
      unfold b2
      split <;> split <;> simp_all
    · have hi' : i ∈ l := by
        rcases List.mem_cons.mp hi with z | z
        · exact absurd z c
        · exact z
      have ih := countP_upd (p := p) (p' := p') (l := l) hn'.2 hi' fun x hx => h x (List.mem_cons_of_mem _ hx)
      have e : p' a = p a := h a List.mem_cons_self fun z => c z.symm
      rw [e]
      omega
abbrev Fl := Nat → Nat → Option Nat
def put (g : Fl) (q r : Nat) (v : Option Nat) : Fl := fun q' r' => if q' = q ∧ r' = r then v else g q' r'
def cnt (I : Inst) (g : Fl) (q : Nat) : Nat := I.rk.countP fun r => (g q r).isSome
def ld (I : Inst) (g : Fl) (s : Nat) : Nat := (List.range I.m).countP fun q => decide (g q (I.rack s) = some s)
theorem cnt_put {I : Inst} (ok : I.Ok) (g : Fl) {q r : Nat} (hr : r ∈ I.rk) (v : Option Nat) (q' : Nat) :
    cnt I (put g q r v) q' + (if q' = q then b2 (g q r).isSome else 0) = cnt I g q' + (if q' = q then b2 v.isSome else 0) := by
  by_cases c : q' = q
  · subst c
    rw [if_pos rfl, if_pos rfl]
    have h := countP_upd (p := fun r => (g q' r).isSome) (p' := fun r' => (put g q' r v q' r').isSome) (i := r) ok.nd hr fun x _ hx => by
      show (put g q' r v q' x).isSome = _
      unfold put
      rw [if_neg fun z => hx z.2]
    have e : (put g q' r v q' r) = v := if_pos ⟨rfl, rfl⟩
    rw [e] at h
    exact h
  · rw [if_neg c, if_neg c]
    have e : cnt I (put g q r v) q' = cnt I g q' := by
      unfold cnt
      apply List.countP_congr
      intro x _
      unfold put
      rw [if_neg fun z => c z.1]
    rw [e]
theorem ld_put {I : Inst} (g : Fl) {q r : Nat} (hq : q < I.m) (v : Option Nat) (t : Nat) :
    ld I (put g q r v) t + (if I.rack t = r then b2 (decide (g q r = some t)) else 0) = ld I g t + (if I.rack t = r then b2 (decide (v = some t)) else 0) := by
  by_cases c : I.rack t = r
  · rw [if_pos c, if_pos c]
    have h := countP_upd (p := fun q' => decide (g q' (I.rack t) = some t)) (p' := fun q' => decide (put g q r v q' (I.rack t) = some t)) (i := q) List.nodup_range (List.mem_range.mpr hq) fun x _ hx => by
      show decide (put g q r v x (I.rack t) = some t) = _
      unfold put
      rw [if_neg fun z => hx z.1]
    have e : (put g q r v q (I.rack t)) = v := if_pos ⟨rfl, c⟩
    rw [e, c] at h
    unfold ld
    rw [c]
    exact h
  · rw [if_neg c, if_neg c]
    have e : ld I (put g q r v) t = ld I g t := by
      unfold ld
      apply List.countP_congr
      intro x _
      unfold put
      rw [if_neg fun z => c z.2]
    rw [e]
/-! ## 5. what a way does -/
/-- the flow behind a way: a pair that is left for a gate gets its store, one that is left for its piece loses its store -/
def stOf : Nd → Option Nat
  | gt s => some s
  | _ => none
def after (g : Fl) : List Nd → Fl
  | [] => g
  | a :: rest => match a, rest with
    | pr q r, b :: _ => put (after g rest) q r (stOf b)
    | _, _ => after g rest
theorem after_pr (g : Fl) (q r : Nat) (b : Nd) (rest : List Nd) : after g (pr q r :: b :: rest) = put (after g (b :: rest)) q r (stOf b) := rfl
theorem after_pc (g : Fl) (q : Nat) (rest : List Nd) : after g (pc q :: rest) = after g rest := by cases rest <;> rfl
theorem after_gt (g : Fl) (s : Nat) (rest : List Nd) : after g (gt s :: rest) = after g rest := by cases rest <;> rfl
theorem after_st (g : Fl) (s : Nat) (rest : List Nd) : after g (st s :: rest) = after g rest := by cases rest <;> rfl
theorem after_sk (g : Fl) (rest : List Nd) : after g (sk :: rest) = after g rest := by cases rest <;> rfl
theorem after_pr1 (g : Fl) (q r : Nat) : after g [pr q r] = g := rfl
theorem put_comm (g : Fl) {q r q' r' : Nat} (h : ¬ (q' = q ∧ r' = r)) (v v' : Option Nat) : put (put g q r v) q' r' v' = put (put g q' r' v') q r v := by
  funext a b
  unfold put
  by_cases c : a = q ∧ b = r
  · by_cases d : a = q' ∧ b = r'
    · exact absurd ⟨d.1.symm.trans c.1, d.2.symm.trans c.2⟩ h
    · rw [if_neg d, if_pos c, if_pos c]
  · by_cases d : a = q' ∧ b = r'
    · rw [if_pos d, if_neg c, if_pos d]
    · rw [if_neg d, if_neg c, if_neg c, if_neg d]
theorem after_put (g : Fl) (q r : Nat) (v : Option Nat) : ∀ {L : List Nd}, pr q r ∉ L → after (put g q r v) L = put (after g L) q r v
  | [], _ => rfl
  | [pr q' r'], _ => by rw [after_pr1, after_pr1]
  | pr q' r' :: b :: rest, h => by
    have h1 : ¬ (q' = q ∧ r' = r) := fun z => h (by rw [z.1, z.2]; exact List.mem_cons_self)
    rw [after_pr, after_pr, after_put g q r v (L := b :: rest) fun z => h (List.mem_cons_of_mem _ z), put_comm _ h1]
  | pc _ :: rest, h => by rw [after_pc, after_pc]; exact after_put g q r v fun z => h (List.mem_cons_of_mem _ z)
  | gt _ :: rest, h => by rw [after_gt, after_gt]; exact after_put g q r v fun z => h (List.mem_cons_of_mem _ z)
  | st _ :: rest, h => by rw [after_st, after_st]; exact after_put g q r v fun z => h (List.mem_cons_of_mem _ z)
  | sk :: rest, h => by rw [after_sk, after_sk]; exact after_put g q r v fun z => h (List.mem_cons_of_mem _ z)
def Sound (I : Inst) (g : Fl) : Prop := ∀ q r s, g q r = some s → s < I.n ∧ I.rack s = r ∧ q < I.m
/-- the end of a way: a store with room -/
structure Done (I : Inst) (ch : Chosen) (g g' : Fl) : Prop where
  sound : Sound I g'
  cnt : ∀ q, cnt I g' q = cnt I g q
  ld : ∃ e, e < I.n ∧ loadOf ch e < I.room e ∧ ∀ t, t < I.n → ld I g' t = loadOf ch t + (if t = e then 1 else 0)
theorem sound_put {I : Inst} {g : Fl} (h : Sound I g) {q r : Nat} {v : Option Nat} (hv : ∀ s, v = some s → s < I.n ∧ I.rack s = r ∧ q < I.m) : Sound I (put g q r v) := by
  intro a b s e
  unfold put at e
  split at e
  · rename_i c
    rw [c.1, c.2]
    exact hv s e
  · exact h a b s e
theorem ch_tail {α : Type} {R : α → α → Prop} {a : α} {l : List α} (h : Ch R (a :: l)) : Ch R l := by
  cases l with
  | nil => exact True.intro
  | cons b l => exact h.2
/-- at a gate: one copy too many stands at s -/
theorem at_gate {I : Inst} (ok : I.Ok) {ch : Chosen} : ∀ (n : Nat) (L : List Nd) (s : Nat) (g : Fl), L.length ≤ n → (gt s :: L).Nodup → Ch (IsArc I ch) (gt s :: L) → (∃ r, gt s :: L = r ++ [sk]) →
    Sound I g → (∀ q r, pr q r ∈ L → g q r = look ch q r) → (∀ t, t < I.n → ld I g t = loadOf ch t + (if t = s then 1 else 0)) → Done I ch g (after g (gt s :: L))
  | n, [], s, g, _, _, _, ⟨r, e⟩, _, _, _ => by
    have := congrArg List.getLast? e
    simp at this
  | n, x :: L, s, g, hl, nd, hc, hlast, so, ag, hld => by
    have hx : IsArc I ch (gt s) x := hc.1
    have hc2 : Ch (IsArc I ch) (x :: L) := hc.2
    have nd2 := List.nodup_cons.mp nd
    have nd3 := List.nodup_cons.mp nd2.2
    generalize hg : gt s = G at hx
    cases hx with
    | back hq hr h => cases hg
    | out hq hr h => cases hg
    | give hq hs h => cases hg
    | up hs h => cases hg
    | sink hs h => cases hg
    | rise hs h => cases hg
    | @down s' hs h =>
      cases hg
      rw [after_gt, after_st]
      cases L with
      | nil =>
        obtain ⟨r, e⟩ := hlast
        have := congrArg List.getLast? e
        simp at this
      | cons y L =>
        have hy : IsArc I ch (st s) y := hc2.1
        generalize hg : st s = G at hy
        cases hy with
        | back hq hr h => cases hg
        | out hq hr h => cases hg
        | give hq hs h => cases hg
        | take hq hs h => cases hg
        | down hs h => cases hg
        | rise hs h => cases hg
        | up hs' h' =>
          cases hg
          exact absurd (List.mem_cons_of_mem _ List.mem_cons_self) nd2.1
        | @sink s' hs' h' =>
          cases hg
          cases L with
          | nil =>
            rw [after_sk]
            exact ⟨so, fun _ => rfl, s, hs', h', hld⟩
          | cons z L =>
            obtain ⟨r, e⟩ := hlast
            exfalso
            have hin : sk ∈ z :: L := by
              have := congrArg List.getLast? e
              rw [List.getLast?_append] at this
              simp at this
              exact List.mem_of_getLast? this
            exact (List.nodup_cons.mp nd3.2).1 hin
    | @take q s' hq hs h =>
      cases hg
      cases L with
      | nil =>
        obtain ⟨r, e⟩ := hlast
        have := congrArg List.getLast? e
        simp at this
      | cons y L =>
        have hy : IsArc I ch (pr q (I.rack s)) y := hc2.1
        have gs : g q (I.rack s) = some s := (ag q (I.rack s) List.mem_cons_self).trans h
        have rm := rack_mem ok hs
        have hlast' : ∃ r, y :: L = r ++ [sk] := by
          obtain ⟨r, e⟩ := hlast
          cases r with
          | nil => cases e
          | cons a r =>
            cases r with
            | nil => cases e
            | cons b r =>
              have e2 := (List.cons.inj (List.cons.inj e).2).2
              exact ⟨r, e2⟩
        generalize hg : pr q (I.rack s) = G at hy
        cases hy with
        | out hq hr h => cases hg
        | take hq hs h => cases hg
        | down hs h => cases hg
        | up hs h => cases hg
        | sink hs h => cases hg
        | rise hs h => cases hg
        | @give q' s' hq' hs' h' =>
          have e1 : q = q' := Nd.pr.inj hg |>.1
          have e2 : I.rack s = I.rack s' := Nd.pr.inj hg |>.2
          subst e1
          rw [after_gt, after_pr]
          simp only [stOf]
          rw [← e2, ← after_put g q (I.rack s) (some s') nd3.1]
          have so' : Sound I (put g q (I.rack s) (some s')) := sound_put so fun t e => by cases e; exact ⟨hs', e2.symm, hq⟩
          have D := at_gate ok n L s' (put g q (I.rack s) (some s')) (by simp at hl; omega) nd3.2 hc2.2 hlast' so' (fun a b hab => ?_) (fun t ht => ?_)
          · refine ⟨D.sound, fun a => ?_, D.ld⟩
            rw [D.cnt a]
            have := cnt_put ok g rm (some s') (q := q) a
            rw [gs] at this
            simpa using this
          · unfold put
            rw [if_neg fun z => nd3.1 (by rw [← z.1, ← z.2]; exact List.mem_cons_of_mem _ hab)]
            exact ag a b (List.mem_cons_of_mem _ (List.mem_cons_of_mem _ hab))
          · have h1 := ld_put g (r := I.rack s) hq (some s') t
            have h2 := hld t ht
            rw [gs] at h1
            by_cases c : I.rack t = I.rack s
            · rw [if_pos c, if_pos c] at h1
              unfold b2 at h1
              by_cases c1 : t = s
              · by_cases c2 : t = s'
                · subst c1; subst c2; simp at h1 h2 ⊢; omega
                · subst c1
                  have : ¬ s' = t := fun z => c2 z.symm
                  simp [this, c2] at h1 h2 ⊢; omega
              · have c1' : ¬ s = t := fun z => c1 z.symm
                by_cases c2 : t = s'
                · subst c2; simp [c1', c1] at h1 h2 ⊢; omega
                · have : ¬ s' = t := fun z => c2 z.symm
                  simp [this, c2, c1, c1'] at h1 h2 ⊢; omega
            · rw [if_neg c, if_neg c] at h1
              have c1 : ¬ t = s := fun z => c (by rw [z])
              have c2 : ¬ t = s' := fun z => c (by rw [z, ← e2])
              simp [c1, c2] at h2 ⊢
              omega
        | @back q' r' hq' hr' h' =>
          have e1 : q = q' := Nd.pr.inj hg |>.1
          have e2 : I.rack s = r' := Nd.pr.inj hg |>.2
          subst e1
          subst e2
          clear hg
          cases L with
          | nil =>
            obtain ⟨r, e⟩ := hlast'
            have := congrArg List.getLast? e
            simp at this
          | cons z L =>
            have hz : IsArc I ch (pc q) z := hc2.2.1
            have nd4 := List.nodup_cons.mp nd3.2
            have nd5 := List.nodup_cons.mp nd4.2
            generalize hg : pc q = G at hz
            cases hz with
            | back hq hr h => cases hg
            | take hq hs h => cases hg
            | give hq hs h => cases hg
            | down hs h => cases hg
            | up hs h => cases hg
            | sink hs h => cases hg
            | rise hs h => cases hg
            | @out q' r1 hq1 hr1 h1 =>
              have e1 : q = q' := Nd.pc.inj hg
              subst e1
              clear hg
              cases L with
              | nil =>
                obtain ⟨r, e⟩ := hlast'
                have := congrArg List.getLast? e
                simp at this
              | cons y2 L =>
                have hy2 : IsArc I ch (pr q r1) y2 := hc2.2.2.1
                generalize hg : pr q r1 = G at hy2
                cases hy2 with
                | out hq hr h => cases hg
                | take hq hs h => cases hg
                | down hs h => cases hg
                | up hs h => cases hg
                | sink hs h => cases hg
                | rise hs h => cases hg
                | @back q' r' hq' hr' h' =>
                  have e1 : q = q' := Nd.pr.inj hg |>.1
                  subst e1
                  exact absurd (List.mem_cons_of_mem _ List.mem_cons_self) nd4.1
                | @give q' s2 hq2 hs2 h2 =>
                  have e1 : q = q' := Nd.pr.inj hg |>.1
                  have e3 : r1 = I.rack s2 := Nd.pr.inj hg |>.2
                  subst e1
                  clear hg
                  have rne : ¬ (I.rack s = r1) := fun z => nd3.1 (by rw [z]; exact List.mem_cons_of_mem _ List.mem_cons_self)
                  rw [after_gt, after_pr, after_pc, after_pr]
                  simp only [stOf]
                  rw [← e3]
                  have n1 : pr q r1 ∉ gt s2 :: L := nd5.1
                  have n2 : pr q (I.rack s) ∉ gt s2 :: L := fun z => nd3.1 (List.mem_cons_of_mem _ (List.mem_cons_of_mem _ z))
                  rw [← after_put g q r1 (some s2) n1, ← after_put _ q (I.rack s) none n2]
                  have so' : Sound I (put (put g q r1 (some s2)) q (I.rack s) none) := sound_put (sound_put so fun t e => by cases e; exact ⟨hs2, e3.symm, hq⟩) fun t e => by cases e
                  have hlast'' : ∃ r, gt s2 :: L = r ++ [sk] := by
                    obtain ⟨r, e⟩ := hlast'
                    cases r with
                    | nil => cases e
                    | cons a r =>
                      cases r with
                      | nil => cases e
                      | cons b r =>
                        have e2 := (List.cons.inj (List.cons.inj e).2).2
                        exact ⟨r, e2⟩
                  have gr1 : g q r1 = none := (ag q r1 (List.mem_cons_of_mem _ (List.mem_cons_of_mem _ List.mem_cons_self))).trans h1
                  have gs' : put g q r1 (some s2) q (I.rack s) = some s := by
                    unfold put
                    rw [if_neg fun z => rne z.2]
                    exact gs
                  have D := at_gate ok n L s2 _ (by simp at hl; omega) nd5.2 hc2.2.2.2 hlast'' so' (fun a b hab => ?_) (fun t ht => ?_)
                  · refine ⟨D.sound, fun a => ?_, D.ld⟩
                    rw [D.cnt a]
                    have k1 := cnt_put ok (put g q r1 (some s2)) rm none (q := q) a
                    have k2 := cnt_put ok g hr1 (some s2) (q := q) a
                    rw [gs'] at k1
                    rw [gr1] at k2
                    by_cases c : a = q
                    · simp [c, b2] at k1 k2 ⊢; omega
                    · simp [c] at k1 k2 ⊢; omega
                  · have m1 : ¬ (a = q ∧ b = I.rack s) := fun z => n2 (by rw [← z.1, ← z.2]; exact List.mem_cons_of_mem _ hab)
                    have m2 : ¬ (a = q ∧ b = r1) := fun z => n1 (by rw [← z.1, ← z.2]; exact List.mem_cons_of_mem _ hab)
                    unfold put
                    rw [if_neg m1, if_neg m2]
                    exact ag a b (List.mem_cons_of_mem _ (List.mem_cons_of_mem _ (List.mem_cons_of_mem _ (List.mem_cons_of_mem _ hab))))
                  · have k1 := ld_put (put g q r1 (some s2)) (r := I.rack s) hq none t
                    have k2 := ld_put g (r := r1) hq (some s2) t
                    have k3 := hld t ht
                    rw [gs'] at k1
                    rw [gr1] at k2
                    unfold b2 at k1 k2
                    by_cases c1 : t = s
                    · subst c1
                      have c2 : ¬ t = s2 := fun z => rne (by rw [z, ← e3])
                      simp [rne, c2] at k1 k2 k3 ⊢; omega
                    · have c1' : ¬ s = t := fun z => c1 z.symm
                      by_cases c2 : t = s2
                      · subst c2
                        have e4 : I.rack t = r1 := e3.symm
                        have t5 : ¬ r1 = I.rack s := fun z => rne z.symm
                        simp [c1, c1', e4, t5] at k1 k2 k3 ⊢; omega
                      · have c2' : ¬ s2 = t := fun z => c2 z.symm
                        simp [c1, c2, c1', c2'] at k1 k2 k3 ⊢; omega
/-- the whole way, from a piece -/
theorem way_does {I : Inst} (ok : I.Ok) {ch : Chosen} {p : Nat} {L : List Nd} (nd : (pc p :: L).Nodup) (hc : Ch (IsArc I ch) (pc p :: L)) (hlast : ∃ r, pc p :: L = r ++ [sk])
    (so : Sound I (look ch)) (hld : ∀ t, t < I.n → ld I (look ch) t = loadOf ch t) :
    Sound I (after (look ch) (pc p :: L)) ∧ (∀ q, cnt I (after (look ch) (pc p :: L)) q = cnt I (look ch) q + (if q = p then 1 else 0)) ∧
    ∃ e, e < I.n ∧ loadOf ch e < I.room e ∧ ∀ t, t < I.n → ld I (after (look ch) (pc p :: L)) t = loadOf ch t + (if t = e then 1 else 0) := by
  cases L with
  | nil =>
    obtain ⟨r, e⟩ := hlast
    have := congrArg List.getLast? e
    simp at this
  | cons x L =>
    have hx : IsArc I ch (pc p) x := hc.1
    have nd2 := List.nodup_cons.mp nd
    have nd3 := List.nodup_cons.mp nd2.2
    generalize hg : pc p = G at hx
    cases hx with
    | back hq hr h => cases hg
    | take hq hs h => cases hg
    | give hq hs h => cases hg
    | down hs h => cases hg
    | up hs h => cases hg
    | sink hs h => cases hg
    | rise hs h => cases hg
    | @out q' r1 hq1 hr1 h1 =>
      have e1 : p = q' := Nd.pc.inj hg
      subst e1
      clear hg
      cases L with
      | nil =>
        obtain ⟨r, e⟩ := hlast
        have := congrArg List.getLast? e
        simp at this
      | cons y2 L =>
        have hy2 : IsArc I ch (pr p r1) y2 := hc.2.1
        generalize hg : pr p r1 = G at hy2
        cases hy2 with
        | out hq hr h => cases hg
        | take hq hs h => cases hg
        | down hs h => cases hg
        | up hs h => cases hg
        | sink hs h => cases hg
        | rise hs h => cases hg
        | @back q' r' hq' hr' h' =>
          have e1 : p = q' := Nd.pr.inj hg |>.1
          subst e1
          exact absurd (List.mem_cons_of_mem _ List.mem_cons_self) nd2.1
        | @give q' s2 hq2 hs2 h2 =>
          have e1 : p = q' := Nd.pr.inj hg |>.1
          have e3 : r1 = I.rack s2 := Nd.pr.inj hg |>.2
          subst e1
          clear hg
          rw [after_pc, after_pr]
          simp only [stOf]
          rw [← e3, ← after_put _ p r1 (some s2) nd3.1]
          have so' : Sound I (put (look ch) p r1 (some s2)) := sound_put so fun t e => by cases e; exact ⟨hs2, e3.symm, hq1⟩
          have hlast' : ∃ r, gt s2 :: L = r ++ [sk] := by
            obtain ⟨r, e⟩ := hlast
            cases r with
            | nil => cases e
            | cons a r =>
              cases r with
              | nil => cases e
              | cons b r =>
                have e2 := (List.cons.inj (List.cons.inj e).2).2
                exact ⟨r, e2⟩
          have D := at_gate ok L.length L s2 _ (Nat.le_refl _) nd3.2 hc.2.2 hlast' so' (fun a b hab => ?_) (fun t ht => ?_)
          · refine ⟨D.sound, fun a => ?_, D.ld⟩
            rw [D.cnt a]
            have k2 := cnt_put ok (look ch) hr1 (some s2) (q := p) a
            rw [h1] at k2
            simpa [b2] using k2
          · unfold put
            rw [if_neg fun z => nd3.1 (by rw [← z.1, ← z.2]; exact List.mem_cons_of_mem _ hab)]
          · have k2 := ld_put (look ch) (r := r1) hq1 (some s2) t
            have k3 := hld t ht
            rw [h1] at k2
            unfold b2 at k2
            by_cases c2 : t = s2
            · subst c2
              simp [← e3] at k2 ⊢; omega
            · have c2' : ¬ s2 = t := fun z => c2 z.symm
              simp [c2, c2'] at k2 ⊢; omega
end MW
namespace MW
open Nd
/-! ## 6. go: the dicts behind a way -/
def stepsR {α : Type} : List α → List (α × α)
  | a :: b :: r => (a, b) :: stepsR (b :: r)
  | _ => []
theorem stepsR_zip {α : Type} : ∀ l : List α, stepsR l = l.zip (l.drop 1)
  | [] => rfl
  | [_] => rfl
  | a :: b :: r => by
    rw [stepsR, stepsR_zip (b :: r)]
    rfl
theorem stepsR_map {α β : Type} (f : α → β) : ∀ l : List α, stepsR (l.map f) = (stepsR l).map fun e => (f e.1, f e.2)
  | [] => rfl
  | [_] => rfl
  | a :: b :: r => by
    show (f a, f b) :: stepsR ((b :: r).map f) = _
    rw [stepsR_map f (b :: r)]
    rfl
theorem mem_stepsR {α : Type} {a b : α} : ∀ {l : List α}, (a, b) ∈ stepsR l → ∃ l1 l2, l = l1 ++ a :: b :: l2
  | [], h => by cases h
  | [_], h => by cases h
  | x :: y :: r, h => by
    rcases List.mem_cons.mp h with e | h
    · cases e
      exact ⟨[], r, rfl⟩
    · obtain ⟨l1, l2, e⟩ := mem_stepsR h
      exact ⟨x :: l1, l2, by rw [e]; rfl⟩
theorem stepsR_of {α : Type} {a b : α} : ∀ (l1 l2 : List α), (a, b) ∈ stepsR (l1 ++ a :: b :: l2)
  | [], l2 => List.mem_cons_self
  | [x], l2 => List.mem_cons_of_mem _ List.mem_cons_self
  | x :: y :: l1, l2 => List.mem_cons_of_mem _ (stepsR_of (y :: l1) l2)
theorem stepsR_fst {α : Type} : ∀ {l : List α}, ((stepsR l).map (·.1)).Sublist l
  | [] => .slnil
  | [_] => List.nil_sublist _
  | a :: b :: r => by
    show (a :: (stepsR (b :: r)).map (·.1)).Sublist _
    exact .cons₂ _ stepsR_fst
theorem stepsR_snd {α : Type} : ∀ (l : List α), (stepsR l).map (·.2) = l.tail
  | [] => rfl
  | [_] => rfl
  | a :: b :: r => by
    show b :: (stepsR (b :: r)).map (·.2) = b :: r
    rw [stepsR_snd (b :: r)]
    rfl
theorem nodup_fst {α : Type} {a b c : α} : ∀ {S : List (α × α)}, (S.map (·.1)).Nodup → (a, b) ∈ S → (a, c) ∈ S → b = c
  | x :: S, hn, h1, h2 => by
    have hn' := List.nodup_cons.mp hn
    rcases List.mem_cons.mp h1 with e1 | h1 <;> rcases List.mem_cons.mp h2 with e2 | h2
    · rw [← e1] at e2
      exact (Prod.mk.inj e2).2.symm
    · exact absurd (List.mem_map.mpr ⟨_, h2, by rw [← e1]⟩) hn'.1
    · exact absurd (List.mem_map.mpr ⟨_, h1, by rw [← e2]⟩) hn'.1
    · exact nodup_fst hn'.2 h1 h2
def popStep (I : Inst) (ch : Chosen) (e : Nat × Nat) : Chosen :=
  if (isEntry I e.1 && isPair I e.2) = true then ch.modify (pOf I e.2) fun l => drop1 l (rOf I e.2) else ch
def setStep (I : Inst) (ch : Chosen) (e : Nat × Nat) : Chosen :=
  if (isPair I e.1 && isEntry I e.2) = true then ch.modify (pOf I e.1) fun l => put1 l (rOf I e.1) ((e.2 - I.fg) % I.n) else ch
def go (I : Inst) (ch : Chosen) (way : List Nat) : Chosen := (stepsR way).foldl (setStep I) ((stepsR way).foldl (popStep I) ch)
def isE : Nd → Bool
  | gt _ => true
  | st _ => true
  | _ => false
def isP : Nd → Bool
  | pr _ _ => true
  | _ => false
def stE : Nd → Option Nat
  | gt s => some s
  | st s => some s
  | _ => none
theorem entry_enc {I : Inst} {v : Nd} (h : Val I v) : isEntry I (enc I v) = isE v := by
  have hm := m_le_fg I
  have h1 : I.fs = I.fg + I.n := rfl
  have h2 : I.sink = I.fs + I.n := rfl
  unfold isEntry
  cases v with
  | pc q => have h : q < I.m := h; exact decide_eq_false (by simp only [enc]; omega)
  | pr q r =>
    obtain ⟨hq, hr⟩ : q < I.m ∧ r ∈ I.rk := h
    have := pr_lt hq hr
    exact decide_eq_false (by simp only [enc]; omega)
  | gt s => have h : s < I.n := h; exact decide_eq_true (by simp only [enc]; omega)
  | st s => have h : s < I.n := h; exact decide_eq_true (by simp only [enc]; omega)
  | sk => exact decide_eq_false (by simp only [enc]; omega)
theorem pair_enc {I : Inst} {v : Nd} (h : Val I v) : isPair I (enc I v) = isP v := by
  have hm := m_le_fg I
  have h1 : I.fs = I.fg + I.n := rfl
  have h2 : I.sink = I.fs + I.n := rfl
  unfold isPair
  cases v with
  | pc q => have h : q < I.m := h; exact decide_eq_false (by simp only [enc]; omega)
  | pr q r =>
    obtain ⟨hq, hr⟩ : q < I.m ∧ r ∈ I.rk := h
    have := pr_lt hq hr
    exact decide_eq_true (by simp only [enc]; omega)
  | gt s => have h : s < I.n := h; exact decide_eq_false (by simp only [enc]; omega)
  | st s => have h : s < I.n := h; exact decide_eq_false (by simp only [enc]; omega)
  | sk => exact decide_eq_false (by simp only [enc]; omega)
theorem look_modify (ch : Chosen) {i : Nat} (f : Row → Row) (hi : i < ch.length) (q r : Nat) : look (ch.modify i f) q r = if q = i then (f (ch.getD i [])).lookup r else look ch q r := by
  unfold look
  rw [getD_modify ch i q f hi]
  split <;> rfl
def popN (g : Fl) (e : Nd × Nd) : Fl := fun q r => if isE e.1 = true ∧ e.2 = pr q r then none else g q r
def setN (g : Fl) (e : Nd × Nd) : Fl := fun q r => if e.1 = pr q r ∧ isE e.2 = true then stE e.2 else g q r
theorem look_pop {I : Inst} {ch : Chosen} {a b : Nd} (hl : ch.length = I.m) (ha : Val I a) (hb : Val I b) : look (popStep I ch (enc I a, enc I b)) = popN (look ch) (a, b) ∧ (popStep I ch (enc I a, enc I b)).length = I.m := by
  unfold popStep
  rw [entry_enc ha, pair_enc hb]
  by_cases c : (isE a && isP b) = true
  · rw [if_pos c]
    rw [Bool.and_eq_true] at c
    cases b with
    | pr q' r' =>
      obtain ⟨hq, hr⟩ : q' < I.m ∧ r' ∈ I.rk := hb
      refine ⟨?_, by rw [List.length_modify]; exact hl⟩
      funext q r
      show look (ch.modify (pOf I (I.m + q' * I.k + I.rk.idxOf r')) fun l => drop1 l (rOf I (I.m + q' * I.k + I.rk.idxOf r'))) q r = _
      rw [pOf_pr hr, rOf_pr hr, look_modify ch _ (by omega), lookup_drop1]
      unfold popN
      simp only [c.1, true_and, Nd.pr.injEq]
      by_cases c1 : q = q'
      · subst c1
        by_cases c2 : r = r'
        · subst c2; simp
        · have : ¬ r' = r := fun z => c2 z.symm
          simp [c2, this]; rfl
      · have : ¬ q' = q := fun z => c1 z.symm
        simp [c1, this]
    | pc _ => simp [isP] at c
    | gt _ => simp [isP] at c
    | st _ => simp [isP] at c
    | sk => simp [isP] at c
  · rw [if_neg c]
    refine ⟨?_, hl⟩
    funext q r
    unfold popN
    rw [if_neg]
    rintro ⟨c1, c2⟩
    have c2 : b = pr q r := c2
    subst c2
    exact c (by rw [Bool.and_eq_true]; exact ⟨c1, rfl⟩)
theorem look_set {I : Inst} {ch : Chosen} {a b : Nd} (hl : ch.length = I.m) (ha : Val I a) (hb : Val I b) : look (setStep I ch (enc I a, enc I b)) = setN (look ch) (a, b) ∧ (setStep I ch (enc I a, enc I b)).length = I.m := by
  unfold setStep
  rw [entry_enc hb, pair_enc ha]
  by_cases c : (isP a && isE b) = true
  · rw [if_pos c]
    rw [Bool.and_eq_true] at c
    cases a with
    | pr q' r' =>
      obtain ⟨hq, hr⟩ : q' < I.m ∧ r' ∈ I.rk := ha
      refine ⟨?_, by rw [List.length_modify]; exact hl⟩
      have hs : stE b = some ((enc I b - I.fg) % I.n) := by
        cases b with
        | gt s =>
          have h : s < I.n := hb
          simp only [enc, stE, Nat.add_sub_cancel_left, Nat.mod_eq_of_lt h]
        | st s =>
          have h : s < I.n := hb
          have e : I.fs + s - I.fg = s + I.n := by have : I.fs = I.fg + I.n := rfl; omega
          simp only [enc, stE, e, Nat.add_mod_right, Nat.mod_eq_of_lt h]
        | pr _ _ => simp [isE] at c
        | pc _ => simp [isE] at c
        | sk => simp [isE] at c
      funext q r
      show look (ch.modify (pOf I (I.m + q' * I.k + I.rk.idxOf r')) fun l => put1 l (rOf I (I.m + q' * I.k + I.rk.idxOf r')) ((enc I b - I.fg) % I.n)) q r = _
      rw [pOf_pr hr, rOf_pr hr, look_modify ch _ (by omega), lookup_put1]
      unfold setN
      simp only [c.2, and_true, Nd.pr.injEq]
      by_cases c1 : q = q'
      · subst c1
        by_cases c2 : r = r'
        · subst c2; simp [hs]
        · have : ¬ r' = r := fun z => c2 z.symm
          simp [c2, this]; rfl
      · have : ¬ q' = q := fun z => c1 z.symm
        simp [c1, this]
    | pc _ => simp [isP] at c
    | gt _ => simp [isP] at c
    | st _ => simp [isP] at c
    | sk => simp [isP] at c
  · rw [if_neg c]
    refine ⟨?_, hl⟩
    funext q r
    unfold setN
    rw [if_neg]
    rintro ⟨c1, c2⟩
    have c1 : a = pr q r := c1
    subst c1
    exact c (by rw [Bool.and_eq_true]; exact ⟨rfl, c2⟩)
def enc2 (I : Inst) (e : Nd × Nd) : Nat × Nat := (enc I e.1, enc I e.2)
theorem look_pops {I : Inst} : ∀ {S : List (Nd × Nd)} {ch : Chosen}, ch.length = I.m → (∀ e ∈ S, Val I e.1 ∧ Val I e.2) → look ((S.map (enc2 I)).foldl (popStep I) ch) = S.foldl popN (look ch) ∧ ((S.map (enc2 I)).foldl (popStep I) ch).length = I.m
  | [], _, hl, _ => ⟨rfl, hl⟩
  | e :: S, ch, hl, hv => by
    obtain ⟨h1, h2⟩ := look_pop hl (hv e List.mem_cons_self).1 (hv e List.mem_cons_self).2
    obtain ⟨h3, h4⟩ := look_pops (S := S) h2 fun x hx => hv x (List.mem_cons_of_mem _ hx)
    rw [List.map_cons, List.foldl_cons, List.foldl_cons]
    refine ⟨?_, h4⟩
    show look ((S.map (enc2 I)).foldl (popStep I) (popStep I ch (enc I e.1, enc I e.2))) = _
    rw [h3, h1]
theorem look_sets {I : Inst} : ∀ {S : List (Nd × Nd)} {ch : Chosen}, ch.length = I.m → (∀ e ∈ S, Val I e.1 ∧ Val I e.2) → look ((S.map (enc2 I)).foldl (setStep I) ch) = S.foldl setN (look ch) ∧ ((S.map (enc2 I)).foldl (setStep I) ch).length = I.m
  | [], _, hl, _ => ⟨rfl, hl⟩
  | e :: S, ch, hl, hv => by
    obtain ⟨h1, h2⟩ := look_set hl (hv e List.mem_cons_self).1 (hv e List.mem_cons_self).2
    obtain ⟨h3, h4⟩ := look_sets (S := S) h2 fun x hx => hv x (List.mem_cons_of_mem _ hx)
    rw [List.map_cons, List.foldl_cons, List.foldl_cons]
    refine ⟨?_, h4⟩
    show look ((S.map (enc2 I)).foldl (setStep I) (setStep I ch (enc I e.1, enc I e.2))) = _
    rw [h3, h1]
theorem pops_off (q r : Nat) : ∀ (S : List (Nd × Nd)) (g : Fl), (∀ e ∈ S, ¬ (isE e.1 = true ∧ e.2 = pr q r)) → S.foldl popN g q r = g q r
  | [], _, _ => rfl
  | e :: S, g, h => by
    rw [List.foldl_cons, pops_off q r S _ fun x hx => h x (List.mem_cons_of_mem _ hx)]
    exact if_neg (h e List.mem_cons_self)
theorem pops_on (q r : Nat) : ∀ (S : List (Nd × Nd)) (g : Fl), (g q r = none ∨ ∃ e ∈ S, isE e.1 = true ∧ e.2 = pr q r) → S.foldl popN g q r = none
  | [], g, h => by
    rcases h with h | ⟨e, he, _⟩
    · exact h
    · cases he
  | e :: S, g, h => by
    rw [List.foldl_cons]
    apply pops_on q r S
    by_cases c : isE e.1 = true ∧ e.2 = pr q r
    · exact .inl (if_pos c)
    · rcases h with h | ⟨x, hx, hc⟩
      · exact .inl ((if_neg c).trans h)
      · rcases List.mem_cons.mp hx with rfl | hx
        · exact absurd hc c
        · exact .inr ⟨x, hx, hc⟩
theorem sets_off (q r : Nat) : ∀ (S : List (Nd × Nd)) (g : Fl), (∀ e ∈ S, ¬ (e.1 = pr q r ∧ isE e.2 = true)) → S.foldl setN g q r = g q r
  | [], _, _ => rfl
  | e :: S, g, h => by
    rw [List.foldl_cons, sets_off q r S _ fun x hx => h x (List.mem_cons_of_mem _ hx)]
    exact if_neg (h e List.mem_cons_self)
theorem sets_on (q r : Nat) (b : Nd) : ∀ (S : List (Nd × Nd)) (g : Fl), (∀ e ∈ S, e.1 = pr q r → e.2 = b) → isE b = true → (g q r = stE b ∨ ∃ e ∈ S, e.1 = pr q r) → S.foldl setN g q r = stE b
  | [], g, _, _, h => by
    rcases h with h | ⟨e, he, _⟩
    · exact h
    · cases he
  | e :: S, g, hu, hb, h => by
    rw [List.foldl_cons]
    apply sets_on q r b S _ (fun x hx => hu x (List.mem_cons_of_mem _ hx)) hb
    by_cases c : e.1 = pr q r
    · have e2 := hu e List.mem_cons_self c
      left
      unfold setN
      rw [e2, if_pos ⟨c, hb⟩]
    · rcases h with h | ⟨x, hx, hc⟩
      · exact .inl ((if_neg fun z => c z.1).trans h)
      · rcases List.mem_cons.mp hx with rfl | hx
        · exact absurd hc c
        · exact .inr ⟨x, hx, hc⟩
theorem after_ne {g : Fl} {q r : Nat} {a : Nd} (h : a ≠ pr q r) (L : List Nd) : after g (a :: L) q r = after g L q r := by
  cases a with
  | pr q' r' =>
    cases L with
    | nil => rfl
    | cons b L =>
      rw [after_pr]
      exact if_neg fun z => h (by rw [z.1, z.2])
  | pc _ => rw [after_pc]
  | gt _ => rw [after_gt]
  | st _ => rw [after_st]
  | sk => rw [after_sk]
theorem after_out {g : Fl} {q r : Nat} : ∀ {P : List Nd}, pr q r ∉ P → after g P q r = g q r
  | [], _ => rfl
  | a :: P, h => by
    rw [after_ne (fun z => h (by rw [z]; exact List.mem_cons_self))]
    exact after_out fun z => h (List.mem_cons_of_mem _ z)
theorem after_in {g : Fl} {q r : Nat} {b : Nd} {P2 : List Nd} : ∀ {P1 : List Nd}, pr q r ∉ P1 → after g (P1 ++ pr q r :: b :: P2) q r = stOf b
  | [], _ => by
    show after g (pr q r :: b :: P2) q r = _
    rw [after_pr]
    exact if_pos ⟨rfl, rfl⟩
  | a :: P1, h => by
    show after g (a :: (P1 ++ pr q r :: b :: P2)) q r = _
    rw [after_ne (fun z => h (by rw [z]; exact List.mem_cons_self))]
    exact after_in fun z => h (List.mem_cons_of_mem _ z)
theorem ch_mid {α : Type} {R : α → α → Prop} {a b : α} {l2 : List α} : ∀ {l1 : List α}, Ch R (l1 ++ a :: b :: l2) → R a b
  | [], h => h.1
  | _ :: l1, h => ch_mid (l1 := l1) (ch_tail h)
theorem split_at {α : Type} {x : α} : ∀ {l : List α}, x ∈ l → ∃ l1 l2, l = l1 ++ x :: l2
  | a :: l, h => by
    rcases List.mem_cons.mp h with rfl | h
    · exact ⟨[], l, rfl⟩
    · obtain ⟨l1, l2, e⟩ := split_at h
      exact ⟨a :: l1, l2, by rw [e]; rfl⟩
theorem snoc_of {α : Type} : ∀ {l : List α}, l ≠ [] → ∃ l1 a, l = l1 ++ [a]
  | [], h => absurd rfl h
  | [a], _ => ⟨[], a, rfl⟩
  | a :: b :: l, _ => by
    obtain ⟨l1, c, e⟩ := snoc_of (l := b :: l) (by simp)
    exact ⟨a :: l1, c, by rw [e]; rfl⟩
/-- pops, then sets, along a way: the flow behind it -/
theorem steps_after {I : Inst} {ch : Chosen} {p : Nat} {P : List Nd} (nd : P.Nodup) (hc : Ch (IsArc I ch) P) (hh : ∃ r, P = pc p :: r) (hl : ∃ r, P = r ++ [sk]) (g : Fl) :
    (stepsR P).foldl setN ((stepsR P).foldl popN g) = after g P := by
  funext q r
  have nf : ((stepsR P).map (·.1)).Nodup := nd.sublist stepsR_fst
  by_cases hx : pr q r ∈ P
  · obtain ⟨P1, P2, e⟩ := split_at hx
    cases P2 with
    | nil =>
      obtain ⟨r', e'⟩ := hl
      rw [e] at e'
      have := congrArg List.getLast? e'
      simp at this
    | cons b P2 =>
      have hxb : IsArc I ch (pr q r) b := by rw [e] at hc; exact ch_mid hc
      have hin : (pr q r, b) ∈ stepsR P := by rw [e]; exact stepsR_of P1 P2
      have huniq : ∀ x ∈ stepsR P, x.1 = pr q r → x.2 = b := fun x hx1 hx2 => by
        obtain ⟨x1, x2⟩ := x
        have hx2 : x1 = pr q r := hx2
        subst hx2
        exact nodup_fst nf hx1 hin
      have h1 : pr q r ∉ P1 := fun z => by
        rw [e] at nd
        exact (List.nodup_append.mp nd).2.2 _ z _ List.mem_cons_self rfl
      have ea : after g P q r = stOf b := by rw [e]; exact after_in h1
      rw [ea]
      generalize hg : pr q r = G at hxb
      cases hxb with
      | out hq hr h => cases hg
      | take hq hs h => cases hg
      | down hs h => cases hg
      | up hs h => cases hg
      | sink hs h => cases hg
      | rise hs h => cases hg
      | @give q' s hq hs h =>
        exact sets_on q r (gt s) _ _ huniq rfl (.inr ⟨_, hin, rfl⟩)
      | @back q' r' hq hr h =>
        have e1 : q = q' := Nd.pr.inj hg |>.1
        subst e1
        rw [sets_off q r _ _ fun x hx1 hx2 => by
          have := huniq x hx1 hx2.1
          rw [this] at hx2
          cases hx2.2]
        apply pops_on
        right
        have hP1 : P1 ≠ [] := fun z => by
          obtain ⟨r', e'⟩ := hh
          rw [e, z] at e'
          cases e'
        obtain ⟨P1', a, e2⟩ := snoc_of hP1
        have e3 : P = P1' ++ a :: pr q r :: pc q :: P2 := by rw [e, e2]; simp
        have hax : IsArc I ch a (pr q r) := by rw [e3] at hc; exact ch_mid hc
        refine ⟨(a, pr q r), by rw [e3]; exact stepsR_of P1' _, ?_, rfl⟩
        clear hg
        generalize hg : pr q r = G at hax
        cases hax with
        | back hq hr h => cases hg
        | give hq hs h => cases hg
        | down hs h => cases hg
        | up hs h => cases hg
        | sink hs h => cases hg
        | rise hs h => cases hg
        | take hq hs h => rfl
        | @out q' r1 hq hr h =>
          have e1 : q = q' := Nd.pr.inj hg |>.1
          subst e1
          exfalso
          rw [e3] at nd
          have nd2 := (List.nodup_append.mp nd).2.1
          exact (List.nodup_cons.mp nd2).1 (List.mem_cons_of_mem _ List.mem_cons_self)
  · rw [after_out hx, sets_off, pops_off]
    · intro e he hz
      obtain ⟨e1, e2⟩ := e
      obtain ⟨l1, l2, el⟩ := mem_stepsR he
      exact hx (by rw [el, ← show e2 = pr q r from hz.2]; simp)
    · intro e he hz
      obtain ⟨e1, e2⟩ := e
      obtain ⟨l1, l2, el⟩ := mem_stepsR he
      exact hx (by rw [el, ← show e1 = pr q r from hz.1]; simp)
/-- a way of numbers is a way of nodes -/
structure IsWay (I : Inst) (ch : Chosen) (p : Nat) (P : List Nd) : Prop where
  nd : P.Nodup
  ch : Ch (IsArc I ch) P
  hd : ∃ r, P = pc p :: r
  last : ∃ r, P = r ++ [sk]
  val : ∀ v ∈ P, Val I v
theorem ch_all {α : Type} {R : α → α → Prop} {S : α → Prop} (hR : ∀ a b, R a b → S b) : ∀ {l : List α} {a : α}, S a → Ch R (a :: l) → ∀ x ∈ a :: l, S x
  | [], a, ha, _, x, hx => by
    have : x = a := by simpa using hx
    rw [this]; exact ha
  | b :: l, a, ha, h, x, hx => by
    rcases List.mem_cons.mp hx with rfl | hx
    · exact ha
    · exact ch_all hR (l := l) (hR a b h.1) h.2 x hx
theorem ch_map {α β : Type} {R : α → α → Prop} {R' : β → β → Prop} (f : α → β) (h : ∀ a b, R a b → R' (f a) (f b)) : ∀ {l : List α}, Ch R l → Ch R' (l.map f)
  | [], _ => True.intro
  | [_], _ => True.intro
  | a :: b :: l, hc => ⟨h a b hc.1, ch_map f h (l := b :: l) hc.2⟩
theorem way_nodes {I : Inst} (ok : I.Ok) {ch : Chosen} {p : Nat} {l : List Nat} (hp : p < I.m) (h : wayOf p (arcs I ch) (I.sink + 1) I.sink = some l) :
    ∃ P, l = P.map (enc I) ∧ IsWay I ch p P := by
  have hp' : p < I.sink + 1 := enc_le (v := pc p) hp
  obtain ⟨nd, hc, ⟨r, hr⟩, ⟨r2, hr2⟩⟩ := way_some hp' (arcs_lt ok) h
  have hv : ∀ x ∈ l, ∃ v, Val I v ∧ enc I v = x := by
    rw [hr] at hc ⊢
    refine ch_all (R := fun a b => ∃ c, (a, b, c) ∈ arcs I ch) (S := fun x => ∃ v, Val I v ∧ enc I v = x) ?_ ⟨pc p, hp, rfl⟩ hc
    rintro a b ⟨c, hab⟩
    obtain ⟨e, he, e2⟩ := List.mem_map.mp hab
    have := congrArg (fun z : Arc => z.2.1) e2
    exact ⟨e.2.1, ((isArc_of he).val ok).2, this⟩
  have hmap : l = (l.map (dec I)).map (enc I) := by
    rw [List.map_map]
    conv => lhs; rw [← List.map_id l]
    apply List.map_congr_left
    intro x hx
    obtain ⟨v, h1, h2⟩ := hv x hx
    show x = enc I (dec I x)
    rw [← h2, dec_enc h1]
  refine ⟨l.map (dec I), hmap, ?_, ?_, ?_, ?_, ?_⟩
  · rw [hmap] at nd
    exact (List.pairwise_map.mp nd).imp fun h z => h (by rw [z])
  · refine ch_map (dec I) ?_ hc
    rintro a b ⟨c, hab⟩
    obtain ⟨e, he, e2⟩ := List.mem_map.mp hab
    have ha := isArc_of he
    have hv := ha.val ok
    have h1 : enc I e.1 = a := congrArg (fun z : Arc => z.1) e2
    have h2 : enc I e.2.1 = b := congrArg (fun z : Arc => z.2.1) e2
    rw [← h1, ← h2, dec_enc hv.1, dec_enc hv.2]
    exact ha
  · refine ⟨r.map (dec I), ?_⟩
    rw [hr, List.map_cons]
    have : dec I p = pc p := dec_enc (v := pc p) hp
    rw [this]
  · refine ⟨r2.map (dec I), ?_⟩
    rw [hr2, List.map_append]
    have : dec I I.sink = sk := dec_enc (v := sk) True.intro
    rw [List.map_singleton, this]
  · intro v hv'
    obtain ⟨x, hx, e⟩ := List.mem_map.mp hv'
    obtain ⟨w, h1, h2⟩ := hv x hx
    rw [← e, ← h2, dec_enc h1]
    exact h1
end MW
namespace MW
open Nd
/-! ## 7. the state between two ways -/
structure ChOk (I : Inst) (ch : Chosen) : Prop where
  len : ch.length = I.m
  nd : ∀ q, ((ch.getD q []).map (·.1)).Nodup
  sound : Sound I (look ch)
theorem keys_sub {I : Inst} (ok : I.Ok) {ch : Chosen} (h : ChOk I ch) (q : Nat) : ∀ r ∈ (ch.getD q []).map (·.1), r ∈ I.rk ∧ (look ch q r).isSome = true := by
  intro r hr
  obtain ⟨e, he, e2⟩ := List.mem_map.mp hr
  obtain ⟨a, b⟩ := e
  have e2 : a = r := e2
  subst e2
  have hl : look ch q a = some b := lookup_of_mem (h.nd q) he
  obtain ⟨h1, h2, _⟩ := h.sound q a b hl
  exact ⟨by rw [← h2]; exact rack_mem ok h1, by rw [hl]; rfl⟩
theorem len_cnt {I : Inst} (ok : I.Ok) {ch : Chosen} (h : ChOk I ch) (q : Nat) : (ch.getD q []).length = cnt I (look ch) q := by
  unfold cnt
  rw [List.countP_eq_length_filter, ← List.length_map (f := (·.1)) (as := ch.getD q [])]
  have nf : (I.rk.filter fun r => (look ch q r).isSome).Nodup := ok.nd.sublist List.filter_sublist
  apply Nat.le_antisymm
  · refine (h.nd q).length_le_of_subset fun r hr => ?_
    obtain ⟨h1, h2⟩ := keys_sub ok h q r hr
    exact List.mem_filter.mpr ⟨h1, h2⟩
  · refine nf.length_le_of_subset fun r hr => ?_
    have h2 := (List.mem_filter.mp hr).2
    cases e : (ch.getD q []).lookup r with
    | none =>
      have : look ch q r = none := e
      rw [this] at h2
      cases h2
    | some v => exact List.mem_map.mpr ⟨_, lookup_mem e, rfl⟩
theorem countP_le_one {l : Row} (hn : (l.map (·.1)).Nodup) {s r : Nat} (hs : ∀ e ∈ l, e.2 = s → e.1 = r) : l.countP (fun e => decide (e.2 = s)) = b2 (decide (l.lookup r = some s)) := by
  induction l with
  | nil => simp [b2]
  | cons a l ih =>
    obtain ⟨x, y⟩ := a
    have hn' := List.nodup_cons.mp hn
    have ih := ih hn'.2 fun e he => hs e (List.mem_cons_of_mem _ he)
    rw [List.countP_cons, ih, List.lookup_cons]
    by_cases c : r = x
    · subst c
      have h0 : l.lookup r = none := lookup_none_iff.mpr hn'.1
      rw [h0]
      simp [b2]
    · have h1 : (r == x) = false := by simpa using c
      have h2 : ¬ y = s := fun z => c (hs _ List.mem_cons_self z).symm
      rw [h1]
      simp [h2]
theorem sum_b2 {α : Type} (p : α → Bool) : ∀ l : List α, (l.map fun x => b2 (p x)).sum = l.countP p
  | [] => rfl
  | a :: l => by
    rw [List.map_cons, List.sum_cons, sum_b2 p l, List.countP_cons]
    unfold b2
    split <;> omega
theorem as_range (ch : Chosen) : ch = (List.range ch.length).map fun q => ch.getD q [] := by
  apply List.ext_getElem (by simp)
  intro i h1 h2
  simp [h1]
theorem load_ld {I : Inst} {ch : Chosen} (h : ChOk I ch) {s : Nat} : loadOf ch s = ld I (look ch) s := by
  unfold loadOf ld
  rw [List.countP_flatten]
  conv => lhs; rw [as_range ch]
  rw [h.len, List.map_map, ← sum_b2]
  congr 1
  apply List.map_congr_left
  intro q _
  refine countP_le_one (h.nd q) fun e he hs => ?_
  obtain ⟨a, b⟩ := e
  have hl : look ch q a = some b := lookup_of_mem (h.nd q) he
  have hs : b = s := hs
  subst hs
  exact (h.sound q a b hl).2.1.symm
theorem look_ext {ch ch' : Chosen} (h : look ch = look ch') (q r : Nat) : look ch q r = look ch' q r := by rw [h]
theorem nd_pop {I : Inst} {ch : Chosen} (h : ∀ q, ((ch.getD q []).map (·.1)).Nodup) (e : Nat × Nat) : ∀ q, (((popStep I ch e).getD q []).map (·.1)).Nodup := by
  intro q
  unfold popStep
  split
  · by_cases c : pOf I e.2 < ch.length
    · rw [getD_modify _ _ _ _ c]
      split
      · exact nodup_drop1 (h _)
      · exact h q
    · rw [getD_modify_out _ _ _ _ c]
      exact h q
  · exact h q
theorem nd_set {I : Inst} {ch : Chosen} (h : ∀ q, ((ch.getD q []).map (·.1)).Nodup) (e : Nat × Nat) : ∀ q, (((setStep I ch e).getD q []).map (·.1)).Nodup := by
  intro q
  unfold setStep
  split
  · by_cases c : pOf I e.1 < ch.length
    · rw [getD_modify _ _ _ _ c]
      split
      · exact nodup_put1 (h _)
      · exact h q
    · rw [getD_modify_out _ _ _ _ c]
      exact h q
  · exact h q
theorem nd_pops {I : Inst} : ∀ (S : List (Nat × Nat)) {ch : Chosen}, (∀ q, ((ch.getD q []).map (·.1)).Nodup) → ∀ q, (((S.foldl (popStep I) ch).getD q []).map (·.1)).Nodup
  | [], _, h => h
  | e :: S, _, h => nd_pops S (nd_pop h e)
theorem nd_sets {I : Inst} : ∀ (S : List (Nat × Nat)) {ch : Chosen}, (∀ q, ((ch.getD q []).map (·.1)).Nodup) → ∀ q, (((S.foldl (setStep I) ch).getD q []).map (·.1)).Nodup
  | [], _, h => h
  | e :: S, _, h => nd_sets S (nd_set h e)
theorem steps_val {I : Inst} {ch : Chosen} {p : Nat} {P : List Nd} (w : IsWay I ch p P) : ∀ e ∈ stepsR P, Val I e.1 ∧ Val I e.2 := by
  rintro ⟨a, b⟩ he
  obtain ⟨l1, l2, el⟩ := mem_stepsR he
  exact ⟨w.val a (by rw [el]; simp), w.val b (by rw [el]; simp)⟩
theorem look_go {I : Inst} {ch : Chosen} {p : Nat} {P : List Nd} (hlen : ch.length = I.m) (w : IsWay I ch p P) : look (go I ch (P.map (enc I))) = after (look ch) P ∧ (go I ch (P.map (enc I))).length = I.m := by
  unfold go
  rw [stepsR_map]
  have hv := steps_val w
  obtain ⟨h1, h2⟩ := look_pops (ch := ch) hlen hv
  obtain ⟨h3, h4⟩ := look_sets h2 hv
  refine ⟨?_, h4⟩
  show look (((stepsR P).map (enc2 I)).foldl (setStep I) (((stepsR P).map (enc2 I)).foldl (popStep I) ch)) = _
  rw [h3, h1, steps_after w.nd w.ch w.hd w.last]
/-- what a pop takes out is there -/
theorem pop_there {I : Inst} {ch : Chosen} {p : Nat} {P : List Nd} (hlen : ch.length = I.m) (w : IsWay I ch p P) {S1 S2 : List (Nat × Nat)} {a b : Nat} (e : stepsR (P.map (enc I)) = S1 ++ (a, b) :: S2)
    (ha : isEntry I a = true) (hb : isPair I b = true) : pOf I b < I.m ∧ (S1.foldl (popStep I) ch).length = I.m ∧ ∃ s, look (S1.foldl (popStep I) ch) (pOf I b) (rOf I b) = some s := by
  rw [stepsR_map] at e
  obtain ⟨T1, T2, eT, e1, e2⟩ := List.map_eq_append_iff.mp e
  obtain ⟨x, T3, eT2, e3, e4⟩ := List.map_eq_cons_iff.mp e2
  have hv := steps_val w
  have hv1 : ∀ y ∈ T1, Val I y.1 ∧ Val I y.2 := fun y hy => hv y (by rw [eT]; exact List.mem_append_left _ hy)
  have hx : Val I x.1 ∧ Val I x.2 := hv x (by rw [eT, eT2]; simp)
  obtain ⟨x1, x2⟩ := x
  have ea : enc I x1 = a := congrArg (·.1) e3
  have eb : enc I x2 = b := congrArg (·.2) e3
  rw [← ea, entry_enc hx.1] at ha
  rw [← eb, pair_enc hx.2] at hb
  obtain ⟨h1, h2⟩ := look_pops (ch := ch) hlen hv1
  have e1' : S1 = T1.map (enc2 I) := e1.symm
  have hin : (x1, x2) ∈ stepsR P := by rw [eT, eT2]; simp
  obtain ⟨l1, l2, el⟩ := mem_stepsR hin
  have harc : IsArc I ch x1 x2 := by have := w.ch; rw [el] at this; exact ch_mid this
  have hpre : ∀ y ∈ T1, y.2 ≠ x2 := by
    intro y hy z
    have nd : ((stepsR P).map (·.2)).Nodup := by
      rw [stepsR_snd]
      exact w.nd.sublist (List.tail_sublist _)
    rw [eT, eT2, List.map_append, List.map_cons] at nd
    exact (List.nodup_append.mp nd).2.2 _ (List.mem_map.mpr ⟨y, hy, rfl⟩) _ List.mem_cons_self z
  cases x2 with
  | pr q r =>
    obtain ⟨hq, hr⟩ : q < I.m ∧ r ∈ I.rk := hx.2
    have hq2 : pOf I b = q := by rw [← eb]; exact pOf_pr hr
    have hr2 : rOf I b = r := by rw [← eb]; exact rOf_pr hr
    rw [hq2, hr2, e1']
    refine ⟨hq, h2, ?_⟩
    rw [h1, pops_off]
    · generalize hg : pr q r = G at harc
      cases harc with
      | back hq hr h => cases hg
      | give hq hs h => cases hg
      | down hs h => cases hg
      | up hs h => cases hg
      | sink hs h => cases hg
      | rise hs h => cases hg
      | out hq hr h => cases ha
      | @take q' s hq hs h =>
        have e1 : q = q' := Nd.pr.inj hg |>.1
        have e2 : r = I.rack s := Nd.pr.inj hg |>.2
        subst e1
        exact ⟨s, by rw [e2]; exact h⟩
    · exact fun y hy z => hpre y hy z.2
  | pc _ => cases hb
  | gt _ => cases hb
  | st _ => cases hb
  | sk => cases hb
/-- one more copy of a piece -/
theorem augment {I : Inst} (ok : I.Ok) {ch : Chosen} {p : Nat} {l : List Nat} (hp : p < I.m) (h : ChOk I ch) (hr : ∀ t, t < I.n → loadOf ch t ≤ I.room t) (hw : wayOf p (arcs I ch) (I.sink + 1) I.sink = some l) :
    ChOk I (go I ch l) ∧ (∀ q, ((go I ch l).getD q []).length = (ch.getD q []).length + (if q = p then 1 else 0)) ∧ ∀ t, t < I.n → loadOf (go I ch l) t ≤ I.room t := by
  obtain ⟨P, rfl, w⟩ := way_nodes ok hp hw
  obtain ⟨hl, hlen⟩ := look_go h.len w
  obtain ⟨r, hP⟩ := w.hd
  have d := way_does ok (ch := ch) (p := p) (L := r) (by rw [← hP]; exact w.nd) (by rw [← hP]; exact w.ch) (by rw [← hP]; exact w.last) h.sound fun t _ => (load_ld h).symm
  rw [← hP, ← hl] at d
  obtain ⟨d1, d2, e, d3, d4, d5⟩ := d
  have ch' : ChOk I (go I ch (P.map (enc I))) := ⟨hlen, nd_sets _ (nd_pops _ h.nd), d1⟩
  refine ⟨ch', fun q => ?_, fun t ht => ?_⟩
  · rw [len_cnt ok ch', len_cnt ok h]
    exact d2 q
  · rw [load_ld ch', d5 t ht]
    have := hr t ht
    by_cases c : t = e
    · subst c; simp; omega
    · simp [c]; omega
/-! ## 8. lots that lack room -/
def outs (I : Inst) (L : List Nat) : Nat → List Nat
  | 0 => []
  | v + 1 => if v ∉ L ∧ I.rack v ∉ outs I L v then outs I L v ++ [I.rack v] else outs I L v
theorem outs_ok (I : Inst) (L : List Nat) : ∀ v, (outs I L v).Nodup ∧ ∀ r, r ∈ outs I L v ↔ ∃ w, w < v ∧ w ∉ L ∧ I.rack w = r
  | 0 => ⟨List.nodup_nil, fun r => by simp [outs]⟩
  | v + 1 => by
    obtain ⟨h1, h2⟩ := outs_ok I L v
    unfold outs
    by_cases c : v ∉ L ∧ I.rack v ∉ outs I L v
    · rw [if_pos c]
      refine ⟨List.nodup_append.mpr ⟨h1, by simp, fun x hx y hy z => by simp at hy; subst hy; subst z; exact c.2 hx⟩, fun r => ?_⟩
      rw [List.mem_append, h2, List.mem_singleton]
      constructor
      · rintro (⟨w, a, b⟩ | z)
        · exact ⟨w, by omega, b⟩
        · exact ⟨v, by omega, c.1, z.symm⟩
      · rintro ⟨w, a, b, e⟩
        by_cases d : w = v
        · subst d; exact .inr e.symm
        · exact .inl ⟨w, by omega, b, e⟩
    · rw [if_neg c]
      refine ⟨h1, fun r => ?_⟩
      rw [h2]
      constructor
      · rintro ⟨w, a, b⟩
        exact ⟨w, by omega, b⟩
      · rintro ⟨w, a, b, e⟩
        by_cases d : w = v
        · subst d
          have : I.rack w ∈ outs I L w := Decidable.byContradiction fun z => c ⟨b, z⟩
          rw [e] at this
          exact (h2 r).mp this
        · exact ⟨w, by omega, b, e⟩
def needed (I : Inst) (L : List Nat) : Nat := (I.W.map fun w => w - (outs I L I.n).length).sum
def roomSum (I : Inst) (L : List Nat) : Nat := (L.map I.room).sum
def lacks (I : Inst) (L : List Nat) : Bool := decide (roomSum I L < needed I L)
def lots : Nat → List (List Nat)
  | 0 => [[]]
  | v + 1 => lots v ++ (lots v).map (· ++ [v])
theorem lots_ok : ∀ v, ∀ L ∈ lots v, L.Nodup ∧ ∀ x ∈ L, x < v
  | 0, L, h => by
    simp [lots] at h
    subst h
    simp
  | v + 1, L, h => by
    rcases List.mem_append.mp h with h | h
    · obtain ⟨h1, h2⟩ := lots_ok v L h
      exact ⟨h1, fun x hx => Nat.lt_succ_of_lt (h2 x hx)⟩
    · obtain ⟨L', h', e⟩ := List.mem_map.mp h
      subst e
      obtain ⟨h1, h2⟩ := lots_ok v L' h'
      refine ⟨List.nodup_append.mpr ⟨h1, by simp, fun x hx y hy z => by simp at hy; subst hy; subst z; exact Nat.lt_irrefl _ (h2 _ hx)⟩, fun x hx => ?_⟩
      rcases List.mem_append.mp hx with hx | hx
      · exact Nat.lt_succ_of_lt (h2 x hx)
      · simp at hx; omega
theorem lots_all (p : Nat → Bool) : ∀ v, (List.range v).filter p ∈ lots v
  | 0 => by simp [lots]
  | v + 1 => by
    rw [List.range_succ, List.filter_append, lots]
    by_cases c : p v = true
    · have : [v].filter p = [v] := by simp [c]
      rw [this]
      exact List.mem_append_right _ (List.mem_map.mpr ⟨_, lots_all p v, rfl⟩)
    · have : [v].filter p = [] := by simp [c]
      rw [this, List.append_nil]
      exact List.mem_append_left _ (lots_all p v)
def anyLacks (I : Inst) : Bool := (lots I.n).any (lacks I)
theorem swap_sum (P : Nat → Nat → Bool) (m : Nat) : ∀ L : List Nat, (L.map fun s => (List.range m).countP fun q => P q s).sum = ((List.range m).map fun q => L.countP fun s => P q s).sum
  | [] => by
    simp
    induction m with
    | zero => rfl
    | succ m ih => rw [List.range_succ]; simp at ih ⊢; exact ih
  | a :: L => by
    rw [List.map_cons, List.sum_cons, swap_sum P m L]
    have : ∀ l : List Nat, (l.countP fun q => P q a) + (l.map fun q => L.countP fun s => P q s).sum = (l.map fun q => (a :: L).countP fun s => P q s).sum := by
      intro l
      induction l with
      | nil => rfl
      | cons x l ih =>
        rw [List.countP_cons, List.map_cons, List.sum_cons, List.map_cons, List.sum_cons, ← ih, List.countP_cons]
        split <;> omega
    exact this _
theorem sum_le {f g : Nat → Nat} : ∀ {l : List Nat}, (∀ x ∈ l, f x ≤ g x) → (l.map f).sum ≤ (l.map g).sum
  | [], _ => Nat.le_refl _
  | a :: l, h => by
    rw [List.map_cons, List.sum_cons, List.map_cons, List.sum_cons]
    exact Nat.add_le_add (h a List.mem_cons_self) (sum_le fun x hx => h x (List.mem_cons_of_mem _ hx))
theorem sum_lt {f g : Nat → Nat} {p : Nat} : ∀ {l : List Nat}, (∀ x ∈ l, f x ≤ g x) → p ∈ l → f p < g p → (l.map f).sum < (l.map g).sum
  | a :: l, h, hp, hlt => by
    rw [List.map_cons, List.sum_cons, List.map_cons, List.sum_cons]
    rcases List.mem_cons.mp hp with e | hp
    · subst e
      exact Nat.add_lt_add_of_lt_of_le hlt (sum_le fun x hx => h x (List.mem_cons_of_mem _ hx))
    · exact Nat.add_lt_add_of_le_of_lt (h a List.mem_cons_self) (sum_lt (fun x hx => h x (List.mem_cons_of_mem _ hx)) hp hlt)
theorem W_range (I : Inst) : I.W = (List.range I.m).map I.wish := by
  apply List.ext_getElem (by simp [Inst.m])
  intro i h1 h2
  simp [Inst.wish, h1]
theorem needed_eq (I : Inst) (L : List Nat) : needed I L = ((List.range I.m).map fun q => I.wish q - (outs I L I.n).length).sum := by
  unfold needed
  conv => lhs; rw [W_range I]
  rw [List.map_map]
  rfl
/-- how many copies of a piece lie in a lot -/
def inL (I : Inst) (ch : Chosen) (L : List Nat) (q : Nat) : Nat := L.countP fun s => decide (look ch q (I.rack s) = some s)
theorem inL_sum {I : Inst} {ch : Chosen} (h : ChOk I ch) (L : List Nat) : (L.map (loadOf ch)).sum = ((List.range I.m).map (inL I ch L)).sum := by
  have := swap_sum (fun q s => decide (look ch q (I.rack s) = some s)) I.m L
  unfold inL
  rw [← this]
  congr 1
  apply List.map_congr_left
  intro s _
  exact load_ld h
def inRacks (I : Inst) (ch : Chosen) (L : List Nat) (q : Nat) : List Nat := (L.filter fun s => decide (look ch q (I.rack s) = some s)).map I.rack
theorem inRacks_len (I : Inst) (ch : Chosen) (L : List Nat) (q : Nat) : (inRacks I ch L q).length = inL I ch L q := by
  unfold inRacks inL
  rw [List.length_map, List.countP_eq_length_filter]
theorem mem_inRacks {I : Inst} {ch : Chosen} {L : List Nat} {q r : Nat} : r ∈ inRacks I ch L q ↔ ∃ s ∈ L, look ch q r = some s ∧ I.rack s = r := by
  unfold inRacks
  rw [List.mem_map]
  constructor
  · rintro ⟨s, hs, e⟩
    obtain ⟨h1, h2⟩ := List.mem_filter.mp hs
    have h2 := of_decide_eq_true h2
    exact ⟨s, h1, by rw [← e]; exact h2, e⟩
  · rintro ⟨s, h1, h2, e⟩
    exact ⟨s, List.mem_filter.mpr ⟨h1, decide_eq_true (by rw [e]; exact h2)⟩, e⟩
theorem inRacks_nodup {I : Inst} {ch : Chosen} {L : List Nat} (hL : L.Nodup) (q : Nat) : (inRacks I ch L q).Nodup := by
  unfold inRacks
  refine List.pairwise_map.mpr ?_
  have h := hL.sublist (List.filter_sublist (p := fun s => decide (look ch q (I.rack s) = some s)))
  refine List.Pairwise.imp_of_mem ?_ h
  intro a b ha hb hne z
  have h1 := of_decide_eq_true (List.mem_filter.mp ha).2
  have h2 := of_decide_eq_true (List.mem_filter.mp hb).2
  rw [z, h2] at h1
  exact hne (Option.some.inj h1).symm
/-- no way: a lot lacks room -/
theorem lack_of {I : Inst} (ok : I.Ok) {ch : Chosen} {p : Nat} (hp : p < I.m) (h : ChOk I ch) (hle : ∀ q, q < I.m → (ch.getD q []).length ≤ I.wish q) (hlt : (ch.getD p []).length < I.wish p)
    (hw : wayOf p (arcs I ch) (I.sink + 1) I.sink = none) : anyLacks I = true := by
  obtain ⟨S, hpS, htS, hcl⟩ := way_none (enc_le (v := pc p) hp) (arcs_lt ok) hw
  have cl : ∀ {u v}, IsArc I ch u v → enc I u ∈ S → enc I v ∈ S := fun {u v} a hu => by
    obtain ⟨c, hc⟩ := of_isArc a
    exact hcl (encA I (u, v, c)) (List.mem_map.mpr ⟨_, hc, rfl⟩) hu
  let L := (List.range I.n).filter fun s => decide (I.fg + s ∈ S)
  have hL : L.Nodup := List.nodup_range.sublist List.filter_sublist
  have mL : ∀ s, s ∈ L ↔ s < I.n ∧ enc I (gt s) ∈ S := fun s => by
    show s ∈ (List.range I.n).filter _ ↔ _
    rw [List.mem_filter, List.mem_range, decide_eq_true_iff]
    rfl
  -- the stores of the lot are full
  have full : ∀ s ∈ L, I.room s ≤ loadOf ch s := by
    intro s hs
    obtain ⟨h1, h2⟩ := (mL s).mp hs
    have hl : loadOf ch s < I.m + 1 := by
      rw [load_ld h]
      have : ld I (look ch) s ≤ (List.range I.m).length := List.countP_le_length
      rw [List.length_range] at this
      omega
    have h3 := cl (.down h1 hl) h2
    apply Decidable.byContradiction
    intro z
    exact htS (cl (.sink h1 (by omega)) h3)
  have ob := outs_ok I L I.n
  -- pieces that are reached
  have reached : ∀ q, q < I.m → enc I (pc q) ∈ S → inL I ch L q + (outs I L I.n).length ≤ (ch.getD q []).length := by
    intro q hq hqS
    rw [← inRacks_len, ← List.length_append, ← List.length_map (f := (·.1)) (as := ch.getD q [])]
    have hdis : ∀ r ∈ inRacks I ch L q, r ∉ outs I L I.n := by
      intro r hr hr2
      obtain ⟨s, hs, hls, er⟩ := mem_inRacks.mp hr
      obtain ⟨v, hv, hvL, erv⟩ := (ob.2 r).mp hr2
      obtain ⟨hsn, hsS⟩ := (mL s).mp hs
      have h3 := cl (.take (q := q) hq hsn (by rw [er]; exact hls)) hsS
      have h4 : enc I (gt v) ∈ S := cl (.give (q := q) hq hv (by
        rw [erv, hls]
        intro z
        exact hvL (by rw [← Option.some.inj z]; exact hs))) (by rw [erv, ← er]; exact h3)
      exact hvL ((mL v).mpr ⟨hv, h4⟩)
    have nd : (inRacks I ch L q ++ outs I L I.n).Nodup := List.nodup_append.mpr ⟨inRacks_nodup hL q, ob.1, fun a ha b hb z => hdis a ha (by rw [z]; exact hb)⟩
    refine nd.length_le_of_subset fun r hr => ?_
    rcases List.mem_append.mp hr with hr | hr
    · obtain ⟨s, hs, hls, er⟩ := mem_inRacks.mp hr
      exact List.mem_map.mpr ⟨_, lookup_mem hls, rfl⟩
    · obtain ⟨v, hv, hvL, erv⟩ := (ob.2 r).mp hr
      cases e : look ch q r with
      | some x => exact List.mem_map.mpr ⟨_, lookup_mem e, rfl⟩
      | none =>
        have h3 := cl (.out hq (by rw [← erv]; exact rack_mem ok hv) e) hqS
        have h4 : enc I (gt v) ∈ S := cl (.give (q := q) hq hv (by rw [erv, e]; simp)) (by rw [erv]; exact h3)
        exact absurd ((mL v).mpr ⟨hv, h4⟩) hvL
  have away : ∀ q, q < I.m → enc I (pc q) ∉ S → inL I ch L q = 0 := by
    intro q hq hqS
    unfold inL
    rw [List.countP_eq_zero]
    intro s hs hd
    have hls := of_decide_eq_true hd
    obtain ⟨hsn, hsS⟩ := (mL s).mp hs
    have h3 := cl (.take (q := q) hq hsn hls) hsS
    exact hqS (cl (.back hq (rack_mem ok hsn) (by rw [hls]; rfl)) h3)
  have key : roomSum I L < needed I L := by
    have h1 : roomSum I L ≤ (L.map (loadOf ch)).sum := sum_le fun s hs => full s hs
    rw [inL_sum h] at h1
    rw [needed_eq]
    refine Nat.lt_of_le_of_lt h1 (sum_lt (p := p) (fun q hq => ?_) (List.mem_range.mpr hp) ?_)
    · have hq := List.mem_range.mp hq
      by_cases c : enc I (pc q) ∈ S
      · have := reached q hq c
        have := hle q hq
        omega
      · rw [away q hq c]
        exact Nat.zero_le _
    · have := reached p hp hpS
      omega
  unfold anyLacks
  rw [List.any_eq_true]
  exact ⟨L, lots_all _ _, decide_eq_true key⟩
/-- a placing that keeps the rules: no lot lacks room -/
theorem no_lack {I : Inst} {ch : Chosen} (h : ChOk I ch) (hlen : ∀ q, q < I.m → (ch.getD q []).length = I.wish q) (hr : ∀ t, t < I.n → loadOf ch t ≤ I.room t) : anyLacks I = false := by
  unfold anyLacks
  rw [List.any_eq_false]
  intro L hL
  obtain ⟨nd, hlt⟩ := lots_ok _ L hL
  have ob := outs_ok I L I.n
  have key : needed I L ≤ roomSum I L := by
    have h1 : (L.map (loadOf ch)).sum ≤ roomSum I L := sum_le fun s hs => hr s (hlt s hs)
    rw [inL_sum h] at h1
    rw [needed_eq]
    refine Nat.le_trans (sum_le fun q hq => ?_) h1
    have hq := List.mem_range.mp hq
    rw [← hlen q hq]
    have : (ch.getD q []).length ≤ inL I ch L q + (outs I L I.n).length := by
      rw [← inRacks_len, ← List.length_append, ← List.length_map (f := (·.1)) (as := ch.getD q [])]
      refine (h.nd q).length_le_of_subset fun r hr => ?_
      obtain ⟨e, he, e2⟩ := List.mem_map.mp hr
      obtain ⟨a, s⟩ := e
      have e2 : a = r := e2
      subst e2
      have hl : look ch q a = some s := lookup_of_mem (h.nd q) he
      obtain ⟨h1, h2, _⟩ := h.sound q a s hl
      by_cases c : s ∈ L
      · exact List.mem_append_left _ (mem_inRacks.mpr ⟨s, c, hl, h2⟩)
      · exact List.mem_append_right _ ((ob.2 a).mpr ⟨s, h1, c, h2⟩)
    omega
  unfold lacks
  rw [decide_eq_true_iff]
  omega
/-! ## 9. fill -/
def fillP (I : Inst) (p : Nat) : Nat → Chosen → Option Chosen
  | 0, ch => some ch
  | w + 1, ch => match wayOf p (arcs I ch) (I.sink + 1) I.sink with
    | none => none
    | some l => fillP I p w (go I ch l)
def fillTo (I : Inst) : Nat → Option Chosen
  | 0 => some (I.W.map fun _ => [])
  | p + 1 => (fillTo I p).bind (fillP I p (I.wish p))
def fill (I : Inst) : Option Chosen := fillTo I I.m
/-- p pieces are led, of piece p some copies -/
structure Mid (I : Inst) (ch : Chosen) (p j : Nat) : Prop where
  ok : ChOk I ch
  room : ∀ t, t < I.n → loadOf ch t ≤ I.room t
  len : ∀ q, (ch.getD q []).length = if q < p then I.wish q else if q = p then j else 0
theorem fillP_ok {I : Inst} (ok : I.Ok) {p : Nat} (hp : p < I.m) : ∀ (w j : Nat) (ch : Chosen), Mid I ch p j → j + w = I.wish p → (fillP I p w ch = none → anyLacks I = true) ∧ ∀ ch', fillP I p w ch = some ch' → Mid I ch' p (I.wish p)
  | 0, j, ch, h, e => by
    refine ⟨fun z => (by cases z), fun ch' z => ?_⟩
    cases z
    have : j = I.wish p := by omega
    rw [← this]; exact h
  | w + 1, j, ch, h, e => by
    unfold fillP
    cases hw : wayOf p (arcs I ch) (I.sink + 1) I.sink with
    | none =>
      refine ⟨fun _ => lack_of ok hp h.ok (fun q _ => ?_) ?_ hw, fun ch' z => (by cases z)⟩
      · rw [h.len]
        split
        · exact Nat.le_refl _
        · split
          · rename_i c; subst c; omega
          · exact Nat.zero_le _
      · rw [h.len, if_neg (Nat.lt_irrefl _), if_pos rfl]; omega
    | some l =>
      obtain ⟨a1, a2, a3⟩ := augment ok hp h.ok h.room hw
      refine fillP_ok ok hp w (j + 1) _ ⟨a1, a3, fun q => ?_⟩ (by omega)
      rw [a2, h.len]
      by_cases c : q < p
      · have : ¬ q = p := by omega
        simp [c, this]
      · by_cases d : q = p
        · simp [c, d]
        · simp [c, d]
theorem getD_nil (W : List Nat) (q : Nat) : (W.map fun _ => ([] : Row)).getD q [] = [] := by
  rw [List.getD_eq_getElem?_getD, List.getElem?_map]
  cases W[q]? <;> rfl
theorem fillTo_ok {I : Inst} (ok : I.Ok) : ∀ p, p ≤ I.m → (fillTo I p = none → anyLacks I = true) ∧ ∀ ch, fillTo I p = some ch → Mid I ch p 0
  | 0, _ => by
    refine ⟨fun z => (by cases z), fun ch z => ?_⟩
    cases z
    refine ⟨⟨by rw [List.length_map]; rfl, fun q => by rw [getD_nil]; exact List.nodup_nil, fun q r s e => by unfold look at e; rw [getD_nil] at e; cases e⟩, fun t _ => ?_, fun q => ?_⟩
    · have : loadOf (I.W.map fun _ => ([] : Row)) t = 0 := by
        unfold loadOf
        rw [List.countP_eq_zero]
        intro e he
        obtain ⟨l, hl, hel⟩ := List.mem_flatten.mp he
        obtain ⟨_, _, e2⟩ := List.mem_map.mp hl
        rw [← e2] at hel
        cases hel
      omega
    · rw [getD_nil]
      simp
  | p + 1, hp => by
    obtain ⟨h1, h2⟩ := fillTo_ok ok p (by omega)
    unfold fillTo
    cases e : fillTo I p with
    | none => exact ⟨fun _ => h1 e, fun ch z => (by cases z)⟩
    | some ch0 =>
      obtain ⟨g1, g2⟩ := fillP_ok ok (show p < I.m by omega) (I.wish p) 0 ch0 (h2 ch0 e) (by omega)
      refine ⟨fun z => g1 z, fun ch z => ?_⟩
      have m := g2 ch z
      refine ⟨m.ok, m.room, fun q => ?_⟩
      rw [m.len]
      by_cases c : q < p
      · have : q < p + 1 := by omega
        simp [c, this]
      · by_cases d : q = p
        · simp [d]
        · have : ¬ q < p + 1 := by omega
          simp [c, d, this]
theorem fill_none {I : Inst} (ok : I.Ok) (h : fill I = none) : anyLacks I = true := (fillTo_ok ok I.m (Nat.le_refl _)).1 h
structure Final (I : Inst) (ch : Chosen) : Prop where
  ok : ChOk I ch
  room : ∀ t, t < I.n → loadOf ch t ≤ I.room t
  len : ∀ q, q < I.m → (ch.getD q []).length = I.wish q
theorem fill_some {I : Inst} (ok : I.Ok) {ch : Chosen} (h : fill I = some ch) : Final I ch ∧ anyLacks I = false := by
  have m := (fillTo_ok ok I.m (Nat.le_refl _)).2 ch h
  have hl : ∀ q, q < I.m → (ch.getD q []).length = I.wish q := fun q hq => by rw [m.len, if_pos hq]
  exact ⟨⟨m.ok, m.room, hl⟩, no_lack m.ok hl m.room⟩
/-! ## 10. the placing -/
def lotOf (l : Row) : List Nat := (l.map (·.2)).mergeSort (fun a b => decide (a ≤ b))
def placing (ch : Chosen) : List (List Nat) := ch.map lotOf
theorem lotOf_perm (l : Row) : (lotOf l).Perm (l.map (·.2)) := List.mergeSort_perm _ _
theorem lotOf_le (l : Row) : (lotOf l).Pairwise (· ≤ ·) := by
  have := List.pairwise_mergeSort (le := fun a b : Nat => decide (a ≤ b)) (fun a b c => by simp; omega) (fun a b => by simp; omega) (l.map (·.2))
  exact this.imp fun h => by simpa using h
theorem sorted_one {l : Row} {ns : List Nat} (hp : ns.Perm (l.map (·.2))) (hs : ns.Pairwise (· ≤ ·)) : ns = lotOf l :=
  List.Perm.eq_of_pairwise (fun a b _ _ h1 h2 => Nat.le_antisymm h1 h2) hs (lotOf_le l) (hp.trans (lotOf_perm l).symm)
theorem Final.vals {I : Inst} {ch : Chosen} (f : Final I ch) {q s : Nat} : s ∈ lotOf (ch.getD q []) ↔ look ch q (I.rack s) = some s := by
  rw [(lotOf_perm _).mem_iff]
  constructor
  · intro h
    obtain ⟨e, he, e2⟩ := List.mem_map.mp h
    obtain ⟨a, b⟩ := e
    have e2 : b = s := e2
    subst e2
    have hl : look ch q a = some b := lookup_of_mem (f.ok.nd q) he
    rw [(f.ok.sound q a b hl).2.1]
    exact hl
  · intro h
    exact List.mem_map.mpr ⟨_, lookup_mem h, rfl⟩
theorem Final.lt {I : Inst} {ch : Chosen} (f : Final I ch) {q s : Nat} (h : s ∈ lotOf (ch.getD q [])) : s < I.n := (f.ok.sound q _ s (f.vals.mp h)).1
theorem Final.racks {I : Inst} {ch : Chosen} (f : Final I ch) {q s t : Nat} (h : s ∈ lotOf (ch.getD q [])) (h' : t ∈ lotOf (ch.getD q [])) (e : I.rack s = I.rack t) : s = t := by
  have h1 := f.vals.mp h
  have h2 := f.vals.mp h'
  rw [e, h2] at h1
  exact (Option.some.inj h1).symm
theorem Final.nodup {I : Inst} {ch : Chosen} (f : Final I ch) (q : Nat) : (lotOf (ch.getD q [])).Nodup := by
  refine (lotOf_perm _).nodup_iff.mpr ?_
  have nd := f.ok.nd q
  refine List.pairwise_map.mpr (List.Pairwise.imp_of_mem ?_ (List.pairwise_map.mp nd))
  rintro ⟨a, b⟩ ⟨c, d⟩ h1 h2 hne z
  have z : b = d := z
  subst z
  have l1 : look ch q a = some b := lookup_of_mem nd h1
  have l2 : look ch q c = some b := lookup_of_mem nd h2
  have := (f.ok.sound q a b l1).2.1
  have := (f.ok.sound q c b l2).2.1
  exact hne (by show a = c; omega)
theorem Final.rising {I : Inst} {ch : Chosen} (f : Final I ch) (q : Nat) : (lotOf (ch.getD q [])).Pairwise (· < ·) := by
  have h := f.nodup q
  exact (List.pairwise_and_iff.mpr ⟨lotOf_le _, h⟩).imp fun h => Nat.lt_of_le_of_ne h.1 h.2
theorem Final.count {I : Inst} {ch : Chosen} (f : Final I ch) {q : Nat} (hq : q < I.m) : (lotOf (ch.getD q [])).length = I.wish q := by
  rw [(lotOf_perm _).length_eq, List.length_map, f.len q hq]
theorem Final.placing_eq {I : Inst} {ch : Chosen} (f : Final I ch) : placing ch = (List.range I.m).map fun q => lotOf (ch.getD q []) := by
  unfold placing
  conv => lhs; rw [as_range ch]
  rw [f.ok.len, List.map_map]
  rfl
theorem Final.roomy {I : Inst} {ch : Chosen} (f : Final I ch) {s : Nat} (hs : s < I.n) : (placing ch).countP (fun l => decide (s ∈ l)) ≤ I.room s := by
  refine Nat.le_trans (Nat.le_of_eq ?_) (f.room s hs)
  rw [f.placing_eq, load_ld f.ok, List.countP_map]
  unfold ld
  apply List.countP_congr
  intro q _
  simp only [Function.comp, decide_eq_true_iff]
  exact f.vals
end MW
end
/-! KEnum -/
section
set_option Elab.async false
set_option linter.all false
set_option maxRecDepth 100000
set_option maxHeartbeats 2000000
/-! enumerate over a tuple; loops over enumerate -/
namespace KX
open PySem PySem.Spec PyProof.Rows L2
open AutoSeq1 (wpAny_loadPart')
theorem enum_new_tup (t : Addr) (its : Array Value) (n : Nat) (dd : Option Addr) (sl : Array (Option Value)) :
    Meets (Builtin.«enumerate.__new__» ⟨[.type "enumerate", .ref t], []⟩) (fun _ R s => s.heap.get? t = some { cls := .type "tuple", dict := dd, data := .seq its n, slots := sl } ∧
      R (.ok (.ret (.ref (s.heap.push { cls := .type "tuple_iterator", data := .fields #[.ref t, .int 0 0] }).objs.size))) { s with heap := (s.heap.push { cls := .type "tuple_iterator", data := .fields #[.ref t, .int 0 0] }).push { cls := .type "enumerate", data := .fields #[.none, .bool false, .ref s.heap.objs.size, rawInt 0, .none, .none] } }) := by
  refine .of_wp fun prog w A R s hh => ?_
  obtain ⟨hp, g, d, tk, os⟩ := s
  obtain ⟨ht, hr⟩ := hh
  have hsub := sub_enumerate
  have hT : Heap.IsTuple (Shared.heap ⟨hp, g, d, tk, os⟩) t its := ⟨_, ht, rfl, n, rfl⟩
  wp_walk using wpAny_loadPart' ht
  refine wpAny_stack_any fun st => wpAny_pure ?_
  split
  · rename_i c _ _ _ _ _
    cases (c == Value.type "enumerate") <;> (wp_walk using wpAny_loadPart' ht, wpAny_pyIter_tuple hT; exact ⟨_, rfl, hr⟩)
  · wp_walk using wpAny_loadPart' ht, wpAny_pyIter_tuple hT
    exact ⟨_, rfl, hr⟩
theorem call_enum_tup {prog : Program} {w : World} {A : Around} {E : Value → Shared → Prop} {s : Shared} {t : Addr} {its : Array Value} {Q : Value → Shared → Prop} (hT : s.heap.IsTuple t its)
    (hq : ∀ h', IsEnum h' (s.heap.objs.size + 1) s.heap.objs.size 0 .none → h'.IsTupleIter s.heap.objs.size t 0 → (∀ b o, s.heap.get? b = some o → h'.get? b = some o) → Q (.ref (s.heap.objs.size + 1)) { s with heap := h' }) :
    wpAny (model prog w) A (call (.type "enumerate") [.ref t]) Q E s := by
  obtain ⟨⟨c, dd, dt, sl⟩, h1, h2, n, h3⟩ := hT
  replace h2 : c = .type "tuple" := h2
  replace h3 : dt = .seq its n := h3
  subst h2 h3
  refine callType_new F.called_enumerate (by decide) (F.typeCall_enumerate_1 _) (F.newCall_enumerate_1 _) (fun ob => F.args_object_init_2 ob _) F.entry_enumerate_new (enum_new_tup t its n dd sl) ⟨h1, ?_⟩
  have sz : (s.heap.push { cls := .type "tuple_iterator", data := .fields #[.ref t, .int 0 0] }).objs.size = s.heap.objs.size + 1 := Heap.size_push ..
  show _ ∧ _
  rw [sz]
  have en : IsEnum ((s.heap.push { cls := .type "tuple_iterator", data := .fields #[.ref t, .int 0 0] }).push { cls := .type "enumerate", data := .fields #[.none, .bool false, .ref s.heap.objs.size, rawInt 0, .none, .none] }) (s.heap.objs.size + 1) s.heap.objs.size 0 .none := by
    have z := Heap.get?_push_size (s.heap.push { cls := .type "tuple_iterator", data := .fields #[.ref t, .int 0 0] }) (o := { cls := .type "enumerate", data := .fields #[.none, .bool false, .ref s.heap.objs.size, rawInt 0, .none, .none] }) rfl
    rw [sz] at z
    exact z
  exact ⟨⟨_, en, rfl⟩, hq _ en ⟨_, Heap.get?_push_of_some _ (Heap.get?_push_size _ rfl), rfl, rfl⟩ fun b o x => Heap.get?_push_of_some _ (Heap.get?_push_of_some _ x)⟩
theorem enum_end_tup {prog : Program} {w : World} {A : Around} {E : Value → Shared → Prop} {s : Shared} {e it t : Addr} {i : Nat} {its : Array Value} {old : Value} {Q : Option Value → Shared → Prop} (hh : A.handled = none)
    (he : IsEnum s.heap e it i old) (hi : s.heap.IsTupleIter it t i) (ht : s.heap.IsTuple t its) (hx : its[i]? = none) (hq : ∀ h', Heap.ExtBut it s.heap h' → Q none { s with heap := h' }) : wpAny (model prog w) A (pyNext (.ref e)) Q E s := by
  have ty : s.TypeIs (.ref e) "enumerate" := ⟨_, he, rfl⟩
  unfold pyNext
  refine wpAny_bind (wpAny_attempt (wpAny_callSpecial?_slot (name := Str.ofString "__next__") ty F.slot_enumerate_next (wpAny_call_entry F.slot_enumerate_next ty F.entry_enumerate_next ?_ (F.args_enumerate_next_1 _))))
  show wpAny _ _ (field (.ref e) 2 >>= fun _ => _) _ _ _
  refine wpAny_bind (wpAny_field he rfl (x := .ref it) rfl (wpAny_bind (wpAny_nextOf_tuple_end hh hi ht hx fun h' x k hx' => ?_)))
  obtain ⟨o, h1, h2⟩ := hx'
  exact wpAny_bind (wpAny_isInstance (T := "StopIteration") (b := true) ⟨o, h1, h2⟩ isSubtype_stop (wpAny_pure (hq _ k)))
/-- the tuple at a, its items one after the other in new pairs -/
def IteT (K : PySem.W.Frag) (a : Addr) : It where
  go := fun i H => ∃ (xs : List V) (x : V), SqT K H a xs ∧ xs[i]? = some x
  yld := fun i H v H' => ∃ T x, v = .ref T ∧ H T = none ∧ H' = upd H T (.tup [.int (i : Nat), x]) ∧ ∀ xs, SqT K H a xs → xs[i]? = some x
  stop := fun i H => ∃ xs : List V, SqT K H a xs ∧ xs.length ≤ i
theorem turn_enumT {P : Program} {w : World} {K : PySem.W.Frag} {elts : List Expr} {kk : Nat} {tpos : Pos} (a e it : Addr) :
    Turn P w K (.Tuple elts kk tpos) (IteT K a) [e, it] e (fun i h => (∃ old, IsEnum h e it ((i : Nat) : Int) old) ∧ h.IsTupleIter it a i ∧ e ≠ it ∧ a ≠ e ∧ a ≠ it) where
  mem := by simp
  obj := by
    rintro i h ⟨⟨old, he⟩, ⟨o, ho, hc, hd⟩, _⟩ b hb
    rcases (by simpa using hb : b = e ∨ b = it) with z | z
    · subst z
      exact ⟨_, he, fun v q => nomatch q⟩
    · subst z
      exact ⟨o, ho, fun v q => by rw [hd] at q; cases q⟩
  keep := by
    rintro i h h' ⟨⟨old, he⟩, hi, hne⟩ k
    exact ⟨⟨old, k e (by simp) _ he⟩, hi.at fun o q => k it (by simp) o q, hne⟩
  item := by
    intro X hP hw hK hc i pins s σ H E I hf st hg
    subst hP hw hK
    obtain ⟨⟨old, he⟩, hit, hne, hae, hai⟩ := st
    obtain ⟨xs, x, hq, hx⟩ := hg
    obtain ⟨its, rv, p, hz⟩ := I.tuple hq
    obtain ⟨u, hu, ru⟩ := rv.get hx
    have le : e < s.heap.objs.size := Heap.lt_size he
    have li : it < s.heap.objs.size := by
      obtain ⟨_, q, _⟩ := hit
      exact Heap.lt_size q
    have D := Draws.tuple (prog := X.prog) (w := X.w) (A := X.A.in1) (I.ok.hd hc) it a hai its.toArray
    have hlt : i < its.toArray.size := by
      have := (List.getElem?_eq_some_iff.mp hu).1
      simpa using this
    refine wpAny_pyNext_enum_itemD (fp := [it, a]) D he ⟨hit, show s.heap.IsTuple a its.toArray from p⟩ hlt hne (by simp [hne, Ne.symm hae]) fun y h' tk hy ho st' hT hsz hk => ?_
    have ey : y = u := by
      have hy : its.toArray[i]? = some y := hy
      have hu' : its.toArray[i]? = some u := by simpa using hu
      rw [hu'] at hy
      exact (Option.some.inj hy).symm
    subst ey
    refine ⟨_, rfl, wpAny_letOwnedTupleGo_enum (s := { s with heap := h', toks := tk + 1 }) ho fun h2 he2 sb => ?_⟩
    have hT2 : h2.get? s.heap.objs.size = some { cls := .type "tuple", data := .seq #[.int i tk, y] } := (sb.2 _ (Nat.ne_of_gt le)).trans hT
    have nw : ObjOk X.prog X.w (upd H s.heap.objs.size (.tup [.int (i : Nat), x])) h2 s.heap.objs.size (.tup [.int (i : Nat), x]) := ⟨by show 2 ≤ sizeLine; decide, [.int i tk, y], .cons ⟨_, rfl⟩ (.cons ru .nil), ⟨_, hT2, rfl, _, rfl⟩⟩
    have I1 : Inv X pins σ (upd H s.heap.objs.size (.tup [.int (i : Nat), x])) { s with heap := h2, toks := tk + 1 } :=
      I.turnedNew (ch := [e, it]) (fun b ob hb q => (sb.2 b fun z => hb (by simp [z])).trans (hk b ob (fun z => hb (by simp [z])) (fun z => hb (by simp [z])) q)) hf (Nat.le_refl _) nw
    refine ⟨.ref s.heap.objs.size, _, I1, rfl, ⟨_, x, rfl, I.hok.fresh (Nat.le_refl _), rfl, fun ys hy => by rw [I.tuple_inj hy hq]; exact hx⟩, ⟨⟨y, ?_⟩, st'.1.at fun o q => (sb.2 it (Ne.symm hne)).trans q, hne, hae, hai⟩, fun b hb => ?_⟩
    · have e1 : ((i + 1 : Nat) : Int) = (i : Int) + 1 := by omega
      rw [e1]
      exact he2
    · have hb2 : b < s.heap.objs.size := by rcases (by simpa using hb : b = e ∨ b = it) with z | z <;> (subst z; assumption)
      rw [upd_ne (Nat.ne_of_lt hb2)]
      exact (hf b hb).1
  done := by
    intro X hP hw hK hc i pins s σ H E I hf st hg
    subst hP hw hK
    obtain ⟨⟨old, he⟩, hit, hne, hae, hai⟩ := st
    obtain ⟨xs, hq, hx⟩ := hg
    obtain ⟨its, rv, p, hz⟩ := I.tuple hq
    obtain ⟨f0, f1, f2, f3, f4, f5⟩ := hf it (by simp)
    have hl := rv.length
    exact enum_end_tup (I.ok.hd hc) he hit (show s.heap.IsTuple a its.toArray from p) (by simp; omega) fun h' eb => ⟨rfl, I.turned (t' := s.toks) (fun b o hb q => eb b o hb q) f0 f1 f3 f4 f5⟩
  self := fun A i s Q E st h => let ⟨⟨_, he⟩, _⟩ := st; wpAny_pyIter_enum he h
def iEnumT (K : PySem.W.Frag) (ta : TA) : TI := fun σ H R => ta σ H fun vs H1 => ∃ a xs, vs = [.ref a] ∧ SqT K H1 a xs ∧ R (IteT K a) H1
theorem pi_enumT {X : Cx} {e : Expr} {ta : TA} {p pos tpos : Pos} {elts : List Expr} {kk : Nat} (hg : Gl X "enumerate") (hm : X.mg "enumerate" = none) (ha : PA X [e] ta) (hs : starEach [e] X.env = [(false, eval e X.env)] := by rfl) :
    PI X (.Tuple elts kk tpos) (.Call (.Name "enumerate" p) [e] [] pos) (iEnumT X.K ta) := by
  refine ⟨fun pins s σ H R I h => Call_ (ld_blt I hg hm boot_enumerate (callWith_type1 (thn (ha.run pos pins s σ H _ I h) fun us s1 ⟨vs, H1, I1, r1, a, xs, ex, hq, q⟩ => ?_) hs rfl))⟩
  subst ex
  obtain ⟨u, rfl, r⟩ := vals1 r1
  cases r
  obtain ⟨its, rv, p', hz⟩ := I1.tuple hq
  have la : a < s1.heap.objs.size := by
    obtain ⟨o, ho, _⟩ := id p'
    exact Heap.lt_size ho
  refine call_enum_tup (show s1.heap.IsTuple a its.toArray from p') fun h' he hit hk => wpAny_pyIter_enum he ?_
  refine ⟨s1.heap.objs.size + 1, [s1.heap.objs.size + 1, s1.heap.objs.size], _, _, H1, rfl, I1.kept (t' := s1.toks) hk, turn_enumT a (s1.heap.objs.size + 1) s1.heap.objs.size, ⟨⟨.none, he⟩, hit, Nat.succ_ne_self _, Nat.ne_of_lt (Nat.lt_succ_of_lt la), Nat.ne_of_lt la⟩, fun b hb => ?_, q⟩
  have le : s1.heap.objs.size ≤ b := by
    rcases (by simpa using hb : b = s1.heap.objs.size + 1 ∨ b = s1.heap.objs.size) with z | z
    · rw [z]
      exact Nat.le_succ _
    · rw [z]
      exact Nat.le_refl _
  exact I1.fpOk le (I1.hok.fresh le)
section
variable {K : PySem.W.Frag} {a : Addr} {xs : List V} {g : TG} {tb : TS} {D : Ends} {σ : L2.St} {H : Hp}
/-- a loop over enumerate of a list -/
theorem for_enum (Pv : Nat → L2.St → Hp → Prop) (h0 : Pv 0 σ H) (hl : ∀ i σ H, i ≤ xs.length → Pv i σ H → SqL K H a xs)
    (hs : ∀ i x T σ H, xs[i]? = some x → H T = none → Pv i σ H → g (.ref T) σ (upd H T (.tup [.int (i : Nat), x])) fun σ2 H2 => tb { D with nx := Pv (i + 1), ct := Pv (i + 1), bk := D.nx } σ2 H2)
    (hd : ∀ σ H, Pv xs.length σ H → D.nx σ H) : ∃ W : Nat → Nat → L2.St → Hp → Prop, (∃ m, W 0 m σ H) ∧ ∀ i m σ H, W i m σ H → ((Ite K a).stop i H ∧ D.nx σ H) ∨ ((Ite K a).go i H ∧ ∃ N : L2.St → Hp → Prop,
      (∀ σ' H', N σ' H' → ∃ m', m' < m ∧ W (i + 1) m' σ' H') ∧ ∀ x H', (Ite K a).yld i H x H' → g x σ H' fun σ2 H2 => tb { D with nx := N, ct := N, bk := D.nx } σ2 H2) := by
  refine ⟨fun i m σ H => m + i = xs.length ∧ Pv i σ H, ⟨xs.length, rfl, h0⟩, ?_⟩
  rintro i m σ H ⟨hm, p⟩
  have q := hl i σ H (by omega) p
  by_cases c : i < xs.length
  · right
    refine ⟨⟨xs, xs[i], q, by simp [c]⟩, Pv (i + 1), fun σ' H' p' => ⟨m - 1, by omega, by omega, p'⟩, ?_⟩
    rintro _ _ ⟨T, x, rfl, hn, rfl, hx⟩
    exact hs i x T σ H (hx xs q) hn p
  · have ei : i = xs.length := by omega
    subst ei
    exact .inl ⟨⟨xs, q, Nat.le_refl _⟩, hd σ H p⟩
/-- .. of a tuple -/
theorem for_enumT (Pv : Nat → L2.St → Hp → Prop) (h0 : Pv 0 σ H) (hl : ∀ i σ H, i ≤ xs.length → Pv i σ H → SqT K H a xs)
    (hs : ∀ i x T σ H, xs[i]? = some x → H T = none → Pv i σ H → g (.ref T) σ (upd H T (.tup [.int (i : Nat), x])) fun σ2 H2 => tb { D with nx := Pv (i + 1), ct := Pv (i + 1), bk := D.nx } σ2 H2)
    (hd : ∀ σ H, Pv xs.length σ H → D.nx σ H) : ∃ W : Nat → Nat → L2.St → Hp → Prop, (∃ m, W 0 m σ H) ∧ ∀ i m σ H, W i m σ H → ((IteT K a).stop i H ∧ D.nx σ H) ∨ ((IteT K a).go i H ∧ ∃ N : L2.St → Hp → Prop,
      (∀ σ' H', N σ' H' → ∃ m', m' < m ∧ W (i + 1) m' σ' H') ∧ ∀ x H', (IteT K a).yld i H x H' → g x σ H' fun σ2 H2 => tb { D with nx := N, ct := N, bk := D.nx } σ2 H2) := by
  refine ⟨fun i m σ H => m + i = xs.length ∧ Pv i σ H, ⟨xs.length, rfl, h0⟩, ?_⟩
  rintro i m σ H ⟨hm, p⟩
  have q := hl i σ H (by omega) p
  by_cases c : i < xs.length
  · right
    refine ⟨⟨xs, xs[i], q, by simp [c]⟩, Pv (i + 1), fun σ' H' p' => ⟨m - 1, by omega, by omega, p'⟩, ?_⟩
    rintro _ _ ⟨T, x, rfl, hn, rfl, hx⟩
    exact hs i x T σ H (hx xs q) hn p
  · have ei : i = xs.length := by omega
    subst ei
    exact .inl ⟨⟨xs, q, Nat.le_refl _⟩, hd σ H p⟩
end
/-! xs[i] op= e on a list -/
def rGetL (K : PySem.W.Frag) : V → V → Hp → VK → Prop := fun x y H Q => ∃ (p : Addr) (xs : List V) (j : Nat) (v : V), x = .ref p ∧ y = .int (j : Nat) ∧ SqL K H p xs ∧ xs[j]? = some v ∧ Q v H
theorem get_list {X : Cx} : PGet X (rGetL X.K) := by
  intro pins s σ H o i ov iv Q I ro ri h
  obtain ⟨p, xs, j, v, rfl, rfl, hx, hv, q⟩ := h
  cases ro
  obtain ⟨t, rfl⟩ := ri
  obtain ⟨its, rv, pl, hz⟩ := I.list hx
  obtain ⟨u, hu, ru⟩ := rv.get hv
  have hj : j < xs.length := (List.getElem?_eq_some_iff.mp hv).1
  have hn := line63
  refine wpAny_getItem_list pl.isList (by omega) ?_ (by simpa using hu) ⟨v, H, I, ru, q⟩
  have : (j : Int) < (xs.length : Int) := by omega
  omega
end KX
end
/-! KZip -/
section
set_option Elab.async false
set_option linter.all false
set_option maxRecDepth 100000
set_option maxHeartbeats 4000000
/-! list(zip(xs, ys)) of two lists -/
namespace KZ
open PySem PySem.Calls PySem.Spec PyProof.Rows PySem.W
/-- a zip, the tuples that it gave are kept -/
structure ZS (h : Heap) (z TI TO i1 i2 l1 l2 : Addr) (xs ys : Array Value) (i : Nat) : Prop where
  ti : IsPair h TI (.ref i1) (.ref i2)
  a1 : h.IsListIter i1 l1 i
  a2 : h.IsListIter i2 l2 i
  b1 : h.IsList l1 xs
  b2 : h.IsList l2 ys
  out : (IsZip h z TI TO .none ∧ ∃ a b, IsPair h TO a b) ∨ ∃ T f oT, IsZipHeld h z TI TO T f ∧ h.get? T = some oT ∧ T ∉ [z, TO, i1, i2]
section
variable {prog : Program} {w : World} {A : Around} {E : Value → Shared → Prop} {s : Shared} {z TI TO i1 i2 l1 l2 : Addr} {xs ys : Array Value} {i : Nat}
theorem ZS.zip {h : Heap} (x : ZS h z TI TO i1 i2 l1 l2 xs ys i) : ∃ o, h.get? z = some o ∧ o.cls = .type "zip" := by
  rcases x.out with ⟨e, _⟩ | ⟨T, f, oT, e, _⟩ <;> exact ⟨_, e, rfl⟩
theorem ZS.keep {h h' : Heap} {S : Addr} (x : ZS h z TI TO i1 i2 l1 l2 xs ys i) (hk : ∀ b o, b ≠ S → h.get? b = some o → h'.get? b = some o) (hS : S ∉ [z, TI, TO, i1, i2, l1, l2]) (hT : ∀ T f, IsZipHeld h z TI TO T f → T ≠ S) : ZS h' z TI TO i1 i2 l1 l2 xs ys i := by
  simp only [List.mem_cons, List.not_mem_nil, or_false, not_or] at hS
  obtain ⟨n1, n2, n3, n4, n5, n6, n7⟩ := hS
  refine ⟨hk _ _ (Ne.symm n2) x.ti, x.a1.at fun o e => hk _ o (Ne.symm n4) e, x.a2.at fun o e => hk _ o (Ne.symm n5) e, x.b1.at fun o e => hk _ o (Ne.symm n6) e, x.b2.at fun o e => hk _ o (Ne.symm n7) e, ?_⟩
  rcases x.out with ⟨e, a, b, p⟩ | ⟨T, f, oT, e, q, r⟩
  · exact .inl ⟨hk _ _ (Ne.symm n1) e, a, b, hk _ _ (Ne.symm n3) p⟩
  · exact .inr ⟨T, f, oT, hk _ _ (Ne.symm n1) e, hk _ _ (hT T f e) q, r⟩
theorem ZS.next (D : ZipApart z TI TO i1 i2 l1 l2) {x y : Value} {Q : Option Value → Shared → Prop} (Z : ZS s.heap z TI TO i1 i2 l1 l2 xs ys i) (hx : xs[i]? = some x) (hy : ys[i]? = some y) (hTO : TO < s.heap.objs.size)
    (hq : ∀ h', ZS h' z TI TO i1 i2 l1 l2 xs ys (i + 1) → (∀ T f, IsZipHeld h' z TI TO T f → T = s.heap.objs.size ∨ ∃ g, IsZipHeld s.heap z TI TO T g) → IsPair h' s.heap.objs.size x y → h'.objs.size = s.heap.objs.size + 1 → (∀ c o, c ∉ [z, TO, i1, i2] → s.heap.get? c = some o → h'.get? c = some o) → Q (some (.ref s.heap.objs.size)) { s with heap := h' }) :
    wpAny (model prog w) A (pyNext (.ref z)) Q E s := by
  obtain ⟨oz, hz, _⟩ := Z.zip
  have l1' : z < s.heap.objs.size := Heap.lt_size hz
  have l2' : i1 < s.heap.objs.size := by
    obtain ⟨_, e, _⟩ := Z.a1
    exact Heap.lt_size e
  have l3' : i2 < s.heap.objs.size := by
    obtain ⟨_, e, _⟩ := Z.a2
    exact Heap.lt_size e
  have fresh : s.heap.objs.size ∉ [z, TO, i1, i2] := by
    simp only [List.mem_cons, List.not_mem_nil, or_false, not_or]
    exact ⟨Nat.ne_of_gt l1', Nat.ne_of_gt hTO, Nat.ne_of_gt l2', Nat.ne_of_gt l3'⟩
  have off : ∀ {c : Addr}, c ∉ [z, TO, i1, i2] → c ≠ z ∧ c ≠ TO ∧ c ≠ i1 ∧ c ≠ i2 := fun {c} hc => by
    simpa only [List.mem_cons, List.not_mem_nil, or_false, not_or] using hc
  rcases Z.out with ⟨e, a, b, p⟩ | ⟨T, f, oT, e, q, r⟩
  · refine wpAny_pyNext_zip_item D e Z.ti p Z.a1 Z.a2 Z.b1 Z.b2 hx hy fun h' g1 g2 g3 g4 g5 g6 g7 => ?_
    have k : ∀ c o, c ∉ [z, TO, i1, i2] → s.heap.get? c = some o → h'.get? c = some o := fun c o hc e => g7 c o (off hc).1 (off hc).2.1 (off hc).2.2.1 (off hc).2.2.2 e
    refine hq h' ⟨k _ _ (by simp [D.TIz, D.TITO, D.TIi1, D.TIi2]) Z.ti, g3, g4, Z.b1.at fun o e => k _ o (by simp [D.l1z, D.l1TO, D.l1i1, D.l1i2]) e, Z.b2.at fun o e => k _ o (by simp [D.l2z, D.l2TO, D.l2i1, D.l2i2]) e, .inr ⟨s.heap.objs.size, false, _, g1, g5, fresh⟩⟩ (fun T f e2 => ?_) g5 g6 k
    have e3 := (show IsZipHeld h' z TI TO s.heap.objs.size false from g1).symm.trans e2
    injection e3 with e3
    injection e3 with _ _ e4
    injection e4 with e4
    have e5 := congrArg (fun v : Array Value => v[0]?) e4
    simp only [List.getElem?_toArray, List.getElem?_cons_zero, Option.some.injEq, rawInt, Value.int.injEq] at e5
    exact .inl (by have := e5.1; exact (Int.ofNat.inj this).symm)
  · refine wpAny_pyNext_zip_item_held D e q Z.ti Z.a1 Z.a2 Z.b1 Z.b2 hx hy fun h' g1 g3 g4 g5 g6 g7 => ?_
    have k : ∀ c o, c ∉ [z, TO, i1, i2] → s.heap.get? c = some o → h'.get? c = some o := fun c o hc e => g7 c o (off hc).1 (off hc).2.2.1 (off hc).2.2.2 e
    refine hq h' ⟨k _ _ (by simp [D.TIz, D.TITO, D.TIi1, D.TIi2]) Z.ti, g3, g4, Z.b1.at fun o e => k _ o (by simp [D.l1z, D.l1TO, D.l1i1, D.l1i2]) e, Z.b2.at fun o e => k _ o (by simp [D.l2z, D.l2TO, D.l2i1, D.l2i2]) e, .inr ⟨T, true, _, g1, k _ _ r q, r⟩⟩ (fun T' f' e2 => ?_) g5 g6 k
    have e3 := (show IsZipHeld h' z TI TO T true from g1).symm.trans e2
    injection e3 with e3
    injection e3 with _ _ e4
    injection e4 with e4
    have e5 := congrArg (fun v : Array Value => v[0]?) e4
    simp only [List.getElem?_toArray, List.getElem?_cons_zero, Option.some.injEq, rawInt, Value.int.injEq] at e5
    refine .inr ⟨f, ?_⟩
    have e6 : T = T' := Int.ofNat.inj e5.1
    rw [← e6]
    exact e
theorem ZS.done (D : ZipApart z TI TO i1 i2 l1 l2) {Q : Option Value → Shared → Prop} (hh : A.handled = none) (Z : ZS s.heap z TI TO i1 i2 l1 l2 xs ys i) (hend : xs[i]? = none ∨ ys[i]? = none)
    (hq : ∀ h', (∀ c o, c ∉ [z, TO, i1, i2] → s.heap.get? c = some o → h'.get? c = some o) → Q none { s with heap := h' }) : wpAny (model prog w) A (pyNext (.ref z)) Q E s := by
  have off : ∀ {c : Addr}, c ∉ [z, TO, i1, i2] → c ≠ z ∧ c ≠ TO ∧ c ≠ i1 ∧ c ≠ i2 := fun {c} hc => by
    simpa only [List.mem_cons, List.not_mem_nil, or_false, not_or] using hc
  rcases Z.out with ⟨e, a, b, p⟩ | ⟨T, f, oT, e, q, r⟩
  · exact wpAny_pyNext_zip_end hh D e Z.ti p Z.a1 Z.a2 Z.b1 Z.b2 hend fun h' k => hq h' fun c o hc e => k c o (off hc).1 (off hc).2.1 (off hc).2.2.1 (off hc).2.2.2 e
  · exact wpAny_pyNext_zip_end_held hh D e q Z.ti Z.a1 Z.a2 Z.b1 Z.b2 hend fun h' k => hq h' fun c o hc e => k c o (off hc).1 (off hc).2.2.1 (off hc).2.2.2 e
end
/-- the pairs laid so far -/
structure ZG (xs ys : Array Value) (lo : Addr) (h : Heap) (as : List Addr) : Prop where
  rise : as.Pairwise (· < ·)
  above : ∀ a ∈ as, lo < a ∧ a < h.objs.size
  pairs : ∀ (j : Nat) (a : Addr), as[j]? = some a → ∃ x y, xs[j]? = some x ∧ ys[j]? = some y ∧ IsPair h a x y
section
variable {prog : Program} {w : World} {A : Around} {s : Shared} {R : Result → Shared → Prop} {z TI TO i1 i2 l1 l2 S : Addr} {xs ys : Array Value}
/-- what list.extend's own loop asks: from i pairs on -/
theorem zip_loop (D : ZipApart z TI TO i1 i2 l1 l2) (hh : A.handled = none) (hz : xs.size ≤ sizeLine) (res : Value) (hS : S ∉ [z, TI, TO, i1, i2, l1, l2]) (keepB : Addr → Prop) (hkb : ∀ b, keepB b → b ≠ S ∧ b ∉ [z, TO, i1, i2]) {h0 : Heap}
    (hR : ∀ h' tk acc c as, (∀ b o, keepB b → h0.get? b = some o → h'.get? b = some o) → h'.get? S = some { cls := .type "list", dict := none, data := .seq acc c, slots := #[] } → as.length = min xs.size ys.size → ZG xs ys S h' as → acc.toList = as.map Value.ref → R (.ok (.ret res)) { s with heap := h', toks := tk }) :
    ∀ (k i : Nat) (h : Heap) (tk c : Nat) (acc : Array Value) (as : List Addr), min xs.size ys.size - i = k → i ≤ min xs.size ys.size → ZS h z TI TO i1 i2 l1 l2 xs ys i → (∀ T f, IsZipHeld h z TI TO T f → T ≠ S) → (∀ b o, keepB b → h0.get? b = some o → h.get? b = some o) →
      h.get? S = some { cls := .type "list", dict := none, data := .seq acc c, slots := #[] } → acc.toList = as.map Value.ref → as.length = i → ZG xs ys S h as → (∀ a ∈ as, a ∉ [z, TO, i1, i2]) → TO < h.objs.size →
      codeAny (model prog w) A (.builtin "list.extend.loop" ⟨[.ref S, .ref z, res], []⟩) R { s with heap := h, toks := tk } := by
  have hS' := hS
  simp only [List.mem_cons, List.not_mem_nil, or_false, not_or] at hS'
  have hS4 : S ∉ [z, TO, i1, i2] := by
    simp only [List.mem_cons, List.not_mem_nil, or_false, not_or]
    exact ⟨hS'.1, hS'.2.2.1, hS'.2.2.2.1, hS'.2.2.2.2.1⟩
  intro k
  induction k with
  | zero =>
    intro i h tk c acc as hk hi Z hT hkeep hSat hacc hal G hoff hTO
    refine codeAny_builtin PySem.F.entry_extend_loop ?_
    rw [Around.under_plainId PySem.F.plain_extend_loop _]
    have hend : xs[i]? = none ∨ ys[i]? = none := by
      by_cases q : xs.size ≤ i
      · exact .inl (Array.getElem?_eq_none q)
      · exact .inr (Array.getElem?_eq_none (by omega))
    refine wpAny_bind (m := pyNext (.ref z)) (Z.done (s := { s with heap := h, toks := tk }) (A := A.in1) D hh hend fun h' hk' => ?_)
    refine wpAny_pure (hR h' tk acc c as (fun b o hb e => hk' b o (hkb b hb).2 (hkeep b o hb e)) (hk' S _ hS4 hSat) (by omega) ⟨G.rise, fun a ha => ?_, fun j a hj => ?_⟩ hacc)
    · obtain ⟨j, hj⟩ := List.mem_iff_getElem?.mp ha
      obtain ⟨x, y, _, _, e3⟩ := G.pairs j a hj
      exact ⟨(G.above a ha).1, Heap.lt_size (hk' a _ (hoff a ha) e3)⟩
    · obtain ⟨x, y, e1, e2, e3⟩ := G.pairs j a hj
      exact ⟨x, y, e1, e2, hk' a _ (hoff a (List.mem_of_getElem? hj)) e3⟩
  | succ k ih =>
    intro i h tk c acc as hk hi Z hT hkeep hSat hacc hal G hoff hTO
    have hx1 : i < xs.size := by omega
    have hy1 : i < ys.size := by omega
    have hx := Array.getElem?_eq_getElem hx1
    have hy := Array.getElem?_eq_getElem hy1
    have hsz : acc.size = i := by
      have e := congrArg List.length hacc
      rw [List.length_map, hal] at e
      simpa using e
    refine codeAny_builtin PySem.F.entry_extend_loop ?_
    rw [Around.under_plainId PySem.F.plain_extend_loop _]
    refine wpAny_bind (m := pyNext (.ref z)) (ZS.next (s := { s with heap := h, toks := tk }) (A := A.in1) D Z hx hy hTO fun h' Z' hT' hp hsz' hk' => ?_)
    dsimp only at hT' hp hsz' hk' ⊢
    have lS : S < h.objs.size := Heap.lt_size hSat
    have hSat' := hk' S _ hS4 hSat
    have up : ∀ b o, b ≠ S → h'.get? b = some o → (h'.update S (Obj.mapSeq (·.push (Value.ref h.objs.size)))).get? b = some o := fun b o hb e => (Heap.get?_update_other _ _ (Ne.symm hb)).trans e
    have hT2 : ∀ T f, IsZipHeld h' z TI TO T f → T ≠ S := fun T f e => by
      rcases hT' T f e with q | ⟨g, q⟩
      · rw [q]
        exact Nat.ne_of_gt lS
      · exact hT T g q
    have hgS := Heap.get?_update_self (Obj.mapSeq (·.push (Value.ref h.objs.size))) hSat' rfl
    have hzo : (h'.update S (Obj.mapSeq (·.push (Value.ref h.objs.size)))).get? z = h'.get? z := Heap.get?_update_other _ _ hS'.1
    refine wpAny_bind (m := updateSeq S (·.push (Value.ref h.objs.size))) (wpAny_updateSeq hSat' rfl (wpAny_pure ⟨plainId_quiet PySem.F.plain_extend_loop _, ?_⟩) (by show acc.size ≤ sizeLine; omega) (by show (acc.push (Value.ref h.objs.size)).size ≤ sizeLine + 1; rw [Array.size_push]; omega))
    refine ih (i + 1) _ tk _ (acc.push (Value.ref h.objs.size)) (as ++ [h.objs.size]) (by omega) (by omega) (Z'.keep up hS hT2) (fun T f e => hT2 T f (hzo.symm.trans e)) (fun b o hb e => up b o (hkb b hb).1 (hk' b o (hkb b hb).2 (hkeep b o hb e))) hgS (by rw [Array.toList_push, hacc, List.map_append]; rfl) (by rw [List.length_append, hal]; rfl) ⟨?_, ?_, ?_⟩ ?_ ?_
    · refine List.pairwise_append.mpr ⟨G.rise, List.pairwise_singleton _ _, fun a ha b hb => ?_⟩
      rw [List.mem_singleton.mp hb]
      exact (G.above a ha).2
    · intro a ha
      rcases List.mem_append.mp ha with ha | ha
      · obtain ⟨j, hj⟩ := List.mem_iff_getElem?.mp ha
        obtain ⟨x, y, _, _, e3⟩ := G.pairs j a hj
        exact ⟨(G.above a ha).1, Heap.lt_size (up a _ (Nat.ne_of_gt (G.above a ha).1) (hk' a _ (hoff a ha) e3))⟩
      · rw [List.mem_singleton.mp ha]
        exact ⟨lS, Heap.lt_size (up _ _ (Nat.ne_of_gt lS) hp)⟩
    · intro j b hj
      by_cases h1 : j < as.length
      · rw [List.getElem?_append_left h1] at hj
        obtain ⟨x, y, e1, e2, e3⟩ := G.pairs j b hj
        exact ⟨x, y, e1, e2, up b _ (Nat.ne_of_gt (G.above b (List.mem_of_getElem? hj)).1) (hk' b _ (hoff b (List.mem_of_getElem? hj)) e3)⟩
      · rw [List.getElem?_append_right (by omega)] at hj
        have h2 : j - as.length = 0 := by
          have := (List.getElem?_eq_some_iff.mp hj).1
          simp at this
          omega
        rw [h2] at hj
        have hb : h.objs.size = b := by simpa using hj
        have hji : j = i := by omega
        subst hb hji
        exact ⟨_, _, hx, hy, up _ _ (Nat.ne_of_gt lS) hp⟩
    · intro a ha
      rcases List.mem_append.mp ha with ha | ha
      · exact hoff a ha
      · rw [List.mem_singleton.mp ha]
        obtain ⟨oz, hz', _⟩ := Z.zip
        have q1 : z < h.objs.size := Heap.lt_size hz'
        have q2 : i1 < h.objs.size := by
          obtain ⟨_, e, _⟩ := Z.a1
          exact Heap.lt_size e
        have q3 : i2 < h.objs.size := by
          obtain ⟨_, e, _⟩ := Z.a2
          exact Heap.lt_size e
        simp only [List.mem_cons, List.not_mem_nil, or_false, not_or]
        exact ⟨Nat.ne_of_gt q1, Nat.ne_of_gt hTO, Nat.ne_of_gt q2, Nat.ne_of_gt q3⟩
    · have e : (h'.update S (Obj.mapSeq (·.push (Value.ref h.objs.size)))).get? h.objs.size = _ := up _ _ (Nat.ne_of_gt lS) hp
      exact Nat.lt_trans hTO (Heap.lt_size e)
end
theorem zip_no_len : typeLookup (.type "zip") "__len__" = pure none := am_miss_of_fast (by decide +kernel)
theorem zip_no_hint : typeLookup (.type "zip") "__length_hint__" = pure none := am_miss_of_fast (by decide +kernel)
theorem zip_hint {prog : Program} {w : World} {A : Around} {E : Value → Shared → Prop} {s : Shared} {z : Addr} (hT : s.TypeIs (.ref z) "zip") {Q : Bool → Shared → Prop} (h : Q true s) : wpAny (model prog w) A (Builtin.List.listLengthHint (.ref z)) Q E s := by
  unfold Builtin.List.listLengthHint
  refine wpAny_bind (wpAny_specialOf hT zip_no_len ?_)
  repeat (any_goals (first | assumption | (with_reducible refine wpAny_specialOf hT zip_no_hint ?_) | wp_step))
section
variable {prog : Program} {w : World} {A : Around} {E : Value → Shared → Prop} {s : Shared} {z TI TO i1 i2 l1 l2 S : Addr} {xs ys : Array Value}
theorem zip_extend {R : Result → Shared → Prop} (D : ZipApart z TI TO i1 i2 l1 l2) (hh : A.handled = none) (hz : xs.size ≤ sizeLine) (res : Value) (hS : S ∉ [z, TI, TO, i1, i2, l1, l2]) (keepB : Addr → Prop) (hkb : ∀ b, keepB b → b ≠ S ∧ b ∉ [z, TO, i1, i2])
    (Z0 : IsZip s.heap z TI TO .none) (Z : ZS s.heap z TI TO i1 i2 l1 l2 xs ys 0) (hTO : TO < s.heap.objs.size) (c0 : Nat) (hSat : s.heap.get? S = some { cls := .type "list", data := .seq #[] c0 })
    (hR : ∀ h' tk acc c as, (∀ b o, keepB b → s.heap.get? b = some o → h'.get? b = some o) → h'.get? S = some { cls := .type "list", dict := none, data := .seq acc c, slots := #[] } → as.length = min xs.size ys.size → ZG xs ys S h' as → acc.toList = as.map Value.ref → R (.ok (.ret res)) { s with heap := h', toks := tk }) :
    wpAny (model prog w) A.in1 (Builtin.List.listExtendWith (.ref S) (.ref z) res) (fun fin s' => match fin with | .done f => R (.ok f) s' | .again c' => c'.quiet = true ∧ codeAny (model prog w) A c' R s') (fun e s' => R (.error e) s') s := by
  have hSz : S ≠ z := fun q => hS (by rw [q]; simp)
  have ty : s.TypeIs (.ref z) "zip" := ⟨_, Z0, rfl⟩
  unfold Builtin.List.listExtendWith
  refine wpAny_bind (wpAny_typeOf (T := "zip") ty ?_)
  have c1 : Builtin.List.listSameRef (.ref S) (.ref z) = false := by simp [Builtin.List.listSameRef, hSz]
  have c2 : (Value.type "zip" == Value.type "list") = false := by decide
  have c3 : (Value.type "zip" == Value.type "tuple") = false := by decide
  simp only [c1, c2, c3, Bool.or_false, Bool.false_eq_true, if_false]
  refine wpAny_bind (wpAny_pyIter_zip Z0 (wpAny_bind (wpAny_holding (zip_hint ty ?_))))
  refine wpAny_ite_split (fun _ => ?_) (fun q => absurd rfl q)
  refine wpAny_bind (wpAny_rule (wpAny_bind ?_))
  refine wpAny_bind (m := updateSeq S (·.push .none)) (wpAny_updateSeq hSat rfl ?_)
  have g1 := Heap.get?_update_self (Obj.mapSeq (·.push Value.none)) hSat rfl
  refine wpAny_updateSeq (hz := by seq_fits) g1 rfl ?_
  have g2 := Heap.get?_update_self (Obj.mapSeq (·.pop)) g1 rfl
  have oth : ∀ b o, b ≠ S → s.heap.get? b = some o → ((s.heap.update S (Obj.mapSeq (·.push Value.none))).update S (Obj.mapSeq (·.pop))).get? b = some o := fun b o hb e => (Heap.get?_update_other _ _ (Ne.symm hb)).trans ((Heap.get?_update_other _ _ (Ne.symm hb)).trans e)
  have back : ∀ o, ((s.heap.update S (Obj.mapSeq (·.push Value.none))).update S (Obj.mapSeq (·.pop))).get? z = some o → s.heap.get? z = some o := fun o e => by
    rw [Heap.get?_update_other _ _ hSz, Heap.get?_update_other _ _ hSz] at e
    exact e
  have nh : ∀ T f, IsZipHeld s.heap z TI TO T f → T ≠ S := fun T f e => by
    have e3 := Z0.symm.trans e
    injection e3 with e3
    injection e3 with _ _ e4
    injection e4 with e4
    have e5 := congrArg (fun v : Array Value => v[0]?) e4
    simp [rawInt] at e5
  refine wpAny_pure ⟨plainId_quiet PySem.F.plain_extend_loop _, ?_⟩
  refine zip_loop (s := s) (h0 := s.heap) D hh hz res hS keepB hkb hR _ 0 _ s.toks _ #[] [] rfl (Nat.zero_le _) (Z.keep oth hS nh) (fun T f e => nh T f (back _ e)) (fun b o hb e => oth b o (hkb b hb).1 e) g2 rfl rfl ⟨List.Pairwise.nil, (fun a ha => nomatch ha), (fun j a hj => by simp at hj)⟩ (fun a ha => nomatch ha) ?_
  have e : ∀ (h : Heap) (f : Obj → Obj), (h.update S f).objs.size = h.objs.size := fun h f => (Heap.SameBut.update h S f).1
  rw [e, e]
  exact hTO
theorem zip_init {R : Result → Shared → Prop} (D : ZipApart z TI TO i1 i2 l1 l2) (hh : A.handled = none) (hz : xs.size ≤ sizeLine) (hS : S ∉ [z, TI, TO, i1, i2, l1, l2]) (keepB : Addr → Prop) (hkb : ∀ b, keepB b → b ≠ S ∧ b ∉ [z, TO, i1, i2])
    (Z0 : IsZip s.heap z TI TO .none) (Z : ZS s.heap z TI TO i1 i2 l1 l2 xs ys 0) (hTO : TO < s.heap.objs.size) (hSat : s.heap.get? S = some { cls := .type "list", data := .seq #[] })
    (hR : ∀ h' tk acc c as, (∀ b o, keepB b → s.heap.get? b = some o → h'.get? b = some o) → h'.get? S = some { cls := .type "list", dict := none, data := .seq acc c, slots := #[] } → as.length = min xs.size ys.size → ZG xs ys S h' as → acc.toList = as.map Value.ref → R (.ok (.ret .none)) { s with heap := h', toks := tk }) :
    wpAny (model prog w) A.in1 (Builtin.«list.__init__» ⟨[.ref S, .ref z], []⟩) (fun fin s' => match fin with | .done f => R (.ok f) s' | .again c' => c'.quiet = true ∧ codeAny (model prog w) A c' R s') (fun e s' => R (.error e) s') s := by
  show wpAny _ _ (do let old ← Builtin.List.listItems (.ref S); Builtin.List.listUpdate (.ref S) (fun _ => #[]); letGo old.toList.reverse; Builtin.List.listExtendWith (.ref S) (.ref z) .none) _ _ s
  refine wpAny_bind ?_
  unfold Builtin.List.listItems
  refine wpAny_bind (wpAny_seqItems hSat rfl (wpAny_pure (wpAny_bind (m := updateSeq S (fun _ => #[])) (wpAny_updateSeq hSat rfl (wpAny_bind (wpAny_letGo ?_))))))
  have hSz : S ≠ z := fun q => hS (by rw [q]; simp)
  have g1 := Heap.get?_update_self (Obj.mapSeq (fun _ => (#[] : Array Value))) hSat rfl
  have oth : ∀ b o, b ≠ S → s.heap.get? b = some o → (s.heap.update S (Obj.mapSeq (fun _ => (#[] : Array Value)))).get? b = some o := fun b o hb e => (Heap.get?_update_other _ _ (Ne.symm hb)).trans e
  have nh : ∀ T f, IsZipHeld s.heap z TI TO T f → T ≠ S := fun T f e => by
    have e3 := Z0.symm.trans e
    injection e3 with e3
    injection e3 with _ _ e4
    injection e4 with e4
    have e5 := congrArg (fun v : Array Value => v[0]?) e4
    simp [rawInt] at e5
  refine zip_extend (s := { s with heap := s.heap.update S (Obj.mapSeq (fun _ => (#[] : Array Value))) }) D hh hz .none hS keepB hkb (oth _ _ (Ne.symm hSz) Z0) (Z.keep oth hS nh) ?_ _ g1 fun h' tk acc c as hk q1 q2 q3 q4 => hR h' tk acc c as (fun b o hb e => hk b o hb (oth b o (hkb b hb).1 e)) q1 q2 q3 q4
  show TO < (s.heap.update S (Obj.mapSeq (fun _ => (#[] : Array Value)))).objs.size
  rw [(Heap.SameBut.update s.heap S (Obj.mapSeq (fun _ => (#[] : Array Value)))).1]
  exact hTO
theorem zip_list {Q : Value → Shared → Prop} (D : ZipApart z TI TO i1 i2 l1 l2) (hh : A.handled = none) (hz : xs.size ≤ sizeLine) (keepB : Addr → Prop) (hkb : ∀ b, keepB b → b < s.heap.objs.size ∧ b ∉ [z, TO, i1, i2])
    (Z0 : IsZip s.heap z TI TO .none) (Z : ZS s.heap z TI TO i1 i2 l1 l2 xs ys 0) (hlt : ∀ a ∈ [z, TI, TO, i1, i2, l1, l2], a < s.heap.objs.size)
    (hQ : ∀ h' tk acc c as, (∀ b o, keepB b → s.heap.get? b = some o → h'.get? b = some o) → h'.get? s.heap.objs.size = some { cls := .type "list", dict := none, data := .seq acc c, slots := #[] } → as.length = min xs.size ys.size → ZG xs ys s.heap.objs.size h' as → acc.toList = as.map Value.ref → Q (.ref s.heap.objs.size) { s with heap := h', toks := tk }) :
    wpAny (model prog w) A (call (.type "list") [.ref z]) Q E s := by
  refine callType_codes (Q₁ := fun obj s₁ => obj = .ref s.heap.objs.size ∧ s₁ = { s with heap := s.heap.push { cls := .type "list", data := .seq #[] } }) PySem.F.called_list (PySem.F.typeCall_list_1 _) PySem.F.entry_list_init (code_list_new _ ⟨rfl, rfl⟩) fun obj s₁ h₁ => ?_
  obtain ⟨rfl, rfl⟩ := h₁
  have hS : (s.heap.push { cls := .type "list", data := .seq #[] }).get? s.heap.objs.size = some { cls := .type "list", data := .seq #[] } := Heap.get?_push_size _ rfl
  have up : ∀ b o, s.heap.get? b = some o → (s.heap.push { cls := .type "list", data := .seq #[] }).get? b = some o := fun b o e => Heap.get?_push_of_some _ e
  have hno : s.heap.objs.size ∉ [z, TI, TO, i1, i2, l1, l2] := fun q => Nat.lt_irrefl _ (hlt _ q)
  have nh : ∀ T f, IsZipHeld s.heap z TI TO T f → T ≠ s.heap.objs.size := fun T f e => by
    have e3 := Z0.symm.trans e
    injection e3 with e3
    injection e3 with _ _ e4
    injection e4 with e4
    have e5 := congrArg (fun v : Array Value => v[0]?) e4
    simp [rawInt] at e5
  have lTO : TO < s.heap.objs.size := hlt TO (by simp)
  refine ⟨⟨_, hS, rfl⟩, PySem.F.args_list_init_2 _ _, zip_init (s := { s with heap := s.heap.push { cls := .type "list", data := .seq #[] } }) (A := A.in1) D hh hz hno keepB (fun b hb => ⟨Nat.ne_of_lt (hkb b hb).1, (hkb b hb).2⟩) (up _ _ Z0) (Z.keep (fun b o _ e => up b o e) hno nh) ?_ hS fun h' tk acc c as hk q1 q2 q3 q4 => ⟨rfl, hQ h' tk acc c as (fun b o hb e => hk b o hb (up b o e)) q1 q2 q3 q4⟩⟩
  show TO < (s.heap.push _).objs.size
  rw [Heap.size_push]
  exact Nat.lt_succ_of_lt lTO
end
end KZ
end
/-! KZip2 -/
section
set_option Elab.async false
set_option linter.all false
set_option maxRecDepth 100000
set_option maxHeartbeats 4000000
namespace KZ
open PySem PySem.Calls PySem.Spec PyProof.Rows L2
/-- new tuples at the addresses -/
def lay : Hp → List Addr → List (List V) → Hp
  | H, a :: as, t :: ts => lay (upd H a (.tup t)) as ts
  | H, _, _ => H
theorem lay_off {b : Addr} : ∀ {as : List Addr} {ts : List (List V)} {H : Hp}, b ∉ as → lay H as ts b = H b
  | [], _, _, _ => rfl
  | _ :: _, [], _, _ => rfl
  | a :: as, t :: ts, H, h => by
    simp only [List.mem_cons, not_or] at h
    rw [lay, lay_off h.2, upd_ne h.1]
theorem lay_on : ∀ {as : List Addr} {ts : List (List V)} {H : Hp}, as.length = ts.length → as.Nodup → ∀ (j : Nat) (a : Addr), as[j]? = some a → ∃ t, ts[j]? = some t ∧ lay H as ts a = some (.tup t)
  | [], _, _, _, _, j, a, h => by simp at h
  | _ :: _, [], _, h, _, _, _, _ => by simp at h
  | a :: as, t :: ts, H, hl, hn, j, b, hj => by
    have hn' := List.nodup_cons.mp hn
    cases j with
    | zero =>
      have e : a = b := by simpa using hj
      subst e
      exact ⟨t, rfl, by rw [lay, lay_off hn'.1, upd_same]⟩
    | succ j =>
      have hj' : as[j]? = some b := by simpa using hj
      exact lay_on (H := upd H a (.tup t)) (by simpa using hl) hn'.2 j b hj'
theorem vals_refs : ∀ as : List Addr, Vals (as.map V.ref) (as.map Value.ref)
  | [] => .nil
  | _ :: as => .cons rfl (vals_refs as)
def pairsOf (xs ys : List V) : List (List V) := (xs.zip ys).map fun p => [p.1, p.2]
theorem pairs_len (xs ys : List V) : (pairsOf xs ys).length = min xs.length ys.length := by
  unfold pairsOf
  rw [List.length_map, List.length_zip]
theorem pairs_get {xs ys : List V} {j : Nat} {t : List V} (h : (pairsOf xs ys)[j]? = some t) : ∃ x y, xs[j]? = some x ∧ ys[j]? = some y ∧ t = [x, y] := by
  unfold pairsOf at h
  rw [List.getElem?_map] at h
  cases e : (xs.zip ys)[j]? with
  | none =>
    rw [e] at h
    cases h
  | some p =>
    rw [e] at h
    obtain ⟨x, y⟩ := p
    obtain ⟨h1, h2⟩ := List.getElem?_zip_eq_some.mp e
    exact ⟨x, y, h1, h2, (Option.some.inj h).symm⟩
section
variable {X : Cx}
theorem laid {pins : List (Addr × Obj)} {σ : L2.St} {H : Hp} {s : Shared} {h' : Heap} {tk c : Nat} {acc : Array Value} {as : List Addr} {p : Addr} {xs ys : List V} {us vs : List Value} (I : Inv X pins σ H s) (rx : Vals xs us) (ry : Vals ys vs) (hz : xs.length ≤ sizeLine)
    (hk : ∀ b o, s.heap.get? b = some o → h'.get? b = some o) (hp : s.heap.objs.size ≤ p) (hS : h'.get? p = some { cls := .type "list", dict := none, data := .seq acc c, slots := #[] }) (hl : as.length = min us.toArray.size vs.toArray.size) (G : ZG us.toArray vs.toArray p h' as) (hacc : acc.toList = as.map Value.ref) :
    ∃ H' : Hp, (∀ b o, H b = some o → H' b = some o) ∧ H p = none ∧ (∀ t ∈ as, H t = none) ∧ H' p = some (.lst (as.map V.ref)) ∧ as.length = (pairsOf xs ys).length ∧ (∀ (j : Nat) (a : Addr), as[j]? = some a → ∃ t, (pairsOf xs ys)[j]? = some t ∧ H' a = some (.tup t)) ∧ Inv X pins σ H' { s with heap := h', toks := tk } := by
  have lx : xs.length = us.length := rx.length
  have ly : ys.length = vs.length := ry.length
  have hlen : as.length = (pairsOf xs ys).length := by
    rw [pairs_len, hl, List.size_toArray, List.size_toArray]
    omega
  have nd : as.Nodup := G.rise.imp fun h => Nat.ne_of_lt h
  have pn : p ∉ as := fun q => Nat.lt_irrefl _ (G.above _ q).1
  have new : ∀ t ∈ as, H t = none := fun t ht => I.hok.fresh (Nat.le_trans hp (Nat.le_of_lt (G.above t ht).1))
  have newp : H p = none := I.hok.fresh hp
  have on := lay_on (H := upd H p (.lst (as.map V.ref))) hlen nd
  have off : ∀ b, b ∉ as → b ≠ p → lay (upd H p (.lst (as.map V.ref))) as (pairsOf xs ys) b = H b := fun b h1 h2 => by rw [lay_off h1, upd_ne h2]
  have low : ∀ b o, s.heap.get? b = some o → b ∉ as ∧ b ≠ p := fun b o e => ⟨fun q => Nat.lt_irrefl _ (Nat.lt_trans (Nat.lt_of_lt_of_le (Heap.lt_size e) hp) (G.above b q).1), Nat.ne_of_lt (Nat.lt_of_lt_of_le (Heap.lt_size e) hp)⟩
  have kp : ∀ b u, H b = some u → lay (upd H p (.lst (as.map V.ref))) as (pairsOf xs ys) b = some u := fun b u e => by
    rw [off b (fun q => by rw [new b q] at e; cases e) (fun q => by rw [q, newp] at e; cases e)]
    exact e
  have eS : lay (upd H p (.lst (as.map V.ref))) as (pairsOf xs ys) p = some (.lst (as.map V.ref)) := by rw [lay_off pn, upd_same]
  refine ⟨_, kp, newp, new, eS, hlen, on, ?_⟩
  refine I.call' (ch := []) rfl ⟨fun b o q _ _ _ => hk b o q, fun b o q _ _ _ => ⟨o.slots, hk b o q⟩, fun b o q n _ => ?_, fun b o q _ => ⟨o, hk b o q⟩, fun b t q => kp b _ q, fun b o u q => kp b _ q, fun b ps q => ⟨#[], by rw [kp b _ q]; simp⟩⟩ (fun b u q => ?_) I.bare fun b z => by simp at z
  · obtain ⟨n1, n2⟩ := low b o q
    rw [off b n1 n2]
    exact n
  · by_cases hb : b ∈ as
    · obtain ⟨j, hj⟩ := List.mem_iff_getElem?.mp hb
      obtain ⟨t, e1, e2⟩ := on j b hj
      rw [e2] at q
      cases q
      obtain ⟨x, y, f1, f2, rfl⟩ := pairs_get e1
      obtain ⟨x', y', g1, g2, g3⟩ := G.pairs j b hj
      obtain ⟨u1, m1, r1⟩ := rx.get f1
      obtain ⟨u2, m2, r2⟩ := ry.get f2
      have k1 : u1 = x' := by
        have : us[j]? = some x' := by simpa using g1
        rw [m1] at this
        exact Option.some.inj this
      have k2 : u2 = y' := by
        have : vs[j]? = some y' := by simpa using g2
        rw [m2] at this
        exact Option.some.inj this
      subst k1 k2
      exact ⟨by show 2 ≤ sizeLine; decide, [u1, u2], .cons r1 (.cons r2 .nil), ⟨_, g3, rfl, _, rfl⟩⟩
    · by_cases hb2 : b = p
      · rw [hb2] at q ⊢
        rw [eS] at q
        cases q
        refine ⟨by rw [List.length_map, hlen, pairs_len]; omega, acc.toList, c, by rw [hacc]; exact vals_refs as, ?_⟩
        rw [Array.toArray_toList]
        exact hS
      · rw [off b hb hb2] at q
        exact (I.hok b u q).stay (fun d v _ y => hk d v y) (fun d y => kp d _ y) fun d t y => kp d _ y
def tListZip (K : PySem.W.Frag) (ta : TA) : TE := fun σ H Q => ta σ H fun vs H1 => ∃ (a b : Addr) (xs ys : List V), vs = [.ref a, .ref b] ∧ SqL K H1 a xs ∧ SqL K H1 b ys ∧
  ∀ (H' : Hp) (p : Addr) (ts : List Addr), (∀ b o, H1 b = some o → H' b = some o) → H1 p = none → (∀ t ∈ ts, H1 t = none) → H' p = some (.lst (ts.map V.ref)) → ts.length = (pairsOf xs ys).length → (∀ (j : Nat) (t : Addr), ts[j]? = some t → ∃ l, (pairsOf xs ys)[j]? = some l ∧ H' t = some (.tup l)) → Q (.ref p) H'
/-- list(zip(e1, e2)) -/
theorem pe_listZip {e1 e2 : Expr} {ta : TA} {p p2 pos pos2 : Pos} (hc : X.calm = true) (hgl : Gl X "list") (hml : X.mg "list" = none) (hgz : Gl X "zip") (hmz : X.mg "zip" = none) (ha : PA X [e1, e2] ta)
    (hs : starEach [e1, e2] X.env = (false, eval e1 X.env) :: starEach [e2] X.env := by rfl) (hpl : (backTo pos2 (starEach [e2] X.env)).any (·.1) = false := by rfl)
    (hs2 : starEach [.Call (.Name "zip" p2) [e1, e2] [] pos2] X.env = (false, eval (.Call (.Name "zip" p2) [e1, e2] [] pos2) X.env) :: starEach [] X.env := by rfl) :
    PE X (.Call (.Name "list" p) [.Call (.Name "zip" p2) [e1, e2] [] pos2] [] pos) (tListZip X.K ta) := by
  refine ⟨fun pins s σ H Q I h => wpAny_Call_Name_kw (ld_blt I hgl hml boot_list (callWith_type1 ?_ hs2 rfl))⟩
  rw [hs2]
  show wpAny _ _ (spliced ((false, eval (.Call (.Name "zip" p2) [e1, e2] [] pos2) X.env) :: backTo pos (starEach [] X.env))) _ _ s
  refine Calls.spliced_cons (Call_ (ld_blt I hgz hmz boot_zip (callWith_type1 (thn (ha.run pos2 pins s σ H _ I h) fun us s1 ⟨vs, H1, I1, r1, a, b, xs, ys, ex, hx, hy, q⟩ => ?_) hs hpl)))
  subst ex
  obtain ⟨u1, u2, rfl, ra, rb⟩ := vals2 r1
  cases ra
  cases rb
  obtain ⟨its, rx, pa, hzx⟩ := I1.list hx
  obtain ⟨its2, ry, pb, hzy⟩ := I1.list hy
  refine call_zip_2 pa.isList pb.isList fun h2 hz hTI hTO g1 g2 hsz hk => Calls.spliced_nil ?_
  have D := PySem.W.ktu_apart s1.heap.objs.size a b pa.lt pb.lt
  have bnd : ∀ c ∈ [s1.heap.objs.size + 4, s1.heap.objs.size + 2, s1.heap.objs.size + 3, s1.heap.objs.size, s1.heap.objs.size + 1, a, b], c < h2.objs.size := by
    intro c hc
    have la : a < s1.heap.objs.size := pa.lt
    have lb : b < s1.heap.objs.size := pb.lt
    rw [hsz]
    simp only [List.mem_cons, List.not_mem_nil, or_false] at hc
    rcases hc with z | z | z | z | z | z | z <;> subst z
    · exact Nat.lt_succ_self _
    · exact Nat.add_lt_add_left (by decide : 2 < 5) _
    · exact Nat.add_lt_add_left (by decide : 3 < 5) _
    · exact Nat.lt_add_of_pos_right (n := s1.heap.objs.size) (k := 5) (by decide)
    · exact Nat.add_lt_add_left (by decide : 1 < 5) _
    · exact Nat.lt_of_lt_of_le la (Nat.le_add_right _ _)
    · exact Nat.lt_of_lt_of_le lb (Nat.le_add_right _ _)
  refine zip_list (s := { s1 with heap := h2 }) D (I1.ok.hd hc) (by rw [List.size_toArray, ← rx.length]; exact hzx) (fun c => c < s1.heap.objs.size) (fun c hc => ⟨?_, ?_⟩) hz ⟨hTI, g1, g2, pa.isList.at fun o e => hk _ o e, pb.isList.at fun o e => hk _ o e, .inl ⟨hz, _, _, hTO⟩⟩ bnd fun h3 tk acc c as k1 k2 k3 k4 k5 => ?_
  · exact Nat.lt_trans hc (bnd s1.heap.objs.size (by simp))
  · simp only [List.mem_cons, List.not_mem_nil, or_false, not_or]
    exact ⟨Nat.ne_of_lt (Nat.lt_of_lt_of_le hc (Nat.le_add_right _ _)), Nat.ne_of_lt (Nat.lt_of_lt_of_le hc (Nat.le_add_right _ _)), Nat.ne_of_lt hc, Nat.ne_of_lt (Nat.lt_of_lt_of_le hc (Nat.le_add_right _ _))⟩
  · obtain ⟨H', f1, f2, f3, f4, f5, f6, J⟩ := laid (tk := tk) I1 rx ry hzx (fun b o e => k1 b o (Heap.lt_size e) (hk b o e)) (Nat.le_of_lt (bnd s1.heap.objs.size (by simp))) k2 k3 k4 k5
    exact ⟨.ref _, H', J, rfl, q H' _ as f1 f2 f3 f4 f5 f6⟩
end
end KZ
end
/-! KTry -/
section
set_option Elab.async false
set_option linter.all false
set_option maxRecDepth 100000
set_option maxHeartbeats 4000000
/-! try .. except A as n: .. except B as n: .. -/
namespace KT
open PySem PySem.Spec PyProof.Rows L2
structure Clause where
  cls : Value
  slot : Nat
  ts : Addr → Value → Option Addr → TS
def wClauses (K : PySem.W.Frag) (Wout : WX) (D : Ends) : List Clause → WX
  | [] => Wout
  | q :: r => fun cls d σ H => ∃ b, PySem.W.exmOne K cls q.cls = some b ∧
      (b = true → ∀ a, H a = none → q.ts a cls d ⟨fun σ' H' => D.nx (σ'.set q.slot none) H', D.rt, fun σ' H' => D.bk (σ'.set q.slot none) H', fun σ' H' => D.ct (σ'.set q.slot none) H'⟩ (σ.set q.slot (some (.ref a))) H) ∧
      (b = false → wClauses K Wout D r cls d σ H)
inductive ClausesOk (X : Cx) : List ExceptHandler → List Clause → Prop
  | nil : ClausesOk X [] []
  | cons {x n : Str} {q : Clause} {b0 : Stmt} {su : List Stmt} {np pos' : Pos} {hds : List ExceptHandler} {l : List Clause} (hi : X.N[q.slot]? = some n) (hln : X.env.kindOf n = some .local) (hc : Names X x q.cls)
      (hsu : ∀ (a : Addr) (oe : Obj) (cls : Value) (d : Option Addr) (pn : List (Addr × Obj)), Zc cls d oe → (∃ vs, oe.data = .fields vs) → PSs (X.suite a ((a, oe) :: pn)) (b0 :: su) (q.ts a cls d))
      (r : ClausesOk X hds l) : ClausesOk X (.ExceptHandler (some (.Name x np)) (some n) (b0 :: su) pos' :: hds) (q :: l)
theorem ps_try_clauses {X : Cx} {body : List Stmt} {h0 : ExceptHandler} {hds : List ExceptHandler} {l : List Clause} {pos : Pos} {tb : WX → TS} {Wout : WX} (hs : X.stack = X.env :: X.outer) (hf : X.env.frame = some X.env.locals) (hN : X.N.Nodup) (tk : Takes X Wout)
    (hb : ∀ (W : WX) (pn : List (Addr × Obj)) (xe : Value → Shared → Prop), Takes (X.tr pn xe) W → PassesOwn (model X.prog X.w) X.A X.env xe → PSs (X.tr pn xe) body (tb W))
    (hh : ClausesOk X (h0 :: hds) l) : PS X (.Try body (h0 :: hds) [] [] pos) (fun D σ H => tb (wClauses X.K Wout D l) D σ H) := by
  refine ⟨fun pins s σ H D I h => ?_⟩
  have ok := I.ok
  have hfr : X.A.frames = some (X.env :: X.outer) := by
    rw [ok.frames, hs]
  refine wpAny_Try_except (wpAny_mono ((hb (wClauses X.K Wout D l) (X.pn ++ pins) (fun e s1 => wpAny (model X.prog X.w) X.A (noteFrame e X.env) (fun _ s2 => wpAny (model X.prog X.w) X.A (setFlight e none) (fun _ s3 =>
    wpAny (model X.prog X.w) X.A (handleBy e X.env (h0 :: hds)) (SP X pins D) X.xe s3) X.xe s2) X.xe s1) (fun u s' xx => ?_) PassesOwn.looking).run [] s σ H D (I.toTry _) h) (fun f s1 hsp => ?_) fun e s1 he => he)
  · obtain ⟨a, B, sI, pins', σ', H', cls, d, rfl, J0, nb, up, sky, na, os, ag, w⟩ := xx
    have J : Inv X pins σ' H' sI := J0.ofTry ok
    have sky2 : Sky B (X.env :: X.outer) a (Zc cls d) X.env.locals s'.heap := by
      rw [← hs]
      exact sky
    show wpAny (model X.prog X.w) X.A (noteFrame (.ref a) X.env) _ _ _
    refine Sky.land Zc.steady hfr hf sky2 fun h3 fl3 up3 => ?_
    have J3 : Inv X pins σ' H' { s' with heap := h3 } := J.landed nb fl3.1 (up.trans up3) os ag
    obtain ⟨oe3, vs3, he3, hz3, hd3⟩ := fl3.there
    have nfr : a ∉ frs (X.env :: X.outer) := fun hm => by
      obtain ⟨_, o', e', hnf⟩ := fl3.2.2.1.mem hm
      rw [he3] at e'
      cases e'
      exact hnf _ hd3
    have nL : a ≠ X.env.locals := fun z => nfr (List.mem_filterMap.mpr ⟨X.env, List.mem_cons_self, by rw [hf, z]⟩)
    have nF : a ∉ X.fs := fun hm => by
      obtain ⟨e, he, q⟩ := List.mem_filterMap.mp hm
      exact nfr (List.mem_filterMap.mpr ⟨e, List.mem_cons_of_mem _ he, q⟩)
    have S3 := J3.suite he3 hd3 na nL nF
    have all : ∀ {hs' : List ExceptHandler} {l' : List Clause}, ClausesOk X hs' l' → wClauses X.K Wout D l' cls d σ' H' → wpAny (model X.prog X.w) X.A (handleBy (.ref a) X.env hs') (SP X pins D) X.xe { s' with heap := h3 } := by
      intro hs' l' hk
      induction hk with
      | nil =>
        intro w
        refine wpAny_handleBy_nil ?_
        obtain ⟨_, _, _, oe, vs, T, oT, ts', he, hz, hd, h1, hr⟩ := id fl3
        unfold PySem.passOn
        refine wpAny_bind (wpAny_field he hd h1 ?_)
        rw [if_neg (show ¬ ((Value.ref T == Value.none) = true) from by simp)]
        have fin : wpAny (model X.prog X.w) X.A (setFlight (.ref a) X.env.frame) (fun _ s4 => wpAny (model X.prog X.w) X.A (throw (.ref a) : Sem Flow) (SP X pins D) X.xe s4) X.xe { s' with heap := h3 } := by
          rw [hf]
          refine HandSPX.setFlight_upZ fl3 fun h4 hh4 up4 => wpAny_throw (tk _ _ ⟨a, B, sI, pins, σ', H', cls, d, rfl, J, nb, (up.trans up3).trans up4, .inr (.inr ?_), na, os, ag, w⟩)
          rw [hs]
          exact hh4
        first
          | exact wpAny_bind (wpAny_pure (wpAny_bind fin))
          | exact wpAny_bind fin
      | @cons x n q b0 su np pos' hds2 l2 hi hln hc hsu r ih =>
        rintro ⟨b, hb1, hyes, hno⟩
        have hloc : Loc X.env.scope n := .inl hln
        refine wpAny_handleBy_cons (codeAny_handlers_test ?_) (by intro z; cases z)
        have LT : PySem.W.Looks (model X.prog X.w) h3 (typeOf (.ref a)) cls := fun A Q E s k z => wpAny_typeOf_ref (k _ _ he3) (by rw [hz3.1]; exact z)
        have LM := PySem.W.exm_one (M := model X.prog X.w) (J3.kIn) LT hb1
        have test : ∀ {Q : Value → Shared → Prop} {E : Value → Shared → Prop}, Q q.cls { s' with heap := h3 } → wpAny (model X.prog X.w) (X.A.mark (some (.ref a))) (eval (.Name x np) X.env) Q E { s' with heap := h3 } := fun {Q E} z => by
          obtain ⟨hg, hdbg, hm | ⟨hm, hv, hnn⟩⟩ := hc
          · exact ld_glob (X := X.suite a ((a, oe3) :: (X.pn ++ pins))) S3 hg hm z hdbg
          · exact ld_blt (X := X.suite a ((a, oe3) :: (X.pn ++ pins))) S3 hg hm hv z hnn hdbg
        refine test (LM.here ?_)
        cases b with
        | false =>
          show wpAny _ X.A (handleBy (.ref a) X.env hds2) _ _ _
          exact ih (hno rfl)
        | true =>
          refine codeAny_handlers_suite_as (HandSPX.lands_againZ fl3 fun h4 fl4 up4 => ?_)
          have J4 : Inv X pins σ' H' { s' with heap := h4 } := J.landed nb fl4.1 ((up.trans up3).trans up4) os ag
          obtain ⟨oe4, vs4, he4, hz4, hd4⟩ := fl4.there
          refine store_ok (X := X.suite a ((a, oe4) :: (X.pn ++ pins))) (v := .ref a) (J4.suite he4 hd4 na nL nF) hN hi hloc rfl (fun s5 S5 => ?_) (.inr hln)
          refine wpAny_mono ((hsu a oe4 cls d (X.pn ++ pins) hz4 ⟨_, hd4⟩).run [] s5 _ H' _ S5 (hyes rfl a na)) (fun f s6 hsp => ?_) (fun _ _ z => False.elim z)
          have fin : ∀ {σ6 : L2.St} {H6 : Hp} {Q : Shared → Prop}, Inv (X.suite a ((a, oe4) :: (X.pn ++ pins))) [] σ6 H6 s6 → (∀ s7, Inv X pins (σ6.set q.slot none) H6 s7 → Q s7) →
              wpAny (model X.prog X.w) X.A (do bindName X.env n .none; unbindBehindTheSuite X.env n pos') (fun _ s7 => Q s7) X.xe s6 := fun {σ6 H6 Q} S6 hq => gone_ok (S6.unsuite ok) hN hi hln hq
          cases f with
          | next =>
            obtain ⟨σ6, H6, S6, q6⟩ := hsp
            exact fin S6 fun s7 J7 => ⟨_, _, J7, q6⟩
          | brk =>
            obtain ⟨σ6, H6, S6, q6⟩ := hsp
            exact fin S6 fun s7 J7 => ⟨_, _, J7, q6⟩
          | cont =>
            obtain ⟨σ6, H6, S6, q6⟩ := hsp
            exact fin S6 fun s7 J7 => ⟨_, _, J7, q6⟩
          | ret u =>
            obtain ⟨v6, σ6, H6, S6, r6, q6⟩ := hsp
            exact fin S6 fun s7 J7 => ⟨_, _, _, J7, r6, q6⟩
    exact all hh w
  · cases f with
    | next =>
      obtain ⟨σ', H', J', q⟩ := hsp
      exact wpAny_execs_nil ⟨σ', H', J'.ofTry ok, q⟩
    | brk =>
      obtain ⟨σ', H', J', q⟩ := hsp
      exact ⟨σ', H', J'.ofTry ok, q⟩
    | cont =>
      obtain ⟨σ', H', J', q⟩ := hsp
      exact ⟨σ', H', J'.ofTry ok, q⟩
    | ret u =>
      obtain ⟨v, σ', H', J', r, q⟩ := hsp
      exact ⟨v, σ', H', J'.ofTry ok, r, q⟩
end KT
end
/-! KSup -/
section
set_option Elab.async false
set_option linter.all false
set_option maxRecDepth 100000
set_option maxHeartbeats 4000000
/-! an own error's __init__ that says super().__init__('..') and then self.f = v -/
namespace KS
open PySem PySem.Spec PyProof.Rows L2
open PySem.W (Frag)
section
variable {prog : Program} {w : World} {A : Around} {E : Value → Shared → Prop} {h : Heap} {g : Array GenState} {d : Drawn} {t : Nat} {os : OsState}
variable {nm q : Str} {C N : Addr} {bs bm : List Value} {hdct : Bool} {sn : List Str} {sub : List Value} {ab : Bool} {col : Option Bool} {dd : Option Addr} {k0 k1 k2 k3 k5 : Option Value}
/-- ValueError's __init__ bound to a new error, called -/
theorem call_mw {u e t0 : Addr} {rest : List Value} {Q : Value → Shared → Prop} (hC : h.get? C = some (excClassObj nm q C N bs bm hdct sn sub ab col dd k0 k1 k2 k3 k5 "ValueError.__new__")) (he : h.get? e = some (HandSPX.excO C t0))
    (hu : h.get? u = some (PySem.W.kxs_mw "ValueError.__init__" e)) (hrest : rest.length ≤ sizeLine) (hq : ∀ h' t1, (∀ b o, b ≠ e → h.get? b = some o → h'.get? b = some o) → h'.get? e = some (HandSPX.excO C t1) → Q .none ⟨h', g, d, t, os⟩) :
    wpAny (model prog w) A (call (.ref u) rest) Q E ⟨h, g, d, t, os⟩ := by
  refine wpAny_call (codeAny_of_tree ?_)
  show wpAny _ A.in1 (callAny (.ref u) ⟨rest, []⟩) _ _ _
  simp only [callAny]
  refine wpAny_bind (wpAny_load hu ?_)
  simp only [PySem.W.kxs_mw, show (Value.type "method-wrapper" == Value.type "method" || Value.type "method-wrapper" == Value.type "builtin_function_or_method" || Value.type "method-wrapper" == Value.type "method-wrapper") = true by decide, if_true]
  refine W.KFB.if_so (by decide) (wpAny_bind (ESX.check_bound F.excBase_ValueError hC he rfl (wpAny_bind (wpAny_pure (wpAny_pure ?_)))))
  refine ⟨plainId_quiet F.excBase_ValueError.init.plain _, codeAny_builtin F.excBase_ValueError.initEntry ?_⟩
  rw [Around.under_plainId F.excBase_ValueError.init.plain _]
  wp_walk
  refine hq _ h.objs.size (fun b o hb ho => (Heap.get?_update_other _ _ (Ne.symm hb)).trans (Heap.get?_push_of_some _ ho)) ?_
  rw [Heap.get?_update_self _ (Heap.get?_push_of_some _ he) rfl]
  rfl
end
theorem boot_super : bootBuiltins "super" = some (.type "super") := by first | boot_by_name | rfl | kernel_rfl
/-- what the written part says of such a class -/
structure SupC (K : Frag) (P : Program) (C cc cda : Addr) (fld : Str) : Prop where
  oex : OexC K C
  cell : ∃ cl cld csl, K.lookup cc = some ⟨cl, cld, .cell (some (.ref C)), csl⟩
  code : ∃ ccl cdd vs ccs file tf, K.lookup cda = some ⟨ccl, cdd, .fields vs, ccs⟩ ∧ vs[2]? = some (.str file tf) ∧ ((P.main.file : Str) == file) = true
  self : PySem.W.mroIn K C (.ref C) = some true
  third : PySem.W.nsIn K cStatics "thirdparty.any" = some none
  sup : PySem.W.ks_superIn K C C "__init__" = some (some (.builtin "ValueError.__init__"))
  sub : PySem.W.subIn K (.ref C) (.type "ValueError") = some true
  fno : PySem.W.findIn K (.ref C) fld = some none
structure SupScope (scope : Scope) (vn : Str) : Prop where
  kind : scope.kind = .function
  co : scope.isCoroutine = false
  gen : scope.isGenerator = false
  ne : vn ≠ ("self" : Str)
  self : scope.names.lookup ("self" : Str) = some .local
  v : scope.names.lookup vn = some .local
  cls : scope.names.lookup ("__class__" : Str) = some .free
  sup : scope.names.lookup ("super" : Str) = some .globalImplicit
  nocell : ∀ x ∈ scope.names, x.2 ≠ .cell
  free : ∀ x ∈ scope.names, x.2 = .free → x.1 = ("__class__" : Str)
  nd : (vn == ("__debug__" : Str)) = false
  nc : (vn == ("__classdict__" : Str)) = false
def spSup (C : Addr) (fld : Str) : Sp := fun vs H Q _ => ∃ (a : Addr) (y : V), vs = [.ref a, y] ∧ H a = some (exo a C none) ∧ ∀ d, H d = none → d ≠ a → Q .non (upd (upd H d (exd d [(fld, y)])) a (exo a C (some d)))
abbrev supBody (msg fld vn : Str) (j : Nat) (p0 p1 p2 p3 p4 p5 p6 p7 p8 p9 : Pos) : List Stmt :=
  [.Expr (.Call (.Attribute (.Call (.Name "super" p0) [] [] p1) "__init__" p2) [.Constant (.str msg) j p3] [] p4) p5, .Assign [.Attribute (.Name "self" p6) fld p7] (.Name vn p8) p9]
section
variable {P : Program} {w : World} {K : Frag} {mg : Str → Option Value} {base : Heap} {CX : CXT} {f C cc cda : Addr} {qual vn fld msg : Str} {params : Arguments} {scope : Scope} {dV kV doc pm ct oc : Value} {an od : Option Addr} {osl : Array (Option Value)} {j : Nat} {p0 p1 p2 p3 p4 p5 p6 p7 p8 p9 : Pos}
def supX (CX : CXT) (P : Program) (w : World) (K : Frag) (mg : Str → Option Value) (base : Heap) (vn qual : Str) (scope : Scope) (f cda cc : Addr) (A : Around) (outer : List Env) (s : Shared) (H : Hp) (E : XK) : Cx where
  prog := P
  w := w
  K := K
  mg := mg
  base := base
  A := A.deeper (PySem.W.ksEnv qual scope s.heap.objs.size f (.ref cda) cc)
  N := ["self", vn]
  s_0 := s
  H_0 := H
  env := PySem.W.ksEnv qual scope s.heap.objs.size f (.ref cda) cc
  outer := outer
  stack := PySem.W.ksEnv qual scope s.heap.objs.size f (.ref cda) cc :: outer
  ex := []
  calm := true
  fn := fun _ => false
  pn := []
  xe := fun e s' => wpAny (model P w) (A.deeper (PySem.W.ksEnv qual scope s.heap.objs.size f (.ref cda) cc)) (leaving (PySem.W.ksEnv qual scope s.heap.objs.size f (.ref cda) cc) e) (fun _ s'' => CX outer H s E e s'') (fun e' s'' => CX outer H s E e' s'') s'
theorem ok_sup {pa : Option Expr} {pp : Pos} (lk : K.lookup f = some ⟨oc, od, .func (PySem.W.fnX "__init__" qual params (supBody msg fld vn j p0 p1 p2 p3 p4 p5 p6 p7 p8 p9) scope [("__class__", cc)] dV kV doc pm an (.ref cda) ct), osl⟩) (hcd : PySem.W.codeIn K (.ref cda) qual = true) (S : SupC K P C cc cda fld)
    (sc : SupScope scope vn) (hpar : (params.posonlyargs ++ params.args).head? = some ⟨"self", pa, pp⟩) (hmg : mg "super" = none) (htop : (P.main.scope.names.lookup ("super" : Str)).isSome = false)
    (hev : ∀ env : Env, ∃ pl : Sem Bool, eval (.Call (.Attribute (.Call (.Name "super" p0) [] [] p1) "__init__" p2) [.Constant (.str msg) j p3] [] p4) env = (do
      let ov ← attributeBase (.Call (.Name "super" p0) [] [] p1) "__init__" env (eval (.Call (.Name "super" p0) [] [] p1) env)
      standAt p2.atName
      let (f, first) ← holding [ov] (getMethod ov "__init__" pl)
      callWith p4 f first (backTo p4 (starEach [.Constant (.str msg) j p3] env)) [])) :
    FnOk P w K mg base CX 2 f (PySem.W.fnX "__init__" qual params (supBody msg fld vn j p0 p1 p2 p3 p4 p5 p6 p7 p8 p9) scope [("__class__", cc)] dV kV doc pm an (.ref cda) ct) ["self", vn] (spSup C fld) := by
  refine ⟨fun vs H Q E h => by obtain ⟨a, y, rfl, _⟩ := h; rfl, fun A outer s H args us vs Q E hr e0 hb r hsp => ?_⟩
  obtain ⟨a, y, rfl, ha, hq⟩ := hsp
  obtain ⟨u1, u2, rfl, r1, r2⟩ := vals2 r
  obtain rfl : u1 = Value.ref a := r1
  have KX : K.In s.heap := e0.mod.kin.keeps fun b o e => (e0.bs b o e).1
  have lim : s.heap.NoLimit := e0.mod.nolimit.keeps fun b o e => (e0.bs b o e).1
  refine ks_codeAny_call_defAt (binds := (["self", vn] : List Str).zip [Value.ref a, u2]) hr.depth (KX _ _ lk) rfl lim (PySem.W.codeRec_of KX hcd) rfl hb sc.nocell (fun x hx => ?_) (fun h1 hns hk1 => ?_) sc.co sc.gen sc.kind
  · simp only [List.zip_cons_cons, List.zip_nil_right, List.mem_cons, List.not_mem_nil, or_false] at hx
    rcases hx with z | z
    · rw [z]; exact sc.self
    · rw [z]; exact sc.v
  obtain ⟨ccl, cdd, vsC, ccs, file, tf, hcode, hfile2, hfile⟩ := S.code
  obtain ⟨cl, cld, csl, hcell⟩ := S.cell
  obtain ⟨nm, q0, N0, bs, bm, sn, sub, ab, col, dd, k0, k1, k2, k3, k5, hC, hbm⟩ := S.oex.cls
  have cells : ∀ x c, ([(("__class__" : Str), cc)] : List (Str × Addr)).lookup x = some c → x = ("__class__" : Str) ∧ c = cc := fun x c e => by
    rw [List.lookup_cons] at e
    by_cases z : (x == ("__class__" : Str)) = true
    · rw [z] at e
      exact ⟨by simpa using z, (Option.some.inj e).symm⟩
    · have z' : (x == ("__class__" : Str)) = false := by simpa using z
      rw [z'] at e
      cases e
  have ccBase : ∃ o, base.get? cc = some o := ⟨_, e0.mod.kin _ _ hcell⟩
  have I1 : Inv (supX CX P w K mg base vn qual scope f cda cc A outer s H E) [] [some (.ref a), some y] H { s with heap := h1, toks := s.toks + 2 } := by
    refine ⟨⟨e0.mod, sc.kind, rfl, rfl, Nat.le_refl _, fun x y c h2 h3 => ?_, fun x hx => ?_, fun x c z _ => (nomatch z), fun _ => hr.hd, Around.frames_deeper e0.frames, .inr ⟨rfl, rfl⟩, fun b z => (nomatch z), e0.bs, e0.bsz, fun b o _ z => (nomatch z), fun b z => (nomatch z), e0.funs, e0.frf⟩,
      rfl, e0.bare, Un.kept hk1, ⟨_, hns, fun i x v e1 e2 e3 => ?_⟩, fun x c e => ?_, e0.hok.fresh (Nat.le_refl _), fun x c e => ?_, fun p hp => (nomatch hp), e0.hok.kept hk1, rfl⟩
    · exact (cells x c h2).1.trans (cells y c h3).1.symm
    · rcases hx with hx | hx
      · exact absurd rfl (sc.nocell _ (PySem.mem_of_lookup hx))
      · have e := sc.free _ (PySem.mem_of_lookup hx) rfl
        have e : x = ("__class__" : Str) := e
        subst e
        exact ⟨cc, rfl⟩
    · match i, e1, e2 with
      | 0, e1, e2 =>
        have ex : ("self" : Str) = x := Option.some.inj e1
        have ev : V.ref a = v := Option.some.inj (Option.some.inj e2)
        subst ex ev
        refine ⟨_, rfl, .inl ⟨sc.self, ?_⟩⟩
        have n1 : ((("self" : Str)) == vn) = false := by simpa using fun z => sc.ne z.symm
        show List.lookup ("self" : Str) [(vn, u2), (("self" : Str), Value.ref a)] = _
        rw [List.lookup_cons, n1]
        rfl
      | 1, e1, e2 =>
        have ex : vn = x := Option.some.inj e1
        have ev : y = v := Option.some.inj (Option.some.inj e2)
        subst ex ev
        refine ⟨_, r2, .inl ⟨sc.v, ?_⟩⟩
        show List.lookup vn [(vn, u2), (("self" : Str), Value.ref a)] = _
        rw [List.lookup_cons, beq_self_eq_true]
      | i + 2, e1, e2 => cases e1
    · obtain ⟨_, rfl⟩ := cells x c e
      exact ⟨_, _, hk1 _ _ (KX _ _ hcell), rfl⟩
    · obtain ⟨_, rfl⟩ := cells x c e
      obtain ⟨o, z⟩ := ccBase
      exact (e0.bs _ o z).2
  obtain ⟨t1, hox⟩ := exo_at I1.hok ha
  have hox : h1.get? a = some (HandSPX.excO C t1) := hox
  have hC1 : h1.get? C = _ := hk1 _ _ (KX _ _ hC)
  obtain ⟨mb, hb1, hb2⟩ := I1.mod.blt
  obtain ⟨pl, hpl⟩ := hev (PySem.W.ksEnv qual scope s.heap.objs.size f (.ref cda) cc)
  have hint : interactive (PySem.W.ksEnv qual scope s.heap.objs.size f (.ref cda) cc) = false := by
    unfold interactive
    show (scope.kind == .module && _) = false
    rw [sc.kind]
    rfl
  refine ks_wpAt_execs_cons (ks_wpAt_Expr_any (hi := hint) (ks_wpAt_MethodCall (he := hpl) (ks_wpAt_super_base (env := PySem.W.ksEnv qual scope s.heap.objs.size f (.ref cda) cc) sc.sup sc.cls (by decide) rfl (hk1 _ _ (KX _ _ lk)) rfl hpar rfl (hk1 _ _ (KX _ _ hcode)) rfl hfile2 hfile htop ?_)))
  refine PySem.W.ks_loadName_global sc.kind sc.sup (Calls.loadGlobal_builtin (env := PySem.W.ksEnv qual scope s.heap.objs.size f (.ref cda) cc) (I1.mod.glob.keeps I1.bk) hmg (hb1.keeps I1.bk) ((hb2 _ (by decide)).trans boot_super) ⟨rfl, ?_⟩)
  refine wpAny_loadName_free sc.kind sc.cls rfl ⟨_, hk1 _ _ (KX _ _ hcell), rfl⟩ ?_
  refine wpAny_loadName_local sc.kind sc.self hns (v := .ref a) ?_ ?_
  · have n1 : ((("self" : Str)) == vn) = false := by simpa using fun z => sc.ne z.symm
    show List.lookup ("self" : Str) [(vn, u2), (("self" : Str), Value.ref a)] = _
    rw [List.lookup_cons, n1]
    rfl
  refine ks_wpAny_isType_cls hC1 rfl ⟨rfl, ?_⟩
  refine ks_wpAny_call_super hC1 rfl hox rfl (fun c z => nomatch z) (PySem.W.looks_mroIn I1.kIn S.self) fun h2 e2 k2 => ?_
  have I2 : Inv (supX CX P w K mg base vn qual scope f cda cc A outer s H E) [] [some (.ref a), some y] H { s with heap := h2, toks := s.toks + 2 } := I1.kept (t' := s.toks + 2) k2
  have hcls : PySem.W.clsIn K C = some { name := nm, bases := bs, mro := .ref C :: bm, ns := N0, qualname := q0, hasDict := true, slotNames := sn, subclasses := sub, abstract := ab, collection := col, hasDel := false } := by unfold PySem.W.clsIn; rw [hC] <;> rfl
  have hal : PySem.W.alongIn K "__init__" (((Value.ref C :: bm).dropWhile (· != .ref C)).drop 1) = some (some (.builtin "ValueError.__init__")) := by
    have := S.sup
    unfold PySem.W.ks_superIn at this
    rw [hcls] at this
    exact this
  have I2a := I2.kIn
  have hox2 : h2.get? a = some (HandSPX.excO C t1) := k2 _ _ hox
  have ac : a ≠ C := fun z => by
    rw [z, hC1] at hox
    cases hox
  refine PySem.W.kxs_getMethod (l₀ := .ref C :: bm) PySem.W.kxs_ValueError e2 (PySem.W.looks_opaque I2a S.third) (fun A Q E s k q => wpAny_bind ((PySem.W.looks_clsIn I2a hcls) A _ E s k (wpAny_pure q))) rfl I2a hal ?_ ac (by decide) ?_
  · exact PySem.W.Looks.andThen (fun A Q E s k q => wpAny_typeOf_ref (k _ _ hox2) q) (PySem.W.looks_subIn I2a S.sub)
  have hu : (h2.push (PySem.W.kxs_mw "ValueError.__init__" a)).get? h2.objs.size = some (PySem.W.kxs_mw "ValueError.__init__" a) := Heap.get?_push_at rfl rfl
  have I3 : Inv (supX CX P w K mg base vn qual scope f cda cc A outer s H E) [] [some (.ref a), some y] H { s with heap := h2.push (PySem.W.kxs_mw "ValueError.__init__" a), toks := s.toks + 2 + 1 } := I2.kept (t' := s.toks + 2 + 1) fun b o e => Heap.get?_push_of_some _ e
  have I4 : Inv (supX CX P w K mg base vn qual scope f cda cc A outer s H E) [(h2.objs.size, PySem.W.kxs_mw "ValueError.__init__" a)] [some (.ref a), some y] H { s with heap := h2.push (PySem.W.kxs_mw "ValueError.__init__" a), toks := s.toks + 2 + 1 } := by
    refine I3.pins_of fun p hp => ?_
    obtain rfl : p = (h2.objs.size, PySem.W.kxs_mw "ValueError.__init__" a) := by simpa using hp
    exact ⟨hu, I2.hok.fresh (Nat.le_refl _), Nat.ne_of_gt I2.lt, I2.nofs (Nat.le_refl _), fun v z => nomatch z⟩
  show wpAny _ _ (callWith p4 (.ref h2.objs.size) [] (backTo p4 (starEach [.Constant (.str msg) j p3] (PySem.W.ksEnv qual scope s.heap.objs.size f (.ref cda) cc))) []) _ _ _
  have hst : starEach [.Constant (.str msg) j p3] (PySem.W.ksEnv qual scope s.heap.objs.size f (.ref cda) cc) = (false, eval (.Constant (.str msg) j p3) (PySem.W.ksEnv qual scope s.heap.objs.size f (.ref cda) cc)) :: starEach [] (PySem.W.ksEnv qual scope s.heap.objs.size f (.ref cda) cc) := by rfl
  have PA1 : PA (supX CX P w K mg base vn qual scope f cda cc A outer s H E) [.Constant (.str msg) j p3] (tCons (tC (.str msg)) tNil) := pa_cons pe_str pa_nil
  have run := PA1.run p4 _ _ _ H (fun vs H1 => vs = [V.str msg] ∧ H1 = H) I4 ⟨rfl, rfl⟩
  refine PySem.W.kxs_callWith (i := "ValueError.__init__") (x := a) (first := []) (by rw [hst]; rfl) (Calls.evalArgs_plain (wpAny_mono run (fun us s3 z => ?_) fun _ _ z => z))
  obtain ⟨vs, H1, I5, r5, rfl, rfl⟩ := z
  have hu5 := (I5.pin (h2.objs.size, PySem.W.kxs_mw "ValueError.__init__" a) (by simp)).1
  refine ⟨hu5, ?_⟩
  obtain ⟨t5, hox5⟩ := exo_at I5.hok ha
  have hox5 : s3.heap.get? a = some (HandSPX.excO C t5) := hox5
  have hl5 : us.length ≤ sizeLine := by
    rw [← r5.length]
    show 1 ≤ sizeLine
    decide
  obtain ⟨h3, g3, d3, tk3, os3⟩ := s3
  refine call_mw (I5.kIn _ _ hC) hox5 hu5 hl5 fun h4 t6 k6 hx6 => ?_
  have J0 := I5.write (t' := tk3) (x := a) (e := a) (o := exo a C none) (by rw [ha]; exact True.intro) (.inl rfl) k6 ⟨_, hx6⟩ (exo_ok hx6)
  have eu : upd H1 a (exo a C none) = H1 := by
    funext b
    by_cases hb : b = a
    · rw [hb, upd_same, ha]
    · rw [upd_ne hb]
  rw [eu] at J0
  have J : Inv (supX CX P w K mg base vn qual scope f cda cc A outer s H1 E) [] [some (.ref a), some y] H1 ⟨h4, g3, d3, tk3, os3⟩ := J0.pins_of fun p hp => nomatch hp
  have PS2 : PSs (supX CX P w K mg base vn qual scope f cda cc A outer s H1 E) [.Assign [.Attribute (.Name "self" p6) fld p7] (.Name vn p8) p9] _ := pss_one (ps_ost (pe_var (i := 0) rfl (.inl sc.self)) (pe_var (i := 1) rfl (.inl sc.v) (hd := sc.nd) (hcd := sc.nc)))
  refine wpAt_of_wpAny (wpAny_mono (PS2.run [] _ _ H1 { nx := fun _ H' => Q .non H', rt := Q } J ⟨_, rfl, _, rfl, a, C, rfl, S.oex, S.fno, .inl ⟨ha, fun dx n ne => hq dx n ne⟩⟩) (fun fl s' hs => ?_) fun e s' hs => hs)
  have fin : ∀ {σ' : L2.St} {H' : Hp} {v : V} {u : Value}, Inv (supX CX P w K mg base vn qual scope f cda cc A outer s H1 E) [] σ' H' s' → RelV v u → Q v H' → CE outer P w H1 s Q u s' := fun {σ' H' v u} J rv q => ⟨v, H', J.os, J.bare, J.base, J.hok, rv, q⟩
  cases fl with
  | ret u =>
    obtain ⟨v, σ', H', J, rv, q⟩ := hs
    exact fin J rv q
  | next =>
    obtain ⟨σ', H', J, q⟩ := hs
    exact fin (v := V.non) (u := Value.none) J rfl q
  | brk =>
    obtain ⟨_, _, _, q⟩ := hs
    exact False.elim q
  | cont =>
    obtain ⟨_, _, _, q⟩ := hs
    exact False.elim q
end
end KS
end
/-! KTop -/
section
set_option Elab.async false
set_option linter.all false
set_option maxRecDepth 100000
set_option maxHeartbeats 4000000
/-! the program by places; the names that the defs meet -/
namespace MV
open PySem PySem.Spec PyProof.Rows L2
abbrev prog0 : Program := PySem.Challenge.pw_movedwhole_k11_some_placing
def top (i : Nat) : Stmt := prog0.main.body.getD i (.Pass ⟨0, 0, 0, 0⟩)
/-- a def of the module as it is called -/
structure Fn (K : PySem.W.Frag) (mg : Str → Option Value) (x : Str) (f : Addr) (fd : FuncData) (ps : List Str) : Prop where
  mg : mg x = some (.ref f)
  kp : PySem.W.keepIn K (.ref f) = true
  bi : Binds K fd ps []
/-- the builtins' names stand for themselves -/
structure Blt (mg : Str → Option Value) : Prop where
  len : mg "len" = none
  isinstance : mg "isinstance" = none
  int : mg "int" = none
  bool : mg "bool" = none
  str : mg "str" = none
  list : mg "list" = none
  tuple : mg "tuple" = none
  sum : mg "sum" = none
  max : mg "max" = none
  min : mg "min" = none
  range : mg "range" = none
  enumerate : mg "enumerate" = none
  zip : mg "zip" = none
  sorted : mg "sorted" = none
  all : mg "all" = none
  abs : mg "abs" = none
theorem iteD {c A B : Prop} [Decidable c] (hc : c) (h : A) : if decide c = true then A else B := by
  rw [decide_eq_true hc]
  exact iteT h
theorem iteDn {c A B : Prop} [Decidable c] (hc : ¬ c) (h : B) : if decide c = true then A else B := by
  rw [decide_eq_false hc]
  exact iteF h
theorem iteB {b : Bool} {A B : Prop} (hb : b = true) (h : A) : if b = true then A else B := by
  rw [hb]
  exact iteT h
theorem iteBn {b : Bool} {A B : Prop} (hb : b = false) (h : B) : if b = true then A else B := by
  rw [hb]
  exact iteF h
theorem iteN {b : Bool} {A B : Prop} (hb : b = true) (h : B) : if (!b) = true then A else B := by
  rw [hb]
  exact iteF h
theorem iteNn {b : Bool} {A B : Prop} (hb : b = false) (h : A) : if (!b) = true then A else B := by
  rw [hb]
  exact iteT h
/-! ### kinds of values -/
/-- what is known of a value: its type's name -/
inductive Kd (H : Hp) : V → String → Prop
  | int (i : Int) : Kd H (.int i) "int"
  | bl (b : Bool) : Kd H (.bl b) "bool"
  | non : Kd H .non "NoneType"
  | str (z : Str) : Kd H (.str z) "str"
  | tup {a : Addr} {xs : List V} (h : H a = some (.tup xs)) : Kd H (.ref a) "tuple"
  | lst {a : Addr} {xs : List V} (h : H a = some (.lst xs)) : Kd H (.ref a) "list"
theorem Kd.tyx {K : PySem.W.Frag} {H : Hp} {x : V} {T : String} (k : Kd H x T) : TyX K H x (.type T) := by
  cases k with
  | int i => exact .base (.int i)
  | bl b => exact .base (.bl b)
  | non => exact .base .non
  | str z => exact .base (.str z)
  | tup h => exact .base (.tup h)
  | lst h => exact .base (.lst h)
/-- a tuple against (list, tuple) -/
theorem isLT {K : PySem.W.Frag} : PySem.W.kitAny K (.type "tuple") [.type "list", .type "tuple"] = some true :=
  kitAny_cons (b := false) (kit_ty (by decide +kernel)) (fun _ => kitAny_cons (b := true) (kit_ty (by decide +kernel)) (fun z => nomatch z) fun _ => rfl) fun z => nomatch z
section
variable {X : Cx} {e : Expr} {te : TE} {p p2 pos : Pos}
/-- isinstance(e, T), T a built-in class by its name -/
theorem pe_isi {x : Str} {T : String} (B : Blt X.mg) (he : PE X e te) (hg : Gl X "isinstance") (hgx : Gl X x) (hmx : X.mg x = none) (hv : bootBuiltins x = some (.type T)) (hn : x ≠ "__name__" := by decide) (hd : (x == ("__debug__" : Str)) = false := by decide)
    (s1 : starEach [e, .Name x p2] X.env = (false, eval e X.env) :: starEach [.Name x p2] X.env := by rfl) (s2 : starEach [.Name x p2] X.env = (false, eval (.Name x p2) X.env) :: starEach [] X.env := by rfl) (hpl : (backTo pos (starEach [.Name x p2] X.env)).any (·.1) = false := by rfl) :
    PE X (.Call (.Name "isinstance" p) [e, .Name x p2] [] pos) (tCB (rIsi X.K) (tCons te (tCons (tC (.ty T)) tNil))) :=
  pe_callB call_isi hg B.isinstance boot_isinstance (pa_cons he (pa_cons (pe_bltn (v := .ty T) hgx hmx hv rfl hn hd) pa_nil s2) s1) (he := s1) (hpl := hpl)
end
/-! ### calls of built-in functions and classes with one or two arguments -/
section
variable {X : Cx} {a b : Expr} {ta tb : TE} {p pos : Pos} {x : Str} {id T : String} {r : List V → Hp → VK → Prop}
theorem pe_b1 (hc : CallR X (.builtin id) r) (hm : X.mg x = none) (hv : bootBuiltins x = some (.builtin id)) (ha : PE X a ta) (hg : Gl X x := by rfl) (hn : x ≠ "__name__" := by decide) (hd : (x == ("__debug__" : Str)) = false := by decide)
    (s1 : starEach [a] X.env = (false, eval a X.env) :: starEach [] X.env := by rfl) : PE X (.Call (.Name x p) [a] [] pos) (tCB r (tCons ta tNil)) := pe_callB hc hg hm hv (pa_cons ha pa_nil s1) (hn := hn) (hdb := hd) (he := s1)
theorem pe_t1 (hc : CallR X (.type T) r) (hm : X.mg x = none) (hv : bootBuiltins x = some (.type T)) (ha : PE X a ta) (hg : Gl X x := by rfl) (hn : x ≠ "__name__" := by decide) (hd : (x == ("__debug__" : Str)) = false := by decide)
    (s1 : starEach [a] X.env = (false, eval a X.env) :: starEach [] X.env := by rfl) : PE X (.Call (.Name x p) [a] [] pos) (tCB r (tCons ta tNil)) := pe_callTy hc hg hm hv (pa_cons ha pa_nil s1) (hn := hn) (hdb := hd) (he := s1)
theorem pe_b2 (hc : CallR X (.builtin id) r) (hm : X.mg x = none) (hv : bootBuiltins x = some (.builtin id)) (ha : PE X a ta) (hb : PE X b tb) (hg : Gl X x := by rfl) (hn : x ≠ "__name__" := by decide) (hd : (x == ("__debug__" : Str)) = false := by decide)
    (s1 : starEach [a, b] X.env = (false, eval a X.env) :: starEach [b] X.env := by rfl) (s2 : starEach [b] X.env = (false, eval b X.env) :: starEach [] X.env := by rfl) (hpl : (backTo pos (starEach [b] X.env)).any (·.1) = false := by rfl) :
    PE X (.Call (.Name x p) [a, b] [] pos) (tCB r (tCons ta (tCons tb tNil))) := pe_callB hc hg hm hv (pa_cons ha (pa_cons hb pa_nil s2) s1) (hn := hn) (hdb := hd) (he := s1) (hpl := hpl)
end
theorem boot_tup : bootBuiltins "tuple" = some (.type "tuple") := by first | boot_by_name | rfl | kernel_rfl
/-! ### is_from_to -/
abbrev sFt : Stmt := top 10
def fromTo (x : V) (lo hi : Int) : Bool := match x with
  | .int i => decide (lo ≤ i) && decide (i ≤ hi)
  | _ => false
def spFt : Sp := fun vs H Q _ => ∃ (x : V) (T : String) (lo hi : Int), vs = [x, .int lo, .int hi] ∧ Kd H x T ∧ Q (.bl (fromTo x lo hi)) H
theorem scFt : FnScope ["value", "least", "most"] ["value", "least", "most"] (defScope sFt) := ⟨rfl, rfl, rfl, by decide +kernel, rfl, by decide +kernel, by decide +kernel⟩
theorem ok_ft {P : Program} {w : World} {K : PySem.W.Frag} {mg : Str → Option Value} {base : Heap} {f : Addr} {fd : FuncData} (F : Fun K "is_from_to" "is_from_to" sFt f fd) (B : Blt mg) : FnOk P w K mg base CX0 1 f fd ["value", "least", "most"] spFt := by
  refine F.ok scFt (fun vs H Q E h => ?_) (fun cdv A outer s H vs Q E hr h => ?_)
  · obtain ⟨x, T, lo, hi, rfl, _⟩ := h
    rfl
  · obtain ⟨x, T, lo, hi, rfl, k, q⟩ := h
    refine ⟨_, pss_one (ps_ret (pe_and (pe_isi B (pv 0) (by rfl) (by rfl) B.int boot_int) (pe_and (pe_not (pe_isi B (pv 0) (by rfl) (by rfl) B.bool boot_bool)) (pe_one (pe_chain op_le op_le (pv 1) (pv 0) (pv 2)))))), ?_⟩
    cases k with
    | int i =>
      refine ⟨_, rfl, _, _, _, _, true, rfl, .ty _, Kd.tyx (.int i), kit_ty (by decide +kernel), _, rfl, iteT ⟨_, rfl, _, _, _, _, false, rfl, .ty _, Kd.tyx (.int i), kit_ty (by decide +kernel), _, rfl, _, rfl, iteT ?_⟩⟩
      refine ⟨_, rfl, _, rfl, _, _, rfl, rfl, _, rfl, ite2 (fun h1 => ?_) (fun h1 => ?_)⟩
      · refine ⟨_, rfl, _, _, rfl, rfl, ?_⟩
        unfold fromTo at q
        simp only [h1, Bool.true_and] at q
        exact q
      · unfold fromTo at q
        have h1' : decide (lo ≤ i) = false := by simpa using h1
        simp only [h1', Bool.false_and] at q
        exact q
    | bl b => exact ⟨_, rfl, _, _, _, _, true, rfl, .ty _, Kd.tyx (.bl b), kit_ty (by decide +kernel), _, rfl, iteT ⟨_, rfl, _, _, _, _, true, rfl, .ty _, Kd.tyx (.bl b), kit_ty (by decide +kernel), _, rfl, _, rfl, iteF q⟩⟩
    | non => exact ⟨_, rfl, _, _, _, _, false, rfl, .ty _, Kd.tyx .non, kit_ty (by decide +kernel), _, rfl, iteF q⟩
    | str z => exact ⟨_, rfl, _, _, _, _, false, rfl, .ty _, Kd.tyx (.str z), kit_ty (by decide +kernel), _, rfl, iteF q⟩
    | tup h => exact ⟨_, rfl, _, _, _, _, false, rfl, .ty _, Kd.tyx (.tup h), kit_ty (by decide +kernel), _, rfl, iteF q⟩
    | lst h => exact ⟨_, rfl, _, _, _, _, false, rfl, .ty _, Kd.tyx (.lst h), kit_ty (by decide +kernel), _, rfl, iteF q⟩
end MV
end
/-! KCl -/
section
set_option Elab.async false
set_option linter.all false
set_option maxRecDepth 100000
set_option maxHeartbeats 4000000
/-! Cluster.__init__, is_wishes -/
namespace MV
open PySem PySem.Spec PyProof.Rows L2 KX
abbrev nv (n : Nat) : V := .int (n : Int)
abbrev nvs (l : List Nat) : List V := l.map nv
theorem nvs_get {l : List Nat} {i : Nat} {x : V} (h : (nvs l)[i]? = some x) : ∃ n, l[i]? = some n ∧ x = nv n := by
  rw [List.getElem?_map] at h
  cases e : l[i]? with
  | none =>
    rw [e] at h
    cases h
  | some n =>
    rw [e] at h
    exact ⟨n, rfl, (Option.some.inj h).symm⟩
theorem nvs_at {l : List Nat} {i n : Nat} (h : l[i]? = some n) : (nvs l)[i]? = some (nv n) := by
  rw [List.getElem?_map, h]
  rfl
theorem sNew {H : Hp} {p : Addr} {o : HO} (h : H p = none) : Same H (upd H p o) := fun b u e => by
  rw [upd_ne (ne_of_none e h)]
  exact e
theorem sAdd {H H' : Hp} (s : Same H H') {p : Addr} {o : HO} (h : H' p = none) : Same H (upd H' p o) := s.trans (sNew h)
theorem lk_here {k : Str} {v : V} {r : List (Str × V)} : List.lookup k ((k, v) :: r) = some v := by
  have e : (k == k) = true := beq_self_eq_true k
  simp only [List.lookup, e]
theorem lk_past {k g : Str} {v : V} {r : List (Str × V)} (h : (k == g) = false) : List.lookup k ((g, v) :: r) = List.lookup k r := by
  simp only [List.lookup, h]
theorem put_past {f g : Str} {v x : V} {r : List (Str × V)} (h : ¬ g = f) : putF f v ((g, x) :: r) = (g, x) :: putF f v r := if_neg h
theorem put_nil {f : Str} {v : V} : putF f v [] = [(f, v)] := rfl
/-! ### Cluster -/
def clF (tr tm tt : Addr) (n : Nat) : List (Str × V) := [("racks", .ref tr), ("rooms", .ref tm), ("rates", .ref tt), ("store_count", nv n)]
theorem clF_racks (tr tm tt : Addr) (n : Nat) : (clF tr tm tt n).lookup ("racks" : Str) = some (.ref tr) := lk_here
theorem clF_rooms (tr tm tt : Addr) (n : Nat) : (clF tr tm tt n).lookup ("rooms" : Str) = some (.ref tm) := (lk_past (by decide +kernel)).trans lk_here
theorem clF_count (tr tm tt : Addr) (n : Nat) : (clF tr tm tt n).lookup ("store_count" : Str) = some (nv n) := (lk_past (by decide +kernel)).trans ((lk_past (by decide +kernel)).trans ((lk_past (by decide +kernel)).trans lk_here))
structure ClAt (CC : Addr) (H : Hp) (c dc tr tm tt : Addr) (racks rooms rates : List Nat) : Prop where
  ins : H c = some (.ins CC dc (clF tr tm tt racks.length))
  racks : H tr = some (.tup (nvs racks))
  rooms : H tm = some (.tup (nvs rooms))
  rates : H tt = some (.tup (nvs rates))
theorem ClAt.same {CC : Addr} {H H' : Hp} {c dc tr tm tt : Addr} {racks rooms rates : List Nat} (h : ClAt CC H c dc tr tm tt racks rooms rates) (s : Same H H') : ClAt CC H' c dc tr tm tt racks rooms rates := ⟨s _ _ h.ins, s _ _ h.racks, s _ _ h.rooms, s _ _ h.rates⟩
/-- what a cluster's numbers must be -/
structure ClOk (racks rooms rates : List Nat) : Prop where
  n1 : 1 ≤ racks.length
  n8 : racks.length ≤ 8
  lm : rooms.length = racks.length
  lt : rates.length = racks.length
  racks : ∀ x ∈ racks, x ≤ 99
  rooms : ∀ x ∈ rooms, x ≤ 99
  rates : ∀ x ∈ rates, 1 ≤ x ∧ x ≤ 8
/-- the class as the text has written it -/
structure ClT (K : PySem.W.Frag) (mg : Str → Option Value) (CC : Addr) : Prop where
  cl : Cls K CC
  nR : NoAttr K CC "racks"
  nM : NoAttr K CC "rooms"
  nT : NoAttr K CC "rates"
  nS : NoAttr K CC "store_count"
  mS : ∃ t, mg "MOST_STORES" = some (.int 8 t)
  mN : ∃ t, mg "MOST_NUMBER" = some (.int 99 t)
  mR : ∃ t, mg "MOST_RATE" = some (.int 8 t)
abbrev sCl : Stmt := inClass (top 11) 0
def spCl (CC : Addr) : Sp := fun vs H Q _ => ∃ (p dx tr tm tt : Addr) (racks rooms rates : List Nat), vs = [.ref p, .ref tr, .ref tm, .ref tt] ∧ H p = some (.ins CC dx []) ∧ H tr = some (.tup (nvs racks)) ∧ H tm = some (.tup (nvs rooms)) ∧ H tt = some (.tup (nvs rates)) ∧ ClOk racks rooms rates ∧
  ∀ H', ClAt CC H' p dx tr tm tt racks rooms rates → (∀ b o, H b = some o → b ≠ p → H' b = some o) → Q .non H'
abbrev nCl : List Str := ["self", "racks", "rooms", "rates", "store", "rack", "room", "rate"]
theorem scCl : FnScope nCl ["self", "racks", "rooms", "rates"] (defScope sCl) := ⟨rfl, rfl, rfl, by decide +kernel, rfl, by decide +kernel, by decide +kernel⟩
theorem fromTo_nat {n lo hi : Nat} (h1 : lo ≤ n) (h2 : n ≤ hi) : fromTo (nv n) lo hi = true := by
  unfold fromTo nv
  simp
  omega
section
variable {P : Program} {w : World} {K : PySem.W.Frag} {mg : Str → Option Value} {base : Heap}
theorem ok_cl {f fF CC : Addr} {fd fdF : FuncData} (F : Fun K "__init__" "Cluster.__init__" sCl f fd) (B : Blt mg) (T : ClT K mg CC) (c : Fn K mg "is_from_to" fF fdF ["value", "least", "most"]) (G : FnOk P w K mg base CX0 1 fF fdF ["value", "least", "most"] spFt) :
    FnOk P w K mg base CX0 2 f fd ["self", "racks", "rooms", "rates"] (spCl CC) := by
  refine F.ok scCl (fun vs H Q E h => ?_) (fun cdv A outer s H vs Q E hr h => ?_)
  · obtain ⟨p, dx, tr, tm, tt, racks, rooms, rates, rfl, _⟩ := h
    rfl
  · obtain ⟨p, dx, tr, tm, tt, racks, rooms, rates, rfl, hp, hR, hM, hT, ok, k⟩ := h
    obtain ⟨t8, m8⟩ := T.mS
    obtain ⟨t99, m99⟩ := T.mN
    obtain ⟨tr8, mr8⟩ := T.mR
    refine ⟨_, pss_cons (ps_if (PW.pt (pw_or (pt_not (pt_val (pe_b2 call_isiT B.isinstance boot_isinstance (pv 1) (pe_tup (pa_cons (pe_bltn (v := .ty "list") (by rfl) B.list boot_list rfl) (pa_cons (pe_bltn (v := .ty "tuple") (by rfl) B.tuple boot_tup rfl) pa_nil))))))
        (pw_or1 (pt_not (pt_chain op_le op_le pe_int (pe_b1 call_len B.len PySem.boot_len (pv 1)) (pe_glob (v := .int 8) (by rfl) m8 ⟨_, rfl⟩)))))) (pss_one ps_never) pss_nil)
      (pss_cons (ps_for PassesOwn.never rfl (pi_enumT (by rfl) B.enumerate (pa_cons (pv 1) pa_nil)) (pg_tup rfl (pgs_cons (pg_name (i := 4) scCl.nd rfl (Or.inl rfl)) (pgs_cons (pg_name (i := 5) scCl.nd rfl (Or.inl rfl)) pgs_nil)))
        (pss_one (ps_if (pt_not (pt_val (pe_call G hr (by rfl) c.mg c.kp c.bi .nil pass0 (pa_cons (pv 5) (pa_cons pe_int (pa_cons (pe_glob (v := .int 99) (by rfl) m99 ⟨_, rfl⟩) pa_nil)))))) (pss_one ps_never) pss_nil)))
      (pss_cons (ps_if (PW.pt (pw_or (pt_not (pt_val (pe_b2 call_isiT B.isinstance boot_isinstance (pv 2) (pe_tup (pa_cons (pe_bltn (v := .ty "list") (by rfl) B.list boot_list rfl) (pa_cons (pe_bltn (v := .ty "tuple") (by rfl) B.tuple boot_tup rfl) pa_nil))))))
        (pw_or1 (pt_cmpR op_ne (pe_b1 call_len B.len PySem.boot_len (pv 2)) (pe_b1 call_len B.len PySem.boot_len (pv 1)) (nomark _))))) (pss_one ps_never) pss_nil)
      (pss_cons (ps_for PassesOwn.never rfl (pi_enumT (by rfl) B.enumerate (pa_cons (pv 2) pa_nil)) (pg_tup rfl (pgs_cons (pg_name (i := 4) scCl.nd rfl (Or.inl rfl)) (pgs_cons (pg_name (i := 6) scCl.nd rfl (Or.inl rfl)) pgs_nil)))
        (pss_one (ps_if (pt_not (pt_val (pe_call G hr (by rfl) c.mg c.kp c.bi .nil pass0 (pa_cons (pv 6) (pa_cons pe_int (pa_cons (pe_glob (v := .int 99) (by rfl) m99 ⟨_, rfl⟩) pa_nil)))))) (pss_one ps_never) pss_nil)))
      (pss_cons (ps_if (PW.pt (pw_or (pt_not (pt_val (pe_b2 call_isiT B.isinstance boot_isinstance (pv 3) (pe_tup (pa_cons (pe_bltn (v := .ty "list") (by rfl) B.list boot_list rfl) (pa_cons (pe_bltn (v := .ty "tuple") (by rfl) B.tuple boot_tup rfl) pa_nil))))))
        (pw_or1 (pt_cmpR op_ne (pe_b1 call_len B.len PySem.boot_len (pv 3)) (pe_b1 call_len B.len PySem.boot_len (pv 1)) (nomark _))))) (pss_one ps_never) pss_nil)
      (pss_cons (ps_for PassesOwn.never rfl (pi_enumT (by rfl) B.enumerate (pa_cons (pv 3) pa_nil)) (pg_tup rfl (pgs_cons (pg_name (i := 4) scCl.nd rfl (Or.inl rfl)) (pgs_cons (pg_name (i := 7) scCl.nd rfl (Or.inl rfl)) pgs_nil)))
        (pss_one (ps_if (pt_not (pt_val (pe_call G hr (by rfl) c.mg c.kp c.bi .nil pass0 (pa_cons (pv 7) (pa_cons pe_int (pa_cons (pe_glob (v := .int 8) (by rfl) mr8 ⟨_, rfl⟩) pa_nil)))))) (pss_one ps_never) pss_nil)))
      (pss_cons (ps_fld (pv 0) (pe_t1 call_tupleT B.tuple boot_tup (pv 1)) rfl) (pss_cons (ps_fld (pv 0) (pe_t1 call_tupleT B.tuple boot_tup (pv 2)) rfl)
      (pss_cons (ps_fld (pv 0) (pe_t1 call_tupleT B.tuple boot_tup (pv 3)) rfl) (pss_one (ps_fld (pv 0) (pe_b1 call_len B.len PySem.boot_len (pv 1)) rfl)))))))))), ?_⟩
    have lenr : nvs racks = racks.map nv := rfl
    -- racks
    refine ⟨_, rfl, (by show 2 ≤ sizeLine; decide), fun q1 n1 => ⟨_, q1, _, _, _, true, rfl, upd_same, .cons (.ty _) (.cons (.ty _) .nil), Kd.tyx (.tup (sNew n1 _ _ hR)), isLT, _, rfl, iteF ?_⟩⟩
    have s1 : Same H (upd H q1 (.tup [.ty "list", .ty "tuple"])) := sNew n1
    refine ⟨_, rfl, _, (nvs racks).length, rfl, .inr ⟨_, SqT.of (s1 _ _ hR), rfl⟩, _, _, rfl, rfl, _, rfl, iteD (by rw [List.length_map]; have := ok.n1; omega) ⟨_, _, rfl, rfl, _, rfl, ?_⟩⟩
    refine iteNS (by rw [List.length_map]; have := ok.n8; omega) ?_
    refine ⟨_, rfl, tr, nvs racks, rfl, SqT.of (s1 _ _ hR), for_enumT (xs := nvs racks) (fun i σ H' => ∃ v4 v5, σ = [some (.ref p), some (.ref tr), some (.ref tm), some (.ref tt), v4, v5, none, none] ∧ Same H H') ⟨none, none, rfl, s1⟩ (fun i σ H' _ ⟨_, _, _, z⟩ => SqT.of (z _ _ hR)) ?_ ?_⟩
    · rintro i x T σ H' hx hn ⟨v4, v5, rfl, z⟩
      obtain ⟨n, hn', rfl⟩ := nvs_get hx
      refine ⟨T, _, rfl, SqT.of upd_same, rfl, _, _, rfl, _, _, rfl, rfl, ?_⟩
      refine ⟨_, rfl, _, _, _, _, rfl, .int _, _, rfl, iteN (fromTo_nat (lo := 0) (hi := 99) (Nat.zero_le _) (ok.racks n (List.mem_of_getElem? hn'))) ?_⟩
      exact ⟨_, _, rfl, sAdd z hn⟩
    rintro σ H1 ⟨v4, v5, rfl, z1⟩
    -- rooms
    refine ⟨_, rfl, (by show 2 ≤ sizeLine; decide), fun q2 n2 => ⟨_, q2, _, _, _, true, rfl, upd_same, .cons (.ty _) (.cons (.ty _) .nil), Kd.tyx (.tup (sNew n2 _ _ (z1 _ _ hM))), isLT, _, rfl, iteF ?_⟩⟩
    have s2 : Same H (upd H1 q2 (.tup [.ty "list", .ty "tuple"])) := sAdd z1 n2
    refine ⟨_, rfl, _, (nvs rooms).length, rfl, .inr ⟨_, SqT.of (s2 _ _ hM), rfl⟩, _, rfl, _, (nvs racks).length, rfl, .inr ⟨_, SqT.of (s2 _ _ hR), rfl⟩, rfl, _, rfl, ?_⟩
    refine iteNS (by rw [List.length_map, List.length_map, ok.lm]) ?_
    refine ⟨_, rfl, tm, nvs rooms, rfl, SqT.of (s2 _ _ hM), for_enumT (xs := nvs rooms) (fun i σ H' => ∃ v4 v5 v6, σ = [some (.ref p), some (.ref tr), some (.ref tm), some (.ref tt), v4, v5, v6, none] ∧ Same H H') ⟨_, _, none, rfl, s2⟩ (fun i σ H' _ ⟨_, _, _, _, z⟩ => SqT.of (z _ _ hM)) ?_ ?_⟩
    · rintro i x T σ H' hx hn ⟨v4, v5, v6, rfl, z⟩
      obtain ⟨n, hn', rfl⟩ := nvs_get hx
      refine ⟨T, _, rfl, SqT.of upd_same, rfl, _, _, rfl, _, _, rfl, rfl, ?_⟩
      refine ⟨_, rfl, _, _, _, _, rfl, .int _, _, rfl, iteN (fromTo_nat (lo := 0) (hi := 99) (Nat.zero_le _) (ok.rooms n (List.mem_of_getElem? hn'))) ?_⟩
      exact ⟨_, _, _, rfl, sAdd z hn⟩
    rintro σ H2 ⟨v4', v5', v6', rfl, z2⟩
    -- rates
    refine ⟨_, rfl, (by show 2 ≤ sizeLine; decide), fun q3 n3 => ⟨_, q3, _, _, _, true, rfl, upd_same, .cons (.ty _) (.cons (.ty _) .nil), Kd.tyx (.tup (sNew n3 _ _ (z2 _ _ hT))), isLT, _, rfl, iteF ?_⟩⟩
    have s3 : Same H (upd H2 q3 (.tup [.ty "list", .ty "tuple"])) := sAdd z2 n3
    refine ⟨_, rfl, _, (nvs rates).length, rfl, .inr ⟨_, SqT.of (s3 _ _ hT), rfl⟩, _, rfl, _, (nvs racks).length, rfl, .inr ⟨_, SqT.of (s3 _ _ hR), rfl⟩, rfl, _, rfl, ?_⟩
    refine iteNS (by rw [List.length_map, List.length_map, ok.lt]) ?_
    refine ⟨_, rfl, tt, nvs rates, rfl, SqT.of (s3 _ _ hT), for_enumT (xs := nvs rates) (fun i σ H' => ∃ v4 v5 v6 v7, σ = [some (.ref p), some (.ref tr), some (.ref tm), some (.ref tt), v4, v5, v6, v7] ∧ Same H H') ⟨_, _, _, none, rfl, s3⟩ (fun i σ H' _ ⟨_, _, _, _, _, z⟩ => SqT.of (z _ _ hT)) ?_ ?_⟩
    · rintro i x T σ H' hx hn ⟨v4, v5, v6, v7, rfl, z⟩
      obtain ⟨n, hn', rfl⟩ := nvs_get hx
      refine ⟨T, _, rfl, SqT.of upd_same, rfl, _, _, rfl, _, _, rfl, rfl, ?_⟩
      refine ⟨_, rfl, _, _, _, _, rfl, .int _, _, rfl, iteN (fromTo_nat (lo := 1) (hi := 8) (ok.rates n (List.mem_of_getElem? hn')).1 (ok.rates n (List.mem_of_getElem? hn')).2) ?_⟩
      exact ⟨_, _, _, _, rfl, sAdd z hn⟩
    rintro σ H3 ⟨v4'', v5'', v6'', v7'', rfl, z3⟩
    -- the attributes
    have nr : tr ≠ p := ne_of hR hp (fun e => nomatch e)
    have nm : tm ≠ p := ne_of hM hp (fun e => nomatch e)
    have nt : tt ≠ p := ne_of hT hp (fun e => nomatch e)
    refine ⟨_, rfl, tr, _, rfl, SqT.of (z3 _ _ hR), _, rfl, p, CC, dx, _, rfl, z3 _ _ hp, T.cl, T.nR, (by show 0 < 1000; decide), ?_⟩
    refine ⟨_, rfl, tm, _, rfl, SqT.of (by rw [upd_ne nm]; exact z3 _ _ hM), _, rfl, p, CC, dx, _, rfl, upd_same, T.cl, T.nM, (by show 1 < 1000; decide), ?_⟩
    refine ⟨_, rfl, tt, _, rfl, SqT.of (by rw [upd_upd, upd_ne nt]; exact z3 _ _ hT), _, rfl, p, CC, dx, _, rfl, upd_same, T.cl, T.nT, (by show 2 < 1000; decide), ?_⟩
    refine ⟨_, rfl, _, (nvs racks).length, rfl, .inr ⟨_, SqT.of (by rw [upd_upd, upd_upd, upd_ne nr]; exact z3 _ _ hR), rfl⟩, _, rfl, p, CC, dx, _, rfl, upd_same, T.cl, T.nS, (by show 3 < 1000; decide), ?_⟩
    rw [upd_upd, upd_upd, upd_upd]
    have e4 : putF "store_count" (V.int (((nvs racks).length : Nat) : Int)) (putF "rates" (.ref tt) (putF "rooms" (.ref tm) (putF "racks" (.ref tr) []))) = clF tr tm tt racks.length := by
      have d1 : ¬ ("racks" : Str) = "rooms" := by decide +kernel
      have d2 : ¬ ("racks" : Str) = "rates" := by decide +kernel
      have d3 : ¬ ("racks" : Str) = "store_count" := by decide +kernel
      have d4 : ¬ ("rooms" : Str) = "rates" := by decide +kernel
      have d5 : ¬ ("rooms" : Str) = "store_count" := by decide +kernel
      have d6 : ¬ ("rates" : Str) = "store_count" := by decide +kernel
      simp only [List.length_map, putF, d1, d2, d3, d4, d5, d6, if_false]
      rfl
    refine k _ ⟨?_, by rw [upd_ne nr]; exact z3 _ _ hR, by rw [upd_ne nm]; exact z3 _ _ hM, by rw [upd_ne nt]; exact z3 _ _ hT⟩ fun b o e hb => by rw [upd_ne hb]; exact z3 _ _ e
    rw [upd_same, e4]
end
end MV
end
/-! KWs -/
section
set_option Elab.async false
set_option linter.all false
set_option maxRecDepth 100000
set_option maxHeartbeats 4000000
/-! is_wishes -/
namespace MV
open PySem PySem.Spec PyProof.Rows L2 KX
theorem take_more {α : Type} : ∀ {l : List α} {i : Nat} {x : α}, l[i]? = some x → l.take (i + 1) = l.take i ++ [x]
  | [], i, x, h => by simp at h
  | a :: l, 0, x, h => by
    have e : a = x := Option.some.inj h
    subst e
    rfl
  | a :: l, i + 1, x, h => by
    have ih := take_more (l := l) (i := i) (x := x) h
    show a :: l.take (i + 1) = a :: l.take i ++ [x]
    rw [ih]
    rfl
/-- what stood before stands, behind a store to what is new -/
theorem sUpd {H H' : Hp} (s : Same H H') {p : Addr} {o : HO} (h : H p = none) : Same H (upd H' p o) := fun b u e => by
  rw [upd_ne (ne_of_none e h)]
  exact s b u e
theorem Kd.same {H H' : Hp} {x : V} {T : String} (k : Kd H x T) (s : Same H H') : Kd H' x T := by
  cases k with
  | int i => exact .int i
  | bl b => exact .bl b
  | non => exact .non
  | str z => exact .str z
  | tup h => exact .tup (s _ _ h)
  | lst h => exact .lst (s _ _ h)
theorem small {n : Nat} (h : n ≤ 100000) : n < sizeLine := Nat.lt_of_le_of_lt h (by decide)
abbrev sWs : Stmt := top 14
def spWs : Sp := fun vs H Q _ => ∃ x, vs = [x] ∧ ((∃ (a : Addr) (xs : List V), x = .ref a ∧ H a = some (.tup xs) ∧ xs.length ≤ 1000 ∧ (∀ y ∈ xs, ∃ T, Kd H y T) ∧ ∀ H', Same H H' → Q (.bl (xs.all fun y => fromTo y 1 3)) H') ∨
  ∃ T, Kd H x T ∧ T ≠ "tuple" ∧ Q (.bl false) H)
theorem scWs : FnScope ["value", "wish"] ["value"] (defScope sWs) := ⟨rfl, rfl, rfl, by decide +kernel, rfl, by decide +kernel, by decide +kernel⟩
section
variable {P : Program} {w : World} {K : PySem.W.Frag} {mg : Str → Option Value} {base : Heap}
theorem ok_ws {f fF : Addr} {fd fdF : FuncData} (F : Fun K "is_wishes" "is_wishes" sWs f fd) (B : Blt mg) (mW : ∃ t, mg "MOST_WISH" = some (.int 3 t)) (c : Fn K mg "is_from_to" fF fdF ["value", "least", "most"]) (G : FnOk P w K mg base CX0 1 fF fdF ["value", "least", "most"] spFt) :
    FnOk P w K mg base CX0 2 f fd ["value"] spWs := by
  refine F.ok scWs (fun vs H Q E h => ?_) (fun cdv A outer s H vs Q E hr h => ?_)
  · obtain ⟨x, rfl, _⟩ := h
    rfl
  · obtain ⟨x, rfl, h⟩ := h
    obtain ⟨t3, m3⟩ := mW
    refine ⟨_, pss_one (ps_ret (pe_and (pe_isi B (pv 0) (by rfl) (by rfl) B.tuple boot_tup) (pe_one (pe_b1 (cr_all rfl) B.all boot_all
      (pe_lc (own := [("wish", 1)]) (g := gName 1) (tt := tYes) rfl scWs.nd (pi_tup (pv 0)) (blkOk_by (N := ["value", "wish"]) (sc := defScope sWs) (by decide +kernel)) (fun _ _ _ _ _ => pg_name (i := 1) scWs.nd rfl (Or.inl rfl)) (fun _ _ _ _ _ => pts_nil)
        (fun _ _ _ _ _ => pe_call G hr (by rfl) c.mg c.kp c.bi .nil pass0 (pa_cons (pv 1) (pa_cons pe_int (pa_cons (pe_glob (v := .int 3) (by rfl) m3 ⟨_, rfl⟩) pa_nil))))))))), ?_⟩
    rcases h with ⟨a, xs, rfl, ha, hl, hk, q⟩ | ⟨T, k, hT, q⟩
    · refine ⟨_, rfl, _, _, _, _, true, rfl, .ty _, Kd.tyx (.tup ha), kit_ty (by decide +kernel), _, rfl, iteT ?_⟩
      refine ⟨_, rfl, a, rfl, ⟨_, SqT.of ha⟩, fun D hD => lc_tup (xs := xs) (fun i H' => Same H H' ∧ H' D = some (.lst ((xs.take i).map fun y => V.bl (fromTo y 1 3)))) ⟨sNew hD, upd_same⟩ (fun i H' _ z => SqT.of (z.1 _ _ ha)) ?_ ?_⟩
      · rintro i y H' hi ⟨z, hD'⟩
        obtain ⟨T, k⟩ := hk y (List.mem_of_getElem? hi)
        refine ⟨rfl, _, rfl, _, _, _, _, rfl, k.same z, _, hD', ?_, sUpd z hD, ?_⟩
        · rw [List.length_map]
          exact small (by have := List.length_take_le' i xs; omega)
        · rw [upd_same, take_more hi, List.map_append]
          rfl
      · rintro H' ⟨z, hD'⟩
        refine ⟨D, xs.map fun y => fromTo y 1 3, rfl, ?_, ?_⟩
        · rw [List.take_length] at hD'
          refine SqL.of ?_
          rw [hD', List.map_map]
          rfl
        · have e : (xs.map fun y => fromTo y 1 3).all id = xs.all fun y => fromTo y 1 3 := by rw [List.all_map]; rfl
          rw [e]
          exact q H' z
    · have no : kitB T "tuple" = some false := by
        cases k with
        | tup h => exact absurd rfl hT
        | _ => decide +kernel
      exact ⟨_, rfl, _, _, _, _, false, rfl, .ty _, k.tyx, kit_ty no, _, rfl, iteF q⟩
end
end MV
end
/-! KFl -/
section
set_option Elab.async false
set_option linter.all false
set_option maxRecDepth 100000
set_option maxHeartbeats 4000000
/-! the flow: what stands in the heap; its small methods -/
namespace MV
open PySem PyProof.Rows L2 KX
open PySem.Spec hiding Row
open MW (Inst Row Chosen)
abbrev flNames : List Str := ["cluster", "wishes", "before", "gates", "racks", "chosen", "first_gate", "first_store", "sink"]
def flF (c w b g r ch : Addr) (fg fs sk : Nat) : List (Str × V) := [("cluster", .ref c), ("wishes", .ref w), ("before", .ref b), ("gates", .ref g), ("racks", .ref r), ("chosen", .ref ch), ("first_gate", nv fg), ("first_store", nv fs), ("sink", nv sk)]
section
variable {c w b g r ch : Addr} {fg fs sk : Nat}
theorem fl_cluster : (flF c w b g r ch fg fs sk).lookup ("cluster" : Str) = some (.ref c) := lk_here
theorem fl_wishes : (flF c w b g r ch fg fs sk).lookup ("wishes" : Str) = some (.ref w) := (lk_past (by decide +kernel)).trans lk_here
theorem fl_before : (flF c w b g r ch fg fs sk).lookup ("before" : Str) = some (.ref b) := (lk_past (by decide +kernel)).trans ((lk_past (by decide +kernel)).trans lk_here)
theorem fl_gates : (flF c w b g r ch fg fs sk).lookup ("gates" : Str) = some (.ref g) := (lk_past (by decide +kernel)).trans ((lk_past (by decide +kernel)).trans ((lk_past (by decide +kernel)).trans lk_here))
theorem fl_racks : (flF c w b g r ch fg fs sk).lookup ("racks" : Str) = some (.ref r) := (lk_past (by decide +kernel)).trans ((lk_past (by decide +kernel)).trans ((lk_past (by decide +kernel)).trans ((lk_past (by decide +kernel)).trans lk_here)))
theorem fl_chosen : (flF c w b g r ch fg fs sk).lookup ("chosen" : Str) = some (.ref ch) := (lk_past (by decide +kernel)).trans ((lk_past (by decide +kernel)).trans ((lk_past (by decide +kernel)).trans ((lk_past (by decide +kernel)).trans ((lk_past (by decide +kernel)).trans lk_here))))
theorem fl_fg : (flF c w b g r ch fg fs sk).lookup ("first_gate" : Str) = some (nv fg) := (lk_past (by decide +kernel)).trans ((lk_past (by decide +kernel)).trans ((lk_past (by decide +kernel)).trans ((lk_past (by decide +kernel)).trans ((lk_past (by decide +kernel)).trans ((lk_past (by decide +kernel)).trans lk_here)))))
theorem fl_fs : (flF c w b g r ch fg fs sk).lookup ("first_store" : Str) = some (nv fs) := (lk_past (by decide +kernel)).trans ((lk_past (by decide +kernel)).trans ((lk_past (by decide +kernel)).trans ((lk_past (by decide +kernel)).trans ((lk_past (by decide +kernel)).trans ((lk_past (by decide +kernel)).trans ((lk_past (by decide +kernel)).trans lk_here))))))
theorem fl_sink : (flF c w b g r ch fg fs sk).lookup ("sink" : Str) = some (nv sk) := (lk_past (by decide +kernel)).trans ((lk_past (by decide +kernel)).trans ((lk_past (by decide +kernel)).trans ((lk_past (by decide +kernel)).trans ((lk_past (by decide +kernel)).trans ((lk_past (by decide +kernel)).trans ((lk_past (by decide +kernel)).trans ((lk_past (by decide +kernel)).trans lk_here)))))))
theorem fl_none {m : Str} (h : (flNames.all fun f => !(m == f)) = true) : (flF c w b g r ch fg fs sk).lookup m = none := by
  have h' := List.all_eq_true.mp h
  have e : ∀ f ∈ flNames, (m == f) = false := fun f hf => by simpa using h' f hf
  unfold flF
  rw [lk_past (e _ (by simp)), lk_past (e _ (by simp)), lk_past (e _ (by simp)), lk_past (e _ (by simp)), lk_past (e _ (by simp)), lk_past (e _ (by simp)), lk_past (e _ (by simp)), lk_past (e _ (by simp)), lk_past (e _ (by simp))]
  rfl
end
/-- where the parts lie -/
structure Geo where
  s : Addr
  dx : Addr
  c : Addr
  dc : Addr
  tr : Addr
  tm : Addr
  tt : Addr
  w : Addr
  b : Addr
  g : Addr
  r : Addr
  cl : Addr
  ds : List Addr
  es : List Addr
  rates : List Nat
/-- all of it but the dicts -/
structure FlowB (CC SC : Addr) (G : Geo) (I : Inst) (H : Hp) : Prop where
  ok : I.Ok
  m4 : I.m ≤ 4
  n8 : I.n ≤ 8
  k8 : I.k ≤ 8
  r99 : ∀ x ∈ I.racks, x ≤ 99
  w3 : ∀ x ∈ I.W, x ≤ 3
  ins : H G.s = some (.ins SC G.dx (flF G.c G.w G.b G.g G.r G.cl I.fg I.fs I.sink))
  at_ : ClAt CC H G.c G.dc G.tr G.tm G.tt I.racks I.rooms G.rates
  wi : H G.w = some (.tup (nvs I.W))
  be : H G.b = some (.tup (G.es.map .ref))
  el : G.es.length = I.m
  em : ∀ e ∈ G.es, H e = some (.tup [])
  ga : H G.g = some (.lst (I.racks.map fun _ => nv (I.m + 1)))
  rk : H G.r = some (.lst (nvs I.rk))
  cs : H G.cl = some (.lst (G.ds.map .ref))
  dl : G.ds.length = I.m
  dn : G.ds.Nodup
def rowV (l : Row) : List (Key × V) := l.map fun e => (Sum.inl (e.1 : Int), nv e.2)
/-- the dicts -/
def DcAt (G : Geo) (ch : Chosen) (H : Hp) : Prop := ch.length = G.ds.length ∧ ∀ (q : Nat) (d : Addr), G.ds[q]? = some d → H d = some (.dK (rowV (ch.getD q [])))
/-- what is no dict stands -/
def Keep (H H' : Hp) : Prop := ∀ b o, H b = some o → (∀ kvs, o ≠ .dK kvs) → H' b = some o
theorem Keep.of {H H' : Hp} (s : Same H H') : Keep H H' := fun b o e _ => s b o e
theorem Keep.trans {H H1 H2 : Hp} (s : Keep H H1) (t : Keep H1 H2) : Keep H H2 := fun b o e n => t b o (s b o e n) n
theorem Keep.dict {H : Hp} {d : Addr} {kvs : List (Key × V)} (e : H d = some (.dK kvs)) (o : HO) : Keep H (upd H d o) := fun b o' e' n => by
  rw [upd_ne]
  · exact e'
  · intro z
    subst z
    rw [e] at e'
    exact n _ (Option.some.inj e').symm
theorem ClAt.keep {CC : Addr} {H H' : Hp} {c dc tr tm tt : Addr} {racks rooms rates : List Nat} (h : ClAt CC H c dc tr tm tt racks rooms rates) (s : Keep H H') : ClAt CC H' c dc tr tm tt racks rooms rates :=
  ⟨s _ _ h.ins (fun _ z => nomatch z), s _ _ h.racks (fun _ z => nomatch z), s _ _ h.rooms (fun _ z => nomatch z), s _ _ h.rates (fun _ z => nomatch z)⟩
theorem FlowB.keep {CC SC : Addr} {G : Geo} {I : Inst} {H H' : Hp} (f : FlowB CC SC G I H) (s : Keep H H') : FlowB CC SC G I H' :=
  ⟨f.ok, f.m4, f.n8, f.k8, f.r99, f.w3, s _ _ f.ins (fun _ z => nomatch z), f.at_.keep s, s _ _ f.wi (fun _ z => nomatch z), s _ _ f.be (fun _ z => nomatch z), f.el, fun e he => s _ _ (f.em e he) (fun _ z => nomatch z), s _ _ f.ga (fun _ z => nomatch z), s _ _ f.rk (fun _ z => nomatch z), s _ _ f.cs (fun _ z => nomatch z), f.dl, f.dn⟩
theorem FlowB.same {CC SC : Addr} {G : Geo} {I : Inst} {H H' : Hp} (f : FlowB CC SC G I H) (s : Same H H') : FlowB CC SC G I H' := f.keep (.of s)
theorem DcAt.same {G : Geo} {ch : Chosen} {H H' : Hp} (f : DcAt G ch H) (s : Same H H') : DcAt G ch H' := ⟨f.1, fun q d e => s _ _ (f.2 q d e)⟩
/-! the dict of a piece and its mirror -/
theorem rowV_val (l : Row) (r : Nat) : valV (rowV l) (Sum.inl (r : Int)) = (l.lookup r).map nv := by
  induction l with
  | nil => rfl
  | cons e l ih =>
    obtain ⟨a, b⟩ := e
    by_cases c : a = r
    · subst c
      have e1 : (((a, b) :: l).lookup a) = some b := by simp
      rw [e1]
      exact valV_pos rfl
    · have e1 : (r == a) = false := by simpa using fun z => c z.symm
      rw [List.lookup_cons, e1]
      exact (valV_neg (by intro z; injection z with z; exact c (Int.ofNat_inj.mp z))).trans ih
theorem rowV_put (l : Row) (r v : Nat) : putK (rowV l) (Sum.inl (r : Int)) (nv v) = rowV (MW.put1 l r v) := by
  have hd : ∀ a : Nat, ((Sum.inl (a : Int) : Key) = Sum.inl (r : Int)) ↔ a = r := fun a => ⟨fun z => by injection z with z; exact Int.ofNat_inj.mp z, fun z => by rw [z]⟩
  unfold putK MW.put1
  have ea : (rowV l).any (fun kv => decide (kv.1 = (Sum.inl (r : Int) : Key))) = l.any (fun kv => decide (kv.1 = r)) := by
    unfold rowV
    rw [List.any_map]
    refine congrArg (fun f => l.any f) (funext fun kv => ?_)
    exact decide_eq_decide.mpr (hd kv.1)
  rw [ea]
  split
  · unfold rowV
    rw [List.map_map, List.map_map]
    refine congrArg (fun f => l.map f) (funext fun kv => ?_)
    simp only [Function.comp]
    by_cases c : kv.1 = r
    · rw [if_pos ((hd kv.1).mpr c), if_pos c]
    · rw [if_neg (fun z => c ((hd kv.1).mp z)), if_neg c]
  · unfold rowV
    rw [List.map_append]
    rfl
theorem rowV_drop (l : Row) (r : Nat) : dropK (rowV l) (Sum.inl (r : Int)) = rowV (MW.drop1 l r) := by
  have hd : ∀ a : Nat, ((Sum.inl (a : Int) : Key) = Sum.inl (r : Int)) ↔ a = r := fun a => ⟨fun z => by injection z with z; exact Int.ofNat_inj.mp z, fun z => by rw [z]⟩
  unfold dropK MW.drop1 rowV
  rw [List.filter_map]
  refine congrArg _ (congrArg (fun f => l.filter f) (funext fun kv => ?_))
  exact decide_eq_decide.mpr (not_congr (hd kv.1))
/-- the class, as the text has written it -/
structure FlT (K : PySem.W.Frag) (SC : Addr) : Prop where
  cl : Cls K SC
  nC : NoAttr K SC "cluster"
  nW : NoAttr K SC "wishes"
  nB : NoAttr K SC "before"
  nG : NoAttr K SC "gates"
  nR : NoAttr K SC "racks"
  nCh : NoAttr K SC "chosen"
  nFg : NoAttr K SC "first_gate"
  nFs : NoAttr K SC "first_store"
  nSk : NoAttr K SC "sink"
abbrev sFl (i : Nat) : Stmt := inClass (top 16) i
section
variable {X : Cx} {e : Expr} {te : TE} {p pos : Pos}
theorem pe_len (B : Blt X.mg) (he : PE X e te) (hg : Gl X "len" := by rfl) (s1 : starEach [e] X.env = (false, eval e X.env) :: starEach [] X.env := by rfl) : PE X (.Call (.Name "len" p) [e] [] pos) (tCB (rLen X.K) (tCons te tNil)) := pe_b1 call_len B.len PySem.boot_len he (hg := hg) (s1 := s1)
end
section
variable {P : Program} {w : World} {K : PySem.W.Frag} {mg : Str → Option Value} {base : Heap} {CC SC : Addr}
/-! ### pair -/
theorem scPair : FnScope ["self", "piece", "rack"] ["self", "piece", "rack"] (defScope (sFl 1)) := ⟨rfl, rfl, rfl, by decide +kernel, rfl, by decide +kernel, by decide +kernel⟩
def spPair (CC SC : Addr) : Sp := fun vs H Q _ => ∃ (G : Geo) (I : Inst) (q r : Nat), vs = [.ref G.s, nv q, nv r] ∧ FlowB CC SC G I H ∧ q < I.m ∧ r ∈ I.rk ∧ Q (nv (MW.enc I (.pr q r))) H
theorem nvs_len (l : List Nat) : (nvs l).length = l.length := List.length_map ..
theorem idx_at {l : List Nat} {r : Nat} (h : r ∈ l) : l[l.idxOf r]? = some r := by
  rw [List.getElem?_eq_getElem (List.idxOf_lt_length_of_mem h)]
  simp
theorem idx_first {l : List Nat} {r : Nat} : ∀ {m : Nat} {z : Nat}, m < l.idxOf r → l[m]? = some z → z ≠ r := by
  induction l with
  | nil => intro m z h; simp at h
  | cons a l ih =>
    intro m z h e
    rw [List.idxOf_cons] at h
    by_cases c : a = r
    · subst c; simp at h
    · have c' : (a == r) = false := by simpa using c
      rw [c'] at h
      cases m with
      | zero => rw [List.getElem?_cons_zero] at e; exact fun z' => c (by rw [Option.some.inj e]; exact z')
      | succ m =>
        rw [List.getElem?_cons_succ] at e
        exact ih (by simp at h; omega) e
theorem eqV_nv (a b : Nat) : eqV (nv a) (nv b) = decide (a = b) := by
  show ((a : Int) == (b : Int)) = _
  rw [Bool.eq_iff_iff]
  simp
  exact Int.ofNat_inj
theorem flat_nvs (l : List Nat) : (nvs l).all flatV = true := by
  rw [List.all_eq_true]
  intro x hx
  obtain ⟨n, _, rfl⟩ := List.mem_map.mp hx
  rfl
theorem ok_pair {f : Addr} {fd : FuncData} (F : Fun K "pair" "StockFlow.pair" (sFl 1) f fd) (B : Blt mg) (T : FlT K SC) : FnOk P w K mg base CX0 1 f fd ["self", "piece", "rack"] (spPair CC SC) := by
  refine F.ok scPair (fun vs H Q E h => ?_) (fun cdv A outer s H vs Q E hr h => ?_)
  · obtain ⟨G, I, q, r, rfl, _⟩ := h
    rfl
  · obtain ⟨G, I, q, r, rfl, b, hq, hm, k⟩ := h
    refine ⟨_, pss_one (ps_ret (pe_op op_add (pe_op op_add (pe_len B (pe_fld (pv 0) rfl)) (pe_op op_mul (pv 1) (pe_len B (pe_fld (pv 0) rfl)))) (pe_bm PySem.F.plainAttrs_list PySem.F.slot_list_index PySem.F.type_list_index mt_index (pe_fld (pv 0) rfl) (pa_cons (pv 2) pa_nil)))), ?_⟩
    refine ⟨_, rfl, G.s, SC, G.dx, _, _, rfl, b.ins, T.cl, T.nW, fl_wishes, _, (nvs I.W).length, rfl, .inr ⟨_, SqT.of b.wi, rfl⟩, ?_⟩
    refine ⟨_, rfl, _, rfl, G.s, SC, G.dx, _, _, rfl, b.ins, T.cl, T.nR, fl_racks, _, (nvs I.rk).length, rfl, .inl ⟨_, SqL.of b.rk, rfl⟩, _, _, rfl, rfl, .inl ⟨by have := b.m4; omega, by have := b.m4; omega⟩, _, _, rfl, rfl, ?_⟩
    refine ⟨_, rfl, G.s, SC, G.dx, _, _, rfl, b.ins, T.cl, T.nR, fl_racks, .inl ⟨rfl, _, SqL.of b.rk⟩, _, rfl, G.r, nvs I.rk, nv r, I.rk.idxOf r, nv r, rfl, rfl, SqL.of b.rk, rfl, flat_nvs _, nvs_at (idx_at hm), (by rw [eqV_nv]; simp), ?_, _, _, rfl, rfl, ?_⟩
    · intro m z' hlt e
      obtain ⟨n, e', rfl⟩ := nvs_get e
      rw [eqV_nv]
      exact decide_eq_false (idx_first hlt e')
    · rw [nvs_len, nvs_len]
      have e : (((I.W.length : Nat) : Int) + (q : Int) * ((I.rk.length : Nat) : Int) + ((I.rk.idxOf r : Nat) : Int)) = ((MW.enc I (.pr q r) : Nat) : Int) := by
        simp only [MW.enc, Inst.m, Inst.k]
        push_cast
        rfl
      show Q (V.int (((I.W.length : Nat) : Int) + (q : Int) * ((I.rk.length : Nat) : Int) + ((I.rk.idxOf r : Nat) : Int))) H
      rw [e]
      exact k
/-! ### entry -/
theorem scEntry : FnScope ["self", "piece", "store"] ["self", "piece", "store"] (defScope (sFl 2)) := ⟨rfl, rfl, rfl, by decide +kernel, rfl, by decide +kernel, by decide +kernel⟩
def spEntry (CC SC : Addr) : Sp := fun vs H Q _ => ∃ (G : Geo) (I : Inst) (q t : Nat), vs = [.ref G.s, nv q, nv t] ∧ FlowB CC SC G I H ∧ q < I.m ∧ ∀ p, H p = none → Q (.ref p) (upd H p (.tup [nv (I.fg + t), nv 1]))
theorem ok_entry {f : Addr} {fd : FuncData} (F : Fun K "entry" "StockFlow.entry" (sFl 2) f fd) (B : Blt mg) (T : FlT K SC) : FnOk P w K mg base CX0 1 f fd ["self", "piece", "store"] (spEntry CC SC) := by
  refine F.ok scEntry (fun vs H Q E h => ?_) (fun cdv A outer s H vs Q E hr h => ?_)
  · obtain ⟨G, I, q, r, rfl, _⟩ := h
    rfl
  · obtain ⟨G, I, q, t, rfl, b, hq, k⟩ := h
    obtain ⟨e, he⟩ : ∃ e, G.es[q]? = some e := ⟨G.es[q]'(by rw [b.el]; exact hq), List.getElem?_eq_getElem _⟩
    have he' : (G.es.map V.ref)[q]? = some (.ref e) := by rw [List.getElem?_map, he]; rfl
    refine ⟨_, pss_cons (ps_if (pt_cmpR op_in_seq (pv 2) (pe_ix ix_tup (pe_fld (pv 0) rfl) (pv 1) (fun _ _ => rfl)) (by rfl)) (pss_one ps_never) pss_nil)
      (pss_one (ps_ret (pe_tup (pa_cons (pe_op op_add (pe_fld (pv 0) rfl) (pv 2)) (pa_cons pe_int pa_nil))))), ?_⟩
    refine ⟨_, rfl, _, rfl, G.s, SC, G.dx, _, _, rfl, b.ins, T.cl, T.nB, fl_before, _, rfl, G.b, _, _, _, rfl, rfl, SqT.of b.be, atI_nat he', e, _, rfl, .inr (SqT.of (b.em e (List.mem_of_getElem? he))), rfl, rfl, _, rfl, iteF ?_⟩
    refine ⟨_, rfl, G.s, SC, G.dx, _, _, rfl, b.ins, T.cl, T.nFg, fl_fg, _, rfl, _, _, rfl, rfl, (by show 2 ≤ sizeLine; decide), fun p hp => ?_⟩
    have h2 := k p hp
    have e2 : nv (I.fg + t) = V.int ((I.fg : Int) + (t : Int)) := by show V.int _ = _; push_cast; rfl
    rw [e2] at h2
    exact h2
/-! ### is_pair, is_entry -/
theorem scIsP : FnScope ["self", "node"] ["self", "node"] (defScope (sFl 7)) := ⟨rfl, rfl, rfl, by decide +kernel, rfl, by decide +kernel, by decide +kernel⟩
theorem scIsE : FnScope ["self", "node"] ["self", "node"] (defScope (sFl 8)) := ⟨rfl, rfl, rfl, by decide +kernel, rfl, by decide +kernel, by decide +kernel⟩
def spIs (CC SC : Addr) (t : Inst → Nat → Bool) : Sp := fun vs H Q _ => ∃ (G : Geo) (I : Inst) (x : Nat), vs = [.ref G.s, nv x] ∧ FlowB CC SC G I H ∧ Q (.bl (t I x)) H
theorem dec_int {a b : Nat} : decide ((a : Int) ≤ (b : Int)) = decide (a ≤ b) := decide_eq_decide.mpr Int.ofNat_le
theorem dec_lt {a b : Nat} : decide ((a : Int) < (b : Int)) = decide (a < b) := decide_eq_decide.mpr Int.ofNat_lt
theorem ok_isp {f : Addr} {fd : FuncData} (F : Fun K "is_pair" "StockFlow.is_pair" (sFl 7) f fd) (B : Blt mg) (T : FlT K SC) : FnOk P w K mg base CX0 1 f fd ["self", "node"] (spIs CC SC MW.isPair) := by
  refine F.ok scIsP (fun vs H Q E h => ?_) (fun cdv A outer s H vs Q E hr h => ?_)
  · obtain ⟨G, I, x, rfl, _⟩ := h
    rfl
  · obtain ⟨G, I, x, rfl, b, k⟩ := h
    refine ⟨_, pss_one (ps_ret (pe_chain op_le op_lt (pe_len B (pe_fld (pv 0) rfl)) (pv 1) (pe_fld (pv 0) rfl))), ?_⟩
    refine ⟨_, rfl, G.s, SC, G.dx, _, _, rfl, b.ins, T.cl, T.nW, fl_wishes, _, (nvs I.W).length, rfl, .inr ⟨_, SqT.of b.wi, rfl⟩, _, rfl, _, _, rfl, rfl, _, rfl, ?_⟩
    rw [nvs_len, dec_int]
    by_cases c : I.m ≤ x
    · refine iteD c ⟨_, rfl, G.s, SC, G.dx, _, _, rfl, b.ins, T.cl, T.nFg, fl_fg, _, _, rfl, rfl, ?_⟩
      show Q (.bl (decide ((x : Int) < (I.fg : Int)))) H
      rw [dec_lt]
      have e : MW.isPair I x = decide (x < I.fg) := by unfold MW.isPair; simp [c]
      rw [← e]
      exact k
    · refine iteDn c ?_
      have e : MW.isPair I x = false := by unfold MW.isPair; simp [c]
      rw [← e]
      exact k
theorem ok_ise {f : Addr} {fd : FuncData} (F : Fun K "is_entry" "StockFlow.is_entry" (sFl 8) f fd) (B : Blt mg) (T : FlT K SC) : FnOk P w K mg base CX0 1 f fd ["self", "node"] (spIs CC SC MW.isEntry) := by
  refine F.ok scIsE (fun vs H Q E h => ?_) (fun cdv A outer s H vs Q E hr h => ?_)
  · obtain ⟨G, I, x, rfl, _⟩ := h
    rfl
  · obtain ⟨G, I, x, rfl, b, k⟩ := h
    refine ⟨_, pss_one (ps_ret (pe_chain op_le op_lt (pe_fld (pv 0) rfl) (pv 1) (pe_fld (pv 0) rfl))), ?_⟩
    refine ⟨_, rfl, G.s, SC, G.dx, _, _, rfl, b.ins, T.cl, T.nFg, fl_fg, _, rfl, _, _, rfl, rfl, _, rfl, ?_⟩
    rw [dec_int]
    by_cases c : I.fg ≤ x
    · refine iteD c ⟨_, rfl, G.s, SC, G.dx, _, _, rfl, b.ins, T.cl, T.nSk, fl_sink, _, _, rfl, rfl, ?_⟩
      show Q (.bl (decide ((x : Int) < (I.sink : Int)))) H
      rw [dec_lt]
      have e : MW.isEntry I x = decide (x < I.sink) := by unfold MW.isEntry; simp [c]
      rw [← e]
      exact k
    · refine iteDn c ?_
      have e : MW.isEntry I x = false := by unfold MW.isEntry; simp [c]
      rw [← e]
      exact k
/-! ### pair_told -/
theorem scTold : FnScope ["self", "node", "at"] ["self", "node"] (defScope (sFl 9)) := ⟨rfl, rfl, rfl, by decide +kernel, rfl, by decide +kernel, by decide +kernel⟩
def spTold (CC SC : Addr) : Sp := fun vs H Q _ => ∃ (G : Geo) (I : Inst) (x : Nat), vs = [.ref G.s, nv x] ∧ FlowB CC SC G I H ∧ I.m ≤ x ∧ ∀ p, H p = none → Q (.ref p) (upd H p (.tup [nv (MW.pOf I x), nv (MW.rOf I x)]))
theorem k_pos {I : Inst} (ok : I.Ok) : 0 < I.k := by
  have h := ok.hn
  have : I.racks[0] ∈ I.rk := (ok.mem _).mpr (List.getElem_mem h)
  exact List.length_pos_of_mem this
theorem ok_told {f : Addr} {fd : FuncData} (F : Fun K "pair_told" "StockFlow.pair_told" (sFl 9) f fd) (B : Blt mg) (T : FlT K SC) : FnOk P w K mg base CX0 1 f fd ["self", "node"] (spTold CC SC) := by
  refine F.ok scTold (fun vs H Q E h => ?_) (fun cdv A outer s H vs Q E hr h => ?_)
  · obtain ⟨G, I, x, rfl, _⟩ := h
    rfl
  · obtain ⟨G, I, x, rfl, b, hm, k⟩ := h
    have kp := k_pos b.ok
    have k8 := b.k8
    refine ⟨_, pss_cons (ps_set (i := 2) scTold.nd rfl (Or.inl rfl) (pe_op op_sub (pv 1) (pe_len B (pe_fld (pv 0) rfl))))
      (pss_one (ps_ret (pe_tup (pa_cons (pe_op op_fdiv (pv 2) (pe_len B (pe_fld (pv 0) rfl))) (pa_cons (pe_ix ix_list (pe_fld (pv 0) rfl) (pe_op op_mod (pv 2) (pe_len B (pe_fld (pv 0) rfl))) (fun _ _ => rfl)) pa_nil))))), ?_⟩
    refine ⟨_, rfl, _, rfl, G.s, SC, G.dx, _, _, rfl, b.ins, T.cl, T.nW, fl_wishes, _, (nvs I.W).length, rfl, .inr ⟨_, SqT.of b.wi, rfl⟩, _, _, rfl, rfl, ?_⟩
    have e0 : V.int ((x : Int) - (((nvs I.W).length : Nat) : Int)) = nv (x - I.m) := by
      rw [nvs_len]
      show V.int _ = V.int _
      have : I.W.length = I.m := rfl
      rw [this]
      congr 1
      omega
    show _
    refine ⟨_, rfl, _, rfl, G.s, SC, G.dx, _, _, rfl, b.ins, T.cl, T.nR, fl_racks, _, (nvs I.rk).length, rfl, .inl ⟨_, SqL.of b.rk, rfl⟩, _, _, e0, rfl, ⟨by rw [nvs_len]; show (0 : Int) < (I.k : Int); omega, by rw [nvs_len]; show ((I.k : Nat) : Int) < _; omega⟩, ?_⟩
    have hrk : (nvs I.rk)[(x - I.m) % I.k]? = some (nv (MW.rOf I x)) := by
      refine nvs_at ?_
      unfold MW.rOf
      have : (x - I.m) % I.k < I.rk.length := Nat.mod_lt _ kp
      rw [List.getD_eq_getElem?_getD, List.getElem?_eq_getElem this]
      rfl
    refine ⟨_, rfl, G.s, SC, G.dx, _, _, rfl, b.ins, T.cl, T.nR, fl_racks, _, rfl, _, rfl, G.s, SC, G.dx, _, _, rfl, b.ins, T.cl, T.nR, fl_racks, _, (nvs I.rk).length, rfl, .inl ⟨_, SqL.of b.rk, rfl⟩, _, _, e0, rfl, (by rw [nvs_len]; show (0 : Int) < (I.k : Int); omega), G.r, nvs I.rk, _, nv (MW.rOf I x), rfl, rfl, SqL.of b.rk, ?_, (by show 2 ≤ sizeLine; decide), fun p hp => ?_⟩
    · rw [nvs_len]
      exact atI_nat hrk
    · have h2 := k p hp
      rw [nvs_len]
      exact h2
end
end MV
end
/-! KLoads -/
section
set_option Elab.async false
set_option linter.all false
set_option maxRecDepth 100000
set_option maxHeartbeats 4000000
/-! loads -/
namespace MV
open PySem PyProof.Rows L2 KX
open PySem.Spec hiding Row
open MW (Inst Row Chosen)
structure MFn (K : PySem.W.Frag) (C : Addr) (x : Str) (f : Addr) (fd : FuncData) (ps : List Str) : Prop where
  m : Meth K C x f
  bi : Binds K fd ps []
theorem ixN_nat {n j : Nat} (h : j < n) : ixN n (j : Int) = some j := by
  unfold ixN
  have h1 : ¬ ((j : Int) < 0) := by omega
  have h2 : (j : Int) < (n : Int) := by omega
  simp [h]
section
variable {d : Addr} {o : Obj} {kvs : List (Key × V)} {g : TG} {tb : TS} {D : Ends} {σ : L2.St} {H : Hp}
/-- a loop over a dict's keys -/
theorem for_keys (Pv : Nat → L2.St → Hp → Prop) (h0 : Pv 0 σ H) (hl : ∀ i σ H, i ≤ kvs.length → Pv i σ H → H d = some (.frz o (.dK kvs)))
    (hs : ∀ i k v σ H, kvs[i]? = some (k, v) → Pv i σ H → g (kV k) σ H fun σ2 H2 => tb { D with nx := Pv (i + 1), ct := Pv (i + 1), bk := D.nx } σ2 H2)
    (hd : ∀ σ H, Pv kvs.length σ H → D.nx σ H) : ∃ W : Nat → Nat → L2.St → Hp → Prop, (∃ m, W 0 m σ H) ∧ ∀ i m σ H, W i m σ H → ((Itk d o kvs).stop i H ∧ D.nx σ H) ∨ ((Itk d o kvs).go i H ∧ ∃ N : L2.St → Hp → Prop,
      (∀ σ' H', N σ' H' → ∃ m', m' < m ∧ W (i + 1) m' σ' H') ∧ ∀ x H', (Itk d o kvs).yld i H x H' → g x σ H' fun σ2 H2 => tb { D with nx := N, ct := N, bk := D.nx } σ2 H2) := by
  refine ⟨fun i m σ H => m + i = kvs.length ∧ Pv i σ H, ⟨kvs.length, rfl, h0⟩, ?_⟩
  rintro i m σ H ⟨hm, p⟩
  have q := hl i σ H (by omega) p
  by_cases c : i < kvs.length
  · refine .inr ⟨⟨q, c⟩, Pv (i + 1), fun σ' H' p' => ⟨m - 1, by omega, by omega, p'⟩, ?_⟩
    rintro x H' ⟨rfl, k, v, hk, rfl⟩
    exact hs i k v σ _ hk p
  · have e : i = kvs.length := by omega
    subst e
    exact .inl ⟨⟨q, Nat.le_refl _⟩, hd σ H p⟩
/-- a list made over a dict's keys -/
theorem lc_keys {te : TE} {vs : List Nat} {tt : TT} {H1 : Hp} {L : Addr} {Qd : Hp → Prop} (Pv : Nat → Hp → Prop) (h0 : Pv 0 (upd H1 L (.lst []))) (hl : ∀ i H, i ≤ kvs.length → Pv i H → H d = some (.frz o (.dK kvs)))
    (hs : ∀ i k v H, kvs[i]? = some (k, v) → Pv i H → g (kV k) (wipe σ vs) H fun σ2 H2 => wipe σ2 vs = wipe σ vs ∧ tt σ2 H2 fun b H3 =>
      if b = true then te σ2 H3 fun y H4 => ∃ acc, H4 L = some (.lst acc) ∧ acc.length < sizeLine ∧ Pv (i + 1) (upd H4 L (.lst (acc ++ [y]))) else Pv (i + 1) H3) (hd : ∀ H, Pv kvs.length H → Qd H) :
    ∃ W : Nat → Nat → Hp → Prop, (∃ m, W 0 m (upd H1 L (.lst []))) ∧ ∀ i m H, W i m H →
      ((Itk d o kvs).stop i H ∧ Qd H) ∨ ((Itk d o kvs).go i H ∧ ∃ Nx : Hp → Prop, (∀ H', Nx H' → ∃ m', m' < m ∧ W (i + 1) m' H') ∧ ∀ x H', (Itk d o kvs).yld i H x H' → g x (wipe σ vs) H' fun σ2 H2 => wipe σ2 vs = wipe σ vs ∧ tt σ2 H2 fun b H3 =>
        if b = true then te σ2 H3 fun y H4 => ∃ acc, H4 L = some (.lst acc) ∧ acc.length < sizeLine ∧ Nx (upd H4 L (.lst (acc ++ [y]))) else Nx H3) := by
  refine ⟨fun i m H => m + i = kvs.length ∧ Pv i H, ⟨kvs.length, rfl, h0⟩, ?_⟩
  rintro i m H ⟨hm, p⟩
  have q := hl i H (by omega) p
  by_cases c : i < kvs.length
  · refine .inr ⟨⟨q, c⟩, Pv (i + 1), fun H' p' => ⟨m - 1, by omega, by omega, p'⟩, ?_⟩
    rintro x H' ⟨rfl, k, v, hk, rfl⟩
    exact hs i k v _ hk p
  · have e : i = kvs.length := by omega
    subst e
    exact .inl ⟨⟨q, Nat.le_refl _⟩, hd H p⟩
end
/-! the counts -/
def cntL (n : Nat) (E : Row) : List Nat := (List.range n).map fun s => E.countP fun e => decide (e.2 = s)
theorem cntL_len (n : Nat) (E : Row) : (cntL n E).length = n := by simp [cntL]
theorem cntL_at {n t : Nat} (E : Row) (h : t < n) : (cntL n E)[t]? = some (E.countP fun e => decide (e.2 = t)) := by
  unfold cntL
  rw [List.getElem?_map, List.getElem?_range h]
  rfl
theorem cntL_set {n r t : Nat} (E : Row) (h : t < n) : (cntL n E).set t (E.countP (fun e => decide (e.2 = t)) + 1) = cntL n (E ++ [(r, t)]) := by
  apply List.ext_getElem?
  intro i
  rw [List.getElem?_set]
  by_cases c : t = i
  · subst c
    rw [if_pos rfl, cntL_len, if_pos h, cntL_at _ h, List.countP_append]
    simp
  · rw [if_neg c]
    by_cases hi : i < n
    · rw [cntL_at _ hi, cntL_at _ hi, List.countP_append]
      have : decide (t = i) = false := decide_eq_false c
      simp [this]
    · rw [List.getElem?_eq_none (by rw [cntL_len]; omega), List.getElem?_eq_none (by rw [cntL_len]; omega)]
theorem cntL_all (I : Inst) (ch : Chosen) : cntL I.n ch.flatten = (List.range I.n).map (MW.loadOf ch) := rfl
theorem nvs_set (l : List Nat) (t v : Nat) : (nvs l).set t (nv v) = nvs (l.set t v) := by
  unfold nvs
  rw [List.map_set]
theorem flat_take {ch : Chosen} {i : Nat} {row : Row} (h : ch[i]? = some row) : (ch.take (i + 1)).flatten = (ch.take i).flatten ++ row := by
  rw [take_more h, List.flatten_append]
  simp
theorem getD_of {α : Type} {l : List α} {i : Nat} {x y : α} (h : l[i]? = some x) : l.getD i y = x := by
  rw [List.getD_eq_getElem?_getD, h]
  rfl
theorem rowV_at {l : Row} {j : Nat} {k : Key} {v : V} (h : (rowV l)[j]? = some (k, v)) : ∃ r t, l[j]? = some (r, t) ∧ k = Sum.inl (r : Int) ∧ v = nv t := by
  unfold rowV at h
  rw [List.getElem?_map] at h
  cases e : l[j]? with
  | none =>
    rw [e] at h
    cases h
  | some x =>
    rw [e] at h
    obtain ⟨r, t⟩ := x
    have h := Option.some.inj h
    injection h with h1 h2
    exact ⟨r, t, rfl, h1.symm, h2.symm⟩
theorem rowV_len (l : Row) : (rowV l).length = l.length := List.length_map ..
/-- the lock off again -/
theorem unlocked {H0 H' : Hp} {d : Addr} {o : Obj} {u : HO} (hd : H0 d = some u) (s : Same (upd H0 d (.frz o u)) H') : Same H0 (upd H' d u) := fun b x e => by
  by_cases c : b = d
  · subst c
    rw [hd] at e
    rw [upd_same, ← Option.some.inj e]
  · rw [upd_ne c]
    exact s b x (by rw [upd_ne c]; exact e)
theorem DcAt.at {G : Geo} {ch : Chosen} {H : Hp} (f : DcAt G ch H) {i : Nat} {d : Addr} (h : G.ds[i]? = some d) : ∃ row, ch[i]? = some row ∧ H d = some (.dK (rowV row)) := by
  have hi : i < ch.length := by rw [f.1]; exact (List.getElem?_eq_some_iff.mp h).1
  refine ⟨ch[i], List.getElem?_eq_getElem hi, ?_⟩
  have := f.2 i d h
  rw [getD_of (List.getElem?_eq_getElem hi)] at this
  exact this
theorem ds_at {G : Geo} {i : Nat} {x : V} (h : (G.ds.map V.ref)[i]? = some x) : ∃ d, G.ds[i]? = some d ∧ x = .ref d := by
  rw [List.getElem?_map] at h
  cases e : G.ds[i]? with
  | none =>
    rw [e] at h
    cases h
  | some d =>
    rw [e] at h
    exact ⟨d, rfl, (Option.some.inj h).symm⟩
section
variable {P : Program} {w : World} {K : PySem.W.Frag} {mg : Str → Option Value} {base : Heap} {CC SC : Addr}
abbrev nLo : List Str := ["self", "found", "fresh", "piece", "racks", "rack", "store", "_"]
theorem scLo : FnScope nLo ["self"] (defScope (sFl 3)) := ⟨rfl, rfl, rfl, by decide +kernel, rfl, by decide +kernel, by decide +kernel⟩
def spLo (CC SC : Addr) : Sp := fun vs H Q _ => ∃ (G : Geo) (I : Inst) (ch : Chosen), vs = [.ref G.s] ∧ FlowB CC SC G I H ∧ DcAt G ch H ∧ MW.ChOk I ch ∧
  ∀ H' p f g, Same H H' → H' p = some (.tup [.ref f, .ref g]) → H' f = some (.lst (nvs ((List.range I.n).map (MW.loadOf ch)))) → H' g = some (.lst (nvs ((List.range I.n).map (MW.loadOf ch)))) → H p = none → H f = none → H g = none → Q (.ref p) H'
theorem ok_lo {f fE : Addr} {fd fdE : FuncData} (F : Fun K "loads" "StockFlow.loads" (sFl 3) f fd) (B : Blt mg) (T : FlT K SC) (TC : ClT K mg CC) (e : MFn K SC "entry" fE fdE ["self", "piece", "store"])
    (GE : FnOk P w K mg base CX0 1 fE fdE ["self", "piece", "store"] (spEntry CC SC)) : FnOk P w K mg base CX0 2 f fd ["self"] (spLo CC SC) := by
  refine F.ok scLo (fun vs H Q E h => ?_) (fun cdv A outer s H vs Q E hr h => ?_)
  · obtain ⟨G, I, ch, rfl, _⟩ := h
    rfl
  · obtain ⟨G, I, ch, rfl, b, dc, co, k⟩ := h
    have hu := hu_of hr
    refine ⟨_, pss_cons (ps_setLc (i := 1) (own := [("_", 7)]) (g := gName 7) (tt := tYes) rfl scLo.nd rfl rfl (sw_true rfl rfl rfl (by decide +kernel)) (pi_range1 rfl B.range (pa_cons (pe_fld (pe_fld (pv 0) rfl) rfl) pa_nil)) (blkOk_by (N := nLo) (sc := defScope (sFl 3)) (by decide +kernel)) (fun _ _ _ _ _ => pg_name (i := 7) scLo.nd rfl (Or.inl rfl)) (fun _ _ _ _ _ => pts_nil) (fun _ _ _ _ _ => pe_int))
      (pss_cons (ps_setLc (i := 2) (own := [("_", 7)]) (g := gName 7) (tt := tYes) rfl scLo.nd rfl rfl (sw_true rfl rfl rfl (by decide +kernel)) (pi_range1 rfl B.range (pa_cons (pe_fld (pe_fld (pv 0) rfl) rfl) pa_nil)) (blkOk_by (N := nLo) (sc := defScope (sFl 3)) (by decide +kernel)) (fun _ _ _ _ _ => pg_name (i := 7) scLo.nd rfl (Or.inl rfl)) (fun _ _ _ _ _ => pts_nil) (fun _ _ _ _ _ => pe_int))
      (pss_cons (ps_for PassesOwn.never rfl (pi_enum (by rfl) B.enumerate (pa_cons (pe_fld (pv 0) rfl) pa_nil)) (pg_tup rfl (pgs_cons (pg_name (i := 3) scLo.nd rfl (Or.inl rfl)) (pgs_cons (pg_name (i := 4) scLo.nd rfl (Or.inl rfl)) pgs_nil)))
        (pss_one (ps_lock (ps_for PassesOwn.never rfl (pi_keys (pv 4)) (pg_name (i := 5) scLo.nd rfl (Or.inl rfl))
          (pss_cons (ps_set (i := 6) scLo.nd rfl (Or.inl rfl) (pe_dget hu (pv 4) (pv 5) (fun _ _ => rfl)))
          (pss_cons (ps_augS (pv 1) (pv 6) get_list pe_int ip_add set_list)
          (pss_one (ps_augS (pv 2) (pv 6) get_list (pe_ix ix_tup (pe_meth (pv 0) T.cl e.m GE hr e.bi .nil pass0 (pa_cons (pv 3) (pa_cons (pv 6) pa_nil))) pe_int (fun _ _ => rfl)) ip_add set_list))))))))
      (pss_one (ps_ret (pe_tup (pa_cons (pv 1) (pa_cons (pv 2) pa_nil))))))), ?_⟩
    have n8 := b.n8
    refine ⟨_, rfl, G.s, SC, G.dx, _, _, rfl, b.ins, T.cl, T.nC, fl_cluster, G.c, CC, G.dc, _, _, rfl, b.at_.ins, TC.cl, TC.nS, clF_count _ _ _ _, ?_⟩
    refine ⟨_, rfl, ?_, ?_, fun f hf => lc_range (lo := 0) (n := I.n) (fun i H' => Same H H' ∧ H' f = some (.lst (nvs (List.replicate i 0)))) ⟨sNew hf, upd_same⟩ ?_ ?_⟩
    · show -(2 ^ 62) ≤ (I.n : Int)
      omega
    · show (I.n : Int) < 2 ^ 62
      omega
    · rintro i H' hi ⟨z, hF⟩
      refine ⟨rfl, _, hF, ?_, sUpd z hf, ?_⟩
      · rw [nvs_len, List.length_replicate]
        exact small (by omega)
      · rw [upd_same, List.replicate_succ']
        unfold nvs
        rw [List.map_append]
        rfl
    rintro H1 ⟨z1, hF1⟩
    have b1 := b.same z1
    refine ⟨_, rfl, G.s, SC, G.dx, _, _, rfl, b1.ins, T.cl, T.nC, fl_cluster, G.c, CC, G.dc, _, _, rfl, b1.at_.ins, TC.cl, TC.nS, clF_count _ _ _ _, ?_⟩
    refine ⟨_, rfl, ?_, ?_, fun g hg => lc_range (lo := 0) (n := I.n) (fun i H' => Same H1 H' ∧ H' g = some (.lst (nvs (List.replicate i 0)))) ⟨sNew hg, upd_same⟩ ?_ ?_⟩
    · show -(2 ^ 62) ≤ (I.n : Int)
      omega
    · show (I.n : Int) < 2 ^ 62
      omega
    · rintro i H' hi ⟨z, hF⟩
      refine ⟨rfl, _, hF, ?_, sUpd z hg, ?_⟩
      · rw [nvs_len, List.length_replicate]
        exact small (by omega)
      · rw [upd_same, List.replicate_succ']
        unfold nvs
        rw [List.map_append]
        rfl
    rintro H2 ⟨z2, hG2⟩
    have z02 : Same H H2 := z1.trans z2
    have b2 := b.same z02
    have hF2 := z2 _ _ hF1
    have hg0 : H g = none := by
      cases c : H g with
      | none => rfl
      | some o => exact absurd (z1 _ _ c) (by rw [hg]; intro z; cases z)
    have gf : g ≠ f := fun z => by rw [z, hF1] at hg; cases hg
    have zero : nvs (List.replicate I.n 0) = nvs (cntL I.n []) := by
      congr 1
      unfold cntL
      apply List.ext_getElem (by simp)
      intro i h1 h2
      simp
    rw [zero] at hF2 hG2
    refine ⟨_, rfl, G.s, SC, G.dx, _, _, rfl, b2.ins, T.cl, T.nCh, fl_chosen, G.cl, G.ds.map .ref, rfl, SqL.of b2.cs, for_enum (xs := G.ds.map V.ref) (fun i σ H' => ∃ v3 v4 v5 v6, σ = [some (.ref G.s), some (.ref f), some (.ref g), v3, v4, v5, v6, none] ∧ Same H H' ∧ H' f = some (.lst (nvs (cntL I.n (ch.take i).flatten))) ∧ H' g = some (.lst (nvs (cntL I.n (ch.take i).flatten))))
      ⟨_, _, _, _, rfl, z02, hF2, hG2⟩ (fun i σ H' _ ⟨_, _, _, _, _, z, _⟩ => SqL.of (b.same z).cs) ?_ ?_⟩
    · rintro i x U σ H' hx hn ⟨v3, v4, v5, v6, rfl, z, hF, hG⟩
      obtain ⟨d, hd, rfl⟩ := ds_at hx
      obtain ⟨row, hrow, hd0⟩ := dc.at hd
      have hi : i < I.m := by rw [← b.dl]; exact (List.getElem?_eq_some_iff.mp hd).1
      have hdH : H' d = some (.dK (rowV row)) := z _ _ hd0
      have hdU : d ≠ U := ne_of_none hdH hn
      have fd_ : f ≠ d := fun y => by rw [y, hd0] at hf; cases hf
      have gd_ : g ≠ d := fun y => by rw [y, hd0] at hg0; cases hg0
      have fU : f ≠ U := ne_of_none hF hn
      have gU : g ≠ U := ne_of_none hG hn
      have er : ∀ r, MW.look ch i r = row.lookup r := fun r => by
        unfold MW.look
        rw [getD_of hrow]
      have nd : (row.map (·.1)).Nodup := by
        have := co.nd i
        rwa [getD_of hrow] at this
      refine ⟨U, _, rfl, SqT.of upd_same, rfl, _, _, rfl, _, _, rfl, rfl, ?_⟩
      refine ⟨d, .dK (rowV row), (by rw [upd_ne hdU]; exact hdH), trivial, fun od => ⟨_, rfl, d, od, rfl, .inl ⟨rowV row, upd_same, for_keys (fun j σ H'' => ∃ v5 v6, σ = [some (.ref G.s), some (.ref f), some (.ref g), some (nv i), some (.ref d), v5, v6, none] ∧ Same (upd H d (.frz od (.dK (rowV row)))) H'' ∧ H'' f = some (.lst (nvs (cntL I.n ((ch.take i).flatten ++ row.take j)))) ∧ H'' g = some (.lst (nvs (cntL I.n ((ch.take i).flatten ++ row.take j)))))
        ⟨v5, v6, rfl, ?_, ?_, ?_⟩ (fun j σ H'' _ ⟨_, _, _, y, _⟩ => y _ _ upd_same) ?_ ?_⟩⟩⟩
      · intro x o ex
        by_cases cx : x = d
        · subst cx
          rw [upd_same] at ex ⊢
          exact ex
        · rw [upd_ne cx] at ex ⊢
          have := z _ _ ex
          rw [upd_ne (ne_of_none this hn)]
          exact this
      · rw [upd_ne fd_, upd_ne fU]
        simpa using hF
      · rw [upd_ne gd_, upd_ne gU]
        simpa using hG
      · rintro j kk v σ H'' hj ⟨v5', v6', rfl, y, hF', hG'⟩
        obtain ⟨r, t, hrt, rfl, rfl⟩ := rowV_at hj
        have hmem : (r, t) ∈ row := List.mem_of_getElem? hrt
        have hl : row.lookup r = some t := MW.lookup_of_mem nd hmem
        have ht : t < I.n := (co.sound i r t (by rw [er]; exact hl)).1
        have hv : valV (rowV row) (Sum.inl (r : Int)) = some (nv t) := by rw [rowV_val, hl]; rfl
        have key : Keep (upd H d (.frz od (.dK (rowV row)))) H'' := .of y
        have bB : FlowB CC SC G I H'' := b.keep ((Keep.dict hd0 _).trans key)
        refine ⟨_, rfl, _, rfl, d, nv t, rfl, .inl ⟨rowV row, Sum.inl (r : Int), .inr ⟨od, y _ _ upd_same⟩, rfl, hv.symm⟩, ?_⟩
        refine ⟨_, rfl, _, rfl, f, _, t, _, rfl, rfl, SqL.of hF', nvs_at (cntL_at _ ht), _, _, rfl, rfl, f, _, _, t, rfl, rfl, hF', ixN_nat (by rw [nvs_len, cntL_len]; exact ht), ?_⟩
        have eF : (nvs (cntL I.n ((ch.take i).flatten ++ row.take j))).set t (V.int (((((ch.take i).flatten ++ row.take j).countP fun e => decide (e.2 = t) : Nat) : Int) + 1)) = nvs (cntL I.n ((ch.take i).flatten ++ row.take (j + 1))) := by
          rw [take_more hrt, ← List.append_assoc, ← cntL_set (r := r) _ ht, ← nvs_set]
          rfl
        rw [eF]
        have hG'' : (upd H'' f (.lst (nvs (cntL I.n ((ch.take i).flatten ++ row.take (j + 1)))))) g = some (.lst (nvs (cntL I.n ((ch.take i).flatten ++ row.take j)))) := by rw [upd_ne gf]; exact hG'
        have yF : Same (upd H d (.frz od (.dK (rowV row)))) (upd H'' f (.lst (nvs (cntL I.n ((ch.take i).flatten ++ row.take (j + 1)))))) := sUpd y (by rw [upd_ne fd_]; exact hf)
        have bF : FlowB CC SC G I (upd H'' f (.lst (nvs (cntL I.n ((ch.take i).flatten ++ row.take (j + 1)))))) := b.keep ((Keep.dict hd0 _).trans (.of yF))
        refine ⟨_, rfl, _, rfl, g, _, t, _, rfl, rfl, SqL.of hG'', nvs_at (cntL_at _ ht), ?_⟩
        refine ⟨_, rfl, G.s, G.dx, _, rfl, bF.ins, fl_none (by decide +kernel), _, rfl, _, rfl, G, I, i, t, rfl, bF, hi, fun p hp => ⟨p, _, 1, nv 1, rfl, rfl, SqT.of upd_same, rfl, _, _, rfl, rfl, ?_⟩⟩
        have gp : g ≠ p := ne_of_none hG'' hp
        have fp : f ≠ p := ne_of_none (upd_same (H := H'') (a := f)) hp
        refine ⟨g, _, _, t, rfl, rfl, (by rw [upd_ne gp]; exact hG''), ixN_nat (by rw [nvs_len, cntL_len]; exact ht), ?_⟩
        have eG : (nvs (cntL I.n ((ch.take i).flatten ++ row.take j))).set t (V.int (((((ch.take i).flatten ++ row.take j).countP fun e => decide (e.2 = t) : Nat) : Int) + ((1 : Nat) : Int))) = nvs (cntL I.n ((ch.take i).flatten ++ row.take (j + 1))) := eF
        rw [eG]
        refine ⟨_, _, rfl, sUpd (yF.trans (sNew hp)) (by rw [upd_ne gd_]; exact hg0), ?_, upd_same⟩
        rw [upd_ne gf.symm, upd_ne fp, upd_same]
      · rintro σ H'' ⟨v5', v6', rfl, y, hF', hG'⟩
        rw [rowV_len, List.take_length] at hF' hG'
        refine ⟨y _ _ upd_same, _, _, _, _, rfl, unlocked hd0 y, ?_, ?_⟩
        · rw [upd_ne fd_, flat_take hrow]; exact hF'
        · rw [upd_ne gd_, flat_take hrow]; exact hG'
    · rintro σ H3 ⟨v3, v4, v5, v6, rfl, z, hF, hG⟩
      have e1 : ch.take (G.ds.map V.ref).length = ch := by
        rw [List.length_map, ← dc.1, List.take_length]
      rw [e1, cntL_all] at hF hG
      refine ⟨_, rfl, _, rfl, (by show 2 ≤ sizeLine; decide), fun p hp => k _ p f g (sAdd z hp) upd_same ?_ ?_ ?_ hf hg0⟩
      · rw [upd_ne (ne_of_none hF hp)]; exact hF
      · rw [upd_ne (ne_of_none hG hp)]; exact hG
      · cases c : H p with
        | none => rfl
        | some o => exact absurd (z _ _ c) (by rw [hp]; intro z; cases z)
end
end MV
end
/-! KArcs -/
section
set_option Elab.async false
set_option linter.all false
set_option maxRecDepth 100000
set_option maxHeartbeats 4000000
/-! the arcs -/
namespace MV
open PySem PyProof.Rows L2 KX
open PySem.Spec hiding Row
open MW (Inst Row Chosen Arc)
/-! ### ways that come together again -/
def tJoin (t : TS) : TS := fun D σ H => ∃ J : L2.St → Hp → Prop, t { D with nx := J } σ H ∧ ∀ σ' H', J σ' H' → D.nx σ' H'
theorem ps_join {X : Cx} {st : Stmt} {t : TS} (h : PS X st t) : PS X st (tJoin t) := by
  refine ⟨fun pins s σ H D I hw => ?_⟩
  obtain ⟨J, h1, h2⟩ := hw
  refine thn (h.run pins s σ _ _ I h1) fun f s1 q => ?_
  cases f with
  | next => obtain ⟨σ', H', I2, q⟩ := q; exact ⟨σ', H', I2, h2 _ _ q⟩
  | brk => exact q
  | cont => exact q
  | ret v => exact q
def tJoinE (t : TE) : TE := fun σ H Q => ∃ J : V → Hp → Prop, t σ H J ∧ ∀ v H', J v H' → Q v H'
theorem pe_join {X : Cx} {e : Expr} {t : TE} (h : PE X e t) : PE X e (tJoinE t) := by
  refine ⟨fun pins s σ H Q I hw => ?_⟩
  obtain ⟨J, h1, h2⟩ := hw
  refine thn (h.run pins s σ _ _ I h1) fun v s1 ⟨x, H1, I2, r, q⟩ => ?_
  exact ⟨x, H1, I2, r, h2 _ _ q⟩
/-! ### arcs in the heap -/
inductive ArcsAt (H : Hp) : List V → List Arc → Prop
  | nil : ArcsAt H [] []
  | cons {t : Addr} {xs : List V} {u v : Nat} {c : Int} {A : List Arc} (h : H t = some (.tup [nv u, nv v, .int c])) (r : ArcsAt H xs A) : ArcsAt H (.ref t :: xs) ((u, v, c) :: A)
theorem ArcsAt.same {H H' : Hp} {xs : List V} {A : List Arc} (h : ArcsAt H xs A) (s : Same H H') : ArcsAt H' xs A := by
  induction h with
  | nil => exact .nil
  | cons h r ih => exact .cons (s _ _ h) ih
theorem ArcsAt.app {H : Hp} {xs ys : List V} {A B : List Arc} (h : ArcsAt H xs A) (k : ArcsAt H ys B) : ArcsAt H (xs ++ ys) (A ++ B) := by
  induction h with
  | nil => exact k
  | cons h r ih => exact .cons h ih
theorem ArcsAt.len {H : Hp} {xs : List V} {A : List Arc} (h : ArcsAt H xs A) : xs.length = A.length := by
  induction h with
  | nil => rfl
  | cons h r ih => simp [ih]
theorem ArcsAt.at {H : Hp} {xs : List V} {A : List Arc} (h : ArcsAt H xs A) : ∀ {i : Nat} {x : V}, xs[i]? = some x → ∃ t u v c, x = .ref t ∧ A[i]? = some (u, v, c) ∧ H t = some (.tup [nv u, nv v, .int c]) := by
  induction h with
  | nil => intro i x e; cases e
  | cons h r ih =>
    intro i x e
    cases i with
    | zero => exact ⟨_, _, _, _, (Option.some.inj e).symm, rfl, h⟩
    | succ i => exact ih e
/-- the list of arcs under way -/
def Fnd (H : Hp) (f : Addr) (A : List Arc) (H' : Hp) : Prop := Same H H' ∧ ∃ xs, H' f = some (.lst xs) ∧ ArcsAt H' xs A
theorem Fnd.snoc {H H' : Hp} {f t : Addr} {A : List Arc} {u v : Nat} {c : Int} {xs : List V} (s : Same H H') (hf : H f = none) (hx : H' f = some (.lst xs)) (a : ArcsAt H' xs A) (ht : H' t = none) :
    Fnd H f (A ++ [(u, v, c)]) (upd (upd H' t (.tup [nv u, nv v, .int c])) f (.lst (xs ++ [.ref t]))) := by
  have ft : f ≠ t := ne_of_none hx ht
  refine ⟨sUpd (sAdd s ht) hf, xs ++ [.ref t], upd_same, ?_⟩
  have k : ∀ {ys : List V} {B : List Arc}, ArcsAt H' ys B → ArcsAt (upd (upd H' t (.tup [nv u, nv v, .int c])) f (.lst (xs ++ [.ref t]))) ys B := by
    intro ys B h
    induction h with
    | nil => exact .nil
    | cons h r ih =>
      refine .cons ?_ ih
      rw [upd_ne (ne_of h hx (by intro z; cases z)), upd_ne (ne_of_none h ht)]
      exact h
  refine (k a).app (.cons ?_ .nil)
  rw [upd_ne ft.symm, upd_same]
theorem Fnd.len {H H' : Hp} {f : Addr} {A : List Arc} (h : Fnd H f A H') (n : A.length ≤ 1000) : ∃ xs, H' f = some (.lst xs) ∧ ArcsAt H' xs A ∧ xs.length < sizeLine := by
  obtain ⟨_, xs, h1, h2⟩ := h
  exact ⟨xs, h1, h2, small (by rw [h2.len]; omega)⟩
def stArcs (I : Inst) (ch : Chosen) (n : Nat) : List Arc := ((List.range n).flatMap (MW.arcsStore I ch)).map (MW.encA I)
theorem stArcs_more (I : Inst) (ch : Chosen) (n : Nat) : stArcs I ch (n + 1) = stArcs I ch n ++ (MW.arcsStore I ch n).map (MW.encA I) := by
  unfold stArcs
  rw [List.range_succ, List.flatMap_append, List.map_append]
  simp
theorem arcsStore_len (I : Inst) (ch : Chosen) (s : Nat) : (MW.arcsStore I ch s).length ≤ 4 := by
  unfold MW.arcsStore
  simp only [List.length_append]
  have h : ∀ (c : Prop) [Decidable c] (x : MW.Nd × MW.Nd × Int), (if c then [x] else []).length ≤ 1 := fun c _ x => by split <;> simp
  have h1 := h (MW.loadOf ch s < I.m + 1) (.gt s, .st s, 0)
  have h2 := h (0 < MW.loadOf ch s) (.st s, .gt s, 0)
  have h3 := h (MW.loadOf ch s < I.room s) (.st s, .sk, 0)
  have h4 := h (0 < MW.loadOf ch s) (.sk, .st s, 0)
  omega
theorem stArcs_len (I : Inst) (ch : Chosen) : ∀ n, (stArcs I ch n).length ≤ 4 * n
  | 0 => by simp [stArcs]
  | n + 1 => by
    rw [stArcs_more, List.length_append, List.length_map]
    have := stArcs_len I ch n
    have := arcsStore_len I ch n
    omega
theorem ifLen {α : Type} {c : Prop} [Decidable c] {x : α} : (if c then [x] else []).length ≤ 1 := by split <;> simp
section
variable {P : Program} {w : World} {K : PySem.W.Frag} {mg : Str → Option Value} {base : Heap} {CC SC : Addr}
abbrev nAs : List Str := ["self", "found", "loads", "fresh", "number", "gate", "store"]
theorem scAs : FnScope nAs ["self"] (defScope (sFl 4)) := ⟨rfl, rfl, rfl, by decide +kernel, rfl, by decide +kernel, by decide +kernel⟩
def spArcs (CC SC : Addr) (A : Inst → Chosen → List Arc) : Sp := fun vs H Q _ => ∃ (G : Geo) (I : Inst) (ch : Chosen), vs = [.ref G.s] ∧ FlowB CC SC G I H ∧ DcAt G ch H ∧ MW.ChOk I ch ∧
  ∀ H' p xs, Same H H' → H' p = some (.lst xs) → ArcsAt H' xs (A I ch) → Q (.ref p) H'
theorem nat_add (a b : Nat) : V.int ((a : Int) + (b : Int)) = nv (a + b) := by
  show V.int _ = V.int _
  rw [Int.natCast_add]
theorem ok_as {f fL : Addr} {fd fdL : FuncData} (F : Fun K "arcs_of_stores" "StockFlow.arcs_of_stores" (sFl 4) f fd) (B : Blt mg) (T : FlT K SC) (TC : ClT K mg CC) (e : MFn K SC "loads" fL fdL ["self"])
    (GL : FnOk P w K mg base CX0 2 fL fdL ["self"] (spLo CC SC)) : FnOk P w K mg base CX0 3 f fd ["self"] (spArcs CC SC fun I ch => stArcs I ch I.n) := by
  refine F.ok scAs (fun vs H Q E h => ?_) (fun cdv A outer s H vs Q E hr h => ?_)
  · obtain ⟨G, I, ch, rfl, _⟩ := h
    rfl
  · obtain ⟨G, I, ch, rfl, b, dc, co, k⟩ := h
    refine ⟨_, pss_cons (ps_set (i := 1) scAs.nd rfl (Or.inl rfl) (pe_lst pa_nil))
      (pss_cons (ps_asg (pe_meth0 (pv 0) T.cl e.m GL hr e.bi .nil pass0) (pg_tup (by rfl) (pgs_cons (pg_name (i := 2) scAs.nd rfl (Or.inl rfl)) (pgs_cons (pg_name (i := 3) scAs.nd rfl (Or.inl rfl)) pgs_nil))))
      (pss_cons (ps_for PassesOwn.never rfl (pi_range1 rfl B.range (pa_cons (pe_fld (pe_fld (pv 0) rfl) rfl) pa_nil)) (pg_name (i := 4) scAs.nd rfl (Or.inl rfl))
        (pss_cons (ps_par (i := 5) (j := 6) (by rfl) scAs.nd rfl rfl (by decide) rfl rfl (pa_cons (pe_op op_add (pe_fld (pv 0) rfl) (pv 4)) (pa_cons (pe_op op_add (pe_fld (pv 0) rfl) (pv 4)) pa_nil)) (by rfl))
        (pss_cons (ps_join (ps_if (pt_cmpR op_lt (pe_ix ix_list (pv 3) (pv 4) (fun _ _ => rfl)) (pe_ix ix_list (pe_fld (pv 0) rfl) (pv 4) (fun _ _ => rfl)) (nomark _)) (pss_one (ps_expr (pe_bm PySem.F.plainAttrs_list PySem.F.slot_list_append PySem.F.type_list_append mt_append (pv 1) (pa_cons (pe_tup (pa_cons (pv 5) (pa_cons (pv 6) (pa_cons pe_int pa_nil)))) pa_nil)))) pss_nil))
        (pss_cons (ps_join (ps_if (pt_cmpR op_gt (pe_ix ix_list (pv 3) (pv 4) (fun _ _ => rfl)) pe_int (nomark _)) (pss_one (ps_expr (pe_bm PySem.F.plainAttrs_list PySem.F.slot_list_append PySem.F.type_list_append mt_append (pv 1) (pa_cons (pe_tup (pa_cons (pv 6) (pa_cons (pv 5) (pa_cons pe_int pa_nil)))) pa_nil)))) pss_nil))
        (pss_cons (ps_join (ps_if (pt_cmpR op_lt (pe_ix ix_list (pv 2) (pv 4) (fun _ _ => rfl)) (pe_ix ix_tup (pe_fld (pe_fld (pv 0) rfl) rfl) (pv 4) (fun _ _ => rfl)) (nomark _)) (pss_one (ps_expr (pe_bm PySem.F.plainAttrs_list PySem.F.slot_list_append PySem.F.type_list_append mt_append (pv 1) (pa_cons (pe_tup (pa_cons (pv 6) (pa_cons (pe_fld (pv 0) rfl) (pa_cons pe_int pa_nil)))) pa_nil)))) pss_nil))
        (pss_one (ps_join (ps_if (pt_cmpR op_gt (pe_ix ix_list (pv 2) (pv 4) (fun _ _ => rfl)) pe_int (nomark _)) (pss_one (ps_expr (pe_bm PySem.F.plainAttrs_list PySem.F.slot_list_append PySem.F.type_list_append mt_append (pv 1) (pa_cons (pe_tup (pa_cons (pe_fld (pv 0) rfl) (pa_cons (pv 6) (pa_cons pe_int pa_nil)))) pa_nil)))) pss_nil)))))))
      ) (pss_one (ps_ret (pv 1))))), ?_⟩
    have n8 := b.n8
    refine ⟨(by decide), fun f hf => ?_⟩
    have zf : Same H (upd H f (.lst [])) := sNew hf
    refine ⟨_, rfl, G.s, G.dx, _, rfl, (b.same zf).ins, fl_none (by decide +kernel), G, I, ch, rfl, b.same zf, dc.same zf, co, fun H2 p l g z2 hp hl hg _ nl ng => ⟨p, _, rfl, SqT.of hp, rfl, _, _, rfl, _, _, rfl, rfl, ?_⟩⟩
    have z02 : Same H H2 := zf.trans z2
    have b2 := b.same z02
    have lf : l ≠ f := fun z => by rw [z, upd_same] at nl; cases nl
    have gf : g ≠ f := fun z => by rw [z, upd_same] at ng; cases ng
    have sl : ∀ i, i < I.n → (nvs ((List.range I.n).map (MW.loadOf ch)))[i]? = some (nv (MW.loadOf ch i)) := fun i hi => nvs_at (cntL_at ch.flatten hi)
    have sg : ∀ i, i < I.n → (I.racks.map fun _ => nv (I.m + 1))[i]? = some (nv (I.m + 1)) := fun i hi => by
      rw [List.getElem?_map, List.getElem?_eq_getElem hi]
      rfl
    have sm : ∀ i, i < I.n → (nvs I.rooms)[i]? = some (nv (I.room i)) := fun i hi => by
      refine nvs_at ?_
      have hi' : i < I.rooms.length := by rw [b.ok.hr]; exact hi
      unfold Inst.room
      rw [List.getD_eq_getElem?_getD, List.getElem?_eq_getElem hi']
      rfl
    refine ⟨_, rfl, G.s, SC, G.dx, _, _, rfl, b2.ins, T.cl, T.nC, fl_cluster, G.c, CC, G.dc, _, _, rfl, b2.at_.ins, TC.cl, TC.nS, clF_count _ _ _ _, ?_⟩
    -- what stands within the loop
    let St : List Arc → Hp → Prop := fun A H' => Fnd H f A H' ∧ H' l = some (.lst (nvs ((List.range I.n).map (MW.loadOf ch)))) ∧ H' g = some (.lst (nvs ((List.range I.n).map (MW.loadOf ch))))
    have more : ∀ {A : List Arc} {H' : Hp} {xs : List V} {t : Addr} (u v : Nat) (c : Int), St A H' → H' f = some (.lst xs) → ArcsAt H' xs A → H' t = none → St (A ++ [(u, v, c)]) (upd (upd H' t (.tup [nv u, nv v, .int c])) f (.lst (xs ++ [.ref t]))) := by
      rintro A H' xs t u v c ⟨⟨s, _⟩, h1, h2⟩ hx a ht
      refine ⟨Fnd.snoc s hf hx a ht, ?_, ?_⟩
      · rw [upd_ne lf, upd_ne (ne_of_none h1 ht)]; exact h1
      · rw [upd_ne gf, upd_ne (ne_of_none h2 ht)]; exact h2
    refine ⟨_, rfl, ?_, ?_, for_range (lo := 0) (n := I.n) (fun i σ H' => ∃ v4 v5 v6, σ = [some (.ref G.s), some (.ref f), some (.ref l), some (.ref g), v4, v5, v6] ∧ St (stArcs I ch i) H') ⟨_, _, _, rfl, ⟨z02, [], z2 _ _ upd_same, .nil⟩, hl, hg⟩ ?_ ?_⟩
    · show -(2 ^ 62) ≤ (I.n : Int)
      omega
    · show (I.n : Int) < 2 ^ 62
      omega
    · rintro i σ H' hi ⟨v4, v5, v6, rfl, st⟩
      rw [Int.zero_add]
      have b3 := b.same st.1.1
      have nA : ∀ {B : List Arc}, B.length ≤ 4 → (stArcs I ch i ++ B).length ≤ 1000 := fun {B} hB => by
        rw [List.length_append]
        have := stArcs_len I ch i
        omega
      refine ⟨_, rfl, G.s, SC, G.dx, _, _, rfl, b3.ins, T.cl, T.nFg, fl_fg, _, rfl, _, _, rfl, rfl, _, rfl, G.s, SC, G.dx, _, _, rfl, b3.ins, T.cl, T.nFs, fl_fs, _, rfl, _, _, rfl, rfl, _, _, rfl, ?_⟩
      let σ1 : L2.St := [some (.ref G.s), some (.ref f), some (.ref l), some (.ref g), some (nv i), some (nv (I.fg + i)), some (nv (I.fs + i))]
      have eσ : ([some (.ref G.s), some (.ref f), some (.ref l), some (.ref g), some (nv i), some (V.int ((I.fg : Int) + (i : Int))), some (V.int ((I.fs : Int) + (i : Int)))] : L2.St) = σ1 := by rw [nat_add, nat_add]
      have ld := MW.loadOf ch i
      -- 1
      refine ⟨fun σ' H'' => σ' = σ1 ∧ St (stArcs I ch i ++ (if MW.loadOf ch i < I.m + 1 then [(I.fg + i, I.fs + i, 0)] else [])) H'', ?_, ?_⟩
      · refine ⟨_, rfl, _, rfl, g, _, _, _, rfl, rfl, SqL.of st.2.2, atI_nat (sl i hi), _, rfl, G.s, SC, G.dx, _, _, rfl, b3.ins, T.cl, T.nG, fl_gates, _, rfl, G.g, _, _, _, rfl, rfl, SqL.of b3.ga, atI_nat (sg i hi), _, _, rfl, rfl, _, rfl, ?_⟩
        rw [dec_lt]
        by_cases c : MW.loadOf ch i < I.m + 1
        · obtain ⟨xs, hx, ha, hlen⟩ := st.1.len (by have := nA (B := []) (by simp); simpa using this)
          refine iteD c ⟨_, rfl, .inl ⟨rfl, _, SqL.of hx⟩, _, rfl, _, rfl, (by show 3 ≤ sizeLine; decide), fun t ht => ⟨f, xs, .ref t, rfl, rfl, ?_, hlen, eσ, ?_⟩⟩
          · rw [upd_ne (ne_of_none hx ht)]; exact hx
          · rw [if_pos c]
            have := more (I.fg + i) (I.fs + i) 0 st hx ha ht
            rw [← nat_add, ← nat_add] at this
            exact this
        · refine iteDn c ⟨eσ, ?_⟩
          rw [if_neg c, List.append_nil]
          exact st
      rintro _ H4 ⟨rfl, st4⟩
      have b4 := b.same st4.1.1
      -- 2
      refine ⟨fun σ' H'' => σ' = σ1 ∧ St (stArcs I ch i ++ (if MW.loadOf ch i < I.m + 1 then [(I.fg + i, I.fs + i, 0)] else []) ++ (if 0 < MW.loadOf ch i then [(I.fs + i, I.fg + i, 0)] else [])) H'', ?_, ?_⟩
      · refine ⟨_, rfl, _, rfl, g, _, _, _, rfl, rfl, SqL.of st4.2.2, atI_nat (sl i hi), _, _, rfl, rfl, _, rfl, ?_⟩
        by_cases c : 0 < MW.loadOf ch i
        · obtain ⟨xs, hx, ha, hlen⟩ := st4.1.len (nA (Nat.le_trans ifLen (by decide)))
          refine iteD (by show (MW.loadOf ch i : Int) > 0; omega) ⟨_, rfl, .inl ⟨rfl, _, SqL.of hx⟩, _, rfl, _, rfl, (by show 3 ≤ sizeLine; decide), fun t ht => ⟨f, xs, .ref t, rfl, rfl, ?_, hlen, rfl, ?_⟩⟩
          · rw [upd_ne (ne_of_none hx ht)]; exact hx
          · rw [if_pos c]
            exact more (I.fs + i) (I.fg + i) 0 st4 hx ha ht
        · refine iteDn (by show ¬ (MW.loadOf ch i : Int) > 0; omega) ⟨rfl, ?_⟩
          rw [if_neg c, List.append_nil]
          exact st4
      rintro _ H5 ⟨rfl, st5⟩
      have b5 := b.same st5.1.1
      -- 3
      refine ⟨fun σ' H'' => σ' = σ1 ∧ St (stArcs I ch i ++ (if MW.loadOf ch i < I.m + 1 then [(I.fg + i, I.fs + i, 0)] else []) ++ (if 0 < MW.loadOf ch i then [(I.fs + i, I.fg + i, 0)] else []) ++ (if MW.loadOf ch i < I.room i then [(I.fs + i, I.sink, 0)] else [])) H'', ?_, ?_⟩
      · refine ⟨_, rfl, _, rfl, l, _, _, _, rfl, rfl, SqL.of st5.2.1, atI_nat (sl i hi), _, rfl, G.s, SC, G.dx, _, _, rfl, b5.ins, T.cl, T.nC, fl_cluster, G.c, CC, G.dc, _, _, rfl, b5.at_.ins, TC.cl, TC.nM, clF_rooms _ _ _ _, _, rfl, G.tm, _, _, _, rfl, rfl, SqT.of b5.at_.rooms, atI_nat (sm i hi), _, _, rfl, rfl, _, rfl, ?_⟩
        rw [dec_lt]
        by_cases c : MW.loadOf ch i < I.room i
        · obtain ⟨xs, hx, ha, hlen⟩ := st5.1.len (by rw [List.append_assoc]; exact nA (by rw [List.length_append]; exact Nat.le_trans (Nat.add_le_add ifLen ifLen) (by decide)))
          refine iteD c ⟨_, rfl, .inl ⟨rfl, _, SqL.of hx⟩, _, rfl, _, rfl, G.s, SC, G.dx, _, _, rfl, b5.ins, T.cl, T.nSk, fl_sink, (by show 3 ≤ sizeLine; decide), fun t ht => ⟨f, xs, .ref t, rfl, rfl, ?_, hlen, rfl, ?_⟩⟩
          · rw [upd_ne (ne_of_none hx ht)]; exact hx
          · rw [if_pos c]
            exact more (I.fs + i) I.sink 0 st5 hx ha ht
        · refine iteDn c ⟨rfl, ?_⟩
          rw [if_neg c, List.append_nil]
          exact st5
      rintro _ H6 ⟨rfl, st6⟩
      have b6 := b.same st6.1.1
      -- 4
      refine ⟨fun σ' H'' => σ' = σ1 ∧ St (stArcs I ch i ++ (if MW.loadOf ch i < I.m + 1 then [(I.fg + i, I.fs + i, 0)] else []) ++ (if 0 < MW.loadOf ch i then [(I.fs + i, I.fg + i, 0)] else []) ++ (if MW.loadOf ch i < I.room i then [(I.fs + i, I.sink, 0)] else []) ++ (if 0 < MW.loadOf ch i then [(I.sink, I.fs + i, 0)] else [])) H'', ?_, ?_⟩
      · refine ⟨_, rfl, _, rfl, l, _, _, _, rfl, rfl, SqL.of st6.2.1, atI_nat (sl i hi), _, _, rfl, rfl, _, rfl, ?_⟩
        by_cases c : 0 < MW.loadOf ch i
        · obtain ⟨xs, hx, ha, hlen⟩ := st6.1.len (by rw [List.append_assoc, List.append_assoc]; exact nA (by rw [List.length_append, List.length_append]; exact Nat.le_trans (Nat.add_le_add ifLen (Nat.add_le_add ifLen ifLen)) (by decide)))
          refine iteD (by show (MW.loadOf ch i : Int) > 0; omega) ⟨_, rfl, .inl ⟨rfl, _, SqL.of hx⟩, _, rfl, G.s, SC, G.dx, _, _, rfl, b6.ins, T.cl, T.nSk, fl_sink, _, rfl, (by show 3 ≤ sizeLine; decide), fun t ht => ⟨f, xs, .ref t, rfl, rfl, ?_, hlen, rfl, ?_⟩⟩
          · rw [upd_ne (ne_of_none hx ht)]; exact hx
          · have m := more I.sink (I.fs + i) 0 st6 hx ha ht
            rw [if_pos c] at m
            rw [if_pos c, if_pos c]
            exact m
        · refine iteDn (by show ¬ (MW.loadOf ch i : Int) > 0; omega) ⟨rfl, ?_⟩
          rw [if_neg c, List.append_nil] at st6
          rw [if_neg c, List.append_nil, if_neg c, List.append_nil]
          exact st6
      rintro _ H7 ⟨rfl, st7⟩
      refine ⟨_, _, _, rfl, ?_⟩
      have e : stArcs I ch (i + 1) = stArcs I ch i ++ (if MW.loadOf ch i < I.m + 1 then [(I.fg + i, I.fs + i, 0)] else []) ++ (if 0 < MW.loadOf ch i then [(I.fs + i, I.fg + i, 0)] else []) ++ (if MW.loadOf ch i < I.room i then [(I.fs + i, I.sink, 0)] else []) ++ (if 0 < MW.loadOf ch i then [(I.sink, I.fs + i, 0)] else []) := by
        rw [stArcs_more]
        unfold MW.arcsStore
        simp only [List.append_assoc, List.map_append]
        have hm : ∀ (c : Prop) [Decidable c] (x : MW.Nd × MW.Nd × Int), (if c then [x] else []).map (MW.encA I) = if c then [MW.encA I x] else [] := fun c _ x => by split <;> rfl
        rw [hm, hm, hm, hm]
        rfl
      rw [e]
      exact st7
    · rintro σ H3 ⟨v4, v5, v6, rfl, ⟨z3, xs, hx, ha⟩, _, _⟩
      exact ⟨_, rfl, k H3 f xs z3 hx ha⟩
end
end MV
end
/-! KArcs2 -/
section
set_option Elab.async false
set_option linter.all false
set_option maxRecDepth 100000
set_option maxHeartbeats 4000000
/-! all arcs -/
namespace MV
open PySem PyProof.Rows L2 KX
open PySem.Spec hiding Row
open MW (Inst Row Chosen Arc)
def a1 (I : Inst) (ch : Chosen) (q r : Nat) : Arc := MW.encA I (if (MW.look ch q r).isSome = true then (.pr q r, .pc q, 0) else (.pc q, .pr q r, 0))
def a2 (I : Inst) (ch : Chosen) (q s : Nat) : Arc := MW.encA I (if MW.look ch q (I.rack s) = some s then (.gt s, .pr q (I.rack s), -1) else (.pr q (I.rack s), .gt s, 1))
def pcArcs (I : Inst) (ch : Chosen) (n : Nat) : List Arc := ((List.range n).flatMap (MW.arcsPiece I ch)).map (MW.encA I)
theorem pcArcs_more (I : Inst) (ch : Chosen) (n : Nat) : pcArcs I ch (n + 1) = pcArcs I ch n ++ (I.rk.map (a1 I ch n) ++ (List.range I.n).map (a2 I ch n)) := by
  unfold pcArcs
  rw [List.range_succ, List.flatMap_append, List.map_append]
  congr 1
  simp only [List.flatMap_cons, List.flatMap_nil, List.append_nil]
  unfold MW.arcsPiece
  rw [List.map_append, List.map_map, List.map_map]
  rfl
theorem pcArcs_len {CC SC : Addr} {G : Geo} {I : Inst} {H : Hp} (b : FlowB CC SC G I H) (ch : Chosen) : ∀ n, (pcArcs I ch n).length ≤ 16 * n
  | 0 => by simp [pcArcs]
  | n + 1 => by
    rw [pcArcs_more, List.length_append, List.length_append, List.length_map, List.length_map, List.length_range]
    have := pcArcs_len b ch n
    have := b.k8
    have := b.n8
    have : I.rk.length = I.k := rfl
    omega
theorem arcs_eq (I : Inst) (ch : Chosen) : MW.arcs I ch = pcArcs I ch I.m ++ stArcs I ch I.n := by
  unfold MW.arcs MW.arcsN pcArcs stArcs
  rw [List.map_append]
section
variable {P : Program} {w : World} {K : PySem.W.Frag} {mg : Str → Option Value} {base : Heap} {CC SC : Addr}
abbrev nAr : List Str := ["self", "found", "piece", "racks", "rack", "node", "store", "other", "cost"]
theorem scAr : FnScope nAr ["self"] (defScope (sFl 5)) := ⟨rfl, rfl, rfl, by decide +kernel, rfl, by decide +kernel, by decide +kernel⟩
theorem ok_ar {f fS fE fP : Addr} {fd fdS fdE fdP : FuncData} (F : Fun K "arcs" "StockFlow.arcs" (sFl 5) f fd) (B : Blt mg) (T : FlT K SC) (TC : ClT K mg CC) (e : MFn K SC "arcs_of_stores" fS fdS ["self"])
    (GS : FnOk P w K mg base CX0 3 fS fdS ["self"] (spArcs CC SC fun I ch => stArcs I ch I.n)) (eE : MFn K SC "entry" fE fdE ["self", "piece", "store"]) (GE : FnOk P w K mg base CX0 1 fE fdE ["self", "piece", "store"] (spEntry CC SC))
    (eP : MFn K SC "pair" fP fdP ["self", "piece", "rack"]) (GP : FnOk P w K mg base CX0 1 fP fdP ["self", "piece", "rack"] (spPair CC SC)) : FnOk P w K mg base CX0 4 f fd ["self"] (spArcs CC SC MW.arcs) := by
  refine F.ok scAr (fun vs H Q E h => ?_) (fun cdv A outer s H vs Q E hr h => ?_)
  · obtain ⟨G, I, ch, rfl, _⟩ := h
    rfl
  · obtain ⟨G, I, ch, rfl, b, dc, co, k⟩ := h
    have hu := hu_of hr
    refine ⟨_, pss_cons (ps_set (i := 1) scAr.nd rfl (Or.inl rfl) (pe_lst pa_nil))
      (pss_cons (ps_for PassesOwn.never rfl (pi_enum (by rfl) B.enumerate (pa_cons (pe_fld (pv 0) rfl) pa_nil)) (pg_tup rfl (pgs_cons (pg_name (i := 2) scAr.nd rfl (Or.inl rfl)) (pgs_cons (pg_name (i := 3) scAr.nd rfl (Or.inl rfl)) pgs_nil)))
        (pss_cons (ps_for PassesOwn.never rfl (pi_list (pe_fld (pv 0) rfl)) (pg_name (i := 4) scAr.nd rfl (Or.inl rfl))
          (pss_cons (ps_set (i := 5) scAr.nd rfl (Or.inl rfl) (pe_meth (pv 0) T.cl eP.m GP (hr.mono (by decide)) eP.bi .nil pass0 (pa_cons (pv 2) (pa_cons (pv 4) pa_nil))))
          (pss_one (ps_expr (pe_bm PySem.F.plainAttrs_list PySem.F.slot_list_append PySem.F.type_list_append mt_append (pv 1) (pa_cons (pe_join (pe_ifExp (pt_cmp (pc_din hu (pv 4) (pv 3))) (pe_tup (pa_cons (pv 5) (pa_cons (pv 2) (pa_cons pe_int pa_nil)))) (pe_tup (pa_cons (pv 2) (pa_cons (pv 5) (pa_cons pe_int pa_nil)))))) pa_nil))))))
        (pss_one (ps_for PassesOwn.never rfl (pi_enumT (by rfl) B.enumerate (pa_cons (pe_fld (pe_fld (pv 0) rfl) rfl) pa_nil)) (pg_tup rfl (pgs_cons (pg_name (i := 6) scAr.nd rfl (Or.inl rfl)) (pgs_cons (pg_name (i := 4) scAr.nd rfl (Or.inl rfl)) pgs_nil)))
          (pss_cons (ps_set (i := 5) scAr.nd rfl (Or.inl rfl) (pe_meth (pv 0) T.cl eP.m GP (hr.mono (by decide)) eP.bi .nil pass0 (pa_cons (pv 2) (pa_cons (pv 4) pa_nil))))
          (pss_cons (ps_asg (pe_meth (pv 0) T.cl eE.m GE (hr.mono (by decide)) eE.bi .nil pass0 (pa_cons (pv 2) (pa_cons (pv 6) pa_nil))) (pg_tup (by rfl) (pgs_cons (pg_name (i := 7) scAr.nd rfl (Or.inl rfl)) (pgs_cons (pg_name (i := 8) scAr.nd rfl (Or.inl rfl)) pgs_nil))))
          (pss_one (ps_expr (pe_bm PySem.F.plainAttrs_list PySem.F.slot_list_append PySem.F.type_list_append mt_append (pv 1) (pa_cons (pe_join (pe_ifExp (pt_cmpR (op_eqD hr.units) (pe_dget1 hu (pv 3) (pv 4) ⟨rfl, rfl, rfl, rfl⟩) (pv 6) (nomark _)) (pe_tup (pa_cons (pv 7) (pa_cons (pv 5) (pa_cons (pe_un un_neg (pv 8)) pa_nil)))) (pe_tup (pa_cons (pv 5) (pa_cons (pv 7) (pa_cons (pv 8) pa_nil)))))) pa_nil))))))))))
      (pss_one (ps_ret (pe_op op_cat (pv 1) (pe_meth0 (pv 0) T.cl e.m GS (hr.mono (by decide)) e.bi .nil pass0))))), ?_⟩
    have m4 := b.m4
    have n8 := b.n8
    have k8 := b.k8
    refine ⟨(by decide), fun f hf => ?_⟩
    have zf : Same H (upd H f (.lst [])) := sNew hf
    have b1 := b.same zf
    refine ⟨_, rfl, G.s, SC, G.dx, _, _, rfl, b1.ins, T.cl, T.nCh, fl_chosen, G.cl, G.ds.map .ref, rfl, SqL.of b1.cs, for_enum (xs := G.ds.map V.ref) (fun i σ H' => ∃ v2 v3 v4 v5 v6 v7 v8, σ = [some (.ref G.s), some (.ref f), v2, v3, v4, v5, v6, v7, v8] ∧ Fnd H f (pcArcs I ch i) H')
      ⟨_, _, _, _, _, _, _, rfl, zf, [], upd_same, .nil⟩ (fun i σ H' _ ⟨_, _, _, _, _, _, _, _, z⟩ => SqL.of (b.same z.1).cs) ?_ ?_⟩
    · rintro i x U σ H' hx hn ⟨v2, v3, v4, v5, v6, v7, v8, rfl, z⟩
      obtain ⟨d, hd, rfl⟩ := ds_at hx
      obtain ⟨row, hrow, hd0⟩ := dc.at hd
      have hi : i < I.m := by rw [← b.dl]; exact (List.getElem?_eq_some_iff.mp hd).1
      have lk : ∀ r, MW.look ch i r = row.lookup r := fun r => by
        unfold MW.look
        rw [getD_of hrow]
      have base0 : Fnd H f (pcArcs I ch i) (upd H' U (.tup [.int (i : Nat), .ref d])) := by
        obtain ⟨s, xs, hx, ha⟩ := z
        exact ⟨sAdd s hn, xs, by rw [upd_ne (ne_of_none hx hn)]; exact hx, ha.same (sNew hn)⟩
      have lenOk : ∀ {B : List Arc}, B.length ≤ 16 → (pcArcs I ch i ++ B).length ≤ 1000 := fun {B} hB => by
        rw [List.length_append]
        have := pcArcs_len b ch i
        omega
      refine ⟨U, _, rfl, SqT.of upd_same, rfl, _, _, rfl, _, _, rfl, rfl, ?_⟩
      refine ⟨_, rfl, G.s, SC, G.dx, _, _, rfl, (b.same base0.1).ins, T.cl, T.nR, fl_racks, G.r, rfl, ⟨_, SqL.of (b.same base0.1).rk⟩, for_list (xs := nvs I.rk) (fun j σ H'' => ∃ v4 v5 v6 v7 v8, σ = [some (.ref G.s), some (.ref f), some (nv i), some (.ref d), v4, v5, v6, v7, v8] ∧ Fnd H f (pcArcs I ch i ++ (I.rk.take j).map (a1 I ch i)) H'')
        ⟨_, _, _, _, _, rfl, by simpa using base0⟩ (fun j σ H'' _ ⟨_, _, _, _, _, _, y⟩ => SqL.of (b.same y.1).rk) ?_ ?_⟩
      · rintro j x' σ H'' hj ⟨v4', v5', v6', v7', v8', rfl, y⟩
        obtain ⟨r, hr', rfl⟩ := nvs_get hj
        have b4 := b.same y.1
        have hdd := y.1 _ _ hd0
        obtain ⟨xs, hxs, ha, hlen⟩ := y.len (lenOk (by rw [List.length_map]; have := List.length_take_le' j I.rk; have : I.rk.length = I.k := rfl; omega))
        refine ⟨_, rfl, G.s, G.dx, _, rfl, b4.ins, fl_none (by decide +kernel), _, rfl, _, rfl, G, I, i, r, rfl, b4, hi, List.mem_of_getElem? hr', ?_⟩
        refine ⟨_, rfl, .inl ⟨rfl, _, SqL.of hxs⟩, fun v H3 => ∃ t, v = .ref t ∧ H'' t = none ∧ H3 = upd H'' t (.tup [nv (a1 I ch i r).1, nv (a1 I ch i r).2.1, .int (a1 I ch i r).2.2]), ?_, ?_⟩
        · refine ⟨_, rfl, _, rfl, d, _, rfl, DGet.k (k := Sum.inl (r : Int)) hdd, _, rfl, ?_⟩
          have ev : (valV (rowV row) (Sum.inl (r : Int))).isSome = (MW.look ch i r).isSome := by
            rw [rowV_val, lk]
            cases row.lookup r <;> rfl
          rw [ev]
          by_cases c : (MW.look ch i r).isSome = true
          · have ea : a1 I ch i r = (MW.enc I (.pr i r), MW.enc I (.pc i), 0) := by
              unfold a1
              rw [if_pos c]
              rfl
            refine iteB c ⟨_, rfl, _, rfl, (by show 3 ≤ sizeLine; decide), fun t ht => ⟨t, rfl, ht, ?_⟩⟩
            rw [ea]
            rfl
          · have ea : a1 I ch i r = (MW.enc I (.pc i), MW.enc I (.pr i r), 0) := by
              unfold a1
              rw [if_neg c]
              rfl
            refine iteBn (by simpa using c) ⟨_, rfl, _, rfl, (by show 3 ≤ sizeLine; decide), fun t ht => ⟨t, rfl, ht, ?_⟩⟩
            rw [ea]
            rfl
        · rintro _ _ ⟨t, rfl, ht, rfl⟩
          refine ⟨f, xs, .ref t, rfl, rfl, ?_, hlen, _, _, _, _, _, rfl, ?_⟩
          · rw [upd_ne (ne_of_none hxs ht)]; exact hxs
          · rw [take_more hr', List.map_append, ← List.append_assoc]
            exact Fnd.snoc y.1 hf hxs ha ht
      rintro σ H4 ⟨v4', v5', v6', v7', v8', rfl, y0⟩
      rw [nvs_len, List.take_length] at y0
      refine ⟨_, rfl, G.s, SC, G.dx, _, _, rfl, (b.same y0.1).ins, T.cl, T.nC, fl_cluster, G.c, CC, G.dc, _, _, rfl, (b.same y0.1).at_.ins, TC.cl, TC.nR, clF_racks _ _ _ _, G.tr, nvs I.racks, rfl, SqT.of (b.same y0.1).at_.racks, for_enumT (xs := nvs I.racks) (fun j σ H'' => ∃ v4 v5 v6 v7 v8, σ = [some (.ref G.s), some (.ref f), some (nv i), some (.ref d), v4, v5, v6, v7, v8] ∧ Fnd H f (pcArcs I ch i ++ (I.rk.map (a1 I ch i) ++ (List.range j).map (a2 I ch i))) H'')
        ⟨_, _, _, _, _, rfl, by simpa using y0⟩ (fun j σ H'' _ ⟨_, _, _, _, _, _, y⟩ => SqT.of (b.same y.1).at_.racks) ?_ ?_⟩
      · rintro j x' U' σ H'' hj hn' ⟨v4, v5, v6, v7, v8, rfl, y⟩
        obtain ⟨r, hr', rfl⟩ := nvs_get hj
        have hjn : j < I.n := (List.getElem?_eq_some_iff.mp hr').1
        have err : I.rack j = r := getD_of hr'
        have rm : r ∈ I.rk := by rw [b.ok.mem]; exact List.mem_of_getElem? hr'
        obtain ⟨xs, hxs, ha, hlen⟩ := y.len (lenOk (by rw [List.length_append, List.length_map, List.length_map, List.length_range]; have : I.rk.length = I.k := rfl; omega))
        have fU : f ≠ U' := ne_of_none hxs hn'
        have s5 : Same H (upd H'' U' (.tup [.int (j : Nat), nv r])) := sAdd y.1 hn'
        have b5 := b.same s5
        refine ⟨U', _, rfl, SqT.of upd_same, rfl, _, _, rfl, _, _, rfl, rfl, ?_⟩
        refine ⟨_, rfl, G.s, G.dx, _, rfl, b5.ins, fl_none (by decide +kernel), _, rfl, _, rfl, G, I, i, r, rfl, b5, hi, rm, ?_⟩
        refine ⟨_, rfl, G.s, G.dx, _, rfl, b5.ins, fl_none (by decide +kernel), _, rfl, _, rfl, G, I, i, j, rfl, b5, hi, fun p hp => ⟨p, _, rfl, SqT.of upd_same, rfl, _, _, rfl, _, _, rfl, rfl, ?_⟩⟩
        have fp : f ≠ p := ne_of_none (by rw [upd_ne fU]; exact hxs) hp
        let H6 := upd (upd H'' U' (.tup [.int (j : Nat), nv r])) p (.tup [nv (I.fg + j), nv 1])
        have s6 : Same H H6 := sAdd s5 hp
        have hx6 : H6 f = some (.lst xs) := by
          show upd (upd H'' U' _) p _ f = _
          rw [upd_ne fp, upd_ne fU]; exact hxs
        have ha6 : ArcsAt H6 xs (pcArcs I ch i ++ (I.rk.map (a1 I ch i) ++ (List.range j).map (a2 I ch i))) := (ha.same (sNew hn')).same (sNew hp)
        have hd6 : H6 d = some (.dK (rowV row)) := s6 _ _ hd0
        refine ⟨_, rfl, .inl ⟨rfl, _, SqL.of hx6⟩, fun v H3 => ∃ t, v = .ref t ∧ H6 t = none ∧ H3 = upd H6 t (.tup [nv (a2 I ch i j).1, nv (a2 I ch i j).2.1, .int (a2 I ch i j).2.2]), ?_, ?_⟩
        · have dg : DGet H6 d (nv r) ((row.lookup r).map nv) := by
            rw [← rowV_val]
            exact DGet.k (k := Sum.inl (r : Int)) hd6
          refine ⟨_, rfl, d, rfl, .inl ⟨_, .inl hd6⟩, _, rfl, _, dg, _, rfl, ?_⟩
          cases hl : row.lookup r with
          | none =>
            have ea : a2 I ch i j = (MW.enc I (.pr i r), I.fg + j, 1) := by
              unfold a2
              rw [err, lk, hl, if_neg (by intro z; cases z)]
              rfl
            refine ⟨.none, .int (j : Int), .non, .int _, rfl, rfl, _, rfl, iteBn (by simp [PyData.eqv]) ⟨_, rfl, _, rfl, _, rfl, (by show 3 ≤ sizeLine; decide), fun t ht => ⟨t, rfl, ht, ?_⟩⟩⟩
            rw [ea]
            rfl
          | some t0 =>
            refine ⟨.int (t0 : Int), .int (j : Int), .int _, .int _, rfl, rfl, _, rfl, ?_⟩
            by_cases c : t0 = j
            · have ea : a2 I ch i j = (I.fg + j, MW.enc I (.pr i r), -1) := by
                unfold a2
                rw [err, lk, hl, if_pos (by rw [c])]
                rfl
              refine iteB (by simp [PyData.eqv, c]) ⟨_, rfl, _, rfl, _, rfl, _, rfl, (by show 3 ≤ sizeLine; decide), fun t ht => ⟨t, rfl, ht, ?_⟩⟩
              rw [ea]
              rfl
            · have ea : a2 I ch i j = (MW.enc I (.pr i r), I.fg + j, 1) := by
                unfold a2
                rw [err, lk, hl, if_neg (by intro z; exact c (Option.some.inj z))]
                rfl
              refine iteBn (by simp only [PyData.eqv]; simpa using fun z => c (by omega)) ⟨_, rfl, _, rfl, _, rfl, (by show 3 ≤ sizeLine; decide), fun t ht => ⟨t, rfl, ht, ?_⟩⟩
              rw [ea]
              rfl
        · rintro _ _ ⟨t, rfl, ht, rfl⟩
          refine ⟨f, xs, .ref t, rfl, rfl, ?_, hlen, _, _, _, _, _, rfl, ?_⟩
          · rw [upd_ne (ne_of_none hx6 ht)]; exact hx6
          · have := Fnd.snoc (u := (a2 I ch i j).1) (v := (a2 I ch i j).2.1) (c := (a2 I ch i j).2.2) s6 hf hx6 ha6 ht
            rw [List.range_succ, List.map_append, ← List.append_assoc (I.rk.map (a1 I ch i)), ← List.append_assoc]
            exact this
      · rintro σ H5 ⟨v4, v5, v6, v7, v8, rfl, y⟩
        refine ⟨_, _, _, _, _, _, _, rfl, ?_⟩
        rw [nvs_len] at y
        rw [pcArcs_more]
        exact y
    · rintro σ H3 ⟨v2, v3, v4, v5, v6, v7, v8, rfl, z⟩
      rw [List.length_map, b.dl] at z
      obtain ⟨xs, hxs, ha, hlen⟩ := z.len (by have := pcArcs_len b ch I.m; omega)
      refine ⟨_, rfl, _, rfl, G.s, G.dx, _, rfl, (b.same z.1).ins, fl_none (by decide +kernel), G, I, ch, rfl, b.same z.1, dc.same z.1, co, fun H4 p ys s4 hp hA => ?_⟩
      refine ⟨f, p, xs, ys, rfl, rfl, s4 _ _ hxs, hp, ?_, fun q hq => k _ q (xs ++ ys) (sAdd (z.1.trans s4) hq) upd_same ?_⟩
      · have h1 := ha.len
        have h2 : ys.length = (stArcs I ch I.n).length := hA.len
        have h3 := pcArcs_len b ch I.m
        have h4 := stArcs_len I ch I.n
        exact Nat.le_of_lt (small (by rw [h1, h2]; omega))
      · rw [arcs_eq]
        exact ((ha.same s4).same (sNew hq)).app (hA.same (sNew hq))
end
end MV
end
/-! KWay -/
section
set_option Elab.async false
set_option linter.all false
set_option maxRecDepth 100000
set_option maxHeartbeats 4000000
/-! the way -/
namespace MV
open PySem PyProof.Rows L2 KX
open PySem.Spec hiding Row
open MW (Inst Row Chosen Arc Came keys relax)
theorem iteI {c : Bool} {A B : Prop} (h1 : c = true → A) (h2 : c = false → B) : if c = true then A else B := by
  cases c
  · exact h2 rfl
  · exact h1 rfl
/-- the values found: heights over the start's -/
def valsV (h : Nat → Int) (p : Nat) (ks : List Nat) : List (Key × V) := ks.map fun (x : Nat) => ((Sum.inl (x : Int) : Key), V.int (h x - h p))
theorem key_iff (a r : Nat) : ((Sum.inl (a : Int) : Key) = Sum.inl (r : Int)) ↔ a = r := ⟨fun z => by injection z with z; exact Int.ofNat_inj.mp z, fun z => by rw [z]⟩
theorem valsV_val (h : Nat → Int) (p : Nat) (x : Nat) : ∀ ks : List Nat, valV (valsV h p ks) (Sum.inl (x : Int)) = if x ∈ ks then some (.int (h x - h p)) else none
  | [] => rfl
  | a :: ks => by
    by_cases c : a = x
    · subst c
      rw [if_pos List.mem_cons_self]
      exact valV_pos rfl
    · have e : valV (valsV h p (a :: ks)) (Sum.inl (x : Int)) = valV (valsV h p ks) (Sum.inl (x : Int)) := valV_neg (fun z => c ((key_iff a x).mp z))
      rw [e, valsV_val h p x ks]
      by_cases m : x ∈ ks
      · rw [if_pos m, if_pos (List.mem_cons_of_mem _ m)]
      · rw [if_neg m, if_neg (fun z => m ((List.mem_cons.mp z).resolve_left (fun y => c y.symm)))]
theorem valsV_put {h : Nat → Int} {p x : Nat} {ks : List Nat} (n : x ∉ ks) : putK (valsV h p ks) (Sum.inl (x : Int)) (.int (h x - h p)) = valsV h p (ks ++ [x]) := by
  unfold putK
  have e : ((valsV h p ks).any fun kv => decide (kv.1 = (Sum.inl (x : Int) : Key))) = false := by
    rw [List.any_eq_false]
    intro kv hkv
    obtain ⟨y, hy, rfl⟩ := List.mem_map.mp hkv
    simpa using fun z => n (by rw [← (key_iff y x).mp (congrArg Sum.inl z)]; exact hy)
  rw [e, if_neg (by simp)]
  unfold valsV
  rw [List.map_append]
  rfl
theorem put1_new {l : Row} {k v : Nat} (n : k ∉ l.map (·.1)) : MW.put1 l k v = l ++ [(k, v)] := by
  unfold MW.put1
  have e : (l.any fun kv => decide (kv.1 = k)) = false := by
    rw [List.any_eq_false]
    intro kv hkv
    simpa using fun z => n (by rw [← z]; exact List.mem_map_of_mem hkv)
  rw [e]
  rfl
theorem relax_yes {p : Nat} {s : Came × Bool} {a : Arc} (h1 : a.1 ∈ keys p s.1) (h2 : a.2.1 ∉ keys p s.1) : relax p s a = (s.1 ++ [(a.2.1, a.1)], true) := if_pos ⟨h1, h2⟩
theorem relax_no {p : Nat} {s : Came × Bool} {a : Arc} (h : ¬ (a.1 ∈ keys p s.1 ∧ a.2.1 ∉ keys p s.1)) : relax p s a = s := if_neg h
theorem fold_more {p : Nat} {A : List Arc} {s : Came × Bool} {i : Nat} {a : Arc} (h : A[i]? = some a) : (A.take (i + 1)).foldl (relax p) s = relax p ((A.take i).foldl (relax p) s) a := by
  rw [take_more h, List.foldl_append]
  rfl
theorem sink_le {CC SC : Addr} {G : Geo} {I : Inst} {H : Hp} (b : FlowB CC SC G I H) : I.sink ≤ 52 := by
  have m4 := b.m4
  have n8 := b.n8
  have k8 := b.k8
  have h : I.fg ≤ 4 * 9 := Nat.mul_le_mul m4 (by omega)
  have h1 : I.fs = I.fg + I.n := rfl
  have h2 : I.sink = I.fs + I.n := rfl
  omega
section
variable {P : Program} {w : World} {K : PySem.W.Frag} {mg : Str → Option Value} {base : Heap} {CC SC : Addr}
abbrev nWa : List Str := ["self", "piece", "arcs", "values", "came", "moved", "one", "other", "cost", "way"]
theorem scWa : FnScope nWa ["self", "piece"] (defScope (sFl 6)) := ⟨rfl, rfl, rfl, by decide +kernel, rfl, by decide +kernel, by decide +kernel⟩
def theWay (I : Inst) (ch : Chosen) (q : Nat) : Option (List Nat) := MW.wayOf q (MW.arcs I ch) (I.sink + 1) I.sink
def spWa (CC SC : Addr) : Sp := fun vs H Q _ => ∃ (G : Geo) (I : Inst) (ch : Chosen) (q : Nat), vs = [.ref G.s, nv q] ∧ FlowB CC SC G I H ∧ DcAt G ch H ∧ MW.ChOk I ch ∧ q < I.m ∧
  (theWay I ch q = none → ∀ H', Same H H' → Q .non H') ∧ ∀ l, theWay I ch q = some l → ∀ H' p, Same H H' → H' p = some (.lst (nvs l)) → Q (.ref p) H'
theorem ok_wa {f fA : Addr} {fd fdA : FuncData} (F : Fun K "way_from" "StockFlow.way_from" (sFl 6) f fd) (B : Blt mg) (T : FlT K SC) (e : MFn K SC "arcs" fA fdA ["self"])
    (GA : FnOk P w K mg base CX0 4 fA fdA ["self"] (spArcs CC SC MW.arcs)) : FnOk P w K mg base CX0 5 f fd ["self", "piece"] (spWa CC SC) := by
  refine F.ok scWa (fun vs H Q E h => ?_) (fun cdv A outer s H vs Q E hr h => ?_)
  · obtain ⟨G, I, ch, q, rfl, _⟩ := h
    rfl
  · obtain ⟨G, I, ch, q, rfl, b, dc, co, hq, kn, ks⟩ := h
    have hu := hu_of hr
    refine ⟨_, pss_cons (ps_set (i := 2) scWa.nd rfl (Or.inl rfl) (pe_meth0 (pv 0) T.cl e.m GA hr e.bi .nil pass0))
      (pss_cons (ps_set (i := 3) scWa.nd rfl (Or.inl rfl) (pe_disp (pps_cons (pv 1) pe_int pps_nil) (by rfl) (by rfl) (fun z => by cases z) (by decide)))
      (pss_cons (ps_set (i := 4) scWa.nd rfl (Or.inl rfl) pe_dnewK)
      (pss_cons (ps_set (i := 5) scWa.nd rfl (Or.inl rfl) pe_bl)
      (pss_cons (ps_while PassesOwn.never (pt_val (pv 5))
        (pss_cons (ps_set (i := 5) scWa.nd rfl (Or.inl rfl) pe_bl)
        (pss_one (ps_for PassesOwn.never rfl (pi_list (pv 2)) (pg_tup rfl (pgs_cons (pg_name (i := 6) scWa.nd rfl (Or.inl rfl)) (pgs_cons (pg_name (i := 7) scWa.nd rfl (Or.inl rfl)) (pgs_cons (pg_name (i := 8) scWa.nd rfl (Or.inl rfl)) pgs_nil))))
          (pss_one (ps_join (ps_if (PW.pt (pw_and (pt_cmp (pc_din hu (pv 6) (pv 3))) (pw_and1 (PW.pt (pw_or (pt_cmp (pc_dnotin hu (pv 7) (pv 3))) (pw_or1 (pt_cmpR op_lt (pe_op op_add (pe_dget hu (pv 3) (pv 6) (fun _ _ => rfl)) (pv 8)) (pe_dget hu (pv 3) (pv 7) (fun _ _ => rfl)) (nomark _))))))))
            (pss_cons (ps_dput hu (pv 3) (pv 7) (pe_op op_add (pe_dget hu (pv 3) (pv 6) (fun _ _ => rfl)) (pv 8)) rfl)
            (pss_cons (ps_dput hu (pv 4) (pv 7) (pv 6) rfl)
            (pss_one (ps_set (i := 5) scWa.nd rfl (Or.inl rfl) pe_bl)))) pss_nil)))))))
      (pss_cons (ps_if (pt_cmp (pc_dnotin hu (pe_fld (pv 0) rfl) (pv 3))) (pss_one (ps_ret pe_non)) pss_nil)
      (pss_cons (ps_set (i := 9) scWa.nd rfl (Or.inl rfl) (pe_lst (pa_cons (pe_fld (pv 0) rfl) pa_nil)))
      (pss_cons (ps_while PassesOwn.never (pt_cmpR op_ne (pe_ix ix_list (pv 9) (pe_un un_neg pe_int) (fun _ _ => rfl)) (pv 1) (nomark _))
        (pss_one (ps_expr (pe_bm PySem.F.plainAttrs_list PySem.F.slot_list_append PySem.F.type_list_append mt_append (pv 9) (pa_cons (pe_dget hu (pv 4) (pe_ix ix_list (pv 9) (pe_un un_neg pe_int) (fun _ _ => rfl)) (fun _ _ => rfl)) pa_nil)))))
      (pss_one (ps_ret (pe_revL (pv 9))))))))))), ?_⟩
    have hN : ∀ a ∈ MW.arcs I ch, a.2.1 < I.sink + 1 := MW.arcs_lt b.ok
    have hph : ∀ a ∈ MW.arcs I ch, a.2.2 = MW.phi I a.2.1 - MW.phi I a.1 := MW.arcs_phi b.ok
    have hqN : q < I.sink + 1 := MW.enc_le (I := I) (v := .pc q) hq
    have sk := sink_le b
    refine ⟨_, rfl, G.s, G.dx, _, rfl, b.ins, fl_none (by decide +kernel), G, I, ch, rfl, b, dc, co, fun H1 p xs s1 hp ha => ?_⟩
    let A := MW.arcs I ch
    refine fun d hd => ⟨_, rfl, upd_same, [(Sum.inl (q : Int), .int 0)], rfl, (by show 1 ≤ 15; decide), ?_⟩
    rw [upd_upd]
    have e1 : (HO.dK (mergeK [] [(Sum.inl (q : Int), .int 0)])) = .dK (valsV (MW.phi I) q [q]) := by
      unfold valsV
      simp only [List.map_cons, List.map_nil, Int.sub_self]
      rfl
    rw [e1]
    refine fun c hc => ?_
    have cd : c ≠ d := fun z => by rw [z, upd_same] at hc; cases hc
    have hc1 : H1 c = none := by rw [upd_ne cd] at hc; exact hc
    have gone : ∀ {x : Addr}, H1 x = none → H x = none := fun {x} h => by
      cases c : H x with
      | none => rfl
      | some o => exact absurd (s1 _ _ c) (by rw [h]; intro z; cases z)
    have pd : p ≠ d := ne_of_none hp hd
    have pc : p ≠ c := ne_of_none hp hc1
    -- what stands: the came list cm
    let Hs : Came → Hp → Prop := fun cm H' => Same H1 H' ∧ H' d = some (.dK (valsV (MW.phi I) q (keys q cm))) ∧ H' c = some (.dK (rowV cm))
    have put2 : ∀ {cm : Came} {H' : Hp} {u v : Nat}, Hs cm H' → v ∉ keys q cm → Hs (cm ++ [(v, u)]) (upd (upd H' d (.dK (putK (valsV (MW.phi I) q (keys q cm)) (Sum.inl (v : Int)) (.int (MW.phi I v - MW.phi I q))))) c (.dK (putK (rowV cm) (Sum.inl (v : Int)) (nv u)))) := by
      rintro cm H' u v ⟨s, h1, h2⟩ n
      refine ⟨sUpd (sUpd s hd) hc1, ?_, ?_⟩
      · rw [upd_ne cd.symm, upd_same, valsV_put n, MW.keys_snoc]
      · rw [upd_same, rowV_put, put1_new (fun z => n (List.mem_cons_of_mem _ z))]
    let N := I.sink + 1
    -- the search
    refine ⟨fun m σ H' => ∃ (cm : Came) (mv : Bool) (v6 v7 v8 : Option V), σ = [some (.ref G.s), some (nv q), some (.ref p), some (.ref d), some (.ref c), some (.bl mv), v6, v7, v8, none] ∧ Hs cm H' ∧
      ((mv = false ∧ cm = MW.cameOf q (MW.arcs I ch) (I.sink + 1)) ∨ (mv = true ∧ ∃ fu, m = fu ∧ MW.WF q (MW.arcs I ch) cm ∧ I.sink + 1 < fu + (cm.length + 1) ∧ MW.cameOf q (MW.arcs I ch) (I.sink + 1) = MW.bf q (MW.arcs I ch) fu cm)),
      ⟨I.sink + 1 + 1, [], true, none, none, none, rfl, ⟨(sNew hd).trans (sNew hc), by rw [upd_ne cd.symm, upd_same]; rfl, upd_same⟩, .inr ⟨rfl, _, rfl, .nil, by simp, rfl⟩⟩, ?_⟩
    rintro m σ H' ⟨cm, mv, v6, v7, v8, rfl, hs, alt⟩
    refine ⟨_, rfl, mv, rfl, ?_⟩
    rcases alt with ⟨rfl, hcm⟩ | ⟨rfl, fu, hm, wf, hfu, hbf⟩
    · -- the search has ended
      refine iteF ?_
      have hA := MW.bf_ok hqN hN (I.sink + 1 + 1) [] .nil (by simp)
      have hA : MW.WF q (MW.arcs I ch) cm := by rw [hcm]; exact hA.1
      have b2 := (b.same s1).same hs.1
      refine ⟨_, rfl, G.s, SC, G.dx, _, _, rfl, b2.ins, T.cl, T.nSk, fl_sink, _, rfl, d, _, rfl, DGet.k (k := Sum.inl (I.sink : Int)) hs.2.1, _, rfl, ?_⟩
      rw [valsV_val]
      by_cases hk : I.sink ∈ keys q cm
      · rw [if_pos hk]
        refine iteN rfl ?_
        have hw : theWay I ch q = some (MW.traceR q cm.reverse I.sink).reverse := by
          unfold theWay MW.wayOf
          rw [← hcm, if_pos hk]
        obtain ⟨bk, _, tin, _⟩ := MW.trace_ok hA _ hk
        have hlen := hA.len hqN hN
        have tl : (MW.traceR q cm.reverse I.sink).length ≤ 53 := by
          have hnd := (MW.trace_ok hA _ hk).2.1
          have := hnd.length_le_of_subset tin
          have e2 : (keys q cm).length = cm.length + 1 := by simp [keys]
          omega
        refine ⟨_, rfl, G.s, SC, G.dx, _, _, rfl, b2.ins, T.cl, T.nSk, fl_sink, (by show 1 ≤ sizeLine; decide), fun y hy => ?_⟩
        have dy : d ≠ y := ne_of_none hs.2.1 hy
        have cy : c ≠ y := ne_of_none hs.2.2 hy
        refine ⟨fun m' σ H3 => ∃ (W : List Nat) (x : Nat) (l : List Nat), σ = [some (.ref G.s), some (nv q), some (.ref p), some (.ref d), some (.ref c), some (.bl false), v6, v7, v8, some (.ref y)] ∧ Same (upd H' y (.lst [])) (upd H3 y (.lst [])) ∧ H3 y = some (.lst (nvs (W ++ [x]))) ∧ MW.Back q cm x l ∧ MW.traceR q cm.reverse I.sink = W ++ l ∧ m' = l.length,
          ⟨_, [], I.sink, _, rfl, ?_, upd_same, bk, rfl, rfl⟩, ?_⟩
        · rw [upd_upd]
          exact fun _ _ e => e
        rintro m' σ H3 ⟨W, x, l, rfl, s3, hy3, bl, etr, rfl⟩
        have hx3 : atI (nvs (W ++ [x])) (-1) = some (nv x) := by
          show atI ((W ++ [x]).map nv) (-1) = _
          rw [List.map_append]
          exact atI_last _ _
        have at3 : ∀ {z : Addr} {o : HO}, H' z = some o → H3 z = some o := fun {z o} h => by
          have n : z ≠ y := ne_of_none h hy
          have := s3 z o (by rw [upd_ne n]; exact h)
          rwa [upd_ne n] at this
        refine ⟨_, rfl, _, rfl, y, _, _, _, rfl, rfl, SqL.of hy3, hx3, _, rfl, rfl, _, rfl, ?_⟩
        by_cases hxq : x = q
        · subst hxq
          refine iteN (decide_eq_true rfl) ?_
          cases bl with
          | step h _ _ => exact absurd rfl h
          | here =>
            refine ⟨_, rfl, y, _, rfl, SqL.of hy3, fun r hr' => ks _ hw _ r ?_ ?_⟩
            · have : Same H H3 := fun z o e => at3 (hs.1 _ _ (s1 _ _ e))
              exact sAdd this hr'
            · rw [upd_same, etr, ← List.map_reverse]
        · refine iteB (by simpa using fun z => hxq (by omega)) ?_
          cases bl with
          | here => exact absurd rfl hxq
          | @step _ u l' hne hl bk' =>
            refine ⟨fun σ'' H'' => ∃ m'', m'' < (x :: l').length ∧ ∃ (W : List Nat) (x : Nat) (l : List Nat), σ'' = [some (.ref G.s), some (nv q), some (.ref p), some (.ref d), some (.ref c), some (.bl false), v6, v7, v8, some (.ref y)] ∧ Same (upd H' y (.lst [])) (upd H'' y (.lst [])) ∧ H'' y = some (.lst (nvs (W ++ [x]))) ∧ MW.Back q cm x l ∧ MW.traceR q cm.reverse I.sink = W ++ l ∧ m'' = l.length, fun _ _ h => h, ?_⟩
            have dg : DGet H3 c (nv x) (some (nv u)) := by
              have e : valV (rowV cm) (Sum.inl (x : Int)) = some (nv u) := by rw [rowV_val, hl]; rfl
              rw [← e]
              exact DGet.k (k := Sum.inl (x : Int)) (at3 hs.2.2)
            refine ⟨_, rfl, .inl ⟨rfl, _, SqL.of hy3⟩, _, rfl, _, rfl, _, rfl, y, _, _, _, rfl, rfl, SqL.of hy3, hx3, c, _, rfl, dg, y, _, _, rfl, rfl, hy3, small ?_, _, ?_, W ++ [x], u, l', rfl, ?_, ?_, bk', ?_, rfl⟩
            · rw [nvs_len]
              have h5 : (W ++ [x]).length ≤ (W ++ x :: l').length := by simp
              rw [← etr] at h5
              omega
            · simp
            · rw [upd_upd]
              exact s3
            · rw [upd_same]
              show some (HO.lst ((W ++ [x]).map nv ++ [nv u])) = some (HO.lst ((W ++ [x] ++ [u]).map nv))
              rw [List.map_append (l₁ := W ++ [x])]
              rfl
            · rw [etr]; simp
      · rw [if_neg hk]
        refine iteNn rfl ?_
        have hw : theWay I ch q = none := by
          unfold theWay MW.wayOf
          rw [← hcm, if_neg hk]
        exact kn hw _ (s1.trans hs.1)
    · -- one more pass
      refine iteT ⟨fun σ'' H'' => ∃ m', m' < m ∧ ∃ (cm : Came) (mv : Bool) (v6 v7 v8 : Option V), σ'' = [some (.ref G.s), some (nv q), some (.ref p), some (.ref d), some (.ref c), some (.bl mv), v6, v7, v8, none] ∧ Hs cm H'' ∧
        ((mv = false ∧ cm = MW.cameOf q (MW.arcs I ch) (I.sink + 1)) ∨ (mv = true ∧ ∃ fu, m' = fu ∧ MW.WF q (MW.arcs I ch) cm ∧ I.sink + 1 < fu + (cm.length + 1) ∧ MW.cameOf q (MW.arcs I ch) (I.sink + 1) = MW.bf q (MW.arcs I ch) fu cm)), fun _ _ h => h, ?_⟩
      have hpx := hs.1 _ _ hp
      refine ⟨_, rfl, p, rfl, ⟨_, SqL.of hpx⟩, for_list (xs := xs) (fun i σ H3 => ∃ v6 v7 v8, σ = [some (.ref G.s), some (nv q), some (.ref p), some (.ref d), some (.ref c), some (.bl (((MW.arcs I ch).take i).foldl (relax q) (cm, false)).2), v6, v7, v8, none] ∧ Hs (((MW.arcs I ch).take i).foldl (relax q) (cm, false)).1 H3)
        ⟨_, _, _, rfl, hs⟩ (fun i σ H3 _ ⟨_, _, _, _, z⟩ => SqL.of (z.1 _ _ hp)) ?_ ?_⟩
      · rintro i x σ H3 hx ⟨w6, w7, w8, rfl, hs3⟩
        obtain ⟨t, u, v, co', rfl, hA, ht⟩ := ha.at hx
        have hmem := List.mem_of_getElem? hA
        have cost := hph _ hmem
        simp only at cost
        have hf := fold_more (p := q) (s := (cm, false)) hA
        have wf3 : MW.WF q (MW.arcs I ch) (((MW.arcs I ch).take i).foldl (relax q) (cm, false)).1 := MW.fold_wf (fun a h => List.mem_of_mem_take h) wf
        have l3 := wf3.len hqN hN
        rw [hf]
        generalize hst : ((MW.arcs I ch).take i).foldl (relax q) (cm, false) = st at *
        have ht3 := hs3.1 _ _ ht
        refine ⟨t, _, rfl, SqT.of ht3, rfl, _, _, rfl, _, _, rfl, _, _, rfl, rfl, ?_⟩
        refine ⟨fun σ' H' => ∃ v6 v7 v8, σ' = [some (.ref G.s), some (nv q), some (.ref p), some (.ref d), some (.ref c), some (.bl (relax q st (u, v, co')).2), v6, v7, v8, none] ∧ Hs (relax q st (u, v, co')).1 H', ?_, fun _ _ h => h⟩
        refine ⟨_, rfl, _, rfl, d, _, rfl, DGet.k (k := Sum.inl (u : Int)) hs3.2.1, _, rfl, ?_⟩
        rw [valsV_val]
        by_cases hu' : u ∈ keys q st.1
        · rw [if_pos hu']
          refine iteB rfl ⟨_, rfl, _, rfl, d, _, rfl, DGet.k (k := Sum.inl (v : Int)) hs3.2.1, _, rfl, ?_⟩
          rw [valsV_val]
          have gu : DGet H3 d (nv u) (some (.int (MW.phi I u - MW.phi I q))) := by
            have e : valV (valsV (MW.phi I) q (keys q st.1)) (Sum.inl (u : Int)) = some (.int (MW.phi I u - MW.phi I q)) := by rw [valsV_val, if_pos hu']
            rw [← e]
            exact DGet.k (k := Sum.inl (u : Int)) hs3.2.1
          have eAdd : V.int (MW.phi I u - MW.phi I q + co') = .int (MW.phi I v - MW.phi I q) := by
            rw [cost]
            congr 1
            omega
          by_cases hv' : v ∈ keys q st.1
          · rw [if_pos hv']
            have gv : DGet H3 d (nv v) (some (.int (MW.phi I v - MW.phi I q))) := by
              have e : valV (valsV (MW.phi I) q (keys q st.1)) (Sum.inl (v : Int)) = some (.int (MW.phi I v - MW.phi I q)) := by rw [valsV_val, if_pos hv']
              rw [← e]
              exact DGet.k (k := Sum.inl (v : Int)) hs3.2.1
            refine iteBn rfl ⟨_, rfl, _, rfl, d, _, rfl, gu, _, rfl, _, _, rfl, rfl, _, rfl, _, rfl, d, _, rfl, gv, _, _, eAdd, rfl, _, rfl, iteDn (by omega) ?_⟩
            rw [relax_no (fun z => z.2 hv')]
            exact ⟨_, _, _, rfl, hs3⟩
          · rw [if_neg hv']
            refine iteB rfl ⟨_, rfl, _, rfl, d, _, rfl, gu, _, rfl, _, _, rfl, rfl, _, rfl, _, rfl, d, _, rfl, DPut.k (k := Sum.inl (v : Int)) hs3.2.1 ?_, ?_⟩
            · show (valsV _ _ _).length < sizeLine
              unfold valsV
              rw [List.length_map]
              have e2 : (keys q st.1).length = st.1.length + 1 := by simp [keys]
              exact small (by omega)
            · show _
              refine ⟨_, rfl, _, rfl, _, rfl, c, _, rfl, DPut.k (k := Sum.inl (v : Int)) (by rw [upd_ne cd]; exact hs3.2.2) ?_, ?_⟩
              · rw [rowV_len]
                exact small (by omega)
              · rw [relax_yes hu' hv']
                refine ⟨_, _, _, rfl, ?_⟩
                have h6 := put2 (u := u) hs3 hv'
                rw [← eAdd] at h6
                exact h6
        · rw [if_neg hu']
          refine iteBn rfl ?_
          rw [relax_no (fun z => hu' z.1)]
          exact ⟨_, _, _, rfl, hs3⟩
      · rintro σ H4 ⟨w6, w7, w8, rfl, hs4⟩
        rw [ha.len, List.take_length] at hs4 ⊢
        have wl := wf.len hqN hN
        have hpass : ((MW.arcs I ch).foldl (relax q) (cm, false)) = MW.pass q (MW.arcs I ch) cm := rfl
        rw [hpass] at hs4 ⊢
        obtain ⟨fu', rfl⟩ : ∃ fu', fu = fu' + 1 := ⟨fu - 1, by omega⟩
        unfold MW.bf at hbf
        cases hm2 : (MW.pass q (MW.arcs I ch) cm).2 with
        | true =>
          rw [hm2, if_pos rfl] at hbf
          have hgrow := MW.pass_moved hm2
          exact ⟨fu', by omega, _, true, _, _, _, rfl, hs4, .inr ⟨rfl, fu', rfl, MW.pass_wf wf, by omega, hbf⟩⟩
        | false =>
          rw [hm2, if_neg (by simp)] at hbf
          exact ⟨0, by omega, _, false, _, _, _, rfl, hs4, .inl ⟨rfl, hbf.symm⟩⟩
end
end MV
end
/-! KGo -/
section
set_option Elab.async false
set_option linter.all false
set_option maxRecDepth 100000
set_option maxHeartbeats 4000000
/-! go: along a way -/
namespace MV
open PySem PyProof.Rows L2 KX
open PySem.Spec hiding Row
open MW (Inst Row Chosen Arc stepsR popStep setStep)
/-- what is none of the dicts stands -/
def Kp (G : Geo) (H H' : Hp) : Prop := ∀ b o, H b = some o → b ∉ G.ds → H' b = some o
theorem Kp.of {G : Geo} {H H' : Hp} (s : Same H H') : Kp G H H' := fun b o e _ => s b o e
theorem Kp.trans {G : Geo} {H H1 H2 : Hp} (s : Kp G H H1) (t : Kp G H1 H2) : Kp G H H2 := fun b o e n => t b o (s b o e n) n
theorem Kp.put {G : Geo} {H H' : Hp} (s : Kp G H H') {d : Addr} {o : HO} (h : d ∈ G.ds) : Kp G H (upd H' d o) := fun b x e n => by
  rw [upd_ne (fun z => n (by rw [z]; exact h))]
  exact s b x e n
theorem DcAt.isD {G : Geo} {ch : Chosen} {H : Hp} (f : DcAt G ch H) {d : Addr} (h : d ∈ G.ds) : ∃ row, H d = some (.dK (rowV row)) := by
  obtain ⟨q, hq⟩ := List.getElem?_of_mem h
  exact ⟨_, f.2 q d hq⟩
theorem Kp.keep {G : Geo} {ch : Chosen} {H H' : Hp} (s : Kp G H H') (f : DcAt G ch H) : Keep H H' := fun b o e n => s b o e fun z => by
  obtain ⟨row, hr⟩ := f.isD z
  rw [hr] at e
  exact n _ (Option.some.inj e).symm
theorem DcAt.put {G : Geo} {ch : Chosen} {H : Hp} (f : DcAt G ch H) (dn : G.ds.Nodup) {q : Nat} {d : Addr} (hd : G.ds[q]? = some d) (g : Row → Row) : DcAt G (ch.modify q g) (upd H d (.dK (rowV (g (ch.getD q []))))) := by
  refine ⟨by rw [List.length_modify]; exact f.1, fun i x hx => ?_⟩
  have hq : q < ch.length := by rw [f.1]; exact (List.getElem?_eq_some_iff.mp hd).1
  rw [MW.getD_modify _ _ _ _ hq]
  by_cases c : i = q
  · subst c
    rw [hd] at hx
    rw [if_pos rfl, ← Option.some.inj hx, upd_same]
  · rw [if_neg c, upd_ne]
    · exact f.2 i x hx
    · intro z
      subst z
      obtain ⟨h1, e1⟩ := List.getElem?_eq_some_iff.mp hx
      obtain ⟨h2, e2⟩ := List.getElem?_eq_some_iff.mp hd
      exact c ((List.getElem_inj dn).mp (e1.trans e2.symm))
theorem cut_one (xs : List V) : cutV xs (some 1) none = xs.drop 1 := by
  unfold cutV
  have e : HT.sIx xs.length 0 (some (1 : Int)) = min 1 xs.length := HT.sIx_nat xs.length 0 1
  rw [e, HT.sIx_none]
  rw [List.take_of_length_le (by rw [List.length_drop]; omega)]
  cases xs with
  | nil => rfl
  | cons a l => rw [Nat.min_eq_left (by simp)]
theorem steps_pairs {l : List Nat} {j : Nat} {t : List V} (h : (KZ.pairsOf (nvs l) ((nvs l).drop 1))[j]? = some t) : ∃ a b, (stepsR l)[j]? = some (a, b) ∧ t = [nv a, nv b] := by
  obtain ⟨x, y, hx, hy, rfl⟩ := KZ.pairs_get h
  obtain ⟨a, ha, rfl⟩ := nvs_get hx
  have e : (nvs l).drop 1 = nvs (l.drop 1) := by unfold nvs; rw [List.map_drop]
  rw [e] at hy
  obtain ⟨b, hb, rfl⟩ := nvs_get hy
  refine ⟨a, b, ?_, rfl⟩
  rw [MW.stepsR_zip, List.getElem?_zip_eq_some]
  exact ⟨ha, hb⟩
theorem steps_len (l : List Nat) : (stepsR l).length = (KZ.pairsOf (nvs l) ((nvs l).drop 1)).length := by
  rw [MW.stepsR_zip, KZ.pairs_len, List.length_zip, nvs_len, List.length_drop, List.length_drop, nvs_len]
theorem at_split {α : Type} {S : List α} {i : Nat} {x : α} (h : S[i]? = some x) : S = S.take i ++ x :: S.drop (i + 1) := by
  obtain ⟨hi, e⟩ := List.getElem?_eq_some_iff.mp h
  conv => lhs; rw [← List.take_append_drop i S]
  rw [List.drop_eq_getElem_cons hi, e]
theorem pOf_lt {I : Inst} {x : Nat} (h : MW.isPair I x = true) : MW.pOf I x < I.m := by
  unfold MW.isPair at h
  have h := of_decide_eq_true h
  have hfg : I.fg = I.m * (1 + I.k) := rfl
  rw [Nat.mul_add, Nat.mul_one] at hfg
  unfold MW.pOf
  have hk : 0 < I.k := by
    rcases Nat.eq_zero_or_pos I.k with z | z
    · rw [z, Nat.mul_zero] at hfg
      omega
    · exact z
  rw [Nat.div_lt_iff_lt_mul hk]
  omega
theorem drop1_len (l : Row) (k : Nat) : (MW.drop1 l k).length ≤ l.length := List.length_filter_le ..
theorem put1_len (l : Row) (k v : Nat) : (MW.put1 l k v).length ≤ l.length + 1 := by
  unfold MW.put1
  split
  · rw [List.length_map]; omega
  · simp
theorem short_pop {I : Inst} {ch : Chosen} {B : Nat} (h : ∀ q, (ch.getD q []).length ≤ B) (e : Nat × Nat) : ∀ q, ((popStep I ch e).getD q []).length ≤ B := by
  intro q
  unfold MW.popStep
  split
  · by_cases c : MW.pOf I e.2 < ch.length
    · rw [MW.getD_modify _ _ _ _ c]
      split
      · exact Nat.le_trans (drop1_len _ _) (h _)
      · exact h q
    · rw [MW.getD_modify_out _ _ _ _ c]
      exact h q
  · exact h q
theorem short_set {I : Inst} {ch : Chosen} {B : Nat} (h : ∀ q, (ch.getD q []).length ≤ B) (e : Nat × Nat) : ∀ q, ((setStep I ch e).getD q []).length ≤ B + 1 := by
  intro q
  unfold MW.setStep
  split
  · by_cases c : MW.pOf I e.1 < ch.length
    · rw [MW.getD_modify _ _ _ _ c]
      split
      · exact Nat.le_trans (put1_len _ _ _) (Nat.succ_le_succ (h _))
      · exact Nat.le_succ_of_le (h q)
    · rw [MW.getD_modify_out _ _ _ _ c]
      exact Nat.le_succ_of_le (h q)
  · exact Nat.le_succ_of_le (h q)
theorem row_short {I : Inst} (ok : I.Ok) {ch : Chosen} (h : MW.ChOk I ch) (q : Nat) : (ch.getD q []).length ≤ I.k := by
  have h1 := (h.nd q).length_le_of_subset (fun r hr => (MW.keys_sub ok h q r hr).1)
  rw [List.length_map] at h1
  exact h1
theorem way_short {I : Inst} {ch : Chosen} {p : Nat} {P : List MW.Nd} (w : MW.IsWay I ch p P) : (P.map (MW.enc I)).length ≤ I.sink + 1 := by
  have nd : (P.map (MW.enc I)).Nodup := List.pairwise_map.mpr (List.Pairwise.imp_of_mem (fun {a b} ha hb h e => h (MW.enc_inj (w.val a ha) (w.val b hb) e)) w.nd)
  have h1 : (P.map (MW.enc I)) ⊆ List.range (I.sink + 1) := fun x hx => by
    obtain ⟨v, hv, rfl⟩ := List.mem_map.mp hx
    exact List.mem_range.mpr (MW.enc_le (w.val v hv))
  have := nd.length_le_of_subset h1
  simpa using this
section
variable {P : Program} {w : World} {K : PySem.W.Frag} {mg : Str → Option Value} {base : Heap} {CC SC : Addr}
abbrev nGo : List Str := ["self", "way", "steps", "one", "other", "piece", "rack"]
theorem scGo : FnScope nGo ["self", "way"] (defScope (sFl 10)) := ⟨rfl, rfl, rfl, by decide +kernel, rfl, by decide +kernel, by decide +kernel⟩
def spGo (CC SC : Addr) : Sp := fun vs H Q _ => ∃ (G : Geo) (I : Inst) (ch : Chosen) (q : Nat) (l : List Nat) (wy : Addr), vs = [.ref G.s, .ref wy] ∧ FlowB CC SC G I H ∧ DcAt G ch H ∧ MW.ChOk I ch ∧ q < I.m ∧ theWay I ch q = some l ∧ H wy = some (.lst (nvs l)) ∧
  ∀ H', Kp G H H' → DcAt G (MW.go I ch l) H' → Q .non H'
theorem ok_go {f fA fB fC : Addr} {fd fdA fdB fdC : FuncData} (F : Fun K "go" "StockFlow.go" (sFl 10) f fd) (B : Blt mg) (T : FlT K SC) (TC : ClT K mg CC) (eP : MFn K SC "is_pair" fA fdA ["self", "node"]) (GP : FnOk P w K mg base CX0 1 fA fdA ["self", "node"] (spIs CC SC MW.isPair))
    (eE : MFn K SC "is_entry" fB fdB ["self", "node"]) (GE : FnOk P w K mg base CX0 1 fB fdB ["self", "node"] (spIs CC SC MW.isEntry)) (eT : MFn K SC "pair_told" fC fdC ["self", "node"]) (GT : FnOk P w K mg base CX0 1 fC fdC ["self", "node"] (spTold CC SC)) :
    FnOk P w K mg base CX0 2 f fd ["self", "way"] (spGo CC SC) := by
  refine F.ok scGo (fun vs H Q E h => ?_) (fun cdv A outer s H vs Q E hr h => ?_)
  · obtain ⟨G, I, ch, q, l, wy, rfl, _⟩ := h
    rfl
  · obtain ⟨G, I, ch, q, l, wy, rfl, b, dc, co, hq, hw, hwy, k⟩ := h
    have hu := hu_of hr
    refine ⟨_, pss_cons (ps_set (i := 2) scGo.nd rfl (Or.inl rfl) (KZ.pe_listZip rfl rfl B.list rfl B.zip (pa_cons (pv 1) (pa_cons (pe_slice sl_list (pv 1) (po_some pe_int) po_none) pa_nil))))
      (pss_cons (ps_for PassesOwn.never rfl (pi_list (pv 2)) (pg_tup rfl (pgs_cons (pg_name (i := 3) scGo.nd rfl (Or.inl rfl)) (pgs_cons (pg_name (i := 4) scGo.nd rfl (Or.inl rfl)) pgs_nil)))
        (pss_one (ps_join (ps_if (PW.pt (pw_and (pt_val (pe_meth (pv 0) T.cl eE.m GE hr eE.bi .nil pass0 (pa_cons (pv 3) pa_nil))) (pw_and1 (pt_val (pe_meth (pv 0) T.cl eP.m GP hr eP.bi .nil pass0 (pa_cons (pv 4) pa_nil))))))
          (pss_cons (ps_asg (pe_meth (pv 0) T.cl eT.m GT hr eT.bi .nil pass0 (pa_cons (pv 4) pa_nil)) (pg_tup (by rfl) (pgs_cons (pg_name (i := 5) scGo.nd rfl (Or.inl rfl)) (pgs_cons (pg_name (i := 6) scGo.nd rfl (Or.inl rfl)) pgs_nil))))
          (pss_one (ps_expr (pe_dpop1 (pe_ix ix_list (pe_fld (pv 0) rfl) (pv 5) (fun _ _ => rfl)) (pv 6) ⟨rfl, rfl, rfl, rfl⟩)))) pss_nil))))
      (pss_one (ps_for PassesOwn.never rfl (pi_list (pv 2)) (pg_tup rfl (pgs_cons (pg_name (i := 3) scGo.nd rfl (Or.inl rfl)) (pgs_cons (pg_name (i := 4) scGo.nd rfl (Or.inl rfl)) pgs_nil)))
        (pss_one (ps_join (ps_if (PW.pt (pw_and (pt_val (pe_meth (pv 0) T.cl eP.m GP hr eP.bi .nil pass0 (pa_cons (pv 3) pa_nil))) (pw_and1 (pt_val (pe_meth (pv 0) T.cl eE.m GE hr eE.bi .nil pass0 (pa_cons (pv 4) pa_nil))))))
          (pss_cons (ps_asg (pe_meth (pv 0) T.cl eT.m GT hr eT.bi .nil pass0 (pa_cons (pv 3) pa_nil)) (pg_tup (by rfl) (pgs_cons (pg_name (i := 5) scGo.nd rfl (Or.inl rfl)) (pgs_cons (pg_name (i := 6) scGo.nd rfl (Or.inl rfl)) pgs_nil))))
          (pss_one (ps_dput hu (pe_ix ix_list (pe_fld (pv 0) rfl) (pv 5) (fun _ _ => rfl)) (pv 6) (pe_op op_mod (pe_op op_sub (pv 4) (pe_fld (pv 0) rfl)) (pe_fld (pe_fld (pv 0) rfl) rfl)) rfl))) pss_nil)))))), ?_⟩
    obtain ⟨PW, rfl, isw⟩ := MW.way_nodes b.ok hq hw
    have wsh := way_short isw
    have sk := sink_le b
    let S := stepsR (PW.map (MW.enc I))
    refine ⟨_, rfl, _, rfl, _, rfl, _, _, rfl, SqL.of hwy, fun y hy => ?_⟩
    rw [cut_one]
    have zy : Same H (upd H y (.lst ((nvs (PW.map (MW.enc I))).drop 1))) := sNew hy
    refine ⟨wy, y, _, _, rfl, SqL.of (zy _ _ hwy), SqL.of upd_same, fun H2 p ts z2 hp nts hpl hlen hts => ?_⟩
    have z02 : Same H H2 := zy.trans z2
    have b2 := b.same z02
    have dc2 := dc.same z02
    have tsS : ts.length = S.length := by rw [hlen]; exact (steps_len _).symm
    have item : ∀ {i : Nat} {x : V}, (ts.map V.ref)[i]? = some x → ∃ t a b', x = .ref t ∧ S[i]? = some (a, b') ∧ H2 t = some (.tup [nv a, nv b']) := by
      intro i x hx
      rw [List.getElem?_map] at hx
      cases e : ts[i]? with
      | none => rw [e] at hx; cases hx
      | some t =>
        rw [e] at hx
        obtain ⟨l', hl', ht⟩ := hts i t e
        obtain ⟨a, b', hab, rfl⟩ := steps_pairs hl'
        exact ⟨t, a, b', (Option.some.inj hx).symm, hab, ht⟩
    let ci := fun i => (S.take i).foldl (popStep I) ch
    let cj := fun i => (S.take i).foldl (setStep I) (S.foldl (popStep I) ch)
    have csh : ∀ i, (∀ q, ((ci i).getD q []).length ≤ 8) := by
      intro i
      show ∀ q, (((S.take i).foldl (popStep I) ch).getD q []).length ≤ 8
      have : ∀ (L : List (Nat × Nat)) (c : Chosen), (∀ q, (c.getD q []).length ≤ 8) → ∀ q, ((L.foldl (popStep I) c).getD q []).length ≤ 8 := by
        intro L
        induction L with
        | nil => exact fun c h => h
        | cons e L ih => exact fun c h => ih _ (short_pop h e)
      exact this _ _ fun q => Nat.le_trans (row_short b.ok co q) b.k8
    have jsh : ∀ i, (∀ q, ((cj i).getD q []).length ≤ 8 + (S.take i).length) := by
      intro i
      have h0 : ∀ q, ((S.foldl (popStep I) ch).getD q []).length ≤ 8 := by
        have := csh S.length
        simpa [ci] using this
      have : ∀ (L : List (Nat × Nat)) (c : Chosen) (n : Nat), (∀ q, (c.getD q []).length ≤ n) → ∀ q, ((L.foldl (setStep I) c).getD q []).length ≤ n + L.length := by
        intro L
        induction L with
        | nil => exact fun c n h => h
        | cons e L ih => exact fun c n h q => by have := ih (setStep I c e) (n + 1) (short_set h e) q; rw [List.length_cons]; simp only [List.foldl_cons]; omega
      exact this _ _ _ h0
    have cst : ∀ {e : Nat × Nat} {i : Nat}, S[i]? = some e → ci (i + 1) = popStep I (ci i) e := fun {e i} h => by
      show (S.take (i + 1)).foldl (popStep I) ch = _
      rw [take_more h, List.foldl_append]
      rfl
    have jst : ∀ {e : Nat × Nat} {i : Nat}, S[i]? = some e → cj (i + 1) = setStep I (cj i) e := fun {e i} h => by
      show (S.take (i + 1)).foldl (setStep I) _ = _
      rw [take_more h, List.foldl_append]
      rfl
    have pl2 := fun {c : Chosen} {H' : Hp} (z : Kp G H2 H') => (z.keep dc2) p _ hpl (fun _ z => nomatch z)
    refine ⟨_, rfl, p, rfl, ⟨_, SqL.of hpl⟩, for_list (xs := ts.map V.ref) (fun i σ H' => ∃ v3 v4 v5 v6, σ = [some (.ref G.s), some (.ref wy), some (.ref p), v3, v4, v5, v6] ∧ Kp G H2 H' ∧ DcAt G (ci i) H')
      ⟨_, _, _, _, rfl, .of (fun _ _ e => e), dc2⟩ (fun i σ H' _ ⟨_, _, _, _, _, z, _⟩ => SqL.of (pl2 (c := ch) z)) ?_ ?_⟩
    · rintro i x σ H' hx ⟨v3, v4, v5, v6, rfl, z, dci⟩
      obtain ⟨t, a, o, rfl, hS, ht⟩ := item hx
      have kk := z.keep dc2
      have b3 := b2.keep kk
      have ht3 := kk _ _ ht (fun _ z => nomatch z)
      rw [cst hS]
      refine ⟨t, _, rfl, SqT.of ht3, rfl, _, _, rfl, _, _, rfl, rfl, ?_⟩
      refine ⟨fun σ' H'' => ∃ v3 v4 v5 v6, σ' = [some (.ref G.s), some (.ref wy), some (.ref p), v3, v4, v5, v6] ∧ Kp G H2 H'' ∧ DcAt G (popStep I (ci i) (a, o)) H'', ?_, fun _ _ h => h⟩
      refine ⟨_, rfl, G.s, G.dx, _, rfl, b3.ins, fl_none (by decide +kernel), _, rfl, G, I, a, rfl, b3, _, rfl, iteI (fun ha => ?_) (fun ha => ?_)⟩
      · refine ⟨_, rfl, G.s, G.dx, _, rfl, b3.ins, fl_none (by decide +kernel), _, rfl, G, I, o, rfl, b3, _, rfl, iteI (fun ho => ?_) (fun ho => ?_)⟩
        · obtain ⟨hpm, hlm, s0, hlook⟩ := MW.pop_there co.len isw (at_split hS) ha ho
          have hps : popStep I (ci i) (a, o) = (ci i).modify (MW.pOf I o) (fun l => MW.drop1 l (MW.rOf I o)) := by
            unfold MW.popStep
            rw [if_pos (by simp [ha, ho])]
          refine ⟨_, rfl, G.s, G.dx, _, rfl, b3.ins, fl_none (by decide +kernel), _, rfl, G, I, o, rfl, b3, ?_, fun r hr' => ⟨r, _, rfl, SqT.of upd_same, rfl, _, _, rfl, _, _, rfl, rfl, ?_⟩⟩
          · have := of_decide_eq_true (show decide (I.m ≤ o ∧ o < I.fg) = true from ho)
            exact this.1
          · have sr : Same H' (upd H' r (.tup [nv (MW.pOf I o), nv (MW.rOf I o)])) := sNew hr'
            have b4 := b3.same sr
            have dc4 := dci.same sr
            obtain ⟨d, hd⟩ : ∃ d, G.ds[MW.pOf I o]? = some d := ⟨G.ds[MW.pOf I o]'(by rw [b.dl]; exact hpm), List.getElem?_eq_getElem _⟩
            have hdd := dc4.2 _ _ hd
            have hd' : (G.ds.map V.ref)[MW.pOf I o]? = some (.ref d) := by rw [List.getElem?_map, hd]; rfl
            refine ⟨_, rfl, G.s, SC, G.dx, _, _, rfl, b4.ins, T.cl, T.nCh, fl_chosen, _, rfl, G.cl, _, _, _, rfl, rfl, SqL.of b4.cs, atI_nat hd', d, rfl, .inl ⟨_, .inl hdd⟩, _, rfl, _, Sum.inl (MW.rOf I o : Int), nv s0, hdd, rfl, ?_, _, _, _, _, rfl, ?_, ?_⟩
            · rw [rowV_val]
              have : ((ci i).getD (MW.pOf I o) []).lookup (MW.rOf I o) = some s0 := hlook
              rw [this]
              rfl
            · exact (z.trans (.of sr)).put (List.mem_of_getElem? hd)
            · rw [hps, rowV_drop]
              exact dc4.put b.dn hd fun l => MW.drop1 l (MW.rOf I o)
        · have hps : popStep I (ci i) (a, o) = ci i := by
            unfold MW.popStep
            rw [if_neg (by simp [ho])]
          rw [hps]
          exact ⟨_, _, _, _, rfl, z, dci⟩
      · have hps : popStep I (ci i) (a, o) = ci i := by
          unfold MW.popStep
          rw [if_neg (by simp [ha])]
        rw [hps]
        exact ⟨_, _, _, _, rfl, z, dci⟩
    rintro σ H5 ⟨v3, v4, v5, v6, rfl, z5, dc5⟩
    have e5 : ci (ts.map V.ref).length = S.foldl (popStep I) ch := by
      show (S.take _).foldl _ _ = _
      rw [List.length_map, tsS, List.take_length]
    rw [e5] at dc5
    refine ⟨_, rfl, p, rfl, ⟨_, SqL.of (pl2 (c := ch) z5)⟩, for_list (xs := ts.map V.ref) (fun i σ H' => ∃ v3 v4 v5 v6, σ = [some (.ref G.s), some (.ref wy), some (.ref p), v3, v4, v5, v6] ∧ Kp G H2 H' ∧ DcAt G (cj i) H')
      ⟨_, _, _, _, rfl, z5, dc5⟩ (fun i σ H' _ ⟨_, _, _, _, _, z, _⟩ => SqL.of (pl2 (c := ch) z)) ?_ ?_⟩
    · rintro i x σ H' hx ⟨v3, v4, v5, v6, rfl, z, dci⟩
      obtain ⟨t, a, o, rfl, hS, ht⟩ := item hx
      have kk := z.keep dc2
      have b3 := b2.keep kk
      have ht3 := kk _ _ ht (fun _ z => nomatch z)
      have iS : i < S.length := (List.getElem?_eq_some_iff.mp hS).1
      have Sl : S.length ≤ 53 := by
        have h1 : S.length ≤ (PW.map (MW.enc I)).length := by
          show (stepsR _).length ≤ _
          rw [MW.stepsR_zip, List.length_zip]
          omega
        omega
      rw [jst hS]
      refine ⟨t, _, rfl, SqT.of ht3, rfl, _, _, rfl, _, _, rfl, rfl, ?_⟩
      refine ⟨fun σ' H'' => ∃ v3 v4 v5 v6, σ' = [some (.ref G.s), some (.ref wy), some (.ref p), v3, v4, v5, v6] ∧ Kp G H2 H'' ∧ DcAt G (setStep I (cj i) (a, o)) H'', ?_, fun _ _ h => h⟩
      refine ⟨_, rfl, G.s, G.dx, _, rfl, b3.ins, fl_none (by decide +kernel), _, rfl, G, I, a, rfl, b3, _, rfl, iteI (fun ha => ?_) (fun ha => ?_)⟩
      · refine ⟨_, rfl, G.s, G.dx, _, rfl, b3.ins, fl_none (by decide +kernel), _, rfl, G, I, o, rfl, b3, _, rfl, iteI (fun ho => ?_) (fun ho => ?_)⟩
        · have hpm := pOf_lt ha
          have hoo := of_decide_eq_true (show decide (I.fg ≤ o ∧ o < I.sink) = true from ho)
          have hps : setStep I (cj i) (a, o) = (cj i).modify (MW.pOf I a) (fun l => MW.put1 l (MW.rOf I a) ((o - I.fg) % I.n)) := by
            unfold MW.setStep
            rw [if_pos (by simp [ha, ho])]
          refine ⟨_, rfl, G.s, G.dx, _, rfl, b3.ins, fl_none (by decide +kernel), _, rfl, G, I, a, rfl, b3, ?_, fun r hr' => ⟨r, _, rfl, SqT.of upd_same, rfl, _, _, rfl, _, _, rfl, rfl, ?_⟩⟩
          · have := of_decide_eq_true (show decide (I.m ≤ a ∧ a < I.fg) = true from ha)
            exact this.1
          · have sr : Same H' (upd H' r (.tup [nv (MW.pOf I a), nv (MW.rOf I a)])) := sNew hr'
            have b4 := b3.same sr
            have dc4 := dci.same sr
            obtain ⟨d, hd⟩ : ∃ d, G.ds[MW.pOf I a]? = some d := ⟨G.ds[MW.pOf I a]'(by rw [b.dl]; exact hpm), List.getElem?_eq_getElem _⟩
            have hdd := dc4.2 _ _ hd
            have hd' : (G.ds.map V.ref)[MW.pOf I a]? = some (.ref d) := by rw [List.getElem?_map, hd]; rfl
            have hnp : 0 < I.n := b.ok.hn
            refine ⟨_, rfl, _, rfl, G.s, SC, G.dx, _, _, rfl, b4.ins, T.cl, T.nFg, fl_fg, _, _, rfl, rfl, _, rfl, G.s, SC, G.dx, _, _, rfl, b4.ins, T.cl, T.nC, fl_cluster, G.c, CC, G.dc, _, _, rfl, b4.at_.ins, TC.cl, TC.nS, clF_count _ _ _ _, _, _, rfl, rfl, (by show (0 : Int) < ((I.n : Nat) : Int); omega), _, rfl, G.s, SC, G.dx, _, _, rfl, b4.ins, T.cl, T.nCh, fl_chosen, _, rfl, G.cl, _, _, _, rfl, rfl, SqL.of b4.cs, atI_nat hd', _, rfl, d, _, rfl, DPut.k (k := Sum.inl (MW.rOf I a : Int)) hdd ?_, _, _, _, _, rfl, ?_, ?_⟩
            · rw [rowV_len]
              have h1 := jsh i (MW.pOf I a)
              have h2 := List.length_take_le' i S
              exact small (by omega)
            · exact (z.trans (.of sr)).put (List.mem_of_getElem? hd)
            · have ev : V.int (((o : Int) - (I.fg : Int)) % ((I.n : Nat) : Int)) = nv ((o - I.fg) % I.n) := by
                show V.int _ = V.int _
                congr 1
                rw [← Int.ofNat_sub hoo.1]
                rfl
              have h1 := dc4.put b.dn hd fun l => MW.put1 l (MW.rOf I a) ((o - I.fg) % I.n)
              rw [hps]
              rw [← rowV_put, ← ev] at h1
              exact h1
        · have hps : setStep I (cj i) (a, o) = cj i := by
            unfold MW.setStep
            rw [if_neg (by simp [ho])]
          rw [hps]
          exact ⟨_, _, _, _, rfl, z, dci⟩
      · have hps : setStep I (cj i) (a, o) = cj i := by
          unfold MW.setStep
          rw [if_neg (by simp [ha])]
        rw [hps]
        exact ⟨_, _, _, _, rfl, z, dci⟩
    · rintro σ H6 ⟨v3, v4, v5, v6, rfl, z6, dc6⟩
      have e6 : cj (ts.map V.ref).length = MW.go I ch (PW.map (MW.enc I)) := by
        show (S.take _).foldl _ _ = _
        rw [List.length_map, tsS, List.take_length]
        rfl
      rw [e6] at dc6
      exact k H6 ((Kp.of z02).trans z6) dc6
end
end MV
end
/-! KFill -/
section
set_option Elab.async false
set_option linter.all false
set_option maxRecDepth 100000
set_option maxHeartbeats 4000000
/-! fill, placing -/
namespace MV
open PySem PyProof.Rows L2 KX
open PySem.Spec hiding Row
open MW (Inst Row Chosen Arc)
theorem boot_srt : bootBuiltins "sorted" = some (.builtin "sorted") := by first | boot_by_name | rfl | kernel_rfl
def rTupOf (K : PySem.W.Frag) : List V → Hp → VK → Prop := fun xs H Q => ∃ p ys, xs = [.ref p] ∧ ((SqL K H p ys ∧ ∀ l, H l = none → Q (.ref l) (upd H l (.tup ys))) ∨ (SqT K H p ys ∧ Q (.ref p) H))
/-! tuples of numbers -/
inductive LotsAt (H : Hp) : List V → List (List Nat) → Prop
  | nil : LotsAt H [] []
  | cons {t : Addr} {xs : List V} {l : List Nat} {L : List (List Nat)} (h : H t = some (.tup (nvs l))) (r : LotsAt H xs L) : LotsAt H (.ref t :: xs) (l :: L)
theorem LotsAt.same {H H' : Hp} {xs : List V} {L : List (List Nat)} (h : LotsAt H xs L) (s : Same H H') : LotsAt H' xs L := by
  induction h with
  | nil => exact .nil
  | cons h r ih => exact .cons (s _ _ h) ih
theorem LotsAt.snoc {H : Hp} {xs : List V} {L : List (List Nat)} (h : LotsAt H xs L) {t : Addr} {l : List Nat} (ht : H t = some (.tup (nvs l))) : LotsAt H (xs ++ [.ref t]) (L ++ [l]) := by
  induction h with
  | nil => exact .cons ht .nil
  | cons h r ih => exact .cons h ih
theorem LotsAt.len {H : Hp} {xs : List V} {L : List (List Nat)} (h : LotsAt H xs L) : xs.length = L.length := by
  induction h with
  | nil => rfl
  | cons h r ih => simp [ih]
theorem LotsAt.at {H : Hp} {xs : List V} {L : List (List Nat)} (h : LotsAt H xs L) : ∀ {i : Nat} {l : List Nat}, L[i]? = some l → ∃ t, xs[i]? = some (.ref t) ∧ H t = some (.tup (nvs l)) := by
  induction h with
  | nil => intro i x e; cases e
  | cons h r ih =>
    intro i x e
    cases i with
    | zero => rw [← Option.some.inj e]; exact ⟨_, rfl, h⟩
    | succ i => exact ih e
/-- sorted numbers -/
theorem ints_nat {ns : List Int} {l : List Nat} (hp : ns.Perm (l.map fun (x : Nat) => (x : Int))) (hs : ns.Pairwise (· ≤ ·)) : ns.map V.int = nvs (l.mergeSort (fun a b => decide (a ≤ b))) := by
  have h1 : ((l.mergeSort (fun a b => decide (a ≤ b))).map fun (x : Nat) => (x : Int)).Pairwise (· ≤ ·) := by
    refine List.pairwise_map.mpr ((List.pairwise_mergeSort (le := fun a b : Nat => decide (a ≤ b)) (fun a b c => by simp; omega) (fun a b => by simp; omega) l).imp fun {a b} h => ?_)
    have h := of_decide_eq_true h
    omega
  have h2 : ns = (l.mergeSort (fun a b => decide (a ≤ b))).map fun (x : Nat) => (x : Int) :=
    List.Perm.eq_of_pairwise (fun a b _ _ h1 h2 => Int.le_antisymm h1 h2) hs h1 (hp.trans ((List.mergeSort_perm l _).symm.map _))
  rw [h2]
  unfold nvs
  rw [List.map_map]
  rfl
theorem nvs_ints (l : List Nat) : nvs l = (l.map fun (x : Nat) => (x : Int)).map V.int := by
  unfold nvs
  rw [List.map_map]
  rfl
theorem fillTo_none {I : Inst} {p : Nat} (h : MW.fillTo I p = none) : ∀ d, MW.fillTo I (p + d) = none
  | 0 => h
  | d + 1 => by
    show (MW.fillTo I (p + d)).bind _ = none
    rw [fillTo_none h d]
    rfl
section
variable {P : Program} {w : World} {K : PySem.W.Frag} {mg : Str → Option Value} {base : Heap} {CC SC : Addr}
/-! ### placing -/
abbrev scPi : Scope := { kind := .function, names := [(".0", .local), ("racks", .cell), ("tuple", .globalImplicit), ("sorted", .globalImplicit)], isGenerator := false, isCoroutine := false }
abbrev nPl : List Str := ["self", "racks", "rack"]
theorem scPl : FnScope nPl ["self"] (defScope (sFl 12)) := ⟨rfl, rfl, rfl, by decide +kernel, rfl, by decide +kernel, by decide +kernel⟩
def spPl (CC SC : Addr) : Sp := fun vs H Q _ => ∃ (G : Geo) (I : Inst) (ch : Chosen), vs = [.ref G.s] ∧ FlowB CC SC G I H ∧ DcAt G ch H ∧ MW.ChOk I ch ∧
  ∀ H' p xs, Same H H' → H' p = some (.tup xs) → LotsAt H' xs (MW.placing ch) → Q (.ref p) H'
theorem ok_pl {f : Addr} {fd : FuncData} (F : Fun K "placing" "StockFlow.placing" (sFl 12) f fd) (B : Blt mg) (T : FlT K SC) : FnOk P w K mg base CX0 1 f fd ["self"] (spPl CC SC) := by
  refine F.ok scPl (fun vs H Q E h => ?_) (fun cdv A outer s H vs Q E hr h => ?_)
  · obtain ⟨G, I, ch, rfl, _⟩ := h
    rfl
  · obtain ⟨G, I, ch, rfl, b, dc, co, k⟩ := h
    have hu := hu_of hr
    refine ⟨_, pss_one (ps_ret (pe_t1 call_tuple_of B.tuple boot_tup (pe_lc (own := [("racks", 1)]) (g := gName 1) (tt := tYes) rfl scPl.nd (pi_list (pe_fld (pv 0) rfl)) (blkOk_by (N := nPl) (sc := defScope (sFl 12)) (by decide +kernel)) (fun _ _ _ _ _ => pg_name (i := 1) scPl.nd rfl (Or.inr rfl)) (fun _ _ _ _ _ => pts_nil)
      (fun _ _ _ _ _ => pe_t1 (r := rTupOf K) call_tuple_of B.tuple boot_tup (pe_b1 (r := rSortedI K) cr_sortedI B.sorted boot_srt (pe_lock (pe_lc (own := [("rack", 2)]) (g := gName 2) (tt := tYes) rfl scPl.nd (pi_keys (pv 1)) (blkOk_by (N := nPl) (sc := scPi) (by decide +kernel)) (fun _ _ _ _ _ => pg_name (i := 2) scPl.nd rfl (Or.inl rfl)) (fun _ _ _ _ _ => pts_nil)
        (fun _ _ _ _ _ => pe_dget hu (pv 1) (pv 2) (fun _ _ => rfl))))))))), ?_⟩
    refine ⟨_, rfl, G.s, SC, G.dx, _, _, rfl, b.ins, T.cl, T.nCh, fl_chosen, G.cl, rfl, ⟨_, SqL.of b.cs⟩, fun D hD => lc_list (xs := G.ds.map V.ref) (fun i H' => Same H (upd H' D (.lst [])) ∧ (∀ b o, H b = some o → H' b = some o) ∧ ∃ xs, H' D = some (.lst xs) ∧ LotsAt H' xs ((ch.take i).map MW.lotOf)) ⟨?_, ?_, [], upd_same, .nil⟩ (fun i H' _ z => SqL.of (z.2.1 _ _ b.cs)) ?_ ?_⟩
    · rw [upd_upd]
      exact sNew hD
    · exact sNew hD
    · rintro i x H' hx ⟨_, z, xs, hxs, hL⟩
      obtain ⟨d, hd, rfl⟩ := ds_at hx
      obtain ⟨row, hrow, hd0⟩ := dc.at hd
      have nd : (row.map (·.1)).Nodup := by
        have := co.nd i
        rwa [getD_of hrow] at this
      have rl : row.length ≤ 8 := by
        have := row_short b.ok co i
        rw [getD_of hrow] at this
        have := b.k8
        omega
      have il : i < ch.length := (List.getElem?_eq_some_iff.mp hrow).1
      have m4 := b.m4
      have cl : ch.length = I.m := co.len
      have hdH := z _ _ hd0
      have dD : D ≠ d := fun e => by rw [e, hd0] at hD; cases hD
      refine ⟨rfl, d, .dK (rowV row), hdH, trivial, fun od => ?_⟩
      let Hf := upd H' d (.frz od (.dK (rowV row)))
      refine ⟨_, rfl, d, od, rfl, .inl ⟨rowV row, upd_same, fun D2 hD2 => ?_⟩⟩
      have d2 : d ≠ D2 := ne_of_none upd_same hD2
      have h2n : H' D2 = none := by rw [upd_ne d2.symm] at hD2; exact hD2
      refine lc_keys (fun j H'' => Same Hf H'' ∧ H'' D2 = some (.lst (nvs ((row.take j).map (·.2))))) ⟨sNew hD2, upd_same⟩ (fun j H'' _ y => y.1 _ _ upd_same) ?_ ?_
      · rintro j kk v H'' hj ⟨y, hy⟩
        obtain ⟨r, t, hrt, rfl, rfl⟩ := rowV_at hj
        have hl : row.lookup r = some t := MW.lookup_of_mem nd (List.mem_of_getElem? hrt)
        have hv : valV (rowV row) (Sum.inl (r : Int)) = some (nv t) := by rw [rowV_val, hl]; rfl
        refine ⟨rfl, _, rfl, _, rfl, d, nv t, rfl, .inl ⟨rowV row, Sum.inl (r : Int), .inr ⟨od, y _ _ upd_same⟩, rfl, hv.symm⟩, _, hy, ?_, sUpd y hD2, ?_⟩
        · rw [nvs_len, List.length_map]
          have := List.length_take_le' j row
          exact small (by omega)
        · rw [upd_same, take_more hrt, List.map_append]
          unfold nvs
          rw [List.map_append]
          rfl
      · rintro H'' ⟨y, hy⟩
        rw [rowV_len, List.take_length] at hy
        refine ⟨y _ _ upd_same, D2, (row.map (·.2)).map (fun (x : Nat) => (x : Int)), rfl, SqL.of ?_, fun ns p hperm hsort hp => ?_⟩
        · rw [upd_ne d2.symm, hy, nvs_ints]
        have yy : Same H' (upd H'' d (.dK (rowV row))) := unlocked hdH y
        have el : ns.map V.int = nvs (MW.lotOf row) := ints_nat hperm hsort
        rw [el]
        refine ⟨p, _, rfl, .inl ⟨SqL.of upd_same, fun t ht => ?_⟩⟩
        have s1 : Same H' (upd (upd (upd H'' d (.dK (rowV row))) p (.lst (nvs (MW.lotOf row)))) t (.tup (nvs (MW.lotOf row)))) := (yy.trans (sNew hp)).trans (sNew ht)
        refine ⟨xs, s1 _ _ hxs, ?_, ?_, fun b o e => ?_, _, upd_same, ?_⟩
        · rw [hL.len, List.length_map]
          have := List.length_take_le' i ch
          exact small (by omega)
        · rw [upd_upd]
          intro b o e
          have bD : b ≠ D := fun z => by rw [z, hD] at e; cases e
          rw [upd_ne bD]
          exact s1 _ _ (z _ _ e)
        · have bD : b ≠ D := fun z => by rw [z, hD] at e; cases e
          rw [upd_ne bD]
          exact s1 _ _ (z _ _ e)
        · rw [take_more hrow, List.map_append]
          have tD : t ≠ D := fun z => by
            have := (yy.trans (sNew (o := .lst (nvs (MW.lotOf row))) hp)) _ _ hxs
            rw [← z, ht] at this
            cases this
          have k2 : ∀ {ys : List V} {L : List (List Nat)}, LotsAt H' ys L → LotsAt (upd (upd (upd (upd H'' d (.dK (rowV row))) p (.lst (nvs (MW.lotOf row)))) t (.tup (nvs (MW.lotOf row)))) D (.lst (xs ++ [.ref t]))) ys L := by
            intro ys L h
            induction h with
            | nil => exact .nil
            | cons h r ih =>
              refine .cons ?_ ih
              rw [upd_ne (ne_of h hxs (by intro z; cases z))]
              exact s1 _ _ h
          refine (k2 hL).snoc ?_
          rw [upd_ne tD, upd_same]
    · rintro H1 ⟨_, z, xs, hxs, hL⟩
      have e : ch.take (G.ds.map V.ref).length = ch := by rw [List.length_map, ← dc.1, List.take_length]
      rw [e] at hL
      refine ⟨D, xs, rfl, .inl ⟨SqL.of hxs, fun t ht => k _ t xs (fun b o e => ?_) upd_same (hL.same (sNew ht))⟩⟩
      exact sNew ht _ _ (z _ _ e)
/-! ### fill -/
abbrev nFi : List Str := ["self", "piece", "wish", "_", "way"]
theorem scFi : FnScope nFi ["self"] (defScope (sFl 11)) := ⟨rfl, rfl, rfl, by decide +kernel, rfl, by decide +kernel, by decide +kernel⟩
def spFi (CC SC : Addr) : Sp := fun vs H Q _ => ∃ (G : Geo) (I : Inst), vs = [.ref G.s] ∧ FlowB CC SC G I H ∧ DcAt G (I.W.map fun _ => []) H ∧
  (MW.fill I = none → ∀ H', Kp G H H' → Q (.bl false) H') ∧ ∀ ch, MW.fill I = some ch → ∀ H', Kp G H H' → DcAt G ch H' → Q (.bl true) H'
theorem ok_fi {f fW fG : Addr} {fd fdW fdG : FuncData} (F : Fun K "fill" "StockFlow.fill" (sFl 11) f fd) (B : Blt mg) (T : FlT K SC) (eW : MFn K SC "way_from" fW fdW ["self", "piece"]) (GW : FnOk P w K mg base CX0 5 fW fdW ["self", "piece"] (spWa CC SC))
    (eG : MFn K SC "go" fG fdG ["self", "way"]) (GG : FnOk P w K mg base CX0 2 fG fdG ["self", "way"] (spGo CC SC)) : FnOk P w K mg base CX0 6 f fd ["self"] (spFi CC SC) := by
  refine F.ok scFi (fun vs H Q E h => ?_) (fun cdv A outer s H vs Q E hr h => ?_)
  · obtain ⟨G, I, rfl, _⟩ := h
    rfl
  · obtain ⟨G, I, rfl, b, dc, kn, ks⟩ := h
    refine ⟨_, pss_cons (ps_for PassesOwn.never rfl (pi_enumT (by rfl) B.enumerate (pa_cons (pe_fld (pv 0) rfl) pa_nil)) (pg_tup rfl (pgs_cons (pg_name (i := 1) scFi.nd rfl (Or.inl rfl)) (pgs_cons (pg_name (i := 2) scFi.nd rfl (Or.inl rfl)) pgs_nil)))
        (pss_one (ps_for PassesOwn.never rfl (pi_range1 rfl B.range (pa_cons (pv 2) pa_nil)) (pg_name (i := 3) scFi.nd rfl (Or.inl rfl))
          (pss_cons (ps_set (i := 4) scFi.nd rfl (Or.inl rfl) (pe_meth (pv 0) T.cl eW.m GW hr eW.bi .nil pass0 (pa_cons (pv 1) pa_nil)))
          (pss_cons (ps_if (pt_cmpR op_isN (pv 4) pe_non (nomark _)) (pss_one (ps_ret pe_bl)) pss_nil)
          (pss_one (ps_expr (pe_meth (pv 0) T.cl eG.m GG (hr.mono (by decide)) eG.bi .nil pass0 (pa_cons (pv 4) pa_nil)))))))))
      (pss_one (ps_ret pe_bl)), ?_⟩
    have m4 := b.m4
    refine ⟨_, rfl, G.s, SC, G.dx, _, _, rfl, b.ins, T.cl, T.nW, fl_wishes, G.w, nvs I.W, rfl, SqT.of b.wi, for_enumT (xs := nvs I.W) (fun i σ H' => ∃ v1 v2 v3 v4 ch, σ = [some (.ref G.s), v1, v2, v3, v4] ∧ MW.fillTo I i = some ch ∧ Kp G H H' ∧ DcAt G ch H')
      ⟨_, _, _, _, _, rfl, rfl, .of (fun _ _ e => e), dc⟩ (fun i σ H' _ ⟨_, _, _, _, _, _, _, z, _⟩ => SqT.of (z.keep dc G.w _ b.wi (fun _ z => nomatch z))) ?_ ?_⟩
    · rintro i x U σ H' hx hn ⟨v1, v2, v3, v4, ch, rfl, hf, z, dci⟩
      obtain ⟨wi, hwi, rfl⟩ := nvs_get hx
      have him : i < I.m := (List.getElem?_eq_some_iff.mp hwi).1
      have ewi : I.wish i = wi := getD_of hwi
      have w3 := b.w3 wi (List.mem_of_getElem? hwi)
      have mid := (MW.fillTo_ok b.ok i (by omega)).2 ch hf
      have hnx : MW.fillTo I (i + 1) = MW.fillP I i wi ch := by
        rw [← ewi]
        show (MW.fillTo I i).bind _ = _
        rw [hf]
        rfl
      have z1 : Kp G H (upd H' U (.tup [.int (i : Nat), nv wi])) := z.trans (.of (sNew hn))
      have dc1 := dci.same (sNew (o := .tup [.int (i : Nat), nv wi]) hn)
      refine ⟨U, _, rfl, SqT.of upd_same, rfl, _, _, rfl, _, _, rfl, rfl, ?_⟩
      refine ⟨_, rfl, _, rfl, ?_, ?_, for_range (lo := 0) (n := wi) (fun j σ H'' => ∃ v3 v4 ch', σ = [some (.ref G.s), some (nv i), some (nv wi), v3, v4] ∧ j ≤ wi ∧ MW.fillTo I (i + 1) = MW.fillP I i (wi - j) ch' ∧ MW.ChOk I ch' ∧ (∀ t, t < I.n → MW.loadOf ch' t ≤ I.room t) ∧ Kp G H H'' ∧ DcAt G ch' H'')
        ⟨v3, v4, ch, rfl, Nat.zero_le _, hnx, mid.ok, mid.room, z1, dc1⟩ ?_ ?_⟩
      · show -(2 ^ 62) ≤ (wi : Int)
        omega
      · show (wi : Int) < 2 ^ 62
        omega
      · rintro j σ H'' hj ⟨v3', v4', ch', rfl, _, hfp, co, hro, z2, dc2⟩
        have b2 := b.keep (z2.keep dc)
        obtain ⟨r, hr'⟩ : ∃ r, wi - j = r + 1 := ⟨wi - j - 1, by omega⟩
        refine ⟨_, rfl, G.s, G.dx, _, rfl, b2.ins, fl_none (by decide +kernel), _, rfl, G, I, ch', i, rfl, b2, dc2, co, him, fun hw H3 s3 => ?_, fun l hw H3 p s3 hp => ?_⟩
        · refine ⟨_, rfl, rfl, _, rfl, iteT (kn ?_ H3 (z2.trans (.of s3)))⟩
          have e1 : MW.fillTo I (i + 1) = none := by
            rw [hfp, hr']
            unfold MW.fillP
            have hw' : MW.wayOf i (MW.arcs I ch') (I.sink + 1) I.sink = none := hw
            rw [hw']
          have := fillTo_none e1 (I.m - (i + 1))
          rw [show i + 1 + (I.m - (i + 1)) = I.m from by omega] at this
          exact this
        · refine ⟨_, rfl, rfl, _, rfl, iteF ?_⟩
          have b3 := b2.same s3
          have dc3 := dc2.same s3
          refine ⟨_, rfl, G.s, G.dx, _, rfl, b3.ins, fl_none (by decide +kernel), _, rfl, G, I, ch', i, l, p, rfl, b3, dc3, co, him, hw, hp, fun H4 z4 dc4 => ?_⟩
          obtain ⟨a1, a2, a3⟩ := MW.augment b.ok him co hro hw
          refine ⟨_, _, MW.go I ch' l, rfl, by omega, ?_, a1, a3, (z2.trans (.of s3)).trans z4, dc4⟩
          have hw' : MW.wayOf i (MW.arcs I ch') (I.sink + 1) I.sink = some l := hw
          rw [hfp, hr', show wi - (j + 1) = r from by omega]
          conv => lhs; unfold MW.fillP
          rw [hw']
      · rintro σ H4 ⟨v3', v4', ch', rfl, _, hfp, co, hro, z2, dc2⟩
        rw [Nat.sub_self] at hfp
        exact ⟨_, _, _, _, ch', rfl, hfp, z2, dc2⟩
    · rintro σ H3 ⟨v1, v2, v3, v4, ch, rfl, hf, z, dci⟩
      rw [nvs_len] at hf
      exact ks ch hf H3 z dci
end
end MV
end
/-! KInit -/
section
set_option Elab.async false
set_option linter.all false
set_option maxRecDepth 100000
set_option maxHeartbeats 4000000
/-! StockFlow.__init__ -/
namespace MV
open PySem PyProof.Rows L2 KX
open PySem.Spec hiding Row
open MW (Inst Row Chosen Arc)
theorem putF_new {f : Str} {v : V} (ns : List Str) : ∀ {fs : List (Str × V)}, fs.map (·.1) = ns → (ns.all fun g => !decide (g = f)) = true → putF f v fs = fs ++ [(f, v)] := by
  induction ns with
  | nil =>
    intro fs h _
    cases fs with
    | nil => rfl
    | cons a l => cases h
  | cons n ns ih =>
    intro fs h hn
    cases fs with
    | nil => cases h
    | cons a l =>
      obtain ⟨g, x⟩ := a
      simp only [List.map_cons, List.cons.injEq] at h
      obtain ⟨rfl, h⟩ := h
      simp only [List.all_cons, Bool.and_eq_true, Bool.not_eq_true', decide_eq_false_iff_not] at hn
      rw [put_past hn.1, ih h (by simpa using hn.2)]
      rfl
/-- all but what stands at p stands -/
def SB (p : Addr) (H H' : Hp) : Prop := ∀ b o, H b = some o → b ≠ p → H' b = some o
theorem SB.of {p : Addr} {H H' : Hp} (s : Same H H') : SB p H H' := fun b o e _ => s b o e
theorem SB.put {p : Addr} {H H' : Hp} (s : SB p H H') (o : HO) : SB p H (upd H' p o) := fun b x e n => by
  rw [upd_ne n]
  exact s b x e n
theorem SB.trans {p : Addr} {H H1 H2 : Hp} (s : SB p H H1) (t : SB p H1 H2) : SB p H H2 := fun b o e n => t b o (s b o e n) n
theorem ClAt.sb {CC p : Addr} {H H' : Hp} {c dc tr tm tt : Addr} {racks rooms rates : List Nat} (h : ClAt CC H c dc tr tm tt racks rooms rates) (s : SB p H H') (n1 : c ≠ p) (n2 : tr ≠ p) (n3 : tm ≠ p) (n4 : tt ≠ p) : ClAt CC H' c dc tr tm tt racks rooms rates :=
  ⟨s _ _ h.ins n1, s _ _ h.racks n2, s _ _ h.rooms n3, s _ _ h.rates n4⟩
def sortU (racks : List Nat) : List Nat := (MW.uniq racks).mergeSort (fun a b => decide (a ≤ b))
def instOf (racks rooms W : List Nat) : Inst := ⟨racks, rooms, W, sortU racks⟩
theorem instOf_ok {racks rooms rates W : List Nat} (h : ClOk racks rooms rates) : (instOf racks rooms W).Ok := by
  have p : (sortU racks).Perm (MW.uniq racks) := List.mergeSort_perm _ _
  exact ⟨p.nodup_iff.mpr (MW.uniq_nodup _), fun x => by show x ∈ sortU racks ↔ x ∈ racks; rw [p.mem_iff, MW.mem_uniq], h.lm, h.n1⟩
theorem uniq_short (racks : List Nat) : (MW.uniq racks).length ≤ racks.length :=
  (MW.uniq_nodup racks).length_le_of_subset fun x hx => MW.mem_uniq.mp hx
theorem sortU_len (racks : List Nat) : (sortU racks).length ≤ racks.length := by
  have p : (sortU racks).Perm (MW.uniq racks) := List.mergeSort_perm _ _
  rw [p.length_eq]
  exact uniq_short racks
def setV (l : List Nat) : List (Key × V) := l.map fun (x : Nat) => ((Sum.inl (x : Int) : Key), V.bl true)
theorem setV_put (l : List Nat) (x : Nat) : putK (setV l) (Sum.inl (x : Int)) (.bl true) = setV (MW.uniq1 l x) := by
  unfold putK MW.uniq1
  have e : ((setV l).any fun kv => decide (kv.1 = (Sum.inl (x : Int) : Key))) = decide (x ∈ l) := by
    rw [Bool.eq_iff_iff, List.any_eq_true]
    constructor
    · rintro ⟨kv, hkv, h⟩
      obtain ⟨y, hy, rfl⟩ := List.mem_map.mp hkv
      have : y = x := (key_iff y x).mp (of_decide_eq_true h)
      rw [← this]
      exact decide_eq_true hy
    · intro h
      exact ⟨_, List.mem_map_of_mem (of_decide_eq_true h), decide_eq_true rfl⟩
  rw [e]
  by_cases c : x ∈ l
  · rw [if_pos c, if_pos (decide_eq_true c)]
    unfold setV
    rw [List.map_map]
    refine List.map_congr_left fun y hy => ?_
    simp only [Function.comp]
    split <;> rfl
  · rw [if_neg c, if_neg (by simpa using c)]
    unfold setV
    rw [List.map_append]
    rfl
theorem uniq_more {l : List Nat} {i x : Nat} (h : l[i]? = some x) : MW.uniq (l.take (i + 1)) = MW.uniq1 (MW.uniq (l.take i)) x := by
  unfold MW.uniq
  rw [take_more h, List.foldl_append]
  rfl
section
variable {P : Program} {w : World} {K : PySem.W.Frag} {mg : Str → Option Value} {base : Heap} {CC SC : Addr}
abbrev nIn : List Str := ["self", "cluster", "wishes", "before", "gates", "_", "rack"]
theorem scIn : FnScope nIn ["self", "cluster", "wishes", "before", "gates"] (defScope (sFl 0)) := ⟨rfl, rfl, rfl, by decide +kernel, rfl, by decide +kernel, by decide +kernel⟩
def spIn (CC SC : Addr) : Sp := fun vs H Q _ => ∃ (p dx c dc tr tm tt wy bt : Addr) (racks rooms rates W : List Nat) (es : List Addr), vs = [.ref p, .ref c, .ref wy, .ref bt, .non] ∧ H p = some (.ins SC dx []) ∧ ClAt CC H c dc tr tm tt racks rooms rates ∧ ClOk racks rooms rates ∧
  H wy = some (.tup (nvs W)) ∧ W.length ≤ 4 ∧ (∀ x ∈ W, x ≤ 3) ∧ H bt = some (.tup (es.map .ref)) ∧ es.length = W.length ∧ (∀ e ∈ es, H e = some (.tup [])) ∧
  ∀ H' G, FlowB CC SC G (instOf racks rooms W) H' → DcAt G (W.map fun _ => []) H' → G.s = p → SB p H H' → (∀ d ∈ G.ds, H d = none) → Q .non H'
theorem ok_in {f : Addr} {fd : FuncData} (F : FunD K "__init__" "StockFlow.__init__" (defArgs (sFl 0)) (defBody (sFl 0)) (defScope (sFl 0)) [.non] [] f fd) (B : Blt mg) (T : FlT K SC) (TC : ClT K mg CC) :
    FnOk P w K mg base CX0 1 f fd ["self", "cluster", "wishes", "before", "gates"] (spIn CC SC) := by
  refine F.ok scIn (fun vs H Q E h => ?_) (fun cdv A outer s H vs Q E hr h => ?_)
  · obtain ⟨p, dx, c, dc, tr, tm, tt, wy, bt, racks, rooms, rates, W, es, rfl, _⟩ := h
    rfl
  · obtain ⟨p, dx, c, dc, tr, tm, tt, wy, bt, racks, rooms, rates, W, es, rfl, hp, cl, ok, hw, W4, W3, hb, el, he, k⟩ := h
    refine ⟨_, PSs.nox (pss_cons (ps_join (ps_fld (pv 0) (pv 1) rfl)) (pss_cons (ps_join (ps_fld (pv 0) (pv 2) rfl)) (pss_cons (ps_join (ps_fld (pv 0) (pv 3) rfl))
      (pss_cons (ps_join (ps_fld (pv 0) (pe_ifExp (pt_cmpR op_isN (pv 4) pe_non (nomark _)) (pe_lc (own := [("_", 5)]) (g := gName 5) (tt := tYes) rfl scIn.nd (pi_tup (pe_fld (pv 1) rfl)) (blkOk_by (N := nIn) (sc := defScope (sFl 0)) (by decide +kernel)) (fun _ _ _ _ _ => pg_name (i := 5) scIn.nd rfl (Or.inl rfl)) (fun _ _ _ _ _ => pts_nil)
        (fun _ _ _ _ _ => pe_op op_add (pe_b1 (r := rLen K) call_len B.len PySem.boot_len (pv 2)) pe_int)) (pv 4)) rfl))
      (pss_cons (ps_join (ps_fld (pv 0) (pe_b1 (call_sortedDI rfl) B.sorted boot_srt (pe_dc (own := [("rack", 6)]) (g := gName 6) (tt := tYes) rfl scIn.nd (pi_tup (pe_fld (pv 1) rfl)) (blkOk_by (N := nIn) (sc := defScope (sFl 0)) (by decide +kernel)) (fun _ _ _ _ _ => pg_name (i := 6) scIn.nd rfl (Or.inl rfl)) (fun _ _ _ _ _ => pts_nil) (fun _ _ _ _ _ => pv 6) (fun _ _ _ _ _ => pe_bl))) rfl))
      (pss_cons (ps_join (ps_fld (pv 0) (pe_lc (own := [("_", 5)]) (g := gName 5) (tt := tYes) rfl scIn.nd (pi_tup (pv 2)) (blkOk_by (N := nIn) (sc := defScope (sFl 0)) (by decide +kernel)) (fun _ _ _ _ _ => pg_name (i := 5) scIn.nd rfl (Or.inl rfl)) (fun _ _ _ _ _ => pts_nil) (fun _ _ _ _ _ => pe_dnewK)) rfl))
      (pss_cons (ps_join (ps_fld (pv 0) (pe_op op_mul (pe_len B (pv 2)) (pe_op op_add pe_int (pe_len B (pe_fld (pv 0) rfl)))) rfl))
      (pss_cons (ps_join (ps_fld (pv 0) (pe_op op_add (pe_fld (pv 0) rfl) (pe_fld (pv 1) rfl)) rfl))
      (pss_one (ps_fld (pv 0) (pe_op op_add (pe_fld (pv 0) rfl) (pe_fld (pv 1) rfl)) rfl)))))))))), ?_⟩
    let σ0 : L2.St := [some (.ref p), some (.ref c), some (.ref wy), some (.ref bt), some .non, none, none]
    have ncp : c ≠ p := fun z => by
      have h1 := cl.ins
      rw [z, hp] at h1
      injection h1 with h1
      injection h1 with _ _ h1
      cases h1
    have nr : tr ≠ p := ne_of cl.racks hp (fun e => nomatch e)
    have nm : tm ≠ p := ne_of cl.rooms hp (fun e => nomatch e)
    have nt : tt ≠ p := ne_of cl.rates hp (fun e => nomatch e)
    have nw : wy ≠ p := ne_of hw hp (fun e => nomatch e)
    have nb : bt ≠ p := ne_of hb hp (fun e => nomatch e)
    have n8 := ok.n8
    have n1 := ok.n1
    -- 1
    refine ⟨fun σ' H' => σ' = σ0 ∧ H' p = some (.ins SC dx [("cluster", .ref c)]) ∧ SB p H H', ⟨_, rfl, _, rfl, p, SC, dx, _, rfl, hp, T.cl, T.nC, (by show 0 < 1000; decide), rfl, upd_same, (SB.of fun _ _ e => e).put _⟩, ?_⟩
    rintro _ H1 ⟨rfl, p1, s1⟩
    -- 2
    refine ⟨fun σ' H' => σ' = σ0 ∧ H' p = some (.ins SC dx [("cluster", .ref c), ("wishes", .ref wy)]) ∧ SB p H H', ⟨_, rfl, _, rfl, p, SC, dx, _, rfl, p1, T.cl, T.nW, (by show 1 < 1000; decide), rfl, ?_, s1.put _⟩, ?_⟩
    · rw [upd_same, putF_new ["cluster"] rfl (by decide +kernel)]; rfl
    rintro _ H2 ⟨rfl, p2, s2⟩
    -- 3
    refine ⟨fun σ' H' => σ' = σ0 ∧ H' p = some (.ins SC dx [("cluster", .ref c), ("wishes", .ref wy), ("before", .ref bt)]) ∧ SB p H H', ⟨_, rfl, _, rfl, p, SC, dx, _, rfl, p2, T.cl, T.nB, (by show 2 < 1000; decide), rfl, ?_, s2.put _⟩, ?_⟩
    · rw [upd_same, putF_new ["cluster", "wishes"] rfl (by decide +kernel)]; rfl
    rintro _ H3 ⟨rfl, p3, s3⟩
    -- 4
    have cl3 := cl.sb s3 ncp nr nm nt
    refine ⟨fun σ' H' => σ' = σ0 ∧ ∃ g, H' p = some (.ins SC dx [("cluster", .ref c), ("wishes", .ref wy), ("before", .ref bt), ("gates", .ref g)]) ∧ SB p H H' ∧ g ≠ p ∧ H' g = some (.lst (racks.map fun _ => nv (W.length + 1))), ?_, ?_⟩
    · refine ⟨_, rfl, rfl, _, rfl, iteT ⟨_, rfl, c, CC, dc, _, _, rfl, cl3.ins, TC.cl, TC.nR, clF_racks _ _ _ _, tr, rfl, ⟨_, SqT.of cl3.racks⟩, fun D hD => lc_tup (xs := nvs racks) (fun i H' => Same H3 H' ∧ H' D = some (.lst ((racks.take i).map fun _ => nv (W.length + 1)))) ⟨sNew hD, upd_same⟩ (fun i H' _ z => SqT.of (z.1 _ _ cl3.racks)) ?_ ?_⟩⟩
      · rintro i x H' hx ⟨z, hD'⟩
        obtain ⟨n, hn, rfl⟩ := nvs_get hx
        refine ⟨rfl, _, rfl, _, (nvs W).length, rfl, .inr ⟨_, SqT.of (z _ _ (s3 _ _ hw nw)), rfl⟩, _, _, rfl, rfl, _, hD', ?_, sUpd z hD, ?_⟩
        · rw [List.length_map]
          have := List.length_take_le' i racks
          exact small (by omega)
        · rw [upd_same, take_more hn, List.map_append, nvs_len]
          rfl
      · rintro H' ⟨z, hD'⟩
        have Dp : D ≠ p := fun e => by rw [e, p3] at hD; cases hD
        rw [nvs_len, List.take_length] at hD'
        refine ⟨_, rfl, p, SC, dx, _, rfl, z _ _ p3, T.cl, T.nG, (by show 3 < 1000; decide), rfl, D, ?_, (s3.trans (.of z)).put _, Dp, ?_⟩
        · rw [upd_same, putF_new ["cluster", "wishes", "before"] rfl (by decide +kernel)]; rfl
        · rw [upd_ne Dp]; exact hD'
    rintro _ H4 ⟨rfl, g, p4, s4, gp, hg4⟩
    -- 5
    have cl4 := cl.sb s4 ncp nr nm nt
    refine ⟨fun σ' H' => σ' = σ0 ∧ ∃ r, H' p = some (.ins SC dx [("cluster", .ref c), ("wishes", .ref wy), ("before", .ref bt), ("gates", .ref g), ("racks", .ref r)]) ∧ SB p H H' ∧ SB p H4 H' ∧ r ≠ p ∧ H' r = some (.lst (nvs (sortU racks))), ?_, ?_⟩
    · refine ⟨_, rfl, c, CC, dc, _, _, rfl, cl4.ins, TC.cl, TC.nR, clF_racks _ _ _ _, tr, rfl, ⟨_, SqT.of cl4.racks⟩, fun D hD => dc_tup (xs := nvs racks) (fun i H' => Same H4 H' ∧ H' D = some (.dK (setV (MW.uniq (racks.take i))))) ⟨sNew hD, upd_same⟩ (fun i H' _ z => SqT.of (z.1 _ _ cl4.racks)) ?_ ?_⟩
      · rintro i x H' hx ⟨z, hD'⟩
        obtain ⟨n, hn, rfl⟩ := nvs_get hx
        refine ⟨rfl, _, rfl, _, Sum.inl (n : Int), rfl, hD', ?_, sUpd z hD, ?_⟩
        · show (setV _).length < sizeLine
          unfold setV
          rw [List.length_map]
          have h1 := uniq_short (racks.take i)
          have := List.length_take_le' i racks
          exact small (by omega)
        · rw [upd_same, setV_put, uniq_more hn]
      · rintro H' ⟨z, hD'⟩
        rw [nvs_len, List.take_length] at hD'
        refine ⟨D, setV (MW.uniq racks), (MW.uniq racks).map (fun (x : Nat) => (x : Int)), rfl, .inl hD', ?_, ?_, fun ys q hperm hsort hq => ?_⟩
        · unfold setV
          rw [List.map_map, List.map_map]
          rfl
        · rw [List.length_map]
          have := uniq_short racks
          omega
        · have eq : ys.map V.int = nvs (sortU racks) := ints_nat hperm hsort
          rw [eq]
          have z' : Same H4 (upd H' q (.lst (nvs (sortU racks)))) := sAdd z hq
          have qp : q ≠ p := fun e => by rw [e, z _ _ p4] at hq; cases hq
          refine ⟨_, rfl, p, SC, dx, _, rfl, z' _ _ p4, T.cl, T.nR, (by show 4 < 1000; decide), rfl, q, ?_, (s4.trans (.of z')).put _, (SB.of z').put _, qp, ?_⟩
          · rw [upd_same, putF_new ["cluster", "wishes", "before", "gates"] rfl (by decide +kernel)]; rfl
          · rw [upd_ne qp, upd_same]
    rintro _ H5 ⟨rfl, r, p5, s5, s45, rp, hr5⟩
    have hg5 := s45 _ _ hg4 gp
    -- 6
    have hw5 := s5 _ _ hw nw
    refine ⟨fun σ' H' => σ' = σ0 ∧ ∃ (l : Addr) (ds : List Addr), H' p = some (.ins SC dx [("cluster", .ref c), ("wishes", .ref wy), ("before", .ref bt), ("gates", .ref g), ("racks", .ref r), ("chosen", .ref l)]) ∧ SB p H H' ∧ SB p H5 H' ∧ l ≠ p ∧ H' l = some (.lst (ds.map .ref)) ∧ ds.length = W.length ∧ ds.Nodup ∧ p ∉ ds ∧ ∀ d ∈ ds, H5 d = none ∧ H' d = some (.dK []), ?_, ?_⟩
    · refine ⟨_, rfl, wy, rfl, ⟨_, SqT.of hw5⟩, fun D hD => lc_tup (xs := nvs W) (fun i H' => Same H5 H' ∧ ∃ ds : List Addr, H' D = some (.lst (ds.map .ref)) ∧ ds.length = i ∧ ds.Nodup ∧ ∀ d ∈ ds, H5 d = none ∧ H' d = some (.dK [])) ⟨sNew hD, [], upd_same, rfl, List.nodup_nil, fun d h => by cases h⟩ (fun i H' _ z => SqT.of (z.1 _ _ hw5)) ?_ ?_⟩
      · rintro i x H' hx ⟨z, ds, hD', hl, hnd, hds⟩
        have iW : i < W.length := by
          have := (List.getElem?_eq_some_iff.mp hx).1
          rwa [nvs_len] at this
        refine ⟨rfl, fun q hq => ⟨ds.map .ref, ?_, ?_, ?_, ds ++ [q], ?_, ?_, ?_, ?_⟩⟩
        · rw [upd_ne (ne_of_none hD' hq)]; exact hD'
        · rw [List.length_map, hl]
          exact small (by omega)
        · exact sUpd (sAdd z hq) hD
        · rw [upd_same, List.map_append]; rfl
        · rw [List.length_append, hl]; rfl
        · refine List.nodup_append.mpr ⟨hnd, by simp, fun a ha b hb e => ?_⟩
          have hb : b = q := by simpa using hb
          rw [← e] at hb
          rw [hb] at ha
          rw [(hds q ha).2] at hq
          cases hq
        · intro d hd
          have qD : q ≠ D := fun e => by rw [e, hD'] at hq; cases hq
          rcases List.mem_append.mp hd with hd | hd
          · have hdq : d ≠ q := fun e => by rw [← e, (hds d hd).2] at hq; cases hq
            have hdD : d ≠ D := ne_of (hds d hd).2 hD' (fun e => nomatch e)
            refine ⟨(hds d hd).1, ?_⟩
            rw [upd_ne hdD, upd_ne hdq]
            exact (hds d hd).2
          · have hd : d = q := by simpa using hd
            rw [hd, upd_ne qD, upd_same]
            refine ⟨?_, rfl⟩
            cases e : H5 q with
            | none => rfl
            | some o => exact absurd (z _ _ e) (by rw [hq]; intro z; cases z)
      · rintro H' ⟨z, ds, hD', hl, hnd, hds⟩
        rw [nvs_len] at hl
        have Dp : D ≠ p := fun e => by rw [e, p5] at hD; cases hD
        have pds : p ∉ ds := fun h => by have := (hds p h).1; rw [p5] at this; cases this
        refine ⟨_, rfl, p, SC, dx, _, rfl, z _ _ p5, T.cl, T.nCh, (by show 5 < 1000; decide), rfl, D, ds, ?_, (s5.trans (.of z)).put _, (SB.of z).put _, Dp, ?_, hl, hnd, pds, fun d hd => ⟨(hds d hd).1, ?_⟩⟩
        · rw [upd_same, putF_new ["cluster", "wishes", "before", "gates", "racks"] rfl (by decide +kernel)]; rfl
        · rw [upd_ne Dp]; exact hD'
        · rw [upd_ne (fun e => pds (by rw [← e]; exact hd))]
          exact (hds d hd).2
    rintro _ H6 ⟨rfl, l, ds, p6, s6, s56, lp, hl6, hdl, hdn, pds, hds6⟩
    have hg6 := s56 _ _ hg5 gp
    have hr6 := s56 _ _ hr5 rp
    let I := instOf racks rooms W
    have hk8 : I.k ≤ 8 := Nat.le_trans (sortU_len racks) n8
    -- 7
    refine ⟨fun σ' H' => σ' = σ0 ∧ H' p = some (.ins SC dx [("cluster", .ref c), ("wishes", .ref wy), ("before", .ref bt), ("gates", .ref g), ("racks", .ref r), ("chosen", .ref l), ("first_gate", nv I.fg)]) ∧ SB p H6 H', ?_, ?_⟩
    · refine ⟨_, rfl, _, (nvs W).length, rfl, .inr ⟨_, SqT.of (s6 _ _ hw nw), rfl⟩, _, rfl, p, SC, dx, _, .ref r, rfl, p6, T.cl, T.nR, ?_, _, (nvs (sortU racks)).length, rfl, .inl ⟨_, SqL.of hr6, rfl⟩, _, _, rfl, rfl, _, _, rfl, rfl, .inl ⟨by omega, by rw [nvs_len]; omega⟩, _, rfl, p, SC, dx, _, rfl, p6, T.cl, T.nFg, (by show 6 < 1000; decide), rfl, ?_, (SB.of fun _ _ e => e).put _⟩
      · exact (lk_past (by decide +kernel)).trans ((lk_past (by decide +kernel)).trans ((lk_past (by decide +kernel)).trans ((lk_past (by decide +kernel)).trans lk_here)))
      · rw [upd_same, putF_new ["cluster", "wishes", "before", "gates", "racks", "chosen"] rfl (by decide +kernel), nvs_len, nvs_len]
        have e : V.int ((W.length : Int) * (1 + ((sortU racks).length : Int))) = nv I.fg := by
          show V.int _ = V.int _
          congr 1
        show some (HO.ins SC dx (_ ++ [(("first_gate" : Str), V.int ((W.length : Int) * (1 + ((sortU racks).length : Int))))])) = _
        rw [e]
        rfl
    rintro _ H7 ⟨rfl, p7, s67⟩
    have s7 : SB p H H7 := s6.trans s67
    have cl7 := cl.sb s7 ncp nr nm nt
    -- 8
    refine ⟨fun σ' H' => σ' = σ0 ∧ H' p = some (.ins SC dx [("cluster", .ref c), ("wishes", .ref wy), ("before", .ref bt), ("gates", .ref g), ("racks", .ref r), ("chosen", .ref l), ("first_gate", nv I.fg), ("first_store", nv I.fs)]) ∧ SB p H6 H', ?_, ?_⟩
    · refine ⟨_, rfl, p, SC, dx, _, nv I.fg, rfl, p7, T.cl, T.nFg, ?_, _, rfl, c, CC, dc, _, _, rfl, cl7.ins, TC.cl, TC.nS, clF_count _ _ _ _, _, _, rfl, rfl, _, rfl, p, SC, dx, _, rfl, p7, T.cl, T.nFs, (by show 7 < 1000; decide), rfl, ?_, s67.put _⟩
      · exact (lk_past (by decide +kernel)).trans ((lk_past (by decide +kernel)).trans ((lk_past (by decide +kernel)).trans ((lk_past (by decide +kernel)).trans ((lk_past (by decide +kernel)).trans ((lk_past (by decide +kernel)).trans lk_here)))))
      · rw [upd_same, putF_new ["cluster", "wishes", "before", "gates", "racks", "chosen", "first_gate"] rfl (by decide +kernel)]
        have e : V.int ((I.fg : Int) + (racks.length : Int)) = nv I.fs := nat_add _ _
        show some (HO.ins SC dx (_ ++ [(("first_store" : Str), V.int ((I.fg : Int) + (racks.length : Int)))])) = _
        rw [e]
        rfl
    rintro _ H8 ⟨rfl, p8, s68⟩
    have s8 : SB p H H8 := s6.trans s68
    have cl8 := cl.sb s8 ncp nr nm nt
    -- 9
    refine ⟨_, rfl, p, SC, dx, _, nv I.fs, rfl, p8, T.cl, T.nFs, ?_, _, rfl, c, CC, dc, _, _, rfl, cl8.ins, TC.cl, TC.nS, clF_count _ _ _ _, _, _, rfl, rfl, _, rfl, p, SC, dx, _, rfl, p8, T.cl, T.nSk, (by show 8 < 1000; decide), ?_⟩
    · exact (lk_past (by decide +kernel)).trans ((lk_past (by decide +kernel)).trans ((lk_past (by decide +kernel)).trans ((lk_past (by decide +kernel)).trans ((lk_past (by decide +kernel)).trans ((lk_past (by decide +kernel)).trans ((lk_past (by decide +kernel)).trans lk_here))))))
    · rw [putF_new ["cluster", "wishes", "before", "gates", "racks", "chosen", "first_gate", "first_store"] rfl (by decide +kernel)]
      have e : V.int ((I.fs : Int) + (racks.length : Int)) = nv I.sink := nat_add _ _
      show Q .non (upd H8 p (.ins SC dx (_ ++ [(("sink" : Str), V.int ((I.fs : Int) + (racks.length : Int)))])))
      rw [e]
      let H9 := upd H8 p (.ins SC dx (flF c wy bt g r l I.fg I.fs I.sink))
      have s69 : SB p H6 H9 := s68.put _
      have s9 : SB p H H9 := s6.trans s69
      have cl9 := cl.sb s9 ncp nr nm nt
      refine k H9 ⟨p, dx, c, dc, tr, tm, tt, wy, bt, g, r, l, ds, es, rates⟩ ⟨instOf_ok ok, W4, n8, hk8, ok.racks, W3, upd_same, cl9, s9 _ _ hw nw, s9 _ _ hb nb, el, fun e he' => s9 _ _ (he e he') (ne_of (he e he') hp (fun e => nomatch e)), s69 _ _ hg6 gp, s69 _ _ hr6 rp, s69 _ _ hl6 lp, hdl, hdn⟩ ⟨?_, fun q d hd => ?_⟩ rfl s9 fun d hd => ?_
      · show (W.map _).length = ds.length
        rw [List.length_map, hdl]
      · have hm := List.mem_of_getElem? hd
        rw [MW.getD_nil]
        exact s69 _ _ (hds6 d hm).2 (fun e => pds (by rw [← e]; exact hm))
      · cases e : H d with
        | none => rfl
        | some o =>
          have hdp : d ≠ p := fun e => pds (by rw [← e]; exact hd)
          exact absurd (s5 _ _ e hdp) (by rw [(hds6 d hd).1]; intro z; cases z)
end
end MV
end
/-! KPlace -/
section
set_option Elab.async false
set_option linter.all false
set_option maxRecDepth 100000
set_option maxHeartbeats 4000000
/-! some_placing -/
namespace MV
open PySem PyProof.Rows L2 KX
open PySem.Spec hiding Row
open MW (Inst Row Chosen Arc)
theorem exSame {H1 : Hp} {a d : Addr} {o1 o2 o3 : HO} {fs : List (Str × V)} (ha : H1 a = none) (hd : (upd H1 a o1) d = none) : Same H1 (upd (del (upd (upd (upd H1 a o1) d o2) a o3) a) d (.xd fs)) := fun b o e => by
  have ba : b ≠ a := ne_of_none e ha
  have bd : b ≠ d := fun z => by rw [← z, upd_ne ba, e] at hd; cases hd
  rw [upd_ne bd, del_ne ba, upd_ne ba, upd_ne bd, upd_ne ba]
  exact e
/-- an own error class as the text has written it -/
structure ErT (P : Program) (w : World) (K : PySem.W.Frag) (mg : Str → Option Value) (base : Heap) (x fld vn : Str) (C fI : Addr) (fd : FuncData) : Prop where
  gC : mg x = some (.ref C)
  oex : OexC K C
  iC : PySem.W.findIn K (.ref C) "__init__" = some (some (.ref fI))
  tI : PySem.W.typeIn K (.ref fI) = some (.type "function")
  fn : FnOk P w K mg base CX0 2 fI fd ["self", vn] (KS.spSup C fld)
  bi : Binds K fd ["self", vn] []
abbrev sSP : Stmt := top 18
abbrev nSP : List Str := ["cluster", "wishes", "flow", "_"]
theorem scSP : FnScope nSP ["cluster", "wishes"] (defScope sSP) := ⟨rfl, rfl, rfl, by decide +kernel, rfl, by decide +kernel, by decide +kernel⟩
/-- no wishes -/
def BadW (H : Hp) (x : V) : Prop := (∃ (a : Addr) (xs : List V), x = .ref a ∧ H a = some (.tup xs) ∧ xs.length ≤ 1000 ∧ (∀ y ∈ xs, ∃ T, Kd H y T) ∧ (xs.all fun y => fromTo y 1 3) = false) ∨ ∃ T, Kd H x T ∧ T ≠ "tuple"
def spSP (CC CW CU : Addr) : Sp := fun vs H Q E => ∃ (c dc tr tm tt : Addr) (racks rooms rates : List Nat) (x : V), vs = [.ref c, x] ∧ ClAt CC H c dc tr tm tt racks rooms rates ∧ ClOk racks rooms rates ∧
  ((∃ (wy : Addr) (W : List Nat), x = .ref wy ∧ H wy = some (.tup (nvs W)) ∧ W.length ≤ 4 ∧ (∀ v ∈ W, 1 ≤ v ∧ v ≤ 3) ∧
    (MW.fill (instOf racks rooms W) = none → ∀ d H', Same H H' → H d = none → H' d = some (.xd [("what", .str "room")]) → E (.ref CU) (some d) H') ∧
    ∀ ch, MW.fill (instOf racks rooms W) = some ch → ∀ H' p xs, Same H H' → H' p = some (.tup xs) → LotsAt H' xs (MW.placing ch) → Q (.ref p) H') ∨
  (BadW H x ∧ ∀ d H', Same H H' → H d = none → H' d = some (.xd [("value", x)]) → E (.ref CW) (some d) H'))
section
variable {P : Program} {w : World} {K : PySem.W.Frag} {mg : Str → Option Value} {base : Heap} {CC SC : Addr}
theorem fresh_of {H H' : Hp} (s : Same H H') {x : Addr} (h : H' x = none) : H x = none := by
  cases c : H x with
  | none => rfl
  | some o => exact absurd (s _ _ c) (by rw [h]; intro z; cases z)
theorem ok_sp {f fW fI fF fP CW CU fIW fIU : Addr} {fd fdW fdI fdF fdP fdIW fdIU : FuncData} {ds : List Value} (F : Fun K "some_placing" "some_placing" sSP f fd) (B : Blt mg) (T : FlT K SC) (TC : ClT K mg CC)
    (cW : Fn K mg "is_wishes" fW fdW ["value"]) (GW : FnOk P w K mg base CX0 2 fW fdW ["value"] spWs) (eW : ErT P w K mg base "InvalidWishes" "value" "value" CW fIW fdIW) (eU : ErT P w K mg base "Undefined" "what" "what" CU fIU fdIU)
    (gS : mg "StockFlow" = some (.ref SC)) (M : Mk K SC fI) (GI : FnOk P w K mg base CX0 1 fI fdI ["self", "cluster", "wishes", "before", "gates"] (spIn CC SC)) (bI : Binds K fdI ["self", "cluster", "wishes", "before", "gates"] ds) (dI : Vals [.non] ds)
    (eF : MFn K SC "fill" fF fdF ["self"]) (GF : FnOk P w K mg base CX0 6 fF fdF ["self"] (spFi CC SC)) (eP : MFn K SC "placing" fP fdP ["self"]) (GP : FnOk P w K mg base CX0 1 fP fdP ["self"] (spPl CC SC)) :
    FnOk P w K mg base (L2.CX P w) 7 f fd ["cluster", "wishes"] (spSP CC CW CU) := by
  refine F.okX scSP (fun vs H Q E h => ?_) (fun cdv A outer s H vs Q E hr h => ?_)
  · obtain ⟨c, dc, tr, tm, tt, racks, rooms, rates, x, rfl, _⟩ := h
    rfl
  · obtain ⟨c, dc, tr, tm, tt, racks, rooms, rates, x, rfl, cl, ok, alt⟩ := h
    refine ⟨_, pss_cons (ps_if (pt_not (pt_val (pe_call GW (hr.mono (by decide)) (by rfl) cW.mg cW.kp cW.bi .nil pass0 (pa_cons (pv 1) pa_nil)))) (pss_one (ps_raise rfl (takes_of rfl rfl rfl rfl) (pmk_oex eW.oex eW.iC eW.tI eW.fn (hr.mono (by decide)) eW.bi .nil pass0 rfl eW.gC (pa_cons (pv 1) pa_nil)))) pss_nil)
      (pss_cons (ps_set (i := 2) scSP.nd rfl (Or.inl rfl) (pe_make M GI (hr.mono (by decide)) rfl gS bI dI pass0 (pa_cons (pv 0) (pa_cons (pv 1) (pa_cons (pe_t1 (r := rTupOf K) call_tuple_of B.tuple boot_tup (pe_lc (own := [("_", 3)]) (g := gName 3) (tt := tYes) rfl scSP.nd (pi_tup (pv 1)) (blkOk_by (N := nSP) (sc := defScope sSP) (by decide +kernel)) (fun _ _ _ _ _ => pg_name (i := 3) scSP.nd rfl (Or.inl rfl)) (fun _ _ _ _ _ => pts_nil) (fun _ _ _ _ _ => pe_tup pa_nil))) pa_nil)))))
      (pss_cons (ps_if (pt_not (pt_val (pe_meth0 (pv 2) T.cl eF.m GF hr eF.bi .nil pass0))) (pss_one (ps_raise rfl (takes_of rfl rfl rfl rfl) (pmk_oex eU.oex eU.iC eU.tI eU.fn (hr.mono (by decide)) eU.bi .nil pass0 rfl eU.gC (pa_cons pe_str pa_nil)))) pss_nil)
      (pss_one (ps_ret (pe_meth0 (pv 2) T.cl eP.m GP (hr.mono (by decide)) eP.bi .nil pass0))))), ?_⟩
    rcases alt with ⟨wy, W, rfl, hw, W4, W3, kn, ks⟩ | ⟨bad, kb⟩
    · have all1 : ((nvs W).all fun y => fromTo y 1 3) = true := by
        rw [List.all_eq_true]
        intro y hy
        obtain ⟨n, hn, rfl⟩ := List.mem_map.mp hy
        exact fromTo_nat (lo := 1) (hi := 3) (W3 n hn).1 (W3 n hn).2
      refine ⟨_, rfl, _, rfl, .inl ⟨wy, _, rfl, hw, by rw [nvs_len]; omega, fun y hy => ?_, fun H1 s1 => ?_⟩⟩
      · obtain ⟨n, hn, rfl⟩ := List.mem_map.mp hy
        exact ⟨_, .int _⟩
      · rw [all1]
        refine ⟨true, rfl, iteF ?_⟩
        have hw1 := s1 _ _ hw
        refine ⟨_, rfl, _, rfl, _, rfl, wy, rfl, ⟨_, SqT.of hw1⟩, fun D hD => lc_tup (xs := nvs W) (fun i H' => Same H1 H' ∧ ∃ es : List Addr, H' D = some (.lst (es.map .ref)) ∧ es.length = i ∧ ∀ e ∈ es, H' e = some (.tup [])) ⟨sNew hD, [], upd_same, rfl, fun e h => by cases h⟩ (fun i H' _ z => SqT.of (z.1 _ _ hw1)) ?_ ?_⟩
        · rintro i x H' hx ⟨z, es, hD', hl, hes⟩
          have iW : i < W.length := by
            have := (List.getElem?_eq_some_iff.mp hx).1
            rwa [nvs_len] at this
          refine ⟨rfl, (by show 0 ≤ sizeLine; decide), fun t ht => ⟨es.map .ref, ?_, ?_, sUpd (sAdd z ht) hD, es ++ [t], ?_, ?_, fun e he => ?_⟩⟩
          · rw [upd_ne (ne_of_none hD' ht)]; exact hD'
          · rw [List.length_map, hl]
            exact small (by omega)
          · rw [upd_same, List.map_append]; rfl
          · rw [List.length_append, hl]; rfl
          · have tD : t ≠ D := fun e => by rw [e, hD'] at ht; cases ht
            rcases List.mem_append.mp he with he | he
            · rw [upd_ne (ne_of (hes e he) hD' (fun e => nomatch e)), upd_ne (ne_of_none (hes e he) ht)]
              exact hes e he
            · have he : e = t := by simpa using he
              rw [he, upd_ne tD, upd_same]
        · rintro H2 ⟨z2, es, hD2, hl, hes⟩
          rw [nvs_len] at hl
          refine ⟨D, es.map .ref, rfl, .inl ⟨SqL.of hD2, fun bt hbt => ?_⟩⟩
          have s3 : Same H (upd H2 bt (.tup (es.map .ref))) := s1.trans (sAdd z2 hbt)
          intro p dx hp hdx hne
          let H3 := upd H2 bt (.tup (es.map .ref))
          have s4 : Same H3 (upd (upd H3 dx (.own p)) p (.ins SC dx [])) := (sNew hdx).trans (sNew (by rw [upd_ne hne.symm]; exact hp))
          have s04 := s3.trans s4
          refine ⟨p, dx, c, dc, tr, tm, tt, wy, bt, racks, rooms, rates, W, es, rfl, upd_same, cl.same s04, ok, s04 _ _ hw, W4, fun v hv => (W3 v hv).2, s4 _ _ upd_same, hl, fun e he => s4 _ _ (sNew hbt _ _ (hes e he)), fun H5 G fb dca gp s5 fr => ⟨rfl, ?_⟩⟩
          have p0 : H p = none := fresh_of s3 hp
          have s05 : Same H H5 := fun b o e => s5 b o (s04 _ _ e) (ne_of_none e p0)
          subst gp
          refine ⟨_, rfl, G.s, G.dx, _, rfl, fb.ins, fl_none (by decide +kernel), G, _, rfl, fb, dca, fun hf H6 z6 => ?_, fun ch hf H6 z6 dc6 => ?_⟩
          · have s06 : Same H H6 := fun b o e => z6 b o (s05 _ _ e) (fun hb => by have := fr b hb; rw [s04 _ _ e] at this; cases this)
            refine ⟨false, rfl, iteT ⟨(by show 1 ≤ 1000; decide), fun a ha => ⟨a, .str "room", rfl, upd_same, fun d hd hda => ⟨rfl, d, [("what", .str "room")], upd_same, ?_, ?_, ?_⟩⟩⟩⟩
            · rw [upd_ne hda, upd_same]
            · rw [upd_ne hda] at hd; exact hd
            · refine kn hf d _ (s06.trans (exSame ha hd)) ?_ upd_same
              rw [upd_ne hda] at hd
              exact fresh_of s06 hd
          · refine ⟨true, rfl, iteF ?_⟩
            have s06 : Same H H6 := fun b o e => z6 b o (s05 _ _ e) (fun hb => by have := fr b hb; rw [s04 _ _ e] at this; cases this)
            have fb6 := fb.keep (z6.keep dca)
            have co := (MW.fill_some (instOf_ok ok) hf).1.ok
            exact ⟨_, rfl, G.s, G.dx, _, rfl, fb6.ins, fl_none (by decide +kernel), G, _, ch, rfl, fb6, dc6, co, fun H7 q xs s7 hq hL => ks ch hf H7 q xs (s06.trans s7) hq hL⟩
    · have go1 : ∀ H1, Same H H1 → (fun σ H' => tMkO CW (KS.spSup CW "value") [] (tCons (tVar 1) tNil) σ H' fun cls d H'' => E cls d H'') (start nSP [.ref c, x]) H1 := fun H1 s1 => by
        refine ⟨_, rfl, (by show 1 ≤ 1000; decide), fun a ha => ⟨a, x, rfl, upd_same, fun d hd hda => ⟨rfl, d, [("value", x)], upd_same, ?_, ?_, ?_⟩⟩⟩
        · rw [upd_ne hda, upd_same]
        · rw [upd_ne hda] at hd; exact hd
        · refine kb d _ (s1.trans (exSame ha hd)) ?_ upd_same
          rw [upd_ne hda] at hd
          exact fresh_of s1 hd
      refine ⟨_, rfl, x, rfl, ?_⟩
      rcases bad with ⟨a, xs, rfl, ha, hl, hk, hall⟩ | ⟨T, hk, hT⟩
      · refine .inl ⟨a, xs, rfl, ha, hl, hk, fun H1 s1 => ?_⟩
        rw [hall]
        exact ⟨false, rfl, iteT (go1 H1 s1)⟩
      · exact .inr ⟨T, hk, hT, false, rfl, iteT (go1 H fun _ _ e => e)⟩
end
end MV
end
/-! KTold -/
section
set_option Elab.async false
set_option linter.all false
set_option maxRecDepth 100000
set_option maxHeartbeats 4000000
/-! the law's told -/
namespace MV
open PySem PyProof.Rows L2 KX
open PySem.Spec hiding Row
open MW (Inst Row Chosen Arc)
abbrev sTo : Stmt := top 33
abbrev nTo : List Str := ["_law_cluster_here", "_law_wishes_here", "e"]
theorem scTo : FnScope nTo ["_law_cluster_here", "_law_wishes_here"] (defScope sTo) := ⟨rfl, rfl, rfl, by decide +kernel, rfl, by decide +kernel, by decide +kernel⟩
def spTo (CC : Addr) : Sp := fun vs H Q _ => ∃ (c dc tr tm tt : Addr) (racks rooms rates : List Nat) (x : V), vs = [.ref c, x] ∧ ClAt CC H c dc tr tm tt racks rooms rates ∧ ClOk racks rooms rates ∧
  ((∃ (wy : Addr) (W : List Nat), x = .ref wy ∧ H wy = some (.tup (nvs W)) ∧ W.length ≤ 4 ∧ (∀ v ∈ W, 1 ≤ v ∧ v ≤ 3) ∧
    (MW.fill (instOf racks rooms W) = none → ∀ l H', Same H H' → H' l = some (.lst [.str "undefined", .str "room"]) → Q (.ref l) H') ∧
    ∀ ch, MW.fill (instOf racks rooms W) = some ch → ∀ H' l p xs, Same H H' → H' l = some (.lst [.str "fine", .ref p]) → H' p = some (.tup xs) → LotsAt H' xs (MW.placing ch) → Q (.ref l) H') ∨
  (BadW H x ∧ ∀ l H', Same H H' → H' l = some (.lst [.str "wishes", x]) → Q (.ref l) H'))
section
variable {P : Program} {w : World} {K : PySem.W.Frag} {mg : Str → Option Value} {base : Heap} {CC : Addr}
/-- what is seen of an own error where it is caught -/
structure CaT (K : PySem.W.Frag) (x fld : Str) (C : Addr) : Prop where
  xf : XfC K C
  no : PySem.W.findIn K (.ref C) fld = some none
  self : PySem.W.exmOne K (.ref C) (.ref C) = some true
theorem ok_to {f fS CW CU : Addr} {fd fdS : FuncData} (F : Fun K "_law_told" "_law_told" sTo f fd) (c : Fn K mg "some_placing" fS fdS ["cluster", "wishes"]) (G : FnOk P w K mg base (L2.CX P w) 7 fS fdS ["cluster", "wishes"] (spSP CC CW CU))
    (gW : mg "InvalidWishes" = some (.ref CW)) (gU : mg "Undefined" = some (.ref CU)) (tW : CaT K "InvalidWishes" "value" CW) (tU : CaT K "Undefined" "what" CU) (un : PySem.W.exmOne K (.ref CU) (.ref CW) = some false) :
    FnOk P w K mg base CX0 8 f fd ["_law_cluster_here", "_law_wishes_here"] (spTo CC) := by
  refine F.ok scTo (fun vs H Q E h => ?_) (fun cdv A outer s H vs Q E hr h => ?_)
  · obtain ⟨c, dc, tr, tm, tt, racks, rooms, rates, x, rfl, _⟩ := h
    rfl
  · obtain ⟨cc, dc, tr, tm, tt, racks, rooms, rates, x, rfl, cl, ok, alt⟩ := h
    refine ⟨_, pss_one (KT.ps_try_clauses rfl rfl scTo.nd takes0 (fun W pn xe tk _ => pss_one (ps_ret (pe_lst (pa_cons pe_str (pa_cons (pe_callS G hr rfl c.mg c.kp c.bi (fun σ => passAt tk σ) (pa_cons (pv 0) (pa_cons (pv 1) pa_nil))) pa_nil)))))
      (.cons (q := ⟨.ref CW, 2, _⟩) rfl rfl ⟨rfl, by decide, .inl gW⟩ (fun a oe cls d pn hz hf => pss_one (ps_ret (pe_lst (pa_cons pe_str (pa_cons (pe_xf tW.xf tW.no hz hf (pv 2)) pa_nil)))))
      (.cons (q := ⟨.ref CU, 2, _⟩) rfl rfl ⟨rfl, by decide, .inl gU⟩ (fun a oe cls d pn hz hf => pss_one (ps_ret (pe_lst (pa_cons pe_str (pa_cons (pe_xf tU.xf tU.no hz hf (pv 2)) pa_nil)))))
      .nil))), ?_⟩
    refine ⟨_, rfl, _, rfl, cc, dc, tr, tm, tt, racks, rooms, rates, x, rfl, cl, ok, ?_⟩
    rcases alt with ⟨wy, W, rfl, hw, W4, W3, kn, ks⟩ | ⟨bad, kb⟩
    · refine .inl ⟨wy, W, rfl, hw, W4, W3, fun hf d H' s1 hd he => ?_, fun ch hf H' p xs s1 hp hL => ?_⟩
      · refine ⟨false, un, fun q => Bool.noConfusion q, fun _ => ⟨true, tU.self, fun _ a ha => ?_, fun q => Bool.noConfusion q⟩⟩
        refine ⟨_, rfl, rfl, rfl, d, [("what", .str "room")], .str "room", rfl, he, lk_here, (by show 2 ≤ sizeLine; decide), fun l hl => kn hf l _ (sAdd s1 hl) upd_same⟩
      · refine ⟨(by show 2 ≤ sizeLine; decide), fun l hl => ks ch hf _ l p xs (sAdd s1 hl) upd_same (sNew hl _ _ hp) (hL.same (sNew hl))⟩
    · refine .inr ⟨bad, fun d H' s1 hd he => ⟨true, tW.self, fun _ a ha => ?_, fun q => Bool.noConfusion q⟩⟩
      exact ⟨_, rfl, rfl, rfl, d, [("value", x)], x, rfl, he, lk_here, (by show 2 ≤ sizeLine; decide), fun l hl => kb l _ (sAdd s1 hl) upd_same⟩
end
end MV
end
/-! KDraws -/
section
set_option Elab.async false
set_option linter.all false
set_option maxRecDepth 100000
set_option maxHeartbeats 4000000
/-! the law's draws -/
namespace MV
open PySem PyProof.Rows L2 KX
open PySem.Spec hiding Row
abbrev sDr : Stmt := top 20
abbrev nDr : List Str := ["_law_script", "_law_many", "_law_cell", "_law_rests", "_law_draws_here", "_law_k", "_law_at", "_law_mixed"]
theorem scDr : FnScope nDr ["_law_script", "_law_many"] (defScope sDr) := ⟨rfl, rfl, rfl, by decide +kernel, rfl, by decide +kernel, by decide +kernel⟩
abbrev ivs (l : List Int) : List V := l.map V.int
theorem boot_abs : bootBuiltins "abs" = some (.builtin "abs") := by first | boot_by_name | rfl | kernel_rfl
theorem ivs_get {l : List Int} {i : Nat} {x : V} (h : (ivs l)[i]? = some x) : ∃ n, l[i]? = some n ∧ x = .int n := by
  rw [List.getElem?_map] at h
  cases e : l[i]? with
  | none => rw [e] at h; cases h
  | some n => rw [e] at h; exact ⟨n, rfl, (Option.some.inj h).symm⟩
theorem ivs_at {l : List Int} {i : Nat} {n : Int} (h : l[i]? = some n) : (ivs l)[i]? = some (.int n) := by
  rw [List.getElem?_map, h]
  rfl
/-- a list of n numbers -/
def IL (e : Addr) (n : Nat) (H : Hp) : Prop := ∃ ds : List Int, H e = some (.lst (ivs ds)) ∧ ds.length = n
theorem IL.snoc {e : Addr} {n : Nat} {H : Hp} {ds : List Int} {x : Int} (h : ds.length = n) : IL e (n + 1) (upd H e (.lst (ivs ds ++ [.int x]))) := ⟨ds ++ [x], by rw [upd_same]; unfold ivs; rw [List.map_append]; rfl, by rw [List.length_append, h]; rfl⟩
theorem IL.set {e : Addr} {n j : Nat} {H : Hp} {ds : List Int} {x : Int} (h : ds.length = n) : IL e n (upd H e (.lst ((ivs ds).set j (.int x)))) := ⟨ds.set j x, by rw [upd_same]; unfold ivs; rw [List.map_set], by rw [List.length_set, h]⟩
theorem IL.past {e a : Addr} {n : Nat} {H : Hp} {o : HO} (h : IL e n H) (ne : e ≠ a) : IL e n (upd H a o) := by
  obtain ⟨ds, h1, h2⟩ := h
  exact ⟨ds, by rw [upd_ne ne]; exact h1, h2⟩
section
variable {P : Program} {w : World} {K : PySem.W.Frag} {mg : Str → Option Value} {base : Heap}
def spDr (K : PySem.W.Frag) : Sp := fun vs H Q _ => ∃ (a : Addr) (ns : List Int) (many : Nat), vs = [.ref a, nv many] ∧ SqL K H a (ivs ns) ∧ ns.length ≤ 1000 ∧ many ≤ 1000 ∧ ∀ H' p ds, Same H H' → H' p = some (.lst (ivs ds)) → Q (.ref p) H'
theorem ok_dr {f : Addr} {fd : FuncData} (F : Fun K "_law_draws" "_law_draws" sDr f fd) (B : Blt mg) : FnOk P w K mg base CX0 1 f fd ["_law_script", "_law_many"] (spDr K) := by
  refine F.ok scDr (fun vs H Q E h => ?_) (fun cdv A outer s H vs Q E hr h => ?_)
  · obtain ⟨a, ns, many, rfl, _⟩ := h
    rfl
  · obtain ⟨a, ns, many, rfl, hs, ns1, many1, k⟩ := h
    refine ⟨_, pss_cons (ps_setLc (i := 3) (own := [("_law_cell", 2)]) (g := gName 2) (tt := tYes) rfl scDr.nd rfl rfl (sw_true rfl rfl rfl (by decide +kernel)) (pi_list (pv 0)) (blkOk_by (N := nDr) (sc := defScope sDr) (by decide +kernel)) (fun _ _ _ _ _ => pg_name (i := 2) scDr.nd rfl (Or.inl rfl)) (fun _ _ _ _ _ => pts_nil)
        (fun _ _ _ _ _ => pe_b1 call_abs B.abs boot_abs (pe_t1 call_int1 B.int boot_int (pv 2))))
      (pss_cons (ps_set (i := 4) scDr.nd rfl (Or.inl rfl) (pe_lst pa_nil))
      (pss_cons (ps_for PassesOwn.never rfl (pi_range1 rfl B.range (pa_cons (pv 1) pa_nil)) (pg_name (i := 5) scDr.nd rfl (Or.inl rfl))
        (pss_cons (ps_set (i := 2) scDr.nd rfl (Or.inl rfl) (pv 5))
        (pss_cons (ps_join (ps_if (pt_cmpR op_gt (pe_len B (pv 0)) pe_int (nomark _))
          (pss_cons (ps_set (i := 6) scDr.nd rfl (Or.inl rfl) (pe_op op_mod (pv 5) (pe_len B (pv 0))))
          (pss_cons (ps_set (i := 2) scDr.nd rfl (Or.inl rfl) (pe_t1 call_int1 B.int boot_int (pe_ix ix_list (pv 0) (pv 6) (fun _ _ => rfl))))
          (pss_one (ps_if (PW.pt (pw_and (pt_cmpR op_ge (pv 2) (pe_op op_pow pe_int pe_int) (nomark _)) (pw_and1 (pt_cmpR op_gt (pe_ix ix_list (pv 3) (pv 6) (fun _ _ => rfl)) pe_int (nomark _)))))
            (pss_cons (ps_expr (pe_bm PySem.F.plainAttrs_list PySem.F.slot_list_append PySem.F.type_list_append mt_append (pv 4) (pa_cons (pe_op op_mod (pe_t1 call_int1 B.int boot_int (pe_ix ix_list (pv 3) (pv 6) (fun _ _ => rfl))) pe_int) pa_nil)))
            (pss_cons (ps_asg (pe_op op_fdiv (pe_t1 call_int1 B.int boot_int (pe_ix ix_list (pv 3) (pv 6) (fun _ _ => rfl))) pe_int) (pg_sub (pv 3) (pv 6) set_list))
            (pss_one ps_continue))) pss_nil)))) pss_nil))
        (pss_cons (ps_set (i := 7) scDr.nd rfl (Or.inl rfl) (pe_op op_mod (pe_t1 call_int1 B.int boot_int (pe_op op_add (pe_op op_add (pe_op op_mul (pv 2) pe_int) (pe_op op_mul (pv 5) pe_int)) pe_int)) pe_int))
        (pss_cons (ps_set (i := 7) scDr.nd rfl (Or.inl rfl) (pe_op op_mod (pe_t1 call_int1 B.int boot_int (pe_op op_add (pe_op op_fdiv (pe_op op_mul (pv 7) (pv 7)) pe_int) (pv 7))) pe_int))
        (pss_one (ps_expr (pe_bm PySem.F.plainAttrs_list PySem.F.slot_list_append PySem.F.type_list_append mt_append (pv 4) (pa_cons (pe_op op_mod (pe_t1 call_int1 B.int boot_int (pe_op op_add (pe_op op_fdiv (pe_op op_mul (pv 7) (pv 7)) pe_int) (pe_op op_mul (pv 5) pe_int))) pe_int) pa_nil)))))))))
      (pss_one (ps_ret (pv 4))))), ?_⟩
    refine ⟨_, rfl, a, rfl, ⟨_, hs⟩, fun D hD => lc_list (xs := ivs ns) (fun i H' => Same H H' ∧ ∃ rs, H' D = some (.lst (ivs rs)) ∧ rs.length = i) ⟨sNew hD, [], upd_same, rfl⟩ (fun i H' _ z => z.1.seq hs) ?_ ?_⟩
    · rintro i x H' hx ⟨z, rs, hD', hl⟩
      obtain ⟨n, hn, rfl⟩ := ivs_get hx
      have il := (List.getElem?_eq_some_iff.mp hn).1
      refine ⟨rfl, _, rfl, .inl ⟨_, rfl, _, rfl, _, hD', ?_, sUpd z hD, rs ++ [if n < 0 then -n else n], ?_, ?_⟩⟩
      · rw [List.length_map, hl]
        exact small (by omega)
      · rw [upd_same]
        unfold ivs
        rw [List.map_append]
        rfl
      · rw [List.length_append, hl]; rfl
    rintro H1 ⟨z1, rs, hD1, hrl⟩
    rw [List.length_map] at hrl
    refine ⟨(by decide), fun e he => ?_⟩
    have ne : e ≠ D := fun z => by rw [z, hD1] at he; cases he
    have h0e : H e = none := fresh_of z1 he
    refine ⟨_, rfl, _, rfl, ?_, ?_, for_range (lo := 0) (n := many) (fun i σ H' => ∃ v2 v5 v6 v7, σ = [some (.ref a), some (nv many), v2, some (.ref D), some (.ref e), v5, v6, v7] ∧ Same H H' ∧ IL e i H' ∧ IL D ns.length H') ⟨_, _, _, _, rfl, sUpd z1 h0e, ⟨[], upd_same, rfl⟩, rs, by rw [upd_ne ne.symm]; exact hD1, hrl⟩ ?_ ?_⟩
    · show -(2 ^ 62) ≤ (many : Int)
      omega
    · show (many : Int) < 2 ^ 62
      omega
    · rintro i σ H' hi ⟨v2, v5, v6, v7, rfl, z, ⟨ds, hds, hdl⟩, rs', hrs', hrl'⟩
      rw [Int.zero_add]
      have hs' := z.seq hs
      refine ⟨_, rfl, ?_⟩
      refine ⟨fun σ' H'' => ∃ (c : Int) (v6 : Option V), σ' = [some (.ref a), some (nv many), some (.int c), some (.ref D), some (.ref e), some (nv i), v6, v7] ∧ Same H H'' ∧ IL e i H'' ∧ IL D ns.length H'', ?_, ?_⟩
      · refine ⟨_, rfl, _, (ivs ns).length, rfl, .inl ⟨_, hs', rfl⟩, _, _, rfl, rfl, _, rfl, ?_⟩
        rw [List.length_map]
        by_cases c : 0 < ns.length
        · refine iteD (by show (ns.length : Int) > 0; omega) ?_
          have him : i % ns.length < ns.length := Nat.mod_lt _ c
          obtain ⟨x, hx⟩ : ∃ x, ns[i % ns.length]? = some x := ⟨ns[i % ns.length], List.getElem?_eq_getElem him⟩
          obtain ⟨y, hy⟩ : ∃ y, rs'[i % ns.length]? = some y := ⟨rs'[i % ns.length]'(by rw [hrl']; exact him), List.getElem?_eq_getElem _⟩
          refine ⟨_, rfl, _, rfl, _, (ivs ns).length, rfl, .inl ⟨_, hs', rfl⟩, _, _, rfl, rfl, (by rw [List.length_map]; omega), ?_⟩
          have eat : (((i : Nat) : Int) % (((ivs ns).length : Nat) : Int)) = ((i % ns.length : Nat) : Int) := by rw [List.length_map]; rfl
          have ev := congrArg V.int eat
          refine ⟨_, rfl, _, rfl, a, _, ((i % ns.length : Nat) : Int), _, rfl, ev, hs', atI_nat (ivs_at hx), .inl ⟨_, rfl, ?_⟩⟩
          refine ⟨_, rfl, _, _, rfl, rfl, ⟨by decide, by decide, by decide⟩, _, _, rfl, rfl, _, rfl, iteI (fun c1 => ?_) (fun c1 => ?_)⟩
          · refine ⟨_, rfl, _, rfl, D, _, ((i % ns.length : Nat) : Int), _, rfl, ev, SqL.of hrs', atI_nat (ivs_at hy), _, _, rfl, rfl, _, rfl, iteI (fun c2 => ?_) (fun c2 => ?_)⟩
            · refine ⟨_, rfl, .inl ⟨rfl, _, SqL.of hds⟩, _, rfl, _, rfl, D, _, ((i % ns.length : Nat) : Int), _, rfl, ev, SqL.of hrs', atI_nat (ivs_at hy), .inl ⟨_, rfl, _, _, rfl, rfl, (by show (0 : Int) < 1000003; decide), e, _, _, rfl, rfl, hds, ?_, ?_⟩⟩
              · rw [List.length_map, hdl]
                exact small (by omega)
              · have hrs2 : (upd H' e (.lst (ivs ds ++ [.int (y % 1000003)]))) D = some (.lst (ivs rs')) := by rw [upd_ne ne.symm]; exact hrs'
                refine ⟨_, rfl, _, rfl, D, _, ((i % ns.length : Nat) : Int), _, rfl, ev, SqL.of hrs2, atI_nat (ivs_at hy), .inl ⟨_, rfl, _, _, rfl, rfl, ⟨by decide, by decide⟩, _, rfl, _, rfl, D, _, ((i % ns.length : Nat) : Int), i % ns.length, rfl, ev, hrs2, ixN_nat (by rw [List.length_map, hrl']; exact him), ?_⟩⟩
                exact ⟨_, _, _, _, rfl, sUpd (sUpd z h0e) hD, (IL.snoc hdl).past ne, IL.set hrl'⟩
            · exact ⟨_, _, rfl, z, ⟨ds, hds, hdl⟩, rs', hrs', hrl'⟩
          · exact ⟨_, _, rfl, z, ⟨ds, hds, hdl⟩, rs', hrs', hrl'⟩
        · refine iteDn (by show ¬ (ns.length : Int) > 0; omega) ?_
          exact ⟨_, _, rfl, z, ⟨ds, hds, hdl⟩, rs', hrs', hrl'⟩
      · rintro σ' H'' ⟨c, v6', rfl, z2, ⟨ds2, hds2, hdl2⟩, il2⟩
        have bnd : ∀ x : Int, 0 ≤ x % 2147483647 ∧ x % 2147483647 < 2147483647 := fun x => ⟨Int.emod_nonneg _ (by decide), Int.emod_lt_of_pos _ (by decide)⟩
        have bnd2 : ∀ x : Int, 0 ≤ x % 2147483629 ∧ x % 2147483629 < 2147483629 := fun x => ⟨Int.emod_nonneg _ (by decide), Int.emod_lt_of_pos _ (by decide)⟩
        refine ⟨_, rfl, _, _, rfl, rfl, .inr ⟨by decide, by decide⟩, _, rfl, _, _, rfl, rfl, .inr ⟨by decide, by decide⟩, _, _, rfl, rfl, _, _, rfl, rfl, .inl ⟨_, rfl, _, _, rfl, rfl, (by show (0 : Int) < 2147483647; decide), ?_⟩⟩
        refine ⟨_, rfl, _, rfl, _, _, rfl, rfl, .inl ⟨by have := bnd (c * 48271 + (i : Int) * 69621 + 11); omega, by have := bnd (c * 48271 + (i : Int) * 69621 + 11); omega⟩, _, _, rfl, rfl, ⟨by decide, by decide⟩, _, rfl, _, _, rfl, rfl, .inl ⟨_, rfl, _, _, rfl, rfl, (by show (0 : Int) < 2147483629; decide), ?_⟩⟩
        generalize (c * 48271 + (i : Int) * 69621 + 11) % 2147483647 = m1
        refine ⟨_, rfl, .inl ⟨rfl, _, SqL.of hds2⟩, _, rfl, _, rfl, _, _, rfl, rfl, .inl ⟨by have := bnd2 (m1 * m1 / 4096 + m1); omega, by have := bnd2 (m1 * m1 / 4096 + m1); omega⟩, _, _, rfl, rfl, ⟨by decide, by decide⟩, _, rfl, _, _, rfl, rfl, .inr ⟨by decide, by decide⟩, _, _, rfl, rfl, .inl ⟨_, rfl, _, _, rfl, rfl, (by show (0 : Int) < 2147483629; decide), e, _, _, rfl, rfl, hds2, ?_, ?_⟩⟩
        · rw [List.length_map, hdl2]
          exact small (by omega)
        · exact ⟨_, _, _, _, rfl, sUpd z2 h0e, IL.snoc hdl2, il2.past ne.symm⟩
    · rintro σ H5 ⟨v2, v5, v6, v7, rfl, z, ⟨ds, hds, hdl⟩, _⟩
      exact ⟨_, rfl, k H5 e ds z hds⟩
end
end MV
end
/-! KTake -/
section
set_option Elab.async false
set_option linter.all false
set_option maxRecDepth 100000
set_option maxHeartbeats 4000000
/-! the law's hand: takes, clusters, wishes -/
namespace MV
open PySem PyProof.Rows L2 KX
open PySem.Spec hiding Row
abbrev sTk : Stmt := top 21
abbrev nTk : List Str := ["_law_hand", "_law_many", "_law_at", "_law_draws_here"]
theorem scTk : FnScope nTk ["_law_hand", "_law_many"] (defScope sTk) := ⟨rfl, rfl, rfl, by decide +kernel, rfl, by decide +kernel, by decide +kernel⟩
/-- the hand at h, its draws at d -/
def HandAt (h d : Addr) (ds : List Int) (H : Hp) : Prop := ∃ k : Nat, H h = some (.lst [.ref d, nv k]) ∧ H d = some (.lst (ivs ds)) ∧ h ≠ d
theorem HandAt.same {h d : Addr} {ds : List Int} {H H' : Hp} (a : HandAt h d ds H) (s : Same H H') : HandAt h d ds H' := by
  obtain ⟨k, h1, h2, h3⟩ := a
  exact ⟨k, s _ _ h1, s _ _ h2, h3⟩
theorem HandAt.put {h d : Addr} {ds : List Int} {H : Hp} (a : HandAt h d ds H) {p : Addr} {o : HO} (n1 : h ≠ p) (n2 : d ≠ p) : HandAt h d ds (upd H p o) := by
  obtain ⟨k, h1, h2, h3⟩ := a
  exact ⟨k, by rw [upd_ne n1]; exact h1, by rw [upd_ne n2]; exact h2, h3⟩
theorem SB.new {p x : Addr} {H H' : Hp} (s : SB p H H') {o : HO} (h : H x = none) : SB p H (upd H' x o) := fun b u e n => by
  rw [upd_ne (ne_of_none e h)]
  exact s b u e n
theorem SB.refl {p : Addr} {H : Hp} : SB p H H := fun _ _ e _ => e
theorem SB.fresh {p x : Addr} {H H' : Hp} (s : SB p H H') (h : H' x = none) (n : x ≠ p) : H x = none := by
  cases c : H x with
  | none => rfl
  | some o => exact absurd (s _ _ c n) (by rw [h]; intro z; cases z)
section
variable {P : Program} {w : World} {K : PySem.W.Frag} {mg : Str → Option Value} {base : Heap}
def spTk : Sp := fun vs H Q _ => ∃ (h d : Addr) (ds : List Int) (many : Nat), vs = [.ref h, nv many] ∧ 0 < many ∧ HandAt h d ds H ∧ ∀ r, r < many → ∀ H', HandAt h d ds H' → SB h H H' → (∀ x, H x = none → H' x = none) → Q (nv r) H'
theorem ok_tk {f : Addr} {fd : FuncData} (F : Fun K "_law_take" "_law_take" sTk f fd) (B : Blt mg) : FnOk P w K mg base CX0 1 f fd ["_law_hand", "_law_many"] spTk := by
  refine F.ok scTk (fun vs H Q E h => ?_) (fun cdv A outer s H vs Q E hr h => ?_)
  · obtain ⟨h, d, ds, many, rfl, _⟩ := h
    rfl
  · obtain ⟨h, d, ds, many, rfl, hm, ⟨k, h1, h2, h3⟩, q⟩ := h
    refine ⟨_, pss_cons (ps_set (i := 2) scTk.nd rfl (Or.inl rfl) (pe_ix ix_list (pv 0) pe_int (fun _ _ => rfl)))
      (pss_cons (ps_asg (pe_op op_add (pv 2) pe_int) (pg_sub (pv 0) pe_int set_list))
      (pss_cons (ps_set (i := 3) scTk.nd rfl (Or.inl rfl) (pe_ix ix_list (pv 0) pe_int (fun _ _ => rfl)))
      (pss_cons (ps_if (pt_cmpR op_ge (pv 2) (pe_len B (pv 3)) (nomark _)) (pss_one (ps_ret pe_int)) pss_nil)
      (pss_one (ps_ret (pe_op op_mod (pe_op op_fdiv (pe_t1 call_int1 B.int boot_int (pe_ix ix_list (pv 3) (pv 2) (fun _ _ => rfl))) pe_int) (pv 1))))))), ?_⟩
    refine ⟨_, rfl, h, _, 1, nv k, rfl, rfl, SqL.of h1, rfl, ?_⟩
    refine ⟨_, rfl, _, _, rfl, rfl, _, rfl, h, _, 1, 1, rfl, rfl, h1, rfl, ?_⟩
    have e : V.int ((k : Int) + 1) = nv (k + 1) := nat_add k 1
    have e1 : (upd H h (.lst ([V.ref d, nv k].set 1 (V.int ((k : Int) + 1))))) = upd H h (.lst [.ref d, nv (k + 1)]) := by rw [e]; rfl
    have hh : HandAt h d ds (upd H h (.lst [.ref d, nv (k + 1)])) := ⟨k + 1, upd_same, by rw [upd_ne h3.symm]; exact h2, h3⟩
    have fin : ∀ r, r < many → Q (nv r) (upd H h (.lst ([V.ref d, nv k].set 1 (V.int ((k : Int) + 1))))) := fun r hr' => by
      rw [e1]
      exact q r hr' _ hh (SB.refl.put _) fun x hx => by rw [upd_ne (fun z => by rw [z, h1] at hx; cases hx)]; exact hx
    have g1 : (upd H h (.lst ([V.ref d, nv k].set 1 (V.int ((k : Int) + 1))))) h = some (.lst [.ref d, nv (k + 1)]) := by rw [e1]; exact upd_same
    have g2 : (upd H h (.lst ([V.ref d, nv k].set 1 (V.int ((k : Int) + 1))))) d = some (.lst (ivs ds)) := by rw [upd_ne h3.symm]; exact h2
    refine ⟨_, rfl, h, _, 0, .ref d, rfl, rfl, SqL.of g1, rfl, ?_⟩
    refine ⟨_, rfl, _, rfl, _, (ivs ds).length, rfl, .inl ⟨_, SqL.of g2, rfl⟩, _, _, rfl, rfl, _, rfl, iteI (fun _ => fin 0 hm) (fun c => ?_)⟩
    have hk : k < ds.length := by
      have := of_decide_eq_false c
      rw [List.length_map] at this
      have this : ¬ ((k : Int) ≥ (ds.length : Int)) := this
      omega
    refine ⟨_, rfl, _, rfl, d, _, _, _, rfl, rfl, SqL.of g2, atI_nat (ivs_at (List.getElem?_eq_getElem hk)), .inl ⟨_, rfl, _, _, rfl, rfl, ⟨by decide, by decide⟩, _, rfl, _, _, rfl, rfl, (by show (0 : Int) < (many : Int); omega), ?_⟩⟩
    have b1 := Int.emod_nonneg (ds[k] / 7) (show (many : Int) ≠ 0 by omega)
    have b2 := Int.emod_lt_of_pos (ds[k] / 7) (show (0 : Int) < (many : Int) by omega)
    have e3 : V.int (ds[k] / 7 % (many : Int)) = nv (ds[k] / 7 % (many : Int)).toNat := by
      show V.int _ = V.int _
      congr 1
      omega
    have f3 := fin (ds[k] / 7 % (many : Int)).toNat (by omega)
    rw [← e3] at f3
    exact f3
/-- a list of n numbers between lo and hi at D -/
def NL (D : Addr) (n lo hi : Nat) (H : Hp) : Prop := ∃ l : List Nat, H D = some (.lst (nvs l)) ∧ l.length = n ∧ ∀ x ∈ l, lo ≤ x ∧ x ≤ hi
theorem NL.nil {D : Addr} {lo hi : Nat} {H : Hp} : NL D 0 lo hi (upd H D (.lst [])) := ⟨[], upd_same, rfl, fun x h => by cases h⟩
theorem NL.snoc {D : Addr} {n lo hi x : Nat} {H : Hp} {l : List Nat} (h : l.length = n) (hl : ∀ x ∈ l, lo ≤ x ∧ x ≤ hi) (h1 : lo ≤ x) (h2 : x ≤ hi) : NL D (n + 1) lo hi (upd H D (.lst (nvs l ++ [nv x]))) := by
  refine ⟨l ++ [x], by rw [upd_same]; unfold nvs; rw [List.map_append]; rfl, by rw [List.length_append, h]; rfl, fun y hy => ?_⟩
  rcases List.mem_append.mp hy with hy | hy
  · exact hl y hy
  · have hy : y = x := by simpa using hy
    rw [hy]
    exact ⟨h1, h2⟩
theorem pick (L : List Nat) {r : Nat} (h : r < L.length) : ∃ x, L[r]? = some x ∧ x ∈ L := ⟨L[r], List.getElem?_eq_getElem h, List.getElem_mem h⟩
theorem ne_hand {h d x : Addr} {ds : List Int} {H : Hp} (a : HandAt h d ds H) (hx : H x = none) : h ≠ x ∧ d ≠ x := by
  obtain ⟨k, h1, h2, _⟩ := a
  exact ⟨ne_of_none h1 hx, ne_of_none h2 hx⟩
/-! ### clusters -/
abbrev sLc : Stmt := top 24
abbrev nLc : List Str := ["_law_hand", "_law_most", "_law_many", "_law_racks", "_law_rooms", "_law_v"]
theorem scLc : FnScope nLc ["_law_hand", "_law_most"] (defScope sLc) := ⟨rfl, rfl, rfl, by decide +kernel, rfl, by decide +kernel, by decide +kernel⟩
def spLc : Sp := fun vs H Q _ => ∃ (h d : Addr) (ds : List Int) (most : Nat), vs = [.ref h, nv most] ∧ 1 ≤ most ∧ most ≤ 8 ∧ HandAt h d ds H ∧
  ∀ racks rooms rates, ClOk racks rooms rates → ∀ H' p t1 t2 t3, HandAt h d ds H' → SB h H H' → H' p = some (.tup [.ref t1, .ref t2, .ref t3]) → H' t1 = some (.tup (nvs racks)) → H' t2 = some (.tup (nvs rooms)) → H' t3 = some (.tup (nvs rates)) → Q (.ref p) H'
theorem ok_lc {f fT : Addr} {fd fdT : FuncData} (F : Fun K "_law_cluster" "_law_cluster" sLc f fd) (B : Blt mg) (c : Fn K mg "_law_take" fT fdT ["_law_hand", "_law_many"]) (G : FnOk P w K mg base CX0 1 fT fdT ["_law_hand", "_law_many"] spTk) :
    FnOk P w K mg base CX0 2 f fd ["_law_hand", "_law_most"] spLc := by
  refine F.ok scLc (fun vs H Q E h => ?_) (fun cdv A outer s H vs Q E hr h => ?_)
  · obtain ⟨h, d, ds, most, rfl, _⟩ := h
    rfl
  · obtain ⟨h, d, ds, most, rfl, m1, m8, hh, q⟩ := h
    refine ⟨_, pss_cons (ps_set (i := 2) scLc.nd rfl (Or.inl rfl) (pe_op op_add pe_int (pe_call G hr (by rfl) c.mg c.kp c.bi .nil pass0 (pa_cons (pv 0) (pa_cons (pv 1) pa_nil)))))
      (pss_cons (ps_set (i := 3) scLc.nd rfl (Or.inl rfl) (pe_t1 (r := rTupOf K) call_tuple_of B.tuple boot_tup (pe_lc (own := [("_law_v", 5)]) (g := gName 5) (tt := tYes) rfl scLc.nd (pi_range1 rfl B.range (pa_cons (pv 2) pa_nil)) (blkOk_by (N := nLc) (sc := defScope sLc) (by decide +kernel)) (fun _ _ _ _ _ => pg_name (i := 5) scLc.nd rfl (Or.inl rfl)) (fun _ _ _ _ _ => pts_nil)
        (fun _ _ _ _ _ => pe_ix (r := rIxL K) ix_list (pe_lst (pa_cons pe_int (pa_cons pe_int (pa_cons pe_int (pa_cons pe_int (pa_cons pe_int (pa_cons pe_int pa_nil))))))) (pe_call G hr (by rfl) c.mg c.kp c.bi .nil pass0 (pa_cons (pv 0) (pa_cons pe_int pa_nil))) (fun _ _ => rfl)))))
      (pss_cons (ps_set (i := 4) scLc.nd rfl (Or.inl rfl) (pe_t1 (r := rTupOf K) call_tuple_of B.tuple boot_tup (pe_lc (own := [("_law_v", 5)]) (g := gName 5) (tt := tYes) rfl scLc.nd (pi_range1 rfl B.range (pa_cons (pv 2) pa_nil)) (blkOk_by (N := nLc) (sc := defScope sLc) (by decide +kernel)) (fun _ _ _ _ _ => pg_name (i := 5) scLc.nd rfl (Or.inl rfl)) (fun _ _ _ _ _ => pts_nil)
        (fun _ _ _ _ _ => pe_ix (r := rIxL K) ix_list (pe_lst (pa_cons pe_int (pa_cons pe_int (pa_cons pe_int (pa_cons pe_int (pa_cons pe_int (pa_cons pe_int (pa_cons pe_int (pa_cons pe_int pa_nil))))))))) (pe_call G hr (by rfl) c.mg c.kp c.bi .nil pass0 (pa_cons (pv 0) (pa_cons pe_int pa_nil))) (fun _ _ => rfl)))))
      (pss_one (ps_ret (pe_tup (pa_cons (pv 3) (pa_cons (pv 4) (pa_cons (pe_t1 (r := rTupOf K) call_tuple_of B.tuple boot_tup (pe_lc (own := [("_law_v", 5)]) (g := gName 5) (tt := tYes) rfl scLc.nd (pi_range1 rfl B.range (pa_cons (pv 2) pa_nil)) (blkOk_by (N := nLc) (sc := defScope sLc) (by decide +kernel)) (fun _ _ _ _ _ => pg_name (i := 5) scLc.nd rfl (Or.inl rfl)) (fun _ _ _ _ _ => pts_nil)
        (fun _ _ _ _ _ => pe_op op_add pe_int (pe_call G hr (by rfl) c.mg c.kp c.bi .nil pass0 (pa_cons (pv 0) (pa_cons pe_int pa_nil)))))) pa_nil)))))))), ?_⟩
    refine ⟨_, rfl, _, rfl, h, d, ds, most, rfl, by omega, hh, fun r hr' H1 hh1 s1 _ => ⟨_, _, rfl, rfl, ?_⟩⟩
    have en : V.int (1 + (r : Int)) = nv (1 + r) := by show V.int _ = V.int _; rw [Int.natCast_add]; rfl
    let n := 1 + r
    have bl : -(2 ^ 62) ≤ ((n : Nat) : Int) := by omega
    have bh : ((n : Nat) : Int) < 2 ^ 62 := by omega
    -- racks
    refine ⟨_, rfl, ((n : Nat) : Int), congrArg (fun x : V => [x]) en, bl, bh, fun D hD => ?_⟩
    have nD := ne_hand hh1 hD
    refine lc_range (lo := 0) (n := n) (fun i H' => SB h H1 H' ∧ HandAt h d ds H' ∧ NL D i 0 99 H') ⟨SB.refl.new hD, hh1.put nD.1 nD.2, .nil⟩ ?_ ?_
    · rintro i H' hi ⟨z, hz, l, hl, hll, hle⟩
      refine ⟨rfl, (by show 6 ≤ sizeLine; decide), fun y hy => ?_⟩
      have ny := ne_hand hz hy
      have yD : D ≠ y := ne_of_none hl hy
      refine ⟨_, rfl, h, d, ds, 6, rfl, by decide, hz.put ny.1 ny.2, fun x hx H3 hh3 s3 _ => ?_⟩
      obtain ⟨v, hv, hvm⟩ := pick [0, 1, 2, 3, 1, 99] hx
      have hv9 : v ≤ 99 := (by decide : ∀ x ∈ [0, 1, 2, 3, 1, 99], x ≤ 99) v hvm
      refine ⟨y, nvs [0, 1, 2, 3, 1, 99], _, _, rfl, rfl, SqL.of (s3 _ _ upd_same ny.1.symm), atI_nat (nvs_at hv), nvs l, s3 _ _ (by rw [upd_ne yD]; exact hl) nD.1.symm, ?_, ?_, hh3.put nD.1 nD.2, NL.snoc hll hle (Nat.zero_le _) hv9⟩
      · rw [nvs_len, hll]; exact small (by omega)
      · exact ((z.new (z.fresh hy ny.1.symm)).trans s3).new hD
    rintro H2 ⟨z2, hh2, l1, hD2, hl1, hle1⟩
    refine ⟨D, _, rfl, .inl ⟨SqL.of hD2, fun t1 ht1 => ?_⟩⟩
    have nt1 := ne_hand hh2 ht1
    have z3 : SB h H (upd H2 t1 (.tup (nvs l1))) := (s1.trans z2).trans (SB.refl.new ht1)
    have hh3 := hh2.put (o := .tup (nvs l1)) nt1.1 nt1.2
    have t1a : (upd H2 t1 (.tup (nvs l1))) t1 = some (.tup (nvs l1)) := upd_same
    revert hh3 z3 t1a
    generalize upd H2 t1 (.tup (nvs l1)) = H3
    intro z3 hh3 t1a
    -- rooms
    refine ⟨_, rfl, ((n : Nat) : Int), congrArg (fun x : V => [x]) en, bl, bh, fun D' hD' => ?_⟩
    have nD' := ne_hand hh3 hD'
    refine lc_range (lo := 0) (n := n) (fun i H' => SB h H3 H' ∧ HandAt h d ds H' ∧ NL D' i 0 99 H') ⟨SB.refl.new hD', hh3.put nD'.1 nD'.2, .nil⟩ ?_ ?_
    · rintro i H' hi ⟨z, hz, l, hl, hll, hle⟩
      refine ⟨rfl, (by show 8 ≤ sizeLine; decide), fun y hy => ?_⟩
      have ny := ne_hand hz hy
      have yD : D' ≠ y := ne_of_none hl hy
      refine ⟨_, rfl, h, d, ds, 8, rfl, by decide, hz.put ny.1 ny.2, fun x hx H3 hh3 s3 _ => ?_⟩
      obtain ⟨v, hv, hvm⟩ := pick [0, 1, 2, 3, 1, 2, 99, 4] hx
      have hv9 : v ≤ 99 := (by decide : ∀ x ∈ [0, 1, 2, 3, 1, 2, 99, 4], x ≤ 99) v hvm
      refine ⟨y, nvs [0, 1, 2, 3, 1, 2, 99, 4], _, _, rfl, rfl, SqL.of (s3 _ _ upd_same ny.1.symm), atI_nat (nvs_at hv), nvs l, s3 _ _ (by rw [upd_ne yD]; exact hl) nD'.1.symm, ?_, ?_, hh3.put nD'.1 nD'.2, NL.snoc hll hle (Nat.zero_le _) hv9⟩
      · rw [nvs_len, hll]; exact small (by omega)
      · exact ((z.new (z.fresh hy ny.1.symm)).trans s3).new hD'
    rintro H4 ⟨z4, hh4, l2, hD4, hl2, hle2⟩
    refine ⟨D', _, rfl, .inl ⟨SqL.of hD4, fun t2 ht2 => ?_⟩⟩
    have nt2 := ne_hand hh4 ht2
    have z35 : SB h H3 (upd H4 t2 (.tup (nvs l2))) := z4.trans (SB.refl.new ht2)
    have hh5 := hh4.put (o := .tup (nvs l2)) nt2.1 nt2.2
    have t2a : (upd H4 t2 (.tup (nvs l2))) t2 = some (.tup (nvs l2)) := upd_same
    revert hh5 z35 t2a
    generalize upd H4 t2 (.tup (nvs l2)) = H5
    intro z35 hh5 t2a
    have z5 := z3.trans z35
    have ht : t1 ≠ h := nt1.1.symm
    have t1b := z35 _ _ t1a ht
    -- rates
    refine ⟨_, rfl, _, rfl, _, rfl, ((n : Nat) : Int), congrArg (fun x : V => [x]) en, bl, bh, fun D'' hD'' => ?_⟩
    have nD'' := ne_hand hh5 hD''
    refine lc_range (lo := 0) (n := n) (fun i H' => SB h H5 H' ∧ HandAt h d ds H' ∧ NL D'' i 1 8 H') ⟨SB.refl.new hD'', hh5.put nD''.1 nD''.2, .nil⟩ ?_ ?_
    · rintro i H' hi ⟨z, hz, l, hl, hll, hle⟩
      refine ⟨rfl, _, rfl, h, d, ds, 8, rfl, by decide, hz, fun x hx H3 hh3 s3 _ => ?_⟩
      have e : V.int (1 + (x : Int)) = nv (1 + x) := by show V.int _ = V.int _; rw [Int.natCast_add]; rfl
      have nl := NL.snoc (D := D'') (H := H3) (x := 1 + x) hll hle (by omega) (by omega)
      rw [← e] at nl
      refine ⟨_, _, rfl, rfl, nvs l, s3 _ _ hl nD''.1.symm, ?_, (z.trans s3).new hD'', hh3.put nD''.1 nD''.2, nl⟩
      rw [nvs_len, hll]; exact small (by omega)
    rintro H6 ⟨z6, hh6, l3, hD6, hl3, hle3⟩
    refine ⟨D'', _, rfl, .inl ⟨SqL.of hD6, fun t3 ht3 => ?_⟩⟩
    have nt3 := ne_hand hh6 ht3
    have z57 : SB h H5 (upd H6 t3 (.tup (nvs l3))) := z6.trans (SB.refl.new ht3)
    have hh7 := hh6.put (o := .tup (nvs l3)) nt3.1 nt3.2
    have t3a : (upd H6 t3 (.tup (nvs l3))) t3 = some (.tup (nvs l3)) := upd_same
    revert hh7 z57 t3a
    generalize upd H6 t3 (.tup (nvs l3)) = H7
    intro z57 hh7 t3a
    refine ⟨(by show 3 ≤ sizeLine; decide), fun p hp => ?_⟩
    have np := ne_hand hh7 hp
    have s7 : Same H7 (upd H7 p (.tup [.ref t1, .ref t2, .ref t3])) := sNew hp
    refine q l1 l2 l3 ⟨by omega, by omega, by omega, by omega, fun x hx => (hle1 x hx).2, fun x hx => (hle2 x hx).2, hle3⟩ _ p t1 t2 t3 (hh7.same s7) ((z5.trans z57).trans (.of s7)) upd_same (s7 _ _ (z57 _ _ t1b ht)) (s7 _ _ (z57 _ _ t2a nt2.1.symm)) (s7 _ _ t3a)
/-! ### wishes -/
abbrev sLw : Stmt := top 25
abbrev nLw : List Str := ["_law_hand", "_law_pieces", "_law_p"]
theorem scLw : FnScope nLw ["_law_hand", "_law_pieces"] (defScope sLw) := ⟨rfl, rfl, rfl, by decide +kernel, rfl, by decide +kernel, by decide +kernel⟩
def spLw : Sp := fun vs H Q _ => ∃ (h d : Addr) (ds : List Int) (n : Nat), vs = [.ref h, nv n] ∧ n ≤ 4 ∧ HandAt h d ds H ∧
  ∀ W : List Nat, W.length ≤ 4 → (∀ v ∈ W, 1 ≤ v ∧ v ≤ 3) → ∀ H' p, HandAt h d ds H' → SB h H H' → H' p = some (.tup (nvs W)) → Q (.ref p) H'
theorem ok_lw {f fT : Addr} {fd fdT : FuncData} (F : Fun K "_law_wishes" "_law_wishes" sLw f fd) (B : Blt mg) (c : Fn K mg "_law_take" fT fdT ["_law_hand", "_law_many"]) (G : FnOk P w K mg base CX0 1 fT fdT ["_law_hand", "_law_many"] spTk) :
    FnOk P w K mg base CX0 2 f fd ["_law_hand", "_law_pieces"] spLw := by
  refine F.ok scLw (fun vs H Q E h => ?_) (fun cdv A outer s H vs Q E hr h => ?_)
  · obtain ⟨h, d, ds, n, rfl, _⟩ := h
    rfl
  · obtain ⟨h, d, ds, n, rfl, n4, hh, q⟩ := h
    refine ⟨_, pss_one (ps_ret (pe_t1 (r := rTupOf K) call_tuple_of B.tuple boot_tup (pe_lc (own := [("_law_p", 2)]) (g := gName 2) (tt := tYes) rfl scLw.nd (pi_range1 rfl B.range (pa_cons (pv 1) pa_nil)) (blkOk_by (N := nLw) (sc := defScope sLw) (by decide +kernel)) (fun _ _ _ _ _ => pg_name (i := 2) scLw.nd rfl (Or.inl rfl)) (fun _ _ _ _ _ => pts_nil)
        (fun _ _ _ _ _ => pe_op op_add pe_int (pe_call G hr (by rfl) c.mg c.kp c.bi .nil pass0 (pa_cons (pv 0) (pa_cons (pe_ix (r := rIxL K) ix_list (pe_lst (pa_cons pe_int (pa_cons pe_int pa_nil))) (pe_call G hr (by rfl) c.mg c.kp c.bi .nil pass0 (pa_cons (pv 0) (pa_cons pe_int pa_nil))) (fun _ _ => rfl)) pa_nil))))))), ?_⟩
    refine ⟨_, rfl, _, rfl, (by omega), (by omega), fun D hD => ?_⟩
    have nD := ne_hand hh hD
    refine lc_range (lo := 0) (n := n) (fun i H' => SB h H H' ∧ HandAt h d ds H' ∧ NL D i 1 3 H') ⟨SB.refl.new hD, hh.put nD.1 nD.2, .nil⟩ ?_ ?_
    · rintro i H' hi ⟨z, hz, l, hl, hll, hle⟩
      refine ⟨rfl, _, rfl, (by show 2 ≤ sizeLine; decide), fun y hy => ?_⟩
      have ny := ne_hand hz hy
      have yD : D ≠ y := ne_of_none hl hy
      refine ⟨_, rfl, h, d, ds, 2, rfl, by decide, hz.put ny.1 ny.2, fun x hx H3 hh3 s3 _ => ?_⟩
      obtain ⟨v, hv, hvm⟩ := pick [3, 2] hx
      have hv9 : 1 ≤ v ∧ v ≤ 3 := (by decide : ∀ x ∈ [3, 2], 1 ≤ x ∧ x ≤ 3) v hvm
      refine ⟨y, nvs [3, 2], _, _, rfl, rfl, SqL.of (s3 _ _ upd_same ny.1.symm), atI_nat (nvs_at hv), h, d, ds, v, rfl, by omega, hh3, fun u hu H4 hh4 s4 _ => ?_⟩
      have e : V.int (1 + (u : Int)) = nv (1 + u) := by show V.int _ = V.int _; rw [Int.natCast_add]; rfl
      have nl := NL.snoc (D := D) (H := H4) (x := 1 + u) hll hle (by omega) (by omega)
      rw [← e] at nl
      have z34 := s3.trans s4
      refine ⟨_, _, rfl, rfl, nvs l, z34 _ _ (by rw [upd_ne yD]; exact hl) nD.1.symm, ?_, ((z.new (z.fresh hy ny.1.symm)).trans z34).new hD, hh4.put nD.1 nD.2, nl⟩
      rw [nvs_len, hll]; exact small (by omega)
    rintro H2 ⟨z2, hh2, l, hD2, hl, hle⟩
    refine ⟨D, _, rfl, .inl ⟨SqL.of hD2, fun t ht => ?_⟩⟩
    have nt := ne_hand hh2 ht
    exact q l (by omega) hle _ t (hh2.put nt.1 nt.2) (z2.trans (SB.refl.new ht)) upd_same
end
end MV
end
/-! KLots -/
section
set_option Elab.async false
set_option linter.all false
set_option maxRecDepth 100000
set_option maxHeartbeats 4000000
/-! the law's lots -/
namespace MV
open PySem PyProof.Rows L2 KX
open PySem.Spec hiding Row
open MW (Inst Row Chosen)
theorem boot_sumB : bootBuiltins "sum" = some (.builtin "sum") := by first | boot_by_name | rfl | kernel_rfl
theorem boot_maxB : bootBuiltins "max" = some (.builtin "max") := by first | boot_by_name | rfl | kernel_rfl
theorem boot_minB : bootBuiltins "min" = some (.builtin "min") := by first | boot_by_name | rfl | kernel_rfl
theorem LotsAt.app {H : Hp} {xs ys : List V} {A B : List (List Nat)} (h : LotsAt H xs A) (k : LotsAt H ys B) : LotsAt H (xs ++ ys) (A ++ B) := by
  induction h with
  | nil => exact k
  | cons h r ih => exact .cons h ih
theorem LotsAt.get {H : Hp} {xs : List V} {L : List (List Nat)} (h : LotsAt H xs L) : ∀ {i : Nat} {x : V}, xs[i]? = some x → ∃ t l, x = .ref t ∧ L[i]? = some l ∧ H t = some (.tup (nvs l)) := by
  induction h with
  | nil => intro i x e; cases e
  | cons h r ih =>
    intro i x e
    cases i with
    | zero => exact ⟨_, _, (Option.some.inj e).symm, rfl, h⟩
    | succ i => exact ih e
theorem lots_len : ∀ v, (MW.lots v).length = 2 ^ v
  | 0 => rfl
  | v + 1 => by
    show (MW.lots v ++ (MW.lots v).map (· ++ [v])).length = _
    rw [List.length_append, List.length_map, lots_len v, Nat.pow_succ]
    omega
theorem lots_small {v : Nat} (h : v ≤ 8) : (MW.lots v).length ≤ 256 := by
  rw [lots_len]
  exact Nat.pow_le_pow_right (by decide) h
section
variable {P : Program} {w : World} {K : PySem.W.Frag} {mg : Str → Option Value} {base : Heap}
abbrev sLo : Stmt := top 27
abbrev nLl : List Str := ["_law_many", "_law_found", "_law_v", "_law_lot"]
theorem scLl : FnScope nLl ["_law_many"] (defScope sLo) := ⟨rfl, rfl, rfl, by decide +kernel, rfl, by decide +kernel, by decide +kernel⟩
def spLl : Sp := fun vs H Q _ => ∃ n : Nat, vs = [nv n] ∧ n ≤ 8 ∧ ∀ H' p xs, Same H H' → H' p = some (.lst xs) → LotsAt H' xs (MW.lots n) → Q (.ref p) H'
theorem ok_ll {f : Addr} {fd : FuncData} (F : Fun K "_law_lots" "_law_lots" sLo f fd) (B : Blt mg) : FnOk P w K mg base CX0 1 f fd ["_law_many"] spLl := by
  refine F.ok scLl (fun vs H Q E h => ?_) (fun cdv A outer s H vs Q E hr h => ?_)
  · obtain ⟨n, rfl, _⟩ := h
    rfl
  · obtain ⟨n, rfl, n8, k⟩ := h
    refine ⟨_, pss_cons (ps_set (i := 1) scLl.nd rfl (Or.inl rfl) (pe_lst (pa_cons (pe_tup pa_nil) pa_nil)))
      (pss_cons (ps_for PassesOwn.never rfl (pi_range1 rfl B.range (pa_cons (pv 0) pa_nil)) (pg_name (i := 2) scLl.nd rfl (Or.inr rfl))
        (pss_one (ps_set (i := 1) scLl.nd rfl (Or.inl rfl) (pe_op op_cat (pv 1) (pe_lc (own := [("_law_lot", 3)]) (g := gName 3) (tt := tYes) rfl scLl.nd (pi_list (pv 1)) (blkOk_by (N := nLl) (sc := defScope sLo) (by decide +kernel)) (fun _ _ _ _ _ => pg_name (i := 3) scLl.nd rfl (Or.inl rfl)) (fun _ _ _ _ _ => pts_nil)
          (fun _ _ _ _ _ => pe_op (r := rCatA K) op_catA (pv 3) (pe_tup (pa_cons (pe_t1 call_int1 B.int boot_int (pv 2)) pa_nil))))))))
      (pss_one (ps_ret (pv 1)))), ?_⟩
    refine ⟨(by show 0 ≤ sizeLine; decide), fun t0 ht0 => ⟨(by show 1 ≤ sizeLine; decide), fun l0 hl0 => ?_⟩⟩
    have z0 : Same H (upd (upd H t0 (.tup [])) l0 (.lst [.ref t0])) := (sNew ht0).trans (sNew hl0)
    have t00 : (upd (upd H t0 (.tup [])) l0 (.lst [.ref t0])) t0 = some (.tup (nvs [])) := by rw [upd_ne (ne_of_none upd_same hl0), upd_same]; rfl
    refine ⟨_, rfl, _, rfl, (by omega), (by omega), for_range (lo := 0) (n := n) (fun i σ H' => ∃ v2 p xs, σ = [some (nv n), some (.ref p), v2, none] ∧ Same H H' ∧ H' p = some (.lst xs) ∧ LotsAt H' xs (MW.lots i)) ⟨_, _, _, rfl, z0, upd_same, .cons t00 .nil⟩ ?_ ?_⟩
    · rintro i σ H' hi ⟨v2, p, xs, rfl, z, hp, hL⟩
      rw [Int.zero_add]
      have sm := lots_small (v := i) (by omega)
      have el := hL.len
      refine ⟨_, rfl, _, rfl, p, rfl, ⟨_, SqL.of hp⟩, fun D hD => lc_list (xs := xs) (fun j H'' => Same H' H'' ∧ ∃ ys, H'' D = some (.lst ys) ∧ LotsAt H'' ys (((MW.lots i).take j).map (· ++ [i]))) ⟨sNew hD, [], upd_same, .nil⟩ (fun j H'' _ y => SqL.of (y.1 _ _ hp)) ?_ ?_⟩
      · rintro j x H'' hx ⟨y, ys, hy, hLy⟩
        obtain ⟨t, l, rfl, hl, ht⟩ := hL.get hx
        have ht' := y _ _ ht
        have hlen : l.length ≤ 8 := by
          have hm := MW.lots_ok i l (List.mem_of_getElem? hl)
          have := hm.1.length_le_of_subset (fun z hz => List.mem_range.mpr (hm.2 z hz))
          rw [List.length_range] at this
          omega
        have fin : ∀ r H3, Same H'' H3 → H3 r = some (.tup (nvs (l ++ [i]))) → ∃ acc, H3 D = some (.lst acc) ∧ acc.length < sizeLine ∧ (Same H' (upd H3 D (.lst (acc ++ [.ref r]))) ∧ ∃ ys, (upd H3 D (.lst (acc ++ [.ref r]))) D = some (.lst ys) ∧ LotsAt (upd H3 D (.lst (acc ++ [.ref r]))) ys (((MW.lots i).take (j + 1)).map (· ++ [i]))) := by
          intro r H3 s3 hr3
          refine ⟨ys, s3 _ _ hy, ?_, sUpd (y.trans s3) hD, _, upd_same, ?_⟩
          · rw [hLy.len, List.length_map]
            have := List.length_take_le' j (MW.lots i)
            exact small (by omega)
          · rw [take_more hl, List.map_append]
            have rD : r ≠ D := ne_of hr3 (s3 _ _ hy) (fun e => nomatch e)
            have kk : ∀ {ys' : List V} {L : List (List Nat)}, LotsAt H'' ys' L → LotsAt (upd H3 D (.lst (ys ++ [.ref r]))) ys' L := by
              intro ys' L h
              induction h with
              | nil => exact .nil
              | cons h r ih =>
                refine .cons ?_ ih
                rw [upd_ne (ne_of h hy (fun e => nomatch e))]
                exact s3 _ _ h
            exact (kk hLy).snoc (by rw [upd_ne rD]; exact hr3)
        refine ⟨rfl, _, rfl, _, rfl, .inl ⟨_, rfl, (by show 1 ≤ sizeLine; decide), fun u hu => ?_⟩⟩
        have tu : t ≠ u := ne_of_none ht' hu
        refine ⟨t, u, nvs l, [nv i], rfl, rfl, SqT.of (by rw [upd_ne tu]; exact ht'), SqT.of upd_same, ?_, ?_⟩
        · rw [nvs_len]
          show l.length + 1 ≤ sizeLine
          exact Nat.le_of_lt (small (by omega))
        · refine ⟨fun e => fin u _ (sNew hu) ?_, fun _ e => absurd e (by simp), fun _ _ q hq => fin q _ ((sNew hu).trans (sNew hq)) ?_⟩
          · have e' : l = [] := List.map_eq_nil_iff.mp e
            rw [e', upd_same]
            rfl
          · rw [upd_same]
            unfold nvs
            rw [List.map_append]
            rfl
      · rintro H'' ⟨y, ys, hy, hLy⟩
        rw [el, List.take_length] at hLy
        refine ⟨p, D, xs, ys, rfl, rfl, y _ _ hp, hy, ?_, fun q hq => ⟨_, q, xs ++ ys, rfl, sAdd (z.trans y) hq, upd_same, ?_⟩⟩
        · rw [hLy.len, List.length_map, el]
          exact Nat.le_of_lt (small (by omega))
        · exact (((hL.same y).app hLy).same (sNew hq))
    · rintro σ H3 ⟨v2, p, xs, rfl, z, hp, hL⟩
      exact ⟨_, rfl, k H3 p xs z hp hL⟩
/-! ### lacks -/
/-- the law's cluster -/
structure TriAt (H : Hp) (a t1 t2 t3 : Addr) (racks rooms rates : List Nat) : Prop where
  tri : H a = some (.tup [.ref t1, .ref t2, .ref t3])
  racks : H t1 = some (.tup (nvs racks))
  rooms : H t2 = some (.tup (nvs rooms))
  rates : H t3 = some (.tup (nvs rates))
theorem TriAt.same {H H' : Hp} {a t1 t2 t3 : Addr} {racks rooms rates : List Nat} (t : TriAt H a t1 t2 t3 racks rooms rates) (s : Same H H') : TriAt H' a t1 t2 t3 racks rooms rates := ⟨s _ _ t.tri, s _ _ t.racks, s _ _ t.rooms, s _ _ t.rates⟩
abbrev sLk : Stmt := top 28
abbrev nLk : List Str := ["_law_cluster_here", "_law_wishes_here", "_law_lot", "_law_outside", "_law_v", "_law_needed", "_law_wish"]
theorem scLk : FnScope nLk ["_law_cluster_here", "_law_wishes_here", "_law_lot"] (defScope sLk) := ⟨rfl, rfl, rfl, by decide +kernel, rfl, by decide +kernel, by decide +kernel⟩
theorem inV_nvs (x : Nat) (l : List Nat) : inV (nv x) (nvs l) = decide (x ∈ l) := by
  unfold inV nvs
  rw [List.any_map, Bool.eq_iff_iff, List.any_eq_true]
  simp only [Function.comp, decide_eq_true_iff]
  constructor
  · rintro ⟨y, hy, h⟩
    rw [eqV_nv] at h
    have := of_decide_eq_true h
    rwa [← this]
  · intro h
    exact ⟨x, h, by rw [eqV_nv]; simp⟩
theorem sum_nat (l : List Nat) : (l.map fun (x : Nat) => (x : Int)).sum = ((l.sum : Nat) : Int) := by
  induction l with
  | nil => rfl
  | cons a l ih => rw [List.map_cons, List.sum_cons, List.sum_cons, ih, Int.natCast_add]
def spLk : Sp := fun vs H Q _ => ∃ (a t1 t2 t3 wy l : Addr) (racks rooms rates W L : List Nat), vs = [.ref a, .ref wy, .ref l] ∧ TriAt H a t1 t2 t3 racks rooms rates ∧ ClOk racks rooms rates ∧ H wy = some (.tup (nvs W)) ∧ W.length ≤ 4 ∧ H l = some (.tup (nvs L)) ∧ L.Nodup ∧ (∀ x ∈ L, x < racks.length) ∧
  ∀ H', Same H H' → Q (.bl (MW.lacks (instOf racks rooms W) L)) H'
theorem ok_lk {f : Addr} {fd : FuncData} (F : Fun K "_law_lacks" "_law_lacks" sLk f fd) (B : Blt mg) : FnOk P w K mg base CX0 1 f fd ["_law_cluster_here", "_law_wishes_here", "_law_lot"] spLk := by
  refine F.ok scLk (fun vs H Q E h => ?_) (fun cdv A outer s H vs Q E hr h => ?_)
  · obtain ⟨a, t1, t2, t3, wy, l, racks, rooms, rates, W, L, rfl, _⟩ := h
    rfl
  · obtain ⟨a, t1, t2, t3, wy, l, racks, rooms, rates, W, L, rfl, tri, ok, hw, W4, hl, Ln, Lm, k⟩ := h
    refine ⟨_, pss_cons (ps_set (i := 3) scLk.nd rfl (Or.inr rfl) (pe_lst pa_nil))
      (pss_cons (ps_for PassesOwn.never rfl (pi_range1 rfl B.range (pa_cons (pe_len B (pe_ix ix_tup (pv 0) pe_int (fun _ _ => rfl))) pa_nil)) (pg_name (i := 4) scLk.nd rfl (Or.inl rfl))
        (pss_one (ps_join (ps_if (PW.pt (pw_and (pt_cmpR op_notIn_seq (pv 4) (pv 2) (by rfl)) (pw_and1 (pt_cmpR op_notIn_seq (pe_ix ix_tup (pe_ix ix_tup (pv 0) pe_int (fun _ _ => rfl)) (pv 4) (fun _ _ => rfl)) (pv 3) (by rfl)))))
          (pss_one (ps_expr (pe_bm PySem.F.plainAttrs_list PySem.F.slot_list_append PySem.F.type_list_append mt_append (pv 3) (pa_cons (pe_ix ix_tup (pe_ix ix_tup (pv 0) pe_int (fun _ _ => rfl)) (pv 4) (fun _ _ => rfl)) pa_nil)))) pss_nil))))
      (pss_cons (ps_set (i := 5) scLk.nd rfl (Or.inl rfl) (pe_b1 (cr_sum rfl) B.sum boot_sumB (pe_lc (own := [("_law_wish", 6)]) (g := gName 6) (tt := tYes) rfl scLk.nd (pi_tup (pv 1)) (blkOk_by (N := nLk) (sc := defScope sLk) (by decide +kernel)) (fun _ _ _ _ _ => pg_name (i := 6) scLk.nd rfl (Or.inl rfl)) (fun _ _ _ _ _ => pts_nil)
        (fun _ _ _ _ _ => pe_b2 (call_max2 rfl) B.max boot_maxB pe_int (pe_op op_sub (pe_t1 call_int1 B.int boot_int (pv 6)) (pe_b1 (r := rLen K) call_len B.len PySem.boot_len (pv 3)))))))
      (pss_one (ps_ret (pe_cmpR op_gt (pv 5) (pe_b1 (cr_sum rfl) B.sum boot_sumB (pe_lc (own := [("_law_v", 4)]) (g := gName 4) (tt := tYes) rfl scLk.nd (pi_tup (pv 2)) (blkOk_by (N := nLk) (sc := defScope sLk) (by decide +kernel)) (fun _ _ _ _ _ => pg_name (i := 4) scLk.nd rfl (Or.inl rfl)) (fun _ _ _ _ _ => pts_nil)
        (fun _ _ _ _ _ => pe_ix (r := rIxT K) ix_tup (pe_ix (r := rIxT K) ix_tup (pv 0) pe_int (fun _ _ => rfl)) (pv 4) (fun _ _ => rfl)))) (nomark _)))))), ?_⟩
    let I := instOf racks rooms W
    have n8 := ok.n8
    have rk : ∀ i, i < racks.length → (nvs racks)[i]? = some (nv (I.rack i)) := fun i hi => by
      refine nvs_at ?_
      show _ = some (racks.getD i 0)
      rw [List.getD_eq_getElem?_getD, List.getElem?_eq_getElem hi]
      rfl
    have rm : ∀ i, i < racks.length → (nvs rooms)[i]? = some (nv (I.room i)) := fun i hi => by
      refine nvs_at ?_
      show _ = some (rooms.getD i 0)
      have hi' : i < rooms.length := by rw [ok.lm]; exact hi
      rw [List.getD_eq_getElem?_getD, List.getElem?_eq_getElem hi']
      rfl
    have ol : ∀ v, (MW.outs I L v).length ≤ v := by
      intro v
      induction v with
      | zero => exact Nat.le_refl _
      | succ v ih =>
        show (if _ then _ else _ : List Nat).length ≤ _
        split
        · rw [List.length_append]; exact Nat.succ_le_succ ih
        · exact Nat.le_succ_of_le ih
    refine ⟨(by decide), fun o ho => ?_⟩
    have zo : Same H (upd H o (.lst [])) := sNew ho
    have tri1 := tri.same zo
    refine ⟨_, rfl, a, _, 0, .ref t1, rfl, rfl, SqT.of tri1.tri, rfl, _, (nvs racks).length, rfl, .inr ⟨_, SqT.of tri1.racks, rfl⟩, ?_⟩
    refine ⟨((racks.length : Nat) : Int), congrArg (fun n : Nat => [nv n]) (nvs_len racks), ?_, ?_, for_range (lo := 0) (n := racks.length) (fun i σ H' => ∃ v4, σ = [some (.ref a), some (.ref wy), some (.ref l), some (.ref o), v4, none, none] ∧ Same H H' ∧ H' o = some (.lst (nvs (MW.outs I L i)))) ⟨_, rfl, zo, upd_same⟩ ?_ ?_⟩
    · omega
    · omega
    · rintro i σ H' hi ⟨v4, rfl, z, hO⟩
      rw [Int.zero_add]
      have tr := tri.same z
      refine ⟨fun σ' H'' => σ' = [some (.ref a), some (.ref wy), some (.ref l), some (.ref o), some (nv i), none, none] ∧ Same H H'' ∧ H'' o = some (.lst (nvs (MW.outs I L (i + 1)))), ?_, fun σ' H'' ⟨e, y⟩ => ⟨_, e, y⟩⟩
      have out : MW.outs I L (i + 1) = if i ∉ L ∧ I.rack i ∉ MW.outs I L i then MW.outs I L i ++ [I.rack i] else MW.outs I L i := rfl
      refine ⟨_, rfl, _, rfl, l, _, rfl, .inr (SqT.of (z _ _ hl)), rfl, flat_nvs _, _, rfl, ?_⟩
      rw [if_pos rfl, inV_nvs]
      by_cases c1 : i ∈ L
      · rw [decide_eq_true c1]
        refine iteF ⟨rfl, z, ?_⟩
        rw [out, if_neg (fun h => h.1 c1)]
        exact hO
      · rw [decide_eq_false c1]
        refine iteT ⟨_, rfl, a, _, 0, .ref t1, rfl, rfl, SqT.of tr.tri, rfl, _, rfl, t1, _, _, _, rfl, rfl, SqT.of tr.racks, atI_nat (rk i hi), _, rfl, o, _, rfl, .inl (SqL.of hO), rfl, flat_nvs _, _, rfl, ?_⟩
        rw [if_pos rfl, inV_nvs]
        by_cases c2 : I.rack i ∈ MW.outs I L i
        · rw [decide_eq_true c2]
          refine iteF ⟨rfl, z, ?_⟩
          rw [out, if_neg (fun h => h.2 c2)]
          exact hO
        · rw [decide_eq_false c2]
          refine iteT ⟨_, rfl, .inl ⟨rfl, _, SqL.of hO⟩, _, rfl, a, _, 0, .ref t1, rfl, rfl, SqT.of tr.tri, rfl, _, rfl, t1, _, _, _, rfl, rfl, SqT.of tr.racks, atI_nat (rk i hi), o, _, _, rfl, rfl, hO, ?_, rfl, sUpd z ho, ?_⟩
          · rw [nvs_len]
            have := ol i
            exact small (by omega)
          · rw [upd_same, out, if_pos ⟨c1, c2⟩]
            unfold nvs
            rw [List.map_append]
            rfl
    rintro σ H1 ⟨v4, rfl, z1, hO⟩
    have n_eq : I.n = racks.length := rfl
    have hw1 := z1 _ _ hw
    refine ⟨_, rfl, wy, rfl, ⟨_, SqT.of hw1⟩, fun D hD => lc_tup (xs := nvs W) (fun i H' => Same H1 H' ∧ H' D = some (.lst (nvs ((W.take i).map fun x => x - (MW.outs I L I.n).length)))) ⟨sNew hD, upd_same⟩ (fun i H' _ z => SqT.of (z.1 _ _ hw1)) ?_ ?_⟩
    · rintro i x H' hx ⟨y, hD'⟩
      obtain ⟨u, hu, rfl⟩ := nvs_get hx
      refine ⟨rfl, _, rfl, .inl ⟨_, rfl, _, rfl, _, (nvs (MW.outs I L racks.length)).length, rfl, .inl ⟨_, SqL.of (y _ _ hO), rfl⟩, _, _, rfl, rfl, 0, _, rfl, nvs ((W.take i).map fun x => x - (MW.outs I L I.n).length), hD', ?_, sUpd y hD, ?_⟩⟩
      · rw [nvs_len, List.length_map]
        have := List.length_take_le' i W
        exact small (by omega)
      · rw [upd_same, take_more hu, List.map_append]
        unfold nvs
        rw [List.map_append, List.length_map]
        have e : V.int (if (u : Int) - ((MW.outs I L racks.length).length : Int) > 0 then (u : Int) - ((MW.outs I L racks.length).length : Int) else 0) = nv (u - (MW.outs I L I.n).length) := by
          show V.int _ = V.int _
          rw [n_eq]
          congr 1
          split <;> omega
        rw [e]
        rfl
    rintro H2 ⟨z2, hD2⟩
    rw [nvs_len, List.take_length, nvs_ints] at hD2
    refine ⟨D, _, rfl, SqL.of hD2, ?_⟩
    rw [sum_nat]
    have hl2 := z2 _ _ (z1 _ _ hl)
    have tri2 := (tri.same z1).same z2
    refine ⟨_, rfl, _, rfl, l, rfl, ⟨_, SqT.of hl2⟩, fun D' hD' => lc_tup (xs := nvs L) (fun i H' => Same H2 H' ∧ H' D' = some (.lst (nvs ((L.take i).map I.room)))) ⟨sNew hD', upd_same⟩ (fun i H' _ z => SqT.of (z.1 _ _ hl2)) ?_ ?_⟩
    · rintro i x H' hx ⟨y, hD''⟩
      obtain ⟨u, hu, rfl⟩ := nvs_get hx
      have tr := tri2.same y
      refine ⟨rfl, _, rfl, a, _, 1, .ref t2, rfl, rfl, SqT.of tr.tri, rfl, _, rfl, t2, _, _, _, rfl, rfl, SqT.of tr.rooms, atI_nat (rm u (Lm u (List.mem_of_getElem? hu))), _, hD'', ?_, sUpd y hD', ?_⟩
      · rw [nvs_len, List.length_map]
        have := List.length_take_le' i L
        have h1 := Ln.length_le_of_subset (fun z hz => List.mem_range.mpr (Lm z hz))
        rw [List.length_range] at h1
        exact small (by omega)
      · rw [upd_same, take_more hu, List.map_append]
        unfold nvs
        rw [List.map_append]
        rfl
    · rintro H3 ⟨z3, hD3⟩
      rw [nvs_len, List.take_length, nvs_ints] at hD3
      refine ⟨D', _, rfl, SqL.of hD3, _, _, rfl, rfl, ?_⟩
      rw [sum_nat]
      have e : (decide (((((W.map fun x => x - (MW.outs I L I.n).length).sum : Nat) : Int)) > (((L.map I.room).sum : Nat) : Int))) = MW.lacks I L := by
        unfold MW.lacks
        refine decide_eq_decide.mpr ?_
        show ((MW.roomSum I L : Nat) : Int) < ((MW.needed I L : Nat) : Int) ↔ _
        omega
      show Q (.bl (decide (((((W.map fun x => x - (MW.outs I L I.n).length).sum : Nat) : Int)) > (((L.map I.room).sum : Nat) : Int)))) H3
      rw [e]
      exact k H3 ((z1.trans z2).trans z3)
/-! ### any lacks -/
abbrev sAl : Stmt := top 29
abbrev nAl : List Str := ["_law_cluster_here", "_law_wishes_here", "_law_lot"]
theorem scAl : FnScope nAl ["_law_cluster_here", "_law_wishes_here"] (defScope sAl) := ⟨rfl, rfl, rfl, by decide +kernel, rfl, by decide +kernel, by decide +kernel⟩
def spAl : Sp := fun vs H Q _ => ∃ (a t1 t2 t3 wy : Addr) (racks rooms rates W : List Nat), vs = [.ref a, .ref wy] ∧ TriAt H a t1 t2 t3 racks rooms rates ∧ ClOk racks rooms rates ∧ H wy = some (.tup (nvs W)) ∧ W.length ≤ 4 ∧ ∀ H', Same H H' → Q (.bl (MW.anyLacks (instOf racks rooms W))) H'
theorem ok_al {f f1 f2 : Addr} {fd fd1 fd2 : FuncData} (F : Fun K "_law_any_lacks" "_law_any_lacks" sAl f fd) (B : Blt mg) (c1 : Fn K mg "_law_lots" f1 fd1 ["_law_many"]) (G1 : FnOk P w K mg base CX0 1 f1 fd1 ["_law_many"] spLl)
    (c2 : Fn K mg "_law_lacks" f2 fd2 ["_law_cluster_here", "_law_wishes_here", "_law_lot"]) (G2 : FnOk P w K mg base CX0 1 f2 fd2 ["_law_cluster_here", "_law_wishes_here", "_law_lot"] spLk) : FnOk P w K mg base CX0 2 f fd ["_law_cluster_here", "_law_wishes_here"] spAl := by
  refine F.ok scAl (fun vs H Q E h => ?_) (fun cdv A outer s H vs Q E hr h => ?_)
  · obtain ⟨a, t1, t2, t3, wy, racks, rooms, rates, W, rfl, _⟩ := h
    rfl
  · obtain ⟨a, t1, t2, t3, wy, racks, rooms, rates, W, rfl, tri, ok, hw, W4, k⟩ := h
    refine ⟨_, pss_cons (ps_for PassesOwn.never rfl (pi_list (pe_call G1 hr (by rfl) c1.mg c1.kp c1.bi .nil pass0 (pa_cons (pe_len B (pe_ix ix_tup (pv 0) pe_int (fun _ _ => rfl))) pa_nil))) (pg_name (i := 2) scAl.nd rfl (Or.inl rfl))
        (pss_one (ps_if (pt_val (pe_call G2 hr (by rfl) c2.mg c2.kp c2.bi .nil pass0 (pa_cons (pv 0) (pa_cons (pv 1) (pa_cons (pv 2) pa_nil))))) (pss_one (ps_ret pe_bl)) pss_nil)))
      (pss_one (ps_ret pe_bl)), ?_⟩
    let I := instOf racks rooms W
    refine ⟨_, rfl, a, _, 0, .ref t1, rfl, rfl, SqT.of tri.tri, rfl, _, (nvs racks).length, rfl, .inr ⟨_, SqT.of tri.racks, rfl⟩, racks.length, congrArg (fun n : Nat => [nv n]) (nvs_len racks), ok.n8, fun H1 p xs s1 hp hL => ?_⟩
    refine ⟨p, rfl, ⟨_, SqL.of hp⟩, for_list (xs := xs) (fun i σ H' => ∃ v2, σ = [some (.ref a), some (.ref wy), v2] ∧ Same H1 H' ∧ ∀ l ∈ (MW.lots racks.length).take i, MW.lacks I l = false) ⟨_, rfl, fun _ _ e => e, fun l h => by cases h⟩ (fun i σ H' _ ⟨_, _, y, _⟩ => SqL.of (y _ _ hp)) ?_ ?_⟩
    · rintro i x σ H' hx ⟨v2, rfl, y, hno⟩
      obtain ⟨t, l, rfl, hl, ht⟩ := hL.get hx
      have hm := MW.lots_ok racks.length l (List.mem_of_getElem? hl)
      have z := s1.trans y
      refine ⟨_, rfl, _, rfl, _, rfl, a, t1, t2, t3, wy, t, racks, rooms, rates, W, l, rfl, tri.same z, ok, z _ _ hw, W4, y _ _ ht, hm.1, hm.2, fun H3 s3 => ⟨_, rfl, iteI (fun c => ?_) (fun c => ?_)⟩⟩
      · have e : MW.anyLacks I = true := List.any_eq_true.mpr ⟨l, List.mem_of_getElem? hl, c⟩
        have := k H3 (z.trans s3)
        rw [show MW.anyLacks (instOf racks rooms W) = true from e] at this
        exact this
      · refine ⟨_, rfl, y.trans s3, fun l' hl' => ?_⟩
        rw [take_more hl] at hl'
        rcases List.mem_append.mp hl' with h | h
        · exact hno l' h
        · rw [show l' = l by simpa using h]; exact c
    · rintro σ H3 ⟨v2, rfl, y, hno⟩
      rw [hL.len, List.take_length] at hno
      have e : MW.anyLacks I = false := List.any_eq_false.mpr fun l hl => by rw [hno l hl]; decide
      have := k H3 (s1.trans y)
      rw [show MW.anyLacks (instOf racks rooms W) = false from e] at this
      exact this
end
end MV
end
/-! KChk -/
section
set_option Elab.async false
set_option linter.all false
set_option maxRecDepth 100000
set_option maxHeartbeats 4000000
/-! the law's looks at a placing -/
namespace MV
open PySem PyProof.Rows L2 KX
open PySem.Spec hiding Row
open MW (Inst Row Chosen)
/-- a placing that keeps the rules -/
structure Good (racks rooms W : List Nat) (L : List (List Nat)) : Prop where
  len : L.length = W.length
  cnt : ∀ (q : Nat) (l : List Nat), L[q]? = some l → W[q]? = some l.length
  lt : ∀ l ∈ L, ∀ s ∈ l, s < racks.length
  rise : ∀ l ∈ L, l.Pairwise (· < ·)
  ne : ∀ l ∈ L, ∀ s ∈ l, ∀ t ∈ l, racks.getD s 0 = racks.getD t 0 → s = t
  pos : ∀ l ∈ L, l ≠ []
  room : ∀ s, s < racks.length → L.countP (fun l => decide (s ∈ l)) ≤ rooms.getD s 0
theorem nat_at {l : List Nat} {i : Nat} (h : i < l.length) : l[i]? = some (l.getD i 0) := by
  rw [List.getD_eq_getElem?_getD, List.getElem?_eq_getElem h]
  rfl
section
variable {P : Program} {w : World} {K : PySem.W.Frag} {mg : Str → Option Value} {base : Heap}
/-! ### within -/
abbrev sWi : Stmt := top 23
theorem scWi : FnScope ["_law_value", "_law_least", "_law_most"] ["_law_value", "_law_least", "_law_most"] (defScope sWi) := ⟨rfl, rfl, rfl, by decide +kernel, rfl, by decide +kernel, by decide +kernel⟩
def spWi : Sp := fun vs H Q _ => ∃ x lo hi : Int, vs = [.int x, .int lo, .int hi] ∧ lo ≤ x ∧ x ≤ hi ∧ Q (.bl true) H
theorem ok_wi {f : Addr} {fd : FuncData} (F : Fun K "_law_within" "_law_within" sWi f fd) (B : Blt mg) : FnOk P w K mg base CX0 1 f fd ["_law_value", "_law_least", "_law_most"] spWi := by
  refine F.ok scWi (fun vs H Q E h => ?_) (fun cdv A outer s H vs Q E hr h => ?_)
  · obtain ⟨x, lo, hi, rfl, _⟩ := h
    rfl
  · obtain ⟨x, lo, hi, rfl, h1, h2, k⟩ := h
    refine ⟨_, pss_one (ps_ret (pe_and (pe_isi B (pv 0) (by rfl) (by rfl) B.int boot_int) (pe_and (pe_not (pe_isi B (pv 0) (by rfl) (by rfl) B.bool boot_bool)) (pe_and (pe_cmpR op_ge (pv 0) (pv 1) (nomark _)) (pe_one (pe_cmpR op_le (pv 0) (pv 2) (nomark _))))))), ?_⟩
    refine ⟨_, rfl, _, _, _, _, true, rfl, .ty _, Kd.tyx (.int x), kit_ty (by decide +kernel), _, rfl, iteT ⟨_, rfl, _, _, _, _, false, rfl, .ty _, Kd.tyx (.int x), kit_ty (by decide +kernel), _, rfl, _, rfl, iteT ?_⟩⟩
    refine ⟨_, rfl, _, rfl, _, _, rfl, rfl, _, rfl, iteD h1 ⟨_, rfl, _, rfl, _, _, rfl, rfl, ?_⟩⟩
    show Q (.bl (decide (x ≤ hi))) H
    rw [decide_eq_true h2]
    exact k
/-! ### is a lot -/
abbrev sIl : Stmt := top 30
abbrev nIl : List Str := ["_law_value", "_law_many", "_law_k"]
theorem scIl : FnScope nIl ["_law_value", "_law_many"] (defScope sIl) := ⟨rfl, rfl, rfl, by decide +kernel, rfl, by decide +kernel, by decide +kernel⟩
def spIl : Sp := fun vs H Q _ => ∃ (a : Addr) (l : List Nat) (many : Nat), vs = [.ref a, nv many] ∧ H a = some (.tup (nvs l)) ∧ l.length ≤ 1000 ∧ (∀ s ∈ l, s < many) ∧ l.Pairwise (· < ·) ∧ Q (.bl true) H
theorem ok_il {f f1 : Addr} {fd fd1 : FuncData} (F : Fun K "_law_is_lot" "_law_is_lot" sIl f fd) (B : Blt mg) (c : Fn K mg "_law_within" f1 fd1 ["_law_value", "_law_least", "_law_most"]) (G : FnOk P w K mg base CX0 1 f1 fd1 ["_law_value", "_law_least", "_law_most"] spWi) :
    FnOk P w K mg base CX0 2 f fd ["_law_value", "_law_many"] spIl := by
  refine F.ok scIl (fun vs H Q E h => ?_) (fun cdv A outer s H vs Q E hr h => ?_)
  · obtain ⟨a, l, many, rfl, _⟩ := h
    rfl
  · obtain ⟨a, l, many, rfl, ha, ll, lm, pw, k⟩ := h
    refine ⟨_, pss_cons (ps_if (pt_not (pt_val (pe_isi B (pv 0) (by rfl) (by rfl) B.tuple boot_tup))) (pss_one ps_never) pss_nil)
      (pss_cons (ps_for PassesOwn.never rfl (pi_range1 rfl B.range (pa_cons (pe_len B (pv 0)) pa_nil)) (pg_name (i := 2) scIl.nd rfl (Or.inl rfl))
        (pss_one (ps_if (PW.pt (pw_or (pt_not (pt_val (pe_call G hr (by rfl) c.mg c.kp c.bi .nil pass0 (pa_cons (pe_ix ix_tup (pv 0) (pv 2) (fun _ _ => rfl)) (pa_cons pe_int (pa_cons (pe_op op_sub (pv 1) pe_int) pa_nil)))))) (pw_or1 (PW.pt (pw_and (pt_cmpR op_gt (pv 2) pe_int (nomark _)) (pw_and1 (pt_cmpR op_ge (pe_ix ix_tup (pv 0) (pe_op op_sub (pv 2) pe_int) (fun _ _ => rfl)) (pe_ix ix_tup (pv 0) (pv 2) (fun _ _ => rfl)) (nomark _)))))))) (pss_one ps_never) pss_nil)))
      (pss_one (ps_ret pe_bl))), ?_⟩
    refine ⟨_, rfl, _, _, _, _, true, rfl, .ty _, Kd.tyx (.tup ha), kit_ty (by decide +kernel), _, rfl, iteF ?_⟩
    refine ⟨_, rfl, _, (nvs l).length, rfl, .inr ⟨_, SqT.of ha, rfl⟩, ((l.length : Nat) : Int), congrArg (fun n : Nat => [nv n]) (nvs_len l), (by omega), (by omega), for_range (lo := 0) (n := l.length) (fun i σ H' => H' = H ∧ ∃ v2, σ = [some (.ref a), some (nv many), v2]) ⟨rfl, _, rfl⟩ ?_ ?_⟩
    · rintro i σ H' hi ⟨rfl, v2, rfl⟩
      rw [Int.zero_add]
      have hx : l[i]? = some l[i] := List.getElem?_eq_getElem hi
      have hm := lm _ (List.getElem_mem hi)
      refine ⟨_, rfl, _, rfl, a, _, _, _, rfl, rfl, SqT.of ha, atI_nat (nvs_at hx), _, rfl, _, _, rfl, rfl, _, _, _, rfl, (by omega), (by show (l[i] : Int) ≤ (many : Int) - 1; omega), _, rfl, iteF ?_⟩
      refine ⟨_, rfl, _, _, rfl, rfl, _, rfl, iteI (fun c1 => ?_) (fun c1 => ⟨rfl, _, rfl⟩)⟩
      have c1 : (i : Int) > 0 := of_decide_eq_true c1
      have hp : i - 1 < l.length := by omega
      have hx1 : l[i - 1]? = some l[i - 1] := List.getElem?_eq_getElem hp
      have lt : l[i - 1] < l[i] := List.pairwise_iff_getElem.mp pw (i - 1) i hp hi (by omega)
      have ei : V.int ((i : Int) - 1) = nv (i - 1) := by show V.int _ = V.int _; congr 1; omega
      refine ⟨_, rfl, _, rfl, _, _, rfl, rfl, a, _, ((i - 1 : Nat) : Int), _, rfl, ei, SqT.of ha, atI_nat (nvs_at hx1), _, rfl, _, rfl, a, _, _, _, rfl, rfl, SqT.of ha, atI_nat (nvs_at hx), _, _, rfl, rfl, _, rfl, iteDn (by omega) ⟨rfl, _, rfl⟩⟩
    · rintro σ H' ⟨rfl, v2, rfl⟩
      exact k
/-! ### is a placing -/
abbrev sIp : Stmt := top 31
abbrev nIp : List Str := ["_law_value", "_law_stores", "_law_many", "_law_lot"]
theorem scIp : FnScope nIp ["_law_value", "_law_stores", "_law_many"] (defScope sIp) := ⟨rfl, rfl, rfl, by decide +kernel, rfl, by decide +kernel, by decide +kernel⟩
def spIp : Sp := fun vs H Q _ => ∃ (a : Addr) (xs : List V) (L : List (List Nat)) (racks rooms W : List Nat), vs = [.ref a, nv racks.length, nv W.length] ∧ H a = some (.tup xs) ∧ LotsAt H xs L ∧ Good racks rooms W L ∧ racks.length ≤ 8 ∧ W.length ≤ 4 ∧ Q (.bl true) H
theorem lot_short {n : Nat} {l : List Nat} (h : ∀ s ∈ l, s < n) (p : l.Pairwise (· < ·)) : l.length ≤ n := by
  have nd : l.Nodup := p.imp fun h => Nat.ne_of_lt h
  have := nd.length_le_of_subset (fun z hz => List.mem_range.mpr (h z hz))
  rwa [List.length_range] at this
theorem ok_ip {f f1 : Addr} {fd fd1 : FuncData} (F : Fun K "_law_is_placing" "_law_is_placing" sIp f fd) (B : Blt mg) (c : Fn K mg "_law_is_lot" f1 fd1 ["_law_value", "_law_many"]) (G : FnOk P w K mg base CX0 2 f1 fd1 ["_law_value", "_law_many"] spIl) :
    FnOk P w K mg base CX0 3 f fd ["_law_value", "_law_stores", "_law_many"] spIp := by
  refine F.ok scIp (fun vs H Q E h => ?_) (fun cdv A outer s H vs Q E hr h => ?_)
  · obtain ⟨a, xs, L, racks, rooms, W, rfl, _⟩ := h
    rfl
  · obtain ⟨a, xs, L, racks, rooms, W, rfl, ha, hL, g, n8, W4, k⟩ := h
    refine ⟨_, pss_cons (ps_if (PW.pt (pw_or (pt_not (pt_val (pe_isi B (pv 0) (by rfl) (by rfl) B.tuple boot_tup))) (pw_or1 (pt_cmpR op_ne (pe_len B (pv 0)) (pv 2) (nomark _))))) (pss_one ps_never) pss_nil)
      (pss_cons (ps_for PassesOwn.never rfl (pi_tup (pv 0)) (pg_name (i := 3) scIp.nd rfl (Or.inl rfl))
        (pss_one (ps_if (PW.pt (pw_or (pt_not (pt_val (pe_call G hr (by rfl) c.mg c.kp c.bi .nil pass0 (pa_cons (pv 3) (pa_cons (pv 1) pa_nil))))) (pw_or1 (pt_cmpR op_eq (pe_len B (pv 3)) pe_int (nomark _))))) (pss_one ps_never) pss_nil)))
      (pss_one (ps_ret pe_bl))), ?_⟩
    refine ⟨_, rfl, _, _, _, _, true, rfl, .ty _, Kd.tyx (.tup ha), kit_ty (by decide +kernel), _, rfl, iteF ?_⟩
    refine ⟨_, rfl, _, xs.length, rfl, .inr ⟨_, SqT.of ha, rfl⟩, _, rfl, rfl, _, rfl, iteN (decide_eq_true (by rw [hL.len, g.len])) ?_⟩
    refine ⟨_, rfl, a, rfl, ⟨_, SqT.of ha⟩, for_tup (xs := xs) (fun i σ H' => H' = H ∧ ∃ v3, σ = [some (.ref a), some (nv racks.length), some (nv W.length), v3]) ⟨rfl, _, rfl⟩ (fun i σ H' _ ⟨e, _⟩ => by rw [e]; exact SqT.of ha) ?_ ?_⟩
    · rintro i x σ H' hx ⟨rfl, v3, rfl⟩
      obtain ⟨t, l, rfl, hl, ht⟩ := hL.get hx
      have hm := List.mem_of_getElem? hl
      have sh := lot_short (g.lt l hm) (g.rise l hm)
      have ps := List.length_pos_iff.mpr (g.pos l hm)
      refine ⟨_, rfl, _, rfl, t, l, racks.length, rfl, ht, by omega, g.lt l hm, g.rise l hm, _, rfl, iteF ?_⟩
      refine ⟨_, rfl, _, (nvs l).length, rfl, .inr ⟨_, SqT.of ht, rfl⟩, rfl, _, rfl, iteDn ?_ ⟨rfl, _, rfl⟩⟩
      rw [nvs_len]
      intro z
      injection z with z
      omega
    · rintro σ H' ⟨rfl, v3, rfl⟩
      exact k
/-! ### breach -/
abbrev sBr : Stmt := top 26
abbrev nBr : List Str := ["_law_cluster_here", "_law_wishes_here", "_law_placing", "_law_racks", "_law_rooms", "_law_rates", "_law_p", "_law_v", "_law_w", "_law_lot"]
theorem scBr : FnScope nBr ["_law_cluster_here", "_law_wishes_here", "_law_placing"] (defScope sBr) := ⟨rfl, rfl, rfl, by decide +kernel, rfl, by decide +kernel, by decide +kernel⟩
def spBr : Sp := fun vs H Q _ => ∃ (a t1 t2 t3 wy p : Addr) (racks rooms rates W : List Nat) (xs : List V) (L : List (List Nat)), vs = [.ref a, .ref wy, .ref p] ∧ TriAt H a t1 t2 t3 racks rooms rates ∧ ClOk racks rooms rates ∧ H wy = some (.tup (nvs W)) ∧ W.length ≤ 4 ∧
  H p = some (.tup xs) ∧ LotsAt H xs L ∧ Good racks rooms W L ∧ ∀ H', Same H H' → Q .non H'
theorem ok_br {f : Addr} {fd : FuncData} (F : Fun K "_law_breach" "_law_breach" sBr f fd) (B : Blt mg) : FnOk P w K mg base CX0 1 f fd ["_law_cluster_here", "_law_wishes_here", "_law_placing"] spBr := by
  refine F.ok scBr (fun vs H Q E h => ?_) (fun cdv A outer s H vs Q E hr h => ?_)
  · obtain ⟨a, t1, t2, t3, wy, p, racks, rooms, rates, W, xs, L, rfl, _⟩ := h
    rfl
  · obtain ⟨a, t1, t2, t3, wy, p, racks, rooms, rates, W, xs, L, rfl, tri, ok, hw, W4, hp, hL, g, k⟩ := h
    refine ⟨_, pss_cons (ps_asg (pv 0) (pg_tup (by rfl) (pgs_cons (pg_name (i := 3) scBr.nd rfl (Or.inl rfl)) (pgs_cons (pg_name (i := 4) scBr.nd rfl (Or.inl rfl)) (pgs_cons (pg_name (i := 5) scBr.nd rfl (Or.inl rfl)) pgs_nil)))))
      (pss_cons (ps_for PassesOwn.never rfl (pi_range1 rfl B.range (pa_cons (pe_len B (pv 1)) pa_nil)) (pg_name (i := 6) scBr.nd rfl (Or.inl rfl))
        (pss_cons (ps_if (pt_cmpR op_ne (pe_len B (pe_ix ix_tup (pv 2) (pv 6) (fun _ _ => rfl))) (pe_ix ix_tup (pv 1) (pv 6) (fun _ _ => rfl)) (nomark _)) (pss_one ps_never) pss_nil)
        (pss_one (ps_for PassesOwn.never rfl (pi_tup (pe_ix ix_tup (pv 2) (pv 6) (fun _ _ => rfl))) (pg_name (i := 7) scBr.nd rfl (Or.inr rfl))
          (pss_one (ps_for PassesOwn.never rfl (pi_tup (pe_ix ix_tup (pv 2) (pv 6) (fun _ _ => rfl))) (pg_name (i := 8) scBr.nd rfl (Or.inl rfl))
            (pss_one (ps_if (PW.pt (pw_and (pt_cmpR op_lt (pv 7) (pv 8) (nomark _)) (pw_and1 (pt_cmpR op_eq (pe_ix ix_tup (pv 3) (pv 7) (fun _ _ => rfl)) (pe_ix ix_tup (pv 3) (pv 8) (fun _ _ => rfl)) (nomark _))))) (pss_one ps_never) pss_nil))))))))
      (pss_cons (ps_for PassesOwn.never rfl (pi_range1 rfl B.range (pa_cons (pe_len B (pv 3)) pa_nil)) (pg_name (i := 7) scBr.nd rfl (Or.inr rfl))
        (pss_one (ps_if (pt_cmpR op_gt (pe_len B (pe_lc (own := [("_law_lot", 9)]) (g := gName 9) rfl scBr.nd (pi_tup (pv 2)) (blkOk_by (N := nBr) (sc := defScope sBr) (by decide +kernel)) (fun _ _ _ _ _ => pg_name (i := 9) scBr.nd rfl (Or.inl rfl)) (fun _ _ _ _ _ => pts_one (pt_cmpR (r := rIn K false) op_in_seq (pv 7) (pv 9) (by rfl)))
          (fun _ _ _ _ _ => pv 9))) (pe_ix ix_tup (pv 4) (pv 7) (fun _ _ => rfl)) (nomark _)) (pss_one ps_never) pss_nil)))
      (pss_one (ps_ret pe_non)))), ?_⟩
    have n8 := ok.n8
    have rk : ∀ i, i < racks.length → (nvs racks)[i]? = some (nv (racks.getD i 0)) := fun i hi => nvs_at (nat_at hi)
    have rm : ∀ i, i < racks.length → (nvs rooms)[i]? = some (nv (rooms.getD i 0)) := fun i hi => nvs_at (nat_at (by rw [ok.lm]; exact hi))
    refine ⟨_, rfl, a, _, rfl, SqT.of tri.tri, rfl, _, _, rfl, _, _, rfl, _, _, rfl, rfl, ?_⟩
    refine ⟨_, rfl, _, (nvs W).length, rfl, .inr ⟨_, SqT.of hw, rfl⟩, ((W.length : Nat) : Int), congrArg (fun n : Nat => [nv n]) (nvs_len W), (by omega), (by omega), for_range (lo := 0) (n := W.length) (fun i σ H' => H = H' ∧ ∃ v6 v7 v8, σ = [some (.ref a), some (.ref wy), some (.ref p), some (.ref t1), some (.ref t2), some (.ref t3), v6, v7, v8, none]) ⟨rfl, _, _, _, rfl⟩ ?_ ?_⟩
    · rintro i σ H' hi ⟨rfl, v6, v7, v8, rfl⟩
      rw [Int.zero_add]
      have hi' : i < L.length := by rw [g.len]; exact hi
      have hl : L[i]? = some L[i] := List.getElem?_eq_getElem hi'
      obtain ⟨t, hx, ht⟩ := hL.at hl
      have hm := List.getElem_mem hi'
      have wi := nvs_at (g.cnt i _ hl)
      refine ⟨_, rfl, _, rfl, p, _, _, _, rfl, rfl, SqT.of hp, atI_nat hx, _, (nvs L[i]).length, rfl, .inr ⟨_, SqT.of ht, rfl⟩, _, rfl, _, rfl, wy, _, _, _, rfl, rfl, SqT.of hw, atI_nat wi, rfl, _, rfl, iteN (decide_eq_true (by rw [nvs_len])) ?_⟩
      refine ⟨_, rfl, _, rfl, p, _, _, _, rfl, rfl, SqT.of hp, atI_nat hx, t, rfl, ⟨_, SqT.of ht⟩, for_tup (xs := nvs L[i]) (fun j σ H' => H = H' ∧ ∃ v7 v8, σ = [some (.ref a), some (.ref wy), some (.ref p), some (.ref t1), some (.ref t2), some (.ref t3), some (nv i), v7, v8, none]) ⟨rfl, _, _, rfl⟩ (fun j σ H' _ ⟨e, _⟩ => by rw [← e]; exact SqT.of ht) ?_ ?_⟩
      · rintro j x σ H' hj ⟨rfl, v7, v8, rfl⟩
        obtain ⟨u, hu, rfl⟩ := nvs_get hj
        have um := List.mem_of_getElem? hu
        refine ⟨_, rfl, _, rfl, p, _, _, _, rfl, rfl, SqT.of hp, atI_nat hx, t, rfl, ⟨_, SqT.of ht⟩, for_tup (xs := nvs L[i]) (fun j σ H' => H = H' ∧ ∃ v8, σ = [some (.ref a), some (.ref wy), some (.ref p), some (.ref t1), some (.ref t2), some (.ref t3), some (nv i), some (nv u), v8, none]) ⟨rfl, _, rfl⟩ (fun j σ H' _ ⟨e, _⟩ => by rw [← e]; exact SqT.of ht) ?_ ?_⟩
        · rintro j2 x2 σ H' hj2 ⟨rfl, v8, rfl⟩
          obtain ⟨v, hv, rfl⟩ := nvs_get hj2
          have vm := List.mem_of_getElem? hv
          refine ⟨_, rfl, _, rfl, _, _, rfl, rfl, _, rfl, iteI (fun c1 => ?_) (fun c1 => ⟨rfl, _, rfl⟩)⟩
          have c1 : (u : Int) < (v : Int) := of_decide_eq_true c1
          refine ⟨_, rfl, _, rfl, t1, _, _, _, rfl, rfl, SqT.of tri.racks, atI_nat (rk u (g.lt _ hm u um)), _, rfl, _, rfl, t1, _, _, _, rfl, rfl, SqT.of tri.racks, atI_nat (rk v (g.lt _ hm v vm)), rfl, _, rfl, iteDn (fun z => ?_) ⟨rfl, _, rfl⟩⟩
          injection z with z
          have := g.ne _ hm u um v vm (Int.ofNat_inj.mp z)
          omega
        · rintro σ H' ⟨rfl, v8', rfl⟩
          exact ⟨rfl, _, _, rfl⟩
      · rintro σ H' ⟨rfl, v7', v8', rfl⟩
        exact ⟨rfl, _, _, _, rfl⟩
    rintro σ _ ⟨rfl, v6, v7, v8, rfl⟩
    refine ⟨_, rfl, _, (nvs racks).length, rfl, .inr ⟨_, SqT.of tri.racks, rfl⟩, ((racks.length : Nat) : Int), congrArg (fun n : Nat => [nv n]) (nvs_len racks), (by omega), (by omega), for_range (lo := 0) (n := racks.length) (fun i σ H'' => Same H H'' ∧ ∃ v7, σ = [some (.ref a), some (.ref wy), some (.ref p), some (.ref t1), some (.ref t2), some (.ref t3), v6, v7, v8, none]) ⟨fun _ _ e => e, _, rfl⟩ ?_ ?_⟩
    · rintro i σ H2 hi ⟨z, v7', rfl⟩
      rw [Int.zero_add]
      have tr := tri.same z
      have hL2 := hL.same z
      have hp2 := z _ _ hp
      refine ⟨_, rfl, p, rfl, ⟨_, SqT.of hp2⟩, fun D hD => lc_tup (xs := xs) (fun j H'' => Same H2 H'' ∧ ∃ ys, H'' D = some (.lst ys) ∧ ys.length = (L.take j).countP (fun l => decide (i ∈ l))) ⟨sNew hD, [], upd_same, rfl⟩ (fun j H'' _ y => SqT.of (y.1 _ _ hp2)) ?_ ?_⟩
      · rintro j x H'' hj ⟨y, ys, hy, hyl⟩
        obtain ⟨t, l, rfl, hl, ht⟩ := hL2.get hj
        have tk : (L.take (j + 1)).countP (fun l => decide (i ∈ l)) = (L.take j).countP (fun l => decide (i ∈ l)) + (if decide (i ∈ l) = true then 1 else 0) := by
          rw [take_more hl, List.countP_append]
          simp [List.countP_cons]
        refine ⟨rfl, _, rfl, _, rfl, t, _, rfl, .inr (SqT.of (y _ _ ht)), rfl, flat_nvs _, _, rfl, ?_⟩
        rw [if_neg (by simp : ¬ (false = true)), inV_nvs]
        refine iteI (fun c => ?_) (fun c => ?_)
        · refine ⟨_, rfl, ys, hy, ?_, sUpd y hD, _, upd_same, ?_⟩
          · rw [hyl]
            have h1 := List.countP_le_length (p := fun l => decide (i ∈ l)) (l := L.take j)
            have h2 := List.length_take_le' j L
            have h3 := g.len
            exact small (by omega)
          · rw [List.length_append, hyl, tk, if_pos c]
            rfl
        · refine ⟨y, ys, hy, ?_⟩
          rw [hyl, tk, c]
          rfl
      · rintro H3 ⟨y, ys, hy, hyl⟩
        rw [hL.len, List.take_length] at hyl
        have tr3 := tr.same y
        have hroom := g.room i hi
        refine ⟨_, ys.length, rfl, .inl ⟨_, SqL.of hy, rfl⟩, _, rfl, _, rfl, t2, _, _, _, rfl, rfl, SqT.of tr3.rooms, atI_nat (rm i hi), _, _, rfl, rfl, _, rfl, iteDn (by omega) ⟨z.trans y, _, rfl⟩⟩
    · rintro σ H2 ⟨z, v7', rfl⟩
      exact k H2 z
end
end MV
end
/-! KLike -/
section
set_option Elab.async false
set_option linter.all false
set_option maxRecDepth 100000
set_option maxHeartbeats 4000000
/-! the law's like -/
namespace MV
open PySem PyProof.Rows L2 KX
open PySem.Spec hiding Row
/-- alike to a depth -/
def Lk (H : Hp) : Nat → V → V → Prop
  | 0, _, _ => False
  | D + 1, x, y => (x = y ∧ ((∃ i, x = .int i) ∨ (∃ b, x = .bl b) ∨ x = .non ∨ ∃ z, x = .str z)) ∨
    (∃ a b xs ys, x = .ref a ∧ y = .ref b ∧ ((H a = some (.tup xs) ∧ H b = some (.tup ys)) ∨ (H a = some (.lst xs) ∧ H b = some (.lst ys))) ∧ xs.length = ys.length ∧ xs.length ≤ 1000 ∧ ∀ (i : Nat) (u v : V), xs[i]? = some u → ys[i]? = some v → Lk H D u v)
theorem Lk.same {H H' : Hp} (s : Same H H') : ∀ {D : Nat} {x y : V}, Lk H D x y → Lk H' D x y
  | 0, _, _, h => h
  | D + 1, x, y, h => by
    rcases h with h | ⟨a, b, xs, ys, rfl, rfl, hk, hl, h1, hr⟩
    · exact .inl h
    · refine .inr ⟨a, b, xs, ys, rfl, rfl, ?_, hl, h1, fun i u v hu hv => Lk.same s (hr i u v hu hv)⟩
      rcases hk with ⟨h1, h2⟩ | ⟨h1, h2⟩
      · exact .inl ⟨s _ _ h1, s _ _ h2⟩
      · exact .inr ⟨s _ _ h1, s _ _ h2⟩
abbrev sLi : Stmt := top 22
abbrev nLi : List Str := ["_law_found", "_law_due", "_law_at"]
theorem scLi : FnScope nLi ["_law_found", "_law_due"] (defScope sLi) := ⟨rfl, rfl, rfl, by decide +kernel, rfl, by decide +kernel, by decide +kernel⟩
def spLi (D : Nat) : Sp := fun vs H Q _ => ∃ x y, vs = [x, y] ∧ Lk H D x y ∧ ∀ H', Same H H' → Q (.bl true) H'
theorem boot_strC : bootBuiltins "str" = some (.type "str") := by first | boot_by_name | rfl | kernel_rfl
section
variable {P : Program} {w : World} {K : PySem.W.Frag} {mg : Str → Option Value} {base : Heap}
theorem ok_li {f : Addr} {fd : FuncData} (F : Fun K "_law_like" "_law_like" sLi f fd) (B : Blt mg) (c : Fn K mg "_law_like" f fd ["_law_found", "_law_due"]) : ∀ D, FnOk P w K mg base CX0 (D + 1) f fd ["_law_found", "_law_due"] (spLi D)
  | 0 => by
    refine F.ok scLi (fun vs H Q E h => ?_) (fun cdv A outer s H vs Q E hr h => ?_)
    · obtain ⟨x, y, rfl, _⟩ := h
      rfl
    · obtain ⟨x, y, rfl, h, _⟩ := h
      exact h.elim
  | D + 1 => by
    have G := ok_li F B c D
    refine F.ok scLi (fun vs H Q E h => ?_) (fun cdv A outer s H vs Q E hr h => ?_)
    · obtain ⟨x, y, rfl, _⟩ := h
      rfl
    · obtain ⟨x, y, rfl, h, k⟩ := h
      refine ⟨_, pss_cons (ps_if (PW.pt (pw_or (pt_val (pe_isi B (pv 1) (by rfl) (by rfl) B.tuple boot_tup)) (pw_or1 (pt_val (pe_isi B (pv 1) (by rfl) (by rfl) B.list boot_list)))))
          (pss_cons (ps_if (PW.pt (pw_or (pt_cmpR op_ne (pe_isi B (pv 0) (by rfl) (by rfl) B.tuple boot_tup) (pe_isi B (pv 1) (by rfl) (by rfl) B.tuple boot_tup) (nomark _)) (pw_or1 (pt_cmpR op_ne (pe_isi B (pv 0) (by rfl) (by rfl) B.list boot_list) (pe_isi B (pv 1) (by rfl) (by rfl) B.list boot_list) (nomark _))))) (pss_one ps_never) pss_nil)
          (pss_cons (ps_if (pt_cmpR op_ne (pe_len B (pv 0)) (pe_len B (pv 1)) (nomark _)) (pss_one ps_never) pss_nil)
          (pss_cons (ps_for PassesOwn.never rfl (pi_range1 rfl B.range (pa_cons (pe_len B (pv 1)) pa_nil)) (pg_name (i := 2) scLi.nd rfl (Or.inl rfl))
            (pss_one (ps_if (pt_not (pt_val (pe_call G hr (by rfl) c.mg c.kp c.bi .nil pass0 (pa_cons (pe_ix ix_seq (pv 0) (pv 2) (fun _ _ => rfl)) (pa_cons (pe_ix ix_seq (pv 1) (pv 2) (fun _ _ => rfl)) pa_nil))))) (pss_one ps_never) pss_nil)))
          (pss_one (ps_ret pe_bl))))) pss_nil)
        (pss_cons (ps_if (pt_cmpR op_isN (pv 1) pe_non (nomark _)) (pss_one (ps_ret (pe_cmpR op_isN (pv 0) pe_non (nomark _)))) pss_nil)
        (pss_cons (ps_if (PW.pt (pw_or (pt_val (pe_isi B (pv 1) (by rfl) (by rfl) B.bool boot_bool)) (pw_or1 (pt_val (pe_isi B (pv 0) (by rfl) (by rfl) B.bool boot_bool))))) (pss_one (ps_ret (pe_and (pe_isi B (pv 1) (by rfl) (by rfl) B.bool boot_bool) (pe_and (pe_isi B (pv 0) (by rfl) (by rfl) B.bool boot_bool) (pe_one (pe_cmpR op_eq (pv 0) (pv 1) (nomark _))))))) pss_nil)
        (pss_cons (ps_if (pt_val (pe_isi B (pv 1) (by rfl) (by rfl) B.str boot_strC)) (pss_one (ps_ret (pe_and (pe_isi B (pv 0) (by rfl) (by rfl) B.str boot_strC) (pe_one (pe_cmpR op_eq (pv 0) (pv 1) (nomark _)))))) pss_nil)
        (pss_one (ps_ret (pe_and (pe_isi B (pv 0) (by rfl) (by rfl) B.int boot_int) (pe_one (pe_cmpR op_eq (pv 0) (pv 1) (nomark _))))))))), ?_⟩
      rcases h with ⟨rfl, hk⟩ | ⟨a, b, xs, ys, rfl, rfl, hk, hl, h1, hrec⟩
      · have qq := k H (fun _ _ e => e)
        rcases hk with ⟨i, rfl⟩ | ⟨bb, rfl⟩ | rfl | ⟨z, rfl⟩
        · refine ⟨_, rfl, _, _, _, _, false, rfl, .ty _, Kd.tyx (.int i), kit_ty (by decide +kernel), _, rfl, iteF ⟨_, rfl, _, _, _, _, false, rfl, .ty _, Kd.tyx (.int i), kit_ty (by decide +kernel), _, rfl, iteF ?_⟩⟩
          refine ⟨_, rfl, rfl, _, rfl, iteDn (fun z => nomatch z) ?_⟩
          refine ⟨_, rfl, _, _, _, _, false, rfl, .ty _, Kd.tyx (.int i), kit_ty (by decide +kernel), _, rfl, iteF ⟨_, rfl, _, _, _, _, false, rfl, .ty _, Kd.tyx (.int i), kit_ty (by decide +kernel), _, rfl, iteF ?_⟩⟩
          refine ⟨_, rfl, _, _, _, _, false, rfl, .ty _, Kd.tyx (.int i), kit_ty (by decide +kernel), _, rfl, iteF ?_⟩
          refine ⟨_, rfl, _, _, _, _, true, rfl, .ty _, Kd.tyx (.int i), kit_ty (by decide +kernel), _, rfl, iteT ⟨_, rfl, _, rfl, rfl, ?_⟩⟩
          show Q (.bl (decide (V.int i = V.int i))) H
          rw [decide_eq_true rfl]
          exact qq
        · refine ⟨_, rfl, _, _, _, _, false, rfl, .ty _, Kd.tyx (.bl bb), kit_ty (by decide +kernel), _, rfl, iteF ⟨_, rfl, _, _, _, _, false, rfl, .ty _, Kd.tyx (.bl bb), kit_ty (by decide +kernel), _, rfl, iteF ?_⟩⟩
          refine ⟨_, rfl, rfl, _, rfl, iteDn (fun z => nomatch z) ?_⟩
          refine ⟨_, rfl, _, _, _, _, true, rfl, .ty _, Kd.tyx (.bl bb), kit_ty (by decide +kernel), _, rfl, iteT ?_⟩
          refine ⟨_, rfl, _, _, _, _, true, rfl, .ty _, Kd.tyx (.bl bb), kit_ty (by decide +kernel), _, rfl, iteT ⟨_, rfl, _, _, _, _, true, rfl, .ty _, Kd.tyx (.bl bb), kit_ty (by decide +kernel), _, rfl, iteT ⟨_, rfl, _, rfl, rfl, ?_⟩⟩⟩
          show Q (.bl (decide (V.bl bb = V.bl bb))) H
          rw [decide_eq_true rfl]
          exact qq
        · refine ⟨_, rfl, _, _, _, _, false, rfl, .ty _, Kd.tyx Kd.non, kit_ty (by decide +kernel), _, rfl, iteF ⟨_, rfl, _, _, _, _, false, rfl, .ty _, Kd.tyx Kd.non, kit_ty (by decide +kernel), _, rfl, iteF ?_⟩⟩
          refine ⟨_, rfl, rfl, _, rfl, iteD rfl ⟨_, rfl, rfl, ?_⟩⟩
          exact qq
        · refine ⟨_, rfl, _, _, _, _, false, rfl, .ty _, Kd.tyx (.str z), kit_ty (by decide +kernel), _, rfl, iteF ⟨_, rfl, _, _, _, _, false, rfl, .ty _, Kd.tyx (.str z), kit_ty (by decide +kernel), _, rfl, iteF ?_⟩⟩
          refine ⟨_, rfl, rfl, _, rfl, iteDn (fun z => nomatch z) ?_⟩
          refine ⟨_, rfl, _, _, _, _, false, rfl, .ty _, Kd.tyx (.str z), kit_ty (by decide +kernel), _, rfl, iteF ⟨_, rfl, _, _, _, _, false, rfl, .ty _, Kd.tyx (.str z), kit_ty (by decide +kernel), _, rfl, iteF ?_⟩⟩
          refine ⟨_, rfl, _, _, _, _, true, rfl, .ty _, Kd.tyx (.str z), kit_ty (by decide +kernel), _, rfl, iteT ?_⟩
          refine ⟨_, rfl, _, _, _, _, true, rfl, .ty _, Kd.tyx (.str z), kit_ty (by decide +kernel), _, rfl, iteT ⟨_, rfl, _, rfl, rfl, ?_⟩⟩
          show Q (.bl (decide (V.str z = V.str z))) H
          rw [decide_eq_true rfl]
          exact qq
      · rcases hk with ⟨ha, hb⟩ | ⟨ha, hb⟩
        · refine ⟨_, rfl, _, _, _, _, true, rfl, .ty _, Kd.tyx (.tup hb), kit_ty (by decide +kernel), _, rfl, iteT ?_⟩
          refine ⟨_, rfl, _, _, _, _, true, rfl, .ty _, Kd.tyx (.tup ha), kit_ty (by decide +kernel), _, rfl, _, _, _, _, true, rfl, .ty _, Kd.tyx (.tup hb), kit_ty (by decide +kernel), rfl, _, rfl, iteF ⟨_, rfl, _, _, _, _, false, rfl, .ty _, Kd.tyx (.tup ha), kit_ty (by decide +kernel), _, rfl, _, _, _, _, false, rfl, .ty _, Kd.tyx (.tup hb), kit_ty (by decide +kernel), rfl, _, rfl, iteF ?_⟩⟩
          refine ⟨_, rfl, _, xs.length, rfl, .inr ⟨_, SqT.of ha, rfl⟩, _, rfl, _, ys.length, rfl, .inr ⟨_, SqT.of hb, rfl⟩, rfl, _, rfl, iteN (decide_eq_true (by rw [hl])) ?_⟩
          refine ⟨_, rfl, _, ys.length, rfl, .inr ⟨_, SqT.of hb, rfl⟩, ((ys.length : Nat) : Int), rfl, (by omega), (by omega), for_range (lo := 0) (n := ys.length) (fun i σ H' => Same H H' ∧ ∃ v2, σ = [some (.ref a), some (.ref b), v2]) ⟨fun _ _ e => e, _, rfl⟩ ?_ ?_⟩
          · rintro i σ H' hi ⟨z, v2, rfl⟩
            rw [Int.zero_add]
            have hy : ys[i]? = some ys[i] := List.getElem?_eq_getElem hi
            have hi' : i < xs.length := by omega
            have hx : xs[i]? = some xs[i] := List.getElem?_eq_getElem hi'
            refine ⟨_, rfl, _, rfl, .inr (.inl ⟨a, _, _, _, rfl, rfl, SqT.of (z _ _ ha), atI_nat hx, _, rfl, _, rfl, .inr (.inl ⟨b, _, _, _, rfl, rfl, SqT.of (z _ _ hb), atI_nat hy, xs[i], ys[i], rfl, Lk.same z (hrec i _ _ hx hy), fun H3 s3 => ⟨_, rfl, iteF ⟨z.trans s3, _, rfl⟩⟩⟩)⟩)⟩
          · rintro σ H' ⟨z, v2, rfl⟩
            exact k H' z
        · refine ⟨_, rfl, _, _, _, _, false, rfl, .ty _, Kd.tyx (.lst hb), kit_ty (by decide +kernel), _, rfl, iteF ⟨_, rfl, _, _, _, _, true, rfl, .ty _, Kd.tyx (.lst hb), kit_ty (by decide +kernel), _, rfl, iteT ?_⟩⟩
          refine ⟨_, rfl, _, _, _, _, false, rfl, .ty _, Kd.tyx (.lst ha), kit_ty (by decide +kernel), _, rfl, _, _, _, _, false, rfl, .ty _, Kd.tyx (.lst hb), kit_ty (by decide +kernel), rfl, _, rfl, iteF ⟨_, rfl, _, _, _, _, true, rfl, .ty _, Kd.tyx (.lst ha), kit_ty (by decide +kernel), _, rfl, _, _, _, _, true, rfl, .ty _, Kd.tyx (.lst hb), kit_ty (by decide +kernel), rfl, _, rfl, iteF ?_⟩⟩
          refine ⟨_, rfl, _, xs.length, rfl, .inl ⟨_, SqL.of ha, rfl⟩, _, rfl, _, ys.length, rfl, .inl ⟨_, SqL.of hb, rfl⟩, rfl, _, rfl, iteN (decide_eq_true (by rw [hl])) ?_⟩
          refine ⟨_, rfl, _, ys.length, rfl, .inl ⟨_, SqL.of hb, rfl⟩, ((ys.length : Nat) : Int), rfl, (by omega), (by omega), for_range (lo := 0) (n := ys.length) (fun i σ H' => Same H H' ∧ ∃ v2, σ = [some (.ref a), some (.ref b), v2]) ⟨fun _ _ e => e, _, rfl⟩ ?_ ?_⟩
          · rintro i σ H' hi ⟨z, v2, rfl⟩
            rw [Int.zero_add]
            have hy : ys[i]? = some ys[i] := List.getElem?_eq_getElem hi
            have hi' : i < xs.length := by omega
            have hx : xs[i]? = some xs[i] := List.getElem?_eq_getElem hi'
            refine ⟨_, rfl, _, rfl, .inl ⟨a, _, _, _, rfl, rfl, SqL.of (z _ _ ha), atI_nat hx, _, rfl, _, rfl, .inl ⟨b, _, _, _, rfl, rfl, SqL.of (z _ _ hb), atI_nat hy, xs[i], ys[i], rfl, Lk.same z (hrec i _ _ hx hy), fun H3 s3 => ⟨_, rfl, iteF ⟨z.trans s3, _, rfl⟩⟩⟩⟩⟩
          · rintro σ H' ⟨z, v2, rfl⟩
            exact k H' z
end
end MV
end
/-! KWrong -/
section
set_option Elab.async false
set_option linter.all false
set_option maxRecDepth 100000
set_option maxHeartbeats 4000000
/-! wrong wishes -/
namespace MV
open PySem PyProof.Rows L2 KX
open PySem.Spec hiding Row
abbrev sWw : Stmt := top 32
abbrev nWw : List Str := ["_law_hand", "_law_wishes_here", "_law_at", "_law_part"]
theorem scWw : FnScope nWw ["_law_hand", "_law_wishes_here"] (defScope sWw) := ⟨rfl, rfl, rfl, by decide +kernel, rfl, by decide +kernel, by decide +kernel⟩
inductive Flat : V → Prop
  | int (i : Int) : Flat (.int i)
  | bl (b : Bool) : Flat (.bl b)
  | non : Flat .non
  | str (z : Str) : Flat (.str z)
theorem Flat.kd {H : Hp} {x : V} (f : Flat x) : ∃ T, Kd H x T ∧ T ≠ "tuple" := by
  cases f with
  | int i => exact ⟨_, .int i, by decide⟩
  | bl b => exact ⟨_, .bl b, by decide⟩
  | non => exact ⟨_, .non, by decide⟩
  | str z => exact ⟨_, .str z, by decide⟩
theorem Flat.lk {H : Hp} {x : V} {D : Nat} (f : Flat x) : Lk H (D + 1) x x := by
  refine .inl ⟨rfl, ?_⟩
  cases f with
  | int i => exact .inl ⟨i, rfl⟩
  | bl b => exact .inr (.inl ⟨b, rfl⟩)
  | non => exact .inr (.inr (.inl rfl))
  | str z => exact .inr (.inr (.inr ⟨z, rfl⟩))
theorem lkT {H : Hp} {a : Addr} {xs : List V} {D : Nat} (h : H a = some (.tup xs)) (n : xs.length ≤ 1000) (k : ∀ x ∈ xs, Lk H D x x) : Lk H (D + 1) (.ref a) (.ref a) :=
  .inr ⟨a, a, xs, xs, rfl, rfl, .inl ⟨h, h⟩, rfl, n, fun i u v hu hv => by rw [hu] at hv; rw [← Option.some.inj hv]; exact k u (List.mem_of_getElem? hu)⟩
theorem lkL {H : Hp} {a : Addr} {xs : List V} {D : Nat} (h : H a = some (.lst xs)) (n : xs.length ≤ 1000) (k : ∀ x ∈ xs, Lk H D x x) : Lk H (D + 1) (.ref a) (.ref a) :=
  .inr ⟨a, a, xs, xs, rfl, rfl, .inr ⟨h, h⟩, rfl, n, fun i u v hu hv => by rw [hu] at hv; rw [← Option.some.inj hv]; exact k u (List.mem_of_getElem? hu)⟩
def PartOk (H : Hp) (x : V) : Prop := (Flat x ∧ fromTo x 1 3 = false) ∨ ∃ u, x = .ref u ∧ H u = some (.tup [nv 1])
theorem PartOk.sb {h : Addr} {H H' : Hp} {x : V} (p : PartOk H x) (s : SB h H H') {xs : List V} (hh : H h = some (.lst xs)) : PartOk H' x := by
  rcases p with p | ⟨u, rfl, hu⟩
  · exact .inl p
  · exact .inr ⟨u, rfl, s _ _ hu (ne_of hu hh (fun e => nomatch e))⟩
theorem PartOk.no {H : Hp} {x : V} (p : PartOk H x) : fromTo x 1 3 = false := by
  rcases p with p | ⟨u, rfl, hu⟩
  · exact p.2
  · rfl
theorem PartOk.kd {H : Hp} {x : V} (p : PartOk H x) : ∃ T, Kd H x T := by
  rcases p with p | ⟨u, rfl, hu⟩
  · obtain ⟨T, h, _⟩ := p.1.kd (H := H)
    exact ⟨T, h⟩
  · exact ⟨_, .tup hu⟩
theorem PartOk.lk {H : Hp} {x : V} (p : PartOk H x) : Lk H 2 x x := by
  rcases p with p | ⟨u, rfl, hu⟩
  · exact p.1.lk
  · exact lkT hu (by decide) fun x hx => by rw [show x = nv 1 by simpa using hx]; exact (Flat.int _).lk
theorem cut_to (xs : List V) (k : Nat) : cutV xs none (some (k : Int)) = xs.take k := by
  unfold cutV
  rw [HT.sIx_none, HT.sIx_nat, List.drop_zero, Nat.sub_zero]
  by_cases c : k ≤ xs.length
  · rw [Nat.min_eq_left c]
  · rw [Nat.min_eq_right (by omega), List.take_of_length_le (Nat.le_refl _), List.take_of_length_le (by omega)]
theorem cut_from (xs : List V) (k : Nat) : cutV xs (some (k : Int)) none = xs.drop k := by
  unfold cutV
  rw [HT.sIx_none, HT.sIx_nat]
  by_cases c : k ≤ xs.length
  · rw [Nat.min_eq_left c, List.take_of_length_le (by rw [List.length_drop]; omega)]
  · rw [Nat.min_eq_right (by omega), List.drop_eq_nil_of_le (Nat.le_refl _), List.drop_eq_nil_of_le (by omega), List.take_nil]
section
variable {P : Program} {w : World} {K : PySem.W.Frag} {mg : Str → Option Value} {base : Heap}
def spWw : Sp := fun vs H Q _ => ∃ (h d wy : Addr) (ds : List Int) (W : List Nat), vs = [.ref h, .ref wy] ∧ HandAt h d ds H ∧ H wy = some (.tup (nvs W)) ∧ W.length ≤ 4 ∧ ∀ x H', SB h H H' → BadW H' x → Lk H' 3 x x → Q x H'
theorem ok_ww {f fT : Addr} {fd fdT : FuncData} (F : Fun K "_law_wrong_wishes" "_law_wrong_wishes" sWw f fd) (B : Blt mg) (c : Fn K mg "_law_take" fT fdT ["_law_hand", "_law_many"]) (G : FnOk P w K mg base CX0 1 fT fdT ["_law_hand", "_law_many"] spTk) :
    FnOk P w K mg base CX0 2 f fd ["_law_hand", "_law_wishes_here"] spWw := by
  refine F.ok scWw (fun vs H Q E h => ?_) (fun cdv A outer s H vs Q E hr h => ?_)
  · obtain ⟨h, d, wy, ds, W, rfl, _⟩ := h
    rfl
  · obtain ⟨h, d, wy, ds, W, rfl, hh, hw, W4, k⟩ := h
    refine ⟨_, pss_cons (ps_set (i := 1) scWw.nd rfl (Or.inl rfl) (pe_join (pe_op op_catA (pv 1) (pe_tup (pa_cons pe_int pa_nil)))))
      (pss_cons (ps_set (i := 2) scWw.nd rfl (Or.inl rfl) (pe_call G hr (by rfl) c.mg c.kp c.bi .nil pass0 (pa_cons (pv 0) (pa_cons (pe_len B (pv 1)) pa_nil))))
      (pss_cons (ps_set (i := 3) scWw.nd rfl (Or.inl rfl) (pe_ix ix_list (pe_lst (pa_cons pe_int (pa_cons pe_int (pa_cons (pe_un un_neg pe_int) (pa_cons pe_bl (pa_cons pe_non (pa_cons pe_str (pa_cons (pe_tup (pa_cons pe_int pa_nil)) pa_nil)))))))) (pe_call G hr (by rfl) c.mg c.kp c.bi .nil pass0 (pa_cons (pv 0) (pa_cons pe_int pa_nil))) (fun _ _ => rfl)))
      (pss_one (ps_ret (pe_ix ix_list (pe_lst (pa_cons (pe_join (pe_op op_catA (pe_join (pe_op op_catA (pe_join (pe_slice sl_tupA (pv 1) po_none (po_some (pv 2)))) (pe_tup (pa_cons (pv 3) pa_nil)))) (pe_join (pe_slice sl_tupA (pv 1) (po_some (pe_op op_add (pv 2) pe_int)) po_none))))
        (pa_cons (pe_t1 call_list_of B.list boot_list (pv 1)) (pa_cons pe_non (pa_cons pe_int (pa_cons pe_str (pa_cons (pe_tup (pa_cons pe_bl pa_nil)) pa_nil))))))) (pe_call G hr (by rfl) c.mg c.kp c.bi .nil pass0 (pa_cons (pv 0) (pa_cons pe_int pa_nil))) (fun _ _ => rfl)))))), ?_⟩
    let V1 := nvs (W ++ [1])
    have v1len : V1.length = W.length + 1 := by rw [nvs_len, List.length_append]; rfl
    have ev1 : nvs W ++ [nv 1] = V1 := by show _ = (W ++ [1]).map nv; rw [List.map_append]; rfl
    refine ⟨fun v H' => ∃ t, v = .ref t ∧ H' t = some (.tup V1) ∧ Same H H', ?_, ?_⟩
    · refine ⟨_, rfl, (by show 1 ≤ sizeLine; decide), fun u hu => ?_⟩
      have s1 : Same H (upd H u (.tup [nv 1])) := sNew hu
      refine ⟨wy, u, nvs W, [nv 1], rfl, rfl, SqT.of (s1 _ _ hw), SqT.of upd_same, ?_, fun e => ⟨u, rfl, ?_, s1⟩, fun _ e => absurd e (by simp), fun _ _ p hp => ⟨p, rfl, ?_, sAdd s1 hp⟩⟩
      · rw [nvs_len]
        show W.length + 1 ≤ sizeLine
        exact Nat.le_of_lt (small (by omega))
      · rw [upd_same, ← ev1, e]; rfl
      · rw [upd_same, ev1]
    rintro _ H1 ⟨wt, rfl, hwt, s1⟩
    have hh1 := hh.same s1
    refine ⟨_, rfl, _, rfl, _, V1.length, rfl, .inr ⟨_, SqT.of hwt, rfl⟩, h, d, ds, V1.length, rfl, by omega, hh1, fun at_ hat H2 hh2 s2 _ => ?_⟩
    have wth : wt ≠ h := by
      obtain ⟨kk, e1, _⟩ := hh1
      exact ne_of hwt e1 (fun e => nomatch e)
    have hwt2 := s2 _ _ hwt wth
    -- the part
    refine ⟨_, rfl, (by show 1 ≤ sizeLine; decide), fun u hu => ⟨(by show 7 ≤ sizeLine; decide), fun l hl => ?_⟩⟩
    have nu := ne_hand hh2 hu
    have hhu := hh2.put (o := .tup [nv 1]) nu.1 nu.2
    have nl := ne_hand hhu hl
    let Ps : List V := [.int 0, .int 4, .int (-1), .bl true, .non, .str "1", .ref u]
    have hh3 := hhu.put (o := .lst Ps) nl.1 nl.2
    have s3 : Same H2 (upd (upd H2 u (.tup [nv 1])) l (.lst Ps)) := (sNew hu).trans (sNew hl)
    refine ⟨_, rfl, h, d, ds, 7, rfl, by decide, hh3, fun r hr' H4 hh4 s4 _ => ?_⟩
    have hl4 := s4 _ _ (upd_same (H := upd H2 u (.tup [nv 1])) (a := l) (o := .lst Ps)) nl.1.symm
    have hu3 : (upd (upd H2 u (.tup [nv 1])) l (.lst Ps)) u = some (.tup [nv 1]) := by rw [upd_ne (ne_of_none upd_same hl), upd_same]
    have hu4 : H4 u = some (.tup [nv 1]) := s4 _ _ hu3 nu.1.symm
    obtain ⟨kk, e41, _⟩ := id hh4
    obtain ⟨x, hx⟩ : ∃ x, Ps[r]? = some x := ⟨Ps[r]'hr', List.getElem?_eq_getElem hr'⟩
    have pk : PartOk H4 x := by
      have hm := List.mem_of_getElem? hx
      rcases List.mem_cons.mp hm with e | hm
      · rw [e]; exact .inl ⟨.int _, by decide⟩
      rcases List.mem_cons.mp hm with e | hm
      · rw [e]; exact .inl ⟨.int _, by decide⟩
      rcases List.mem_cons.mp hm with e | hm
      · rw [e]; exact .inl ⟨.int _, by decide⟩
      rcases List.mem_cons.mp hm with e | hm
      · rw [e]; exact .inl ⟨.bl _, by decide⟩
      rcases List.mem_cons.mp hm with e | hm
      · rw [e]; exact .inl ⟨.non, by decide⟩
      rcases List.mem_cons.mp hm with e | hm
      · rw [e]; exact .inl ⟨.str _, by rfl⟩
      · have e : x = .ref u := by simpa using hm
        rw [e]; exact .inr ⟨u, rfl, hu4⟩
    refine ⟨l, Ps, _, x, rfl, rfl, SqL.of hl4, atI_nat hx, ?_⟩
    have s24 : SB h H H4 := (((SB.of s1).trans s2).trans (.of s3)).trans s4
    have hwt4 : H4 wt = some (.tup V1) := s4 _ _ (s3 _ _ hwt2) wth
    -- the answer's list
    refine ⟨fun v H' => ∃ t, v = .ref t ∧ H' t = some (.tup (V1.take at_ ++ [x] ++ V1.drop (at_ + 1))) ∧ Same H4 H', ?_, ?_⟩
    · refine ⟨fun v H' => ∃ t, v = .ref t ∧ H' t = some (.tup (V1.take at_ ++ [x])) ∧ Same H4 H', ?_, ?_⟩
      · refine ⟨fun v H' => ∃ t, v = .ref t ∧ H' t = some (.tup (V1.take at_)) ∧ Same H4 H', ?_, ?_⟩
        · refine ⟨_, rfl, _, rfl, _, rfl, wt, V1, rfl, SqT.of hwt4, fun e => ⟨wt, rfl, ?_, fun _ _ e => e⟩, fun _ p hp => ⟨p, rfl, ?_, sNew hp⟩⟩
          · have e2 : HT.sIx V1.length V1.length (some (at_ : Int)) = V1.length := e.2
            rw [HT.sIx_nat] at e2
            rw [hwt4, List.take_of_length_le (by omega)]
          · have e3 : cutV V1 none (some (at_ : Int)) = V1.take at_ := cut_to V1 at_
            show upd H4 p (.tup (cutV V1 none (some (at_ : Int)))) p = _
            rw [upd_same, e3]
        · rintro _ H5 ⟨ta, rfl, hta, s5⟩
          refine ⟨_, rfl, (by show 1 ≤ sizeLine; decide), fun q hq => ?_⟩
          have sq : Same H5 (upd H5 q (.tup [x])) := sNew hq
          refine ⟨ta, q, _, _, rfl, rfl, SqT.of (sq _ _ hta), SqT.of upd_same, ?_, fun e => ⟨q, rfl, ?_, s5.trans sq⟩, fun _ e => absurd e (by simp), fun _ _ p hp => ⟨p, rfl, upd_same, s5.trans (sAdd sq hp)⟩⟩
          · have := List.length_take_le' at_ V1
            show (V1.take at_).length + 1 ≤ sizeLine
            exact Nat.le_of_lt (small (by omega))
          · rw [upd_same, e]; rfl
      · rintro _ H5 ⟨ta, rfl, hta, s5⟩
        refine ⟨fun v H' => ∃ t, v = .ref t ∧ H' t = some (.tup (V1.drop (at_ + 1))) ∧ Same H5 H', ?_, ?_⟩
        · refine ⟨_, rfl, _, rfl, _, _, rfl, rfl, ?_⟩
          have ea : V.int ((at_ : Int) + 1) = nv (at_ + 1) := nat_add at_ 1
          refine ⟨((at_ + 1 : Nat) : Int), ea, wt, V1, rfl, SqT.of (s5 _ _ hwt4), fun e => ?_, fun _ p hp => ⟨p, rfl, ?_, sNew hp⟩⟩
          · exfalso
            have e1 : HT.sIx V1.length 0 (some ((at_ + 1 : Nat) : Int)) = 0 := e.1
            rw [HT.sIx_nat] at e1
            omega
          · have e3 : cutV V1 (some ((at_ + 1 : Nat) : Int)) none = V1.drop (at_ + 1) := cut_from V1 (at_ + 1)
            show upd H5 p (.tup (cutV V1 (some ((at_ + 1 : Nat) : Int)) none)) p = _
            rw [upd_same, e3]
        · rintro _ H6 ⟨tb, rfl, htb, s6⟩
          have hta6 := s6 _ _ hta
          refine ⟨ta, tb, _, _, rfl, rfl, SqT.of hta6, SqT.of htb, ?_, fun e => absurd e (by simp), fun _ e => ⟨ta, rfl, ?_, s5.trans s6⟩, fun _ _ p hp => ⟨p, rfl, upd_same, s5.trans (sAdd s6 hp)⟩⟩
          · rw [List.length_append, List.length_take, List.length_drop]
            exact Nat.le_of_lt (small (by simp only [List.length_singleton]; omega))
          · rw [hta6, e, List.append_nil]
    rintro _ H5 ⟨tB, rfl, htB, s5⟩
    refine ⟨_, rfl, wt, V1, rfl, .inr (SqT.of (s5 _ _ hwt4)), fun tl htl => ⟨(by show 1 ≤ sizeLine; decide), fun tT htT => ⟨(by show 6 ≤ sizeLine; decide), fun L hL => ?_⟩⟩⟩
    let Rs : List V := [.ref tB, .ref tl, .non, .int 2, .str "12", .ref tT]
    let H8 := upd (upd (upd H5 tl (.lst V1)) tT (.tup [.bl true])) L (.lst Rs)
    have s6 : Same H5 (upd H5 tl (.lst V1)) := sNew htl
    have s7 : Same (upd H5 tl (.lst V1)) (upd (upd H5 tl (.lst V1)) tT (.tup [.bl true])) := sNew htT
    have s8 : Same (upd (upd H5 tl (.lst V1)) tT (.tup [.bl true])) H8 := sNew hL
    have s48 : Same H4 H8 := s5.trans (s6.trans (s7.trans s8))
    have hh8 := hh4.same s48
    refine ⟨_, rfl, h, d, ds, 6, rfl, by decide, hh8, fun r2 hr2 H9 hh9 s9 _ => ?_⟩
    obtain ⟨hk, hhk, _⟩ := hh8
    have up : ∀ {a : Addr} {o : HO}, a ≠ h → H8 a = some o → H9 a = some o := fun n e => s9 _ _ e n
    have notL : ∀ {a : Addr} {xs : List V}, H8 a = some (.tup xs) → a ≠ h := fun e => ne_of e hhk (fun e => nomatch e)
    have nLh : L ≠ h := fun e => by
      have h9 : (upd (upd H5 tl (.lst V1)) tT (.tup [.bl true])) h = none := by rw [← e]; exact hL
      have h10 := s7 _ _ (s6 _ _ (s5 _ _ e41))
      rw [h9] at h10
      cases h10
    have ntl : tl ≠ h := fun e => by
      have h10 := s5 _ _ e41
      rw [← e, htl] at h10
      cases h10
    have hB9 := up (notL (s8 _ _ (s7 _ _ (s6 _ _ htB)))) (s8 _ _ (s7 _ _ (s6 _ _ htB)))
    have hl9 := up ntl (s8 _ _ (s7 _ _ upd_same))
    have hT9 := up (notL (s8 _ _ upd_same)) (s8 _ _ (upd_same (H := upd H5 tl (.lst V1)) (a := tT) (o := .tup [.bl true])))
    have hL9 : H9 L = some (.lst Rs) := up nLh upd_same
    have s29 : SB h H H9 := (s24.trans (.of s48)).trans s9
    obtain ⟨y, hy⟩ : ∃ y, Rs[r2]? = some y := ⟨Rs[r2]'hr2, List.getElem?_eq_getElem hr2⟩
    refine ⟨L, Rs, _, y, rfl, rfl, SqL.of hL9, atI_nat hy, ?_⟩
    have pk8 : PartOk H8 x := pk.sb (SB.of (p := h) s48) e41
    have pk9 : PartOk H9 x := pk8.sb s9 hhk
    have nvk : ∀ y ∈ V1, ∃ n : Nat, y = nv n := fun y hy => by
      obtain ⟨n, _, e⟩ := List.mem_map.mp hy
      exact ⟨n, e.symm⟩
    have Bm : ∀ y ∈ V1.take at_ ++ [x] ++ V1.drop (at_ + 1), (∃ n : Nat, y = nv n) ∨ y = x := fun y hy => by
      rcases List.mem_append.mp hy with h1 | h1
      · rcases List.mem_append.mp h1 with h2 | h2
        · exact .inl (nvk y (List.mem_of_mem_take h2))
        · exact .inr (by simpa using h2)
      · exact .inl (nvk y (List.mem_of_mem_drop h1))
    have Bl : (V1.take at_ ++ [x] ++ V1.drop (at_ + 1)).length ≤ 1000 := by
      rw [List.length_append, List.length_append, List.length_take, List.length_drop]
      simp only [List.length_singleton]
      omega
    have bad : BadW H9 y ∧ Lk H9 3 y y := by
      have hm := List.mem_of_getElem? hy
      rcases List.mem_cons.mp hm with e | hm
      · rw [e]
        refine ⟨.inl ⟨tB, _, rfl, hB9, Bl, fun y hy => ?_, ?_⟩, lkT hB9 Bl fun y hy => ?_⟩
        · rcases Bm y hy with ⟨n, rfl⟩ | rfl
          · exact ⟨_, .int _⟩
          · exact pk9.kd
        · rw [List.all_eq_false]
          exact ⟨x, by simp, by rw [pk9.no]; decide⟩
        · rcases Bm y hy with ⟨n, rfl⟩ | rfl
          · exact (Flat.int _).lk
          · exact pk9.lk
      rcases List.mem_cons.mp hm with e | hm
      · rw [e]
        refine ⟨.inr ⟨_, .lst hl9, by decide⟩, lkL hl9 (by omega) fun y hy => ?_⟩
        obtain ⟨n, rfl⟩ := nvk y hy
        exact (Flat.int _).lk
      rcases List.mem_cons.mp hm with e | hm
      · rw [e]; exact ⟨.inr Flat.non.kd, Flat.non.lk⟩
      rcases List.mem_cons.mp hm with e | hm
      · rw [e]; exact ⟨.inr (Flat.int _).kd, (Flat.int _).lk⟩
      rcases List.mem_cons.mp hm with e | hm
      · rw [e]; exact ⟨.inr (Flat.str _).kd, (Flat.str _).lk⟩
      · have e : y = .ref tT := by simpa using hm
        rw [e]
        refine ⟨.inl ⟨tT, _, rfl, hT9, by decide, fun y hy => ?_, rfl⟩, lkT hT9 (by decide) fun y hy => ?_⟩
        · rw [show y = .bl true by simpa using hy]; exact ⟨_, .bl _⟩
        · rw [show y = .bl true by simpa using hy]; exact (Flat.bl _).lk
    exact k y H9 s29 bad.1 bad.2
end
end MV
end
/-! KRight -/
section
set_option Elab.async false
set_option linter.all false
set_option maxRecDepth 100000
set_option maxHeartbeats 4000000
/-! the law's right -/
namespace MV
open PySem PyProof.Rows L2 KX
open PySem.Spec hiding Row
open MW (Inst Row Chosen)
theorem good_of {racks rooms rates W : List Nat} {ch : Chosen} (ok : ClOk racks rooms rates) (W1 : ∀ v ∈ W, 1 ≤ v) (f : MW.Final (instOf racks rooms W) ch) : Good racks rooms W (MW.placing ch) := by
  let I := instOf racks rooms W
  have e := f.placing_eq
  have im : I.m = W.length := rfl
  have mem : ∀ l ∈ MW.placing ch, ∃ q, q < I.m ∧ l = MW.lotOf (ch.getD q []) := fun l hl => by
    rw [e] at hl
    obtain ⟨q, hq, rfl⟩ := List.mem_map.mp hl
    exact ⟨q, List.mem_range.mp hq, rfl⟩
  have cnt : ∀ (q : Nat) (l : List Nat), (MW.placing ch)[q]? = some l → W[q]? = some l.length := fun q l hl => by
    rw [e, List.getElem?_map] at hl
    by_cases hq : q < I.m
    · rw [List.getElem?_range hq] at hl
      have hl : MW.lotOf (ch.getD q []) = l := Option.some.inj hl
      rw [← hl, f.count hq]
      exact nat_at (l := W) hq
    · rw [List.getElem?_eq_none (by rw [List.length_range]; exact Nat.le_of_not_lt hq)] at hl
      cases hl
  refine ⟨?_, cnt, fun l hl s hs => ?_, fun l hl => ?_, fun l hl s hs t ht z => ?_, fun l hl z => ?_, fun s hs => f.roomy hs⟩
  · rw [e, List.length_map, List.length_range]
    rfl
  · obtain ⟨q, hq, rfl⟩ := mem l hl
    exact f.lt hs
  · obtain ⟨q, hq, rfl⟩ := mem l hl
    exact f.rising q
  · obtain ⟨q, hq, rfl⟩ := mem l hl
    exact f.racks hs ht z
  · obtain ⟨q, hq⟩ := List.getElem?_of_mem hl
    have := cnt q l hq
    rw [z] at this
    have := W1 _ (List.mem_of_getElem? this)
    simp at this
theorem lk_lots {H : Hp} : ∀ {xs ys : List V} {L : List (List Nat)}, LotsAt H xs L → LotsAt H ys L → (∀ l ∈ L, l.length ≤ 1000) → ∀ (i : Nat) (u v : V), xs[i]? = some u → ys[i]? = some v → Lk H 2 u v := by
  intro xs ys L hx hy hl i u v hu hv
  obtain ⟨t, l, rfl, hl1, ht⟩ := hx.get hu
  obtain ⟨t', l', rfl, hl2, ht'⟩ := hy.get hv
  rw [hl1] at hl2
  have e := Option.some.inj hl2
  subst e
  refine .inr ⟨t, t', nvs l, nvs l, rfl, rfl, .inl ⟨ht, ht'⟩, rfl, by rw [nvs_len]; exact hl l (List.mem_of_getElem? hl1), fun j a b ha hb => ?_⟩
  rw [ha] at hb
  rw [← Option.some.inj hb]
  obtain ⟨n, _, rfl⟩ := nvs_get ha
  exact (Flat.int _).lk
theorem sh_two : SeqAt.shaped (.list [.str "undefined", .str "room"]) = true := by decide +kernel
abbrev sRi : Stmt := top 34
abbrev nRi : List Str := ["_law_cluster_here", "_law_wishes_here", "_law_made", "_law_found"]
theorem scRi : FnScope nRi ["_law_cluster_here", "_law_wishes_here"] (defScope sRi) := ⟨rfl, rfl, rfl, by decide +kernel, rfl, by decide +kernel, by decide +kernel⟩
section
variable {P : Program} {w : World} {K : PySem.W.Frag} {mg : Str → Option Value} {base : Heap} {CC : Addr}
def spRi : Sp := fun vs H Q _ => ∃ (a t1 t2 t3 wy : Addr) (racks rooms rates W : List Nat), vs = [.ref a, .ref wy] ∧ TriAt H a t1 t2 t3 racks rooms rates ∧ ClOk racks rooms rates ∧ H wy = some (.tup (nvs W)) ∧ W.length ≤ 4 ∧ (∀ v ∈ W, 1 ≤ v ∧ v ≤ 3) ∧ ∀ H', Same H H' → Q (.bl true) H'
theorem ok_ri {f fC fT fA fP fB fL : Addr} {fd fdC fdT fdA fdP fdB fdL : FuncData} (F : Fun K "_law_right" "_law_right" sRi f fd) (B : Blt mg) (gC : mg "Cluster" = some (.ref CC)) (M : Mk K CC fC) (GC : FnOk P w K mg base CX0 2 fC fdC ["self", "racks", "rooms", "rates"] (spCl CC)) (bC : Binds K fdC ["self", "racks", "rooms", "rates"] [])
    (cT : Fn K mg "_law_told" fT fdT ["_law_cluster_here", "_law_wishes_here"]) (GT : FnOk P w K mg base CX0 8 fT fdT ["_law_cluster_here", "_law_wishes_here"] (spTo CC))
    (cA : Fn K mg "_law_any_lacks" fA fdA ["_law_cluster_here", "_law_wishes_here"]) (GA : FnOk P w K mg base CX0 2 fA fdA ["_law_cluster_here", "_law_wishes_here"] spAl)
    (cP : Fn K mg "_law_is_placing" fP fdP ["_law_value", "_law_stores", "_law_many"]) (GP : FnOk P w K mg base CX0 3 fP fdP ["_law_value", "_law_stores", "_law_many"] spIp)
    (cB : Fn K mg "_law_breach" fB fdB ["_law_cluster_here", "_law_wishes_here", "_law_placing"]) (GB : FnOk P w K mg base CX0 1 fB fdB ["_law_cluster_here", "_law_wishes_here", "_law_placing"] spBr)
    (cL : Fn K mg "_law_like" fL fdL ["_law_found", "_law_due"]) (GL : FnOk P w K mg base CX0 5 fL fdL ["_law_found", "_law_due"] (spLi 4)) :
    FnOk P w K mg base CX0 9 f fd ["_law_cluster_here", "_law_wishes_here"] spRi := by
  refine F.ok scRi (fun vs H Q E h => ?_) (fun cdv A outer s H vs Q E hr h => ?_)
  · obtain ⟨a, t1, t2, t3, wy, racks, rooms, rates, W, rfl, _⟩ := h
    rfl
  · obtain ⟨a, t1, t2, t3, wy, racks, rooms, rates, W, rfl, tri, ok, hw, W4, W3, k⟩ := h
    refine ⟨_, pss_cons (ps_set (i := 2) scRi.nd rfl (Or.inl rfl) (pe_make M GC (hr.mono (by decide)) rfl gC bC .nil pass0 (pa_cons (pe_ix ix_tup (pv 0) pe_int (fun _ _ => rfl)) (pa_cons (pe_ix ix_tup (pv 0) pe_int (fun _ _ => rfl)) (pa_cons (pe_ix ix_tup (pv 0) pe_int (fun _ _ => rfl)) pa_nil)))))
      (pss_cons (ps_set (i := 3) scRi.nd rfl (Or.inl rfl) (pe_call GT hr (by rfl) cT.mg cT.kp cT.bi .nil pass0 (pa_cons (pv 2) (pa_cons (pv 1) pa_nil))))
      (pss_cons (ps_if (pt_val (pe_call GA (hr.mono (by decide)) (by rfl) cA.mg cA.kp cA.bi .nil pass0 (pa_cons (pv 0) (pa_cons (pv 1) pa_nil)))) (pss_one (ps_ret (pe_cmpR (op_eqD hr.units) (pv 3) (pe_lst (pa_cons pe_str (pa_cons pe_str pa_nil))) (nomark _)))) pss_nil)
      (pss_cons (ps_if (PW.pt (pw_or (pt_cmpR op_ne (pe_ix ix_list (pv 3) pe_int (fun _ _ => rfl)) pe_str (nomark _)) (pw_or1 (pt_not (pt_val (pe_call GP (hr.mono (by decide)) (by rfl) cP.mg cP.kp cP.bi .nil pass0 (pa_cons (pe_ix ix_list (pv 3) pe_int (fun _ _ => rfl)) (pa_cons (pe_len B (pe_ix ix_tup (pv 0) pe_int (fun _ _ => rfl))) (pa_cons (pe_len B (pv 1)) pa_nil))))))))) (pss_one ps_never) pss_nil)
      (pss_one (ps_ret (pe_and (pe_cmpR op_isN (pe_call GB (hr.mono (by decide)) (by rfl) cB.mg cB.kp cB.bi .nil pass0 (pa_cons (pv 0) (pa_cons (pv 1) (pa_cons (pe_ix ix_list (pv 3) pe_int (fun _ _ => rfl)) pa_nil)))) pe_non (nomark _)) (pe_one (pe_call GL (hr.mono (by decide)) (by rfl) cL.mg cL.kp cL.bi .nil pass0 (pa_cons (pe_call GT hr (by rfl) cT.mg cT.kp cT.bi .nil pass0 (pa_cons (pv 2) (pa_cons (pv 1) pa_nil))) (pa_cons (pv 3) pa_nil)))))))))), ?_⟩
    refine ⟨_, rfl, a, _, 0, .ref t1, rfl, rfl, SqT.of tri.tri, rfl, _, rfl, a, _, 1, .ref t2, rfl, rfl, SqT.of tri.tri, rfl, _, rfl, a, _, 2, .ref t3, rfl, rfl, SqT.of tri.tri, rfl, fun x dx hx hdx hne => ?_⟩
    have s0 : Same H (upd (upd H dx (.own x)) x (.ins CC dx [])) := (sNew hdx).trans (sNew (by rw [upd_ne hne.symm]; exact hx))
    have tr0 := tri.same s0
    refine ⟨x, dx, t1, t2, t3, racks, rooms, rates, rfl, upd_same, tr0.racks, tr0.rooms, tr0.rates, ok, fun H1 cl sb => ⟨rfl, ?_⟩⟩
    have s1 : Same H H1 := fun b o e => sb b o (s0 _ _ e) (ne_of_none e hx)
    have iok := instOf_ok (W := W) ok
    refine ⟨_, rfl, _, rfl, x, dx, t1, t2, t3, racks, rooms, rates, .ref wy, rfl, cl, ok, .inl ⟨wy, W, rfl, s1 _ _ hw, W4, W3, fun hf l H2 s2 hl => ?_, fun ch hf H2 l p xs s2 hl hp hL => ?_⟩⟩
    · have s02 := s1.trans s2
      have an := MW.fill_none iok hf
      refine ⟨_, rfl, _, rfl, a, t1, t2, t3, wy, racks, rooms, rates, W, rfl, tri.same s02, ok, s02 _ _ hw, W4, fun H3 s3 => ?_⟩
      rw [an]
      refine ⟨true, rfl, iteT ⟨_, rfl, (by show 2 ≤ sizeLine; decide), fun m hm => ?_⟩⟩
      have hl3 : (upd H3 m (.lst [.str "undefined", .str "room"])) l = some (.lst [.str "undefined", .str "room"]) := sNew hm _ _ (s3 _ _ hl)
      refine ⟨.list [.str "undefined", .str "room"], .list [.str "undefined", .str "room"], .lst (SqL.of hl3) (.cons (.str _) (.cons (.str _) .nil)), .lst (SqL.of upd_same) (.cons (.str _) (.cons (.str _) .nil)), sh_two, sh_two, ?_⟩
      have e : PyData.eqv (.list [.str "undefined", .str "room"]) (.list [.str "undefined", .str "room"]) = true := by simp [PyData.eqv, PyData.eqvAll]
      rw [e]
      exact k _ (s02.trans (sAdd s3 hm))
    · obtain ⟨fin, an⟩ := MW.fill_some iok hf
      have g := good_of ok (fun v hv => (W3 v hv).1) fin
      have s02 := s1.trans s2
      have n8 := ok.n8
      refine ⟨_, rfl, _, rfl, a, t1, t2, t3, wy, racks, rooms, rates, W, rfl, tri.same s02, ok, s02 _ _ hw, W4, fun H3 s3 => ?_⟩
      rw [an]
      refine ⟨false, rfl, iteF ?_⟩
      have s03 := s02.trans s3
      have hl3 := s3 _ _ hl
      have hp3 := s3 _ _ hp
      have hL3 := hL.same s3
      have tr3 := tri.same s03
      refine ⟨_, rfl, l, _, 0, .str "fine", rfl, rfl, SqL.of hl3, rfl, rfl, _, rfl, iteN (decide_eq_true rfl) ?_⟩
      refine ⟨_, rfl, l, _, 1, .ref p, rfl, rfl, SqL.of hl3, rfl, _, rfl, a, _, 0, .ref t1, rfl, rfl, SqT.of tr3.tri, rfl, _, (nvs racks).length, rfl, .inr ⟨_, SqT.of tr3.racks, rfl⟩, _, rfl, _, (nvs W).length, rfl, .inr ⟨_, SqT.of (s03 _ _ hw), rfl⟩, p, xs, MW.placing ch, racks, rooms, W, ?_, hp3, hL3, g, n8, W4, true, rfl, iteF ?_⟩
      · rw [nvs_len, nvs_len]
        rfl
      refine ⟨_, rfl, _, rfl, _, rfl, l, _, 1, .ref p, rfl, rfl, SqL.of hl3, rfl, a, t1, t2, t3, wy, p, racks, rooms, rates, W, xs, MW.placing ch, rfl, tr3, ok, s03 _ _ hw, W4, hp3, hL3, g, fun H4 s4 => ⟨rfl, _, rfl, iteD rfl ?_⟩⟩
      have s14 : Same H1 H4 := s2.trans (s3.trans s4)
      have s04 := s03.trans s4
      refine ⟨_, rfl, _, rfl, x, dx, t1, t2, t3, racks, rooms, rates, .ref wy, rfl, cl.same s14, ok, .inl ⟨wy, W, rfl, s04 _ _ hw, W4, W3, fun hf' => ?_, fun ch' hf' H5 l2 p2 xs2 s5 hl2 hp2 hL2 => ?_⟩⟩
      · rw [hf] at hf'
        cases hf'
      · rw [hf] at hf'
        have e := Option.some.inj hf'
        subst e
        have hl5 := s5 _ _ (s4 _ _ hl3)
        have hp5 := s5 _ _ (s4 _ _ hp3)
        have hL5 := (hL3.same s4).same s5
        have hlen : ∀ l ∈ MW.placing ch, l.length ≤ 1000 := fun l hl => by
          have := lot_short (g.lt l hl) (g.rise l hl)
          omega
        have xl : xs2.length = xs.length := by rw [hL2.len, hL.len]
        have x1 : xs2.length ≤ 1000 := by rw [hL2.len, g.len]; omega
        refine ⟨_, rfl, .ref l2, .ref l, rfl, ?_, fun H6 s6 => k H6 (s04.trans (s5.trans s6))⟩
        refine .inr ⟨l2, l, _, _, rfl, rfl, .inr ⟨hl2, hl5⟩, rfl, by show 2 ≤ 1000; decide, fun i u v hu hv => ?_⟩
        match i, hu, hv with
        | 0, hu, hv =>
          rw [← Option.some.inj hu, ← Option.some.inj hv]
          exact (Flat.str _).lk
        | 1, hu, hv =>
          rw [← Option.some.inj hu, ← Option.some.inj hv]
          exact .inr ⟨p2, p, xs2, xs, rfl, rfl, .inl ⟨hp2, hp5⟩, xl, x1, lk_lots hL2 hL5 hlen⟩
end
end MV
end
/-! KLaw -/
section
set_option Elab.async false
set_option linter.all false
set_option maxRecDepth 100000
set_option maxHeartbeats 4000000
/-! the law -/
namespace MV
open PySem PyProof.Rows L2 KX
open PySem.Spec hiding Row
abbrev sLaw : Stmt := top 35
abbrev nLaw : List Str := ["_law_script", "_law_hand", "_law_cluster_here", "_law_wishes_here", "_law_roomy", "_law_none", "_law_room"]
theorem scLaw : FnScope nLaw ["_law_script"] (defScope sLaw) := ⟨rfl, rfl, rfl, by decide +kernel, rfl, by decide +kernel, by decide +kernel⟩
def spLaw (K : PySem.W.Frag) : Sp := fun vs H Q _ => ∃ (a : Addr) (ns : List Int), vs = [.ref a] ∧ SqL K H a (ns.map V.int) ∧ ns.length ≤ 63 ∧ ∀ H', Q (.bl true) H'
theorem TriAt.sb {h : Addr} {H H' : Hp} {a t1 t2 t3 : Addr} {racks rooms rates : List Nat} (t : TriAt H a t1 t2 t3 racks rooms rates) (s : SB h H H') {xs : List V} (hh : H h = some (.lst xs)) : TriAt H' a t1 t2 t3 racks rooms rates :=
  ⟨s _ _ t.tri (ne_of t.tri hh (fun e => nomatch e)), s _ _ t.racks (ne_of t.racks hh (fun e => nomatch e)), s _ _ t.rooms (ne_of t.rooms hh (fun e => nomatch e)), s _ _ t.rates (ne_of t.rates hh (fun e => nomatch e))⟩
section
variable {P : Program} {w : World} {K : PySem.W.Frag} {mg : Str → Option Value} {base : Heap} {CC : Addr}
theorem ok_law {f fD fT fC fW fR fN fO fL fI : Addr} {fd fdD fdT fdC fdW fdR fdN fdO fdL fdI : FuncData} (F : Fun K "law" "law" sLaw f fd) (B : Blt mg)
    (cD : Fn K mg "_law_draws" fD fdD ["_law_script", "_law_many"]) (GD : FnOk P w K mg base CX0 1 fD fdD ["_law_script", "_law_many"] (spDr K))
    (cT : Fn K mg "_law_take" fT fdT ["_law_hand", "_law_many"]) (GT : FnOk P w K mg base CX0 1 fT fdT ["_law_hand", "_law_many"] spTk)
    (cC : Fn K mg "_law_cluster" fC fdC ["_law_hand", "_law_most"]) (GC : FnOk P w K mg base CX0 2 fC fdC ["_law_hand", "_law_most"] spLc)
    (cW : Fn K mg "_law_wishes" fW fdW ["_law_hand", "_law_pieces"]) (GW : FnOk P w K mg base CX0 2 fW fdW ["_law_hand", "_law_pieces"] spLw)
    (cR : Fn K mg "_law_right" fR fdR ["_law_cluster_here", "_law_wishes_here"]) (GR : FnOk P w K mg base CX0 9 fR fdR ["_law_cluster_here", "_law_wishes_here"] spRi)
    (cN : Fn K mg "_law_wrong_wishes" fN fdN ["_law_hand", "_law_wishes_here"]) (GN : FnOk P w K mg base CX0 2 fN fdN ["_law_hand", "_law_wishes_here"] spWw)
    (cO : Fn K mg "_law_told" fO fdO ["_law_cluster_here", "_law_wishes_here"]) (GO : FnOk P w K mg base CX0 8 fO fdO ["_law_cluster_here", "_law_wishes_here"] (spTo CC))
    (cL : Fn K mg "_law_like" fL fdL ["_law_found", "_law_due"]) (GL : FnOk P w K mg base CX0 5 fL fdL ["_law_found", "_law_due"] (spLi 4))
    (gI : mg "Cluster" = some (.ref CC)) (M : Mk K CC fI) (GI : FnOk P w K mg base CX0 2 fI fdI ["self", "racks", "rooms", "rates"] (spCl CC)) (bI : Binds K fdI ["self", "racks", "rooms", "rates"] []) :
    FnOk P w K mg base CX0 10 f fd ["_law_script"] (spLaw K) := by
  refine F.ok scLaw (fun vs H Q E h => ?_) (fun cdv A outer s H vs Q E hr h => ?_)
  · obtain ⟨a, ns, rfl, _⟩ := h
    rfl
  · obtain ⟨sa, ns, rfl, hs, nl, k⟩ := h
    refine ⟨_, pss_cons (ps_set (i := 1) scLaw.nd rfl (Or.inr rfl) (pe_lst (pa_cons (pe_call GD (hr.mono (by decide)) (by rfl) cD.mg cD.kp cD.bi .nil pass0 (pa_cons (pv 0) (pa_cons pe_int pa_nil))) (pa_cons pe_int pa_nil))))
      (pss_cons (ps_set (i := 2) scLaw.nd rfl (Or.inl rfl) (pe_call GC (hr.mono (by decide)) (by rfl) cC.mg cC.kp cC.bi .nil pass0 (pa_cons (pv 1) (pa_cons (pe_ix ix_list (pe_lst (pa_cons pe_int (pa_cons pe_int pa_nil))) (pe_op op_fdiv (pe_call GT (hr.mono (by decide)) (by rfl) cT.mg cT.kp cT.bi .nil pass0 (pa_cons (pv 1) (pa_cons pe_int pa_nil))) pe_int) (fun _ _ => rfl)) pa_nil))))
      (pss_cons (ps_set (i := 3) scLaw.nd rfl (Or.inl rfl) (pe_call GW (hr.mono (by decide)) (by rfl) cW.mg cW.kp cW.bi .nil pass0 (pa_cons (pv 1) (pa_cons (pe_call GT (hr.mono (by decide)) (by rfl) cT.mg cT.kp cT.bi .nil pass0 (pa_cons (pv 1) (pa_cons (pe_ix ix_list (pe_lst (pa_cons pe_int (pa_cons pe_int pa_nil))) (pe_t1 call_int1 B.int boot_int (pe_cmpR op_gt (pe_len B (pe_ix ix_tup (pv 2) pe_int (fun _ _ => rfl))) pe_int (nomark _))) (fun _ _ => rfl)) pa_nil))) pa_nil))))
      (pss_cons (ps_set (i := 4) scLaw.nd rfl (Or.inl rfl) (pe_tup (pa_cons (pe_ix ix_tup (pv 2) pe_int (fun _ _ => rfl)) (pa_cons (pe_t1 (r := rTupOf K) call_tuple_of B.tuple boot_tup (pe_lc (own := [("_law_room", 6)]) (g := gName 6) (tt := tYes) rfl scLaw.nd (pi_tup (pe_ix ix_tup (pv 2) pe_int (fun _ _ => rfl))) (blkOk_by (N := nLaw) (sc := defScope sLaw) (by decide +kernel)) (fun _ _ _ _ _ => pg_name (i := 6) scLaw.nd rfl (Or.inl rfl)) (fun _ _ _ _ _ => pts_nil)
          (fun _ _ _ _ _ => pe_op op_add (pe_op op_add (pv 6) pe_int) (pe_call GT (hr.mono (by decide)) (by rfl) cT.mg cT.kp cT.bi .nil pass0 (pa_cons (pv 1) (pa_cons pe_int pa_nil)))))) (pa_cons (pe_ix ix_tup (pv 2) pe_int (fun _ _ => rfl)) pa_nil)))))
      (pss_cons (ps_set (i := 4) scLaw.nd rfl (Or.inl rfl) (pe_tup (pa_cons (pe_ix ix_tup (pv 4) pe_int (fun _ _ => rfl)) (pa_cons (pe_t1 (r := rTupOf K) call_tuple_of B.tuple boot_tup (pe_lc (own := [("_law_room", 6)]) (g := gName 6) (tt := tYes) rfl scLaw.nd (pi_tup (pe_ix ix_tup (pv 4) pe_int (fun _ _ => rfl))) (blkOk_by (N := nLaw) (sc := defScope sLaw) (by decide +kernel)) (fun _ _ _ _ _ => pg_name (i := 6) scLaw.nd rfl (Or.inl rfl)) (fun _ _ _ _ _ => pts_nil)
          (fun _ _ _ _ _ => pe_b2 (call_min2 rfl) B.min boot_minB pe_int (pe_t1 call_int1 B.int boot_int (pv 6))))) (pa_cons (pe_ix ix_tup (pv 4) pe_int (fun _ _ => rfl)) pa_nil)))))
      (pss_cons (ps_if (PW.pt (pw_or (pt_not (pt_val (pe_call GR hr (by rfl) cR.mg cR.kp cR.bi .nil pass0 (pa_cons (pv 2) (pa_cons (pv 3) pa_nil))))) (pw_or1 (pt_not (pt_val (pe_call GR hr (by rfl) cR.mg cR.kp cR.bi .nil pass0 (pa_cons (pv 4) (pa_cons (pv 3) pa_nil)))))))) (pss_one ps_never) pss_nil)
      (pss_cons (ps_set (i := 5) scLaw.nd rfl (Or.inl rfl) (pe_call GN (hr.mono (by decide)) (by rfl) cN.mg cN.kp cN.bi .nil pass0 (pa_cons (pv 1) (pa_cons (pv 3) pa_nil))))
      (pss_one (ps_ret (pe_call GL (hr.mono (by decide)) (by rfl) cL.mg cL.kp cL.bi .nil pass0 (pa_cons (pe_call GO (hr.mono (by decide)) (by rfl) cO.mg cO.kp cO.bi .nil pass0 (pa_cons (pe_make M GI (hr.mono (by decide)) rfl gI bI .nil pass0 (pa_cons (pe_ix ix_tup (pv 2) pe_int (fun _ _ => rfl)) (pa_cons (pe_ix ix_tup (pv 2) pe_int (fun _ _ => rfl)) (pa_cons (pe_ix ix_tup (pv 2) pe_int (fun _ _ => rfl)) pa_nil)))) (pa_cons (pv 5) pa_nil))) (pa_cons (pe_lst (pa_cons pe_str (pa_cons (pv 5) pa_nil))) pa_nil))))))))))), ?_⟩
    -- the hand
    refine ⟨_, rfl, sa, ns, 300, rfl, hs, by omega, by decide, fun H1 d ds s1 hd => ⟨(by show 2 ≤ sizeLine; decide), fun h hh => ?_⟩⟩
    have hd' : d ≠ h := ne_of_none hd hh
    have ha2 : HandAt h d ds (upd H1 h (.lst [.ref d, .int 0])) := ⟨0, upd_same, by rw [upd_ne hd']; exact hd, hd'.symm⟩
    revert ha2
    generalize upd H1 h (.lst [.ref d, .int 0]) = H2
    intro ha2
    -- the cluster
    refine ⟨_, rfl, (by show 2 ≤ sizeLine; decide), fun l hl => ?_⟩
    have nl' := ne_hand ha2 hl
    have ha2' := ha2.put (o := .lst [.int 5, .int 8]) nl'.1 nl'.2
    refine ⟨_, rfl, h, d, ds, 4, rfl, by decide, ha2', fun r hr4 H3 ha3 s3 _ => ?_⟩
    have hl3 := s3 _ _ (upd_same (H := H2) (a := l) (o := .lst [.int 5, .int 8])) nl'.1.symm
    obtain ⟨most, hmost, hmm⟩ := pick [5, 8] (r := r / 3) (by show r / 3 < 2; omega)
    have hm8 : 1 ≤ most ∧ most ≤ 8 := (by decide : ∀ x ∈ [5, 8], 1 ≤ x ∧ x ≤ 8) most hmm
    have ed : V.int ((r : Int) / 3) = nv (r / 3) := rfl
    refine ⟨_, _, rfl, rfl, ⟨by decide, by decide⟩, l, nvs [5, 8], ((r / 3 : Nat) : Int), nv most, rfl, ed, SqL.of hl3, atI_nat (nvs_at hmost), h, d, ds, most, rfl, hm8.1, hm8.2, ha3, ?_⟩
    intro racks rooms rates ok H4 c t1 t2 t3 ha4 s4 hc h1 h2 h3
    have tri : TriAt H4 c t1 t2 t3 racks rooms rates := ⟨hc, h1, h2, h3⟩
    have n8 := ok.n8
    -- the wishes
    refine ⟨_, rfl, _, rfl, (by show 2 ≤ sizeLine; decide), fun l2 hl2 => ?_⟩
    have nl2 := ne_hand ha4 hl2
    have ha5 := ha4.put (o := .lst [.int 5, .int 4]) nl2.1 nl2.2
    have s45 : Same H4 (upd H4 l2 (.lst [.int 5, .int 4])) := sNew hl2
    have tri5 := tri.same s45
    have hl25 : (upd H4 l2 (.lst [.int 5, .int 4])) l2 = some (.lst [.int 5, .int 4]) := upd_same
    revert ha5 tri5 hl25
    generalize upd H4 l2 (.lst [.int 5, .int 4]) = H5
    intro ha5 tri5 hl25
    refine ⟨_, rfl, c, _, 0, .ref t1, rfl, rfl, SqT.of tri5.tri, rfl, _, (nvs racks).length, rfl, .inr ⟨_, SqT.of tri5.racks, rfl⟩, _, _, rfl, rfl, .inr ⟨_, rfl, ?_⟩⟩
    have ixs : ∃ (j mx : Nat), V.int (if decide (((nvs racks).length : Int) > 5) = true then 1 else 0) = nv j ∧ [5, 4][j]? = some mx ∧ 1 ≤ mx ∧ mx ≤ 5 := by
      by_cases cc : ((nvs racks).length : Int) > 5
      · exact ⟨1, 4, by rw [if_pos (decide_eq_true cc)]; rfl, rfl, by decide, by decide⟩
      · exact ⟨0, 5, by rw [if_neg (by simpa using cc)]; rfl, rfl, by decide, by decide⟩
    obtain ⟨j, mx, ej, hmx, mx1, mx5⟩ := ixs
    refine ⟨l2, nvs [5, 4], (j : Int), nv mx, rfl, ej, SqL.of hl25, atI_nat (nvs_at hmx), h, d, ds, mx, rfl, by omega, ha5, fun pcs hpcs H6 ha6 s6 _ => ?_⟩
    have hhL : ∀ {H : Hp}, HandAt h d ds H → ∃ xs, H h = some (.lst xs) := fun ⟨kk, e1, _⟩ => ⟨_, e1⟩
    obtain ⟨_, hh5⟩ := hhL ha5
    have tri6 := tri5.sb s6 hh5
    refine ⟨h, d, ds, pcs, rfl, by omega, ha6, fun W W4 W3 H7 wy ha7 s7 hw => ?_⟩
    obtain ⟨_, hh6⟩ := hhL ha6
    have tri7 := tri6.sb s7 hh6
    -- the roomy one
    refine ⟨_, rfl, c, _, 0, .ref t1, rfl, rfl, SqT.of tri7.tri, rfl, _, rfl, c, _, 1, .ref t2, rfl, rfl, SqT.of tri7.tri, rfl, t2, rfl, ⟨_, SqT.of tri7.rooms⟩, fun D hD => ?_⟩
    have nD := ne_hand ha7 hD
    refine lc_tup (xs := nvs rooms) (fun i H' => SB h H7 H' ∧ HandAt h d ds H' ∧ NL D i 0 101 H') ⟨SB.refl.new hD, ha7.put nD.1 nD.2, .nil⟩ (fun i H' _ y => ?_) ?_ ?_
    · obtain ⟨_, hh7⟩ := hhL ha7
      exact SqT.of (tri7.sb y.1 hh7).rooms
    · rintro i x H' hx ⟨y, hy, lst, hl', hll, hle⟩
      obtain ⟨n, hn, rfl⟩ := nvs_get hx
      have n99 := ok.rooms n (List.mem_of_getElem? hn)
      have il := (List.getElem?_eq_some_iff.mp hn).1
      refine ⟨rfl, _, rfl, _, _, rfl, rfl, _, rfl, h, d, ds, 2, rfl, by decide, hy, fun u hu H8 ha8 s8 _ => ?_⟩
      have e : V.int ((n : Int) + 1 + (u : Int)) = nv (n + 1 + u) := by show V.int _ = V.int _; rw [Int.natCast_add, Int.natCast_add]; rfl
      have nl := NL.snoc (D := D) (H := H8) (x := n + 1 + u) hll hle (Nat.zero_le _) (by omega)
      rw [← e] at nl
      refine ⟨_, _, rfl, rfl, nvs lst, s8 _ _ hl' nD.1.symm, ?_, (y.trans s8).new hD, ha8.put nD.1 nD.2, nl⟩
      rw [nvs_len, hll]
      have := ok.lm
      exact small (by omega)
    rintro H8 ⟨y8, ha8, rooms1, hD8, hl8, hle8⟩
    rw [nvs_len] at hl8
    obtain ⟨_, hh7⟩ := hhL ha7
    have tri8 := tri7.sb y8 hh7
    refine ⟨D, _, rfl, .inl ⟨SqL.of hD8, fun tb htb => ?_⟩⟩
    have s89 : Same H8 (upd H8 tb (.tup (nvs rooms1))) := sNew htb
    have tri9 := tri8.same s89
    have ha9 := ha8.same s89
    have htb9 : (upd H8 tb (.tup (nvs rooms1))) tb = some (.tup (nvs rooms1)) := upd_same
    have y9 : SB h H7 (upd H8 tb (.tup (nvs rooms1))) := y8.trans (.of s89)
    revert tri9 ha9 htb9 y9
    generalize upd H8 tb (.tup (nvs rooms1)) = H9
    intro tri9 ha9 htb9 y9
    refine ⟨_, rfl, c, _, 2, .ref t3, rfl, rfl, SqT.of tri9.tri, rfl, (by show 3 ≤ sizeLine; decide), fun q1 hq1 => ?_⟩
    have s9a : Same H9 (upd H9 q1 (.tup [.ref t1, .ref tb, .ref t3])) := sNew hq1
    have triA := tri9.same s9a
    have haA := ha9.same s9a
    have htbA := s9a _ _ htb9
    have hqA : (upd H9 q1 (.tup [.ref t1, .ref tb, .ref t3])) q1 = some (.tup [.ref t1, .ref tb, .ref t3]) := upd_same
    have yA : SB h H7 (upd H9 q1 (.tup [.ref t1, .ref tb, .ref t3])) := y9.trans (.of s9a)
    revert triA haA htbA hqA yA
    generalize upd H9 q1 (.tup [.ref t1, .ref tb, .ref t3]) = HA
    intro triA haA htbA hqA yA
    -- not more than 99
    refine ⟨_, rfl, q1, _, 0, .ref t1, rfl, rfl, SqT.of hqA, rfl, _, rfl, q1, _, 1, .ref tb, rfl, rfl, SqT.of hqA, rfl, tb, rfl, ⟨_, SqT.of htbA⟩, fun D2 hD2 => ?_⟩
    have nD2 := ne_hand haA hD2
    refine lc_tup (xs := nvs rooms1) (fun i H' => Same HA H' ∧ NL D2 i 0 99 H') ⟨sNew hD2, .nil⟩ (fun i H' _ y => SqT.of (y.1 _ _ htbA)) ?_ ?_
    · rintro i x H' hx ⟨y, lst, hl', hll, hle⟩
      obtain ⟨n, hn, rfl⟩ := nvs_get hx
      have il := (List.getElem?_eq_some_iff.mp hn).1
      have e : V.int (if (n : Int) < 99 then (n : Int) else 99) = nv (min n 99) := by
        show V.int _ = V.int _
        congr 1
        split <;> omega
      have nl := NL.snoc (D := D2) (H := H') (x := min n 99) hll hle (Nat.zero_le _) (by omega)
      rw [← e] at nl
      refine ⟨rfl, _, rfl, .inl ⟨_, rfl, 99, _, rfl, nvs lst, hl', ?_, sUpd y hD2, nl⟩⟩
      rw [nvs_len, hll]
      have := ok.lm
      exact small (by omega)
    rintro HB ⟨yB, rooms2, hDB, hlB, hleB⟩
    rw [nvs_len] at hlB
    have triB := triA.same yB
    have hqB := yB _ _ hqA
    have haB := haA.same yB
    refine ⟨D2, _, rfl, .inl ⟨SqL.of hDB, fun tc htc => ?_⟩⟩
    have sBC : Same HB (upd HB tc (.tup (nvs rooms2))) := sNew htc
    refine ⟨_, rfl, q1, _, 2, .ref t3, rfl, rfl, SqT.of (sBC _ _ hqB), rfl, (by show 3 ≤ sizeLine; decide), fun q2 hq2 => ?_⟩
    have sCD : Same (upd HB tc (.tup (nvs rooms2))) (upd (upd HB tc (.tup (nvs rooms2))) q2 (.tup [.ref t1, .ref tc, .ref t3])) := sNew hq2
    have sBD := sBC.trans sCD
    have htcD := sCD _ _ (upd_same (H := HB) (a := tc) (o := .tup (nvs rooms2)))
    have hq2D : (upd (upd HB tc (.tup (nvs rooms2))) q2 (.tup [.ref t1, .ref tc, .ref t3])) q2 = some (.tup [.ref t1, .ref tc, .ref t3]) := upd_same
    have triD := triB.same sBD
    have haD := haB.same sBD
    have yD : SB h H7 (upd (upd HB tc (.tup (nvs rooms2))) q2 (.tup [.ref t1, .ref tc, .ref t3])) := yA.trans (.of (yB.trans sBD))
    revert htcD hq2D triD haD yD
    generalize upd (upd HB tc (.tup (nvs rooms2))) q2 (.tup [.ref t1, .ref tc, .ref t3]) = HD
    intro htcD hq2D triD haD yD
    have wyh : wy ≠ h := ne_of hw hh7 (fun e => nomatch e)
    have hwD := yD _ _ hw wyh
    have ok2 : ClOk racks rooms2 rates := ⟨ok.n1, ok.n8, by rw [hlB, hl8, ok.lm], ok.lt, ok.racks, fun x hx => (hleB x hx).2, ok.rates⟩
    have tri2 : TriAt HD q2 t1 tc t3 racks rooms2 rates := ⟨hq2D, triD.racks, htcD, triD.rates⟩
    -- right, twice
    refine ⟨_, rfl, _, rfl, c, t1, t2, t3, wy, racks, rooms, rates, W, rfl, triD, ok, hwD, W4, W3, fun HE sE => ⟨_, rfl, iteF ?_⟩⟩
    refine ⟨_, rfl, _, rfl, q2, t1, tc, t3, wy, racks, rooms2, rates, W, rfl, tri2.same sE, ok2, sE _ _ hwD, W4, W3, fun HF sF => ⟨_, rfl, iteF ?_⟩⟩
    have sDF := sE.trans sF
    have haF := haD.same sDF
    have triF := triD.same sDF
    have hwF := sDF _ _ hwD
    obtain ⟨_, hhF⟩ := hhL haF
    -- wrong wishes
    refine ⟨_, rfl, _, rfl, h, d, wy, ds, W, rfl, haF, hwF, W4, fun x HG sG bad lk => ?_⟩
    have triG := triF.sb sG hhF
    refine ⟨_, rfl, c, _, 0, .ref t1, rfl, rfl, SqT.of triG.tri, rfl, _, rfl, c, _, 1, .ref t2, rfl, rfl, SqT.of triG.tri, rfl, _, rfl, c, _, 2, .ref t3, rfl, rfl, SqT.of triG.tri, rfl, fun y dy hy hdy hne => ?_⟩
    have sGI : Same HG (upd (upd HG dy (.own y)) y (.ins CC dy [])) := (sNew hdy).trans (sNew (by rw [upd_ne hne.symm]; exact hy))
    have triI := triG.same sGI
    refine ⟨y, dy, t1, t2, t3, racks, rooms, rates, rfl, upd_same, triI.racks, triI.rooms, triI.rates, ok, fun HJ cl sb => ⟨rfl, ?_⟩⟩
    have sGJ : Same HG HJ := fun b o e => sb b o (sGI _ _ e) (ne_of_none e hy)
    have badJ : BadW HJ x := by
      rcases bad with ⟨a, xs, rfl, ha, hl, hk, hno⟩ | ⟨T, hk, hT⟩
      · exact .inl ⟨a, xs, rfl, sGJ _ _ ha, hl, fun z hz => by obtain ⟨T, h⟩ := hk z hz; exact ⟨T, h.same sGJ⟩, hno⟩
      · exact .inr ⟨T, hk.same sGJ, hT⟩
    have lkJ := Lk.same sGJ lk
    refine ⟨_, rfl, y, dy, t1, t2, t3, racks, rooms, rates, x, rfl, cl, ok, .inr ⟨badJ, fun l3 HK sK hl3 => ?_⟩⟩
    refine ⟨_, rfl, (by show 2 ≤ sizeLine; decide), fun l4 hl4 => ?_⟩
    have sL : Same HK (upd HK l4 (.lst [.str "wishes", x])) := sNew hl4
    refine ⟨.ref l3, .ref l4, rfl, ?_, fun H' _ => k H'⟩
    have lkL' := Lk.same sL (Lk.same sK lkJ)
    refine .inr ⟨l3, l4, _, _, rfl, rfl, .inr ⟨sL _ _ hl3, upd_same⟩, rfl, by show 2 ≤ 1000; decide, fun i u v hu hv => ?_⟩
    match i, hu, hv with
    | 0, hu, hv =>
      rw [← Option.some.inj hu, ← Option.some.inj hv]
      exact (Flat.str _).lk
    | 1, hu, hv =>
      rw [← Option.some.inj hu, ← Option.some.inj hv]
      exact lkL'
end
end MV
end
/-! KEnd -/
section
set_option Elab.async false
set_option linter.all false
set_option maxRecDepth 100000
set_option maxHeartbeats 8000000
/-! the end: what the top has left -/
namespace MV
open PySem PyProof.Rows L2 KX
open PySem.Spec hiding Row
/-- an error of the class at S against «except T» -/
theorem exm_two {K : PySem.W.Frag} {S T : Addr} {b : Bool} (h1 : PySem.W.subIn K (.ref S) (.type "BaseException") = some true) (h2 : PySem.W.isClsIn K S = true) (h3 : PySem.W.typeIn K (.ref S) = some (.type "type"))
    (g1 : PySem.W.subIn K (.ref T) (.type "BaseException") = some true) (g2 : PySem.W.isClsIn K T = true) (g3 : PySem.W.typeIn K (.ref T) = some (.type "type")) (h4 : PySem.W.subIn K (.ref S) (.ref T) = some b) :
    PySem.W.exmOne K (.ref S) (.ref T) = some b := by
  have e1 : (PySem.W.subIn K (.ref T) (.type "BaseException") == some true) = true := by rw [g1] <;> rfl
  have e2 : ((PySem.W.clsIn K S).isSome && PySem.W.typeIn K (.ref S) == some (.type "type")) = true := by
    have h2' : (PySem.W.clsIn K S).isSome = true := h2
    rw [h2', h3] <;> rfl
  have e3 : ((PySem.W.clsIn K T).isSome && PySem.W.typeIn K (.ref T) == some (.type "type")) = true := by
    have h2' : (PySem.W.clsIn K T).isSome = true := g2
    rw [h2', g3] <;> rfl
  have e4 : (PySem.W.subIn K (.ref S) (.type "BaseException") == some true) = true := by rw [h1] <;> rfl
  unfold PySem.W.exmOne
  rw [if_pos e1]
  show (if ((PySem.W.clsIn K T).isSome && PySem.W.typeIn K (.ref T) == some (.type "type")) = true then PySem.W.subIn K (.ref S) (.ref T) else none) = some b
  rw [if_pos e3]
  exact h4
theorem all_mk {w : World} {K : PySem.W.Frag} {h : Heap} {mg : Str → Option Value} (X : K.In h) (G : h.Ns mainGlobals mg) {fa : Addr} (hfa : mg "law" = some (.ref fa))
    {fft fws fsp fdr ftk fli fwi flc flw fbr fll flk fal fil fip fww fto fri fla CC SC fci fmP fmE fmL fmS fmA fmW fmI fmY fmT fmG fmF fmX fsi Tsi CW feW ccW daW NW CU feU ccU daU NU : Addr}
    {odft anft odws anws odsp ansp oddr andr odtk antk odli anli odwi anwi odlc anlc odlw anlw odbr anbr odll anll odlk anlk odal anal odil anil odip anip odww anww odto anto odri anri odla anla odci anci odmP anmP odmE anmE odmL anmL odmS anmS odmA anmA odmW anmW odmI anmI odmY anmY odmT anmT odmG anmG odmF anmF odmX anmX odsi ansi odT odeW aneW ocdW oddW odeU aneU ocdU oddU : Option Addr} {slft slws slsp sldr sltk slli slwi sllc sllw slbr slll sllk slal slil slip slww slto slri slla slci slmP slmE slmL slmS slmA slmW slmI slmY slmT slmG slmF slmX slsi slT sleW slcW sldW sleU slcU sldU : Array (Option Value)}
    {ocft kvft dcft pmft cdft ctft ocws kvws dcws pmws cdws ctws ocsp kvsp dcsp pmsp cdsp ctsp ocdr kvdr dcdr pmdr cddr ctdr octk kvtk dctk pmtk cdtk cttk ocli kvli dcli pmli cdli ctli ocwi kvwi dcwi pmwi cdwi ctwi oclc kvlc dclc pmlc cdlc ctlc oclw kvlw dclw pmlw cdlw ctlw ocbr kvbr dcbr pmbr cdbr ctbr ocll kvll dcll pmll cdll ctll oclk kvlk dclk pmlk cdlk ctlk ocal kval dcal pmal cdal ctal ocil kvil dcil pmil cdil ctil ocip kvip dcip pmip cdip ctip ocww kvww dcww pmww cdww ctww octo kvto dcto pmto cdto ctto ocri kvri dcri pmri cdri ctri ocla kvla dcla pmla cdla ctla occi kvci dcci pmci cdci ctci ocmP kvmP dcmP pmmP cdmP ctmP ocmE kvmE dcmE pmmE cdmE ctmE ocmL kvmL dcmL pmmL cdmL ctmL ocmS kvmS dcmS pmmS cdmS ctmS ocmA kvmA dcmA pmmA cdmA ctmA ocmW kvmW dcmW pmmW cdmW ctmW ocmI kvmI dcmI pmmI cdmI ctmI ocmY kvmY dcmY pmmY cdmY ctmY ocmT kvmT dcmT pmmT cdmT ctmT ocmG kvmG dcmG pmmG cdmG ctmG ocmF kvmF dcmF pmmF cdmF ctmF ocmX kvmX dcmX pmmX cdmX ctmX ocsi kvsi dcsi pmsi cdsi ctsi ocT oceW kveW dceW pmeW cteW clcW cldW oceU kveU dceU pmeU cteU clcU cldU : Value} {nT tq8 tq99 tqr tqw : Nat}
    {enW qW flW : Str} {ybW ymW : List Value} {snW : List Str} {subW : List Value} {abW : Bool} {colW : Option Bool} {ddW : Option Addr} {m0W m1W m2W m3W m5W : Option Value} {vsW : Array Value} {tfW : Nat}
    {enU qU flU : Str} {ybU ymU : List Value} {snU : List Str} {subU : List Value} {abU : Bool} {colU : Option Bool} {ddU : Option Addr} {m0U m1U m2U m3U m5U : Option Value} {vsU : Array Value} {tfU : Nat}
    (aft : PySem.W.nsIn K mainGlobals "is_from_to" = some (some (.ref fft)))
    (lft : K.lookup fft = some ⟨ocft, odft, .func (PySem.W.fnOf "is_from_to" "is_from_to" (defArgs (top 10)) (defBody (top 10)) (defScope (top 10)) .none kvft dcft pmft anft cdft ctft), slft⟩)
    (cft : PySem.W.codeIn K cdft "is_from_to" = true)
    (kft : PySem.W.keepIn K (.ref fft) = true)
    (aws : PySem.W.nsIn K mainGlobals "is_wishes" = some (some (.ref fws)))
    (lws : K.lookup fws = some ⟨ocws, odws, .func (PySem.W.fnOf "is_wishes" "is_wishes" (defArgs (top 14)) (defBody (top 14)) (defScope (top 14)) .none kvws dcws pmws anws cdws ctws), slws⟩)
    (cws : PySem.W.codeIn K cdws "is_wishes" = true)
    (kws : PySem.W.keepIn K (.ref fws) = true)
    (asp : PySem.W.nsIn K mainGlobals "some_placing" = some (some (.ref fsp)))
    (lsp : K.lookup fsp = some ⟨ocsp, odsp, .func (PySem.W.fnOf "some_placing" "some_placing" (defArgs (top 18)) (defBody (top 18)) (defScope (top 18)) .none kvsp dcsp pmsp ansp cdsp ctsp), slsp⟩)
    (csp : PySem.W.codeIn K cdsp "some_placing" = true)
    (ksp : PySem.W.keepIn K (.ref fsp) = true)
    (adr : PySem.W.nsIn K mainGlobals "_law_draws" = some (some (.ref fdr)))
    (ldr : K.lookup fdr = some ⟨ocdr, oddr, .func (PySem.W.fnOf "_law_draws" "_law_draws" (defArgs (top 20)) (defBody (top 20)) (defScope (top 20)) .none kvdr dcdr pmdr andr cddr ctdr), sldr⟩)
    (cdr : PySem.W.codeIn K cddr "_law_draws" = true)
    (kdr : PySem.W.keepIn K (.ref fdr) = true)
    (atk : PySem.W.nsIn K mainGlobals "_law_take" = some (some (.ref ftk)))
    (ltk : K.lookup ftk = some ⟨octk, odtk, .func (PySem.W.fnOf "_law_take" "_law_take" (defArgs (top 21)) (defBody (top 21)) (defScope (top 21)) .none kvtk dctk pmtk antk cdtk cttk), sltk⟩)
    (ctk : PySem.W.codeIn K cdtk "_law_take" = true)
    (ktk : PySem.W.keepIn K (.ref ftk) = true)
    (ali : PySem.W.nsIn K mainGlobals "_law_like" = some (some (.ref fli)))
    (lli : K.lookup fli = some ⟨ocli, odli, .func (PySem.W.fnOf "_law_like" "_law_like" (defArgs (top 22)) (defBody (top 22)) (defScope (top 22)) .none kvli dcli pmli anli cdli ctli), slli⟩)
    (cli : PySem.W.codeIn K cdli "_law_like" = true)
    (kli : PySem.W.keepIn K (.ref fli) = true)
    (awi : PySem.W.nsIn K mainGlobals "_law_within" = some (some (.ref fwi)))
    (lwi : K.lookup fwi = some ⟨ocwi, odwi, .func (PySem.W.fnOf "_law_within" "_law_within" (defArgs (top 23)) (defBody (top 23)) (defScope (top 23)) .none kvwi dcwi pmwi anwi cdwi ctwi), slwi⟩)
    (cwi : PySem.W.codeIn K cdwi "_law_within" = true)
    (kwi : PySem.W.keepIn K (.ref fwi) = true)
    (alc : PySem.W.nsIn K mainGlobals "_law_cluster" = some (some (.ref flc)))
    (llc : K.lookup flc = some ⟨oclc, odlc, .func (PySem.W.fnOf "_law_cluster" "_law_cluster" (defArgs (top 24)) (defBody (top 24)) (defScope (top 24)) .none kvlc dclc pmlc anlc cdlc ctlc), sllc⟩)
    (clc : PySem.W.codeIn K cdlc "_law_cluster" = true)
    (klc : PySem.W.keepIn K (.ref flc) = true)
    (alw : PySem.W.nsIn K mainGlobals "_law_wishes" = some (some (.ref flw)))
    (llw : K.lookup flw = some ⟨oclw, odlw, .func (PySem.W.fnOf "_law_wishes" "_law_wishes" (defArgs (top 25)) (defBody (top 25)) (defScope (top 25)) .none kvlw dclw pmlw anlw cdlw ctlw), sllw⟩)
    (clw : PySem.W.codeIn K cdlw "_law_wishes" = true)
    (klw : PySem.W.keepIn K (.ref flw) = true)
    (abr : PySem.W.nsIn K mainGlobals "_law_breach" = some (some (.ref fbr)))
    (lbr : K.lookup fbr = some ⟨ocbr, odbr, .func (PySem.W.fnOf "_law_breach" "_law_breach" (defArgs (top 26)) (defBody (top 26)) (defScope (top 26)) .none kvbr dcbr pmbr anbr cdbr ctbr), slbr⟩)
    (cbr : PySem.W.codeIn K cdbr "_law_breach" = true)
    (kbr : PySem.W.keepIn K (.ref fbr) = true)
    (all : PySem.W.nsIn K mainGlobals "_law_lots" = some (some (.ref fll)))
    (lll : K.lookup fll = some ⟨ocll, odll, .func (PySem.W.fnOf "_law_lots" "_law_lots" (defArgs (top 27)) (defBody (top 27)) (defScope (top 27)) .none kvll dcll pmll anll cdll ctll), slll⟩)
    (cll : PySem.W.codeIn K cdll "_law_lots" = true)
    (kll : PySem.W.keepIn K (.ref fll) = true)
    (alk : PySem.W.nsIn K mainGlobals "_law_lacks" = some (some (.ref flk)))
    (llk : K.lookup flk = some ⟨oclk, odlk, .func (PySem.W.fnOf "_law_lacks" "_law_lacks" (defArgs (top 28)) (defBody (top 28)) (defScope (top 28)) .none kvlk dclk pmlk anlk cdlk ctlk), sllk⟩)
    (clk : PySem.W.codeIn K cdlk "_law_lacks" = true)
    (klk : PySem.W.keepIn K (.ref flk) = true)
    (aal : PySem.W.nsIn K mainGlobals "_law_any_lacks" = some (some (.ref fal)))
    (lal : K.lookup fal = some ⟨ocal, odal, .func (PySem.W.fnOf "_law_any_lacks" "_law_any_lacks" (defArgs (top 29)) (defBody (top 29)) (defScope (top 29)) .none kval dcal pmal anal cdal ctal), slal⟩)
    (cal : PySem.W.codeIn K cdal "_law_any_lacks" = true)
    (kal : PySem.W.keepIn K (.ref fal) = true)
    (ail : PySem.W.nsIn K mainGlobals "_law_is_lot" = some (some (.ref fil)))
    (lil : K.lookup fil = some ⟨ocil, odil, .func (PySem.W.fnOf "_law_is_lot" "_law_is_lot" (defArgs (top 30)) (defBody (top 30)) (defScope (top 30)) .none kvil dcil pmil anil cdil ctil), slil⟩)
    (cil : PySem.W.codeIn K cdil "_law_is_lot" = true)
    (kil : PySem.W.keepIn K (.ref fil) = true)
    (aip : PySem.W.nsIn K mainGlobals "_law_is_placing" = some (some (.ref fip)))
    (lip : K.lookup fip = some ⟨ocip, odip, .func (PySem.W.fnOf "_law_is_placing" "_law_is_placing" (defArgs (top 31)) (defBody (top 31)) (defScope (top 31)) .none kvip dcip pmip anip cdip ctip), slip⟩)
    (cip : PySem.W.codeIn K cdip "_law_is_placing" = true)
    (kip : PySem.W.keepIn K (.ref fip) = true)
    (aww : PySem.W.nsIn K mainGlobals "_law_wrong_wishes" = some (some (.ref fww)))
    (lww : K.lookup fww = some ⟨ocww, odww, .func (PySem.W.fnOf "_law_wrong_wishes" "_law_wrong_wishes" (defArgs (top 32)) (defBody (top 32)) (defScope (top 32)) .none kvww dcww pmww anww cdww ctww), slww⟩)
    (cww : PySem.W.codeIn K cdww "_law_wrong_wishes" = true)
    (kww : PySem.W.keepIn K (.ref fww) = true)
    (ato : PySem.W.nsIn K mainGlobals "_law_told" = some (some (.ref fto)))
    (lto : K.lookup fto = some ⟨octo, odto, .func (PySem.W.fnOf "_law_told" "_law_told" (defArgs (top 33)) (defBody (top 33)) (defScope (top 33)) .none kvto dcto pmto anto cdto ctto), slto⟩)
    (cto : PySem.W.codeIn K cdto "_law_told" = true)
    (kto : PySem.W.keepIn K (.ref fto) = true)
    (ari : PySem.W.nsIn K mainGlobals "_law_right" = some (some (.ref fri)))
    (lri : K.lookup fri = some ⟨ocri, odri, .func (PySem.W.fnOf "_law_right" "_law_right" (defArgs (top 34)) (defBody (top 34)) (defScope (top 34)) .none kvri dcri pmri anri cdri ctri), slri⟩)
    (cri : PySem.W.codeIn K cdri "_law_right" = true)
    (kri : PySem.W.keepIn K (.ref fri) = true)
    (ala : PySem.W.nsIn K mainGlobals "law" = some (some (.ref fla)))
    (lla : K.lookup fla = some ⟨ocla, odla, .func (PySem.W.fnOf "law" "law" (defArgs (top 35)) (defBody (top 35)) (defScope (top 35)) .none kvla dcla pmla anla cdla ctla), slla⟩)
    (cla : PySem.W.codeIn K cdla "law" = true)
    (kla : PySem.W.keepIn K (.ref fla) = true)
    (aCC : PySem.W.nsIn K mainGlobals "Cluster" = some (some (.ref CC)))
    (pgCC : PySem.W.plainGet K CC Str.empty = true)
    (hdCC : PySem.W.hasDictIn K CC = true)
    (poCC : PySem.W.plainOver K CC = true)
    (saCC : PySem.W.findIn K (.ref CC) "__setattr__" = some (some (.builtin "object.__setattr__")))
    (mkCC : PySem.W.makesIn K CC = true)
    (kcCC : PySem.W.keepIn K (.ref CC) = true)
    (aSC : PySem.W.nsIn K mainGlobals "StockFlow" = some (some (.ref SC)))
    (pgSC : PySem.W.plainGet K SC Str.empty = true)
    (hdSC : PySem.W.hasDictIn K SC = true)
    (poSC : PySem.W.plainOver K SC = true)
    (saSC : PySem.W.findIn K (.ref SC) "__setattr__" = some (some (.builtin "object.__setattr__")))
    (mkSC : PySem.W.makesIn K SC = true)
    (kcSC : PySem.W.keepIn K (.ref SC) = true)
    (nSC : PySem.W.findIn K (.ref SC) "cluster" = some none)
    (nSW : PySem.W.findIn K (.ref SC) "wishes" = some none)
    (nSB : PySem.W.findIn K (.ref SC) "before" = some none)
    (nSG : PySem.W.findIn K (.ref SC) "gates" = some none)
    (nSR : PySem.W.findIn K (.ref SC) "racks" = some none)
    (nSCh : PySem.W.findIn K (.ref SC) "chosen" = some none)
    (nSFg : PySem.W.findIn K (.ref SC) "first_gate" = some none)
    (nSFs : PySem.W.findIn K (.ref SC) "first_store" = some none)
    (nSSk : PySem.W.findIn K (.ref SC) "sink" = some none)
    (nCR : PySem.W.findIn K (.ref CC) "racks" = some none)
    (nCM : PySem.W.findIn K (.ref CC) "rooms" = some none)
    (nCT : PySem.W.findIn K (.ref CC) "rates" = some none)
    (nCS : PySem.W.findIn K (.ref CC) "store_count" = some none)
    (aci : PySem.W.findIn K (.ref CC) "__init__" = some (some (.ref fci)))
    (ici : PySem.W.isFn K (.ref fci) = true)
    (lci : K.lookup fci = some ⟨occi, odci, .func (PySem.W.fnOf "__init__" "Cluster.__init__" (defArgs (inClass (top 11) 0)) (defBody (inClass (top 11) 0)) (defScope (inClass (top 11) 0)) .none kvci dcci pmci anci cdci ctci), slci⟩)
    (cci : PySem.W.codeIn K cdci "Cluster.__init__" = true)
    (kci : PySem.W.keepIn K (.ref fci) = true)
    (amP : PySem.W.findIn K (.ref SC) "pair" = some (some (.ref fmP)))
    (imP : PySem.W.isFn K (.ref fmP) = true)
    (lmP : K.lookup fmP = some ⟨ocmP, odmP, .func (PySem.W.fnOf "pair" "StockFlow.pair" (defArgs (inClass (top 16) 1)) (defBody (inClass (top 16) 1)) (defScope (inClass (top 16) 1)) .none kvmP dcmP pmmP anmP cdmP ctmP), slmP⟩)
    (cmP : PySem.W.codeIn K cdmP "StockFlow.pair" = true)
    (kmP : PySem.W.keepIn K (.ref fmP) = true)
    (amE : PySem.W.findIn K (.ref SC) "entry" = some (some (.ref fmE)))
    (imE : PySem.W.isFn K (.ref fmE) = true)
    (lmE : K.lookup fmE = some ⟨ocmE, odmE, .func (PySem.W.fnOf "entry" "StockFlow.entry" (defArgs (inClass (top 16) 2)) (defBody (inClass (top 16) 2)) (defScope (inClass (top 16) 2)) .none kvmE dcmE pmmE anmE cdmE ctmE), slmE⟩)
    (cmE : PySem.W.codeIn K cdmE "StockFlow.entry" = true)
    (kmE : PySem.W.keepIn K (.ref fmE) = true)
    (amL : PySem.W.findIn K (.ref SC) "loads" = some (some (.ref fmL)))
    (imL : PySem.W.isFn K (.ref fmL) = true)
    (lmL : K.lookup fmL = some ⟨ocmL, odmL, .func (PySem.W.fnOf "loads" "StockFlow.loads" (defArgs (inClass (top 16) 3)) (defBody (inClass (top 16) 3)) (defScope (inClass (top 16) 3)) .none kvmL dcmL pmmL anmL cdmL ctmL), slmL⟩)
    (cmL : PySem.W.codeIn K cdmL "StockFlow.loads" = true)
    (kmL : PySem.W.keepIn K (.ref fmL) = true)
    (amS : PySem.W.findIn K (.ref SC) "arcs_of_stores" = some (some (.ref fmS)))
    (imS : PySem.W.isFn K (.ref fmS) = true)
    (lmS : K.lookup fmS = some ⟨ocmS, odmS, .func (PySem.W.fnOf "arcs_of_stores" "StockFlow.arcs_of_stores" (defArgs (inClass (top 16) 4)) (defBody (inClass (top 16) 4)) (defScope (inClass (top 16) 4)) .none kvmS dcmS pmmS anmS cdmS ctmS), slmS⟩)
    (cmS : PySem.W.codeIn K cdmS "StockFlow.arcs_of_stores" = true)
    (kmS : PySem.W.keepIn K (.ref fmS) = true)
    (amA : PySem.W.findIn K (.ref SC) "arcs" = some (some (.ref fmA)))
    (imA : PySem.W.isFn K (.ref fmA) = true)
    (lmA : K.lookup fmA = some ⟨ocmA, odmA, .func (PySem.W.fnOf "arcs" "StockFlow.arcs" (defArgs (inClass (top 16) 5)) (defBody (inClass (top 16) 5)) (defScope (inClass (top 16) 5)) .none kvmA dcmA pmmA anmA cdmA ctmA), slmA⟩)
    (cmA : PySem.W.codeIn K cdmA "StockFlow.arcs" = true)
    (kmA : PySem.W.keepIn K (.ref fmA) = true)
    (amW : PySem.W.findIn K (.ref SC) "way_from" = some (some (.ref fmW)))
    (imW : PySem.W.isFn K (.ref fmW) = true)
    (lmW : K.lookup fmW = some ⟨ocmW, odmW, .func (PySem.W.fnOf "way_from" "StockFlow.way_from" (defArgs (inClass (top 16) 6)) (defBody (inClass (top 16) 6)) (defScope (inClass (top 16) 6)) .none kvmW dcmW pmmW anmW cdmW ctmW), slmW⟩)
    (cmW : PySem.W.codeIn K cdmW "StockFlow.way_from" = true)
    (kmW : PySem.W.keepIn K (.ref fmW) = true)
    (amI : PySem.W.findIn K (.ref SC) "is_pair" = some (some (.ref fmI)))
    (imI : PySem.W.isFn K (.ref fmI) = true)
    (lmI : K.lookup fmI = some ⟨ocmI, odmI, .func (PySem.W.fnOf "is_pair" "StockFlow.is_pair" (defArgs (inClass (top 16) 7)) (defBody (inClass (top 16) 7)) (defScope (inClass (top 16) 7)) .none kvmI dcmI pmmI anmI cdmI ctmI), slmI⟩)
    (cmI : PySem.W.codeIn K cdmI "StockFlow.is_pair" = true)
    (kmI : PySem.W.keepIn K (.ref fmI) = true)
    (amY : PySem.W.findIn K (.ref SC) "is_entry" = some (some (.ref fmY)))
    (imY : PySem.W.isFn K (.ref fmY) = true)
    (lmY : K.lookup fmY = some ⟨ocmY, odmY, .func (PySem.W.fnOf "is_entry" "StockFlow.is_entry" (defArgs (inClass (top 16) 8)) (defBody (inClass (top 16) 8)) (defScope (inClass (top 16) 8)) .none kvmY dcmY pmmY anmY cdmY ctmY), slmY⟩)
    (cmY : PySem.W.codeIn K cdmY "StockFlow.is_entry" = true)
    (kmY : PySem.W.keepIn K (.ref fmY) = true)
    (amT : PySem.W.findIn K (.ref SC) "pair_told" = some (some (.ref fmT)))
    (imT : PySem.W.isFn K (.ref fmT) = true)
    (lmT : K.lookup fmT = some ⟨ocmT, odmT, .func (PySem.W.fnOf "pair_told" "StockFlow.pair_told" (defArgs (inClass (top 16) 9)) (defBody (inClass (top 16) 9)) (defScope (inClass (top 16) 9)) .none kvmT dcmT pmmT anmT cdmT ctmT), slmT⟩)
    (cmT : PySem.W.codeIn K cdmT "StockFlow.pair_told" = true)
    (kmT : PySem.W.keepIn K (.ref fmT) = true)
    (amG : PySem.W.findIn K (.ref SC) "go" = some (some (.ref fmG)))
    (imG : PySem.W.isFn K (.ref fmG) = true)
    (lmG : K.lookup fmG = some ⟨ocmG, odmG, .func (PySem.W.fnOf "go" "StockFlow.go" (defArgs (inClass (top 16) 10)) (defBody (inClass (top 16) 10)) (defScope (inClass (top 16) 10)) .none kvmG dcmG pmmG anmG cdmG ctmG), slmG⟩)
    (cmG : PySem.W.codeIn K cdmG "StockFlow.go" = true)
    (kmG : PySem.W.keepIn K (.ref fmG) = true)
    (amF : PySem.W.findIn K (.ref SC) "fill" = some (some (.ref fmF)))
    (imF : PySem.W.isFn K (.ref fmF) = true)
    (lmF : K.lookup fmF = some ⟨ocmF, odmF, .func (PySem.W.fnOf "fill" "StockFlow.fill" (defArgs (inClass (top 16) 11)) (defBody (inClass (top 16) 11)) (defScope (inClass (top 16) 11)) .none kvmF dcmF pmmF anmF cdmF ctmF), slmF⟩)
    (cmF : PySem.W.codeIn K cdmF "StockFlow.fill" = true)
    (kmF : PySem.W.keepIn K (.ref fmF) = true)
    (amX : PySem.W.findIn K (.ref SC) "placing" = some (some (.ref fmX)))
    (imX : PySem.W.isFn K (.ref fmX) = true)
    (lmX : K.lookup fmX = some ⟨ocmX, odmX, .func (PySem.W.fnOf "placing" "StockFlow.placing" (defArgs (inClass (top 16) 12)) (defBody (inClass (top 16) 12)) (defScope (inClass (top 16) 12)) .none kvmX dcmX pmmX anmX cdmX ctmX), slmX⟩)
    (cmX : PySem.W.codeIn K cdmX "StockFlow.placing" = true)
    (kmX : PySem.W.keepIn K (.ref fmX) = true)
    (asi : PySem.W.findIn K (.ref SC) "__init__" = some (some (.ref fsi)))
    (isi : PySem.W.isFn K (.ref fsi) = true)
    (lsi : K.lookup fsi = some ⟨ocsi, odsi, .func (PySem.W.fnOf "__init__" "StockFlow.__init__" (defArgs (inClass (top 16) 0)) (defBody (inClass (top 16) 0)) (defScope (inClass (top 16) 0)) (.ref Tsi) kvsi dcsi pmsi ansi cdsi ctsi), slsi⟩)
    (csi : PySem.W.codeIn K cdsi "StockFlow.__init__" = true)
    (ksi : PySem.W.keepIn K (.ref fsi) = true)
    (lT : K.lookup Tsi = some ⟨ocT, odT, .seq #[.none] nT, slT⟩)
    (q8 : PySem.W.nsIn K mainGlobals "MOST_STORES" = some (some (.int 8 tq8)))
    (q99 : PySem.W.nsIn K mainGlobals "MOST_NUMBER" = some (some (.int 99 tq99)))
    (qr : PySem.W.nsIn K mainGlobals "MOST_RATE" = some (some (.int 8 tqr)))
    (qw : PySem.W.nsIn K mainGlobals "MOST_WISH" = some (some (.int 3 tqw)))
    (z_len : PySem.W.nsIn K mainGlobals "len" = some none)
    (z_isinstance : PySem.W.nsIn K mainGlobals "isinstance" = some none)
    (z_int : PySem.W.nsIn K mainGlobals "int" = some none)
    (z_bool : PySem.W.nsIn K mainGlobals "bool" = some none)
    (z_str : PySem.W.nsIn K mainGlobals "str" = some none)
    (z_list : PySem.W.nsIn K mainGlobals "list" = some none)
    (z_tuple : PySem.W.nsIn K mainGlobals "tuple" = some none)
    (z_sum : PySem.W.nsIn K mainGlobals "sum" = some none)
    (z_max : PySem.W.nsIn K mainGlobals "max" = some none)
    (z_min : PySem.W.nsIn K mainGlobals "min" = some none)
    (z_range : PySem.W.nsIn K mainGlobals "range" = some none)
    (z_enumerate : PySem.W.nsIn K mainGlobals "enumerate" = some none)
    (z_zip : PySem.W.nsIn K mainGlobals "zip" = some none)
    (z_sorted : PySem.W.nsIn K mainGlobals "sorted" = some none)
    (z_all : PySem.W.nsIn K mainGlobals "all" = some none)
    (z_abs : PySem.W.nsIn K mainGlobals "abs" = some none)
    (z_super : PySem.W.nsIn K mainGlobals "super" = some none)
    (aCW : PySem.W.nsIn K mainGlobals "InvalidWishes" = some (some (.ref CW)))
    (xCW : K.lookup CW = some (excClassObj enW qW CW NW ybW ymW true snW subW abW colW ddW m0W m1W m2W m3W m5W "ValueError.__new__"))
    (vCW : PySem.HandSPX.refsVE ymW = true)
    (sCW : PySem.W.findIn K (.ref CW) "__setattr__" = some (some (.builtin "object.__setattr__")))
    (gCW : PySem.W.findIn K (.ref CW) "__getattribute__" = some (some (.builtin "BaseException.__getattribute__")))
    (hCW : PySem.W.findIn K (.ref CW) "__getattr__" = some none)
    (nCW : PySem.W.findIn K (.ref CW) "value" = some none)
    (iCW : PySem.W.findIn K (.ref CW) "__init__" = some (some (.ref feW)))
    (tCW : PySem.W.typeIn K (.ref feW) = some (.type "function"))
    (lCW : K.lookup feW = some ⟨oceW, odeW, .func (PySem.W.fnX "__init__" "InvalidWishes.__init__" (defArgs (inClass (top 4) 0)) (KS.supBody "the wishes are no wishes" "value" "value" 0 ⟨16, 8, 16, 13⟩ ⟨16, 8, 16, 15⟩ ⟨16, 8, 16, 24⟩ ⟨16, 25, 16, 51⟩ ⟨16, 8, 16, 52⟩ ⟨16, 8, 16, 52⟩ ⟨17, 8, 17, 12⟩ ⟨17, 8, 17, 18⟩ ⟨17, 21, 17, 26⟩ ⟨17, 8, 17, 26⟩) (defScope (inClass (top 4) 0)) [("__class__", ccW)] .none kveW dceW pmeW aneW (.ref daW) cteW), sleW⟩)
    (cCW : PySem.W.codeIn K (.ref daW) "InvalidWishes.__init__" = true)
    (kCW : PySem.W.keepIn K (.ref CW) = true)
    (eCW : PySem.W.subIn K (.ref CW) (.type "BaseException") = some true)
    (yCW : PySem.W.typeIn K (.ref CW) = some (.type "type"))
    (dCW : PySem.W.hasDictIn K CW = true)
    (jCW : PySem.W.isClsIn K CW = true)
    (oCW : PySem.W.subIn K (.ref CW) (.ref CW) = some true)
    (wCW : K.lookup ccW = some ⟨clcW, ocdW, .cell (some (.ref CW)), slcW⟩)
    (rCW : K.lookup daW = some ⟨cldW, oddW, .fields vsW, sldW⟩)
    (uCW : vsW[2]? = some (.str flW tfW))
    (fCW : ((prog0.main.file : Str) == flW) = true)
    (mCW : PySem.W.mroIn K CW (.ref CW) = some true)
    (pCW : PySem.W.ks_superIn K CW CW "__init__" = some (some (.builtin "ValueError.__init__")))
    (bCW : PySem.W.subIn K (.ref CW) (.type "ValueError") = some true)
    (aCU : PySem.W.nsIn K mainGlobals "Undefined" = some (some (.ref CU)))
    (xCU : K.lookup CU = some (excClassObj enU qU CU NU ybU ymU true snU subU abU colU ddU m0U m1U m2U m3U m5U "ValueError.__new__"))
    (vCU : PySem.HandSPX.refsVE ymU = true)
    (sCU : PySem.W.findIn K (.ref CU) "__setattr__" = some (some (.builtin "object.__setattr__")))
    (gCU : PySem.W.findIn K (.ref CU) "__getattribute__" = some (some (.builtin "BaseException.__getattribute__")))
    (hCU : PySem.W.findIn K (.ref CU) "__getattr__" = some none)
    (nCU : PySem.W.findIn K (.ref CU) "what" = some none)
    (iCU : PySem.W.findIn K (.ref CU) "__init__" = some (some (.ref feU)))
    (tCU : PySem.W.typeIn K (.ref feU) = some (.type "function"))
    (lCU : K.lookup feU = some ⟨oceU, odeU, .func (PySem.W.fnX "__init__" "Undefined.__init__" (defArgs (inClass (top 5) 0)) (KS.supBody "what was asked for is not defined here" "what" "what" 0 ⟨21, 8, 21, 13⟩ ⟨21, 8, 21, 15⟩ ⟨21, 8, 21, 24⟩ ⟨21, 25, 21, 65⟩ ⟨21, 8, 21, 66⟩ ⟨21, 8, 21, 66⟩ ⟨22, 8, 22, 12⟩ ⟨22, 8, 22, 17⟩ ⟨22, 20, 22, 24⟩ ⟨22, 8, 22, 24⟩) (defScope (inClass (top 5) 0)) [("__class__", ccU)] .none kveU dceU pmeU aneU (.ref daU) cteU), sleU⟩)
    (cCU : PySem.W.codeIn K (.ref daU) "Undefined.__init__" = true)
    (kCU : PySem.W.keepIn K (.ref CU) = true)
    (eCU : PySem.W.subIn K (.ref CU) (.type "BaseException") = some true)
    (yCU : PySem.W.typeIn K (.ref CU) = some (.type "type"))
    (dCU : PySem.W.hasDictIn K CU = true)
    (jCU : PySem.W.isClsIn K CU = true)
    (oCU : PySem.W.subIn K (.ref CU) (.ref CU) = some true)
    (wCU : K.lookup ccU = some ⟨clcU, ocdU, .cell (some (.ref CU)), slcU⟩)
    (rCU : K.lookup daU = some ⟨cldU, oddU, .fields vsU, sldU⟩)
    (uCU : vsU[2]? = some (.str flU tfU))
    (fCU : ((prog0.main.file : Str) == flU) = true)
    (mCU : PySem.W.mroIn K CU (.ref CU) = some true)
    (pCU : PySem.W.ks_superIn K CU CU "__init__" = some (some (.builtin "ValueError.__init__")))
    (bCU : PySem.W.subIn K (.ref CU) (.type "ValueError") = some true)
    (third : PySem.W.nsIn K cStatics "thirdparty.any" = some none)
    (un : PySem.W.subIn K (.ref CU) (.ref CW) = some false)
    : ∃ fd : FuncData, (∀ (s : Shared) (v : Value), BindsTo s fd ⟨[v], []⟩ [("_law_script", v)]) ∧ ∀ base : Heap, K.In base → base.Ns mainGlobals mg → FnOk prog0 w K mg base CX0 10 fa fd ["_law_script"] (spLaw K) := by
  have e := hfa.symm.trans (PySem.W.mg_of X G ala)
  cases e
  have B : Blt mg := ⟨PySem.W.mg_none_of X G z_len, PySem.W.mg_none_of X G z_isinstance, PySem.W.mg_none_of X G z_int, PySem.W.mg_none_of X G z_bool, PySem.W.mg_none_of X G z_str, PySem.W.mg_none_of X G z_list, PySem.W.mg_none_of X G z_tuple, PySem.W.mg_none_of X G z_sum, PySem.W.mg_none_of X G z_max, PySem.W.mg_none_of X G z_min, PySem.W.mg_none_of X G z_range, PySem.W.mg_none_of X G z_enumerate, PySem.W.mg_none_of X G z_zip, PySem.W.mg_none_of X G z_sorted, PySem.W.mg_none_of X G z_all, PySem.W.mg_none_of X G z_abs⟩
  have T : FlT K SC := ⟨⟨pgSC, hdSC, poSC, saSC⟩, nSC, nSW, nSB, nSG, nSR, nSCh, nSFg, nSFs, nSSk⟩
  have TC : ClT K mg CC := ⟨⟨pgCC, hdCC, poCC, saCC⟩, nCR, nCM, nCT, nCS, ⟨_, PySem.W.mg_of X G q8⟩, ⟨_, PySem.W.mg_of X G q99⟩, ⟨_, PySem.W.mg_of X G qr⟩⟩
  have Fft := fun_mk (st := top 10) lft cft kft
  have bft := Fft.binds (ps := ["value", "least", "most"]) fun _ _ _ _ _ _ us hl => match us, hl with | [_, _, _], _ => rfl
  have nft : Fn K mg "is_from_to" fft _ ["value", "least", "most"] := ⟨PySem.W.mg_of X G aft, kft, bft⟩
  have Fws := fun_mk (st := top 14) lws cws kws
  have bws := Fws.binds (ps := ["value"]) fun _ _ _ _ _ _ us hl => match us, hl with | [_], _ => rfl
  have nws : Fn K mg "is_wishes" fws _ ["value"] := ⟨PySem.W.mg_of X G aws, kws, bws⟩
  have Fsp := fun_mk (st := top 18) lsp csp ksp
  have bsp := Fsp.binds (ps := ["cluster", "wishes"]) fun _ _ _ _ _ _ us hl => match us, hl with | [_, _], _ => rfl
  have nsp : Fn K mg "some_placing" fsp _ ["cluster", "wishes"] := ⟨PySem.W.mg_of X G asp, ksp, bsp⟩
  have Fdr := fun_mk (st := top 20) ldr cdr kdr
  have bdr := Fdr.binds (ps := ["_law_script", "_law_many"]) fun _ _ _ _ _ _ us hl => match us, hl with | [_, _], _ => rfl
  have ndr : Fn K mg "_law_draws" fdr _ ["_law_script", "_law_many"] := ⟨PySem.W.mg_of X G adr, kdr, bdr⟩
  have Ftk := fun_mk (st := top 21) ltk ctk ktk
  have btk := Ftk.binds (ps := ["_law_hand", "_law_many"]) fun _ _ _ _ _ _ us hl => match us, hl with | [_, _], _ => rfl
  have ntk : Fn K mg "_law_take" ftk _ ["_law_hand", "_law_many"] := ⟨PySem.W.mg_of X G atk, ktk, btk⟩
  have Fli := fun_mk (st := top 22) lli cli kli
  have bli := Fli.binds (ps := ["_law_found", "_law_due"]) fun _ _ _ _ _ _ us hl => match us, hl with | [_, _], _ => rfl
  have nli : Fn K mg "_law_like" fli _ ["_law_found", "_law_due"] := ⟨PySem.W.mg_of X G ali, kli, bli⟩
  have Fwi := fun_mk (st := top 23) lwi cwi kwi
  have bwi := Fwi.binds (ps := ["_law_value", "_law_least", "_law_most"]) fun _ _ _ _ _ _ us hl => match us, hl with | [_, _, _], _ => rfl
  have nwi : Fn K mg "_law_within" fwi _ ["_law_value", "_law_least", "_law_most"] := ⟨PySem.W.mg_of X G awi, kwi, bwi⟩
  have Flc := fun_mk (st := top 24) llc clc klc
  have blc := Flc.binds (ps := ["_law_hand", "_law_most"]) fun _ _ _ _ _ _ us hl => match us, hl with | [_, _], _ => rfl
  have nlc : Fn K mg "_law_cluster" flc _ ["_law_hand", "_law_most"] := ⟨PySem.W.mg_of X G alc, klc, blc⟩
  have Flw := fun_mk (st := top 25) llw clw klw
  have blw := Flw.binds (ps := ["_law_hand", "_law_pieces"]) fun _ _ _ _ _ _ us hl => match us, hl with | [_, _], _ => rfl
  have nlw : Fn K mg "_law_wishes" flw _ ["_law_hand", "_law_pieces"] := ⟨PySem.W.mg_of X G alw, klw, blw⟩
  have Fbr := fun_mk (st := top 26) lbr cbr kbr
  have bbr := Fbr.binds (ps := ["_law_cluster_here", "_law_wishes_here", "_law_placing"]) fun _ _ _ _ _ _ us hl => match us, hl with | [_, _, _], _ => rfl
  have nbr : Fn K mg "_law_breach" fbr _ ["_law_cluster_here", "_law_wishes_here", "_law_placing"] := ⟨PySem.W.mg_of X G abr, kbr, bbr⟩
  have Fll := fun_mk (st := top 27) lll cll kll
  have bll := Fll.binds (ps := ["_law_many"]) fun _ _ _ _ _ _ us hl => match us, hl with | [_], _ => rfl
  have nll : Fn K mg "_law_lots" fll _ ["_law_many"] := ⟨PySem.W.mg_of X G all, kll, bll⟩
  have Flk := fun_mk (st := top 28) llk clk klk
  have blk := Flk.binds (ps := ["_law_cluster_here", "_law_wishes_here", "_law_lot"]) fun _ _ _ _ _ _ us hl => match us, hl with | [_, _, _], _ => rfl
  have nlk : Fn K mg "_law_lacks" flk _ ["_law_cluster_here", "_law_wishes_here", "_law_lot"] := ⟨PySem.W.mg_of X G alk, klk, blk⟩
  have Fal := fun_mk (st := top 29) lal cal kal
  have bal := Fal.binds (ps := ["_law_cluster_here", "_law_wishes_here"]) fun _ _ _ _ _ _ us hl => match us, hl with | [_, _], _ => rfl
  have nal : Fn K mg "_law_any_lacks" fal _ ["_law_cluster_here", "_law_wishes_here"] := ⟨PySem.W.mg_of X G aal, kal, bal⟩
  have Fil := fun_mk (st := top 30) lil cil kil
  have bil := Fil.binds (ps := ["_law_value", "_law_many"]) fun _ _ _ _ _ _ us hl => match us, hl with | [_, _], _ => rfl
  have nil : Fn K mg "_law_is_lot" fil _ ["_law_value", "_law_many"] := ⟨PySem.W.mg_of X G ail, kil, bil⟩
  have Fip := fun_mk (st := top 31) lip cip kip
  have bip := Fip.binds (ps := ["_law_value", "_law_stores", "_law_many"]) fun _ _ _ _ _ _ us hl => match us, hl with | [_, _, _], _ => rfl
  have nip : Fn K mg "_law_is_placing" fip _ ["_law_value", "_law_stores", "_law_many"] := ⟨PySem.W.mg_of X G aip, kip, bip⟩
  have Fww := fun_mk (st := top 32) lww cww kww
  have bww := Fww.binds (ps := ["_law_hand", "_law_wishes_here"]) fun _ _ _ _ _ _ us hl => match us, hl with | [_, _], _ => rfl
  have nww : Fn K mg "_law_wrong_wishes" fww _ ["_law_hand", "_law_wishes_here"] := ⟨PySem.W.mg_of X G aww, kww, bww⟩
  have Fto := fun_mk (st := top 33) lto cto kto
  have bto := Fto.binds (ps := ["_law_cluster_here", "_law_wishes_here"]) fun _ _ _ _ _ _ us hl => match us, hl with | [_, _], _ => rfl
  have nto : Fn K mg "_law_told" fto _ ["_law_cluster_here", "_law_wishes_here"] := ⟨PySem.W.mg_of X G ato, kto, bto⟩
  have Fri := fun_mk (st := top 34) lri cri kri
  have bri := Fri.binds (ps := ["_law_cluster_here", "_law_wishes_here"]) fun _ _ _ _ _ _ us hl => match us, hl with | [_, _], _ => rfl
  have nri : Fn K mg "_law_right" fri _ ["_law_cluster_here", "_law_wishes_here"] := ⟨PySem.W.mg_of X G ari, kri, bri⟩
  have Fla := fun_mk (st := top 35) lla cla kla
  have bla := Fla.binds (ps := ["_law_script"]) fun _ _ _ _ _ _ us hl => match us, hl with | [_], _ => rfl
  have Fci := fun_mk (st := inClass (top 11) 0) lci cci kci
  have bci := Fci.binds (ps := ["self", "racks", "rooms", "rates"]) fun _ _ _ _ _ _ us hl => match us, hl with | [_, _, _, _], _ => rfl
  have FmP := fun_mk (st := inClass (top 16) 1) lmP cmP kmP
  have bmP := FmP.binds (ps := ["self", "piece", "rack"]) fun _ _ _ _ _ _ us hl => match us, hl with | [_, _, _], _ => rfl
  have nmP : MFn K SC "pair" fmP _ ["self", "piece", "rack"] := ⟨⟨amP, imP, kmP⟩, bmP⟩
  have FmE := fun_mk (st := inClass (top 16) 2) lmE cmE kmE
  have bmE := FmE.binds (ps := ["self", "piece", "store"]) fun _ _ _ _ _ _ us hl => match us, hl with | [_, _, _], _ => rfl
  have nmE : MFn K SC "entry" fmE _ ["self", "piece", "store"] := ⟨⟨amE, imE, kmE⟩, bmE⟩
  have FmL := fun_mk (st := inClass (top 16) 3) lmL cmL kmL
  have bmL := FmL.binds (ps := ["self"]) fun _ _ _ _ _ _ us hl => match us, hl with | [_], _ => rfl
  have nmL : MFn K SC "loads" fmL _ ["self"] := ⟨⟨amL, imL, kmL⟩, bmL⟩
  have FmS := fun_mk (st := inClass (top 16) 4) lmS cmS kmS
  have bmS := FmS.binds (ps := ["self"]) fun _ _ _ _ _ _ us hl => match us, hl with | [_], _ => rfl
  have nmS : MFn K SC "arcs_of_stores" fmS _ ["self"] := ⟨⟨amS, imS, kmS⟩, bmS⟩
  have FmA := fun_mk (st := inClass (top 16) 5) lmA cmA kmA
  have bmA := FmA.binds (ps := ["self"]) fun _ _ _ _ _ _ us hl => match us, hl with | [_], _ => rfl
  have nmA : MFn K SC "arcs" fmA _ ["self"] := ⟨⟨amA, imA, kmA⟩, bmA⟩
  have FmW := fun_mk (st := inClass (top 16) 6) lmW cmW kmW
  have bmW := FmW.binds (ps := ["self", "piece"]) fun _ _ _ _ _ _ us hl => match us, hl with | [_, _], _ => rfl
  have nmW : MFn K SC "way_from" fmW _ ["self", "piece"] := ⟨⟨amW, imW, kmW⟩, bmW⟩
  have FmI := fun_mk (st := inClass (top 16) 7) lmI cmI kmI
  have bmI := FmI.binds (ps := ["self", "node"]) fun _ _ _ _ _ _ us hl => match us, hl with | [_, _], _ => rfl
  have nmI : MFn K SC "is_pair" fmI _ ["self", "node"] := ⟨⟨amI, imI, kmI⟩, bmI⟩
  have FmY := fun_mk (st := inClass (top 16) 8) lmY cmY kmY
  have bmY := FmY.binds (ps := ["self", "node"]) fun _ _ _ _ _ _ us hl => match us, hl with | [_, _], _ => rfl
  have nmY : MFn K SC "is_entry" fmY _ ["self", "node"] := ⟨⟨amY, imY, kmY⟩, bmY⟩
  have FmT := fun_mk (st := inClass (top 16) 9) lmT cmT kmT
  have bmT := FmT.binds (ps := ["self", "node"]) fun _ _ _ _ _ _ us hl => match us, hl with | [_, _], _ => rfl
  have nmT : MFn K SC "pair_told" fmT _ ["self", "node"] := ⟨⟨amT, imT, kmT⟩, bmT⟩
  have FmG := fun_mk (st := inClass (top 16) 10) lmG cmG kmG
  have bmG := FmG.binds (ps := ["self", "way"]) fun _ _ _ _ _ _ us hl => match us, hl with | [_, _], _ => rfl
  have nmG : MFn K SC "go" fmG _ ["self", "way"] := ⟨⟨amG, imG, kmG⟩, bmG⟩
  have FmF := fun_mk (st := inClass (top 16) 11) lmF cmF kmF
  have bmF := FmF.binds (ps := ["self"]) fun _ _ _ _ _ _ us hl => match us, hl with | [_], _ => rfl
  have nmF : MFn K SC "fill" fmF _ ["self"] := ⟨⟨amF, imF, kmF⟩, bmF⟩
  have FmX := fun_mk (st := inClass (top 16) 12) lmX cmX kmX
  have bmX := FmX.binds (ps := ["self"]) fun _ _ _ _ _ _ us hl => match us, hl with | [_], _ => rfl
  have nmX : MFn K SC "placing" fmX _ ["self"] := ⟨⟨amX, imX, kmX⟩, bmX⟩
  have Fsi : FunD K "__init__" "StockFlow.__init__" (defArgs (inClass (top 16) 0)) (defBody (inClass (top 16) 0)) (defScope (inClass (top 16) 0)) [.non] [] fsi _ := ⟨⟨_, _, _, _, _, _, _, _, _, _, rfl, lsi, csi, .inr ⟨by simp, Tsi, _, [.none], nT, rfl, lT, rfl, .cons rfl .nil⟩, .inl rfl⟩, ksi⟩
  obtain ⟨ds, dI, bI⟩ := Fsi.binds1 (ps := ["self", "cluster", "wishes", "before", "gates"]) 4 0 (by simp) rfl fun T kV doc pm an cdv ct us its hl hi => match us, its, hl, hi with | [_, _, _, _], [_], _, _ => ⟨_, rfl, rfl⟩
  refine ⟨PySem.W.fnOf "law" "law" (defArgs (top 35)) (defBody (top 35)) (defScope (top 35)) .none kvla dcla pmla anla cdla ctla, fun s v => .of_eq rfl, fun base _ _ => ?_⟩
  have oxW : OexC K CW := ⟨⟨enW, qW, NW, ybW, ymW, snW, subW, abW, colW, ddW, m0W, m1W, m2W, m3W, m5W, xCW, vCW⟩, sCW, eCW, yCW, kCW⟩
  have suW : KS.SupC K prog0 CW ccW daW "value" := ⟨oxW, ⟨_, _, _, wCW⟩, ⟨_, _, vsW, _, flW, tfW, rCW, uCW, fCW⟩, mCW, third, pCW, bCW, nCW⟩
  have scW : KS.SupScope (defScope (inClass (top 4) 0)) "value" := ⟨rfl, rfl, rfl, by decide +kernel, by decide +kernel, by decide +kernel, by decide +kernel, by decide +kernel, by decide +kernel, by decide +kernel, by decide +kernel, by decide +kernel⟩
  have gW := KS.ok_sup (w := w) (mg := mg) (base := base) (CX := CX0) lCW cCW suW scW rfl (PySem.W.mg_none_of X G z_super) (by decide +kernel) (fun env => ⟨_, rfl⟩)
  have erW : ErT prog0 w K mg base "InvalidWishes" "value" "value" CW feW _ := ⟨PySem.W.mg_of X G aCW, oxW, iCW, tCW, gW, .all fun us hl => match us, hl with | [_, _], _ => rfl⟩
  have caW : CaT K "InvalidWishes" "value" CW := ⟨⟨gCW, hCW, eCW, dCW⟩, nCW, exm_two eCW jCW yCW eCW jCW yCW oCW⟩
  have oxU : OexC K CU := ⟨⟨enU, qU, NU, ybU, ymU, snU, subU, abU, colU, ddU, m0U, m1U, m2U, m3U, m5U, xCU, vCU⟩, sCU, eCU, yCU, kCU⟩
  have suU : KS.SupC K prog0 CU ccU daU "what" := ⟨oxU, ⟨_, _, _, wCU⟩, ⟨_, _, vsU, _, flU, tfU, rCU, uCU, fCU⟩, mCU, third, pCU, bCU, nCU⟩
  have scU : KS.SupScope (defScope (inClass (top 5) 0)) "what" := ⟨rfl, rfl, rfl, by decide +kernel, by decide +kernel, by decide +kernel, by decide +kernel, by decide +kernel, by decide +kernel, by decide +kernel, by decide +kernel, by decide +kernel⟩
  have gU := KS.ok_sup (w := w) (mg := mg) (base := base) (CX := CX0) lCU cCU suU scU rfl (PySem.W.mg_none_of X G z_super) (by decide +kernel) (fun env => ⟨_, rfl⟩)
  have erU : ErT prog0 w K mg base "Undefined" "what" "what" CU feU _ := ⟨PySem.W.mg_of X G aCU, oxU, iCU, tCU, gU, .all fun us hl => match us, hl with | [_, _], _ => rfl⟩
  have caU : CaT K "Undefined" "what" CU := ⟨⟨gCU, hCU, eCU, dCU⟩, nCU, exm_two eCU jCU yCU eCU jCU yCU oCU⟩
  have un2 := exm_two eCU jCU yCU eCW jCW yCW un
  have oft := ok_ft (P := prog0) (w := w) (base := base) Fft B
  have oci := ok_cl Fci B TC nft oft
  have ows := ok_ws Fws B ⟨_, PySem.W.mg_of X G qw⟩ nft oft
  have omP := ok_pair (P := prog0) (w := w) (base := base) (CC := CC) FmP B T
  have omE := ok_entry (P := prog0) (w := w) (base := base) (CC := CC) FmE B T
  have omI := ok_isp (P := prog0) (w := w) (base := base) (CC := CC) FmI B T
  have omY := ok_ise (P := prog0) (w := w) (base := base) (CC := CC) FmY B T
  have omT := ok_told (P := prog0) (w := w) (base := base) (CC := CC) FmT B T
  have omL := ok_lo FmL B T TC nmE omE
  have omS := ok_as FmS B T TC nmL omL
  have omA := ok_ar FmA B T TC nmS omS nmE omE nmP omP
  have omW := ok_wa FmW B T nmA omA
  have omG := ok_go FmG B T TC nmI omI nmY omY nmT omT
  have omF := ok_fi FmF B T nmW omW nmG omG
  have omX := ok_pl (P := prog0) (w := w) (base := base) (CC := CC) FmX B T
  have osi := ok_in (P := prog0) (w := w) (base := base) (CC := CC) Fsi B T TC
  have osp := ok_sp Fsp B T TC nws ows erW erU (PySem.W.mg_of X G aSC) ⟨mkSC, asi, isi, kcSC⟩ osi bI dI nmF omF nmX omX
  have oto := ok_to Fto nsp osp (PySem.W.mg_of X G aCW) (PySem.W.mg_of X G aCU) caW caU un2
  have odr := ok_dr (P := prog0) (w := w) (base := base) Fdr B
  have otk := ok_tk (P := prog0) (w := w) (base := base) Ftk B
  have olc := ok_lc Flc B ntk otk
  have olw := ok_lw Flw B ntk otk
  have oll := ok_ll (P := prog0) (w := w) (base := base) Fll B
  have olk := ok_lk (P := prog0) (w := w) (base := base) Flk B
  have oal := ok_al Fal B nll oll nlk olk
  have owi := ok_wi (P := prog0) (w := w) (base := base) Fwi B
  have oil := ok_il Fil B nwi owi
  have oip := ok_ip Fip B nil oil
  have obr := ok_br (P := prog0) (w := w) (base := base) Fbr B
  have oli := ok_li (P := prog0) (w := w) (base := base) Fli B nli 4
  have oww := ok_ww Fww B ntk otk
  have ori := ok_ri Fri B (PySem.W.mg_of X G aCC) ⟨mkCC, aci, ici, kcCC⟩ oci bci nto oto nal oal nip oip nbr obr nli oli
  exact ok_law Fla B ndr odr ntk otk nlc olc nlw olw nri ori nww oww nto oto nli oli (PySem.W.mg_of X G aCC) ⟨mkCC, aci, ici, kcCC⟩ oci bci
theorem walk {q : Program} {loose : List Str} {XP : (Str → Option Value) → Heap → Prop} {YP : World → Heap → Prop} {d : DefRec} {K : Params → PySem.W.Frag} (hdf : d.params.defaults = [])
    (hY : ∀ (w : World) (h : Heap), YP w h → (K w.params).In h)
    (F : ∀ (w : World) (mg : Str → Option Value) (fa : Addr) (h : Heap), (K w.params).In h → h.Ns mainGlobals mg → mg d.name = some (.ref fa) →
      ∃ fd : FuncData, (∀ (s : Shared) (u : Value), BindsTo s fd ⟨[u], []⟩ [("_law_script", u)]) ∧ ∀ base : Heap, (K w.params).In base → base.Ns mainGlobals mg → FnOk prog0 w (K w.params) mg base CX0 10 fa fd ["_law_script"] (spLaw (K w.params))) :
    PySem.W.WalkO q loose XP YP PySem.Challenge.rw_movedwhole_k11_some_placing.row.toRowW d [] (fun f vs => PySem.call f vs) :=
  L2.walk_of (l := PySem.Challenge.rw_movedwhole_k11_some_placing) (n := 63) (k := 10) (x := "_law_script") (CX := fun _ => CX0) (sp := fun w => spLaw (K w.params)) rfl (by decide) hdf ⟨rfl, by decide, by decide⟩ hY F (fun _ _ a ns hl _ hS => ⟨a, ns, rfl, hS, hl, fun _ => rfl⟩) fun _ _ _ _ _ z => z
end MV
end
set_option Elab.async false
set_option linter.all false
open PySem PySem.W PyProof.Rows
set_option maxRecDepth 100000 in
set_option maxHeartbeats 0 in
theorem PySem.Challenge.cw_movedwhole_k11_some_placing_holds : PySem.Challenge.rw_movedwhole_k11_some_placing.Holds := by
  w_on; o_law; k_head; (case hw => w_witness2)
  k_fill
  refine MV.walk rfl (fun w h Y => PySem.W.kIn_of Y) ?F
  case F =>
    intro w mg fa h KX G hmg
    refine' MV.all_mk KX G hmg ?aft ?lft ?cft ?kft ?aws ?lws ?cws ?kws ?asp ?lsp ?csp ?ksp ?adr ?ldr ?cdr ?kdr ?atk ?ltk ?ctk ?ktk ?ali ?lli ?cli ?kli ?awi ?lwi ?cwi ?kwi ?alc ?llc ?clc ?klc ?alw ?llw ?clw ?klw ?abr ?lbr ?cbr ?kbr ?all ?lll ?cll ?kll ?alk ?llk ?clk ?klk ?aal ?lal ?cal ?kal ?ail ?lil ?cil ?kil ?aip ?lip ?cip ?kip ?aww ?lww ?cww ?kww ?ato ?lto ?cto ?kto ?ari ?lri ?cri ?kri ?ala ?lla ?cla ?kla ?aCC ?pgCC ?hdCC ?poCC ?saCC ?mkCC ?kcCC ?aSC ?pgSC ?hdSC ?poSC ?saSC ?mkSC ?kcSC ?nSC ?nSW ?nSB ?nSG ?nSR ?nSCh ?nSFg ?nSFs ?nSSk ?nCR ?nCM ?nCT ?nCS ?aci ?ici ?lci ?cci ?kci ?amP ?imP ?lmP ?cmP ?kmP ?amE ?imE ?lmE ?cmE ?kmE ?amL ?imL ?lmL ?cmL ?kmL ?amS ?imS ?lmS ?cmS ?kmS ?amA ?imA ?lmA ?cmA ?kmA ?amW ?imW ?lmW ?cmW ?kmW ?amI ?imI ?lmI ?cmI ?kmI ?amY ?imY ?lmY ?cmY ?kmY ?amT ?imT ?lmT ?cmT ?kmT ?amG ?imG ?lmG ?cmG ?kmG ?amF ?imF ?lmF ?cmF ?kmF ?amX ?imX ?lmX ?cmX ?kmX ?asi ?isi ?lsi ?csi ?ksi ?lT ?q8 ?q99 ?qr ?qw ?z_len ?z_isinstance ?z_int ?z_bool ?z_str ?z_list ?z_tuple ?z_sum ?z_max ?z_min ?z_range ?z_enumerate ?z_zip ?z_sorted ?z_all ?z_abs ?z_super ?aCW ?xCW ?vCW ?sCW ?gCW ?hCW ?nCW ?iCW ?tCW ?lCW ?cCW ?kCW ?eCW ?yCW ?dCW ?jCW ?oCW ?wCW ?rCW ?uCW ?fCW ?mCW ?pCW ?bCW ?aCU ?xCU ?vCU ?sCU ?gCU ?hCU ?nCU ?iCU ?tCU ?lCU ?cCU ?kCU ?eCU ?yCU ?dCU ?jCU ?oCU ?wCU ?rCU ?uCU ?fCU ?mCU ?pCU ?bCU ?third ?un
    (case aft => k_is)
    (case lft => k_is)
    (case cft => k_is)
    (case kft => k_is)
    (case aws => k_is)
    (case lws => k_is)
    (case cws => k_is)
    (case kws => k_is)
    (case asp => k_is)
    (case lsp => k_is)
    (case csp => k_is)
    (case ksp => k_is)
    (case adr => k_is)
    (case ldr => k_is)
    (case cdr => k_is)
    (case kdr => k_is)
    (case atk => k_is)
    (case ltk => k_is)
    (case ctk => k_is)
    (case ktk => k_is)
    (case ali => k_is)
    (case lli => k_is)
    (case cli => k_is)
    (case kli => k_is)
    (case awi => k_is)
    (case lwi => k_is)
    (case cwi => k_is)
    (case kwi => k_is)
    (case alc => k_is)
    (case llc => k_is)
    (case clc => k_is)
    (case klc => k_is)
    (case alw => k_is)
    (case llw => k_is)
    (case clw => k_is)
    (case klw => k_is)
    (case abr => k_is)
    (case lbr => k_is)
    (case cbr => k_is)
    (case kbr => k_is)
    (case all => k_is)
    (case lll => k_is)
    (case cll => k_is)
    (case kll => k_is)
    (case alk => k_is)
    (case llk => k_is)
    (case clk => k_is)
    (case klk => k_is)
    (case aal => k_is)
    (case lal => k_is)
    (case cal => k_is)
    (case kal => k_is)
    (case ail => k_is)
    (case lil => k_is)
    (case cil => k_is)
    (case kil => k_is)
    (case aip => k_is)
    (case lip => k_is)
    (case cip => k_is)
    (case kip => k_is)
    (case aww => k_is)
    (case lww => k_is)
    (case cww => k_is)
    (case kww => k_is)
    (case ato => k_is)
    (case lto => k_is)
    (case cto => k_is)
    (case kto => k_is)
    (case ari => k_is)
    (case lri => k_is)
    (case cri => k_is)
    (case kri => k_is)
    (case ala => k_is)
    (case lla => k_is)
    (case cla => k_is)
    (case kla => k_is)
    (case aCC => k_is)
    (case pgCC => k_is)
    (case hdCC => k_is)
    (case poCC => k_is)
    (case saCC => k_is)
    (case mkCC => k_is)
    (case kcCC => k_is)
    (case aSC => k_is)
    (case pgSC => k_is)
    (case hdSC => k_is)
    (case poSC => k_is)
    (case saSC => k_is)
    (case mkSC => k_is)
    (case kcSC => k_is)
    (case nSC => k_is)
    (case nSW => k_is)
    (case nSB => k_is)
    (case nSG => k_is)
    (case nSR => k_is)
    (case nSCh => k_is)
    (case nSFg => k_is)
    (case nSFs => k_is)
    (case nSSk => k_is)
    (case nCR => k_is)
    (case nCM => k_is)
    (case nCT => k_is)
    (case nCS => k_is)
    (case aci => k_is)
    (case ici => k_is)
    (case lci => k_is)
    (case cci => k_is)
    (case kci => k_is)
    (case amP => k_is)
    (case imP => k_is)
    (case lmP => k_is)
    (case cmP => k_is)
    (case kmP => k_is)
    (case amE => k_is)
    (case imE => k_is)
    (case lmE => k_is)
    (case cmE => k_is)
    (case kmE => k_is)
    (case amL => k_is)
    (case imL => k_is)
    (case lmL => k_is)
    (case cmL => k_is)
    (case kmL => k_is)
    (case amS => k_is)
    (case imS => k_is)
    (case lmS => k_is)
    (case cmS => k_is)
    (case kmS => k_is)
    (case amA => k_is)
    (case imA => k_is)
    (case lmA => k_is)
    (case cmA => k_is)
    (case kmA => k_is)
    (case amW => k_is)
    (case imW => k_is)
    (case lmW => k_is)
    (case cmW => k_is)
    (case kmW => k_is)
    (case amI => k_is)
    (case imI => k_is)
    (case lmI => k_is)
    (case cmI => k_is)
    (case kmI => k_is)
    (case amY => k_is)
    (case imY => k_is)
    (case lmY => k_is)
    (case cmY => k_is)
    (case kmY => k_is)
    (case amT => k_is)
    (case imT => k_is)
    (case lmT => k_is)
    (case cmT => k_is)
    (case kmT => k_is)
    (case amG => k_is)
    (case imG => k_is)
    (case lmG => k_is)
    (case cmG => k_is)
    (case kmG => k_is)
    (case amF => k_is)
    (case imF => k_is)
    (case lmF => k_is)
    (case cmF => k_is)
    (case kmF => k_is)
    (case amX => k_is)
    (case imX => k_is)
    (case lmX => k_is)
    (case cmX => k_is)
    (case kmX => k_is)
    (case asi => k_is)
    (case isi => k_is)
    (case lsi => k_is)
    (case csi => k_is)
    (case ksi => k_is)
    (case lT => k_is)
    (case q8 => k_is)
    (case q99 => k_is)
    (case qr => k_is)
    (case qw => k_is)
    (case z_len => k_is)
    (case z_isinstance => k_is)
    (case z_int => k_is)
    (case z_bool => k_is)
    (case z_str => k_is)
    (case z_list => k_is)
    (case z_tuple => k_is)
    (case z_sum => k_is)
    (case z_max => k_is)
    (case z_min => k_is)
    (case z_range => k_is)
    (case z_enumerate => k_is)
    (case z_zip => k_is)
    (case z_sorted => k_is)
    (case z_all => k_is)
    (case z_abs => k_is)
    (case z_super => k_is)
    (case aCW => k_is)
    (case xCW => k_is)
    (case vCW => first | rfl | decide +kernel | k_is)
    (case sCW => k_is)
    (case gCW => k_is)
    (case hCW => k_is)
    (case nCW => k_is)
    (case iCW => k_is)
    (case tCW => k_is)
    (case lCW => k_is)
    (case cCW => k_is)
    (case kCW => k_is)
    (case eCW => k_is)
    (case yCW => k_is)
    (case dCW => k_is)
    (case jCW => k_is)
    (case oCW => first | rfl | k_is)
    (case wCW => k_is)
    (case rCW => k_is)
    (case uCW => first | rfl | decide +kernel | k_is)
    (case fCW => first | rfl | decide +kernel | k_is)
    (case mCW => k_is)
    (case pCW => ks_is)
    (case bCW => k_is)
    (case aCU => k_is)
    (case xCU => k_is)
    (case vCU => first | rfl | decide +kernel | k_is)
    (case sCU => k_is)
    (case gCU => k_is)
    (case hCU => k_is)
    (case nCU => k_is)
    (case iCU => k_is)
    (case tCU => k_is)
    (case lCU => k_is)
    (case cCU => k_is)
    (case kCU => k_is)
    (case eCU => k_is)
    (case yCU => k_is)
    (case dCU => k_is)
    (case jCU => k_is)
    (case oCU => first | rfl | k_is)
    (case wCU => k_is)
    (case rCU => k_is)
    (case uCU => first | rfl | decide +kernel | k_is)
    (case fCU => first | rfl | decide +kernel | k_is)
    (case mCU => k_is)
    (case pCU => ks_is)
    (case bCU => k_is)
    (case third => k_is)
    (case un => first | rfl | k_is)

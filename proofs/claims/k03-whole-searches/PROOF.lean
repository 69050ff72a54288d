import PyProof.Rows.All
import Wide.All
import OpenK.AllK
import Wide.FinOn
import HandS.ForMost
import HandS.AnyAll
import HandS.GenOver
import KE.KDictKeyed
import KE.KDictCopyH
import KE.KDictList
import HandS.Deep
import HandS.Conv
import HandS.IsInst
import HandS.TupAny
import HandS.Flow
import HandS.Style
import HandS.Defaults
import HandS.Dict
import HandS.DictComp
import PyProof.Rows.TupDisplay
import KE.GoesMore
import PyProof.EnumMake
import HandS.HeadHook4
import HandS.HeadWalk
import HandS.WordsExc
import HandS.TryOnly
import PySem.Challenge.RW_lostlines_k03_whole_searches
import HandS.TupMul
import HandS.ExcInit
import HandS.HeadEnd
import HandS.Head0
import HandS.Head1
import HandS.Head2
import HandS.HeadHook1
import HandS.HeadHook2
import KE.KStateDown
import Lean
set_option Elab.async false
set_option linter.all false
set_option maxHeartbeats 4000000
set_option linter.unusedSectionVars false
namespace Lost
/-! breadth first -/
section
variable {S L : Type} [DecidableEq S]

/-- what stands under a key -/
def pathOf (f : List (S × List L)) (s : S) : List L := match f.find? (fun e => decide (e.1 = s)) with
  | some e => e.2
  | none => []
def addOne (next : S → L → Option S) (held : S) (st : List (S × List L) × List S) (l : L) : List (S × List L) × List S :=
  match next held l with
  | none => st
  | some a => if a ∈ st.1.map (·.1) then st else (st.1 ++ [(a, pathOf st.1 held ++ [l])], st.2 ++ [a])
def addAll (next : S → L → Option S) (lines : List L) (st : List (S × List L) × List S) (held : S) : List (S × List L) × List S :=
  lines.foldl (addOne next held) st
def layerOf (next : S → L → Option S) (lines : List L) (found : List (S × List L)) (layer : List S) : List (S × List L) × List S :=
  layer.foldl (addAll next lines) (found, [])
def bfs (next : S → L → Option S) (lines : List L) (goal : S → Bool) : Nat → List (S × List L) → List S → Option (List L)
  | 0, _, _ => none
  | k + 1, found, layer => if layer = [] then none else match layer.find? goal with
    | some h => some (pathOf found h)
    | none => bfs next lines goal k (layerOf next lines found layer).1 (layerOf next lines found layer).2

/-- a path by lines of the list -/
inductive Path (next : S → L → Option S) (lines : List L) (s0 : S) : List L → S → Prop
  | nil : Path next lines s0 [] s0
  | snoc {p : List L} {s a : S} {l : L} : Path next lines s0 p s → l ∈ lines → next s l = some a → Path next lines s0 (p ++ [l]) a

variable {next : S → L → Option S} {lines : List L} {goal : S → Bool} {s0 : S}

/-- all entries are paths, keys apart -/
structure Good (next : S → L → Option S) (lines : List L) (s0 : S) (f : List (S × List L)) : Prop where
  nd : (f.map (·.1)).Nodup
  path : ∀ e ∈ f, Path next lines s0 e.2 e.1

theorem pathOf_mem {f : List (S × List L)} {s : S} (h : s ∈ f.map (·.1)) : (s, pathOf f s) ∈ f := by
  unfold pathOf
  cases q : f.find? (fun e => decide (e.1 = s)) with
  | none =>
    obtain ⟨e, he, e1⟩ := List.mem_map.mp h
    have := List.find?_eq_none.mp q e he
    simp [e1] at this
  | some e =>
    have h1 := List.find?_some q
    have h2 := List.mem_of_find?_eq_some q
    have h3 : e.1 = s := by simpa using h1
    have : (s, e.2) = e := by rw [← h3]
    simpa [this] using h2
theorem pathOf_app {f g : List (S × List L)} {s : S} (h : s ∈ f.map (·.1)) : pathOf (f ++ g) s = pathOf f s := by
  unfold pathOf
  rw [List.find?_append]
  cases q : f.find? (fun e => decide (e.1 = s)) with
  | none =>
    obtain ⟨e, he, e1⟩ := List.mem_map.mp h
    have := List.find?_eq_none.mp q e he
    simp [e1] at this
  | some e => simp

/-- what a state of the work keeps: found is the old with later behind -/
structure Mid (next : S → L → Option S) (lines : List L) (s0 : S) (d : Nat) (found : List (S × List L)) (st : List (S × List L) × List S) : Prop where
  good : Good next lines s0 st.1
  app : ∃ g, st.1 = found ++ g ∧ g.map (·.1) = st.2 ∧ ∀ e ∈ g, e.2.length = d + 1

theorem nodup_snoc {α : Type} {l : List α} {a : α} (h : l.Nodup) (ha : a ∉ l) : (l ++ [a]).Nodup := by
  rw [List.nodup_append]
  refine ⟨h, by simp, fun x hx y hy => ?_⟩
  have : y = a := by simpa using hy
  subst this
  exact fun e => ha (e ▸ hx)

theorem mid_one {d : Nat} {found : List (S × List L)} {st : List (S × List L) × List S} {held : S} {l : L} (hl : l ∈ lines) (hh : held ∈ found.map (·.1)) (hd : (pathOf found held).length = d)
    (m : Mid next lines s0 d found st) : Mid next lines s0 d found (addOne next held st l) := by
  unfold addOne
  cases e : next held l with
  | none => exact m
  | some a =>
    by_cases ha : a ∈ st.1.map (·.1)
    · simp only [if_pos ha]; exact m
    · simp only [if_neg ha]
      obtain ⟨g, e1, e2, e3⟩ := m.app
      have hp : pathOf st.1 held = pathOf found held := by rw [e1]; exact pathOf_app hh
      have hm : (held, pathOf st.1 held) ∈ st.1 := pathOf_mem (by rw [e1, List.map_append]; exact List.mem_append_left _ hh)
      have pp : Path next lines s0 (pathOf st.1 held ++ [l]) a := .snoc (m.good.path _ hm) hl e
      refine ⟨⟨?_, ?_⟩, g ++ [(a, pathOf st.1 held ++ [l])], ?_, ?_, ?_⟩
      · rw [List.map_append]
        exact nodup_snoc m.good.nd ha
      · intro x hx
        rcases List.mem_append.mp hx with hx | hx
        · exact m.good.path x hx
        · have : x = (a, pathOf st.1 held ++ [l]) := by simpa using hx
          subst this; exact pp
      · simp only [e1, List.append_assoc]
      · simp [e2]
      · intro x hx
        rcases List.mem_append.mp hx with hx | hx
        · exact e3 x hx
        · have : x = (a, pathOf st.1 held ++ [l]) := by simpa using hx
          subst this
          simp [hp, hd]
theorem sub_one {st : List (S × List L) × List S} {held : S} {l : L} {x : S} (h : x ∈ st.1.map (·.1)) : x ∈ (addOne next held st l).1.map (·.1) := by
  unfold addOne
  cases e : next held l with
  | none => exact h
  | some a =>
    by_cases ha : a ∈ st.1.map (·.1)
    · simp only [if_pos ha]; exact h
    · simp only [if_neg ha, List.map_append]; exact List.mem_append_left _ h
theorem has_one {st : List (S × List L) × List S} {held : S} {l : L} {a : S} (h : next held l = some a) : a ∈ (addOne next held st l).1.map (·.1) := by
  unfold addOne
  rw [h]
  by_cases ha : a ∈ st.1.map (·.1)
  · simp only [if_pos ha]; exact ha
  · simp only [if_neg ha, List.map_append]; exact List.mem_append_right _ (by simp)
theorem mid_all {d : Nat} {found : List (S × List L)} {held : S} (hh : held ∈ found.map (·.1)) (hd : (pathOf found held).length = d) : ∀ (ls : List L) (st : List (S × List L) × List S), (∀ l ∈ ls, l ∈ lines) →
    Mid next lines s0 d found st → Mid next lines s0 d found (addAll next ls st held) ∧ (∀ x, x ∈ st.1.map (·.1) → x ∈ (addAll next ls st held).1.map (·.1)) ∧ ∀ l ∈ ls, ∀ a, next held l = some a → a ∈ (addAll next ls st held).1.map (·.1)
  | [], st, _, m => ⟨m, fun _ h => h, fun l hl => by cases hl⟩
  | l :: ls, st, hs, m => by
    have m1 := mid_one (l := l) (hs l List.mem_cons_self) hh hd m
    obtain ⟨a1, a2, a3⟩ := mid_all hh hd ls (addOne next held st l) (fun x hx => hs x (List.mem_cons_of_mem _ hx)) m1
    refine ⟨a1, fun x hx => a2 x (sub_one hx), fun x hx a ha => ?_⟩
    rcases List.mem_cons.mp hx with rfl | hx
    · exact a2 a (has_one ha)
    · exact a3 x hx a ha
theorem mid_layer {d : Nat} {found : List (S × List L)} : ∀ (ly : List S) (st : List (S × List L) × List S), (∀ s ∈ ly, s ∈ found.map (·.1) ∧ (pathOf found s).length = d) →
    Mid next lines s0 d found st → Mid next lines s0 d found (ly.foldl (addAll next lines) st) ∧ (∀ x, x ∈ st.1.map (·.1) → x ∈ (ly.foldl (addAll next lines) st).1.map (·.1)) ∧
      ∀ s ∈ ly, ∀ l ∈ lines, ∀ a, next s l = some a → a ∈ (ly.foldl (addAll next lines) st).1.map (·.1)
  | [], st, _, m => ⟨m, fun _ h => h, fun l hl => by cases hl⟩
  | s :: ly, st, hs, m => by
    obtain ⟨h1, h2⟩ := hs s List.mem_cons_self
    obtain ⟨a1, a2, a3⟩ := mid_all h1 h2 lines st (fun _ h => h) m
    obtain ⟨b1, b2, b3⟩ := mid_layer ly (addAll next lines st s) (fun x hx => hs x (List.mem_cons_of_mem _ hx)) a1
    refine ⟨b1, fun x hx => b2 x (a2 x hx), fun x hx l hl a ha => ?_⟩
    rcases List.mem_cons.mp hx with rfl | hx
    · exact b2 a (a3 l hl a ha)
    · exact b3 x hx l hl a ha

/-- ahead of the turn d -/
structure Turn (next : S → L → Option S) (lines : List L) (goal : S → Bool) (s0 : S) (d : Nat) (found : List (S × List L)) (layer : List S) : Prop where
  good : Good next lines s0 found
  olds : ∃ old : List (S × List L), ∃ now : List (S × List L), found = old ++ now ∧ now.map (·.1) = layer ∧ (∀ e ∈ now, e.2.length = d) ∧ (∀ e ∈ old, goal e.1 = false) ∧
    (∀ e ∈ old, ∀ l ∈ lines, ∀ a, next e.1 l = some a → a ∈ found.map (·.1)) ∧ (∀ p s, Path next lines s0 p s → p.length < d → s ∈ old.map (·.1)) ∧ d ≤ old.length
  start : s0 ∈ found.map (·.1)
theorem turn0 : Turn next lines goal s0 0 [(s0, [])] [s0] where
  good := ⟨by simp, fun e he => by
    have : e = (s0, []) := by simpa using he
    subst this; exact .nil⟩
  olds := ⟨[], [(s0, [])], rfl, rfl, fun e he => by
    have : e = (s0, []) := by simpa using he
    subst this; rfl, fun e he => (by cases he), fun e he => (by cases he), fun p s _ h => absurd h (Nat.not_lt_zero _), Nat.le_refl _⟩
  start := by simp
theorem path_last {p : List L} {s : S} (h : Path next lines s0 p s) : (p = [] ∧ s = s0) ∨ ∃ q t l, p = q ++ [l] ∧ Path next lines s0 q t ∧ l ∈ lines ∧ next t l = some s := by
  cases h with
  | nil => exact .inl ⟨rfl, rfl⟩
  | snoc a b c => exact .inr ⟨_, _, _, rfl, a, b, c⟩
theorem Turn.lens {d : Nat} {found : List (S × List L)} {layer : List S} (t : Turn next lines goal s0 d found layer) : ∀ s ∈ layer, s ∈ found.map (·.1) ∧ (pathOf found s).length = d := by
  obtain ⟨old, now, e1, e2, e3, _⟩ := t.olds
  intro s hs
  have hm : s ∈ found.map (·.1) := by rw [e1, List.map_append, e2]; exact List.mem_append_right _ hs
  refine ⟨hm, ?_⟩
  have h1 := pathOf_mem hm
  have nd := t.good.nd
  rw [← e2] at hs
  obtain ⟨e, he, e4⟩ := List.mem_map.mp hs
  have h2 : e ∈ found := by rw [e1]; exact List.mem_append_right _ he
  have : e = (s, pathOf found s) := by
    have key : ∀ (l : List (S × List L)), (l.map (·.1)).Nodup → ∀ a ∈ l, ∀ b ∈ l, a.1 = b.1 → a = b := by
      intro l
      induction l with
      | nil => intro _ a ha; cases ha
      | cons x r ih =>
        intro hn a ha b hb hab
        rw [List.map_cons, List.nodup_cons] at hn
        rcases List.mem_cons.mp ha with ea | ha' <;> rcases List.mem_cons.mp hb with eb | hb'
        · rw [ea, eb]
        · exact absurd (List.mem_map.mpr ⟨b, hb', by rw [← hab, ea]⟩) hn.1
        · exact absurd (List.mem_map.mpr ⟨a, ha', by rw [hab, eb]⟩) hn.1
        · exact ih hn.2 a ha' b hb' hab
    exact key found nd e h2 _ h1 e4
  rw [this] at he
  exact e3 _ he
theorem Turn.succ {d : Nat} {found : List (S × List L)} {layer : List S} (t : Turn next lines goal s0 d found layer) (hg : layer.find? goal = none) (hne : layer ≠ []) :
    Turn next lines goal s0 (d + 1) (layerOf next lines found layer).1 (layerOf next lines found layer).2 := by
  obtain ⟨m1, m2, m3⟩ := mid_layer (next := next) (lines := lines) (s0 := s0) (d := d) (found := found) layer (found, []) t.lens ⟨t.good, [], by simp, rfl, fun e he => by cases he⟩
  obtain ⟨g, e1, e2, e3⟩ := m1.app
  obtain ⟨old, now, f1, f2, f3, f4, f5, f6, f7⟩ := t.olds
  show Turn next lines goal s0 (d + 1) (layer.foldl (addAll next lines) (found, [])).1 (layer.foldl (addAll next lines) (found, [])).2
  refine ⟨m1.good, ⟨found, g, e1, e2, e3, fun e he => ?_, fun e he l hl a ha => ?_, fun p s hp hlt => ?_, ?_⟩, m2 _ t.start⟩
  · rw [f1] at he
    rcases List.mem_append.mp he with he | he
    · exact f4 e he
    · have : e.1 ∈ layer := by rw [← f2]; exact List.mem_map.mpr ⟨e, he, rfl⟩
      simpa using List.find?_eq_none.mp hg _ this
  · rw [f1] at he
    rcases List.mem_append.mp he with he | he
    · exact m2 a (f5 e he l hl a ha)
    · have : e.1 ∈ layer := by rw [← f2]; exact List.mem_map.mpr ⟨e, he, rfl⟩
      exact m3 _ this l hl a ha
  · rcases path_last hp with ⟨_, rfl⟩ | ⟨q, u, l, rfl, hq, hl, hn⟩
    · exact t.start
    · have hq' : q.length < d := by simp at hlt; omega
      obtain ⟨e, he, rfl⟩ := List.mem_map.mp (f6 q u hq hq')
      exact f5 e he l hl s hn
  · rw [f1, List.length_append]
    have : 0 < now.length := by
      cases now with
      | nil => exact absurd f2.symm hne
      | cons _ _ => simp
    omega

theorem nodup_le {α : Type} [DecidableEq α] : ∀ {l U : List α}, l.Nodup → (∀ x ∈ l, x ∈ U) → l.length ≤ U.length
  | [], _, _, _ => Nat.zero_le _
  | a :: r, U, hn, hs => by
    rw [List.nodup_cons] at hn
    have h1 : a ∈ U := hs a List.mem_cons_self
    have h2 := nodup_le (l := r) (U := U.erase a) hn.2 fun x hx => (List.mem_erase_of_ne (fun e => hn.1 (by rw [← e]; exact hx))).mpr (hs x (List.mem_cons_of_mem _ hx))
    rw [List.length_erase_of_mem h1] at h2
    have : 0 < U.length := List.length_pos_of_mem h1
    simp only [List.length_cons]
    omega

/-- what is asked: a path of the fewest lines, or none at all -/
def Least (next : S → L → Option S) (lines : List L) (goal : S → Bool) (s0 : S) : Option (List L) → Prop
  | some p => ∃ s, Path next lines s0 p s ∧ goal s = true ∧ ∀ q t, Path next lines s0 q t → goal t = true → p.length ≤ q.length
  | none => ∀ q t, Path next lines s0 q t → goal t = false
theorem path_in {U : List S} (h0 : s0 ∈ U) (hc : ∀ s ∈ U, ∀ l ∈ lines, ∀ a, next s l = some a → a ∈ U) {p : List L} {s : S} (h : Path next lines s0 p s) : s ∈ U := by
  induction h with
  | nil => exact h0
  | snoc _ hl hn ih => exact hc _ ih _ hl _ hn
theorem Turn.stop {d : Nat} {found : List (S × List L)} (t : Turn next lines goal s0 d found []) : Least next lines goal s0 none := by
  obtain ⟨old, now, f1, f2, f3, f4, f5, f6, f7⟩ := t.olds
  have hn : now = [] := by
    cases now with
    | nil => rfl
    | cons _ _ => simp at f2
  subst hn
  rw [List.append_nil] at f1
  subst f1
  intro q s hq
  have : s ∈ found.map (·.1) := by
    induction hq with
    | nil => exact t.start
    | snoc _ hl hn ih =>
      obtain ⟨e, he, rfl⟩ := List.mem_map.mp ih
      exact f5 e he _ hl _ hn
  obtain ⟨e, he, rfl⟩ := List.mem_map.mp this
  exact f4 e he
theorem Turn.hit {d : Nat} {found : List (S × List L)} {layer : List S} {h : S} (t : Turn next lines goal s0 d found layer) (hg : layer.find? goal = some h) : Least next lines goal s0 (some (pathOf found h)) ∧ (pathOf found h).length = d := by
  have hm := List.mem_of_find?_eq_some hg
  have hgo := List.find?_some hg
  obtain ⟨h1, h2⟩ := t.lens h hm
  obtain ⟨old, now, f1, f2, f3, f4, f5, f6, f7⟩ := t.olds
  refine ⟨⟨h, t.good.path _ (pathOf_mem h1), hgo, fun q u hq hu => ?_⟩, h2⟩
  rw [h2]
  refine Nat.le_of_not_lt fun hlt => ?_
  obtain ⟨e, he, rfl⟩ := List.mem_map.mp (f6 q u hq hlt)
  rw [f4 e he] at hu
  cases hu
/-- the turns' number is bounded -/
theorem Turn.bound {U : List S} (h0 : s0 ∈ U) (hc : ∀ s ∈ U, ∀ l ∈ lines, ∀ a, next s l = some a → a ∈ U) {d : Nat} {found : List (S × List L)} {layer : List S} (t : Turn next lines goal s0 d found layer) : d + layer.length ≤ U.length := by
  obtain ⟨old, now, f1, f2, f3, f4, f5, f6, f7⟩ := t.olds
  have h1 : (found.map (·.1)).length ≤ U.length := nodup_le t.good.nd fun x hx => by
    obtain ⟨e, he, rfl⟩ := List.mem_map.mp hx
    exact path_in h0 hc (t.good.path e he)
  rw [List.length_map, f1, List.length_append] at h1
  have : layer.length = now.length := by rw [← f2, List.length_map]
  omega
theorem bfs_ok {U : List S} (h0 : s0 ∈ U) (hc : ∀ s ∈ U, ∀ l ∈ lines, ∀ a, next s l = some a → a ∈ U) : ∀ (k d : Nat) (found : List (S × List L)) (layer : List S), Turn next lines goal s0 d found layer → U.length < d + k →
    Least next lines goal s0 (bfs next lines goal k found layer) ∧ ∀ p, bfs next lines goal k found layer = some p → p.length ≤ U.length
  | 0, d, found, layer, t, hk => by
    have := t.bound h0 hc
    omega
  | k + 1, d, found, layer, t, hk => by
    unfold bfs
    by_cases he : layer = []
    · subst he
      simp only [if_true]
      exact ⟨t.stop, fun p hp => by cases hp⟩
    · rw [if_neg he]
      cases hg : layer.find? goal with
      | none => exact bfs_ok h0 hc k (d + 1) _ _ (t.succ hg he) (by omega)
      | some h =>
        obtain ⟨a, b⟩ := t.hit hg
        refine ⟨a, fun p hp => ?_⟩
        have hp' : pathOf found h = p := Option.some.inj hp
        rw [← hp', b]
        have := t.bound h0 hc
        omega
theorem least_unique {p q : Option (List L)} (hp : Least next lines goal s0 p) (hq : Least next lines goal s0 q) : p.map (·.length) = q.map (·.length) := by
  cases p with
  | none =>
    cases q with
    | none => rfl
    | some q =>
      obtain ⟨s, h1, h2, _⟩ := hq
      rw [hp _ _ h1] at h2; cases h2
  | some p =>
    obtain ⟨s, h1, h2, h3⟩ := hp
    cases q with
    | none => rw [hq _ _ h1] at h2; cases h2
    | some q =>
      obtain ⟨t, k1, k2, k3⟩ := hq
      have a := h3 _ _ k1 k2
      have b := k3 _ _ h1 h2
      simp only [Option.map_some]
      congr 1
      omega
end
end Lost

set_option maxRecDepth 100000
set_option maxHeartbeats 4000000
namespace GQ
open PySem PySem.Spec PyProof.Rows L2 GenW

/-- the consumer slept through nothing: the heap as it was -/
structure Slept0 (s s' : Shared) : Prop where
  heap : s'.heap = s.heap
  os : s'.os = s.os
  bare : AllBare s'.gens

section
variable {X : Cx} {pins : List (Addr × Obj)} {σ : L2.St} {H : Hp} {s s' : Shared}
theorem inv_slept (I : Inv X pins σ H s) (z : Slept0 s s') : Inv X pins σ H s' := by
  obtain ⟨h, g, d, t, o⟩ := s'
  obtain ⟨z1, z2, z3⟩ := z
  have e1 : h = s.heap := z1
  have e2 : o = s.os := z2
  subst e1
  subst e2
  exact ⟨I.ok, I.os, z3, I.base, I.loc, I.cell, I.free, I.freeC, I.pin, I.hok, I.len⟩
end

/-- the context in which a generator expression runs -/
abbrev gcx (X : Cx) (s : Shared) (H : Hp) (cenv : Env) (fp : List Addr) (pn : List (Addr × Obj)) : Cx :=
  { X with A := X.A.in1.in1.deeper cenv, s_0 := s, H_0 := H, env := cenv, outer := X.stack, stack := cenv :: X.stack, ex := fp, fn := fun _ => false, pn := pn, xe := fun _ _ => False }

theorem room_gen {k : Nat} {A : Around} (r : Room (k + 1) A) (env : Env) : Room k (A.in1.in1.deeper env) :=
  ⟨r.hd, by have := r.dp; show A.depth + 1 + 3 * k + 5 < _; omega, by have := r.un; show A.units + 1 + 1 + 3 + 16 * k + 200 < _; omega⟩

theorem over_gen {A : Around} {elt : Expr} {gens : List Comprehension} {sc : Scope} {pos : Pos} {it acc : Value} {env : Env} : A.over (.compLoop (.GeneratorExp elt gens sc pos) 0 it acc env) [] = A.deeper env := by
  first
    | rfl
    | (obtain ⟨hd, d, fr, gs, u⟩ := A; simp [Around.over, Around.deeper, marksOver, frameCount, unitsOf, envsOf, guardsOf, pushEnvs, pushGuards, Code.envs, Code.env?, Code.isFrame, Code.guards, Code.isGuard, Code.weight, Code.frames, Code.isCreation, Code.isCaller, Code.cUnits])
theorem over_gen0 {A : Around} {elt : Expr} {gens : List Comprehension} {sc : Scope} {pos : Pos} {it acc : Value} {env : Env} : A.over (.compStart (.GeneratorExp elt gens sc pos) 0 it acc env) [] = A.deeper env := by
  first
    | rfl
    | (obtain ⟨hd, d, fr, gs, u⟩ := A; simp [Around.over, Around.deeper, marksOver, frameCount, unitsOf, envsOf, guardsOf, pushEnvs, pushGuards, Code.envs, Code.env?, Code.isFrame, Code.guards, Code.isGuard, Code.weight, Code.frames, Code.isCreation, Code.isCaller, Code.cUnits])

/-- what a generator expression's scope must be -/
structure GScope (N : List Str) (sc scope : Scope) (own : List (Str × Nat)) : Prop where
  blk : BlkOk N sc scope own
  co : scope.isCoroutine = false
  cell : ∀ y ∈ scope.names, y.2 ≠ .cell
  dot : scope.names.lookup (".0" : Str) = some NameKind.local
def gscB (N : List Str) (sc scope : Scope) (own : List (Str × Nat)) : Bool :=
  blkC N sc scope own && !scope.isCoroutine && scope.names.all (fun y => decide (y.2 ≠ .cell)) && decide (scope.names.lookup (".0" : Str) = some NameKind.local)
theorem gscope_by {N : List Str} {sc scope : Scope} {own : List (Str × Nat)} (h : gscB N sc scope own = true) : GScope N sc scope own := by
  unfold gscB at h
  simp only [Bool.and_eq_true, Bool.not_eq_true', List.all_eq_true, decide_eq_true_eq] at h
  obtain ⟨⟨⟨h1, h2⟩, h3⟩, h4⟩ := h
  exact ⟨blkOk_by h1, h2, h3, h4⟩

section
variable {X : Cx} {pins : List (Addr × Obj)} {σ : L2.St} {H : Hp} {s : Shared}

theorem gen_start {scope : Scope} {own : List (Str × Nat)} {fp : List Addr} {it : Value} {h' : Heap} {code : Value} {o : Obj} {gs : GenState} {tk : Nat} (I : Inv X pins σ H s) (ok : GScope X.N X.env.scope scope own) (hN : X.N.Nodup)
    (hfp : ∀ b ∈ fp, FpOk X pins H b ∧ b < s.heap.objs.size) (hn : h'.Ns s.heap.objs.size (fun y => if y = ".0" then some it else none))
    (hs : Heap.SameBut s.heap.objs.size (s.heap.push { cls := .type "frame", data := .dict #[] }) h') (hgs : gs.bare = true) (ho : ∀ v, o.data ≠ .cell v) (hof : o.isFreed = false) :
    Inv (gcx X s H (genEnv scope (cloFrom X.env.cells scope.names []) s.heap.objs.size code builtinsNs X.env) fp [(h'.objs.size, o)]) [] (wipe σ (own.map (·.2))) H { s with gens := s.gens.push gs, toks := tk, heap := h'.push o } := by
  have hfree : ∀ y ∈ scope.names, y.2 = .free → ∃ c, X.env.cells.lookup y.1 = some c := fun y hy e => by
    rcases ok.blk.free y hy e with k | k
    · exact I.ok.has _ (.inl k)
    · exact I.ok.has _ (.inr k)
  generalize hcenv : genEnv scope (cloFrom X.env.cells scope.names []) s.heap.objs.size code builtinsNs X.env = cenv
  have sz1 : h'.objs.size = s.heap.objs.size + 1 := by rw [hs.1, Heap.size_push]
  have kp1 : ∀ b u, s.heap.get? b = some u → h'.get? b = some u := fun b u e => hs.extBut b u (Nat.ne_of_lt (Heap.lt_size e)) (Heap.get?_push_of_some _ e)
  have kp : ∀ b u, s.heap.get? b = some u → (h'.push o).get? b = some u := fun b u e => Heap.get?_push_of_some _ (kp1 b u e)
  have hL : cenv.locals = s.heap.objs.size := by rw [← hcenv]; rfl
  have hcl : cenv.cells = cloFrom X.env.cells scope.names [] := by rw [← hcenv]; rfl
  have hsc : cenv.scope = scope := by rw [← hcenv]; rfl
  have cm : ∀ {y c}, (y, c) ∈ cloFrom X.env.cells scope.names [] → X.env.cells.lookup y = some c ∧ c < s.heap.objs.size := fun {y c} hm => by
    rcases cloFrom_mem hm with hm | ⟨h1, rfl⟩
    · cases hm
    · obtain ⟨c, hc⟩ := hfree _ h1 rfl
      rw [hc]
      obtain ⟨w, z⟩ := I.cell _ _ hc
      exact ⟨rfl, z.lt⟩
  have mem : ∀ {y c}, cenv.cells.lookup y = some c → X.env.cells.lookup y = some c ∧ c < s.heap.objs.size := fun {y c} e => by
    rw [hcl] at e
    exact cm (PySem.mem_of_lookup e)
  have look : ∀ {y}, scope.names.lookup y = some .free → ∃ c, cenv.cells.lookup y = some c ∧ X.env.cells.lookup y = some c := fun {y} hl => by
    have hy : (y, NameKind.free) ∈ scope.names := PySem.mem_of_lookup hl
    obtain ⟨c', e'⟩ := mem_lookup (cloFrom_has (cells := X.env.cells) (acc := []) hy)
    rw [← hcl] at e'
    exact ⟨c', e', (mem e').1⟩
  have okG : (gcx X s H cenv fp [(h'.objs.size, o)]).Ok := by
    refine ⟨I.ok.mod, by show cenv.scope.kind = _; rw [hsc]; exact ok.blk.kind, by show cenv.globals = _; rw [← hcenv]; exact I.ok.glob, by show cenv.builtins = _; rw [← hcenv]; rfl, by show s.heap.objs.size ≤ cenv.locals; rw [hL]; exact Nat.le_refl _,
      fun y z c e1 e2 => I.ok.inj y z c (mem (y := y) e1).1 (mem (y := z) e2).1, fun y hy => ?_, fun y c z e => (by cases z), fun z => I.ok.hd z, ?_, .inr ⟨rfl, ?_⟩, fun b hb => ⟨?_, fun y c e z => ?_⟩, I.bs, Nat.le_trans I.ok.bsz I.sz, fun b u e hb => ?_, fun b hb z => ?_, I.stack, I.stkFree⟩
    · have key : ∀ k, cenv.kindOf y = some k → (k = .cell ∨ k = .free) → ∃ c, cenv.cells.lookup y = some c := fun k hk hk' => by
        unfold Env.kindOf at hk
        rw [hsc] at hk
        rcases hk' with rfl | rfl
        · exact absurd rfl (ok.cell _ (PySem.mem_of_lookup hk))
        · obtain ⟨c, h1, _⟩ := look hk
          exact ⟨c, h1⟩
      rcases hy with hy | hy
      · exact key _ hy (.inl rfl)
      · exact key _ hy (.inr rfl)
    · show X.A.frames.map (cenv :: ·) = some (cenv :: X.stack)
      rw [I.ok.frames]
      rfl
    · show cenv.frame = some cenv.locals
      rw [← hcenv]; rfl
    · show b ≠ cenv.locals
      rw [hL]; exact Nat.ne_of_lt (hfp b hb).2
    · exact (hfp b hb).1.2.2.2.2.1 y c (mem e).1 z
    · rcases (hfp b hb).1.2.2.2.1 with z | z
      · exact I.ok.noex b u e z
      · exact absurd (Nat.lt_of_lt_of_le (Heap.lt_size e) (Nat.le_trans I.ok.bsz z)) (Nat.lt_irrefl _)
    · rcases List.mem_cons.mp (I.stkSub b z) with z | z
      · exact (hfp b hb).1.2.1 z
      · exact (hfp b hb).1.2.2.1 z
  refine ⟨okG, rfl, I.bare.push hgs, Un.kept kp, ⟨fun y => if y = ".0" then some it else none, ?_, fun i y av e1 e2 e3 => ?_⟩, fun y c e => ?_, ?_, fun y c e => ?_, fun p hp => ?_, I.hok.kept kp, by rw [wipe_length]; exact I.len⟩
  · show Heap.Ns _ cenv.locals _
    rw [hL]
    exact hn.push _
  · obtain ⟨e2, hne⟩ := wipe_some e2
    have hfr : scope.names.lookup y = some .free := by
      have key : ∀ k, cenv.scope.names.lookup y = some k → k = .local ∨ k = .cell ∨ k = .free → scope.names.lookup y = some .free := fun k hk hk' => by
        rw [hsc] at hk
        have no : ¬ (k = .local ∨ k = .cell) := fun hh => by
          rcases ok.blk.own _ (PySem.mem_of_lookup hk) hh with e' | e'
          · obtain ⟨p, hp, hpy⟩ := List.mem_map.mp e'
            have e3 := ok.blk.ix p hp
            have : p.1 = y := hpy
            rw [this] at e3
            exact hne (List.mem_map.mpr ⟨p, hp, nodup_ix hN e3 e1⟩)
          · exact e' (List.mem_of_getElem? e1)
        rcases hk' with rfl | rfl | rfl
        · exact absurd (.inl rfl) no
        · exact absurd (.inr rfl) no
        · exact hk
      have e3 : Vis cenv.scope y := e3
      rcases e3 with e3 | e3 | e3
      · exact key _ e3 (.inl rfl)
      · exact key _ e3 (.inr (.inl rfl))
      · exact key _ e3 (.inr (.inr rfl))
    obtain ⟨m, hn', hl⟩ := I.loc
    have hvis : Vis X.env.scope y := (ok.blk.free _ (PySem.mem_of_lookup hfr) rfl).elim (fun k => .inr (.inl k)) (fun k => .inr (.inr k))
    obtain ⟨w, r, q⟩ := hl i y av e1 e2 hvis
    have hk2 : cenv.kindOf y = some .free := by
      unfold Env.kindOf
      rw [hsc]; exact hfr
    refine ⟨w, r, .inr ⟨.inr hk2, ?_⟩⟩
    obtain ⟨c, h1, h2⟩ := look hfr
    rcases q with ⟨k, _⟩ | ⟨_, c', e', z⟩
    · have k : X.env.scope.names.lookup y = some .local := k
      rcases ok.blk.free _ (PySem.mem_of_lookup hfr) rfl with k' | k' <;> rw [show X.env.scope.names.lookup y = _ from k'] at k <;> cases k
    · rw [h2] at e'; cases e'
      exact ⟨c, h1, z.keeps kp⟩
  · obtain ⟨h1, _⟩ := mem (y := y) e
    obtain ⟨w, z⟩ := I.cell y c h1
    exact ⟨w, z.keeps kp⟩
  · show H cenv.locals = none
    rw [hL]; exact I.hok.fresh (Nat.le_refl _)
  · obtain ⟨h1, _⟩ := mem (y := y) e
    exact I.freeC y c h1
  · have ep : p = (h'.objs.size, o) := by
      have := show p ∈ [(h'.objs.size, o)] ++ [] from hp
      simpa using this
    subst ep
    refine ⟨Heap.get?_push_size _ hof, I.hok.fresh (by show s.heap.objs.size ≤ h'.objs.size; omega), ?_, ?_, ho⟩
    · show h'.objs.size ≠ cenv.locals
      rw [hL]
      intro z
      have z' : (h'.objs.size : Nat) = s.heap.objs.size := z
      omega
    · intro z
      have z : h'.objs.size ∈ frs X.stack := z
      rcases List.mem_cons.mp (I.stkSub _ z) with z | z
      · have l' := I.lt
        rw [← z] at l'
        have l2 : (h'.objs.size : Nat) < s.heap.objs.size := l'
        rw [sz1] at l2
        exact absurd l2 (Nat.not_lt_of_le (Nat.le_succ _))
      · exact I.nofs (by show s.heap.objs.size ≤ h'.objs.size; omega) z
end
end GQ

set_option maxRecDepth 100000
set_option maxHeartbeats 4000000
namespace GQ
open PySem PySem.Spec PyProof.Rows L2 GenW

theorem bare_set {gens : Array GenState} {g : Nat} {x : GenState} (h : AllBare gens) (hx : x.bare = true) : AllBare (gens.setIfInBounds g x) := fun y hy => by
  obtain ⟨i, hi, rfl⟩ := Array.mem_iff_getElem.mp hy
  have hi' : i < gens.size := by
    have := hi
    rw [Array.size_setIfInBounds] at this
    exact this
  rw [Array.getElem_setIfInBounds hi']
  split
  · exact hx
  · exact h _ (Array.getElem_mem hi')
theorem slept_set {s : Shared} {g : Nat} {x : GenState} (h : AllBare s.gens) (hx : x.bare = true) : Slept0 s (s.setGen g x) := ⟨rfl, rfl, bare_set h hx⟩
theorem Slept0.trans {a b c : Shared} (x : Slept0 a b) (y : Slept0 b c) : Slept0 a c := ⟨y.heap.trans x.heap, y.os.trans x.os, y.bare⟩

theorem wp_g {α : Type} {M : Model} {A : Around} {t : Sem α} {Q Q' : α → Shared → Prop} {E : Value → Shared → Prop} {s : Shared} {n : Nat} (hn : n ≤ s.gens.size) (h : wpAny M A t Q (fun _ _ => False) s) (k : ∀ a s', Q a s' → n ≤ s'.gens.size → Q' a s') : wpAny M A t Q' E s :=
  wpAny_gsz hn (wpAny_mono h (fun a s' q l => k a s' q l) fun _ _ z => False.elim z)

section
variable {X : Cx}
/-- handed out: whether; sleeping: the continuation -/
def YB (Xg : Cx) (σg : L2.St) (tn : Nat → Heap → Prop) (fp : List Addr) (N : Nat) (cont : Bool) (Pv : Nat → Hp → Prop) (Qf : Hp → Prop) (g : Nat) : Protocol := fun m s₀ v s kap =>
  ∃ (i : Nat) (b : Bool) (H : Hp), m + i = N ∧ i < N ∧ v = .bool b ∧ Inv Xg [] σg H s ∧ tn (i + 1) s.heap ∧ (∀ b ∈ fp, H b = none) ∧ g < s.gens.size ∧
    (b = cont → Pv (i + 1) H ∧ ∀ s', Slept0 s s' → g < s'.gens.size → kap (.send .none) s') ∧ (b ≠ cont → Qf H)
def RB (Xg : Cx) (σg : L2.St) (N : Nat) (Pv : Nat → Hp → Prop) (g : Nat) : Nat → Shared → Shared → Prop := fun n _ s₁ => n = 1 ∧ g < s₁.gens.size ∧ ∃ H, Inv Xg [] σg H s₁ ∧ Pv N H

/-- what a turn asks -/
structure GTurn (J : It) (gg : TG) (te : TE) (σg : L2.St) (vs : List Nat) (N : Nat) (cont : Bool) (Pv : Nat → Hp → Prop) (Qf : Hp → Prop) (Qe : Hp → Prop) : Prop where
  step : ∀ i H, i < N → Pv i H → J.go i H ∧ ∀ x H', J.yld i H x H' → gg x σg H' fun σ2 H2 => wipe σ2 vs = σg ∧ te σ2 H2 fun v H3 => ∃ b, v = .bl b ∧ (b = cont → Pv (i + 1) H3) ∧ (b ≠ cont → Qf H3)
  stop : ∀ H, Pv N H → J.stop N H ∧ Qe H

theorem seg_quLoop {elt iter tg : Expr} {scope : Scope} {pos : Pos} {it : Addr} {fp : List Addr} {tn : Nat → Heap → Prop} {J : It} {cenv : Env} {A2 : Around} {Xg : Cx} {σg : L2.St} {vs : List Nat} {gg : TG} {te : TE} {N g : Nat} {cont : Bool} {Pv : Nat → Hp → Prop} {Qf Qe : Hp → Prop}
    (hA : Xg.A = A2.deeper cenv) (hE : Xg.env = cenv) (hpn : Xg.xe = fun _ _ => False) (hco : cenv.scope.isCoroutine = false) (hc : Xg.calm = true) (T : L2.Turn Xg.prog Xg.w Xg.K tg J fp it tn)
    (hex : Xg.ex = fp) (hpins : ∀ p ∈ Xg.pn, p.1 ∉ fp) (pg : PG Xg tg gg) (pe : PE Xg elt te) (G : GTurn J gg te σg vs N cont Pv Qf Qe) :
    ∀ (j i : Nat) (s₀ s : Shared) (H : Hp), N - i = j → i ≤ N → Inv Xg [] σg H s → tn i s.heap → (∀ b ∈ fp, H b = none) → Pv i H → g < s.gens.size →
      Seg (model Xg.prog Xg.w) A2 (fun n s₀ r s₁ => r = .ok .next ∧ RB Xg σg N Pv g n s₀ s₁) (YB Xg σg tn fp N cont Pv Qf g) (j + 1) s₀
        (.compLoop (.GeneratorExp elt [⟨tg, iter, [], 0⟩] scope pos) 0 (.ref it) .none cenv)
        ((model Xg.prog Xg.w).den (.compLoop (.GeneratorExp elt [⟨tg, iter, [], 0⟩] scope pos) 0 (.ref it) .none cenv)) [] s := by
  have stat : ∀ {σ' : L2.St} {H' : Hp} {s' : Shared}, Inv Xg [] σ' H' s' → (∀ b ∈ fp, H' b = none) → ∀ b ∈ fp, FpOk Xg [] H' b := fun {σ' H' s'} I' hn b hb =>
    ⟨hn b hb, (I'.ok.exf b (by rw [hex]; exact hb)).1, I'.ok.exfs b (by rw [hex]; exact hb), .inl (by rw [hex]; exact hb), fun x c e => (I'.ok.exf b (by rw [hex]; exact hb)).2 x c e, fun p hp z => hpins p (by simpa using hp) (by rw [z]; exact hb)⟩
  intro j
  induction j with
  | zero =>
    intro i s₀ s H hj hi I st hn hP hg
    have hiN : i = N := by omega
    subst hiN
    show Seg _ A2 _ _ _ s₀ _ ((compTurn (.GeneratorExp elt [⟨tg, iter, [], 0⟩] scope pos) 0 (.ref it) .none cenv).onRaise (leaving cenv)) [] s
    rw [compTurn_gen, Sem.onRaise_eq_wrap]
    refine seg_bind_wrap (wpAny_standAt ?_)
    refine seg_bind_wrap ?_
    rw [over_gen, ← hA]
    have td := T.done Xg rfl rfl rfl hc i [] s _ H (fun _ _ => False) I (stat I hn) st (G.stop H hP).1
    refine wp_g (n := g + 1) hg td fun r s1 ⟨hr, I1⟩ hs1 => ?_
    subst hr
    exact seg_end (.ok .next) ⟨rfl, rfl, hs1, H, I1, hP⟩
  | succ j ih =>
    intro i s₀ s H hj hi I st hn hP hg
    have hlt : i < N := by omega
    obtain ⟨go, step⟩ := G.step i H hlt hP
    show Seg _ A2 _ _ _ s₀ _ ((compTurn (.GeneratorExp elt [⟨tg, iter, [], 0⟩] scope pos) 0 (.ref it) .none cenv).onRaise (leaving cenv)) [] s
    rw [compTurn_gen, Sem.onRaise_eq_wrap]
    refine seg_bind_wrap (wpAny_standAt ?_)
    refine seg_bind_wrap ?_
    rw [over_gen, ← hA]
    have ti := T.item Xg rfl rfl rfl hc i [] s _ H (fun _ _ => False) I (stat I hn) st go
    refine wp_g (n := g + 1) hg ti fun r s1 ⟨u, hr, h1⟩ hs1 => ?_
    subst hr
    refine seg_bind_wrap ?_
    rw [over_gen, ← hA]
    refine wp_g (n := g + 1) hs1 h1 fun _ s2 ⟨x, H2, I2, r2, y2, st2, n2⟩ hs2 => ?_
    have I2' := I2.pinned (stat I2 n2) (T.obj _ _ st2)
    refine seg_bind_wrap ?_
    rw [over_gen, ← hA]
    have tp := pg.run _ s2 σg H2 x u _ I2' r2 (step x H2 y2)
    rw [hpn, hE] at tp
    refine wp_g (n := g + 1) hs2 tp fun _ s3 ⟨σ3, H3, I3, hw3, q3⟩ hs3 => ?_
    refine seg_bind_wrap ?_
    simp only [List.forIn_nil]
    refine wpAny_pure ?_
    simp only [if_true]
    have hy : ∀ v, yieldOut cenv v = yieldValue v := fun v => by simp only [yieldOut, hco, Bool.false_eq_true, if_false]
    simp only [hy]
    rw [Sem.bind_eq_wrap', Sem.bind_eq_wrap', Sem.wrap_wrap, Sem.wrap_wrap]
    refine seg_wrap ?_
    rw [over_gen, ← hA]
    have te' := pe.run _ s3 σ3 H3 _ I3 q3
    rw [hpn, hE] at te'
    refine wp_g (n := g + 1) hs3 te' fun y s4 ⟨yv, H4, I4, r4, b, eb, c1, c2⟩ hs4 => ?_
    subst eb
    have hyb : y = Value.bool b := r4
    subst hyb
    have pin' : ∀ b ∈ fp, ∀ o, s2.heap.get? b = some o → s4.heap.get? b = some o ∧ H4 b = none := fun b hb o e =>
      let z := I4.pin (b, o) (List.mem_append_right _ (List.mem_append_right _ (mem_pinsAt hb e)))
      ⟨z.1, z.2.1⟩
    have st4 : tn (i + 1) s4.heap := T.keep _ _ _ st2 fun b hb o e => (pin' b hb o e).1
    have n4 : ∀ b ∈ fp, H4 b = none := fun b hb => by
      obtain ⟨o, e, _⟩ := T.obj _ _ st2 b hb
      exact (pin' b hb o e).2
    have I5 : Inv Xg [] σg H4 s4 := (I4.unpinned (pins := [])).weak (by rw [← hw3, wipe_length]) (fun k v e => by rw [← hw3] at e; exact (wipe_some e).1)
    refine seg_at (seg_yield rfl rfl rfl ⟨i, b, H4, by omega, hlt, rfl, I5, st4, n4, hs4, fun hb => ⟨c1 hb, fun s' hsl hg' => ?_⟩, c2⟩)
    exact seg_again rfl (ih (i + 1) s' s' H4 (by omega) hlt (inv_slept I5 hsl) (by rw [hsl.heap]; exact st4) n4 (c1 hb) hg')

/-- between two turns of the consumer -/
def JG (Xg : Cx) (A2 : Around) (σg : L2.St) (tn : Nat → Heap → Prop) (fp : List Addr) (N : Nat) (cont : Bool) (Pv : Nat → Hp → Prop) (Qf : Hp → Prop) (g : Nat) (i : Nat) (s : Shared) : Prop :=
  ∃ (H : Hp) (gs : GenState), Inv Xg [] σg H s ∧ s.gens[g]? = some gs ∧
    ∀ s', Slept0 s s' → g < s'.gens.size → gs.Goes (model Xg.prog Xg.w) A2 (fun n s₀ r s₁ => r = .ok .next ∧ RB Xg σg N Pv g n s₀ s₁) (YB Xg σg tn fp N cont Pv Qf g) (N - i + 1) (.send .none) s'

theorem setGen_at {s : Shared} {g : Nat} {x : GenState} (h : g < s.gens.size) : (s.setGen g x).gens[g]? = some x := by
  show (s.gens.setIfInBounds g x)[g]? = some x
  rw [Array.getElem?_setIfInBounds]
  simp [h]

theorem next_qu {A1 : Around} {Xg : Cx} {σg : L2.St} {tn : Nat → Heap → Prop} {fp : List Addr} {N : Nat} {cont : Bool} {Pv : Nat → Hp → Prop} {Qf : Hp → Prop} {g : Nat} {i : Nat} {s : Shared} {a : Addr} {Q : Option Value → Shared → Prop} {E : Value → Shared → Prop}
    (hi : i ≤ N) (hh : A1.handled = none) (hroom : A1.depth < recursionLimit) (hgen : ∀ (H : Hp) (s : Shared), Inv Xg [] σg H s → s.heap.IsGen a g) (J : JG Xg A1.in1 σg tn fp N cont Pv Qf g i s)
    (hY : ∀ b s1, i < N → (b = cont → ∃ H, Inv Xg [] σg H s1 ∧ JG Xg A1.in1 σg tn fp N cont Pv Qf g (i + 1) s1) → (b ≠ cont → ∃ H, Inv Xg [] σg H s1 ∧ Qf H) → Q (some (.bool b)) s1)
    (hD : ∀ s1 H, i = N → Inv Xg [] σg H s1 → Pv N H → Q none s1) : wpAny (model Xg.prog Xg.w) A1 (pyNext (.ref a)) Q E s := by
  obtain ⟨H, gs, I, hgs, hgo⟩ := J
  have hlt : g < s.gens.size := (Array.getElem?_eq_some_iff.mp hgs).1
  have hrun : g < (s.setGen g .running).gens.size := by rw [setGen_size]; exact hlt
  refine wpAny_pyNext_genexpQ (P := RB Xg σg N Pv g) (n := N - i + 1) hh I.nolimit hroom (hgen H s I) hgs (hgo _ (slept_set I.bare rfl) hrun) (fun v s1 gs' hb hv => ?_) (fun s1 hp h' hk => ?_)
  · obtain ⟨i', b, H1, e1, e2, ev, I1, st1, n1, hg1, c1, c2⟩ := hv
    subst ev
    have hii : i' = i := by omega
    subst hii
    have I2 : Inv Xg [] σg H1 (s1.setGen g gs') := inv_slept I1 (slept_set I1.bare hb)
    refine hY b _ e2 (fun hbc => ⟨H1, I2, H1, gs', I2, setGen_at hg1, fun s' hsl hg' => ?_⟩) fun hbc => ⟨H1, I2, c2 hbc⟩
    obtain ⟨_, k⟩ := c1 hbc
    have e3 : N - i' = N - (i' + 1) + 1 := by omega
    have k2 := k s' ((slept_set I1.bare hb).trans hsl) hg'
    rw [e3] at k2
    exact k2
  · obtain ⟨h0, hg1, H1, I1, hP⟩ := hp
    have hiN : i = N := by omega
    have I2 : Inv Xg [] σg H1 (s1.setGen g .finished) := inv_slept I1 (slept_set I1.bare rfl)
    have I3 := I2.kept (h' := h') (t' := (s1.setGen g .finished).toks) hk
    exact hD _ H1 hiN I3 hP
end
end GQ

set_option maxRecDepth 100000
set_option maxHeartbeats 4000000
namespace GQ
open PySem PySem.Spec PyProof.Rows L2 GenW

section
variable {A : Around} {Xg : Cx} {σg : L2.St} {tn : Nat → Heap → Prop} {fp : List Addr} {N : Nat} {Pv : Nat → Hp → Prop} {Qf : Hp → Prop} {g : Nat} {a : Addr} {R : Result → Shared → Prop}
theorem loop_all (hh : A.handled = none) (hroom : A.depth < recursionLimit) (hgen : ∀ (H : Hp) (s : Shared), Inv Xg [] σg H s → s.heap.IsGen a g)
    (hD : ∀ s1 H, Inv Xg [] σg H s1 → Pv N H → R (.ok (.ret (.bool true))) s1) (hF : ∀ s1 H, Inv Xg [] σg H s1 → Qf H → R (.ok (.ret (.bool false))) s1) : ∀ (k i : Nat) (s : Shared), N - i = k → i ≤ N →
    JG Xg A.in1.in1 σg tn fp N true Pv Qf g i s → codeAny (model Xg.prog Xg.w) A (.builtin "all.loop" ⟨[.ref a], []⟩) R s := by
  intro k
  induction k with
  | zero =>
    intro i s hk hi J
    refine codeAny_builtin F.entry_all_loop ?_
    rw [Around.under_plainId F.plain_all_loop _]
    show wpAny _ A.in1 (pyNext (.ref a) >>= _) _ _ s
    refine wpAny_bind (next_qu hi hh hroom hgen J (fun b s1 hlt _ _ => ?_) fun s1 H e I hP => ?_)
    · omega
    · exact wpAny_bind (wpAny_rule (wpAny_pure (hD s1 H I hP)))
  | succ k ih =>
    intro i s hk hi J
    refine codeAny_builtin F.entry_all_loop ?_
    rw [Around.under_plainId F.plain_all_loop _]
    show wpAny _ A.in1 (pyNext (.ref a) >>= _) _ _ s
    refine wpAny_bind (next_qu hi hh hroom hgen J (fun b s1 hlt c1 c2 => ?_) fun s1 H e I hP => ?_)
    · refine wpAny_bind (wpAny_holding (wpAny_truthy_bool ?_))
      refine wpAny_bind (wpAny_letGo ?_)
      cases b with
      | true =>
        obtain ⟨H, I, J1⟩ := c1 rfl
        simp only [if_true]
        exact wpAny_pure ⟨plainId_quiet F.plain_all_loop _, ih (i + 1) s1 (by omega) hlt J1⟩
      | false =>
        obtain ⟨H, I, q⟩ := c2 (by decide)
        simp only [Bool.false_eq_true, if_false]
        exact wpAny_bind (wpAny_rule (wpAny_pure (hF s1 H I q)))
    · omega
theorem loop_any (hh : A.handled = none) (hroom : A.depth < recursionLimit) (hgen : ∀ (H : Hp) (s : Shared), Inv Xg [] σg H s → s.heap.IsGen a g)
    (hD : ∀ s1 H, Inv Xg [] σg H s1 → Pv N H → R (.ok (.ret (.bool false))) s1) (hF : ∀ s1 H, Inv Xg [] σg H s1 → Qf H → R (.ok (.ret (.bool true))) s1) : ∀ (k i : Nat) (s : Shared), N - i = k → i ≤ N →
    JG Xg A.in1.in1 σg tn fp N false Pv Qf g i s → codeAny (model Xg.prog Xg.w) A (.builtin "any.loop" ⟨[.ref a], []⟩) R s := by
  intro k
  induction k with
  | zero =>
    intro i s hk hi J
    refine codeAny_builtin F.entry_any_loop ?_
    rw [Around.under_plainId F.plain_any_loop _]
    show wpAny _ A.in1 (pyNext (.ref a) >>= _) _ _ s
    refine wpAny_bind (next_qu hi hh hroom hgen J (fun b s1 hlt _ _ => ?_) fun s1 H e I hP => ?_)
    · omega
    · exact wpAny_bind (wpAny_rule (wpAny_pure (hD s1 H I hP)))
  | succ k ih =>
    intro i s hk hi J
    refine codeAny_builtin F.entry_any_loop ?_
    rw [Around.under_plainId F.plain_any_loop _]
    show wpAny _ A.in1 (pyNext (.ref a) >>= _) _ _ s
    refine wpAny_bind (next_qu hi hh hroom hgen J (fun b s1 hlt c1 c2 => ?_) fun s1 H e I hP => ?_)
    · refine wpAny_bind (wpAny_holding (wpAny_truthy_bool ?_))
      refine wpAny_bind (wpAny_letGo ?_)
      cases b with
      | false =>
        obtain ⟨H, I, J1⟩ := c1 rfl
        simp only [Bool.false_eq_true, if_false]
        exact wpAny_pure ⟨plainId_quiet F.plain_any_loop _, ih (i + 1) s1 (by omega) hlt J1⟩
      | true =>
        obtain ⟨H, I, q⟩ := c2 (by decide)
        simp only [if_true]
        exact wpAny_bind (wpAny_rule (wpAny_pure (hF s1 H I q)))
    · omega
end

theorem seg_quStart {elt iter tg : Expr} {scope : Scope} {pos : Pos} {it : Addr} {fp : List Addr} {tn : Nat → Heap → Prop} {J : It} {cenv : Env} {A2 : Around} {Xg : Cx} {σg : L2.St} {vs : List Nat} {gg : TG} {te : TE} {N g : Nat} {cont : Bool} {Pv : Nat → Hp → Prop} {Qf Qe : Hp → Prop}
    (hA : Xg.A = A2.deeper cenv) (hE : Xg.env = cenv) (hpn : Xg.xe = fun _ _ => False) (hco : cenv.scope.isCoroutine = false) (hc : Xg.calm = true) (T : L2.Turn Xg.prog Xg.w Xg.K tg J fp it tn)
    (hex : Xg.ex = fp) (hpins : ∀ p ∈ Xg.pn, p.1 ∉ fp) (pg : PG Xg tg gg) (pe : PE Xg elt te) (G : GTurn J gg te σg vs N cont Pv Qf Qe)
    (s₀ s : Shared) (H : Hp) (I : Inv Xg [] σg H s) (st : tn 0 s.heap) (hn : ∀ b ∈ fp, H b = none) (hP : Pv 0 H) (hg : g < s.gens.size) :
    Seg (model Xg.prog Xg.w) A2 (fun n s₀ r s₁ => r = .ok .next ∧ RB Xg σg N Pv g n s₀ s₁) (YB Xg σg tn fp N cont Pv Qf g) (N - 0 + 1) s₀
        (.compStart (.GeneratorExp elt [⟨tg, iter, [], 0⟩] scope pos) 0 (.ref it) .none cenv)
        ((model Xg.prog Xg.w).den (.compStart (.GeneratorExp elt [⟨tg, iter, [], 0⟩] scope pos) 0 (.ref it) .none cenv)) [] s := by
  have loop := seg_quLoop (iter := iter) (scope := scope) (pos := pos) hA hE hpn hco hc T hex hpins pg pe G N 0 s₀ s H (Nat.sub_zero _) (Nat.zero_le _) I st hn hP hg
  show Seg _ A2 _ _ _ s₀ _ ((compStart (.GeneratorExp elt [⟨tg, iter, [], 0⟩] scope pos) 0 (.ref it) .none cenv).onRaise (leaving cenv)) [] s
  unfold compStart
  rw [Sem.onRaise_eq_wrap]
  show Seg _ A2 _ _ _ s₀ _ ((ask >>= _).wrap _ _ _ _) [] s
  refine seg_bind_wrap (wpAny_askSetting ?_)
  split
  · exact seg_again rfl loop
  · first
      | exact seg_bind_wrap (wpAny_rule (seg_bind_wrap (wpAny_standAt (seg_bind_wrap (T.self _ 0 s _ _ st (seg_again rfl loop))))))
      | (refine seg_bind_wrap (wpAny_rule ?_); show Seg _ A2 _ _ _ s₀ _ ((standAt iter.pos >>= _).wrap _ _ _ _) [] s; exact seg_bind_wrap (wpAny_standAt (seg_bind_wrap (T.self _ 0 s _ _ st (seg_again rfl loop)))))

section
variable {X : Cx} {pins : List (Addr × Obj)} {σ : L2.St} {H : Hp} {s : Shared}
theorem gen_make {c P : Addr} {elt iter tg : Expr} {gpos : Pos} {scope : Scope} {own : List (Str × Nat)} {wi : TI} {gg : TG} {te : TE} {k : Nat} {cont : Bool} {Q' : Value → Shared → Prop} {R : (Hp → Prop) → (Hp → Prop) → Prop}
    (hr : Room (k + 1) X.A) (hc : X.calm = true) (hN : X.N.Nodup) (TB : GxR.TabB X.base X.mg c P) (hcode : X.env.code = .ref c) (S : GScope X.N X.env.scope scope own) (hi : PI X tg iter wi)
    (hg : ∀ (s : Shared) (H : Hp) (C : Addr) (cl : List (Str × Addr)) (code : Value) (fp : List Addr) (pn : List (Addr × Obj)), PG (gcx X s H (genEnv scope cl C code builtinsNs X.env) fp pn) tg gg)
    (he : ∀ (s : Shared) (H : Hp) (C : Addr) (cl : List (Str × Addr)) (code : Value) (fp : List Addr) (pn : List (Addr × Obj)), PE (gcx X s H (genEnv scope cl C code builtinsNs X.env) fp pn) elt te)
    (hs : ∀ v, genFold iter X.env v = pure v) (I : Inv X pins σ H s)
    {W : It → Hp → Prop} (h : wi σ H W) (hW : ∀ J H1, W J H1 → GxR.TabG H1 P ∧ ∃ N Pv Qf Qe, (∀ H2, GxR.Tabbed P H1 H2 → Pv 0 H2) ∧ GTurn J gg te (wipe σ (own.map (·.2))) (own.map (·.2)) N cont Pv Qf Qe ∧ R Qf Qe)
    (hQ : ∀ (a : Addr) (s5 : Shared) (Xg : Cx) (tn : Nat → Heap → Prop) (fp : List Addr) (N g : Nat) (Pv : Nat → Hp → Prop) (Qf Qe : Hp → Prop), Xg.prog = X.prog → Xg.w = X.w → R Qf Qe → (∀ H, Pv N H → Qe H) →
      (∀ (H' : Hp) (s' : Shared), Inv Xg [] (wipe σ (own.map (·.2))) H' s' → Inv X pins σ H' s') → (∀ (H' : Hp) (s' : Shared), Inv Xg [] (wipe σ (own.map (·.2))) H' s' → s'.heap.IsGen a g) → s5.heap.IsGen a g →
      JG Xg X.A.in1.in1 (wipe σ (own.map (·.2))) tn fp N cont Pv Qf g 0 s5 → Q' (.ref a) s5) :
    wpAny (model X.prog X.w) X.A (eval (.GeneratorExp elt [⟨tg, iter, [], 0⟩] scope gpos) X.env) Q' X.xe s := by
  have hfree : ∀ y ∈ scope.names, y.2 = .free → ∃ c, X.env.cells.lookup y.1 = some c := fun y hy e => by
    rcases S.blk.free y hy e with k | k
    · exact I.ok.has _ (.inl k)
    · exact I.ok.has _ (.inr k)
  refine wpAny_GeneratorExp_make S.co (closure_ok hfree) S.cell S.dot S.blk.kind hr.depth ?_ hs
  refine thn (hi.run pins s σ H _ I h) fun xv s0 hx => thn hx fun itv s1 h1 => ?_
  obtain ⟨it, fp, tn, J, H1, e, I1, T, st1, f1, hw⟩ := h1
  obtain ⟨⟨ps, hP, ht⟩, N, Pv, Qf, Qe, hP0, G, hR⟩ := hW J H1 hw
  subst e
  have hPs : s1.heap.get? P = some { cls := .none, data := .fields ps } := I1.hok P _ hP
  have cd : PySem.W.CodeHd s1.heap c P := TB.code.keeps fun b u e => I1.bk b u e
  have nfP : ∀ b ∈ fp, b ≠ P := fun b hb z => by
    have := (f1 b hb).1
    rw [z, hP] at this
    cases this
  have cont' : ∀ (code : Value) (h3 : Heap) (tk : Nat) (more : Array Value), (∀ b u, b ≠ P → s1.heap.get? b = some u → h3.get? b = some u) → h3.get? P = some { cls := .none, data := .fields (ps ++ more) } → TriplesOk (ps ++ more).toList →
      wpAny (model X.prog X.w) X.A (builtinsFor X.env.globals X.env.builtins) (fun bi s₄ =>
        ∀ h', h'.Ns s₄.heap.objs.size (fun y => if y = ".0" then some (.ref it) else none) → Heap.SameBut s₄.heap.objs.size (s₄.heap.push { cls := .type "frame", data := .dict #[] }) h' →
          Q' (.ref h'.objs.size) { s₄ with
            gens := s₄.gens.push (.fresh (.compStart (.GeneratorExp elt [⟨tg, iter, [], 0⟩] scope gpos) 0 (.ref it) .none (genEnv scope (cloFrom X.env.cells scope.names []) s₄.heap.objs.size code bi X.env))),
            toks := s₄.toks + 1 + 1 + 1,
            heap := h'.push { cls := .type "generator", data := .fields #[.int s₄.gens.size 0, .str "<genexpr>" (s₄.toks + 1), .str (X.env.qual ++ "<genexpr>") (s₄.toks + 1 + 1)] } }) X.xe { s1 with heap := h3, toks := tk } := by
    intro code h3 tk more kp3 hP3 ht3
    have I3 : Inv X pins σ (upd H1 P (.tbl (ps ++ more))) { s1 with heap := h3, toks := tk } :=
      GxR.inv_tab (more := more) (h' := h3) (g' := s1.gens) (d' := s1.drawn) (t' := tk) I1 hP kp3 hP3 I1.bare
    obtain ⟨bm, ob, e1, e2, e3, e4, e5, e6, e7, e8⟩ := TB.bm
    refine wpAny_builtinsFor (m := X.mg) (by rw [I3.ok.glob]; exact I3.mod.glob.keeps I3.bk) e1 e2 (I3.bk _ _ e5) e6 e7 e8 ?_
    intro h' hn' hs'
    have n3 : ∀ b ∈ fp, (upd H1 P (.tbl (ps ++ more))) b = none := fun b hb => by
      rw [upd_ne (nfP b hb)]; exact (f1 b hb).1
    have f3 : ∀ b ∈ fp, FpOk X pins (upd H1 P (.tbl (ps ++ more))) b ∧ b < h3.objs.size := fun b hb => by
      obtain ⟨o, eo, _⟩ := T.obj _ _ st1 b hb
      exact ⟨⟨n3 b hb, (f1 b hb).2⟩, Heap.lt_size (kp3 b o (nfP b hb) eo)⟩
    have st3 : tn 0 h3 := T.keep _ _ _ st1 fun b hb o eo => kp3 b o (nfP b hb) eo
    generalize hs3 : ({ s1 with heap := h3, toks := tk } : Shared) = s3 at I3 hs' hn' ⊢
    have hh3 : s3.heap = h3 := by rw [← hs3]
    have hg3 : s3.gens = s1.gens := by rw [← hs3]
    generalize hob : ({ cls := .type "generator", data := .fields #[.int s3.gens.size 0, .str "<genexpr>" (s3.toks + 1), .str (X.env.qual ++ "<genexpr>") (s3.toks + 1 + 1)] } : Obj) = og
    generalize hgst : GenState.fresh (.compStart (.GeneratorExp elt [⟨tg, iter, [], 0⟩] scope gpos) 0 (.ref it) .none (genEnv scope (cloFrom X.env.cells scope.names []) s3.heap.objs.size code builtinsNs X.env)) = gst
    have I5 := gen_start (code := code) (o := og) (gs := gst) (tk := s3.toks + 1 + 1 + 1) I3 S hN (fun b hb => ⟨(f3 b hb).1, by rw [hh3]; exact (f3 b hb).2⟩) hn' hs' (by rw [← hgst]; rfl) (fun v q => by rw [← hob] at q; cases q) (by rw [← hob]; rfl)
    have pg := hg s3 (upd H1 P (.tbl (ps ++ more))) s3.heap.objs.size (cloFrom X.env.cells scope.names []) code fp [(h'.objs.size, og)]
    have pe := he s3 (upd H1 P (.tbl (ps ++ more))) s3.heap.objs.size (cloFrom X.env.cells scope.names []) code fp [(h'.objs.size, og)]
    have sz1 : h'.objs.size = s3.heap.objs.size + 1 := by rw [hs'.1, Heap.size_push]
    have isgen : ∀ (H' : Hp) (s' : Shared), Inv (gcx X s3 (upd H1 P (.tbl (ps ++ more))) (genEnv scope (cloFrom X.env.cells scope.names []) s3.heap.objs.size code builtinsNs X.env) fp [(h'.objs.size, og)]) [] (wipe σ (own.map (·.2))) H' s' → s'.heap.IsGen h'.objs.size s3.gens.size := fun H' s' I' => by
      have e := (I'.pin (h'.objs.size, og) (List.mem_append_left _ List.mem_cons_self)).1
      exact ⟨og, _, _, e, by rw [← hob], by rw [← hob], by rw [← hob]⟩
    refine hQ _ _ (gcx X s3 (upd H1 P (.tbl (ps ++ more))) (genEnv scope (cloFrom X.env.cells scope.names []) s3.heap.objs.size code builtinsNs X.env) fp [(h'.objs.size, og)]) tn fp N s3.gens.size Pv Qf Qe rfl rfl hR (fun H hp => (G.stop H hp).2)
      (fun H' s' I' => I3.call' (ch := fp) I'.os I'.base I'.hok I'.bare fun b hb => ⟨(f3 b hb).1.2.2.2.1, (f3 b hb).1.2.1, (f3 b hb).1.2.2.2.2.1, (f3 b hb).1.2.2.2.2.2⟩) isgen (isgen _ _ I5) ?_
    have hpP : Pv 0 (upd H1 P (.tbl (ps ++ more))) := hP0 _ ⟨⟨_, upd_same, ht3⟩, fun b hb => upd_ne hb⟩
    have st5 : tn 0 (h'.push og) := T.keep _ _ _ st3 fun b hb o eo => by
      have lt : b < s3.heap.objs.size := by rw [hh3]; exact (f3 b hb).2
      refine Heap.get?_push_of_some _ ((hs'.2 b (Nat.ne_of_lt lt)).trans ?_)
      rw [hh3]
      exact Heap.get?_push_of_some _ eo
    refine ⟨_, gst, I5, Array.getElem?_push_size .., fun s' hsl hgl => ?_⟩
    rw [← hgst]
    refine ⟨rfl, ?_⟩
    refine seg_quStart (Xg := gcx X s3 (upd H1 P (.tbl (ps ++ more))) (genEnv scope (cloFrom X.env.cells scope.names []) s3.heap.objs.size code builtinsNs X.env) fp [(h'.objs.size, og)]) (cenv := genEnv scope (cloFrom X.env.cells scope.names []) s3.heap.objs.size code builtinsNs X.env) rfl rfl rfl S.co hc T rfl (fun p hp z => ?_) pg pe G _ s' _ (inv_slept I5 hsl) (by rw [hsl.heap]; exact st5) n3 hpP hgl
    have ep : p = (h'.objs.size, og) := by simpa using hp
    subst ep
    have lt : h'.objs.size < h3.objs.size := (f3 _ z).2
    rw [sz1, hh3] at lt
    exact absurd lt (Nat.not_lt_of_le (Nat.le_succ _))
  refine ⟨I1.nolimit, ?_⟩
  cases hf : codeAmong gpos ps.toList with
  | none =>
    refine wpAny_genexprCodeX hcode (cd.code hPs ht) (cd.tab hPs) hf fun c' h' tk hx hge hlt hco' _ htab' _ => ?_
    obtain ⟨o1, vs, f1, tf, fl, tg, inF, tx, tt, op, _, _, _, _, _, _, _, _, _, htr, _⟩ := hco'
    exact cont' _ h' tk _ (fun b u hb e => hx b u hb e) htab'.2 htr
  | some cv =>
    refine wpAny_genexprCode_hit hcode (cd.code hPs ht) hf ?_
    exact cont' cv s1.heap s1.toks #[] (fun b u _ e => e) (by rw [Array.append_empty]; exact hPs) (by rw [Array.append_empty]; exact ht)

/-- all(elt for tg in iter) | any(..) : N turns, Pv between them, cont: the answer that goes on -/
def tQu (P : Addr) (cont : Bool) (wi : TI) (gg : TG) (te : TE) (vs : List Nat) : TE := fun σ H Q => wi σ H fun J H1 => GxR.TabG H1 P ∧ ∃ (N : Nat) (Pv : Nat → Hp → Prop), (∀ H2, GxR.Tabbed P H1 H2 → Pv 0 H2) ∧
  (∀ i H, i < N → Pv i H → J.go i H ∧ ∀ x H', J.yld i H x H' → gg x (wipe σ vs) H' fun σ2 H2 => wipe σ2 vs = wipe σ vs ∧ te σ2 H2 fun v H3 => ∃ b, v = .bl b ∧ (b = cont → Pv (i + 1) H3) ∧ (b ≠ cont → Q (.bl (!cont)) H3)) ∧
  ∀ H, Pv N H → J.stop N H ∧ Q (.bl cont) H
theorem pe_all {c P : Addr} {elt iter tg : Expr} {p pos gpos : Pos} {scope : Scope} {own : List (Str × Nat)} {wi : TI} {gg : TG} {te : TE} {k : Nat}
    (hr : Room (k + 1) X.A) (hc : X.calm = true) (hN : X.N.Nodup) (hG : Gl X "all") (hm : X.mg "all" = none) (TB : GxR.TabB X.base X.mg c P) (hcode : X.env.code = .ref c) (S : GScope X.N X.env.scope scope own) (hi : PI X tg iter wi)
    (hg : ∀ (s : Shared) (H : Hp) (C : Addr) (cl : List (Str × Addr)) (code : Value) (fp : List Addr) (pn : List (Addr × Obj)), PG (gcx X s H (genEnv scope cl C code builtinsNs X.env) fp pn) tg gg)
    (he : ∀ (s : Shared) (H : Hp) (C : Addr) (cl : List (Str × Addr)) (code : Value) (fp : List Addr) (pn : List (Addr × Obj)), PE (gcx X s H (genEnv scope cl C code builtinsNs X.env) fp pn) elt te)
    (hb : bootBuiltins "all" = some (.builtin "all") := by decide +kernel) (hs : ∀ v, genFold iter X.env v = pure v := by intro _; rfl)
    (hst : starEach [.GeneratorExp elt [⟨tg, iter, [], 0⟩] scope gpos] X.env = (false, eval (.GeneratorExp elt [⟨tg, iter, [], 0⟩] scope gpos) X.env) :: starEach [] X.env := by rfl) :
    PE X (.Call (.Name "all" p) [.GeneratorExp elt [⟨tg, iter, [], 0⟩] scope gpos] [] pos) (tQu P true wi gg te (own.map (·.2))) := by
  refine ⟨fun pins s σ H Q I h => ?_⟩
  refine wpAny_Call_Name_kw (ld_blt I hG hm hb ?_)
  refine PyProof.Rows.callWith_builtin1 ?_ hst (by rfl)
  rw [hst]
  show wpAny _ _ (spliced ((false, eval (.GeneratorExp elt [⟨tg, iter, [], 0⟩] scope gpos) X.env) :: backTo pos (starEach [] X.env))) _ _ s
  refine Calls.spliced_cons (gen_make (R := fun Qf Qe => (∀ H, Qf H → Q (.bl false) H) ∧ ∀ H, Qe H → Q (.bl true) H) (cont := true) hr hc hN TB hcode S hi hg he hs I h (fun J H1 ⟨hT, N, Pv, p0, ps, pd⟩ => ⟨hT, N, Pv, fun H => Q (.bl false) H, fun H => Q (.bl true) H, p0, ⟨ps, pd⟩, fun _ q => q, fun _ q => q⟩) fun a s5 Xg tn fp N g Pv Qf Qe e1 e2 hR hE back isg isg5 J => ?_)
  refine Calls.spliced_nil ?_
  refine call_function_tree F.kind_all F.plain_all F.entry_all (F.args_all1 _) ?_
  unfold Builtin.«all»
  refine wpAny_bind (m := oneArg "all" _) (wpAny_pure ?_)
  refine wpAny_bind (wpAny_pyIter_gen isg5 ?_)
  rw [← e1, ← e2]
  exact wpAny_pure ⟨plainId_quiet F.plain_all_loop _, loop_all hr.hd hr.depth isg (fun s1 H1 I1 hp => ⟨.bl true, H1, back H1 s1 I1, rfl, hR.2 H1 (hE H1 hp)⟩) (fun s1 H1 I1 q => ⟨.bl false, H1, back H1 s1 I1, rfl, hR.1 H1 q⟩) N 0 s5 (Nat.sub_zero _) (Nat.zero_le _) J⟩
theorem pe_any {c P : Addr} {elt iter tg : Expr} {p pos gpos : Pos} {scope : Scope} {own : List (Str × Nat)} {wi : TI} {gg : TG} {te : TE} {k : Nat}
    (hr : Room (k + 1) X.A) (hc : X.calm = true) (hN : X.N.Nodup) (hG : Gl X "any") (hm : X.mg "any" = none) (TB : GxR.TabB X.base X.mg c P) (hcode : X.env.code = .ref c) (S : GScope X.N X.env.scope scope own) (hi : PI X tg iter wi)
    (hg : ∀ (s : Shared) (H : Hp) (C : Addr) (cl : List (Str × Addr)) (code : Value) (fp : List Addr) (pn : List (Addr × Obj)), PG (gcx X s H (genEnv scope cl C code builtinsNs X.env) fp pn) tg gg)
    (he : ∀ (s : Shared) (H : Hp) (C : Addr) (cl : List (Str × Addr)) (code : Value) (fp : List Addr) (pn : List (Addr × Obj)), PE (gcx X s H (genEnv scope cl C code builtinsNs X.env) fp pn) elt te)
    (hb : bootBuiltins "any" = some (.builtin "any") := by decide +kernel) (hs : ∀ v, genFold iter X.env v = pure v := by intro _; rfl)
    (hst : starEach [.GeneratorExp elt [⟨tg, iter, [], 0⟩] scope gpos] X.env = (false, eval (.GeneratorExp elt [⟨tg, iter, [], 0⟩] scope gpos) X.env) :: starEach [] X.env := by rfl) :
    PE X (.Call (.Name "any" p) [.GeneratorExp elt [⟨tg, iter, [], 0⟩] scope gpos] [] pos) (tQu P false wi gg te (own.map (·.2))) := by
  refine ⟨fun pins s σ H Q I h => ?_⟩
  refine wpAny_Call_Name_kw (ld_blt I hG hm hb ?_)
  refine PyProof.Rows.callWith_builtin1 ?_ hst (by rfl)
  rw [hst]
  show wpAny _ _ (spliced ((false, eval (.GeneratorExp elt [⟨tg, iter, [], 0⟩] scope gpos) X.env) :: backTo pos (starEach [] X.env))) _ _ s
  refine Calls.spliced_cons (gen_make (R := fun Qf Qe => (∀ H, Qf H → Q (.bl true) H) ∧ ∀ H, Qe H → Q (.bl false) H) (cont := false) hr hc hN TB hcode S hi hg he hs I h (fun J H1 ⟨hT, N, Pv, p0, ps, pd⟩ => ⟨hT, N, Pv, fun H => Q (.bl true) H, fun H => Q (.bl false) H, p0, ⟨ps, pd⟩, fun _ q => q, fun _ q => q⟩) fun a s5 Xg tn fp N g Pv Qf Qe e1 e2 hR hE back isg isg5 J => ?_)
  refine Calls.spliced_nil ?_
  refine call_function_tree F.kind_any F.plain_any F.entry_any (F.args_any1 _) ?_
  unfold Builtin.«any»
  refine wpAny_bind (m := oneArg "any" _) (wpAny_pure ?_)
  refine wpAny_bind (wpAny_pyIter_gen isg5 ?_)
  rw [← e1, ← e2]
  exact wpAny_pure ⟨plainId_quiet F.plain_any_loop _, loop_any hr.hd hr.depth isg (fun s1 H1 I1 hp => ⟨.bl false, H1, back H1 s1 I1, rfl, hR.2 H1 (hE H1 hp)⟩) (fun s1 H1 I1 q => ⟨.bl true, H1, back H1 s1 I1, rfl, hR.1 H1 q⟩) N 0 s5 (Nat.sub_zero _) (Nat.zero_le _) J⟩
end
end GQ

set_option maxRecDepth 100000
set_option maxHeartbeats 4000000
/-! dicts whose keys are numbers, None, tuples of such, nested: mixed -/
namespace MDict
open PySem PySem.Spec PyProof.Rows
open Sem (wp)

structure IsKey (h : Heap) (k : NestedKey) (v : Value) : Prop where
  is : NestedIs h k v
  dp : k.depth ≤ 8
  nt : (∃ i t, v = .int i t) ∨ ∃ a, v = .ref a
abbrev Ent := NestedKey × Value × Value
def entM (w : World) (x : Ent) : DictEntry := ⟨x.1.hash w, x.2.1, x.2.2⟩
def DictM (w : World) (h : Heap) (d : Addr) (xs : List Ent) : Prop :=
  ∃ o es ep, h.get? d = some o ∧ o.ExactDict ∧ o.data = .dict es ep ∧ es.toList = xs.map (entM w) ∧ (∀ x ∈ xs, IsKey h x.1 x.2.1) ∧ (xs.map (·.1)).Nodup
theorem DictM.typeIs {w : World} {s : Shared} {d : Addr} {xs : List Ent} (hm : DictM w s.heap d xs) : s.TypeIs (.ref d) "dict" :=
  let ⟨o, _, _, ho, hc, _⟩ := hm; ⟨o, ho, hc.1⟩
theorem ent_at {w : World} {es : Array DictEntry} {xs : List Ent} (he : es.toList = xs.map (entM w)) (j : Nat) : es[j]? = (xs[j]?).map (entM w) := by
  rw [← Array.getElem?_toList, he, List.getElem?_map]
theorem ent_size {w : World} {es : Array DictEntry} {xs : List Ent} (he : es.toList = xs.map (entM w)) : es.size = xs.length := by
  rw [← Array.length_toList, he, List.length_map]
theorem IsKey.keep {h h' : Heap} {k : NestedKey} {v : Value} (x : IsKey h k v) (hk : ∀ a o vs n, h.get? a = some o → o.data = .seq vs n → h'.get? a = some o) : IsKey h' k v := ⟨NestedIs.at hk _ _ x.is, x.dp, x.nt⟩
theorem IsKey.same {h h' : Heap} {k : NestedKey} {v : Value} {d : Addr} {o : Obj} {es ep} (x : IsKey h k v) (ho : h.get? d = some o) (hd : o.data = .dict es ep) (hs : Heap.SameBut d h h') : IsKey h' k v :=
  x.keep fun b ob vs n hb hc => by
    refine (hs.2 b fun e => ?_).trans hb
    subst e
    rw [ho] at hb
    cases hb
    rw [hd] at hc
    cases hc

section
variable {prog : Program} {w : World} {A : Around} {E : Value → Shared → Prop} {s : Shared}
theorem hashM {k : NestedKey} {v : Value} {Q : Int → Shared → Prop} (hu : A.units + 8 < cLine) (x : IsKey s.heap k v) (h : Q (k.hash w) { s with toks := s.toks + k.draws }) : wpAny (model prog w) A (pyHash v) Q E s :=
  pyHash_key k v A s Q x.is (by have := x.dp; omega) h
theorem eqM {k l : NestedKey} {u v : Value} {Q : Bool → Shared → Prop} (hu : A.units + 8 < cLine) (x : IsKey s.heap k u) (y : IsKey s.heap l v) (h : Q (decide (k = l)) s) : wpAny (model prog w) A (eqBool u v) Q E s :=
  eqAt_key k l A s u v x.is y.is (by have := x.dp; omega) _ _ _ _ (by rw [← NestedKey.decide_eq]; exact h)
theorem quietM {k : NestedKey} {v : Value} {Q : Bool → Shared → Prop} (x : IsKey s.heap k v) (h : Q true s) : wpAny (model prog w) A (eqIsQuiet 8 v) Q E s := quiet_key k v 8 s x.is x.dp A E Q h

theorem tellM {v : Value} {k : NestedKey} {stored : List Value} {Q : Bool → Shared → Prop} (hkey : IsKey s.heap k v) (hst : ∀ u ∈ stored, ∃ l, IsKey s.heap l u) (h : Q false s) : wpAny (model prog w) A (tableMayTell v stored) Q E s := by
  unfold tableMayTell
  split
  · exact wpAny_pure h
  · refine wpAny_bind (quietM hkey ?_)
    simp only [Bool.not_true, Bool.false_eq_true, if_false]
    refine wpAny_bind ?_
    refine wpAny_forIn_list _ (fun rest r s' => s' = s ∧ r = (none, ()) ∧ ∀ u ∈ rest, ∃ l, IsKey s.heap l u) _ ?_ ?_ _ _ ⟨rfl, rfl, hst⟩
    · rintro x rest r s' ⟨rfl, rfl, hr⟩
      obtain ⟨l, hl⟩ := hr x List.mem_cons_self
      refine wpAny_bind (quietM hl ?_)
      simp only [Bool.not_true, Bool.false_eq_true, if_false]
      exact wpAny_pure ⟨rfl, rfl, fun v hv => hr v (List.mem_cons_of_mem _ hv)⟩
    · rintro r s' ⟨rfl, rfl, _⟩
      exact wpAny_pure h

theorem uniqM {xs : List Ent} (hn : (xs.map (·.1)).Nodup) {i j : Nat} {k : NestedKey} {p q : Value × Value} (hi : xs[i]? = some (k, p)) (hj : xs[j]? = some (k, q)) : i = j := by
  have hi' : (xs.map (·.1))[i]? = some k := by rw [List.getElem?_map, hi]; rfl
  have hj' : (xs.map (·.1))[j]? = some k := by rw [List.getElem?_map, hj]; rfl
  exact (List.getElem?_inj (List.getElem?_eq_some_iff.mp hi').1 hn).mp (hi'.trans hj'.symm)

theorem findM {d : Addr} {v : Value} {o : Obj} {es ep} {xs : List Ent} {k : NestedKey} {Q : Option Nat → Shared → Prop} (hu : A.units + 8 < cLine) (hkey : IsKey s.heap k v)
    (ho : s.heap.get? d = some o) (hd : o.data = .dict es ep) (he : es.toList = xs.map (entM w)) (his : ∀ x ∈ xs, IsKey s.heap x.1 x.2.1) (hn : (xs.map (·.1)).Nodup)
    (hnone : (∀ (j : Nat) (p : Value × Value), xs[j]? ≠ some (k, p)) → Q none s) (hsome : ∀ (j : Nat) (p : Value × Value), xs[j]? = some (k, p) → Q (some j) s) :
    wpAny (model prog w) A (dictFind d v (k.hash w)) Q E s := by
  have hsz : es.size = xs.length := ent_size he
  have haskey : ∀ (j : Nat) (p : Value × Value), xs[j]? = some (k, p) → ((es[j]?.map (·.hash)) == some (k.hash w)) = true := by
    intro j p hj
    rw [ent_at he j, hj]
    simp [entM]
  have hmem : ∀ e ∈ es, ∃ x ∈ xs, e = entM w x := by
    intro e hin
    have hin' : e ∈ xs.map (entM w) := he ▸ Array.mem_toList_iff.mpr hin
    obtain ⟨x, hx, rfl⟩ := List.mem_map.mp hin'
    exact ⟨x, hx, rfl⟩
  have hst : ∀ u ∈ (placesWithHash es.size (fun i => es[i]?.map (·.hash)) (k.hash w)).filterMap (fun i => es[i]?.map (·.key)), ∃ l, IsKey s.heap l u := by
    intro u hv
    obtain ⟨i, _, hi⟩ := List.mem_filterMap.mp hv
    cases hei : es[i]? with
    | none => rw [hei] at hi; cases hi
    | some e =>
      rw [hei] at hi
      obtain rfl : e.key = u := by simpa using hi
      obtain ⟨x, hx, rfl⟩ := hmem e (Array.mem_of_getElem? hei)
      exact ⟨x.1, his x hx⟩
  -- the loops' end
  have ends : ∀ i : Nat, i ≤ es.size → (∀ j : Nat, i ≤ j → j < es.size → ((es[j]?.map (·.hash)) == some (k.hash w)) = false) → (∀ (j : Nat) (p : Value × Value), j < i → xs[j]? ≠ some (k, p)) → ∀ (j : Nat) (p : Value × Value), xs[j]? ≠ some (k, p) := by
    intro i _ hall hno j p hj
    rcases Nat.lt_or_ge j i with h | h
    · exact hno j p h hj
    · have hjl : j < es.size := by
        rw [hsz]
        exact (List.getElem?_eq_some_iff.mp hj).1
      have := hall j h hjl
      rw [haskey j p hj] at this
      exact absurd this (by decide)
  have plain : wpAny (model prog w) A (dictWalkPlain d v (k.hash w) es (placesWithHash es.size (fun i => es[i]?.map (·.hash)) (k.hash w))) Q E s := by
    refine wpAny_bind ?_
    refine wpAny_forIn_list _
      (fun rest b s' => s' = s ∧ b = (none, ()) ∧ ∃ i, rest = (List.range' i (es.size - i)).filter (fun i => (es[i]?.map (·.hash)) == some (k.hash w)) ∧ i ≤ es.size ∧
        ∀ (j : Nat) (p : Value × Value), j < i → xs[j]? ≠ some (k, p)) _ ?_ ?_ _ _
      ⟨rfl, rfl, 0, by rw [placesWithHash, List.range_eq_range', Nat.sub_zero], Nat.zero_le _, fun _ _ h => absurd h (Nat.not_lt_zero _)⟩
    · rintro x rest b s' ⟨rfl, rfl, i, hr, hi, hno⟩
      obtain ⟨hix, hxn, hpx, hskip, hrest⟩ := filter_range'_cons _ _ _ _ _ hr.symm
      have hlt : x < es.size := by omega
      have hrest' : rest = (List.range' (x + 1) (es.size - (x + 1))).filter (fun i => (es[i]?.map (·.hash)) == some (k.hash w)) := by rw [hrest]; congr 2; omega
      obtain ⟨⟨k', u, v'⟩, hkv⟩ : ∃ y, xs[x]? = some y := ⟨xs[x]'(by rw [← hsz]; exact hlt), List.getElem?_eq_getElem _⟩
      have hib : IsKey s'.heap k' u := his _ (List.mem_of_getElem? hkv)
      have hex : es[x]? = some ⟨k'.hash w, u, v'⟩ := by rw [ent_at he x, hkv]; rfl
      have hnx : ∀ (j : Nat) (p : Value × Value), j < x → xs[j]? ≠ some (k, p) := fun j p hjx hj => by
        rcases Nat.lt_or_ge j i with h | h
        · exact hno j p h hj
        · have := hskip j h hjx
          rw [haskey j p hj] at this
          exact absurd this (by decide)
      have hnext : ¬ k' = k → ∃ i, rest = (List.range' i (es.size - i)).filter (fun i => (es[i]?.map (·.hash)) == some (k.hash w)) ∧ i ≤ es.size ∧ ∀ (j : Nat) (p : Value × Value), j < i → xs[j]? ≠ some (k, p) := fun hne =>
        ⟨x + 1, hrest', hlt, fun j p hji hj => by
          rcases Nat.lt_or_ge j x with h | h
          · exact hnx j p h hj
          · have : j = x := by omega
            subst this
            rw [hkv] at hj
            injection hj with hj
            injection hj with hj
            exact hne hj⟩
      rw [hex]
      dsimp only
      by_cases hh : (k'.hash w == k.hash w) = true
      · rw [if_pos hh]
        refine wpAny_bind (wpAny_dictEpoch ho hd (wpAny_bind (eqM hu hib hkey (wpAny_bind (wpAny_dictEpoch ho hd ?_)))))
        show wpAny _ _ (if (ep != ep) = true then _ else _) _ E _
        rw [if_neg (by simp)]
        by_cases hkk : k' = k
        · rw [decide_eq_true hkk]
          subst hkk
          exact wpAny_bind (wpAny_rule (wpAny_pure (wpAny_pure (hsome x _ hkv))))
        · rw [decide_eq_false hkk]
          exact wpAny_bind (wpAny_rule (wpAny_pure ⟨rfl, rfl, hnext hkk⟩))
      · rw [if_neg hh]
        refine wpAny_pure ⟨rfl, rfl, hnext ?_⟩
        intro hkk
        rw [hkk] at hh
        simp at hh
    · rintro b s' ⟨rfl, rfl, i, hr, hi, hno⟩
      have hall : ∀ j, i ≤ j → j < es.size → ((es[j]?.map (·.hash)) == some (k.hash w)) = false := by
        intro j h1 h2
        have := List.filter_eq_nil_iff.mp hr.symm j (List.mem_range'_1.mpr ⟨h1, by omega⟩)
        simpa using this
      exact wpAny_pure (hnone (ends i hi hall hno))
  unfold dictFind
  try with_reducible refine wpAny_holding ?_
  refine wpAny_bind (wpAny_dictEntries ho hd ?_)
  rcases id hkey.nt with ⟨i, t, rfl⟩ | ⟨a, rfl⟩
  · dsimp only
    by_cases hall : (Value.int i t :: (placesWithHash es.size (fun i => es[i]?.map (·.hash)) (k.hash w)).filterMap (fun i => es[i]?.map (·.key))).all carriedByValue = true
    · rw [if_pos hall]
      exact plain
    rw [if_neg hall]
    by_cases hone : (((placesWithHash es.size (fun i => es[i]?.map (·.hash)) (k.hash w)).filterMap (fun i => es[i]?.map (·.key))) == [Value.int i t]) = true <;>
    (first | rw [if_pos hone] | rw [if_neg hone]) <;> (first | refine wpAny_bind (wpAny_pure ?_) | refine wpAny_bind (tellM hkey hst ?_)) <;> (
      rw [if_neg (by simp)]
      refine wpAny_bind ?_
      refine wpAny_forIn_list _
        (fun rest b s' => s' = s ∧ ∃ i hit, b = (none, hit) ∧ rest = (List.range' i (es.size - i)).filter (fun i => (es[i]?.map (·.hash)) == some (k.hash w)) ∧ i ≤ es.size ∧
          ((hit = none ∧ ∀ (j : Nat) (p : Value × Value), j < i → xs[j]? ≠ some (k, p)) ∨ ∃ (j : Nat) (p : Value × Value), hit = some j ∧ j < i ∧ xs[j]? = some (k, p))) _ ?_ ?_ _ _
        ⟨rfl, 0, none, rfl, by rw [placesWithHash, List.range_eq_range', Nat.sub_zero], Nat.zero_le _, .inl ⟨rfl, fun _ _ h => absurd h (Nat.not_lt_zero _)⟩⟩
      · rintro x rest b s' ⟨rfl, i, hit, rfl, hr, hi, hH⟩
        obtain ⟨hix, hxn, hpx, hskip, hrest⟩ := filter_range'_cons _ _ _ _ _ hr.symm
        have hlt : x < es.size := by omega
        have hrest' : rest = (List.range' (x + 1) (es.size - (x + 1))).filter (fun i => (es[i]?.map (·.hash)) == some (k.hash w)) := by rw [hrest]; congr 2; omega
        obtain ⟨⟨k', u', v'⟩, hkv⟩ : ∃ y, xs[x]? = some y := ⟨xs[x]'(by rw [← hsz]; exact hlt), List.getElem?_eq_getElem _⟩
        have hib : IsKey s'.heap k' u' := his _ (List.mem_of_getElem? hkv)
        have hex : es[x]? = some ⟨k'.hash w, u', v'⟩ := by rw [ent_at he x, hkv]; rfl
        have hHx : (hit = none ∧ ∀ (j : Nat) (p : Value × Value), j < x → xs[j]? ≠ some (k, p)) ∨ ∃ (j : Nat) (p : Value × Value), hit = some j ∧ j < x ∧ xs[j]? = some (k, p) := by
          rcases hH with ⟨h0, hno⟩ | ⟨j, p, h1, hji, hj⟩
          · refine .inl ⟨h0, fun j p hjx hj => ?_⟩
            rcases Nat.lt_or_ge j i with h | h
            · exact hno j p h hj
            · have := hskip j h hjx
              rw [haskey j p hj] at this
              exact absurd this (by decide)
          · exact .inr ⟨j, p, h1, by omega, hj⟩
        have hstay : ¬ k' = k → ((hit = none ∧ ∀ (j : Nat) (p : Value × Value), j < x + 1 → xs[j]? ≠ some (k, p)) ∨ ∃ (j : Nat) (p : Value × Value), hit = some j ∧ j < x + 1 ∧ xs[j]? = some (k, p)) := by
          intro hne
          rcases hHx with ⟨h0, hno⟩ | ⟨j, p, h1, hjx, hj⟩
          · refine .inl ⟨h0, fun j p hjx hj => ?_⟩
            rcases Nat.lt_or_ge j x with h | h
            · exact hno j p h hj
            · have hjx' : j = x := by omega
              subst hjx'
              rw [hkv] at hj
              injection hj with hj
              injection hj with hj
              exact hne hj
          · exact .inr ⟨j, p, h1, by omega, hj⟩
        rw [hex]
        dsimp only
        by_cases hh : (k'.hash w == k.hash w) = true
        · rw [if_pos hh]
          refine wpAny_bind (wpAny_dictEpoch ho hd (wpAny_bind (eqM hu hib hkey (wpAny_bind (wpAny_dictEpoch ho hd ?_)))))
          show wpAny _ _ (if (ep != ep) = true then _ else _) _ E _
          rw [if_neg (by simp)]
          by_cases hkk : k' = k
          · rw [decide_eq_true hkk]
            subst hkk
            rcases hHx with ⟨rfl, _⟩ | ⟨j, p, _, hjx, hj⟩
            · first | rw [if_pos rfl] | skip
              simp only [Option.isSome_none, Bool.false_eq_true, if_false]
              first | refine wpAny_bind (wpAny_pure ?_) | skip
              refine wpAny_bind (wpAny_rule ?_)
              split
              · exact wpAny_pure (wpAny_pure (hsome x _ hkv))
              · exact wpAny_pure ⟨rfl, x + 1, some x, rfl, hrest', hlt, .inr ⟨x, _, rfl, Nat.lt_succ_self x, hkv⟩⟩
            · exact absurd (uniqM hn hj hkv) (by omega)
          · rw [decide_eq_false hkk]
            simp only [Bool.false_eq_true, if_false]
            refine wpAny_bind (wpAny_rule ?_)
            first | rw [if_neg (by simp)] | skip
            first
              | exact wpAny_pure ⟨rfl, x + 1, hit, rfl, hrest', hlt, hstay hkk⟩
              | exact wpAny_bind (wpAny_pure (wpAny_pure ⟨rfl, x + 1, hit, rfl, hrest', hlt, hstay hkk⟩))
        · rw [if_neg hh]
          refine wpAny_pure ⟨rfl, x + 1, hit, rfl, hrest', hlt, hstay ?_⟩
          intro hkk
          rw [hkk] at hh
          simp at hh
      · rintro b s' ⟨rfl, i, hit, rfl, hr, hi, hH⟩
        have hall : ∀ j, i ≤ j → j < es.size → ((es[j]?.map (·.hash)) == some (k.hash w)) = false := by
          intro j h1 h2
          have := List.filter_eq_nil_iff.mp hr.symm j (List.mem_range'_1.mpr ⟨h1, by omega⟩)
          simpa using this
        rcases hH with ⟨rfl, hno⟩ | ⟨j, p, rfl, _, hj⟩
        · exact wpAny_pure (hnone (ends i hi hall hno))
        · exact wpAny_pure (hsome j p hj))

  · dsimp only
    by_cases hall : (Value.ref a :: (placesWithHash es.size (fun i => es[i]?.map (·.hash)) (k.hash w)).filterMap (fun i => es[i]?.map (·.key))).all carriedByValue = true
    · rw [if_pos hall]
      exact plain
    rw [if_neg hall]
    have hany : ¬ (es.any fun e => e.key == Value.ref a && e.hash != k.hash w) = true := by
      rw [← Array.any_toList, List.any_eq_true]
      rintro ⟨e, hin, hc⟩
      obtain ⟨x, hx, rfl⟩ := hmem e (Array.mem_toList_iff.mp hin)
      simp only [entM, Bool.and_eq_true, beq_iff_eq, bne_iff_ne, ne_eq] at hc
      obtain ⟨hxa, hne⟩ := hc
      have := (his x hx).is
      rw [hxa] at this
      exact hne (by rw [NestedIs.inj _ _ _ this hkey.is])
    rw [if_neg hany]
    by_cases hone : (((placesWithHash es.size (fun i => es[i]?.map (·.hash)) (k.hash w)).filterMap (fun i => es[i]?.map (·.key))) == [Value.ref a]) = true <;>
    (first | rw [if_pos hone] | rw [if_neg hone]) <;> (first | refine wpAny_bind (wpAny_pure ?_) | refine wpAny_bind (tellM hkey hst ?_)) <;> (
      rw [if_neg (by simp)]
      refine wpAny_bind ?_
      refine wpAny_forIn_list _
        (fun rest b s' => s' = s ∧ ∃ i hit, b = (none, hit) ∧ rest = (List.range' i (es.size - i)).filter (fun i => (es[i]?.map (·.hash)) == some (k.hash w)) ∧ i ≤ es.size ∧
          ((hit = none ∧ ∀ (j : Nat) (p : Value × Value), j < i → xs[j]? ≠ some (k, p)) ∨ ∃ (j : Nat) (p : Value × Value), hit = some j ∧ j < i ∧ xs[j]? = some (k, p))) _ ?_ ?_ _ _
        ⟨rfl, 0, none, rfl, by rw [placesWithHash, List.range_eq_range', Nat.sub_zero], Nat.zero_le _, .inl ⟨rfl, fun _ _ h => absurd h (Nat.not_lt_zero _)⟩⟩
      · rintro x rest b s' ⟨rfl, i, hit, rfl, hr, hi, hH⟩
        obtain ⟨hix, hxn, hpx, hskip, hrest⟩ := filter_range'_cons _ _ _ _ _ hr.symm
        have hlt : x < es.size := by omega
        have hrest' : rest = (List.range' (x + 1) (es.size - (x + 1))).filter (fun i => (es[i]?.map (·.hash)) == some (k.hash w)) := by rw [hrest]; congr 2; omega
        obtain ⟨⟨k', u', v'⟩, hkv⟩ : ∃ y, xs[x]? = some y := ⟨xs[x]'(by rw [← hsz]; exact hlt), List.getElem?_eq_getElem _⟩
        have hib : IsKey s'.heap k' u' := his _ (List.mem_of_getElem? hkv)
        have hex : es[x]? = some ⟨k'.hash w, u', v'⟩ := by rw [ent_at he x, hkv]; rfl
        have hHx : (hit = none ∧ ∀ (j : Nat) (p : Value × Value), j < x → xs[j]? ≠ some (k, p)) ∨ ∃ (j : Nat) (p : Value × Value), hit = some j ∧ j < x ∧ xs[j]? = some (k, p) := by
          rcases hH with ⟨h0, hno⟩ | ⟨j, p, h1, hji, hj⟩
          · refine .inl ⟨h0, fun j p hjx hj => ?_⟩
            rcases Nat.lt_or_ge j i with h | h
            · exact hno j p h hj
            · have := hskip j h hjx
              rw [haskey j p hj] at this
              exact absurd this (by decide)
          · exact .inr ⟨j, p, h1, by omega, hj⟩
        have hstay : ¬ k' = k → ((hit = none ∧ ∀ (j : Nat) (p : Value × Value), j < x + 1 → xs[j]? ≠ some (k, p)) ∨ ∃ (j : Nat) (p : Value × Value), hit = some j ∧ j < x + 1 ∧ xs[j]? = some (k, p)) := by
          intro hne
          rcases hHx with ⟨h0, hno⟩ | ⟨j, p, h1, hjx, hj⟩
          · refine .inl ⟨h0, fun j p hjx hj => ?_⟩
            rcases Nat.lt_or_ge j x with h | h
            · exact hno j p h hj
            · have hjx' : j = x := by omega
              subst hjx'
              rw [hkv] at hj
              injection hj with hj
              injection hj with hj
              exact hne hj
          · exact .inr ⟨j, p, h1, by omega, hj⟩
        rw [hex]
        dsimp only
        by_cases hh : (k'.hash w == k.hash w) = true
        · rw [if_pos hh]
          refine wpAny_bind (wpAny_dictEpoch ho hd (wpAny_bind (eqM hu hib hkey (wpAny_bind (wpAny_dictEpoch ho hd ?_)))))
          show wpAny _ _ (if (ep != ep) = true then _ else _) _ E _
          rw [if_neg (by simp)]
          by_cases hkk : k' = k
          · rw [decide_eq_true hkk]
            subst hkk
            rcases hHx with ⟨rfl, _⟩ | ⟨j, p, _, hjx, hj⟩
            · first | rw [if_pos rfl] | skip
              simp only [Option.isSome_none, Bool.false_eq_true, if_false]
              first | refine wpAny_bind (wpAny_pure ?_) | skip
              refine wpAny_bind (wpAny_rule ?_)
              split
              · exact wpAny_pure (wpAny_pure (hsome x _ hkv))
              · exact wpAny_pure ⟨rfl, x + 1, some x, rfl, hrest', hlt, .inr ⟨x, _, rfl, Nat.lt_succ_self x, hkv⟩⟩
            · exact absurd (uniqM hn hj hkv) (by omega)
          · rw [decide_eq_false hkk]
            simp only [Bool.false_eq_true, if_false]
            refine wpAny_bind (wpAny_rule ?_)
            first | rw [if_neg (by simp)] | skip
            first
              | exact wpAny_pure ⟨rfl, x + 1, hit, rfl, hrest', hlt, hstay hkk⟩
              | exact wpAny_bind (wpAny_pure (wpAny_pure ⟨rfl, x + 1, hit, rfl, hrest', hlt, hstay hkk⟩))
        · rw [if_neg hh]
          refine wpAny_pure ⟨rfl, x + 1, hit, rfl, hrest', hlt, hstay ?_⟩
          intro hkk
          rw [hkk] at hh
          simp at hh
      · rintro b s' ⟨rfl, i, hit, rfl, hr, hi, hH⟩
        have hall : ∀ j, i ≤ j → j < es.size → ((es[j]?.map (·.hash)) == some (k.hash w)) = false := by
          intro j h1 h2
          have := List.filter_eq_nil_iff.mp hr.symm j (List.mem_range'_1.mpr ⟨h1, by omega⟩)
          simpa using this
        rcases hH with ⟨rfl, hno⟩ | ⟨j, p, rfl, _, hj⟩
        · exact wpAny_pure (hnone (ends i hi hall hno))
        · exact wpAny_pure (hsome j p hj))

end
end MDict

set_option maxRecDepth 100000
set_option maxHeartbeats 4000000
namespace MDict
open PySem PySem.Spec PyProof.Rows L2
open Sem (wp)

def atM (xs : List Ent) (k : NestedKey) : Option (Value × Value) := (xs.find? fun x => decide (x.1 = k)).map (·.2)
def putM (k : NestedKey) (v : Value) (x : Ent) : Ent := if x.1 = k then (x.1, x.2.1, v) else x
def storedM (xs : List Ent) (k : NestedKey) (kv v : Value) : List Ent := if (atM xs k).isSome then xs.map (putM k v) else xs ++ [(k, kv, v)]
theorem atM_get {xs : List Ent} (hn : (xs.map (·.1)).Nodup) {i : Nat} {k : NestedKey} {p : Value × Value} (hx : xs[i]? = some (k, p)) : atM xs k = some p := by
  induction xs generalizing i with
  | nil => simp at hx
  | cons x rest ih =>
    rw [List.map_cons, List.nodup_cons] at hn
    cases i with
    | zero =>
      simp only [List.getElem?_cons_zero, Option.some.injEq] at hx
      subst hx; simp [atM]
    | succ j =>
      simp only [List.getElem?_cons_succ] at hx
      have hmem : k ∈ rest.map (·.1) := List.mem_map.mpr ⟨(k, p), List.mem_of_getElem? hx, rfl⟩
      have hne : ¬ x.1 = k := fun e => hn.1 (e ▸ hmem)
      have := ih hn.2 hx
      simpa [atM, List.find?_cons, hne] using this
theorem atM_none {xs : List Ent} {k : NestedKey} (h : ∀ (j : Nat) (p : Value × Value), xs[j]? ≠ some (k, p)) : atM xs k = none ∧ k ∉ xs.map (·.1) := by
  constructor
  · have : (xs.find? fun x => decide (x.1 = k)) = none := by
      rw [List.find?_eq_none]
      intro x hx hk
      obtain ⟨j, hj⟩ := List.mem_iff_getElem?.mp hx
      exact h j x.2 (by rw [hj, ← of_decide_eq_true hk])
    simp [atM, this]
  · intro hm
    obtain ⟨x, hx, rfl⟩ := List.mem_map.mp hm
    obtain ⟨j, hj⟩ := List.mem_iff_getElem?.mp hx
    exact h j x.2 hj
theorem keys_putM (xs : List Ent) (k : NestedKey) (v : Value) : (xs.map (putM k v)).map (·.1) = xs.map (·.1) := by
  induction xs with
  | nil => rfl
  | cons x xs ih =>
    simp only [List.map_cons, ih]
    by_cases hk : x.1 = k <;> simp [putM, hk]
theorem putM_out (xs : List Ent) (k : NestedKey) (v : Value) (hn : k ∉ xs.map (·.1)) : xs.map (putM k v) = xs := by
  induction xs with
  | nil => rfl
  | cons x xs ih =>
    simp only [List.map_cons, List.mem_cons, not_or] at hn ⊢
    rw [putM, if_neg (fun e => hn.1 e.symm), ih hn.2]
theorem modify_putM (w : World) (k : NestedKey) (v : Value) : ∀ {xs : List Ent} {j : Nat} {p : Value × Value}, (xs.map (·.1)).Nodup → xs[j]? = some (k, p) →
    (xs.map (entM w)).modify j (fun e : DictEntry => { e with val := v }) = (xs.map (putM k v)).map (entM w) := by
  intro xs
  induction xs with
  | nil => intro j p _ hj; simp at hj
  | cons x rest ih =>
    intro j p hn hj
    rw [List.map_cons, List.nodup_cons] at hn
    cases j with
    | zero =>
      simp only [List.getElem?_cons_zero, Option.some.injEq] at hj
      subst hj
      rw [List.map_cons, List.map_cons, putM_out rest k v hn.1, putM, if_pos rfl, List.map_cons]
      rfl
    | succ j =>
      simp only [List.getElem?_cons_succ] at hj
      have hmem : k ∈ rest.map (·.1) := List.mem_map.mpr ⟨(k, p), List.mem_of_getElem? hj, rfl⟩
      have hne : ¬ x.1 = k := fun e => hn.1 (e ▸ hmem)
      rw [List.map_cons, List.map_cons, putM, if_neg hne, List.map_cons]
      show entM w x :: (rest.map (entM w)).modify j _ = entM w x :: (rest.map (putM k v)).map (entM w)
      rw [ih hn.2 hj]

section
variable {prog : Program} {w : World} {A : Around} {E : Value → Shared → Prop} {s : Shared} {d : Addr} {kv : Value} {k : NestedKey} {xs : List Ent}
theorem getM {Q : Option Value → Shared → Prop} (hu : A.units + 8 < cLine) (hkey : IsKey s.heap k kv) (hm : DictM w s.heap d xs)
    (h : Q ((atM xs k).map (·.2)) { s with toks := s.toks + k.draws }) : wpAny (model prog w) A (dictGet d kv) Q E s := by
  obtain ⟨o, es, ep, ho, _, hd, he, his, hn⟩ := hm
  unfold dictGet
  try with_reducible refine wpAny_holding ?_
  refine wpAny_bind (hashM hu hkey (wpAny_bind (findM (s := { s with toks := s.toks + k.draws }) hu hkey ho hd he his hn ?_ ?_)))
  · intro hno
    rw [(atM_none hno).1] at h
    exact wpAny_pure h
  · intro j p hj
    rw [atM_get hn hj] at h
    refine wpAny_bind (wpAny_dictEntries (s := { s with toks := s.toks + k.draws }) ho hd ?_)
    rw [ent_at he j, hj]
    exact wpAny_pure h
theorem newM {o : Obj} {es : Array DictEntry} {ep : Nat} {v : Value} (hkey : IsKey s.heap k kv) (ho : s.heap.get? d = some o) (hc : o.ExactDict) (hd : o.data = .dict es ep) (he : es.toList = xs.map (entM w)) (his : ∀ x ∈ xs, IsKey s.heap x.1 x.2.1) (hn : (xs.map (·.1)).Nodup)
    (hno : ∀ (j : Nat) (p : Value × Value), xs[j]? ≠ some (k, p)) : DictM w (s.heap.update d (Obj.mapDictKeys (·.push ⟨k.hash w, kv, v⟩))) d (storedM xs k kv v) := by
  obtain ⟨n1, n2⟩ := atM_none hno
  have e : storedM xs k kv v = xs ++ [(k, kv, v)] := by simp [storedM, n1]
  rw [e]
  refine ⟨_, _, ep + 1, Heap.get?_update_self _ ho (Obj.isFreed_of_dict (Obj.data_mapDictKeys hd _)), hc.mapDictKeys _, Obj.data_mapDictKeys hd _, by simp [he, entM], fun x hx => ?_, ?_⟩
  · rcases List.mem_append.mp hx with hx | hx
    · exact (his x hx).same ho hd (Heap.SameBut.update ..)
    · simp only [List.mem_singleton] at hx
      subst hx
      exact hkey.same ho hd (Heap.SameBut.update ..)
  · rw [List.map_append, List.nodup_append]
    refine ⟨hn, by simp, ?_⟩
    intro x hx y hy
    simp only [List.map_cons, List.map_nil, List.mem_singleton] at hy
    subst hy
    exact fun e => n2 (e ▸ hx)
theorem setM {v : Value} {Q : Unit → Shared → Prop} (hu : A.units + 8 < cLine) (hkey : IsKey s.heap k kv) (hm : DictM w s.heap d xs)
    (hQ : ∀ h', DictM w h' d (storedM xs k kv v) → Heap.SameBut d s.heap h' → Q () { s with heap := h', toks := s.toks + k.draws }) (hsz : xs.length ≤ sizeLine) : wpAny (model prog w) A (dictSet d kv v) Q E s := by
  obtain ⟨o, es, ep, ho, hc, hd, he, his, hn⟩ := hm
  unfold dictSet
  try with_reducible refine wpAny_holding ?_
  refine wpAny_bind (hashM hu hkey ?_)
  unfold dictSetHashed
  try with_reducible refine wpAny_holding ?_
  refine wpAny_bind (findM (s := { s with toks := s.toks + k.draws }) hu hkey ho hd he his hn ?_ ?_)
  · intro hno
    exact wpAny_bind (wpAny_rule (wpAny_updateDictKeys (hz := by have e := ent_size he; omega) (s := { s with toks := s.toks + k.draws }) ho hd (hQ _ (newM (s := s) hkey ho hc hd he his hn hno) (Heap.SameBut.update ..))))
  · intro j p hj
    have e : storedM xs k kv v = xs.map (putM k v) := by simp [storedM, atM_get hn hj]
    refine wpAny_bind (wpAny_rule (wpAny_bind (wpAny_updateDict (s := { s with toks := s.toks + k.draws }) ho hd (wpAny_point (hQ _ ?_ (Heap.SameBut.update ..))))))
    rw [e]
    refine ⟨_, _, ep, Heap.get?_update_self _ ho (Obj.isFreed_of_dict (Obj.data_mapDict hd _)), hc.mapDict _, Obj.data_mapDict hd _, ?_, fun x hx => ?_, by rw [keys_putM]; exact hn⟩
    · have := modify_putM w k v hn hj
      rw [← he] at this
      obtain ⟨l⟩ := es
      simpa using this
    · obtain ⟨y, hy, rfl⟩ := List.mem_map.mp hx
      unfold putM
      split <;> exact (his y hy).same ho hd (Heap.SameBut.update ..)
theorem sdefM {v : Value} {Q : Value → Shared → Prop} (hu : A.units + 8 < cLine) (hkey : IsKey s.heap k kv) (hm : DictM w s.heap d xs)
    (h1 : ∀ p, atM xs k = some p → Q p.2 { s with toks := s.toks + k.draws })
    (h2 : atM xs k = none → ∀ h', DictM w h' d (storedM xs k kv v) → Heap.SameBut d s.heap h' → Q v { s with heap := h', toks := s.toks + k.draws }) (hsz : xs.length ≤ sizeLine) : wpAny (model prog w) A (dictSetDefault d kv v) Q E s := by
  obtain ⟨o, es, ep, ho, hc, hd, he, his, hn⟩ := hm
  unfold dictSetDefault
  try with_reducible refine wpAny_holding ?_
  refine wpAny_bind (hashM hu hkey ?_)
  refine wpAny_bind (findM (s := { s with toks := s.toks + k.draws }) hu hkey ho hd he his hn ?_ ?_)
  · intro hno
    exact wpAny_bind (wpAny_rule (wpAny_bind (wpAny_updateDictKeys (hz := by have e := ent_size he; omega) (s := { s with toks := s.toks + k.draws }) ho hd (wpAny_pure (h2 (atM_none hno).1 _ (newM (s := s) hkey ho hc hd he his hn hno) (Heap.SameBut.update ..))))))
  · intro j p hj
    refine wpAny_bind (wpAny_dictEntries (s := { s with toks := s.toks + k.draws }) ho hd ?_)
    rw [ent_at he j, hj]
    exact wpAny_bind (wpAny_rule (wpAny_pure (h1 p (atM_get hn hj))))

/-! by the built-ins -/
theorem containsM {Q : Bool → Shared → Prop} (hu : A.units + 9 < cLine) (hkey : IsKey s.heap k kv) (hd : (d == sysModules) = false) (hm : DictM w s.heap d xs)
    (h : Q (atM xs k).isSome { s with toks := s.toks + k.draws }) : wpAny (model prog w) A (contains (.ref d) kv) Q E s := by
  unfold contains
  try with_reducible refine wpAny_holding ?_
  refine wpAny_bind (wpAny_specialOf hm.typeIs slot_dict_contains.lookup ?_)
  show wpAny _ _ (if (some (Value.builtin "dict.__contains__") == some Value.none) = true then _ else _) _ E s
  rw [if_neg (by rw [beq_builtin_none]; exact Bool.false_ne_true)]
  refine wpAny_bind (wpAny_callSpecialUnlessNone?_slot (name := Str.ofString "__contains__") hm.typeIs slot_dict_contains
    (wpAny_call_entry slot_dict_contains hm.typeIs entry_dict_contains ?_ (args_dict_contains _ _)))
  show wpAny _ _ (dictGet d kv >>= _) _ _ s
  refine wpAny_bind (getM (A := A.in1) (by show A.units + 1 + 8 < cLine; omega) hkey hm ?_)
  cases hf : (atM xs k).map (·.2) with
  | some p =>
    have hf' : (atM xs k).isSome = true := by
      cases q : atM xs k with
      | none => rw [q] at hf; cases hf
      | some _ => rfl
    rw [hf'] at h
    show wpAny _ _ (ret (.bool true)) _ _ _
    exact wpAny_pure ⟨_, rfl, wpAny_truthy_bool h⟩
  | none =>
    have hf' : (atM xs k).isSome = false := by
      cases q : atM xs k with
      | none => rfl
      | some _ => rw [q] at hf; cases hf
    rw [hf'] at h
    show wpAny _ _ (Builtin.Dict.pendingKey? d kv >>= _) _ _ _
    exact wpAny_bind (wpAny_pendingKey_other hd (wpAny_pure ⟨_, rfl, wpAny_truthy_bool h⟩))
theorem itemM {p : Value × Value} {Q : Value → Shared → Prop} (hu : A.units + 9 < cLine) (hkey : IsKey s.heap k kv) (hm : DictM w s.heap d xs) (hp : atM xs k = some p)
    (h : Q p.2 { s with toks := s.toks + k.draws }) : wpAny (model prog w) A (getItem (.ref d) kv) Q E s := by
  unfold getItem
  try with_reducible refine wpAny_holding ?_
  refine wpAny_bind (wpAny_sequenceKey hm.typeIs (by decide) ?_)
  refine wpAny_bind (wpAny_callSpecial?_slot (name := Str.ofString "__getitem__") hm.typeIs slot_dict_getitem
    (wpAny_call_entry slot_dict_getitem hm.typeIs entry_dict_getitem ?_ (args_dict_getitem _ _)))
  show wpAny _ _ (dictGet d kv >>= _) _ _ s
  refine wpAny_bind (getM (A := A.in1) (by show A.units + 1 + 8 < cLine; omega) hkey hm ?_)
  rw [hp]
  exact wpAny_pure ⟨p.2, rfl, wpAny_pure h⟩
theorem putItemM {v : Value} {Q : Unit → Shared → Prop} (hu : A.units + 9 < cLine) (hkey : IsKey s.heap k kv) (hm : DictM w s.heap d xs)
    (hQ : ∀ h', DictM w h' d (storedM xs k kv v) → Heap.SameBut d s.heap h' → Q () { s with heap := h', toks := s.toks + k.draws }) (hsz : xs.length ≤ sizeLine) :
    wpAny (model prog w) A (setItem (.ref d) kv v) Q E s := by
  unfold setItem
  try with_reducible refine wpAny_holding ?_
  refine wpAny_bind (wpAny_sequenceKey hm.typeIs (by decide) ?_)
  refine wpAny_bind (wpAny_callSpecial?_slot (name := Str.ofString "__setitem__") hm.typeIs slot_dict_setitem
    (wpAny_call_entry slot_dict_setitem hm.typeIs entry_dict_setitem ?_ (args_dict_setitem _ _ _)))
  show wpAny _ _ (Builtin.Dict.notOrdered "__setitem__" ⟨[.ref d, kv, v], []⟩ >>= _) _ _ s
  refine wpAny_bind (wpAny_notOrdered_dict hm.typeIs ?_)
  show wpAny _ _ (dictSet d kv v >>= _) _ _ s
  exact wpAny_bind (setM (A := A.in1) (by show A.units + 1 + 8 < cLine; omega) hkey hm (fun h' hm' hs' => wpAny_pure ⟨.none, rfl, wpAny_pure (hQ h' hm' hs')⟩) hsz)
theorem getOrM {x : Value} {Q : Value → Shared → Prop} (hu : A.units + 9 < cLine) (hkey : IsKey s.heap k kv) (hd : (d == sysModules) = false) (hm : DictM w s.heap d xs)
    (h : Q (((atM xs k).map (·.2)).getD x) { s with toks := s.toks + k.draws }) : wpAny (model prog w) A (call (.builtin "dict.get") [.ref d, kv, x]) Q E s := by
  refine wpAny_call_entry F.slot_dict_get hm.typeIs F.entry_dict_get ?_ (F.args_dict_get_3 _ _ _)
  show wpAny _ _ (dictGet d kv >>= _) _ _ s
  refine wpAny_bind (getM (A := A.in1) (by show A.units + 1 + 8 < cLine; omega) hkey hm ?_)
  cases hf : (atM xs k).map (·.2) with
  | some v =>
    rw [hf] at h
    exact wpAny_pure ⟨v, rfl, h⟩
  | none =>
    rw [hf] at h
    show wpAny _ _ (Builtin.Dict.missed d kv >>= _) _ _ _
    exact wpAny_bind (wpAny_missed_other hd (wpAny_pure ⟨x, rfl, h⟩))
theorem callSdefM {v : Value} {Q : Value → Shared → Prop} (hu : A.units + 9 < cLine) (hkey : IsKey s.heap k kv) (hd : (d == sysModules) = false) (hm : DictM w s.heap d xs)
    (h1 : ∀ p, atM xs k = some p → Q p.2 { s with toks := s.toks + k.draws })
    (h2 : atM xs k = none → ∀ h', DictM w h' d (storedM xs k kv v) → Heap.SameBut d s.heap h' → Q v { s with heap := h', toks := s.toks + k.draws }) (hsz : xs.length ≤ sizeLine) :
    wpAny (model prog w) A (call (.builtin "dict.setdefault") [.ref d, kv, v]) Q E s := by
  refine wpAny_call_entry F.slot_dict_setdefault hm.typeIs F.entry_dict_setdefault ?_ (F.args_dict_setdefault_3 _ _ _)
  unfold Builtin.«dict.setdefault»
  refine wpAny_bind ?_
  unfold Builtin.Dict.keyAndDefault
  refine wpAny_bind (wpAny_notOrdered_dict hm.typeIs ?_)
  show wpAny _ _ (pure (d, kv, some v)) _ _ s
  refine wpAny_pure ?_
  show wpAny _ _ (if (d == sysModules) = true then _ else (dictSetDefault d kv v >>= _)) _ _ s
  rw [if_neg (by rw [hd]; exact Bool.false_ne_true)]
  exact wpAny_bind (sdefM (A := A.in1) (by show A.units + 1 + 8 < cLine; omega) hkey hm (fun p hp => wpAny_pure ⟨p.2, rfl, h1 p hp⟩) (fun hn h' hm' hs' => wpAny_pure ⟨v, rfl, h2 hn h' hm' hs'⟩) hsz)
theorem DictM.raw {h : Heap} (hm : DictM w h d xs) : ∃ es ep, h.DictRaw d es ep ∧ es.size = xs.length ∧ es.toList = xs.map (entM w) := by
  obtain ⟨o, es, ep, ho, hc, hd, he, _, _⟩ := hm
  exact ⟨es, ep, ⟨o, ho, hc, hd⟩, ent_size he, he⟩
theorem lenM {Q : Value → Shared → Prop} (hd : (d == sysModules) = false) (hm : DictM w s.heap d xs) (hsz : xs.length ≤ sizeLine) (h : ∀ t k, Q (.int xs.length t) { s with toks := k }) : wpAny (model prog w) A (call (.builtin "len") [.ref d]) Q E s := by
  obtain ⟨es, ep, hr, hz, _⟩ := hm.raw
  refine PyProof.Rows.call_len_slot (n := xs.length) hm.typeIs F.slot_dict_len (fun Q' hq => call_len_raw hd hr ?_) (by omega) (by rw [sizeLine_eq] at hsz; omega) (h _ _)
  rw [hz]
  exact hq
end
end MDict

set_option maxRecDepth 100000
set_option maxHeartbeats 4000000
namespace MDict
open PySem PySem.Spec PyProof.Rows L2

mutual
/-- the value v is the key k, in the abstract heap -/
def KeyH (H : Hp) : NestedKey → V → Prop
  | .none, v => v = .non
  | .num i, v => v = .int i
  | .text _, _ => False
  | .tup ks, v => ∃ a vs, v = .ref a ∧ H a = some (.tup vs) ∧ KeyAll H ks vs
def KeyAll (H : Hp) : List NestedKey → List V → Prop
  | [], vs => vs = []
  | k :: ks, vs => ∃ v r, vs = v :: r ∧ KeyH H k v ∧ KeyAll H ks r
end
mutual
theorem KeyH.mono {H H' : Hp} (ht : ∀ a xs, H a = some (.tup xs) → H' a = some (.tup xs)) : ∀ (k : NestedKey) (v : V), KeyH H k v → KeyH H' k v
  | .none, v, h => h
  | .num i, v, h => h
  | .text _, v, h => h
  | .tup ks, v, h => by
    obtain ⟨a, vs, e, h1, h2⟩ := h
    exact ⟨a, vs, e, ht _ _ h1, KeyAll.mono ht ks vs h2⟩
theorem KeyAll.mono {H H' : Hp} (ht : ∀ a xs, H a = some (.tup xs) → H' a = some (.tup xs)) : ∀ (ks : List NestedKey) (vs : List V), KeyAll H ks vs → KeyAll H' ks vs
  | [], vs, h => h
  | k :: ks, vs, h => by
    obtain ⟨v, r, e, h1, h2⟩ := h
    exact ⟨v, r, e, KeyH.mono ht k v h1, KeyAll.mono ht ks r h2⟩
end
mutual
theorem key_is {P : Program} {w : World} {H : Hp} {h : Heap} (ok : HOk P w H h) : ∀ (k : NestedKey) (v : V) (u : Value), KeyH H k v → RelV v u → NestedIs h k u
  | .none, v, u, hk, r => by
    have e : v = .non := hk
    subst e
    obtain rfl : u = Value.none := r
    exact .none
  | .num i, v, u, hk, r => by
    have e : v = .int i := hk
    subst e
    obtain ⟨t, rfl⟩ : ∃ t, u = Value.int i t := r
    exact .int i t
  | .text _, v, u, hk, r => False.elim hk
  | .tup ks, v, u, hk, r => by
    obtain ⟨a, vs, e, h1, h2⟩ := hk
    subst e
    obtain rfl : u = Value.ref a := r
    obtain ⟨_, its, rv, o, e1, e2, n, e3⟩ := (show ObjOk P w H h a (.tup vs) from ok a _ h1)
    exact .tup e1 e2 e3 (by simpa using key_all ok ks vs its h2 rv)
theorem key_all {P : Program} {w : World} {H : Hp} {h : Heap} (ok : HOk P w H h) : ∀ (ks : List NestedKey) (vs : List V) (us : List Value), KeyAll H ks vs → Vals vs us → NestedAll h ks us
  | [], vs, us, hk, r => by
    have e : vs = [] := hk
    subst e
    cases r
    exact .nil
  | k :: ks, vs, us, hk, r => by
    obtain ⟨v, rr, e, h1, h2⟩ := hk
    subst e
    cases r with
    | cons r1 r2 => exact .cons (key_is ok k v _ h1 r1) (key_all ok ks rr _ h2 r2)
end
/-- .. that may stand by itself in a dict -/
structure KTop (H : Hp) (k : NestedKey) (v : V) : Prop where
  is : KeyH H k v
  dp : k.depth ≤ 8
  nt : (∃ i, k = .num i) ∨ ∃ ks, k = .tup ks
theorem KTop.mono {H H' : Hp} {k : NestedKey} {v : V} (x : KTop H k v) (ht : ∀ a xs, H a = some (.tup xs) → H' a = some (.tup xs)) : KTop H' k v := ⟨x.is.mono ht, x.dp, x.nt⟩
theorem KTop.key {P : Program} {w : World} {H : Hp} {h : Heap} {k : NestedKey} {v : V} {u : Value} (x : KTop H k v) (ok : HOk P w H h) (r : RelV v u) : IsKey h k u := by
  refine ⟨key_is ok k v u x.is r, x.dp, ?_⟩
  rcases x.nt with ⟨i, rfl⟩ | ⟨ks, rfl⟩
  · have e : v = .int i := x.is
    subst e
    obtain ⟨t, rfl⟩ : ∃ t, u = Value.int i t := r
    exact .inl ⟨i, t, rfl⟩
  · obtain ⟨a, vs, e, _⟩ := x.is
    subst e
    obtain rfl : u = Value.ref a := r
    exact .inr ⟨a, rfl⟩

abbrev XE := NestedKey × V × V
abbrev RX : List XE → List Ent → Prop := Paired fun p q => p.1 = q.1 ∧ RelV p.2.1 q.2.1 ∧ RelV p.2.2 q.2.2
def phiM (w : World) (d : Addr) (xs : List XE) : Heap → Prop := fun h => (d == sysModules) = false ∧ xs.length ≤ sizeLine ∧ (xs.map (·.1)).Nodup ∧ ∃ ents : List Ent, RX xs ents ∧
  ∃ o es ep, h.get? d = some o ∧ o.ExactDict ∧ o.data = .dict es ep ∧ es.toList = ents.map (entM w)
/-- at d stands a dict with these keys and values, in the order of insertion -/
def MAt (w : World) (H : Hp) (d : Addr) (kvs : List (NestedKey × V)) : Prop := ∃ xs : List XE, (xs.map fun x => (x.1, x.2.2)) = kvs ∧ H d = some (.ext (phiM w d xs)) ∧ ∀ x ∈ xs, KTop H x.1 x.2.1
theorem phiM_stays {w : World} {d : Addr} {xs : List XE} {h1 h2 : Heap} (p : phiM w d xs h1) (k : ∀ o, h1.get? d = some o → h2.get? d = some o) : phiM w d xs h2 := by
  obtain ⟨a, b, c, ents, r, o, es, ep, e, q⟩ := p
  exact ⟨a, b, c, ents, r, o, es, ep, k o e, q⟩
theorem phiM_ok {P : Program} {w : World} {H : Hp} {h : Heap} {d : Addr} {xs : List XE} (p : phiM w d xs h) : ObjOk P w H h d (.ext (phiM w d xs)) := by
  refine ⟨p, ?_, fun h1 h2 q k => phiM_stays q k⟩
  obtain ⟨a, b, c, ents, r, o, es, ep, e, q⟩ := p
  exact ⟨o, e⟩
theorem MAt.mono {w : World} {H H' : Hp} {d : Addr} {kvs : List (NestedKey × V)} (x : MAt w H d kvs) (ht : ∀ a xs, H a = some (.tup xs) → H' a = some (.tup xs)) (hd : ∀ o, H d = some o → H' d = some o) : MAt w H' d kvs := by
  obtain ⟨xs, e, h1, h2⟩ := x
  exact ⟨xs, e, hd _ h1, fun y hy => (h2 y hy).mono ht⟩
theorem MAt.mut {w : World} {H : Hp} {d : Addr} {kvs : List (NestedKey × V)} (x : MAt w H d kvs) : Mut (H d) := by
  obtain ⟨xs, e, h1, h2⟩ := x
  rw [h1]
  exact True.intro
theorem MAt.there {w : World} {H : Hp} {d : Addr} {kvs : List (NestedKey × V)} (x : MAt w H d kvs) : ∃ φ, H d = some (.ext φ) := by
  obtain ⟨xs, e, h1, h2⟩ := x
  exact ⟨_, h1⟩

theorem rx_val {xs : List XE} {ents : List Ent} (r : RX xs ents) (k : NestedKey) : RelO (valV (xs.map fun x => (x.1, x.2.2)) k) ((atM ents k).map (·.2)) := by
  induction r with
  | nil => exact True.intro
  | @cons p q ps qs h t ih =>
    obtain ⟨h1, _, h2⟩ := h
    by_cases e : p.1 = k
    · have e' : q.1 = k := h1.symm.trans e
      have b : atM (q :: qs) k = some q.2 := by simp [atM, List.find?_cons, e']
      rw [List.map_cons, valV_pos (p := (p.1, p.2.2)) e, b]; exact h2
    · have e' : ¬ q.1 = k := fun z => e (h1.trans z)
      have b : atM (q :: qs) k = atM qs k := by simp [atM, List.find?_cons, e']
      rw [List.map_cons, valV_neg (p := (p.1, p.2.2)) e, b]; exact ih
theorem rx_keys {xs : List XE} {ents : List Ent} (r : RX xs ents) : xs.map (·.1) = ents.map (·.1) := by
  induction r with
  | nil => rfl
  | cons h t ih => rw [List.map_cons, List.map_cons, ih, h.1]
theorem rx_repl {xs : List XE} {ents : List Ent} (r : RX xs ents) (k : NestedKey) {y : V} {u : Value} (ry : RelV y u) : RX (xs.map fun x => if x.1 = k then (x.1, x.2.1, y) else x) (ents.map (putM k u)) := by
  induction r with
  | nil => exact .nil
  | @cons p q ps qs h t ih =>
    rw [List.map_cons, List.map_cons]
    refine .cons ?_ ih
    obtain ⟨h1, h2, h3⟩ := h
    unfold putM
    by_cases e : p.1 = k
    · rw [if_pos e, if_pos (h1.symm.trans e)]; exact ⟨h1, h2, ry⟩
    · rw [if_neg e, if_neg (fun z => e (h1.trans z))]; exact ⟨h1, h2, h3⟩
/-- the entries behind a store -/
def putX (xs : List XE) (k : NestedKey) (kv v : V) : List XE := if (valV (xs.map fun x => (x.1, x.2.2)) k).isSome then xs.map fun x => if x.1 = k then (x.1, x.2.1, v) else x else xs ++ [(k, kv, v)]
theorem rx_put {xs : List XE} {ents : List Ent} (r : RX xs ents) (k : NestedKey) {kv v : V} {ku u : Value} (rk : RelV kv ku) (rv : RelV v u) : RX (putX xs k kv v) (storedM ents k ku u) := by
  have e := (rx_val r k).isSome_eq
  rw [Option.isSome_map] at e
  unfold putX storedM
  rw [e]
  by_cases q : (atM ents k).isSome = true
  · rw [if_pos q, if_pos q]; exact rx_repl r k rv
  · rw [if_neg q, if_neg q]; exact Paired.snoc r ⟨rfl, rk, rv⟩
theorem putX_pairs (xs : List XE) (k : NestedKey) (kv v : V) : (putX xs k kv v).map (fun x => (x.1, x.2.2)) = putK (xs.map fun x => (x.1, x.2.2)) k v := by
  unfold putX putK
  rw [valV_any]
  by_cases q : (valV (xs.map fun x => (x.1, x.2.2)) k).isSome = true
  · rw [if_pos q, if_pos q, List.map_map, List.map_map]
    refine List.map_congr_left fun x _ => ?_
    by_cases e : x.1 = k <;> simp [e]
  · rw [if_neg q, if_neg q]; simp
theorem putX_length (xs : List XE) (k : NestedKey) (kv v : V) : (putX xs k kv v).length ≤ xs.length + 1 := by
  unfold putX
  split <;> simp
theorem putX_top {H : Hp} {xs : List XE} {k : NestedKey} {kv v : V} (hx : ∀ x ∈ xs, KTop H x.1 x.2.1) (hk : KTop H k kv) : ∀ x ∈ putX xs k kv v, KTop H x.1 x.2.1 := by
  intro x h
  unfold putX at h
  split at h
  · obtain ⟨y, hy, rfl⟩ := List.mem_map.mp h
    by_cases e : y.1 = k
    · simp only [e, if_true]
      have := hx y hy
      rw [e] at this
      exact this
    · simp only [if_neg e]; exact hx y hy
  · rcases List.mem_append.mp h with h | h
    · exact hx x h
    · have : x = (k, kv, v) := by simpa using h
      subst this; exact hk

section
variable {X : Cx} {pins : List (Addr × Obj)} {σ : L2.St} {H : Hp} {s : Shared} {d : Addr} {kvs : List (NestedKey × V)} {k : NestedKey} {kv v : V} {ku u : Value} {A : Around} {E : Value → Shared → Prop}
theorem m_of (I : Inv X pins σ H s) (x : MAt X.w H d kvs) : ∃ (xs : List XE) (ents : List Ent), (xs.map fun x => (x.1, x.2.2)) = kvs ∧ H d = some (.ext (phiM X.w d xs)) ∧ (∀ x ∈ xs, KTop H x.1 x.2.1) ∧ RX xs ents ∧ DictM X.w s.heap d ents ∧ (d == sysModules) = false ∧ xs.length ≤ sizeLine ∧ ents.length = xs.length := by
  obtain ⟨xs, e, h1, h2⟩ := x
  obtain ⟨⟨a, b, c, ents, r, o, es, ep, e1, q1, q2, q3⟩, _, _⟩ := (show ObjOk X.prog X.w H s.heap d (.ext (phiM X.w d xs)) from I.hok d _ h1)
  refine ⟨xs, ents, e, h1, h2, r, ⟨o, es, ep, e1, q1, q2, q3, ?_, by rw [← rx_keys r]; exact c⟩, a, b, (Paired.length r).symm⟩
  have all : ∀ {l : List XE} {m : List Ent}, RX l m → (∀ x ∈ l, KTop H x.1 x.2.1) → ∀ x ∈ m, IsKey s.heap x.1 x.2.1 := by
    intro l m q
    induction q with
    | nil => intro _ x hx; cases hx
    | @cons p q ps qs hq t ih =>
      intro hl x hx
      rcases List.mem_cons.mp hx with e | hx
      · subst e
        rw [← hq.1]
        exact (hl p List.mem_cons_self).key I.hok hq.2.1
      · exact ih (fun y hy => hl y (List.mem_cons_of_mem _ hy)) x hx
  exact all r h2
theorem m_put {xs : List XE} {ents : List Ent} {h' : Heap} {tk : Nat} (I : Inv X pins σ H s) (he : (xs.map fun x => (x.1, x.2.2)) = kvs) (hd : H d = some (.ext (phiM X.w d xs))) (hx : ∀ x ∈ xs, KTop H x.1 x.2.1) (r : RX xs ents) (hs0 : (d == sysModules) = false) (hl : xs.length < sizeLine)
    (hk : KTop H k kv) (rk : RelV kv ku) (rv : RelV v u) (hm : DictM X.w h' d (storedM ents k ku u)) (hs : Heap.SameBut d s.heap h') :
    ∃ H', Inv X pins σ H' { s with heap := h', toks := tk } ∧ MAt X.w H' d (putK kvs k v) ∧ ∃ φ, H' = upd H d (.ext φ) := by
  obtain ⟨o, es, ep, e1, q1, q2, q3, q4, q5⟩ := hm
  have r' := rx_put r k rk rv
  have hp : phiM X.w d (putX xs k kv v) h' := ⟨hs0, by have := putX_length xs k kv v; omega, by rw [rx_keys r']; exact q5, _, r', o, es, ep, e1, q1, q2, q3⟩
  refine ⟨upd H d (.ext (phiM X.w d (putX xs k kv v))), I.write (x := d) (e := d) (by rw [hd]; exact True.intro) (.inl rfl) (fun b q hb z => (hs.2 b hb).trans z) ⟨o, e1⟩ (phiM_ok hp), ⟨putX xs k kv v, by rw [putX_pairs, he], upd_same, fun x hx' => ?_⟩, _, rfl⟩
  refine (putX_top hx hk x hx').mono fun a ys ha => ?_
  rw [upd_ne (ne_of ha hd (fun z => nomatch z))]
  exact ha

/-! by values -/
theorem m_get {Q : Value → Shared → Prop} (hu : A.units + 9 < cLine) (I : Inv X pins σ H s) (m : MAt X.w H d kvs) (hk : KTop H k kv) (rk : RelV kv ku) (hv : valV kvs k = some v) (h : ∀ w' s', Inv X pins σ H s' → RelV v w' → Q w' s') :
    wpAny (model X.prog X.w) A (getItem (.ref d) ku) Q E s := by
  obtain ⟨xs, ents, e1, e2, e3, r, hm, hs0, hl, hl2⟩ := m_of I m
  have rv := rx_val r k
  rw [e1, hv] at rv
  obtain ⟨w', hw, rw'⟩ := RelO.some_of rv
  obtain ⟨p, hp, hp2⟩ := Option.map_eq_some_iff.mp hw
  refine itemM hu (hk.key I.hok rk) hm hp ?_
  rw [hp2]
  exact h w' _ (I.tok _) rw'
theorem m_getOr {y : V} {yu : Value} {Q : Value → Shared → Prop} (hu : A.units + 9 < cLine) (I : Inv X pins σ H s) (m : MAt X.w H d kvs) (hk : KTop H k kv) (rk : RelV kv ku) (ry : RelV y yu) (h : ∀ w' s', Inv X pins σ H s' → RelV ((valV kvs k).getD y) w' → Q w' s') :
    wpAny (model X.prog X.w) A (call (.builtin "dict.get") [.ref d, ku, yu]) Q E s := by
  obtain ⟨xs, ents, e1, e2, e3, r, hm, hs0, hl, hl2⟩ := m_of I m
  have rv := rx_val r k
  rw [e1] at rv
  refine getOrM hu (hk.key I.hok rk) hs0 hm (h _ _ (I.tok _) ?_)
  cases q : valV kvs k with
  | none =>
    rw [q] at rv
    rw [RelO.none_of rv]; exact ry
  | some z =>
    rw [q] at rv
    obtain ⟨w', hw, rw'⟩ := RelO.some_of rv
    rw [hw]; exact rw'
theorem m_in {Q : Value → Shared → Prop} (hu : A.units + 9 < cLine) (I : Inv X pins σ H s) (m : MAt X.w H d kvs) (hk : KTop H k kv) (rk : RelV kv ku) (h : ∀ s', Inv X pins σ H s' → Q (.bool (valV kvs k).isSome) s') :
    wpAny (model X.prog X.w) A (compareOp .In ku (.ref d)) Q E s := by
  obtain ⟨xs, ents, e1, e2, e3, r, hm, hs0, hl, hl2⟩ := m_of I m
  have rv := (rx_val r k).isSome_eq
  rw [e1, Option.isSome_map] at rv
  show wpAny _ _ (do return .bool (← contains (.ref d) ku)) Q E s
  refine wpAny_bind (containsM hu (hk.key I.hok rk) hs0 hm (wpAny_pure ?_))
  rw [← rv]
  exact h _ (I.tok _)
theorem m_notIn {Q : Value → Shared → Prop} (hu : A.units + 9 < cLine) (I : Inv X pins σ H s) (m : MAt X.w H d kvs) (hk : KTop H k kv) (rk : RelV kv ku) (h : ∀ s', Inv X pins σ H s' → Q (.bool (!(valV kvs k).isSome)) s') :
    wpAny (model X.prog X.w) A (compareOp .NotIn ku (.ref d)) Q E s := by
  obtain ⟨xs, ents, e1, e2, e3, r, hm, hs0, hl, hl2⟩ := m_of I m
  have rv := (rx_val r k).isSome_eq
  rw [e1, Option.isSome_map] at rv
  show wpAny _ _ (do return .bool (!(← contains (.ref d) ku))) Q E s
  refine wpAny_bind (containsM hu (hk.key I.hok rk) hs0 hm (wpAny_pure ?_))
  rw [← rv]
  exact h _ (I.tok _)
theorem m_set {Q : Unit → Shared → Prop} (hu : A.units + 9 < cLine) (I : Inv X pins σ H s) (m : MAt X.w H d kvs) (hl : kvs.length < sizeLine) (hk : KTop H k kv) (rk : RelV kv ku) (rv : RelV v u)
    (h : ∀ H' s' φ, H' = upd H d (.ext φ) → MAt X.w H' d (putK kvs k v) → Inv X pins σ H' s' → Q () s') : wpAny (model X.prog X.w) A (setItem (.ref d) ku u) Q E s := by
  obtain ⟨xs, ents, e1, e2, e3, r, hm, hs0, hl1, hl2⟩ := m_of I m
  have hlx : xs.length < sizeLine := by rw [← e1, List.length_map] at hl; exact hl
  refine putItemM hu (hk.key I.hok rk) hm (fun h' hm' hs => ?_) (by omega)
  obtain ⟨H', I', m', φ, eφ⟩ := m_put (tk := s.toks + k.draws) I e1 e2 e3 r hs0 hlx hk rk rv hm' hs
  exact h H' _ φ eφ m' I'
theorem m_dset {Q : Unit → Shared → Prop} (hu : A.units + 9 < cLine) (I : Inv X pins σ H s) (m : MAt X.w H d kvs) (hl : kvs.length < sizeLine) (hk : KTop H k kv) (rk : RelV kv ku) (rv : RelV v u)
    (h : ∀ H' s' φ, H' = upd H d (.ext φ) → MAt X.w H' d (putK kvs k v) → Inv X pins σ H' s' → Q () s') : wpAny (model X.prog X.w) A (dictSet d ku u) Q E s := by
  obtain ⟨xs, ents, e1, e2, e3, r, hm, hs0, hl1, hl2⟩ := m_of I m
  have hlx : xs.length < sizeLine := by rw [← e1, List.length_map] at hl; exact hl
  refine setM (by omega) (hk.key I.hok rk) hm (fun h' hm' hs => ?_) (by omega)
  obtain ⟨H', I', m', φ, eφ⟩ := m_put (tk := s.toks + k.draws) I e1 e2 e3 r hs0 hlx hk rk rv hm' hs
  exact h H' _ φ eφ m' I'
theorem m_sdef {Q : Value → Shared → Prop} (hu : A.units + 9 < cLine) (I : Inv X pins σ H s) (m : MAt X.w H d kvs) (hl : kvs.length < sizeLine) (hk : KTop H k kv) (rk : RelV kv ku) (rv : RelV v u)
    (h1 : ∀ z w' s', valV kvs k = some z → Inv X pins σ H s' → RelV z w' → Q w' s')
    (h2 : ∀ H' s' φ, valV kvs k = none → H' = upd H d (.ext φ) → MAt X.w H' d (putK kvs k v) → Inv X pins σ H' s' → Q u s') : wpAny (model X.prog X.w) A (call (.builtin "dict.setdefault") [.ref d, ku, u]) Q E s := by
  obtain ⟨xs, ents, e1, e2, e3, r, hm, hs0, hl1, hl2⟩ := m_of I m
  have hlx : xs.length < sizeLine := by rw [← e1, List.length_map] at hl; exact hl
  have rvk := rx_val r k
  rw [e1] at rvk
  refine callSdefM hu (hk.key I.hok rk) hs0 hm (fun p hp => ?_) (fun hn h' hm' hs => ?_) (by omega)
  · cases q : valV kvs k with
    | none =>
      rw [q, hp] at rvk
      exact False.elim rvk
    | some z =>
      rw [q, hp] at rvk
      exact h1 z p.2 _ q (I.tok _) rvk
  · have q : valV kvs k = none := by
      cases q : valV kvs k with
      | none => rfl
      | some z =>
        rw [q, hn] at rvk
        exact False.elim rvk
    obtain ⟨H', I', m', φ, eφ⟩ := m_put (tk := s.toks + k.draws) I e1 e2 e3 r hs0 hlx hk rk rv hm' hs
    exact h2 H' _ φ q eφ m' I'
theorem m_new {tk : Nat} (I : Inv X pins σ H s) : ∃ φ, Inv X pins σ (upd H s.heap.objs.size (.ext φ)) { s with heap := s.heap.push { cls := .type "dict", data := .dict #[] }, toks := tk } ∧ MAt X.w (upd H s.heap.objs.size (.ext φ)) s.heap.objs.size [] := by
  have hp : phiM X.w s.heap.objs.size [] (s.heap.push { cls := .type "dict", data := .dict #[] }) :=
    ⟨beq_eq_false_iff_ne.mpr (Ne.symm (Nat.ne_of_lt I.big)), Nat.zero_le _, List.nodup_nil, [], .nil, _, #[], 0, Heap.get?_push_size _ rfl, ⟨rfl, rfl, rfl⟩, rfl, rfl⟩
  exact ⟨_, I.laid (fun _ _ q => Heap.get?_push_of_some _ q) (Nat.le_refl _) (phiM_ok hp), [], rfl, upd_same, fun x hx => by cases hx⟩
end
end MDict

set_option maxRecDepth 100000
set_option maxHeartbeats 4000000
namespace LX
open PySem PySem.Spec PyProof.Rows L2 MDict GxR

abbrev D := NestedKey

/-! ### growing heaps -/
structure Gx (H H' : Hp) : Prop where
  kp : ∀ a o, H a = some o → (∀ ps, o ≠ .tbl ps) → H' a = some o
  tb : ∀ a, TabG H a → TabG H' a
  dm : ∀ a, H' a = none → H a = none
theorem Gx.refl (H : Hp) : Gx H H := ⟨fun _ _ e _ => e, fun _ t => t, fun _ e => e⟩
theorem Gx.trans {H H1 H2 : Hp} (x : Gx H H1) (y : Gx H1 H2) : Gx H H2 := ⟨fun a o e n => y.kp a o (x.kp a o e n) n, fun a t => y.tb a (x.tb a t), fun a e => x.dm a (y.dm a e)⟩
theorem tabg_ne {H : Hp} {a p : Addr} (t : TabG H a) (h : H p = none) : a ≠ p := fun e => by
  obtain ⟨ps, e1, _⟩ := t
  rw [e, h] at e1
  cases e1
theorem Gx.mut {H H' : Hp} {p : Addr} {o : HO} (e : Gx H H') (h : H p = none) : Gx H (upd H' p o) := by
  refine ⟨fun a u ha n => ?_, fun a t => ?_, fun a ha => ?_⟩
  · rw [upd_ne (ne_of_none ha h)]
    exact e.kp a u ha n
  · obtain ⟨ps, e1, e2⟩ := e.tb a t
    exact ⟨ps, by rw [upd_ne (tabg_ne t h)]; exact e1, e2⟩
  · by_cases z : a = p
    · rw [z]; exact h
    · rw [upd_ne z] at ha
      exact e.dm a ha
theorem Gx.new {H : Hp} {p : Addr} {o : HO} (h : H p = none) : Gx H (upd H p o) := (Gx.refl H).mut h
theorem Gx.tab {H H' : Hp} {P : Addr} (t : TabG H P) (h : Tabbed P H H') : Gx H H' := by
  obtain ⟨h1, h2⟩ := h
  refine ⟨fun a o e n => ?_, fun a u => ?_, fun a e => ?_⟩
  · have z : a ≠ P := fun z => by
      obtain ⟨ps, e1, _⟩ := t
      rw [z, e1] at e
      exact n ps (Option.some.inj e).symm
    rw [h2 a z]; exact e
  · by_cases z : a = P
    · rw [z]; exact h1
    · obtain ⟨ps, e1, e2⟩ := u
      exact ⟨ps, by rw [h2 a z]; exact e1, e2⟩
  · have z : a ≠ P := fun z => by
      obtain ⟨ps, e1, _⟩ := h1
      rw [z, e1] at e
      cases e
    rw [h2 a z] at e
    exact e
theorem Gx.tup {H H' : Hp} (e : Gx H H') : ∀ a xs, H a = some (.tup xs) → H' a = some (.tup xs) := fun a xs h => e.kp a _ h fun _ z => by cases z
theorem Gx.rd {H H' : Hp} {a : Addr} {u : HO} (e : Gx H H') (n : ∀ ps, u ≠ .tbl ps) (h : Rd H a u) : Rd H' a u := by
  rcases h with h | ⟨o, h⟩
  · exact .inl (e.kp a _ h n)
  · exact .inr ⟨o, e.kp a _ h fun _ z => by cases z⟩
theorem Gx.sl {K : PySem.W.Frag} {H H' : Hp} {a : Addr} {xs : List V} (e : Gx H H') (h : SqL K H a xs) : SqL K H' a xs := by
  rcases h with h | h
  · exact .inl (e.rd (fun _ z => by cases z) h)
  · exact .inr h
theorem Gx.st {K : PySem.W.Frag} {H H' : Hp} {a : Addr} {xs : List V} (e : Gx H H') (h : SqT K H a xs) : SqT K H' a xs := by
  rcases h with h | h
  · exact .inl (e.rd (fun _ z => by cases z) h)
  · exact .inr h
theorem Gx.map {w : World} {H H' : Hp} {d : Addr} {kvs : List (NestedKey × V)} (e : Gx H H') (x : MAt w H d kvs) : MAt w H' d kvs := by
  obtain ⟨φ, h⟩ := x.there
  refine x.mono e.tup fun o ho => ?_
  rw [h] at ho
  cases ho
  exact e.kp d _ h fun _ z => by cases z

/-! ### what a value is -/
class Mono (P : V → Hp → Prop) : Prop where
  mono : ∀ {H H' : Hp} {v : V}, Gx H H' → P v H → P v H'
abbrev PD (d : D) : V → Hp → Prop := fun v H => KeyH H d v
abbrev PV (x : V) : V → Hp → Prop := fun v _ => v = x
abbrev PB (b : Bool) : V → Hp → Prop := fun v _ => v = .bl b
/-- a list of data -/
def PL (ds : List D) : V → Hp → Prop := fun v H => ∃ l vs, v = .ref l ∧ H l = some (.lst vs) ∧ KeyAll H ds vs
/-- a value known as it is, with what is true of it -/
instance (d : D) : Mono (PD d) := ⟨fun e h => KeyH.mono e.tup d _ h⟩
instance (x : V) : Mono (PV x) := ⟨fun _ h => h⟩
instance (ds : List D) : Mono (PL ds) := ⟨fun e ⟨l, vs, e1, e2, e3⟩ => ⟨l, vs, e1, e.kp l _ e2 (fun _ z => by cases z), KeyAll.mono e.tup ds vs e3⟩⟩
theorem mono_all {ds : List D} {vs : List V} {H H' : Hp} (e : Gx H H') (h : KeyAll H ds vs) : KeyAll H' ds vs := KeyAll.mono e.tup ds vs h
theorem mono_d {d : D} {v : V} {H H' : Hp} (e : Gx H H') (h : KeyH H d v) : KeyH H' d v := KeyH.mono e.tup d v h

theorem ka_len {H : Hp} : ∀ {ds : List D} {vs : List V}, KeyAll H ds vs → vs.length = ds.length
  | [], _, h => by cases h; rfl
  | d :: ds, _, h => by obtain ⟨v, r, rfl, _, h2⟩ := h; simp [ka_len h2]
theorem ka_get {H : Hp} : ∀ {ds : List D} {vs : List V} {i : Nat} {d : D}, KeyAll H ds vs → ds[i]? = some d → ∃ v, vs[i]? = some v ∧ KeyH H d v
  | [], _, i, d, h, e => by simp at e
  | d0 :: ds, _, 0, d, h, e => by
    obtain ⟨v, r, rfl, h1, h2⟩ := h
    simp at e; subst e
    exact ⟨v, rfl, h1⟩
  | d0 :: ds, _, i + 1, d, h, e => by
    obtain ⟨v, r, rfl, h1, h2⟩ := h
    obtain ⟨u, e1, e2⟩ := ka_get (i := i) (d := d) h2 (by simpa using e)
    exact ⟨u, by simpa using e1, e2⟩
theorem ka_get' {H : Hp} : ∀ {ds : List D} {vs : List V} {i : Nat} {v : V}, KeyAll H ds vs → vs[i]? = some v → ∃ d, ds[i]? = some d ∧ KeyH H d v
  | [], _, i, d, h, e => by cases h; simp at e
  | d0 :: ds, _, 0, d, h, e => by
    obtain ⟨v, r, rfl, h1, h2⟩ := h
    simp at e; subst e
    exact ⟨d0, rfl, h1⟩
  | d0 :: ds, _, i + 1, d, h, e => by
    obtain ⟨v, r, rfl, h1, h2⟩ := h
    obtain ⟨u, e1, e2⟩ := ka_get' (i := i) (v := d) h2 (by simpa using e)
    exact ⟨u, by simpa using e1, e2⟩
theorem ka_at {H : Hp} {ds : List D} {vs : List V} {i : Int} {d : D} (h : KeyAll H ds vs) (e : atI ds i = some d) : ∃ v, atI vs i = some v ∧ KeyH H d v := by
  unfold atI at e ⊢
  rw [ka_len h]
  cases z : ixN ds.length i with
  | none => rw [z] at e; cases e
  | some j =>
    rw [z] at e
    exact ka_get h e
theorem ka_app {H : Hp} : ∀ {ds es : List D} {vs us : List V}, KeyAll H ds vs → KeyAll H es us → KeyAll H (ds ++ es) (vs ++ us)
  | [], _, _, _, h, h' => by cases h; exact h'
  | d :: ds, _, _, _, h, h' => by
    obtain ⟨v, r, rfl, h1, h2⟩ := h
    exact ⟨v, _, rfl, h1, ka_app h2 h'⟩
theorem ka_drop {H : Hp} : ∀ {ds : List D} {vs : List V} (n : Nat), KeyAll H ds vs → KeyAll H (ds.drop n) (vs.drop n)
  | _, _, 0, h => h
  | [], _, n + 1, h => by cases h; rfl
  | d :: ds, _, n + 1, h => by
    obtain ⟨v, r, rfl, h1, h2⟩ := h
    exact ka_drop n h2
theorem ka_take {H : Hp} : ∀ {ds : List D} {vs : List V} (n : Nat), KeyAll H ds vs → KeyAll H (ds.take n) (vs.take n)
  | _, _, 0, h => rfl
  | [], _, n + 1, h => by cases h; rfl
  | d :: ds, _, n + 1, h => by
    obtain ⟨v, r, rfl, h1, h2⟩ := h
    exact ⟨v, _, rfl, h1, ka_take n h2⟩
theorem ka_one {H : Hp} {d : D} {v : V} (h : KeyH H d v) : KeyAll H [d] [v] := ⟨v, [], rfl, h, rfl⟩
theorem ka_dropLast {H : Hp} {ds : List D} {vs : List V} (h : KeyAll H ds vs) : KeyAll H ds.dropLast vs.dropLast := by
  rw [List.dropLast_eq_take, List.dropLast_eq_take, ka_len h]
  exact ka_take _ h
theorem ka_nums {H : Hp} : ∀ (is : List Int), KeyAll H (is.map NestedKey.num) (is.map V.int)
  | [] => rfl
  | i :: is => ⟨_, _, rfl, rfl, ka_nums is⟩
theorem ka_nums_eq {H : Hp} : ∀ {is : List Int} {vs : List V}, KeyAll H (is.map NestedKey.num) vs → vs = is.map V.int
  | [], _, h => h
  | i :: is, _, h => by
    obtain ⟨v, r, rfl, h1, h2⟩ := h
    rw [show v = .int i from h1, ka_nums_eq h2]
    rfl

/-! ### what evaluates to what -/
def Ev (te : TE) (σ : L2.St) (H : Hp) (P : V → Hp → Prop) : Prop := ∀ H1, Gx H H1 → ∀ Q : VK, (∀ v H2, Gx H1 H2 → P v H2 → Q v H2) → te σ H1 Q
/-- a new list of data -/
def EvL (te : TE) (σ : L2.St) (H : Hp) (ds : List D) : Prop := ∀ H1, Gx H H1 → ∀ Q : VK, (∀ p vs H2, H1 p = none → Gx H1 H2 → H2 p = some (.lst vs) → KeyAll H2 ds vs → Q (.ref p) H2) → te σ H1 Q
def EvT (tt : TT) (σ : L2.St) (H : Hp) (b : Bool) : Prop := ∀ H1, Gx H H1 → ∀ Q : Bool → Hp → Prop, (∀ H2, Gx H1 H2 → Q b H2) → tt σ H1 Q
/-- arguments -/
def PsA : List (V → Hp → Prop) → List V → Hp → Prop
  | [], vs, _ => vs = []
  | P :: Ps, vs, H => ∃ v r, vs = v :: r ∧ P v H ∧ PsA Ps r H
def EvA (ta : TA) (σ : L2.St) (H : Hp) (Ps : List (V → Hp → Prop)) : Prop := ∀ H1, Gx H H1 → ∀ Q : List V → Hp → Prop, (∀ vs H2, Gx H1 H2 → PsA Ps vs H2 → Q vs H2) → ta σ H1 Q
def EvO (to : TO) (σ : L2.St) (H : Hp) (o : Option Int) : Prop := ∀ H1, Gx H H1 → ∀ Q : Option Int → Hp → Prop, (∀ H2, Gx H1 H2 → Q o H2) → to σ H1 Q

section
variable {K : PySem.W.Frag} {σ : L2.St} {H H' : Hp} {ta tb te : TE} {t u : TT} {P R S : V → Hp → Prop}
theorem Ev.mono (e : Gx H H') (h : Ev te σ H P) : Ev te σ H' P := fun H1 a Q q => h H1 (e.trans a) Q q
theorem EvL.mono {ds : List D} (e : Gx H H') (h : EvL te σ H ds) : EvL te σ H' ds := fun H1 a Q q => h H1 (e.trans a) Q q
theorem EvT.mono {b : Bool} (e : Gx H H') (h : EvT t σ H b) : EvT t σ H' b := fun H1 a Q q => h H1 (e.trans a) Q q
theorem EvA.mono {ta : TA} {Ps} (e : Gx H H') (h : EvA ta σ H Ps) : EvA ta σ H' Ps := fun H1 a Q q => h H1 (e.trans a) Q q
theorem Ev.imp (h : Ev te σ H P) (k : ∀ v H', P v H' → R v H') : Ev te σ H R := fun H1 e Q q => h H1 e Q fun v H2 e2 p => q v H2 e2 (k v H2 p)
theorem EvL.ev {ds : List D} (h : EvL te σ H ds) : Ev te σ H (PL ds) := fun H1 e Q q => h H1 e Q fun p vs H2 _ e2 h2 h3 => q _ H2 e2 ⟨p, vs, rfl, h2, h3⟩
theorem ev_var [Mono P] {i : Nat} {v : V} (h : P v H) (hi : σ[i]? = some (some v)) : Ev (tVar i) σ H P := fun H1 e Q q => ⟨v, hi, q v H1 (Gx.refl H1) (Mono.mono e h)⟩
theorem ev_c {v : V} : Ev (tC v) σ H (PV v) := fun H1 _ _ q => q v H1 (Gx.refl H1) rfl
theorem ev_int {i : Int} : Ev (tC (.int i)) σ H (PD (.num i)) := fun H1 _ _ q => q _ H1 (Gx.refl H1) rfl
theorem ev_non : Ev (tC .non) σ H (PD .none) := fun H1 _ _ q => q _ H1 (Gx.refl H1) rfl
theorem ev_bl {b : Bool} : Ev (tC (.bl b)) σ H (PB b) := fun H1 _ _ q => q _ H1 (Gx.refl H1) rfl
/-- two operands -/
theorem ev_op2 [Mono P] {r : R2} (ha : Ev ta σ H P) (hb : Ev tb σ H R) (hr : ∀ x y H1, Gx H H1 → P x H1 → R y H1 → ∀ Q : VK, (∀ v H2, Gx H1 H2 → S v H2 → Q v H2) → r x y H1 Q) : Ev (tOp r ta tb) σ H S := fun H1 e Q q =>
  ha H1 e _ fun x H2 e2 hx => hb H2 (e.trans e2) _ fun y H3 e3 hy => hr x y H3 ((e.trans e2).trans e3) (Mono.mono e3 hx) hy Q fun v H4 e4 hv => q v H4 ((e2.trans e3).trans e4) hv
theorem ev_ixT {ds : List D} {i : Int} {d : D} (ha : Ev ta σ H (PD (.tup ds))) (hb : Ev tb σ H (PD (.num i))) (h : atI ds i = some d) : Ev (tOp (rIxT K) ta tb) σ H (PD d) :=
  ev_op2 ha hb fun x y H1 _ hx hy Q q => by
    obtain ⟨a, vs, rfl, h1, h2⟩ := hx
    obtain ⟨v, e1, e2⟩ := ka_at h2 h
    exact ⟨a, vs, i, v, rfl, hy, SqT.of h1, e1, q v H1 (Gx.refl H1) e2⟩
instance (ds : List D) : Mono (PL ds) := inferInstance
theorem ev_ixL {ds : List D} {i : Int} {d : D} (ha : Ev ta σ H (PL ds)) (hb : Ev tb σ H (PD (.num i))) (h : atI ds i = some d) : Ev (tOp (rIxL K) ta tb) σ H (PD d) :=
  ev_op2 ha hb fun x y H1 _ hx hy Q q => by
    obtain ⟨a, vs, rfl, h1, h2⟩ := hx
    obtain ⟨v, e1, e2⟩ := ka_at h2 h
    exact ⟨a, vs, i, v, rfl, hy, SqL.of h1, e1, q v H1 (Gx.refl H1) e2⟩
/-- ints -/
theorem ev_I0 {g : Int → Int → V} {i j : Int} {P' : V → Hp → Prop} (ha : Ev ta σ H (PD (.num i))) (hb : Ev tb σ H (PD (.num j))) (hp : ∀ H, P' (g i j) H) : Ev (tOp (rI0 g) ta tb) σ H P' :=
  ev_op2 ha hb fun x y H1 _ hx hy Q q => ⟨i, j, hx, hy, q _ H1 (Gx.refl H1) (hp H1)⟩
theorem ev_I {C : Int → Int → Prop} {g : Int → Int → V} {i j : Int} {P' : V → Hp → Prop} (ha : Ev ta σ H (PD (.num i))) (hb : Ev tb σ H (PD (.num j))) (hc : C i j) (hp : ∀ H, P' (g i j) H) : Ev (tOp (rI C g) ta tb) σ H P' :=
  ev_op2 ha hb fun x y H1 _ hx hy Q q => ⟨i, j, hx, hy, hc, q _ H1 (Gx.refl H1) (hp H1)⟩
/-- tuple + tuple -/
theorem ev_catA {ds es : List D} (ha : Ev ta σ H (PD (.tup ds))) (hb : Ev tb σ H (PD (.tup es))) (hz : ds.length + es.length ≤ 100000) : Ev (tOp (rCatA K) ta tb) σ H (PD (.tup (ds ++ es))) :=
  ev_op2 ha hb fun x y H1 _ hx hy Q q => by
    obtain ⟨a, vs, rfl, h1, h2⟩ := hx
    obtain ⟨b, us, rfl, h3, h4⟩ := hy
    refine ⟨a, b, vs, us, rfl, rfl, SqT.of h1, SqT.of h3, by rw [ka_len h2, ka_len h4, sizeLine_eq]; omega, fun z => ?_, fun z z' => ?_, fun z z' p hp => ?_⟩
    · subst z
      have e : ds = [] := List.eq_nil_of_length_eq_zero (by rw [← ka_len h2]; rfl)
      subst e
      exact q _ H1 (Gx.refl H1) ⟨b, us, rfl, h3, h4⟩
    · subst z'
      have e : es = [] := List.eq_nil_of_length_eq_zero (by rw [← ka_len h4]; rfl)
      subst e
      rw [List.append_nil]  at q
      exact q _ H1 (Gx.refl H1) ⟨a, vs, rfl, h1, h2⟩
    · have e := Gx.new (o := .tup (vs ++ us)) hp
      exact q _ _ e ⟨p, vs ++ us, rfl, upd_same, ka_app (mono_all e h2) (mono_all e h4)⟩
theorem eo_none : EvO tNoPart σ H none := fun H1 _ _ q => q H1 (Gx.refl H1)
theorem eo_some {i : Int} (h : Ev te σ H (PD (.num i))) : EvO (tPart te) σ H (some i) := fun H1 e Q q => h H1 e _ fun v H2 e2 hv => ⟨i, hv, q H2 e2⟩
/-- slices -/
def cutD (ds : List D) (lo hi : Option Int) : List D := (ds.drop (HT.sIx ds.length 0 lo)).take (HT.sIx ds.length ds.length hi - HT.sIx ds.length 0 lo)
theorem ka_cut {ds : List D} {vs : List V} (lo hi : Option Int) (h : KeyAll H ds vs) : KeyAll H (cutD ds lo hi) (cutV vs lo hi) := by
  unfold cutD cutV
  rw [ka_len h]
  exact ka_take _ (ka_drop _ h)
theorem ev_slA {ds es : List D} {lo hi : Option Int} {tl th : TO} (ha : Ev te σ H (PD (.tup ds))) (hl : EvO tl σ H lo) (hh : EvO th σ H hi) (he : cutD ds lo hi = es) : Ev (tSl (rSlA K) te tl th) σ H (PD (.tup es)) := fun H1 e Q q =>
  ha H1 e _ fun x H2 e2 hx => hl H2 (e.trans e2) _ fun H3 e3 => hh H3 ((e.trans e2).trans e3) _ fun H4 e4 => by
    subst he
    obtain ⟨a, vs, rfl, h1, h2⟩ := mono_d (e3.trans e4) hx
    refine ⟨a, vs, rfl, SqT.of h1, fun z => ?_, fun z p hp => ?_⟩
    · refine q _ H4 ((e2.trans e3).trans e4) ⟨a, vs, rfl, h1, ?_⟩
      have c := ka_cut lo hi h2
      have ev : cutV vs lo hi = vs := by
        unfold cutV
        rw [z.1, z.2, List.drop_zero, Nat.sub_zero, List.take_length]
      rw [ev] at c
      exact c
    · have g := Gx.new (o := .tup (cutV vs lo hi)) hp
      exact q _ _ (((e2.trans e3).trans e4).trans g) ⟨p, _, rfl, upd_same, ka_cut lo hi (mono_all g h2)⟩
/-- arguments -/
theorem ea_nil : EvA tNil σ H [] := fun H1 _ _ q => q [] H1 (Gx.refl H1) rfl
theorem ea_cons {tr : TA} {Ps} [Mono P] (h : Ev ta σ H P) (hr : EvA tr σ H Ps) : EvA (tCons ta tr) σ H (P :: Ps) := fun H1 e Q q =>
  h H1 e _ fun v H2 e2 hv => hr H2 (e.trans e2) _ fun vs H3 e3 hvs => q _ H3 (e2.trans e3) ⟨v, vs, rfl, Mono.mono e3 hv, hvs⟩
theorem psa_all : ∀ {ds : List D} {vs : List V} {H : Hp}, PsA (ds.map fun d => PD d) vs H → KeyAll H ds vs
  | [], _, _, h => h
  | d :: ds, _, _, h => by
    obtain ⟨v, r, e, h1, h2⟩ := h
    exact ⟨v, r, e, h1, psa_all h2⟩
theorem ev_tup {ta : TA} {ds : List D} (h : EvA ta σ H (ds.map fun d => PD d)) (hz : ds.length ≤ 100000) : Ev (tTup ta) σ H (PD (.tup ds)) := fun H1 e Q q =>
  h H1 e _ fun vs H2 e2 hv => by
    have hv := psa_all hv
    refine ⟨by rw [ka_len hv, sizeLine_eq]; omega, fun p hp => ?_⟩
    have g := Gx.new (o := .tup vs) hp
    exact q _ _ (e2.trans g) ⟨p, vs, rfl, upd_same, mono_all g hv⟩
theorem el_lst {ta : TA} {ds : List D} (h : EvA ta σ H (ds.map fun d => PD d)) (hz : ds.length ≤ 100000) : EvL (tLst ta) σ H ds := fun H1 e Q q =>
  h H1 e _ fun vs H2 e2 hv => by
    have hv := psa_all hv
    refine ⟨by rw [ka_len hv, sizeLine_eq]; omega, fun p hp => ?_⟩
    have g := Gx.new (o := .lst vs) hp
    exact q _ _ _ (e2.dm p hp) (e2.trans g) upd_same (mono_all g hv)
/-- tests -/
theorem et_test {b : Bool} (h : Ev te σ H (PB b)) : EvT (tTest te) σ H b := fun H1 e _ q => h H1 e _ fun v H2 e2 hv => ⟨b, hv, q H2 e2⟩
theorem et_B {b : Bool} (h : Ev te σ H (PB b)) : EvT (tB te) σ H b := fun H1 e _ q => h H1 e _ fun v H2 e2 hv => ⟨b, hv, q H2 e2⟩
theorem et_and {a b : Bool} (h1 : EvT t σ H a) (h2 : a = true → EvT u σ H b) : EvT (tAnd t u) σ H (a && b) := fun H1 e Q q => h1 H1 e _ fun H2 e2 => by
  cases a with
  | true => exact h2 rfl H2 (e.trans e2) Q fun H3 e3 => q H3 (e2.trans e3)
  | false => exact q H2 e2
theorem et_or {a b : Bool} (h1 : EvT t σ H a) (h2 : a = false → EvT u σ H b) : EvT (tOr t u) σ H (a || b) := fun H1 e Q q => h1 H1 e _ fun H2 e2 => by
  cases a with
  | true => exact q H2 e2
  | false => exact h2 rfl H2 (e.trans e2) Q fun H3 e3 => q H3 (e2.trans e3)
theorem et_not {a : Bool} (h1 : EvT t σ H a) : EvT (tNot t) σ H (!a) := fun H1 e _ q => h1 H1 e _ fun H2 e2 => q H2 e2
theorem et_is {a b : Bool} (h : EvT t σ H a) (e : a = b) : EvT t σ H b := e ▸ h
theorem ev_isB {a b : Bool} (h : Ev te σ H (PB a)) (e : a = b) : Ev te σ H (PB b) := e ▸ h
theorem ev_isD {a b : D} (h : Ev te σ H (PD a)) (e : a = b) : Ev te σ H (PD b) := e ▸ h
theorem ev_andV {a b : Bool} (h1 : Ev ta σ H (PB a)) (h2 : a = true → Ev tb σ H (PB b)) : Ev (tAndV ta tb) σ H (PB (a && b)) := fun H1 e Q q => h1 H1 e _ fun v H2 e2 hv => ⟨a, hv, by
  cases a with
  | true => exact h2 rfl H2 (e.trans e2) Q fun v H3 e3 hv => q v H3 (e2.trans e3) hv
  | false => exact q _ H2 e2 rfl⟩
theorem ev_orV {a b : Bool} (h1 : Ev ta σ H (PB a)) (h2 : a = false → Ev tb σ H (PB b)) : Ev (tOrV ta tb) σ H (PB (a || b)) := fun H1 e Q q => h1 H1 e _ fun v H2 e2 hv => ⟨a, hv, by
  cases a with
  | true => exact q _ H2 e2 rfl
  | false => exact h2 rfl H2 (e.trans e2) Q fun v H3 e3 hv => q v H3 (e2.trans e3) hv⟩
theorem ev_notV {a : Bool} (h1 : Ev ta σ H (PB a)) : Ev (tNotV ta) σ H (PB (!a)) := fun H1 e Q q => h1 H1 e _ fun v H2 e2 hv => ⟨a, hv, q _ H2 e2 rfl⟩
theorem ev_if {b : Bool} (h : EvT t σ H b) (h1 : b = true → Ev ta σ H P) (h2 : b = false → Ev tb σ H P) : Ev (tIf t ta tb) σ H P := fun H1 e Q q => h H1 e _ fun H2 e2 => by
  cases b with
  | true => exact h1 rfl H2 (e.trans e2) Q fun v H3 e3 hv => q v H3 (e2.trans e3) hv
  | false => exact h2 rfl H2 (e.trans e2) Q fun v H3 e3 hv => q v H3 (e2.trans e3) hv
end
end LX

set_option maxRecDepth 100000
set_option maxHeartbeats 4000000
namespace LX
open PySem PySem.Spec PyProof.Rows L2 MDict GxR GQ

/-! ### == and in -/
mutual
theorem dp_of {K : PySem.W.Frag} {H : Hp} : ∀ (k : D) (v : V), KeyH H k v → Dp K H v k.data
  | .none, v, h => by cases (show v = .non from h); exact .non
  | .num i, v, h => by cases (show v = .int i from h); exact .int i
  | .text _, v, h => False.elim h
  | .tup ks, v, h => by
    obtain ⟨a, vs, rfl, h1, h2⟩ := h
    exact .tup (SqT.of h1) (dpa_of ks vs h2)
theorem dpa_of {K : PySem.W.Frag} {H : Hp} : ∀ (ks : List D) (vs : List V), KeyAll H ks vs → DpAll K H vs (NestedKey.datas ks)
  | [], vs, h => by cases (show vs = [] from h); exact .nil
  | k :: ks, vs, h => by
    obtain ⟨v, r, rfl, h1, h2⟩ := h
    exact .cons (dp_of k v h1) (dpa_of ks r h2)
end
mutual
theorem eqv_data : ∀ (a b : D), PyData.eqv a.data b.data = NestedKey.beq a b
  | .none, .none => by simp [NestedKey.data, PyData.eqv, NestedKey.beq]
  | .none, .num _ => by simp [NestedKey.data, PyData.eqv, NestedKey.beq]
  | .none, .text _ => by simp [NestedKey.data, PyData.eqv, NestedKey.beq]
  | .none, .tup _ => by simp [NestedKey.data, PyData.eqv, NestedKey.beq]
  | .num _, .none => by simp [NestedKey.data, PyData.eqv, NestedKey.beq]
  | .num a, .num b => by
    simp only [NestedKey.data, PyData.eqv, NestedKey.beq]
    exact Bool.beq_eq_decide_eq a b
  | .num _, .text _ => by simp [NestedKey.data, PyData.eqv, NestedKey.beq]
  | .num _, .tup _ => by simp [NestedKey.data, PyData.eqv, NestedKey.beq]
  | .text _, .none => by simp [NestedKey.data, PyData.eqv, NestedKey.beq]
  | .text _, .num _ => by simp [NestedKey.data, PyData.eqv, NestedKey.beq]
  | .text a, .text b => by
    simp only [NestedKey.data, PyData.eqv, NestedKey.beq]
    exact L2.dec_str ▸ decide_eq_decide.mpr ⟨fun e => V.str.inj e, fun e => by rw [e]⟩
  | .text _, .tup _ => by simp [NestedKey.data, PyData.eqv, NestedKey.beq]
  | .tup _, .none => by simp [NestedKey.data, PyData.eqv, NestedKey.beq]
  | .tup _, .num _ => by simp [NestedKey.data, PyData.eqv, NestedKey.beq]
  | .tup _, .text _ => by simp [NestedKey.data, PyData.eqv, NestedKey.beq]
  | .tup a, .tup b => by
    simp only [NestedKey.data, PyData.eqv, NestedKey.beq]
    exact eqvs_data a b
theorem eqvs_data : ∀ (a b : List D), PyData.eqvAll (NestedKey.datas a) (NestedKey.datas b) = NestedKey.beqAll a b
  | [], [] => by simp [NestedKey.datas, PyData.eqvAll, NestedKey.beqAll]
  | [], _ :: _ => by simp [NestedKey.datas, PyData.eqvAll, NestedKey.beqAll]
  | _ :: _, [] => by simp [NestedKey.datas, PyData.eqvAll, NestedKey.beqAll]
  | a :: as, b :: bs => by
    simp only [NestedKey.datas, PyData.eqvAll, NestedKey.beqAll]
    rw [eqv_data a b, eqvs_data as bs]
end
theorem eqv_dec (a b : D) : PyData.eqv a.data b.data = decide (a = b) := by rw [eqv_data, NestedKey.decide_eq]
mutual
/-- no text within -/
def noTx : D → Bool
  | .text _ => false
  | .tup ks => noTxs ks
  | _ => true
def noTxs : List D → Bool
  | [] => true
  | k :: ks => noTx k && noTxs ks
end
mutual
theorem notx_of {H : Hp} : ∀ (k : D) (v : V), KeyH H k v → noTx k = true
  | .none, v, h => rfl
  | .num i, v, h => rfl
  | .text _, v, h => False.elim h
  | .tup ks, v, h => by
    obtain ⟨a, vs, rfl, h1, h2⟩ := h
    simp only [noTx]
    exact notxs_of ks vs h2
theorem notxs_of {H : Hp} : ∀ (ks : List D) (vs : List V), KeyAll H ks vs → noTxs ks = true
  | [], vs, h => rfl
  | k :: ks, vs, h => by
    obtain ⟨v, r, rfl, h1, h2⟩ := h
    simp only [noTxs, notx_of k v h1, notxs_of ks r h2, Bool.and_self]
end
mutual
theorem lay_of : ∀ (k : D), noTx k = true → k.data.canLay0 = true
  | .none, h => rfl
  | .num i, h => rfl
  | .text _, h => by simp [noTx] at h
  | .tup ks, h => by
    simp only [noTx] at h
    simp only [NestedKey.data, PyData.canLay0]
    exact lays_of ks h
theorem lays_of : ∀ (ks : List D), noTxs ks = true → PyData.canLayAll0 (NestedKey.datas ks) = true
  | [], h => rfl
  | k :: ks, h => by
    simp only [noTxs, Bool.and_eq_true] at h
    simp only [NestedKey.datas, PyData.canLayAll0, lay_of k h.1, lays_of ks h.2, Bool.and_self]
end
mutual
theorem dep_of : ∀ (k : D), k.data.depth = k.depth
  | .none => rfl
  | .num i => rfl
  | .text _ => rfl
  | .tup ks => by
    simp only [NestedKey.data, PyData.depth, NestedKey.depth]
    rw [deps_of ks]
theorem deps_of : ∀ (ks : List D), PyData.depthAll (NestedKey.datas ks) = NestedKey.depthAll ks
  | [] => rfl
  | k :: ks => by
    simp only [NestedKey.datas, PyData.depthAll, NestedKey.depthAll]
    rw [dep_of k, deps_of ks]
end
theorem shaped_of {k : D} (h : noTx k = true) (hd : k.depth ≤ 60) : SeqAt.shaped k.data = true := by
  unfold SeqAt.shaped
  rw [lay_of k h, dep_of, Bool.true_and]
  exact decide_eq_true (by omega)
theorem depths_le {ks : List D} : ∀ {n : Nat}, (∀ k ∈ ks, k.depth ≤ n) → NestedKey.depthAll ks ≤ n := by
  induction ks with
  | nil => intro n _; exact Nat.zero_le _
  | cons k ks ih =>
    intro n h
    simp only [NestedKey.depthAll]
    exact Nat.max_le.mpr ⟨h k List.mem_cons_self, ih fun k' hk => h k' (List.mem_cons_of_mem _ hk)⟩
theorem le_depths {ks : List D} {k : D} (h : k ∈ ks) : k.depth ≤ NestedKey.depthAll ks := by
  induction ks with
  | nil => cases h
  | cons k' ks ih =>
    simp only [NestedKey.depthAll]
    rcases List.mem_cons.mp h with rfl | h
    · exact Nat.le_max_left _ _
    · exact Nat.le_trans (ih h) (Nat.le_max_right _ _)
theorem datas_map : ∀ (ks : List D), NestedKey.datas ks = ks.map NestedKey.data
  | [] => rfl
  | k :: ks => by simp only [NestedKey.datas, List.map_cons, datas_map ks]

section
variable {K : PySem.W.Frag} {σ : L2.St} {H H' : Hp} {ta tb te : TE} {t u : TT} {P R S : V → Hp → Prop}
theorem ev_eqD {k l : D} (ha : Ev ta σ H (PD k)) (hb : Ev tb σ H (PD l)) (h1 : k.depth ≤ 60) (h2 : l.depth ≤ 60) : Ev (tOp (rEqD K) ta tb) σ H (PB (decide (k = l))) :=
  ev_op2 ha hb fun x y H1 _ hx hy Q q => ⟨k.data, l.data, dp_of k x hx, dp_of l y hy, shaped_of (notx_of k x hx) h1, shaped_of (notx_of l y hy) h2, q _ H1 (Gx.refl H1) (by rw [eqv_dec])⟩
theorem ev_neD {k l : D} (ha : Ev ta σ H (PD k)) (hb : Ev tb σ H (PD l)) (h1 : k.depth ≤ 60) (h2 : l.depth ≤ 60) : Ev (tOp (rNeD K) ta tb) σ H (PB (!decide (k = l))) :=
  ev_op2 ha hb fun x y H1 _ hx hy Q q => ⟨k.data, l.data, dp_of k x hx, dp_of l y hy, shaped_of (notx_of k x hx) h1, shaped_of (notx_of l y hy) h2, q _ H1 (Gx.refl H1) (by rw [eqv_dec])⟩
theorem any_eqv {k : D} : ∀ (ks : List D), ((NestedKey.datas ks).any fun z => PyData.eqv z k.data) = decide (k ∈ ks)
  | [] => by simp [NestedKey.datas]
  | l :: ks => by
    simp only [NestedKey.datas, List.any_cons, eqv_dec, any_eqv ks]
    by_cases e : l = k
    · subst e; simp
    · have e' : ¬ k = l := fun z => e z.symm
      simp [e, e']
theorem ev_inD {k : D} {ks : List D} (ha : Ev ta σ H (PD k)) (hb : Ev tb σ H (PL ks)) (h1 : k.depth ≤ 60) (h2 : ∀ l ∈ ks, l.depth ≤ 59) : Ev (tOp (rInD K) ta tb) σ H (PB (decide (k ∈ ks))) :=
  ev_op2 ha hb fun x y H1 _ hx hy Q q => by
    obtain ⟨p, vs, rfl, e1, e2⟩ := hy
    refine ⟨k.data, NestedKey.datas ks, dp_of k x hx, .lst (SqL.of e1) (dpa_of ks vs e2), shaped_of (notx_of k x hx) h1, ?_, q _ H1 (Gx.refl H1) (by rw [any_eqv])⟩
    unfold SeqAt.shaped
    simp only [PyData.canLay0, PyData.depth, lays_of ks (notxs_of ks vs e2), deps_of, Bool.true_and]
    have := depths_le h2
    exact decide_eq_true (by omega)
theorem ev_ninD {k : D} {ks : List D} (ha : Ev ta σ H (PD k)) (hb : Ev tb σ H (PL ks)) (h1 : k.depth ≤ 60) (h2 : ∀ l ∈ ks, l.depth ≤ 59) : Ev (tOp (rNotInD K) ta tb) σ H (PB (!decide (k ∈ ks))) :=
  ev_op2 ha hb fun x y H1 _ hx hy Q q => by
    obtain ⟨p, vs, rfl, e1, e2⟩ := hy
    refine ⟨k.data, NestedKey.datas ks, dp_of k x hx, .lst (SqL.of e1) (dpa_of ks vs e2), shaped_of (notx_of k x hx) h1, ?_, q _ H1 (Gx.refl H1) (by rw [any_eqv])⟩
    unfold SeqAt.shaped
    simp only [PyData.canLay0, PyData.depth, lays_of ks (notxs_of ks vs e2), deps_of, Bool.true_and]
    have := depths_le h2
    exact decide_eq_true (by omega)
theorem inV_ints (i : Int) : ∀ is : List Int, inV (.int i) (is.map V.int) = decide (i ∈ is)
  | [] => rfl
  | j :: is => by
    have ih := inV_ints i is
    unfold inV at ih ⊢
    rw [List.map_cons, List.any_cons, ih]
    show ((j == i) || decide (i ∈ is)) = _
    by_cases e : j = i
    · subst e; simp
    · have e' : ¬ i = j := fun z => e z.symm
      simp [e, e']
theorem flat_ints : ∀ is : List Int, (is.map V.int).all flatV = true
  | [] => rfl
  | j :: is => by rw [List.map_cons, List.all_cons, flat_ints is]; rfl
/-- an int in a tuple of ints -/
theorem ev_inT {neg : Bool} {i : Int} {is : List Int} (ha : Ev ta σ H (PD (.num i))) (hb : Ev tb σ H (PD (.tup (is.map NestedKey.num)))) : Ev (tOp (rIn K neg) ta tb) σ H (PB (if neg then !decide (i ∈ is) else decide (i ∈ is))) :=
  ev_op2 ha hb fun x y H1 _ hx hy Q q => by
    obtain ⟨p, vs, rfl, e1, e2⟩ := hy
    cases (show x = .int i from hx)
    have e := ka_nums_eq e2
    subst e
    refine ⟨p, is.map V.int, rfl, .inr (SqT.of e1), rfl, flat_ints is, q _ H1 (Gx.refl H1) ?_⟩
    rw [inV_ints]
/-! ### isinstance, len, truth -/
def tyN : D → String
  | .none => "NoneType"
  | .num _ => "int"
  | .text _ => "str"
  | .tup _ => "tuple"
theorem tyx_of {k : D} {v : V} (h : KeyH H k v) : TyX K H v (.type (tyN k)) := by
  cases k with
  | none => cases (show v = .non from h); exact .base .non
  | num i => cases (show v = .int i from h); exact .base (.int i)
  | text x => exact False.elim h
  | tup ks =>
    obtain ⟨a, vs, rfl, h1, h2⟩ := h
    exact .base (.tup h1)
theorem ev_isi {T : String} {n : String} {b : Bool} [Mono P] (ha : Ev ta σ H P) (ht : ∀ v H1, P v H1 → TyX K H1 v (.type n)) (hk : kitB n T = some b) : Ev (tCB (rIsi K) (tCons ta (tCons (tC (.ty T)) tNil))) σ H (PB b) := fun H1 e Q q =>
  ha H1 e _ fun v H2 e2 hv => ⟨v, .ty T, .type n, .type T, b, rfl, .ty T, ht v H2 hv, kit_ty hk, q _ H2 e2 rfl⟩
theorem ev_isiD {T : String} {k : D} {b : Bool} (ha : Ev ta σ H (PD k)) (hk : kitB (tyN k) T = some b) : Ev (tCB (rIsi K) (tCons ta (tCons (tC (.ty T)) tNil))) σ H (PB b) := ev_isi ha (fun _ _ h => tyx_of h) hk
theorem ev_isiL {T : String} {ks : List D} {b : Bool} (ha : Ev ta σ H (PL ks)) (hk : kitB "list" T = some b) : Ev (tCB (rIsi K) (tCons ta (tCons (tC (.ty T)) tNil))) σ H (PB b) := ev_isi ha (fun _ _ ⟨l, vs, e, h1, _⟩ => by subst e; exact .base (.lst h1)) hk
theorem ev_isiB {T : String} {c b : Bool} (ha : Ev ta σ H (PB c)) (hk : kitB "bool" T = some b) : Ev (tCB (rIsi K) (tCons ta (tCons (tC (.ty T)) tNil))) σ H (PB b) := ev_isi ha (fun _ _ e => by rw [e]; exact .base (.bl c)) hk
def rLenV (K : PySem.W.Frag) : List V → Hp → VK → Prop := fun xs H Q => ∃ x n, xs = [x] ∧ LenV K x H n ∧ Q (.int n) H
theorem ev_lenT {ks : List D} (ha : Ev ta σ H (PD (.tup ks))) : Ev (tCB (rLenV K) (tCons ta tNil)) σ H (PD (.num (ks.length : Int))) := fun H1 e Q q =>
  ha H1 e _ fun v H2 e2 hv => by
    obtain ⟨a, vs, rfl, h1, h2⟩ := hv
    refine ⟨.ref a, vs.length, rfl, .inr ⟨vs, SqT.of h1, rfl⟩, q _ H2 e2 ?_⟩
    show V.int (vs.length : Int) = .int (ks.length : Int)
    rw [ka_len h2]
theorem ev_lenL {ks : List D} (ha : Ev ta σ H (PL ks)) : Ev (tCB (rLenV K) (tCons ta tNil)) σ H (PD (.num (ks.length : Int))) := fun H1 e Q q =>
  ha H1 e _ fun v H2 e2 hv => by
    obtain ⟨a, vs, rfl, h1, h2⟩ := hv
    refine ⟨.ref a, vs.length, rfl, .inl ⟨vs, SqL.of h1, rfl⟩, q _ H2 e2 ?_⟩
    show V.int (vs.length : Int) = .int (ks.length : Int)
    rw [ka_len h2]
def truD : D → Bool
  | .none => false
  | .num i => i != 0
  | .text _ => true
  | .tup ks => !ks.isEmpty
theorem tru_of {k : D} {v : V} (h : KeyH H k v) : TruV K v H (truD k) := by
  cases k with
  | none => cases (show v = .non from h); rfl
  | num i => cases (show v = .int i from h); rfl
  | text x => exact False.elim h
  | tup ks =>
    obtain ⟨a, vs, rfl, h1, h2⟩ := h
    refine .inr (.inl ⟨vs, SqT.of h1, ?_⟩)
    cases ks with
    | nil => cases (show vs = [] from h2); rfl
    | cons k ks => obtain ⟨v, r, rfl, _⟩ := h2; rfl
def tTru (K : PySem.W.Frag) (t : TE) : TT := fun σ H Q => t σ H fun x H1 => ∃ k, TruV K x H1 k ∧ Q k H1
theorem et_tru {k : D} (h : Ev te σ H (PD k)) : EvT (tTru K te) σ H (truD k) := fun H1 e _ q => h H1 e _ fun v H2 e2 hv => ⟨_, tru_of hv, q H2 e2⟩
theorem et_truL {ks : List D} (h : Ev te σ H (PL ks)) : EvT (tTru K te) σ H (!ks.isEmpty) := fun H1 e _ q => h H1 e _ fun v H2 e2 hv => by
  obtain ⟨a, vs, rfl, h1, h2⟩ := hv
  refine ⟨_, .inl ⟨vs, SqL.of h1, rfl⟩, ?_⟩
  have e' : vs.isEmpty = ks.isEmpty := by
    cases ks with
    | nil => cases (show vs = [] from h2); rfl
    | cons k ks => obtain ⟨v, r, rfl, _⟩ := h2; rfl
  rw [e']
  exact q H2 e2
theorem ev_notT {k : D} (h : Ev te σ H (PD k)) : Ev (tNotT K te) σ H (PB (!truD k)) := fun H1 e _ q => h H1 e _ fun v H2 e2 hv => ⟨_, tru_of hv, q _ H2 e2 rfl⟩
theorem ev_isN {k : D} (h : Ev te σ H (PD k)) : Ev (tIsN te) σ H (PB (decide (k = .none))) := fun H1 e _ q => h H1 e _ fun v H2 e2 hv => q _ H2 e2 (by
  show V.bl (decide (v = .non)) = V.bl (decide (k = .none))
  congr 1
  cases k with
  | none => cases (show v = .non from hv); rfl
  | num i => cases (show v = .int i from hv); simp
  | text x => exact False.elim hv
  | tup ks => obtain ⟨a, vs, rfl, _⟩ := hv; simp)
theorem ev_nNon {k : D} (h : Ev te σ H (PD k)) : Ev (tNotN te) σ H (PB (!decide (k = .none))) := fun H1 e _ q => h H1 e _ fun v H2 e2 hv => q _ H2 e2 (by
  show V.bl (!decide (v = .non)) = V.bl (!decide (k = .none))
  congr 2
  cases k with
  | none => cases (show v = .non from hv); rfl
  | num i => cases (show v = .int i from hv); simp
  | text x => exact False.elim hv
  | tup ks => obtain ⟨a, vs, rfl, _⟩ := hv; simp)
/-- lo <= x <= hi -/
theorem ev_chain {r r' : R2} {a b : Bool} {tc : TE} [Mono P] [Mono R] (ha : Ev ta σ H P) (hb : Ev tb σ H R) (hc : Ev tc σ H S)
    (h1 : ∀ x y H1, Gx H H1 → P x H1 → R y H1 → ∀ Q : VK, (∀ H2, Gx H1 H2 → Q (.bl a) H2) → r x y H1 Q)
    (h2 : ∀ y z H1, Gx H H1 → R y H1 → S z H1 → ∀ Q : VK, (∀ H2, Gx H1 H2 → Q (.bl b) H2) → r' y z H1 Q) : Ev (tChain r r' ta tb tc) σ H (PB (a && b)) := fun H1 e Q q =>
  ha H1 e _ fun x H2 e2 hx => hb H2 (e.trans e2) _ fun y H3 e3 hy => h1 x y H3 ((e.trans e2).trans e3) (Mono.mono e3 hx) hy _ fun H4 e4 => ⟨a, rfl, by
    have g := ((e.trans e2).trans e3).trans e4
    have g' := (e2.trans e3).trans e4
    cases a with
    | true => exact hc H4 g _ fun z H5 e5 hz => h2 y z H5 (g.trans e5) (Mono.mono (e4.trans e5) hy) hz Q fun H6 e6 => q _ H6 ((g'.trans e5).trans e6) rfl
    | false => exact q _ H4 g' rfl⟩
theorem ev_chainI {f g : Int → Int → Bool} {i j k : Int} {tc : TE} (ha : Ev ta σ H (PD (.num i))) (hb : Ev tb σ H (PD (.num j))) (hc : Ev tc σ H (PD (.num k))) :
    Ev (tChain (rI0 fun i j => .bl (f i j)) (rI0 fun i j => .bl (g i j)) ta tb tc) σ H (PB (f i j && g j k)) :=
  ev_chain ha hb hc (fun x y H1 _ hx hy Q q => ⟨i, j, hx, hy, q H1 (Gx.refl H1)⟩) (fun x y H1 _ hx hy Q q => ⟨j, k, hx, hy, q H1 (Gx.refl H1)⟩)
/-- tuple(list) -/
theorem ev_tupOf {ks : List D} (h : Ev te σ H (PL ks)) : Ev (tThen te (kTup K)) σ H (PD (.tup ks)) := fun H1 e Q q =>
  h H1 e _ fun v H2 e2 hv => by
    obtain ⟨a, vs, rfl, h1, h2⟩ := hv
    refine .inl ⟨a, vs, rfl, SqL.of h1, fun p hp => ?_⟩
    have g := Gx.new (o := .tup vs) hp
    exact q _ _ (e2.trans g) ⟨p, vs, rfl, upd_same, mono_all g h2⟩
theorem ka_of_get {H : Hp} : ∀ {ds : List D} {vs : List V}, ds.length = vs.length → (∀ (i : Nat) d v, ds[i]? = some d → vs[i]? = some v → KeyH H d v) → KeyAll H ds vs
  | [], [], _, _ => rfl
  | [], _ :: _, e, _ => by simp at e
  | _ :: _, [], e, _ => by simp at e
  | d :: ds, v :: vs, e, h => ⟨v, vs, rfl, h 0 d v rfl rfl, ka_of_get (by simpa using e) fun i d' v' e1 e2 => h (i + 1) d' v' (by simpa using e1) (by simpa using e2)⟩
def rgD (n : Nat) : List D := (List.range n).map fun (i : Nat) => .num (i : Int)
theorem ka_rg (H : Hp) (n : Nat) : KeyAll H (rgD n) (rgV 0 (n : Int)) := by
  have e : ((n : Int) - 0).toNat = n := by omega
  refine ka_of_get (by unfold rgD; rw [rgV_length, e, List.length_map, List.length_range]) fun i d v h1 h2 => ?_
  unfold rgD at h1
  unfold rgV at h2
  rw [e] at h2
  rw [List.getElem?_map] at h1 h2
  cases z : (List.range n)[i]? with
  | none => rw [z] at h1; cases h1
  | some j =>
    rw [z] at h1 h2
    cases h1
    cases h2
    show V.int (0 + (j : Int)) = V.int (j : Int)
    rw [Int.zero_add]
theorem ev_tupRg {n : Nat} (h : Ev te σ H (PD (.num (n : Int)))) (hn : n ≤ 1000) : Ev (tTupRg (tRg1 te)) σ H (PD (.tup (rgD n))) := fun H1 e Q q =>
  h H1 e _ fun v H2 e2 hv => ⟨(n : Int), hv, RgOk.of_le (by omega) (by omega) (by omega) (by omega), fun p hp => q _ _ (e2.trans (Gx.new hp)) ⟨p, _, rfl, upd_same, ka_rg _ n⟩⟩
/-- max of a list of ints -/
theorem ev_max {is : List Int} {m : Int} (h : Ev te σ H (PL (is.map NestedKey.num))) (hm : ∀ x, x ∈ is → (∀ y, y ∈ is → y ≤ x) → x = m) (hl : 0 < is.length) : Ev (tCB (rMax K) (tCons te tNil)) σ H (PD (.num m)) := fun H1 e Q q =>
  h H1 e _ fun v H2 e2 hv => by
    obtain ⟨a, vs, rfl, h1, h2⟩ := hv
    have ev := ka_nums_eq h2
    subst ev
    refine ⟨a, is, rfl, SqL.of h1, hl, fun x hx hy => q _ H2 e2 ?_⟩
    show V.int x = V.int m
    rw [hm x hx hy]
/-! ### calls -/
def TabsG (T : List Addr) (H : Hp) : Prop := ∀ P ∈ T, TabG H P
theorem TabsG.mono {T : List Addr} (e : Gx H H') (h : TabsG T H) : TabsG T H' := fun P hP => e.tb P (h P hP)
/-- a promise: x what is told of the arguments -/
def spP {α : Type} (T : List Addr) (pre : α → Prop) (A : α → List (V → Hp → Prop)) (R : α → V → Hp → Prop) : Sp := fun vs H Q _ => TabsG T H ∧ ∃ x, pre x ∧ PsA (A x) vs H ∧ ∀ v H', Gx H H' → R x v H' → Q v H'
theorem ev_call {α : Type} {T : List Addr} {pre : α → Prop} {A : α → List (V → Hp → Prop)} {Rr : α → V → Hp → Prop} {E : XK} {ta : TA} (x : α) (ht : TabsG T H) (h : EvA ta σ H (A x)) (hp : pre x) : Ev (tCall (spP T pre A Rr) [] E ta) σ H (Rr x) := fun H1 e Q q =>
  h H1 e _ fun vs H2 e2 hv => by
    rw [List.append_nil]
    exact ⟨ht.mono (e.trans e2), x, hp, hv, fun v H' e' hr => q v H' (e2.trans e') hr⟩
/-! ### statements -/
variable {Dn : Ends} {tu tw tz : TS} {g : TG}
theorem q_asg {i : Nat} (h : Ev te σ H P) (k : ∀ v H1, Gx H H1 → P v H1 → tz Dn (σ.set i (some v)) H1) : tSeq (tAsg te (gName i)) tz Dn σ H := h H (Gx.refl H) _ k
theorem s_asg {i : Nat} (h : Ev te σ H P) (k : ∀ v H1, Gx H H1 → P v H1 → Dn.nx (σ.set i (some v)) H1) : tAsg te (gName i) Dn σ H := h H (Gx.refl H) _ k
theorem q_asgL {i : Nat} {ds : List D} (h : EvL te σ H ds) (k : ∀ p vs H1, H p = none → Gx H H1 → H1 p = some (.lst vs) → KeyAll H1 ds vs → tz Dn (σ.set i (some (.ref p))) H1) : tSeq (tAsg te (gName i)) tz Dn σ H := h H (Gx.refl H) _ k
theorem s_ret (h : Ev te σ H P) (k : ∀ v H1, Gx H H1 → P v H1 → Dn.rt v H1) : tRet te Dn σ H := h H (Gx.refl H) _ k
theorem q_if {b : Bool} (h : EvT t σ H b) (h1 : b = true → ∀ H1, Gx H H1 → tu { Dn with nx := tz Dn } σ H1) (h2 : b = false → ∀ H1, Gx H H1 → tw { Dn with nx := tz Dn } σ H1) : tSeq (tIfS t tu tw) tz Dn σ H := h H (Gx.refl H) _ fun H1 e => by
  cases b with
  | true => exact h1 rfl H1 e
  | false => exact h2 rfl H1 e
theorem s_if {b : Bool} (h : EvT t σ H b) (h1 : b = true → ∀ H1, Gx H H1 → tu Dn σ H1) (h2 : b = false → ∀ H1, Gx H H1 → tw Dn σ H1) : tIfS t tu tw Dn σ H := h H (Gx.refl H) _ fun H1 e => by
  cases b with
  | true => exact h1 rfl H1 e
  | false => exact h2 rfl H1 e
/-- an if without else -/
theorem q_when {b : Bool} (h : EvT t σ H b) (h1 : b = true → ∀ H1, Gx H H1 → tu { Dn with nx := tz Dn } σ H1) (h2 : b = false → ∀ H1, Gx H H1 → tz Dn σ H1) : tSeq (tIfS t tu tNext) tz Dn σ H := q_if h h1 h2
/-- a check that does not fire -/
theorem q_pass (h : EvT t σ H false) (k : ∀ H1, Gx H H1 → tz Dn σ H1) : tSeq (tIfS t tu tNext) tz Dn σ H := q_when h (fun z => Bool.noConfusion z) fun _ => k
/-- a, b, .. = a tuple -/
def setsV (σ : L2.St) : List Nat → List V → L2.St
  | i :: is, v :: vs => setsV (σ.set i (some v)) is vs
  | _, _ => σ
def gNames : List Nat → TGs
  | [] => gNil
  | i :: is => gCons (gName i) (gNames is)
theorem g_names {Q : L2.St → Hp → Prop} : ∀ (is : List Nat) (vs : List V) (σ : L2.St), vs.length = is.length → Q (setsV σ is vs) H → gNames is vs σ H Q
  | [], [], σ, _, q => ⟨rfl, q⟩
  | [], _ :: _, _, e, _ => by simp at e
  | _ :: _, [], _, e, _ => by simp at e
  | i :: is, v :: vs, σ, e, q => ⟨v, vs, rfl, g_names is vs (σ.set i (some v)) (by simpa using e) q⟩
theorem g_tup {ks : List D} {v : V} {is : List Nat} {n : Nat} {Q : L2.St → Hp → Prop} (h : KeyH H (.tup ks) v) (hn : n = ks.length) (hi : is.length = ks.length) (k : ∀ vs, KeyAll H ks vs → Q (setsV σ is vs) H) : gTup K n (gNames is) v σ H Q := by
  obtain ⟨a, vs, rfl, h1, h2⟩ := h
  exact ⟨a, vs, rfl, SqT.of h1, by rw [ka_len h2, hn], g_names is vs σ (by rw [ka_len h2, hi]) (k vs h2)⟩
theorem q_unp {ks : List D} {is : List Nat} {n : Nat} (h : Ev te σ H (PD (.tup ks))) (hn : n = ks.length) (hi : is.length = ks.length) (k : ∀ vs H1, Gx H H1 → KeyAll H1 ks vs → tz Dn (setsV σ is vs) H1) : tSeq (tAsg te (gTup K n (gNames is))) tz Dn σ H :=
  h H (Gx.refl H) _ fun v H1 e hv => g_tup hv hn hi fun vs hvs => k vs H1 e hvs
end
end LX

set_option maxRecDepth 100000
set_option maxHeartbeats 4000000
namespace LX
open PySem PySem.Spec PyProof.Rows L2 MDict GxR GQ

/-- tuples stay -/
def Tk (H H' : Hp) : Prop := ∀ a xs, H a = some (.tup xs) → H' a = some (.tup xs)
theorem Gx.tk {H H' : Hp} (e : Gx H H') : Tk H H' := e.tup
theorem Tk.refl (H : Hp) : Tk H H := fun _ _ h => h
theorem Tk.trans {H H1 H2 : Hp} (x : Tk H H1) (y : Tk H1 H2) : Tk H H2 := fun a xs h => y a xs (x a xs h)
theorem Tk.d {H H' : Hp} (e : Tk H H') {d : D} {v : V} (h : KeyH H d v) : KeyH H' d v := KeyH.mono e d v h
theorem Tk.all {H H' : Hp} (e : Tk H H') {ds : List D} {vs : List V} (h : KeyAll H ds vs) : KeyAll H' ds vs := KeyAll.mono e ds vs h
/-- a list is written -/
theorem Tk.lst {H : Hp} {l : Addr} {xs : List V} {o : HO} (h : H l = some (.lst xs)) : Tk H (upd H l o) := fun a ys e => by
  have : a ≠ l := fun z => by rw [z, h] at e; cases e
  rw [upd_ne this]; exact e

section
variable {K : PySem.W.Frag} {σ : L2.St} {H H' : Hp} {ta tb te tl : TE} {t u : TT} {P R S : V → Hp → Prop} {Dn : Ends} {tu tw tz : TS} {g : TG}
/-- what a target does -/
def Tg (g : TG) (x : V) (σ : L2.St) (H : Hp) (σ2 : L2.St) : Prop := ∀ R : L2.St → Hp → Prop, R σ2 H → g x σ H R
theorem tg_name {j : Nat} {x : V} : Tg (gName j) x σ H (σ.set j (some x)) := fun _ q => q
theorem tg_tup {ks : List D} {v : V} {is : List Nat} {n : Nat} (h : KeyH H (.tup ks) v) (hn : n = ks.length) (hi : is.length = ks.length) : ∃ vs, KeyAll H ks vs ∧ Tg (gTup K n (gNames is)) v σ H (setsV σ is vs) := by
  obtain ⟨a, vs, rfl, h1, h2⟩ := h
  exact ⟨vs, h2, fun Q q => ⟨a, vs, rfl, SqT.of h1, by rw [ka_len h2, hn], g_names is vs σ (by rw [ka_len h2, hi]) q⟩⟩

/-! ### for -/
theorem s_forT {ds : List D} (h : Ev tl σ H (PD (.tup ds))) (Pv : Hp → Nat → L2.St → Hp → Prop) (h0 : ∀ H1, Gx H H1 → Pv H1 0 σ H1) (hk : ∀ H1 i σ' H', Gx H H1 → Pv H1 i σ' H' → Tk H1 H')
    (hs : ∀ H1 i d x σ' H', Gx H H1 → ds[i]? = some d → Pv H1 i σ' H' → KeyH H' d x → g x σ' H' fun σ2 H2 => tu { Dn with nx := Pv H1 (i + 1), ct := Pv H1 (i + 1), bk := Dn.nx } σ2 H2)
    (hd : ∀ H1 σ' H', Gx H H1 → Pv H1 ds.length σ' H' → Dn.nx σ' H') : tFor (iTup K tl) g tu Dn σ H := h H (Gx.refl H) _ fun v H1 e hv => by
  obtain ⟨a, vs, rfl, h1, h2⟩ := hv
  have hl := ka_len h2
  refine ⟨a, rfl, ⟨vs, SqT.of h1⟩, for_tup (K := K) (a := a) (xs := vs) (Pv H1) (h0 H1 e) (fun i σ' H' _ p => SqT.of (hk H1 i σ' H' e p a vs h1)) (fun i x σ' H' hx p => ?_) fun σ' H' p => hd H1 σ' H' e (by rw [← hl]; exact p)⟩
  obtain ⟨d, e1, e2⟩ := ka_get' h2 hx
  exact hs H1 i d x σ' H' e e1 p ((hk H1 i σ' H' e p).d e2)
/-- over a list that stays -/
theorem s_forL {ds : List D} {l : Addr} {vs : List V} (h : Ev tl σ H (PV (.ref l))) (hl : H l = some (.lst vs)) (hv : KeyAll H ds vs) (Pv : Nat → L2.St → Hp → Prop) (h0 : ∀ H1, Gx H H1 → Pv 0 σ H1) (hk : ∀ i σ' H', Pv i σ' H' → Tk H H' ∧ H' l = some (.lst vs))
    (hs : ∀ i d x σ' H', ds[i]? = some d → Pv i σ' H' → KeyH H' d x → g x σ' H' fun σ2 H2 => tu { Dn with nx := Pv (i + 1), ct := Pv (i + 1), bk := Dn.nx } σ2 H2)
    (hd : ∀ σ' H', Pv ds.length σ' H' → Dn.nx σ' H') : tFor (iList K tl) g tu Dn σ H := h H (Gx.refl H) _ fun v H1 e hv1 => by
  have hv1 : v = .ref l := hv1
  subst hv1
  have hn := ka_len hv
  refine ⟨l, rfl, ⟨vs, e.sl (SqL.of hl)⟩, for_list (K := K) (a := l) (xs := vs) Pv (h0 H1 e) (fun i σ' H' _ p => SqL.of (hk i σ' H' p).2) (fun i x σ' H' hx p => ?_) fun σ' H' p => hd σ' H' (by rw [← hn]; exact p)⟩
  obtain ⟨d, e1, e2⟩ := ka_get' hv hx
  exact hs i d x σ' H' e1 p ((hk i σ' H' p).1.d e2)
/-- for i in range(n) -/
theorem s_forR {n : Nat} (h : Ev ta σ H (PD (.num (n : Int)))) (hn : n ≤ 100000) (Pv : Nat → L2.St → Hp → Prop) (h0 : ∀ H1, Gx H H1 → Pv 0 σ H1)
    (hs : ∀ i σ' H', i < n → Pv i σ' H' → g (.int (i : Int)) σ' H' fun σ2 H2 => tu { Dn with nx := Pv (i + 1), ct := Pv (i + 1), bk := Dn.nx } σ2 H2)
    (hd : ∀ σ' H', Pv n σ' H' → Dn.nx σ' H') : tFor (iRng1 (tCons ta tNil)) g tu Dn σ H := h H (Gx.refl H) _ fun v H1 e hv => by
  have hv : v = .int (n : Int) := hv
  subst hv
  refine ⟨(n : Int), rfl, by omega, by omega, ?_⟩
  rw [show ((n : Int)).toNat = n from Int.toNat_natCast n]
  refine for_range (lo := 0) (n := n) Pv (h0 H1 e) (fun i σ' H' hi p => ?_) hd
  rw [Int.zero_add]
  exact hs i σ' H' hi p
/-! ### comprehensions -/
def Cw (H : Hp) (ds : List D) (f : D → Bool) (v : D → D) (Dl : Addr) (i : Nat) (H' : Hp) : Prop := H Dl = none ∧ Gx H H' ∧ ∃ acc, H' Dl = some (.lst acc) ∧ KeyAll H' (((ds.take i).filter f).map v) acc
theorem take_succ_of {α : Type} : ∀ {l : List α} {i : Nat} {x : α}, l[i]? = some x → l.take (i + 1) = l.take i ++ [x]
  | [], i, x, h => by simp at h
  | a :: l, 0, x, h => by simp at h; subst h; rfl
  | a :: l, i + 1, x, h => by
    have := take_succ_of (l := l) (i := i) (x := x) (by simpa using h)
    rw [List.take_succ_cons, this]
    rfl
/-- an item's turn -/
def ItemOk (g : TG) (t : TT) (te : TE) (vs : List Nat) (σ : L2.St) (H : Hp) (ds : List D) (f : D → Bool) (v : D → D) : Prop := ∀ d x H1, Gx H H1 → d ∈ ds → KeyH H1 d x →
  ∃ σ2, Tg g x (wipe σ vs) H1 σ2 ∧ wipe σ2 vs = wipe σ vs ∧ EvT t σ2 H1 (f d) ∧ (f d = true → Ev te σ2 H1 (PD (v d)))
theorem cw_turn {ds : List D} {f : D → Bool} {v : D → D} {vs : List Nat} {H1 : Hp} (e0 : Gx H H1) (hs : ItemOk g t te vs σ H ds f v) (hz : ds.length ≤ 40000) {Dl : Addr} {i : Nat} {d : D} {x : V} (hi : ds[i]? = some d) (hx : KeyH H' d x) (p : Cw H1 ds f v Dl i H') :
    g x (wipe σ vs) H' fun σ2 H2 => wipe σ2 vs = wipe σ vs ∧ t σ2 H2 fun b H3 => if b = true then te σ2 H3 fun y H4 => ∃ acc, H4 Dl = some (.lst acc) ∧ acc.length < sizeLine ∧ Cw H1 ds f v Dl (i + 1) (upd H4 Dl (.lst (acc ++ [y]))) else Cw H1 ds f v Dl (i + 1) H3 := by
  obtain ⟨p1, p2, acc, p3, p4⟩ := p
  obtain ⟨σ2, h1, h2, h3, h4⟩ := hs d x H' (e0.trans p2) (List.mem_of_getElem? hi) hx
  refine h1 _ ⟨h2, h3 H' (Gx.refl H') _ fun H3 e3 => ?_⟩
  have tk : ds.take (i + 1) = ds.take i ++ [d] := take_succ_of hi
  have hlen : acc.length < sizeLine := by
    rw [ka_len p4, List.length_map, sizeLine_eq]
    have := List.length_filter_le f (ds.take i)
    have h5 := List.length_take_le i ds
    have h6 : (ds.take i).length ≤ ds.length := by rw [List.length_take]; omega
    omega
  cases hf : f d with
  | true =>
    show te σ2 H3 _
    refine h4 hf H3 e3 _ fun y H4 e4 hy => ⟨acc, (e3.trans e4).kp Dl _ p3 (fun _ z => by cases z), hlen, p1, ((p2.trans e3).trans e4).mut p1, acc ++ [y], upd_same, ?_⟩
    have tk2 : Tk H4 (upd H4 Dl (.lst (acc ++ [y]))) := Tk.lst (xs := acc) ((e3.trans e4).kp Dl _ p3 (fun _ z => by cases z))
    rw [tk, List.filter_append, List.map_append]
    refine ka_app (tk2.all (mono_all (e3.trans e4) p4)) ?_
    rw [List.filter_cons, if_pos hf]
    exact ka_one (tk2.d hy)
  | false =>
    show Cw H1 ds f v Dl (i + 1) H3
    refine ⟨p1, p2.trans e3, acc, e3.kp Dl _ p3 (fun _ z => by cases z), ?_⟩
    rw [tk, List.filter_append, List.filter_cons, if_neg (by rw [hf]; exact Bool.false_ne_true), List.filter_nil, List.append_nil]
    exact mono_all e3 p4
theorem el_lcT {ds : List D} {f : D → Bool} {v : D → D} {vs : List Nat} (h : Ev tl σ H (PD (.tup ds))) (hz : ds.length ≤ 40000) (hs : ItemOk g t te vs σ H ds f v) : EvL (tLc (iTup K tl) g t te vs) σ H ((ds.filter f).map v) := fun H0 e Q q => h H0 e _ fun w H1 e1 hw => by
  obtain ⟨a, us, rfl, h1, h2⟩ := hw
  have hn := ka_len h2
  refine ⟨a, rfl, ⟨us, SqT.of h1⟩, fun Dl hD => lc_tup (K := K) (a := a) (xs := us) (Cw H1 ds f v Dl) ⟨hD, Gx.new hD, [], upd_same, rfl⟩ (fun i H' _ p => SqT.of (p.2.1.tup a us h1)) (fun i x H' hi p => ?_) fun H' p => ?_⟩
  · obtain ⟨d, g1, g2⟩ := ka_get' h2 hi
    exact cw_turn (e.trans e1) hs hz g1 (mono_d p.2.1 g2) p
  · obtain ⟨p1, p2, acc, p3, p4⟩ := p
    rw [hn, List.take_length] at p4
    exact q Dl acc H' (e1.dm Dl p1) (e1.trans p2) p3 p4
theorem el_lcL {ds : List D} {f : D → Bool} {v : D → D} {vs : List Nat} (h : Ev tl σ H (PL ds)) (hz : ds.length ≤ 40000) (hs : ItemOk g t te vs σ H ds f v) : EvL (tLc (iList K tl) g t te vs) σ H ((ds.filter f).map v) := fun H0 e Q q => h H0 e _ fun w H1 e1 hw => by
  obtain ⟨a, us, rfl, h1, h2⟩ := hw
  have hn := ka_len h2
  refine ⟨a, rfl, ⟨us, SqL.of h1⟩, fun Dl hD => lc_list (K := K) (a := a) (xs := us) (Cw H1 ds f v Dl) ⟨hD, Gx.new hD, [], upd_same, rfl⟩ (fun i H' _ p => SqL.of (p.2.1.kp a _ h1 (fun _ z => by cases z))) (fun i x H' hi p => ?_) fun H' p => ?_⟩
  · obtain ⟨d, g1, g2⟩ := ka_get' h2 hi
    exact cw_turn (e.trans e1) hs hz g1 (mono_d p.2.1 g2) p
  · obtain ⟨p1, p2, acc, p3, p4⟩ := p
    rw [hn, List.take_length] at p4
    exact q Dl acc H' (e1.dm Dl p1) (e1.trans p2) p3 p4
theorem rgD_get {n i : Nat} (hi : i < n) : (rgD n)[i]? = some (.num (i : Int)) := by
  unfold rgD
  rw [List.getElem?_map, List.getElem?_range hi]
  rfl
theorem rgD_length (n : Nat) : (rgD n).length = n := by unfold rgD; rw [List.length_map, List.length_range]
theorem el_lcR {n : Nat} {f : D → Bool} {v : D → D} {vs : List Nat} (h : Ev ta σ H (PD (.num (n : Int)))) (hz : n ≤ 40000) (hs : ItemOk g t te vs σ H (rgD n) f v) : EvL (tLc (iRng1 (tCons ta tNil)) g t te vs) σ H (((rgD n).filter f).map v) := fun H0 e Q q => h H0 e _ fun w H1 e1 hw => by
  have hw : w = .int (n : Int) := hw
  subst hw
  refine ⟨(n : Int), rfl, by omega, by omega, fun Dl hD => ?_⟩
  rw [show ((n : Int)).toNat = n from Int.toNat_natCast n]
  refine lc_range (lo := 0) (n := n) (Cw H1 (rgD n) f v Dl) ⟨hD, Gx.new hD, [], upd_same, rfl⟩ (fun i H' hi p => ?_) fun H' p => ?_
  · rw [Int.zero_add]
    exact cw_turn (e.trans e1) hs (by rw [rgD_length]; exact hz) (rgD_get hi) rfl p
  · obtain ⟨p1, p2, acc, p3, p4⟩ := p
    rw [show (rgD n).take n = rgD n from List.take_of_length_le (by rw [rgD_length]; exact Nat.le_refl n)] at p4
    exact q Dl acc H' (e1.dm Dl p1) (e1.trans p2) p3 p4
theorem et_yes : EvT tYes σ H true := fun H1 _ _ q => q H1 (Gx.refl H1)
/-! ### all, any -/
theorem qu_last {f : D → Bool} {cont : Bool} {ds : List D} (h : ∀ d ∈ ds, f d = cont) : (if cont then ds.all f else ds.any f) = cont := by
  cases cont with
  | true =>
    rw [if_pos rfl]
    exact List.all_eq_true.mpr h
  | false =>
    rw [if_neg Bool.false_ne_true]
    exact List.any_eq_false.mpr fun d hd => by rw [h d hd]; exact Bool.false_ne_true
theorem qu_break {f : D → Bool} {cont : Bool} {ds : List D} {d : D} (hd : d ∈ ds) (h : f d ≠ cont) : (if cont then ds.all f else ds.any f) = !cont := by
  cases cont with
  | true =>
    rw [if_pos rfl]
    exact List.all_eq_false.mpr ⟨d, hd, h⟩
  | false =>
    rw [if_neg Bool.false_ne_true]
    refine List.any_eq_true.mpr ⟨d, hd, ?_⟩
    cases z : f d with
    | true => rfl
    | false => exact absurd z h
def QuOk (g : TG) (te : TE) (vs : List Nat) (σ : L2.St) (H : Hp) (ds : List D) (f : D → Bool) : Prop := ∀ d x H1, Gx H H1 → d ∈ ds → KeyH H1 d x → ∃ σ2, Tg g x (wipe σ vs) H1 σ2 ∧ wipe σ2 vs = wipe σ vs ∧ Ev te σ2 H1 (PB (f d))
theorem take_mem {f : D → Bool} {cont : Bool} {ds : List D} {i : Nat} {d : D} (hi : ds[i]? = some d) (h : ∀ d ∈ ds.take i, f d = cont) (hd : f d = cont) : ∀ d ∈ ds.take (i + 1), f d = cont := fun d' hd' => by
  rw [take_succ_of hi] at hd'
  rcases List.mem_append.mp hd' with z | z
  · exact h d' z
  · rw [List.mem_singleton.mp z]; exact hd
theorem qu_turn {ds : List D} {f : D → Bool} {vs : List Nat} {cont : Bool} {H2 : Hp} {Q : VK} (e0 : Gx H H2) (hs : QuOk g te vs σ H ds f) (hq : ∀ v H3, Gx H2 H3 → v = .bl (if cont then ds.all f else ds.any f) → Q v H3)
    {i : Nat} {d : D} {x : V} (hi : ds[i]? = some d) (hx : KeyH H' d x) (p : Gx H2 H' ∧ ∀ d ∈ ds.take i, f d = cont) :
    g x (wipe σ vs) H' fun σ2 H4 => wipe σ2 vs = wipe σ vs ∧ te σ2 H4 fun v H3 => ∃ b, v = .bl b ∧ (b = cont → Gx H2 H3 ∧ ∀ d ∈ ds.take (i + 1), f d = cont) ∧ (b ≠ cont → Q (.bl (!cont)) H3) := by
  obtain ⟨p1, p2⟩ := p
  obtain ⟨σ2, h1, h2, h3⟩ := hs d x H' (e0.trans p1) (List.mem_of_getElem? hi) hx
  refine h1 _ ⟨h2, h3 H' (Gx.refl H') _ fun v H3 e3 hv => ⟨f d, hv, fun hc => ⟨p1.trans e3, take_mem hi p2 hc⟩, fun hc => hq _ H3 (p1.trans e3) ?_⟩⟩
  rw [qu_break (List.mem_of_getElem? hi) hc]
theorem ev_quT {Pt : Addr} {cont : Bool} {ds : List D} {f : D → Bool} {vs : List Nat} (ht : TabG H Pt) (h : Ev tl σ H (PD (.tup ds))) (hs : QuOk g te vs σ H ds f) : Ev (tQu Pt cont (iTup K tl) g te vs) σ H (PB (if cont then ds.all f else ds.any f)) := fun H0 e Q q => h H0 e _ fun w H1 e1 hw => by
  obtain ⟨a, us, rfl, h1, h2⟩ := hw
  have hn := ka_len h2
  refine ⟨a, rfl, ⟨us, SqT.of h1⟩, (e.trans e1).tb Pt ht, ds.length, fun i H' => Gx H1 H' ∧ ∀ d ∈ ds.take i, f d = cont, fun H2 h => ⟨Gx.tab ((e.trans e1).tb Pt ht) h, fun d hd => by simp at hd⟩, fun i H' hi p => ?_, fun H' p => ?_⟩
  · have hu : i < us.length := by omega
    refine ⟨⟨us, us[i], SqT.of (p.1.tup a us h1), by simp [hu]⟩, fun x H'' y => ?_⟩
    obtain ⟨rfl, y⟩ := y
    have hx := y us (SqT.of (p.1.tup a us h1))
    obtain ⟨d, g1, g2⟩ := ka_get' h2 hx
    exact qu_turn (e.trans e1) hs (fun v H3 e3 hv => q v H3 (e1.trans e3) hv) g1 (mono_d p.1 g2) p
  · refine ⟨⟨us, SqT.of (p.1.tup a us h1), by omega⟩, q _ H' (e1.trans p.1) ?_⟩
    rw [qu_last (by have := p.2; rw [List.take_length] at this; exact this)]
theorem ev_quL {Pt : Addr} {cont : Bool} {ds : List D} {f : D → Bool} {vs : List Nat} (ht : TabG H Pt) (h : Ev tl σ H (PL ds)) (hs : QuOk g te vs σ H ds f) : Ev (tQu Pt cont (iList K tl) g te vs) σ H (PB (if cont then ds.all f else ds.any f)) := fun H0 e Q q => h H0 e _ fun w H1 e1 hw => by
  obtain ⟨a, us, rfl, h1, h2⟩ := hw
  have hn := ka_len h2
  have st : ∀ {H'}, Gx H1 H' → SqL K H' a us := fun e' => SqL.of (e'.kp a _ h1 (fun _ z => by cases z))
  refine ⟨a, rfl, ⟨us, SqL.of h1⟩, (e.trans e1).tb Pt ht, ds.length, fun i H' => Gx H1 H' ∧ ∀ d ∈ ds.take i, f d = cont, fun H2 h => ⟨Gx.tab ((e.trans e1).tb Pt ht) h, fun d hd => by simp at hd⟩, fun i H' hi p => ?_, fun H' p => ?_⟩
  · have hu : i < us.length := by omega
    refine ⟨⟨us, us[i], st p.1, by simp [hu]⟩, fun x H'' y => ?_⟩
    obtain ⟨rfl, y⟩ := y
    have hx := y us (st p.1)
    obtain ⟨d, g1, g2⟩ := ka_get' h2 hx
    exact qu_turn (e.trans e1) hs (fun v H3 e3 hv => q v H3 (e1.trans e3) hv) g1 (mono_d p.1 g2) p
  · refine ⟨⟨us, st p.1, by omega⟩, q _ H' (e1.trans p.1) ?_⟩
    rw [qu_last (by have := p.2; rw [List.take_length] at this; exact this)]
/-! ### lists written -/
theorem q_app {l : Addr} {vs : List V} {d : D} (ha : Ev ta σ H (PV (.ref l))) (hl : H l = some (.lst vs)) (h : Ev te σ H (PD d)) (hz : vs.length < 100000)
    (k : ∀ v H1, Gx H H1 → KeyH H1 d v → tz Dn σ (upd H1 l (.lst (vs ++ [v])))) : tSeq (tDrop (tBM K "list" rAppend ta (tCons te tNil))) tz Dn σ H := ha H (Gx.refl H) _ fun w H1 e1 hw => by
  have hw : w = .ref l := hw
  subst hw
  have h1 := e1.kp l _ hl (fun _ z => by cases z)
  refine ⟨.inl ⟨rfl, vs, SqL.of h1⟩, h H1 e1 _ fun v H2 e2 hv => ⟨l, vs, v, rfl, rfl, e2.kp l _ h1 (fun _ z => by cases z), by rw [sizeLine_eq]; omega, k v H2 (e1.trans e2) hv⟩⟩
end
end LX

set_option maxRecDepth 100000
set_option maxHeartbeats 4000000
namespace MDict
open PySem PySem.Spec PyProof.Rows L2
section
variable {X : Cx} {pins : List (Addr × Obj)} {σ : L2.St} {H : Hp} {s : Shared} {d a : Addr} {kvs : List (NestedKey × V)}
theorem m_type (I : Inv X pins σ H s) (m : MAt X.w H d kvs) : s.TypeIs (.ref d) "dict" := by
  obtain ⟨xs, ents, e1, e2, e3, r, hm, _⟩ := m_of I m
  exact hm.typeIs
theorem m_nodict (I : Inv X pins σ H s) (m : MAt X.w H d kvs) : ∀ b, Value.ref d = .ref b → ∃ ob, s.heap.get? b = some ob ∧ ob.dict = none := fun b q => by
  cases q
  obtain ⟨xs, ents, e1, e2, e3, r, ⟨o, es, ep, h1, h2, _⟩, _⟩ := m_of I m
  exact ⟨o, h1, h2.2.1⟩
end
/-- a dict written -/
def MPut (w : World) (H : Hp) (a : Addr) (kvs : List (NestedKey × V)) (R : Hp → Prop) : Prop := ∀ φ, MAt w (upd H a (.ext φ)) a kvs → R (upd H a (.ext φ))
def tMNew (w : World) : TE := fun _ H Q => ∀ p, H p = none → MPut w H p [] fun H' => Q (.ref p) H'
def tMOne (w : World) (tk tv : TE) : TE := fun σ H Q => ∀ p, H p = none → MPut w H p [] fun H' => tk σ H' fun y H1 => tv σ H1 fun z H2 => ∃ k, MAt w H2 p [] ∧ KTop H2 k y ∧ MPut w H2 p [(k, z)] fun H3 => Q (.ref p) H3
def tMGet (w : World) (td ty : TE) : TE := fun σ H Q => td σ H fun x H1 => ty σ H1 fun y H2 => ∃ a kvs k v, x = .ref a ∧ MAt w H2 a kvs ∧ KTop H2 k y ∧ valV kvs k = some v ∧ Q v H2
def tMIn (w : World) (ty td : TE) : TE := fun σ H Q => ty σ H fun y H1 => td σ H1 fun x H2 => ∃ a kvs k, x = .ref a ∧ MAt w H2 a kvs ∧ KTop H2 k y ∧ Q (.bl (valV kvs k).isSome) H2
def tMNotIn (w : World) (ty td : TE) : TE := fun σ H Q => ty σ H fun y H1 => td σ H1 fun x H2 => ∃ a kvs k, x = .ref a ∧ MAt w H2 a kvs ∧ KTop H2 k y ∧ Q (.bl (!(valV kvs k).isSome)) H2
def sMPut (w : World) (td ty tv : TE) : TS := fun D σ H => tv σ H fun v H1 => td σ H1 fun x H2 => ty σ H2 fun y H3 => ∃ a kvs k, x = .ref a ∧ MAt w H3 a kvs ∧ KTop H3 k y ∧ kvs.length < sizeLine ∧ MPut w H3 a (putK kvs k v) fun H4 => D.nx σ H4
def tMGet2 (w : World) (td ty tx : TE) : TE := fun σ H Q => td σ H fun x H1 => ∃ a, x = .ref a ∧ (∃ kvs, MAt w H1 a kvs) ∧ ty σ H1 fun y H2 => tx σ H2 fun z H3 => ∃ kvs k, MAt w H3 a kvs ∧ KTop H3 k y ∧ Q ((valV kvs k).getD z) H3
def tMSdef (w : World) (td ty tx : TE) : TE := fun σ H Q => td σ H fun x H1 => ∃ a, x = .ref a ∧ (∃ kvs, MAt w H1 a kvs) ∧ ty σ H1 fun y H2 => tx σ H2 fun z H3 => ∃ kvs k, MAt w H3 a kvs ∧ KTop H3 k y ∧ kvs.length < sizeLine ∧
  (∀ v, valV kvs k = some v → Q v H3) ∧ (valV kvs k = none → MPut w H3 a (putK kvs k z) fun H4 => Q z H4)
section
variable {X : Cx} {o i e f value : Expr} {pos pos' tpos apos cpos : Pos} {td ty tv tx tk : TE}
theorem pe_mnew : PE X (.Dict [] [] pos) (tMNew X.w) := ⟨fun pins s σ H Q I h => wpAny_Dict_empty (by
  obtain ⟨φ, I1, m⟩ := m_new (tk := s.toks) I
  exact ⟨.ref s.heap.objs.size, _, I1, rfl, h _ (I.hok.fresh (Nat.le_refl _)) φ m⟩)⟩
theorem pe_mone (hu : X.A.units + 9 < cLine) (hk : PE X e tk) (hv : PE X f tv) : PE X (.Dict [some e] [f] pos) (tMOne X.w tk tv) := ⟨fun pins s σ H Q I h => by
  obtain ⟨φ, I1, m⟩ := m_new (tk := s.toks) I
  refine wpAny_Dict_any (by rfl) (by rfl) (by simp) (by show 1 ≤ 15; decide) ?_
  refine pairTrees_cons_walk (thn (hk.run pins _ σ _ _ I1 (h _ (I.hok.fresh (Nat.le_refl _)) φ m)) fun u s1 ⟨y, H1, I2, ry, q1⟩ => thn (hv.run pins s1 σ H1 _ I2 q1) fun w2 s2 ⟨z, H2, I3, rz, k, m2, kt, q2⟩ => pairTrees_nil_walk ?_)
  show wpAny _ _ (storeAll s.heap.objs.size [(u, w2)]) _ _ s2
  unfold storeAll
  rw [List.forIn_cons]
  refine wpAny_bind (wpAny_bind (m_dset hu I3 m2 (by rw [sizeLine_eq]; decide) kt ry rz fun H' s' φ2 eH m3 I4 => wpAny_pure ?_))
  show wpAny _ _ (forIn [] PUnit.unit _) _ _ s'
  rw [List.forIn_nil]
  subst eH
  exact wpAny_pure ⟨.ref s.heap.objs.size, _, I4, rfl, q2 φ2 m3⟩⟩
theorem pe_mget (hu : X.A.units + 9 < cLine) (ho : PE X o td) (hi : PE X i ty) (hs : NoSl i) : PE X (.Subscript o i pos) (tMGet X.w td ty) := by
  refine ⟨fun pins s σ H Q I h => ?_⟩
  refine subD_of PySem.F.slot_dict_getitem.lookup hs (thn (ho.run pins s σ H _ I h) fun u s1 ⟨x, H1, I1, rx, q1⟩ => thn (hi.run pins s1 σ H1 _ I1 q1) fun iv s2 ⟨y, H2, I2, ry, a, kvs, k, v, ex, m, kt, hv, q2⟩ => ?_)
  subst ex
  obtain rfl : u = Value.ref a := rx
  exact ⟨m_type I2 m, m_get hu I2 m kt ry hv fun w' s3 I3 rw' => ⟨v, H2, I3, rw', q2⟩⟩
theorem pc_min (hu : X.A.units + 9 < cLine) (hi : PE X i ty) (ho : PE X o td) : PC X .In i o (tMIn X.w ty td) := by
  refine ⟨fun pins s σ H Q I h => ?_⟩
  refine thn (hi.run pins s σ H _ I h) fun iv s1 ⟨y, H1, I1, ry, q1⟩ => thn (ho.run pins s1 σ H1 _ I1 q1) fun u s2 ⟨x, H2, I2, rx, a, kvs, k, ex, m, kt, q2⟩ => ?_
  subst ex
  obtain rfl : u = Value.ref a := rx
  exact m_in hu I2 m kt ry fun s3 I3 => ⟨.bl (valV kvs k).isSome, H2, I3, rfl, q2⟩
theorem pc_mnotin (hu : X.A.units + 9 < cLine) (hi : PE X i ty) (ho : PE X o td) : PC X .NotIn i o (tMNotIn X.w ty td) := by
  refine ⟨fun pins s σ H Q I h => ?_⟩
  refine thn (hi.run pins s σ H _ I h) fun iv s1 ⟨y, H1, I1, ry, q1⟩ => thn (ho.run pins s1 σ H1 _ I1 q1) fun u s2 ⟨x, H2, I2, rx, a, kvs, k, ex, m, kt, q2⟩ => ?_
  subst ex
  obtain rfl : u = Value.ref a := rx
  exact m_notIn hu I2 m kt ry fun s3 I3 => ⟨.bl (!(valV kvs k).isSome), H2, I3, rfl, q2⟩
theorem ps_mput (hu : X.A.units + 9 < cLine) (ho : PE X o td) (hi : PE X i ty) (hv : PE X value tv) (hs : swapsWith value (some (.Subscript o i pos')) pos.line X.env = pure false) :
    PS X (.Assign [.Subscript o i pos'] value pos) (sMPut X.w td ty tv) := by
  refine ⟨fun pins s σ H D I h => ?_⟩
  refine wpAny_Assign_Subscript (thn (hv.run pins s σ H _ I h) fun r s1 ⟨v, H1, I1, rv, q1⟩ => thn (ho.run pins s1 σ H1 _ I1 q1) fun u s2 ⟨x, H2, I2, rx, q2⟩ => thn (hi.run pins s2 σ H2 _ I2 q2) fun iv s3 ⟨y, H3, I3, ry, a, kvs, k, ex, m, kt, hl, q3⟩ => ?_) hs
  subst ex
  obtain rfl : u = Value.ref a := rx
  refine m_set hu I3 m hl kt ry rv fun H' s4 φ eH m' I4 => ?_
  subst eH
  exact ⟨σ, _, I4, q3 φ m'⟩
theorem pe_mget2 (hu : X.A.units + 9 < cLine) (ho : PE X o td) (he : PE X e ty) (hf : PE X f tx) (m : M2 X o "get" apos e f cpos) : PE X (.Call (.Attribute o "get" apos) [e, f] [] cpos) (tMGet2 X.w td ty tx) := by
  refine ⟨fun pins s σ H Q I h => ?_⟩
  refine wpAny_Call_method m.base m.few m.line PySem.F.plainAttrs_dict PySem.F.slot_dict_get PySem.F.type_dict_get (thn (ho.run pins s σ H _ I h) fun u s1 ⟨x, H1, I1, rx, a, ex, ⟨kvs0, m0⟩, q1⟩ => ?_)
  subst ex
  obtain rfl : u = Value.ref a := rx
  refine ⟨m_type I1 m0, m_nodict I1 m0, ?_⟩
  rw [m.trees]
  refine Calls.callWith_builtin rfl (Calls.evalArgs_plain (Calls.spliced_cons (thn (he.run pins s1 σ H1 _ I1 q1) fun iv s2 ⟨y, H2, I2, ry, q2⟩ =>
    Calls.spliced_cons (thn (hf.run pins s2 σ H2 _ I2 q2) fun fv s3 ⟨z, H3, I3, rz, kvs, k, m3, kt, q3⟩ => Calls.spliced_nil ?_))))
  exact m_getOr hu I3 m3 kt ry rz fun w' s4 I4 rw' => ⟨_, H3, I4, rw', q3⟩
theorem pe_msdef (hu : X.A.units + 9 < cLine) (ho : PE X o td) (he : PE X e ty) (hf : PE X f tx) (m : M2 X o "setdefault" apos e f cpos) : PE X (.Call (.Attribute o "setdefault" apos) [e, f] [] cpos) (tMSdef X.w td ty tx) := by
  refine ⟨fun pins s σ H Q I h => ?_⟩
  refine wpAny_Call_method m.base m.few m.line PySem.F.plainAttrs_dict PySem.F.slot_dict_setdefault PySem.F.type_dict_setdefault (thn (ho.run pins s σ H _ I h) fun u s1 ⟨x, H1, I1, rx, a, ex, ⟨kvs0, m0⟩, q1⟩ => ?_)
  subst ex
  obtain rfl : u = Value.ref a := rx
  refine ⟨m_type I1 m0, m_nodict I1 m0, ?_⟩
  rw [m.trees]
  refine Calls.callWith_builtin rfl (Calls.evalArgs_plain (Calls.spliced_cons (thn (he.run pins s1 σ H1 _ I1 q1) fun iv s2 ⟨y, H2, I2, ry, q2⟩ =>
    Calls.spliced_cons (thn (hf.run pins s2 σ H2 _ I2 q2) fun fv s3 ⟨z, H3, I3, rz, kvs, k, m3, kt, hl, q3, q4⟩ => Calls.spliced_nil ?_))))
  refine m_sdef hu I3 m3 hl kt ry rz (fun v w' s' hv I4 rw' => ⟨v, H3, I4, rw', q3 v hv⟩) fun H' s' φ hv eH m4 I4 => ?_
  subst eH
  exact ⟨z, _, I4, rz, q4 hv φ m4⟩
theorem call_mlen : CallR X (.builtin "len") (fun xs H Q => ∃ a kvs, xs = [.ref a] ∧ MAt X.w H a kvs ∧ Q (.int kvs.length) H) := by
  intro pins s σ H xs us Q I r h
  obtain ⟨a, kvs, rfl, m, q⟩ := h
  obtain ⟨u, rfl, rx⟩ := vals1 r
  obtain rfl : u = Value.ref a := rx
  obtain ⟨xs, ents, e1, e2, e3, r', hm, hs0, hl, hl2⟩ := m_of I m
  refine lenM hs0 hm (by omega) fun t k => ⟨.int kvs.length, H, I.tok k, ⟨t, ?_⟩, q⟩
  rw [hl2, ← e1, List.length_map]
theorem rx_at {xs : List XE} {ents : List Ent} (r : RX xs ents) : ∀ {j : Nat} {e : Ent}, ents[j]? = some e → ∃ x, xs[j]? = some x ∧ x.1 = e.1 ∧ RelV x.2.1 e.2.1 := by
  induction r with
  | nil => intro j e h; simp at h
  | @cons p q ps qs h t ih =>
    intro j e h'
    cases j with
    | zero => simp at h'; subst h'; exact ⟨p, rfl, h.1, h.2.1⟩
    | succ j => obtain ⟨x, h1, h2⟩ := ih (j := j) (e := e) (by simpa using h'); exact ⟨x, by simpa using h1, h2⟩
theorem keysOf {H : Hp} : ∀ {xs : List XE}, (∀ x ∈ xs, KTop H x.1 x.2.1) → KeyAll H (xs.map (·.1)) (xs.map (·.2.1))
  | [], _ => rfl
  | x :: xs, h => ⟨_, _, rfl, (h x List.mem_cons_self).is, keysOf fun y hy => h y (List.mem_cons_of_mem _ hy)⟩
theorem call_mlist (hc : X.calm = true) : CallR X (.type "list") (fun xs H Q => ∃ d kvs, xs = [V.ref d] ∧ MAt X.w H d kvs ∧ ∀ p vs, H p = none → KeyAll H (kvs.map (·.1)) vs → Q (.ref p) (upd H p (.lst vs))) := by
  intro pins s σ H xs us Q I r h
  obtain ⟨d, kvs, rfl, m, q⟩ := h
  obtain ⟨u, rfl, rx⟩ := r.one
  cases rx
  obtain ⟨xs, ents, e1, e2, e3, r', hm, hs0, hl, hl2⟩ := m_of I m
  obtain ⟨o, es, ep, ho, hx, hdt, he, hk, hn⟩ := hm
  have l1 : es.size = ents.length := ent_size he
  refine PySem.W.kdl_call (kdl_raw hs0 hx hdt) (I.ok.hd hc) ho (by omega) fun h' tk acc' c' kp e it => ?_
  have rv : Vals (xs.map fun x => x.2.1) acc'.toList := by
    refine vals_of_at (by
    have l9 : acc'.toList.length = es.size := by rw [Array.length_toList]; exact it.1
    rw [List.length_map]; omega) fun j x u hx' hu => ?_
    obtain ⟨en, hen, hv⟩ := it.2 j u (by rw [← Array.getElem?_toList]; exact hu)
    have qe := ent_at he j
    rw [hen] at qe
    cases hb : ents[j]? with
    | none => rw [hb] at qe; cases qe
    | some b =>
      rw [hb] at qe
      obtain ⟨x', h1, h2, h3⟩ := rx_at r' hb
      rw [List.getElem?_map, h1] at hx'
      cases hx'
      have e4 : en = entM X.w b := Option.some.inj qe
      rw [hv, e4]
      exact h3
  have hz : (xs.map fun x => x.2.1).length ≤ sizeLine := by rw [List.length_map]; exact hl
  refine ⟨.ref s.heap.objs.size, _, I.laid (t' := tk) (o := .lst (xs.map fun x => x.2.1)) kp (Nat.le_refl _) ?_, rfl, q _ _ (I.hok.fresh (Nat.le_refl _)) ?_⟩
  · exact ⟨hz, acc'.toList, c', rv, by rw [Array.toArray_toList]; exact e⟩
  · have := keysOf e3
    have e5 : kvs.map (·.1) = xs.map (·.1) := by rw [← e1, List.map_map]; rfl
    rw [e5]
    exact this
end
end MDict

set_option maxRecDepth 100000
set_option maxHeartbeats 4000000
namespace MDict
open PySem PySem.Spec PyProof.Rows L2
section
variable {X : Cx}
/-- a dict comprehension: D the new dict -/
def tMdc (w : World) (wi : TI) (g : TG) (tt : TT) (tk tv : TE) (vs : List Nat) : TE := fun σ H Q => wi σ H fun J H1 => ∀ D, H1 D = none → MPut w H1 D [] fun HD => ∃ W : Nat → Nat → Hp → Prop, (∃ m, W 0 m HD) ∧ ∀ i m H, W i m H →
  (J.stop i H ∧ Q (.ref D) H) ∨ (J.go i H ∧ ∃ Nx : Hp → Prop, (∀ H', Nx H' → ∃ m', m' < m ∧ W (i + 1) m' H') ∧ ∀ x H', J.yld i H x H' → g x (wipe σ vs) H' fun σ2 H2 => wipe σ2 vs = wipe σ vs ∧ tt σ2 H2 fun b H3 =>
    if b = true then tk σ2 H3 fun y H4 => tv σ2 H4 fun z H5 => ∃ kvs k, MAt w H5 D kvs ∧ KTop H5 k y ∧ kvs.length < sizeLine ∧ MPut w H5 D (putK kvs k z) Nx else Nx H3)
theorem mdc_core {pins : List (Addr × Obj)} {s : Shared} {σ : L2.St} {H : Hp} {Q : VK} {kx vx tg iter : Expr} {ifs : List Expr} {scope : Scope} {own : List (Str × Nat)} {pos pos' : Pos} {wi : TI} {g : TG} {tt : TT} {tk tv : TE} {use : Option (Value → Sem Unit)} {Qf : Value → Shared → Prop}
    (hu : X.A.units + 9 < cLine) (hc : X.calm = true) (hN : X.N.Nodup) (I : Inv X pins σ H s) (hi : PI X tg iter wi) (ok : BlkOk X.N X.env.scope scope own)
    (hg : ∀ (s : Shared) (H : Hp) (C : Addr) (cl : List (Str × Addr)) (fp : List Addr), PG (X.blk s H scope (compEnvC scope cl C X.env) fp) tg g) (ht : ∀ (s : Shared) (H : Hp) (C : Addr) (cl : List (Str × Addr)) (fp : List Addr), PTs (X.blk s H scope (compEnvC scope cl C X.env) fp) ifs tt)
    (hk : ∀ (s : Shared) (H : Hp) (C : Addr) (cl : List (Str × Addr)) (fp : List Addr), PE (X.blk s H scope (compEnvC scope cl C X.env) fp) kx tk)
    (he : ∀ (s : Shared) (H : Hp) (C : Addr) (cl : List (Str × Addr)) (fp : List Addr), PE (X.blk s H scope (compEnvC scope cl C X.env) fp) vx tv) (hs : ∀ x, foldedSetIterable iter X.env x = pure x)
    (h : tMdc X.w wi g tt tk tv (own.map (·.2)) σ H Q)
    (hRR : ∀ D C s' m H', Inv X pins σ H' s' → Q (.ref D) H' → s'.heap.Ns C m → FpOk X pins H' C → compPost (model X.prog X.w) X.A X.xe use Qf (.ref D) C (.ok .next) s') :
    wpAny (model X.prog X.w) X.A (comprehension (.DictComp kx vx [⟨tg, iter, ifs, 0⟩] scope pos) scope X.env pos' newDict false (eval iter X.env) use) Qf X.xe s := by
  have hfree : ∀ y ∈ scope.names, y.2 = .free → ∃ c, X.env.cells.lookup y.1 = some c := fun y hy e => by
    rcases ok.free y hy e with k | k
    · exact I.ok.has _ (.inl k)
    · exact I.ok.has _ (.inr k)
  refine wpAny_comprehension_free (use := use) rfl hs (closure_ok hfree) ok.kind (fun y hy e => by rw [ok.uniq y hy, e])
    (thn (hi.run pins s σ H _ I h) fun xv s1 hx => thn hx fun itv s2 h2 => ?_)
  obtain ⟨it, fp, tn, J, H2, e, I2, T, st2, f2, q⟩ := h2
  subst e
  refine wpAny_newObj_type (newEnv_comp ?_)
  generalize hD : s2.heap.objs.size = D
  have hDn : H2 D = none := I2.hok.fresh (Nat.le_of_eq hD)
  obtain ⟨φ, I3, mt3⟩ := m_new (tk := s2.toks) I2
  rw [hD] at I3 mt3
  obtain ⟨W, ⟨m0, w0⟩, turn⟩ := q D hDn φ mt3
  -- the new dict
  generalize hs3 : ({ s2 with heap := s2.heap.push { cls := .type "dict", data := .dict #[] } } : Shared) = s3 at I3
  have h3 : s3.heap = s2.heap.push { cls := .type "dict", data := .dict #[] } := by rw [← hs3]
  have sz : ∀ b ∈ fp, b < s2.heap.objs.size := fun b hb => by
    obtain ⟨o, e, _⟩ := T.obj _ _ st2 b hb
    exact Heap.lt_size e
  have f3 : ∀ b ∈ fp, FpOk X pins (upd H2 D (.ext φ)) b ∧ b < s3.heap.objs.size := fun b hb => by
    have hlt := sz b hb
    refine ⟨⟨?_, (f2 b hb).2⟩, by rw [h3, Heap.size_push]; exact Nat.lt_succ_of_lt hlt⟩
    rw [upd_ne (by rw [← hD]; exact Nat.ne_of_lt hlt)]
    exact (f2 b hb).1
  have st3 : tn 0 s3.heap := T.keep _ _ _ st2 fun b _ o e => by rw [h3]; exact Heap.get?_push_of_some _ e
  have I4 := block_start I3 ok hN f3
  have pg := hg s3 (upd H2 D (.ext φ)) s3.heap.objs.size (cellsFrom (s3.heap.objs.size + 1) scope.names (cloFrom X.env.cells scope.names [])) fp
  have pt := ht s3 (upd H2 D (.ext φ)) s3.heap.objs.size (cellsFrom (s3.heap.objs.size + 1) scope.names (cloFrom X.env.cells scope.names [])) fp
  have pk := hk s3 (upd H2 D (.ext φ)) s3.heap.objs.size (cellsFrom (s3.heap.objs.size + 1) scope.names (cloFrom X.env.cells scope.names [])) fp
  have pe := he s3 (upd H2 D (.ext φ)) s3.heap.objs.size (cellsFrom (s3.heap.objs.size + 1) scope.names (cloFrom X.env.cells scope.names [])) fp
  show codeAny _ _ (.compStart (.DictComp kx vx [⟨tg, iter, ifs, 0⟩] scope pos) 0 (.ref it) (.ref D) (compEnvC scope (cellsFrom (s3.heap.objs.size + 1) scope.names (cloFrom X.env.cells scope.names [])) s3.heap.objs.size X.env)) (compPost (model X.prog X.w) X.A X.xe use Qf (.ref D) s3.heap.objs.size) { s3 with heap := pushCells (s3.heap.push { cls := .type "dict", data := .dict #[] }) scope.names }
  have nfp : ∀ b ∈ fp, (upd H2 D (.ext φ)) b = none := fun b hb => (f3 b hb).1.1
  generalize hce : compEnvC scope (cellsFrom (s3.heap.objs.size + 1) scope.names (cloFrom X.env.cells scope.names [])) s3.heap.objs.size X.env = ce at I4 pg pt pk pe ⊢
  have cL : ce.locals = s3.heap.objs.size := by subst hce; rfl
  generalize hH3 : upd H2 D (.ext φ) = H3 at I3 I4 pg pt pk pe w0 nfp f3
  generalize hs4 : ({ s3 with heap := pushCells (s3.heap.push { cls := .type "dict", data := .dict #[] }) scope.names } : Shared) = s4 at I4 ⊢
  have st4 : tn 0 s4.heap := T.keep _ _ _ st3 fun b _ o e => by rw [← hs4]; exact pushCells_keeps _ _ _ _ (Heap.get?_push_of_some _ e)
  have stat : ∀ {σ' : L2.St} {H' : Hp} {s' : Shared}, Inv (X.blk s3 H3 scope ce fp) [] σ' H' s' → (∀ b ∈ fp, H' b = none) → ∀ b ∈ fp, FpOk (X.blk s3 H3 scope ce fp) [] H' b := fun {σ' H' s'} I' hn b hb =>
    ⟨hn b hb, (I'.ok.exf b hb).1, I'.ok.exfs b hb, .inl hb, fun x c e => (I'.ok.exf b hb).2 x c e, fun p hp => absurd (show p ∈ ([] : List (Addr × Obj)) ++ [] from hp) (by simp)⟩
  have loop : codeAny (model X.prog X.w) X.A (.compLoop (.DictComp kx vx [⟨tg, iter, ifs, 0⟩] scope pos) 0 (.ref it) (.ref D) ce) (compPost (model X.prog X.w) X.A X.xe use Qf (.ref D) s3.heap.objs.size) s4 := by
    refine compLoop_anyD (fun n s' => ∃ i H', Inv (X.blk s3 H3 scope ce fp) [] (wipe σ (own.map (·.2))) H' s' ∧ tn i s'.heap ∧ (∀ b ∈ fp, H' b = none) ∧ W i n H') ?_ m0 ⟨0, H3, I4, st4, nfp, w0⟩
    rintro n s5 ⟨i, H5, I5, st5, n5, w5⟩
    rcases turn i n H5 w5 with ⟨stop, qq⟩ | ⟨go, Nx, hNx, step⟩
    · have td := T.done (X.blk s3 H3 scope ce fp) rfl rfl rfl hc i [] s5 _ H5 (fun _ _ => False) I5 (stat I5 n5) st5 stop
      refine thnF td fun r s6 ⟨hr, I6⟩ => ?_
      subst hr
      -- back in the def's context
      have I7 : Inv X pins σ H5 s6 := I3.call' (ch := fp) I6.os I6.base I6.hok I6.bare fun b hb => ⟨(f3 b hb).1.2.2.2.1, (f3 b hb).1.2.1, (f3 b hb).1.2.2.2.2.1, (f3 b hb).1.2.2.2.2.2⟩
      have nC : H5 s3.heap.objs.size = none := by
        have z : H5 ce.locals = none := I6.free
        rw [cL] at z
        exact z
      obtain ⟨m, hn, _⟩ := I6.loc
      have hn : s6.heap.Ns ce.locals m := hn
      rw [cL] at hn
      exact hRR D s3.heap.objs.size s6 m H5 I7 qq hn (I3.fpOk (Nat.le_refl _) nC)
    · have ti := T.item (X.blk s3 H3 scope ce fp) rfl rfl rfl hc i [] s5 _ H5 (fun _ _ => False) I5 (stat I5 n5) st5 go
      refine thnF ti fun r s6 ⟨u, hr, h6⟩ => ?_
      subst hr
      refine thnF h6 fun _ s7 ⟨x, H7, I7, r7, y7, st7, n7⟩ => ?_
      have I7' := I7.pinned (stat I7 n7) (T.obj _ _ st7)
      refine thnF (pg.run _ s7 _ H7 x u _ I7' r7 (step x H7 y7)) fun _ s8 ⟨σ8, H8, I8, hw8, q8⟩ => ?_
      refine thnF (pt.run _ s8 σ8 H8 _ I8 q8) fun b s9 ⟨H9, I9, q9⟩ => ?_
      -- the turn's end
      have fin : ∀ {s' : Shared} {H' : Hp}, Inv (X.blk s3 H3 scope ce fp) ([] ++ pinsAt fp s7.heap) σ8 H' s' → Nx H' → ∃ m, m < n ∧ ∃ i H', Inv (X.blk s3 H3 scope ce fp) [] (wipe σ (own.map (·.2))) H' s' ∧ tn i s'.heap ∧ (∀ b ∈ fp, H' b = none) ∧ W i m H' := fun {s' H'} I' nx => by
        obtain ⟨m', hm, w'⟩ := hNx H' nx
        have pin' : ∀ b ∈ fp, ∀ o, s7.heap.get? b = some o → s'.heap.get? b = some o ∧ H' b = none := fun b hb o e =>
          let z := I'.pin (b, o) (List.mem_append_right _ (List.mem_append_right _ (mem_pinsAt hb e)))
          ⟨z.1, z.2.1⟩
        have hl : (wipe σ (own.map (·.2))).length = σ8.length := by rw [← hw8, wipe_length]
        refine ⟨m', hm, i + 1, H', (I'.unpinned (pins := [])).weak hl (fun j v e => ?_), T.keep _ _ _ st7 fun b hb o e => (pin' b hb o e).1, fun b hb => ?_, w'⟩
        · rw [← hw8] at e
          exact (wipe_some e).1
        · obtain ⟨o, e, _⟩ := T.obj _ _ st7 b hb
          exact (pin' b hb o e).2
      cases b with
      | false =>
        simp only [Bool.false_eq_true, if_false] at q9 ⊢
        exact fin I9 q9
      | true =>
        simp only [if_true] at q9 ⊢
        refine thnF (pk.run _ s9 σ8 H9 _ I9 q9) fun z s10 ⟨yk, H10, I10, r10, q10⟩ => ?_
        refine thnF (pe.run _ s10 σ8 H10 _ I10 q10) fun z2 s11 ⟨yv, H11, I11, r11, kvs, k, hD11, kt11, hz11, nx⟩ => ?_
        refine m_dset (X := X.blk s3 H3 scope ce fp) hu I11 hD11 hz11 kt11 r10 r11 fun H' s12 φ2 eH m12 I12 => ?_
        subst eH
        exact fin I12 (nx φ2 m12)
  exact codeAny_compStart_dict loop (T.self X.A 0 _ _ _ st4 loop)
/-- as a value -/
theorem pe_mdc {kx vx tg iter : Expr} {ifs : List Expr} {scope : Scope} {own : List (Str × Nat)} {pos : Pos} {wi : TI} {g : TG} {tt : TT} {tk tv : TE} (hu : X.A.units + 9 < cLine) (hc : X.calm = true) (hN : X.N.Nodup) (hi : PI X tg iter wi) (ok : BlkOk X.N X.env.scope scope own)
    (hg : ∀ (s : Shared) (H : Hp) (C : Addr) (cl : List (Str × Addr)) (fp : List Addr), PG (X.blk s H scope (compEnvC scope cl C X.env) fp) tg g) (ht : ∀ (s : Shared) (H : Hp) (C : Addr) (cl : List (Str × Addr)) (fp : List Addr), PTs (X.blk s H scope (compEnvC scope cl C X.env) fp) ifs tt)
    (hk : ∀ (s : Shared) (H : Hp) (C : Addr) (cl : List (Str × Addr)) (fp : List Addr), PE (X.blk s H scope (compEnvC scope cl C X.env) fp) kx tk)
    (he : ∀ (s : Shared) (H : Hp) (C : Addr) (cl : List (Str × Addr)) (fp : List Addr), PE (X.blk s H scope (compEnvC scope cl C X.env) fp) vx tv) (hs : ∀ x, foldedSetIterable iter X.env x = pure x := by intro _; rfl) :
    PE X (.DictComp kx vx [⟨tg, iter, ifs, 0⟩] scope pos) (tMdc X.w wi g tt tk tv (own.map (·.2))) := by
  refine ⟨fun pins s σ H Q I h => ?_⟩
  rw [arm_eval_DictComp]
  refine mdc_core hu hc hN I hi ok hg ht hk he hs h fun D C s' m H' I' q hn f => ⟨m, hn, fun h'' sb => ?_⟩
  obtain ⟨f0, f1, f2, f3, f4, f5⟩ := f
  exact ⟨.ref D, H', I'.turned (t' := s'.toks) (fun b o hb e => (sb.2 b hb).trans e) f0 f1 f3 f4 f5, rfl, q⟩
end
end MDict

set_option maxRecDepth 100000
set_option maxHeartbeats 4000000
namespace PySem
open Sem (wp)
open AutoSeq1 (wpAny_loadPart')
theorem meets_enumerate_newTup (l : Addr) (items : Array Value) (n : Nat) (dct : Option Addr) (sl : Array (Option Value)) :
    Meets (Builtin.«enumerate.__new__» ⟨[.type "enumerate", .ref l], []⟩) (fun _ R s => s.heap.get? l = some { cls := .type "tuple", data := .seq items n, dict := dct, slots := sl } ∧
      R (.ok (.ret (.ref (s.heap.push { cls := .type "tuple_iterator", data := .fields #[.ref l, .int 0 0] }).objs.size)))
        { s with heap := (s.heap.push { cls := .type "tuple_iterator", data := .fields #[.ref l, .int 0 0] }).push { cls := .type "enumerate", data := .fields #[.none, .bool false, .ref s.heap.objs.size, rawInt 0, .none, .none] } }) :=
  .of_wp fun prog w A R s h => by
    obtain ⟨hp, g, d, tk, os⟩ := s; obtain ⟨hl, h⟩ := h
    have hsub := sub_enumerate
    have hL : Heap.IsTuple (Shared.heap ⟨hp, g, d, tk, os⟩) l items := ⟨_, hl, rfl, n, rfl⟩
    wp_walk using wpAny_loadPart' hl
    refine wpAny_stack_any fun st => wpAny_pure ?_
    split
    · rename_i c _ _ _ _ _
      cases (c == Value.type "enumerate")
      · wp_walk using wpAny_loadPart' hl, wpAny_pyIter_tuple hL
        exact ⟨_, rfl, h⟩
      · wp_walk using wpAny_loadPart' hl, wpAny_pyIter_tuple hL
        exact ⟨_, rfl, h⟩
    · wp_walk using wpAny_loadPart' hl, wpAny_pyIter_tuple hL
      exact ⟨_, rfl, h⟩
section
variable {prog : Program} {w : World} {A : Around} {E : Value → Shared → Prop} {s : Shared}
theorem call_enumerate_tup {l : Addr} {items : Array Value} {Q : Value → Shared → Prop} (hL : s.heap.IsTuple l items)
    (h : ∀ h', IsEnum h' (s.heap.objs.size + 1) s.heap.objs.size 0 .none → h'.IsTupleIter s.heap.objs.size l 0 → h'.objs.size = s.heap.objs.size + 2 →
      (∀ b o, s.heap.get? b = some o → h'.get? b = some o) → Q (.ref (s.heap.objs.size + 1)) { s with heap := h' }) :
    wpAny (model prog w) A (call (.type "enumerate") [.ref l]) Q E s := by
  obtain ⟨⟨c, dct, dt, sl⟩, hl, hc, n, hd⟩ := hL
  replace hc : c = .type "tuple" := hc
  replace hd : dt = .seq items n := hd
  subst hc hd
  refine callType_new F.called_enumerate (by decide) (F.typeCall_enumerate_1 _) (F.newCall_enumerate_1 _) (fun obj => F.args_object_init_2 obj _) F.entry_enumerate_new
    (meets_enumerate_newTup l items n dct sl) ⟨hl, ?_⟩
  have hz : (s.heap.push { cls := .type "tuple_iterator", data := .fields #[.ref l, .int 0 0] }).objs.size = s.heap.objs.size + 1 := Heap.size_push ..
  show _ ∧ _
  rw [hz]
  have he : IsEnum ((s.heap.push { cls := .type "tuple_iterator", data := .fields #[.ref l, .int 0 0] }).push
      { cls := .type "enumerate", data := .fields #[.none, .bool false, .ref s.heap.objs.size, rawInt 0, .none, .none] }) (s.heap.objs.size + 1) s.heap.objs.size 0 .none := by
    have := Heap.get?_push_size (s.heap.push { cls := .type "tuple_iterator", data := .fields #[.ref l, .int 0 0] })
      (o := { cls := .type "enumerate", data := .fields #[.none, .bool false, .ref s.heap.objs.size, rawInt 0, .none, .none] }) rfl
    rw [hz] at this; exact this
  refine ⟨⟨_, he, rfl⟩, h _ he ⟨_, Heap.get?_push_of_some _ (Heap.get?_push_size _ rfl), rfl, rfl⟩ (by rw [Heap.size_push, hz]) fun b o x => Heap.get?_push_of_some _ (Heap.get?_push_of_some _ x)⟩
theorem wpAny_pyNext_enum_endT {e it l : Addr} {i : Nat} {k : Int} {items : Array Value} {old : Value} {Q : Option Value → Shared → Prop} (hh : A.handled = none)
    (he : IsEnum s.heap e it k old) (hit : s.heap.IsTupleIter it l i) (hl : s.heap.IsTuple l items) (hx : items[i]? = none)
    (hQ : ∀ h', Heap.ExtBut it s.heap h' → Q none { s with heap := h' }) : wpAny (model prog w) A (pyNext (.ref e)) Q E s := by
  have hTy : s.TypeIs (.ref e) "enumerate" := ⟨_, he, rfl⟩
  unfold pyNext
  refine wpAny_bind (wpAny_attempt (wpAny_callSpecial?_slot (name := Str.ofString "__next__") hTy F.slot_enumerate_next
    (wpAny_call_entry F.slot_enumerate_next hTy F.entry_enumerate_next ?_ (F.args_enumerate_next_1 _))))
  show wpAny _ _ (field (.ref e) 2 >>= _) _ _ _
  refine wpAny_bind (wpAny_field he rfl (x := .ref it) rfl ?_)
  refine wpAny_bind (wpAny_nextOf_tuple_end hh hit hl hx fun h' x he' hx' => ?_)
  obtain ⟨o, ho, hc⟩ := hx'
  refine wpAny_bind (wpAny_isInstance (T := "StopIteration") (b := true) ⟨o, ho, hc⟩ isSubtype_stop ?_)
  exact wpAny_pure (hQ _ he')
end
end PySem
namespace MDict
open PySem PySem.Spec PyProof.Rows L2
/-- the tuple at a, each item in a new pair -/
def IteT (K : PySem.W.Frag) (a : Addr) : It :=
  ⟨fun i H => ∃ (xs : List V) (x : V), SqT K H a xs ∧ xs[i]? = some x, fun i H v H' => ∃ T x, v = .ref T ∧ H T = none ∧ H' = upd H T (.tup [.int (i : Nat), x]) ∧ ∀ xs, SqT K H a xs → xs[i]? = some x, fun i H => ∃ xs : List V, SqT K H a xs ∧ xs.length ≤ i⟩
theorem tup_ne_iter {h : Heap} {a it : Addr} {items : Array Value} {i : Nat} (x : h.IsTuple a items) (y : h.IsTupleIter it a i) : a ≠ it := fun e => by
  obtain ⟨o, h1, h2, _⟩ := x
  obtain ⟨o', h3, h4, _⟩ := y
  rw [e, h3] at h1
  cases h1
  rw [h4] at h2
  injection h2 with h5
  exact absurd h5 (by decide)
theorem turn_enumT {P : Program} {w : World} {K : PySem.W.Frag} {elts : List Expr} {kk : Nat} {tpos : Pos} (a e it : Addr) :
    L2.Turn P w K (.Tuple elts kk tpos) (IteT K a) [e, it] e (fun i h => (∃ old, IsEnum h e it ((i : Nat) : Int) old) ∧ h.IsTupleIter it a i ∧ e ≠ it) where
  mem := by simp
  obj := fun i h st b hb => by
    obtain ⟨⟨old, he⟩, ⟨o, ho, hc, hd⟩, _⟩ := st
    have e' : b = e ∨ b = it := by simpa using hb
    rcases e' with z | z
    · rw [z]; exact ⟨_, he, fun v q => nomatch q⟩
    · rw [z]; exact ⟨o, ho, fun v q => by rw [hd] at q; cases q⟩
  keep := fun i h h' st k => let ⟨⟨old, he⟩, hi, hne⟩ := st; ⟨⟨old, k e (by simp) _ he⟩, hi.at fun o q => k it (by simp) o q, hne⟩
  item := by
    intro X hP hw hK hc i pins s σ H E I hf st hg
    subst hP hw hK
    obtain ⟨⟨old, he⟩, hit, hne⟩ := st
    obtain ⟨xs, x, hq, hx⟩ := hg
    obtain ⟨its, rv, p, hz⟩ := I.tuple hq
    have p : s.heap.IsTuple a its.toArray := p
    have hl := rv.length
    have hxi := (List.getElem?_eq_some_iff.mp hx).1
    have hel : e < s.heap.objs.size := Heap.lt_size he
    have hil : it < s.heap.objs.size := by obtain ⟨_, q, _⟩ := hit; exact Heap.lt_size q
    have hae : e ≠ a := fun z => by
      obtain ⟨o, h1, h2, _⟩ := p
      rw [← z, he] at h1
      cases h1
      injection h2 with h5
      exact absurd h5 (by decide)
    refine wpAny_pyNext_enum_itemD (Draws.tuple (A := X.A.in1) (I.ok.hd hc) it a (tup_ne_iter p hit) its.toArray) he ⟨hit, p⟩ (by rw [List.size_toArray]; omega) hne (by simp [hne, hae]) fun u h' tk hu ho hst hT hsz hk => ?_
    obtain ⟨u', hu', ru⟩ := rv.get hx
    have eu : u = u' := by
      rw [show its.toArray[i]? = its[i]? by simp, hu'] at hu
      exact (Option.some.inj hu).symm
    subst eu
    refine ⟨_, rfl, wpAny_letOwnedTupleGo_enum (s := { s with heap := h', toks := tk + 1 }) ho fun h'' he' sb => ?_⟩
    have hT2 : h''.get? s.heap.objs.size = some { cls := .type "tuple", data := .seq #[.int i tk, u] } := (sb.2 _ (Nat.ne_of_gt hel)).trans hT
    have new : ObjOk X.prog X.w (upd H s.heap.objs.size (.tup [.int (i : Nat), x])) h'' s.heap.objs.size (.tup [.int (i : Nat), x]) :=
      ⟨by show 2 ≤ sizeLine; decide, [.int i tk, u], .cons ⟨_, rfl⟩ (.cons ru .nil), ⟨_, hT2, rfl, _, rfl⟩⟩
    have I1 : Inv X pins σ (upd H s.heap.objs.size (.tup [.int (i : Nat), x])) { s with heap := h'', toks := tk + 1 } :=
      I.turnedNew (ch := [e, it]) (fun b ob hb q => (sb.2 b (fun z => hb (by simp [z]))).trans (hk b ob (fun z => hb (by simp [z])) (fun z => hb (by simp [z])) q)) hf (Nat.le_refl _) new
    refine ⟨.ref s.heap.objs.size, _, I1, rfl, ⟨_, x, rfl, I.hok.fresh (Nat.le_refl _), rfl, fun ys hy => by rw [I.tuple_inj hy hq]; exact hx⟩, ⟨⟨u, ?_⟩, hst.1.at fun o q => (sb.2 it (Ne.symm hne)).trans q, hne⟩, fun b hb => ?_⟩
    · have e1 : ((i + 1 : Nat) : Int) = (i : Int) + 1 := by omega
      rw [e1]; exact he'
    · have hb' : b < s.heap.objs.size := by
        have e' : b = e ∨ b = it := by simpa using hb
        rcases e' with z | z
        · rw [z]; exact hel
        · rw [z]; exact hil
      rw [upd_ne (Nat.ne_of_lt hb')]
      exact (hf b hb).1
  done := by
    intro X hP hw hK hc i pins s σ H E I hf st hg
    subst hP hw hK
    obtain ⟨⟨old, he⟩, hit, hne⟩ := st
    obtain ⟨xs, hq, hx⟩ := hg
    obtain ⟨its, rv, p, hz⟩ := I.tuple hq
    have p : s.heap.IsTuple a its.toArray := p
    obtain ⟨f0, f1, f2, f3, f4, f5⟩ := hf it (by simp)
    have hl := rv.length
    refine wpAny_pyNext_enum_endT (I.ok.hd hc) he hit p (by simp; omega) fun h' eb => ⟨rfl, I.turned (t' := s.toks) (fun b o hb q => eb b o hb q) f0 f1 f3 f4 f5⟩
  self := fun A i s Q E st h => let ⟨⟨_, he⟩, _⟩ := st; wpAny_pyIter_enum he h
def iEnumT (K : PySem.W.Frag) (ta : TA) : TI := fun σ H R => ta σ H fun vs H1 => ∃ a xs, vs = [.ref a] ∧ SqT K H1 a xs ∧ R (IteT K a) H1
theorem pi_enumT {X : Cx} {e : Expr} {ta : TA} {p pos tpos : Pos} {elts : List Expr} {kk : Nat} (hg : Gl X "enumerate") (hm : X.mg "enumerate" = none) (ha : PA X [e] ta) (hs : starEach [e] X.env = [(false, eval e X.env)] := by rfl) :
    PI X (.Tuple elts kk tpos) (.Call (.Name "enumerate" p) [e] [] pos) (iEnumT X.K ta) := by
  refine ⟨fun pins s σ H R I h => ?_⟩
  refine Call_ (ld_blt I hg hm boot_enumerate (PyProof.Rows.callWith_type1 (thn (ha.run pos pins s σ H _ I h) fun us s1 ⟨vs, H1, I1, r1, q1⟩ => ?_) hs rfl))
  obtain ⟨a, xs, ex, hq, q⟩ := q1
  subst ex
  cases r1 with
  | cons r rr =>
    cases rr
    cases r
    obtain ⟨its, rv, p', hz⟩ := I1.tuple hq
    refine call_enumerate_tup (show s1.heap.IsTuple a its.toArray from p') fun h' he hit hsz hk => wpAny_pyIter_enum he ?_
    have I2 : Inv X pins σ H1 { s1 with heap := h' } := I1.kept (t' := s1.toks) hk
    refine ⟨s1.heap.objs.size + 1, [s1.heap.objs.size + 1, s1.heap.objs.size], _, _, H1, rfl, I2, turn_enumT a (s1.heap.objs.size + 1) s1.heap.objs.size, ⟨⟨.none, he⟩, hit, Nat.succ_ne_self _⟩, fun b hb => ?_, q⟩
    have e' : b = s1.heap.objs.size + 1 ∨ b = s1.heap.objs.size := by simpa using hb
    have hle : s1.heap.objs.size ≤ b := by
      rcases e' with z | z
      · rw [z]; exact Nat.le_add_right _ _
      · rw [z]; exact Nat.le_refl _
    exact I1.fpOk hle (I1.hok.fresh hle)
end MDict

set_option maxRecDepth 100000
set_option maxHeartbeats 4000000
namespace LX
open PySem PySem.Spec PyProof.Rows L2 MDict GxR GQ
/-! ### the text by places -/
def top (i : Nat) : Stmt := PySem.Challenge.pw_lostlines_k03_whole_searches.main.body.getD i (.Pass ⟨0, 0, 0, 0⟩)
/-- no builtin is shadowed -/
structure Bi (mg : Str → Option Value) : Prop where
  isi : mg "isinstance" = none
  len : mg "len" = none
  max : mg "max" = none
  all : mg "all" = none
  any : mg "any" = none
  range : mg "range" = none
  enum : mg "enumerate" = none
  int : mg "int" = none
  bool : mg "bool" = none
  str : mg "str" = none
  tuple : mg "tuple" = none
  list : mg "list" = none
/-- a def of the program, its promise: dvs the defaults that are filled in -/
structure Fc (P : Program) (w : World) (K : PySem.W.Frag) (mg : Str → Option Value) (base : Heap) (CX : CXT) (k : Nat) (x : Str) (dvs : List V) (sp : Sp) : Prop where
  ex : ∃ f fd ps ds, FnOk P w K mg base CX k f fd ps sp ∧ mg x = some (.ref f) ∧ PySem.W.keepIn K (.ref f) = true ∧ Binds K fd ps ds ∧ Vals dvs ds
theorem Fc.mono {P : Program} {w : World} {K : PySem.W.Frag} {mg : Str → Option Value} {base : Heap} {CX : CXT} {j k : Nat} {x : Str} {dvs : List V} {sp : Sp} (F : Fc P w K mg base CX j x dvs sp) (h : j ≤ k) : Fc P w K mg base CX k x dvs sp := by
  obtain ⟨f, fd, ps, ds, h1, h2⟩ := F.ex
  exact ⟨f, fd, ps, ds, h1.mono h, h2⟩
theorem Fc.imp {P : Program} {w : World} {K : PySem.W.Frag} {mg : Str → Option Value} {base : Heap} {CX : CXT} {k : Nat} {x : Str} {dvs : List V} {sp sp' : Sp} (F : Fc P w K mg base CX k x dvs sp) (h : ∀ vs H Q E, sp' vs H Q E → sp vs H Q E) : Fc P w K mg base CX k x dvs sp' := by
  obtain ⟨f, fd, ps, ds, h1, h2⟩ := F.ex
  exact ⟨f, fd, ps, ds, h1.imp h, h2⟩
section
variable {X : Cx} {e e1 e2 e3 : Expr} {es : List Expr} {pos p p2 apos cpos : Pos} {te t1 t2 t3 : TE} {ta : TA}
/-! ### calls -/
theorem x_call {k : Nat} {x : Str} {dvs : List V} {sp : Sp} (F : Fc X.prog X.w X.K X.mg X.base CX0 k x dvs sp) (hr : Room k X.A) (ha : PA X (e :: es) ta) (hg : Gl X x := by rfl) (hdb : (x == ("__debug__" : Str)) = false := by decide)
    (he : starEach (e :: es) X.env = (false, eval e X.env) :: starEach es X.env := by rfl) (hpl : (backTo pos (starEach es X.env)).any (·.1) = false := by rfl) : PE X (.Call (.Name x p) (e :: es) [] pos) (tCall sp dvs E0 ta) := by
  obtain ⟨f, fd, ps, ds, h1, h2, h3, h4, h5⟩ := F.ex
  exact pe_call h1 hr hg h2 h3 h4 h5 pass0 ha hdb he hpl
theorem x_ty {T : String} {x : Str} (hm : X.mg x = none) (hb : bootBuiltins x = some (.type T)) (hg : Gl X x := by rfl) (hn : x ≠ "__name__" := by decide) (hd : (x == ("__debug__" : Str)) = false := by decide) : PE X (.Name x p) (tC (.ty T)) := pe_bltn hg hm hb rfl hn hd
theorem boot_bool' : bootBuiltins "bool" = some (.type "bool") := by decide +kernel
theorem boot_int' : bootBuiltins "int" = some (.type "int") := by decide +kernel
theorem boot_str' : bootBuiltins "str" = some (.type "str") := by decide +kernel
theorem boot_tuple' : bootBuiltins "tuple" = some (.type "tuple") := by decide +kernel
theorem boot_list' : bootBuiltins "list" = some (.type "list") := by decide +kernel
theorem boot_isinstance' : bootBuiltins "isinstance" = some (.builtin "isinstance") := by decide +kernel
theorem boot_max' : bootBuiltins "max" = some (.builtin "max") := by decide +kernel
theorem x_isi (B : Bi X.mg) (ha : PE X e t1) (hb : PE X e2 t2) (hg : Gl X "isinstance" := by rfl)
    (he : starEach (e :: [e2]) X.env = (false, eval e X.env) :: starEach [e2] X.env := by rfl) (he2 : starEach (e2 :: []) X.env = (false, eval e2 X.env) :: starEach [] X.env := by rfl) (hpl : (backTo pos (starEach [e2] X.env)).any (·.1) = false := by rfl) :
    PE X (.Call (.Name "isinstance" p) [e, e2] [] pos) (tCB (rIsi X.K) (tCons t1 (tCons t2 tNil))) := pe_callB call_isi hg B.isi boot_isinstance' (pa_cons ha (pa_cons hb pa_nil he2) he) (he := he) (hpl := hpl)
theorem x_isiT (B : Bi X.mg) (ha : PE X e t1) (hb : PE X e2 t2) (hg : Gl X "isinstance" := by rfl)
    (he : starEach (e :: [e2]) X.env = (false, eval e X.env) :: starEach [e2] X.env := by rfl) (he2 : starEach (e2 :: []) X.env = (false, eval e2 X.env) :: starEach [] X.env := by rfl) (hpl : (backTo pos (starEach [e2] X.env)).any (·.1) = false := by rfl) :
    PE X (.Call (.Name "isinstance" p) [e, e2] [] pos) (tCB (rIsiT X.K) (tCons t1 (tCons t2 tNil))) := pe_callB call_isiT hg B.isi boot_isinstance' (pa_cons ha (pa_cons hb pa_nil he2) he) (he := he) (hpl := hpl)
theorem x_len (B : Bi X.mg) (ha : PE X e te) (hg : Gl X "len" := by rfl) (he : starEach (e :: []) X.env = (false, eval e X.env) :: starEach [] X.env := by rfl) (hpl : (backTo pos (starEach [] X.env)).any (·.1) = false := by rfl) :
    PE X (.Call (.Name "len" p) [e] [] pos) (tCB (rLenV X.K) (tCons te tNil)) := pe_callB call_len hg B.len boot_len (pa_cons ha pa_nil he) (he := he) (hpl := hpl)
def rMLen (w : World) : List V → Hp → VK → Prop := fun xs H Q => ∃ a kvs, xs = [.ref a] ∧ MAt w H a kvs ∧ Q (.int kvs.length) H
theorem x_mlen (B : Bi X.mg) (ha : PE X e te) (hg : Gl X "len" := by rfl) (he : starEach (e :: []) X.env = (false, eval e X.env) :: starEach [] X.env := by rfl) (hpl : (backTo pos (starEach [] X.env)).any (·.1) = false := by rfl) :
    PE X (.Call (.Name "len" p) [e] [] pos) (tCB (rMLen X.w) (tCons te tNil)) := pe_callB call_mlen hg B.len boot_len (pa_cons ha pa_nil he) (he := he) (hpl := hpl)
theorem x_max (B : Bi X.mg) (hc : X.calm = true) (ha : PE X e te) (hg : Gl X "max" := by rfl) (he : starEach (e :: []) X.env = (false, eval e X.env) :: starEach [] X.env := by rfl) (hpl : (backTo pos (starEach [] X.env)).any (·.1) = false := by rfl) :
    PE X (.Call (.Name "max" p) [e] [] pos) (tCB (rMax X.K) (tCons te tNil)) := pe_callB (cr_max hc) hg B.max boot_max' (pa_cons ha pa_nil he) (he := he) (hpl := hpl)
def rInt1 : List V → Hp → VK → Prop := fun xs H Q => (∃ i, xs = [.int i] ∧ Q (.int i) H) ∨ ∃ k, xs = [.bl k] ∧ Q (.int (if k then 1 else 0)) H
theorem x_int (B : Bi X.mg) (ha : PE X e te) (hg : Gl X "int" := by rfl) (he : starEach (e :: []) X.env = (false, eval e X.env) :: starEach [] X.env := by rfl) (hpl : (backTo pos (starEach [] X.env)).any (·.1) = false := by rfl) :
    PE X (.Call (.Name "int" p) [e] [] pos) (tCB rInt1 (tCons te tNil)) := pe_callTy call_int1 hg B.int boot_int' (pa_cons ha pa_nil he) (he := he) (hpl := hpl)
theorem x_tup (B : Bi X.mg) (ha : PE X e te) (hg : Gl X "tuple" := by rfl) (na : starEach [e] X.env = (false, eval e X.env) :: starEach [] X.env := by rfl) : PE X (.Call (.Name "tuple" p) [e] [] pos) (tThen te (kTup X.K)) := pe_tupleOf hg B.tuple ha na
theorem x_tupRg (B : Bi X.mg) (hc : X.calm = true) (ha : PE X e te) (hg : Gl X "tuple" := by rfl) (hg2 : Gl X "range" := by rfl) (na : starEach [e] X.env = (false, eval e X.env) :: starEach [] X.env := by rfl)
    (na2 : starEach [.Call (.Name "range" p2) [e] [] cpos] X.env = (false, eval (.Call (.Name "range" p2) [e] [] cpos) X.env) :: starEach [] X.env := by rfl) : PE X (.Call (.Name "tuple" p) [.Call (.Name "range" p2) [e] [] cpos] [] pos) (tTupRg (tRg1 te)) :=
  pe_tupRg hc hg B.tuple (prg_1 hg2 B.range ha na) na2
def rListS (K : PySem.W.Frag) : List V → Hp → VK → Prop := fun xs H Q => ∃ p ys, xs = [.ref p] ∧ (SqL K H p ys ∨ SqT K H p ys) ∧ ∀ l, H l = none → Q (.ref l) (upd H l (.lst ys))
theorem x_list (B : Bi X.mg) (ha : PE X e te) (hg : Gl X "list" := by rfl) (he : starEach (e :: []) X.env = (false, eval e X.env) :: starEach [] X.env := by rfl) (hpl : (backTo pos (starEach [] X.env)).any (·.1) = false := by rfl) :
    PE X (.Call (.Name "list" p) [e] [] pos) (tCB (rListS X.K) (tCons te tNil)) := pe_callTy call_list_of hg B.list boot_list' (pa_cons ha pa_nil he) (he := he) (hpl := hpl)
def rListM (w : World) : List V → Hp → VK → Prop := fun xs H Q => ∃ d kvs, xs = [V.ref d] ∧ MAt w H d kvs ∧ ∀ p vs, H p = none → KeyAll H (kvs.map (·.1)) vs → Q (.ref p) (upd H p (.lst vs))
theorem x_listM (B : Bi X.mg) (hc : X.calm = true) (ha : PE X e te) (hg : Gl X "list" := by rfl) (he : starEach (e :: []) X.env = (false, eval e X.env) :: starEach [] X.env := by rfl) (hpl : (backTo pos (starEach [] X.env)).any (·.1) = false := by rfl) :
    PE X (.Call (.Name "list" p) [e] [] pos) (tCB (rListM X.w) (tCons te tNil)) := pe_callTy (call_mlist hc) hg B.list boot_list' (pa_cons ha pa_nil he) (he := he) (hpl := hpl)
/-! ### subscripts, operators -/
theorem x_ixT (ha : PE X e1 t1) (hb : PE X e2 t2) (hs : PlainIx e2 := by intro _ _; rfl) : PE X (.Subscript e1 e2 pos) (tOp (rIxT X.K) t1 t2) := pe_ix ix_tup ha hb hs
theorem x_ixL (ha : PE X e1 t1) (hb : PE X e2 t2) (hs : PlainIx e2 := by intro _ _; rfl) : PE X (.Subscript e1 e2 pos) (tOp (rIxL X.K) t1 t2) := pe_ix ix_list ha hb hs
theorem x_ixM (hu : X.A.units + 9 < cLine) (ha : PE X e1 t1) (hb : PE X e2 t2) (hs : NoSl e2 := by intro _ _; rfl) : PE X (.Subscript e1 e2 pos) (tMGet X.w t1 t2) := pe_mget hu ha hb hs
theorem x_eqD (hu : X.A.units + 64 < cLine) (ha : PE X e1 t1) (hb : PE X e2 t2) : PE X (.Compare e1 [.Eq] [e2] pos) (tOp (rEqD X.K) t1 t2) := pe_cmpR (op_eqD hu) ha hb (nomark _)
theorem x_neD (hu : X.A.units + 64 < cLine) (ha : PE X e1 t1) (hb : PE X e2 t2) : PE X (.Compare e1 [.NotEq] [e2] pos) (tOp (rNeD X.K) t1 t2) := pe_cmpR (op_neD hu) ha hb (nomark _)
theorem y_eqD (hu : X.A.units + 64 < cLine) (ha : PE X e1 t1) (hb : PE X e2 t2) : PT X (.Compare e1 [.Eq] [e2] pos) (tTest (tOp (rEqD X.K) t1 t2)) := pt_cmpR (op_eqD hu) ha hb (nomark _)
theorem y_neD (hu : X.A.units + 64 < cLine) (ha : PE X e1 t1) (hb : PE X e2 t2) : PT X (.Compare e1 [.NotEq] [e2] pos) (tTest (tOp (rNeD X.K) t1 t2)) := pt_cmpR (op_neD hu) ha hb (nomark _)
theorem x_inT (ha : PE X e1 t1) (hb : PE X e2 t2) (hm : behindInMarks .In e2 = false := by with_unfolding_all rfl) : PE X (.Compare e1 [.In] [e2] pos) (tOp (rIn X.K false) t1 t2) := pe_cmpR op_in_seq ha hb hm
theorem x_ninT (ha : PE X e1 t1) (hb : PE X e2 t2) (hm : behindInMarks .NotIn e2 = false := by with_unfolding_all rfl) : PE X (.Compare e1 [.NotIn] [e2] pos) (tOp (rIn X.K true) t1 t2) := pe_cmpR op_notIn_seq ha hb hm
theorem y_inT (ha : PE X e1 t1) (hb : PE X e2 t2) (hm : behindInMarks .In e2 = false := by with_unfolding_all rfl) : PT X (.Compare e1 [.In] [e2] pos) (tTest (tOp (rIn X.K false) t1 t2)) := pt_cmpR op_in_seq ha hb hm
theorem y_ninT (ha : PE X e1 t1) (hb : PE X e2 t2) (hm : behindInMarks .NotIn e2 = false := by with_unfolding_all rfl) : PT X (.Compare e1 [.NotIn] [e2] pos) (tTest (tOp (rIn X.K true) t1 t2)) := pt_cmpR op_notIn_seq ha hb hm
theorem x_inL (hu : X.A.units + 65 < cLine) (ha : PE X e1 t1) (hb : PE X e2 t2) (hm : behindInMarks .In e2 = false := by with_unfolding_all rfl) : PE X (.Compare e1 [.In] [e2] pos) (tOp (rInD X.K) t1 t2) := pe_cmpR (op_inD hu) ha hb hm
theorem y_inL (hu : X.A.units + 65 < cLine) (ha : PE X e1 t1) (hb : PE X e2 t2) (hm : behindInMarks .In e2 = false := by with_unfolding_all rfl) : PT X (.Compare e1 [.In] [e2] pos) (tTest (tOp (rInD X.K) t1 t2)) := pt_cmpR (op_inD hu) ha hb hm
theorem y_ninL (hu : X.A.units + 65 < cLine) (ha : PE X e1 t1) (hb : PE X e2 t2) (hm : behindInMarks .NotIn e2 = false := by with_unfolding_all rfl) : PT X (.Compare e1 [.NotIn] [e2] pos) (tTest (tOp (rNotInD X.K) t1 t2)) := pt_cmpR (op_notInD hu) ha hb hm
theorem x_inM (hu : X.A.units + 9 < cLine) (ha : PE X e1 t1) (hb : PE X e2 t2) (hm : behindInMarks .In e2 = false := by with_unfolding_all rfl) : PE X (.Compare e1 [.In] [e2] pos) (tMIn X.w t1 t2) := pe_cmp (pc_min hu ha hb) hm
theorem y_ninM (hu : X.A.units + 9 < cLine) (ha : PE X e1 t1) (hb : PE X e2 t2) (hm : behindInMarks .NotIn e2 = false := by with_unfolding_all rfl) : PT X (.Compare e1 [.NotIn] [e2] pos) (tB (tMNotIn X.w t1 t2)) := pt_cmp (pc_mnotin hu ha hb) hm
abbrev rAddI : R2 := rI0 fun i j => .int (i + j)
abbrev rSubI : R2 := rI0 fun i j => .int (i - j)
abbrev rMulI : R2 := rI CMul fun i j => .int (i * j)
abbrev rDivI : R2 := rI CDiv fun i j => .int (i / j)
abbrev rModI : R2 := rI (fun _ j => 0 < j) fun i j => .int (i % j)
abbrev rPowI : R2 := rI CPow fun i j => .int (i ^ j.toNat)
abbrev rLt : R2 := rI0 fun i j => .bl (decide (i < j))
abbrev rLe : R2 := rI0 fun i j => .bl (decide (i ≤ j))
abbrev rGt : R2 := rI0 fun i j => .bl (decide (j < i))
abbrev rGe : R2 := rI0 fun i j => .bl (decide (j ≤ i))
theorem x_lt (ha : PE X e1 t1) (hb : PE X e2 t2) : PE X (.Compare e1 [.Lt] [e2] pos) (tOp rLt t1 t2) := pe_cmpR op_lt ha hb (nomark _)
theorem x_gt (ha : PE X e1 t1) (hb : PE X e2 t2) : PE X (.Compare e1 [.Gt] [e2] pos) (tOp rGt t1 t2) := pe_cmpR op_gt ha hb (nomark _)
theorem x_ge (ha : PE X e1 t1) (hb : PE X e2 t2) : PE X (.Compare e1 [.GtE] [e2] pos) (tOp rGe t1 t2) := pe_cmpR op_ge ha hb (nomark _)
theorem y_lt (ha : PE X e1 t1) (hb : PE X e2 t2) : PT X (.Compare e1 [.Lt] [e2] pos) (tTest (tOp rLt t1 t2)) := pt_cmpR op_lt ha hb (nomark _)
theorem y_gt (ha : PE X e1 t1) (hb : PE X e2 t2) : PT X (.Compare e1 [.Gt] [e2] pos) (tTest (tOp rGt t1 t2)) := pt_cmpR op_gt ha hb (nomark _)
theorem y_ge (ha : PE X e1 t1) (hb : PE X e2 t2) : PT X (.Compare e1 [.GtE] [e2] pos) (tTest (tOp rGe t1 t2)) := pt_cmpR op_ge ha hb (nomark _)
theorem x_neB (ha : PE X e1 t1) (hb : PE X e2 t2) : PE X (.Compare e1 [.NotEq] [e2] pos) (tOp rNe t1 t2) := pe_cmpR op_ne ha hb (nomark _)
theorem y_neB (ha : PE X e1 t1) (hb : PE X e2 t2) : PT X (.Compare e1 [.NotEq] [e2] pos) (tTest (tOp rNe t1 t2)) := pt_cmpR op_ne ha hb (nomark _)
theorem x_eqB (ha : PE X e1 t1) (hb : PE X e2 t2) : PE X (.Compare e1 [.Eq] [e2] pos) (tOp rEq t1 t2) := pe_cmpR op_eq ha hb (nomark _)
theorem y_eqB (ha : PE X e1 t1) (hb : PE X e2 t2) : PT X (.Compare e1 [.Eq] [e2] pos) (tTest (tOp rEq t1 t2)) := pt_cmpR op_eq ha hb (nomark _)
theorem x_isN {j pos'} (ha : PE X e1 t1) : PE X (.Compare e1 [.Is] [.Constant .none j pos'] pos) (tIsN t1) := pe_cmp (pc_isN ha) (nomark _)
theorem x_nNon {j pos'} (ha : PE X e1 t1) : PE X (.Compare e1 [.IsNot] [.Constant .none j pos'] pos) (tNotN t1) := pe_cmp (pc_notN ha) (nomark _)
theorem y_isN {j pos'} (ha : PE X e1 t1) : PT X (.Compare e1 [.Is] [.Constant .none j pos'] pos) (tB (tIsN t1)) := pt_cmp (pc_isN ha) (nomark _)
theorem y_nNon {j pos'} (ha : PE X e1 t1) : PT X (.Compare e1 [.IsNot] [.Constant .none j pos'] pos) (tB (tNotN t1)) := pt_cmp (pc_notN ha) (nomark _)
theorem y_tru (ha : PE X e te) (he : ∀ whole, isTrue e X.env whole = (do let v ← whole; standAt e.pos; holding [v] (truthy v)) := by intro _; rfl) : PT X e (tTru X.K te) := pt_truth ha he
end
end LX

set_option maxRecDepth 100000
set_option maxHeartbeats 4000000
namespace LX
open PySem PySem.Spec PyProof.Rows L2 MDict GxR GQ
section
variable {P : Program} {w : World} {K : PySem.W.Frag} {mg : Str → Option Value} {base : Heap}
/-- a def of the text stands at f; its code object at c -/
structure Df (K : PySem.W.Frag) (x qual : Str) (st : Stmt) (dvs : List V) (f c : Addr) : Prop where
  ex : ∃ fd, FunD K x qual (defArgs st) (defBody st) (defScope st) dvs [] f fd ∧ fd.code = .ref c
theorem df_of {p : Str × Option Str} {x qual : Str} {st : Stmt} {dvs : List V} {fd : FuncData} (F : FunD K x qual (defArgs st) (defBody st) (defScope st) dvs [] (He.fAd K p) fd) : Df K x qual st dvs (He.fAd K p) (He.cT K p).1 := by
  obtain ⟨oc, od, dV, kV, doc, pm, an, cdv, ct, osl, e, lk, hcd, h1, h2⟩ := id F.ex
  obtain ⟨c, hc⟩ := He.codeIn_ref hcd
  have e2 : fd.code = .ref c := by rw [e]; exact hc
  exact ⟨fd, F, by rw [show (He.cT K p).1 = c from He.codeOf_eq lk e2]; exact e2⟩
theorem Df.ok {CX : CXT} {x qual : Str} {st : Stmt} {dvs : List V} {f c : Addr} {N ps : List Str} {k : Nat} {sp : Sp} (F : Df K x qual st dvs f c) (S : FnScope N ps (defScope st)) (len : ∀ vs H Q E, sp vs H Q E → vs.length = ps.length)
    (hbody : ∀ (cdv : Value) (A : Around) (outer : List Env) (s : Shared) (H : Hp) (vs : List V) (Q : VK) (E : XK), cdv = .ref c → Room k (A.deeper (envOfC qual (defScope st) s.heap.objs.size f cdv)) → sp vs H Q E →
      ∃ t, PSs (cxOf CX P w K mg base N qual (defScope st) f cdv A outer s H E) (defBody st) t ∧ t { nx := fun _ H' => Q .non H', rt := Q } (start N vs) H) : ∃ fd, FnOk P w K mg base CX (k + 1) f fd ps sp ∧ FunD K x qual (defArgs st) (defBody st) (defScope st) dvs [] f fd := by
  obtain ⟨fd, F, hc⟩ := F.ex
  refine ⟨fd, ?_, F⟩
  obtain ⟨oc, od, dV, kV, doc, pm, an, cdv, ct, osl, rfl, lk, hcd, _, _⟩ := F.ex
  exact fn_of lk hcd S len fun A outer s H vs Q E hr hsp => hbody cdv A outer s H vs Q E hc hr hsp
/-- a def without defaults keeps its promise -/
theorem Df.fc {CX : CXT} {x : Str} {st : Stmt} {f c : Addr} {N ps : List Str} {k : Nat} {sp : Sp} (F : Df K x x st [] f c) (hm : mg x = some (.ref f)) (S : FnScope N ps (defScope st)) (len : ∀ vs H Q E, sp vs H Q E → vs.length = ps.length)
    (hb : ∀ (kV doc pm : Value) (an : Option Addr) (cdv ct : Value) (us : List Value), us.length = ps.length → bindArgs (PySem.W.fnOf x x (defArgs st) (defBody st) (defScope st) .none kV doc pm an cdv ct) ⟨us, []⟩ = pure (ps.zip us))
    (hbody : ∀ (cdv : Value) (A : Around) (outer : List Env) (s : Shared) (H : Hp) (vs : List V) (Q : VK) (E : XK), cdv = .ref c → Room k (A.deeper (envOfC x (defScope st) s.heap.objs.size f cdv)) → sp vs H Q E →
      ∃ t, PSs (cxOf CX P w K mg base N x (defScope st) f cdv A outer s H E) (defBody st) t ∧ t { nx := fun _ H' => Q .non H', rt := Q } (start N vs) H) : Fc P w K mg base CX (k + 1) x [] sp := by
  obtain ⟨fd, h1, h2⟩ := F.ok S len hbody
  exact ⟨f, fd, ps, [], h1, hm, h2.kp, h2.bindsN hb, .nil⟩
end
section
variable {X : Cx} {e e1 e2 e3 elt tg iter : Expr} {ifs : List Expr} {scope : Scope} {own : List (Str × Nat)} {pos gpos p : Pos} {wi : TI} {g : TG} {tt : TT} {te t1 t2 tk tv : TE} {c Pt : Addr} {k : Nat}
theorem x_all (hr : Room (k + 1) X.A) (B : Bi X.mg) (hc : X.calm = true) (hN : X.N.Nodup) (TB : TabB X.base X.mg c Pt) (hcode : X.env.code = .ref c) (S : GScope X.N X.env.scope scope own) (hi : PI X tg iter wi)
    (hg : ∀ (s : Shared) (H : Hp) (C : Addr) (cl : List (Str × Addr)) (code : Value) (fp : List Addr) (pn : List (Addr × Obj)), PG (gcx X s H (genEnv scope cl C code builtinsNs X.env) fp pn) tg g)
    (he : ∀ (s : Shared) (H : Hp) (C : Addr) (cl : List (Str × Addr)) (code : Value) (fp : List Addr) (pn : List (Addr × Obj)), Room k (gcx X s H (genEnv scope cl C code builtinsNs X.env) fp pn).A → PE (gcx X s H (genEnv scope cl C code builtinsNs X.env) fp pn) elt te)
    (hG : Gl X "all" := by rfl) (hs : ∀ v, genFold iter X.env v = pure v := by intro _; rfl)
    (hst : starEach [.GeneratorExp elt [⟨tg, iter, [], 0⟩] scope gpos] X.env = (false, eval (.GeneratorExp elt [⟨tg, iter, [], 0⟩] scope gpos) X.env) :: starEach [] X.env := by rfl) :
    PE X (.Call (.Name "all" p) [.GeneratorExp elt [⟨tg, iter, [], 0⟩] scope gpos] [] pos) (tQu Pt true wi g te (own.map (·.2))) :=
  pe_all hr hc hN hG B.all TB hcode S hi hg (fun s H C cl code fp pn => he s H C cl code fp pn (room_gen hr _)) (hs := hs) (hst := hst)
theorem x_any (hr : Room (k + 1) X.A) (B : Bi X.mg) (hc : X.calm = true) (hN : X.N.Nodup) (TB : TabB X.base X.mg c Pt) (hcode : X.env.code = .ref c) (S : GScope X.N X.env.scope scope own) (hi : PI X tg iter wi)
    (hg : ∀ (s : Shared) (H : Hp) (C : Addr) (cl : List (Str × Addr)) (code : Value) (fp : List Addr) (pn : List (Addr × Obj)), PG (gcx X s H (genEnv scope cl C code builtinsNs X.env) fp pn) tg g)
    (he : ∀ (s : Shared) (H : Hp) (C : Addr) (cl : List (Str × Addr)) (code : Value) (fp : List Addr) (pn : List (Addr × Obj)), Room k (gcx X s H (genEnv scope cl C code builtinsNs X.env) fp pn).A → PE (gcx X s H (genEnv scope cl C code builtinsNs X.env) fp pn) elt te)
    (hG : Gl X "any" := by rfl) (hs : ∀ v, genFold iter X.env v = pure v := by intro _; rfl)
    (hst : starEach [.GeneratorExp elt [⟨tg, iter, [], 0⟩] scope gpos] X.env = (false, eval (.GeneratorExp elt [⟨tg, iter, [], 0⟩] scope gpos) X.env) :: starEach [] X.env := by rfl) :
    PE X (.Call (.Name "any" p) [.GeneratorExp elt [⟨tg, iter, [], 0⟩] scope gpos] [] pos) (tQu Pt false wi g te (own.map (·.2))) :=
  pe_any hr hc hN hG B.any TB hcode S hi hg (fun s H C cl code fp pn => he s H C cl code fp pn (room_gen hr _)) (hs := hs) (hst := hst)
theorem x_rng (B : Bi X.mg) (ha : PE X e te) (hg : Gl X "range" := by rfl) (hs : starEach [e] X.env = [(false, eval e X.env)] := by rfl) (hs2 : starEach (e :: []) X.env = (false, eval e X.env) :: starEach [] X.env := by rfl) : PI X tg (.Call (.Name "range" p) [e] [] pos) (iRng1 (tCons te tNil)) := pi_range1 hg B.range (pa_cons ha pa_nil hs2) hs
theorem x_enumT {elts : List Expr} {kk : Nat} {tpos : Pos} (B : Bi X.mg) (ha : PE X e te) (hg : Gl X "enumerate" := by rfl) (hs : starEach [e] X.env = [(false, eval e X.env)] := by rfl) (hs2 : starEach (e :: []) X.env = (false, eval e X.env) :: starEach [] X.env := by rfl) :
    PI X (.Tuple elts kk tpos) (.Call (.Name "enumerate" p) [e] [] pos) (iEnumT X.K (tCons te tNil)) := pi_enumT hg B.enum (pa_cons ha pa_nil hs2) hs
end
end LX

set_option maxRecDepth 100000
set_option maxHeartbeats 4000000
namespace LX
open PySem PySem.Spec PyProof.Rows L2 MDict GxR GQ
theorem u9 {A : Around} {k : Nat} (hr : Room k A) : A.units + 9 < cLine := by have := hr.units; omega
theorem u64 {A : Around} {k : Nat} (hr : Room k A) : A.units + 64 < cLine := hr.units
theorem u65 {A : Around} {k : Nat} (hr : Room k A) : A.units + 65 < cLine := by have := hr.un; omega
section
variable {X : Cx} {e e1 e2 : Expr} {es : List Expr} {pos p apos cpos : Pos} {te t1 t2 : TE} {ta : TA}
theorem g_nm (i : Nat) {x : Str} (hN : X.N.Nodup) (hi : X.N[i]? = some x := by rfl) (hx : Loc X.env.scope x := by first | exact Or.inl rfl | exact Or.inr rfl) (hf : X.fn x = true ∨ X.env.scope.names.lookup x = some .local := by first | exact .inl rfl | exact .inr rfl) : PG X (.Name x pos) (gName i) := pg_name hN hi hx hf
theorem x_set {i : Nat} {x : Str} {pos' : Pos} (hN : X.N.Nodup) (he : PE X e te) (hi : X.N[i]? = some x := by rfl) (hx : Loc X.env.scope x := by first | exact Or.inl rfl | exact Or.inr rfl) (hs : swapsWith e (some (.Name x pos')) pos.line X.env = pure false := by rfl)
    (hf : X.fn x = true ∨ X.env.scope.names.lookup x = some .local := by first | exact .inl rfl | exact .inr rfl) : PS X (.Assign [.Name x pos'] e pos) (tAsg te (gName i)) := ps_set hN hi hx he hs hf
theorem x_aug {i : Nat} {x : Str} {op : Operator} {ti : TIp} {pos' : Pos} (hN : X.N.Nodup) (he : PE X e te) (ho : PIp X op ti) (hi : X.N[i]? = some x := by rfl) (hx : Loc X.env.scope x := by first | exact Or.inl rfl | exact Or.inr rfl)
    (hf : X.fn x = true ∨ X.env.scope.names.lookup x = some .local := by first | exact .inl rfl | exact .inr rfl) : PS X (.AugAssign (.Name x pos') op e pos) (tAug i te ti) := ps_aug hN hi hx he ho hf
theorem ip_ext : PIp X .Add rExt2 := fun pins s σ H x y v u Q I rx ry q => iop_ext pins s σ H x y v u Q I rx ry q
theorem x_true {j : Nat} : PE X (.Constant (.bool true) j pos) (tC (.bl true)) := pe_bl
theorem x_false {j : Nat} : PE X (.Constant (.bool false) j pos) (tC (.bl false)) := pe_bl
theorem x_gint {x : Str} {i : Int} (h : ∃ t, X.mg x = some (.int i t)) (hg : Gl X x := by rfl) (hd : (x == ("__debug__" : Str)) = false := by decide) : PE X (.Name x p) (tC (.int i)) := by
  obtain ⟨t, h⟩ := h
  exact pe_glob hg h ⟨t, rfl⟩ hd
/-- a method that keeps a promise -/
structure Fm (P : Program) (w : World) (K : PySem.W.Frag) (mg : Str → Option Value) (base : Heap) (CX : CXT) (k : Nat) (f : Addr) (dvs : List V) (sp : Sp) : Prop where
  ex : ∃ fd ps ds, FnOk P w K mg base CX k f fd ps sp ∧ Binds K fd ps ds ∧ Vals dvs ds
theorem Fm.mono {P : Program} {w : World} {K : PySem.W.Frag} {mg : Str → Option Value} {base : Heap} {CX : CXT} {j k : Nat} {f : Addr} {dvs : List V} {sp : Sp} (F : Fm P w K mg base CX j f dvs sp) (h : j ≤ k) : Fm P w K mg base CX k f dvs sp := by
  obtain ⟨fd, ps, ds, h1, h2⟩ := F.ex
  exact ⟨fd, ps, ds, h1.mono h, h2⟩
theorem x_meth {k : Nat} {C fM : Addr} {m : Str} {o : Expr} {dvs : List V} {sp : Sp} {pl : Sem Bool} (ho : PE X o t1) (T : Cls X.K C) (hM : Meth X.K C m fM) (F : Fm X.prog X.w X.K X.mg X.base CX0 k fM dvs sp) (hr : Room k X.A) (ha : PA X (e :: es) ta)
    (hst : starEach (e :: es) X.env = (false, eval e X.env) :: starEach es X.env := by rfl) (hpl : (backTo pos (starEach es X.env)).any (·.1) = false := by rfl)
    (ht : eval (.Call (.Attribute o m apos) (e :: es) [] pos) X.env = (do
      let ov ← eval o X.env
      standAt apos.atName
      let (f, first) ← holding [ov] (getMethod ov m pl)
      callWith pos f first (backTo pos (starEach (e :: es) X.env)) (backToKw pos (keywordEach [] X.env))) := by rfl) : PE X (.Call (.Attribute o m apos) (e :: es) [] pos) (tMeth C m sp dvs E0 t1 ta) := by
  obtain ⟨fd, ps, ds, h1, h2, h3⟩ := F.ex
  exact pe_meth ho T hM h1 hr h2 h3 pass0 ha hst hpl ht
end
end LX

set_option maxRecDepth 100000
set_option maxHeartbeats 4000000
namespace LX
open PySem PySem.Spec PyProof.Rows L2 MDict GxR GQ
open AutoSeq1 (wpAny_loadPart')
/-- t * 1 is t itself -/
theorem tuple_mul1 (l : Addr) (items : Array Value) (n : Nat) (dd : Option Addr) (sl : Array (Option Value)) (u : Tok) (c1 : (items.isEmpty || (1 : Int) == 1) = true) :
    Meets (Builtin.«tuple.__mul__» ⟨[.ref l, .int 1 u], []⟩) (fun _ R s => s.heap.get? l = some { cls := .type "tuple", data := .seq items n, dict := dd, slots := sl } ∧ R (.ok (.ret (Value.ref l))) s) :=
  .of_wp fun prog w A R s h => by
    obtain ⟨hp, g, d, tk, os⟩ := s
    obtain ⟨hl, h⟩ := h
    have f1 := AutoSeq1.idx_int
    wp_walk using wpAny_loadPart' hl
    repeat (first
      | (refine wpAny_ite_false (decide_eq_false (by decide)) ?_; wp_walk using wpAny_loadPart' hl)
      | (refine wpAny_ite_true (decide_eq_true c1) ?_; wp_walk using wpAny_loadPart' hl))
    exact ⟨_, rfl, h⟩
def rRepAny (K : PySem.W.Frag) : R2 := fun x y H Q => (∃ l xs, x = .ref l ∧ y = .int 1 ∧ SqT K H l xs ∧ Q (.ref l) H) ∨ rRepT K x y H Q
section
variable {X : Cx}
theorem op_repA : OpR X (binaryOp .Mult) (rRepAny X.K) := by
  intro pins s σ H x y v u Q I rx ry h
  rcases h with ⟨l, xs, rfl, rfl, hT, q⟩ | h
  · cases rx
    obtain ⟨t, rfl⟩ := ry
    obtain ⟨its, r, ⟨⟨cls, dd, data, sl⟩, ho, hc, n, hd⟩, hs⟩ := I.tuple hT
    simp only at hc hd
    subst hc hd
    exact wpAny_binaryOp_repeat_ref (T := "tuple") (U := "int") (by decide) ⟨_, ho, rfl⟩ (fun s' => typeIs_int s' 1 t) noFill_tuple_mul F.fills_int_mul F.slot_int_rmul repeat_tuple F.slot_int_index.lookup
      (call_meets F.slot_int_rmul (typeIs_int s 1 t) F.entry_int_rmul (F.args_int_rmul_2 _ _) (int_rmul_tuple 1 t l its.toArray n dd sl)
        ⟨ho, rfl, ⟨_, ho, rfl⟩, call_meets F.slot_tuple_mul ⟨_, ho, rfl⟩ F.entry_tuple_mul (F.args_tuple_mul_2 _ _) (tuple_mul1 l its.toArray n dd sl t (by simp)) ⟨ho, ⟨.ref l, H, I, rfl, q⟩⟩⟩)
  · exact op_repT pins s σ H x y v u Q I rx ry h
end
end LX

set_option maxRecDepth 100000
set_option maxHeartbeats 4000000
namespace LX
open PySem PySem.Spec PyProof.Rows L2 MDict GxR GQ
theorem k_ii : kitB "int" "int" = some true := by decide +kernel
theorem k_ib : kitB "int" "bool" = some false := by decide +kernel
theorem k_it : kitB "int" "tuple" = some false := by decide +kernel
theorem k_il : kitB "int" "list" = some false := by decide +kernel
theorem k_is : kitB "int" "str" = some false := by decide +kernel
theorem k_tt : kitB "tuple" "tuple" = some true := by decide +kernel
theorem k_ti : kitB "tuple" "int" = some false := by decide +kernel
theorem k_tl : kitB "tuple" "list" = some false := by decide +kernel
theorem k_tb : kitB "tuple" "bool" = some false := by decide +kernel
theorem k_ts : kitB "tuple" "str" = some false := by decide +kernel
theorem k_nt : kitB "NoneType" "tuple" = some false := by decide +kernel
theorem k_ni : kitB "NoneType" "int" = some false := by decide +kernel
theorem k_nb : kitB "NoneType" "bool" = some false := by decide +kernel
theorem k_nl : kitB "NoneType" "list" = some false := by decide +kernel
theorem k_ns : kitB "NoneType" "str" = some false := by decide +kernel
theorem k_lt : kitB "list" "tuple" = some false := by decide +kernel
theorem k_ll : kitB "list" "list" = some true := by decide +kernel
theorem k_li : kitB "list" "int" = some false := by decide +kernel
theorem k_lb : kitB "list" "bool" = some false := by decide +kernel
theorem k_ls : kitB "list" "str" = some false := by decide +kernel
theorem k_dt : kitB "dict" "tuple" = some false := by decide +kernel
theorem k_bt : kitB "bool" "tuple" = some false := by decide +kernel
theorem k_bi : kitB "bool" "int" = some true := by decide +kernel
theorem k_bb : kitB "bool" "bool" = some true := by decide +kernel
theorem k_bl : kitB "bool" "list" = some false := by decide +kernel
theorem k_bs : kitB "bool" "str" = some false := by decide +kernel
section
variable {K : PySem.W.Frag} {σ : L2.St} {H : Hp} {ta : TE} {i : Int} {ks : List D}
abbrev tIsi (K : PySem.W.Frag) (T : String) (ta : TE) : TE := tCB (rIsi K) (tCons ta (tCons (tC (.ty T)) tNil))
theorem i_ii (h : Ev ta σ H (PD (.num i))) : Ev (tIsi K "int" ta) σ H (PB true) := ev_isiD h k_ii
theorem i_ib (h : Ev ta σ H (PD (.num i))) : Ev (tIsi K "bool" ta) σ H (PB false) := ev_isiD h k_ib
theorem i_it (h : Ev ta σ H (PD (.num i))) : Ev (tIsi K "tuple" ta) σ H (PB false) := ev_isiD h k_it
theorem i_tt (h : Ev ta σ H (PD (.tup ks))) : Ev (tIsi K "tuple" ta) σ H (PB true) := ev_isiD h k_tt
theorem i_ti (h : Ev ta σ H (PD (.tup ks))) : Ev (tIsi K "int" ta) σ H (PB false) := ev_isiD h k_ti
theorem i_nt (h : Ev ta σ H (PD .none)) : Ev (tIsi K "tuple" ta) σ H (PB false) := ev_isiD h k_nt
end
section
variable {K : PySem.W.Frag} {σ : L2.St} {H : Hp} {ta tb te : TE} {i j : Int}
abbrev nm (n : Nat) : D := .num (n : Int)
theorem ev_add (ha : Ev ta σ H (PD (.num i))) (hb : Ev tb σ H (PD (.num j))) : Ev (tOp rAddI ta tb) σ H (PD (.num (i + j))) := ev_I0 ha hb fun _ => rfl
theorem ev_sub (ha : Ev ta σ H (PD (.num i))) (hb : Ev tb σ H (PD (.num j))) : Ev (tOp rSubI ta tb) σ H (PD (.num (i - j))) := ev_I0 ha hb fun _ => rfl
theorem ev_lt (ha : Ev ta σ H (PD (.num i))) (hb : Ev tb σ H (PD (.num j))) : Ev (tOp rLt ta tb) σ H (PB (decide (i < j))) := ev_I0 ha hb fun _ => rfl
theorem ev_gt (ha : Ev ta σ H (PD (.num i))) (hb : Ev tb σ H (PD (.num j))) : Ev (tOp rGt ta tb) σ H (PB (decide (j < i))) := ev_I0 ha hb fun _ => rfl
theorem ev_ge (ha : Ev ta σ H (PD (.num i))) (hb : Ev tb σ H (PD (.num j))) : Ev (tOp rGe ta tb) σ H (PB (decide (j ≤ i))) := ev_I0 ha hb fun _ => rfl
theorem ev_neI (ha : Ev ta σ H (PD (.num i))) (hb : Ev tb σ H (PD (.num j))) : Ev (tOp (rNeD K) ta tb) σ H (PB (!decide (i = j))) := ev_isB (ev_neD ha hb (Nat.zero_le _) (Nat.zero_le _)) (by
  congr 1
  exact decide_eq_decide.mpr ⟨fun e => NestedKey.num.inj e, fun e => by rw [e]⟩)
theorem ev_eqI (ha : Ev ta σ H (PD (.num i))) (hb : Ev tb σ H (PD (.num j))) : Ev (tOp (rEqD K) ta tb) σ H (PB (decide (i = j))) := ev_isB (ev_eqD ha hb (Nat.zero_le _) (Nat.zero_le _)) (decide_eq_decide.mpr ⟨fun e => NestedKey.num.inj e, fun e => by rw [e]⟩)
theorem at0 {ds : List D} {d : D} : atI (d :: ds) 0 = some d := by
  have := atI_nat (xs := d :: ds) (j := 0) (v := d) rfl
  simpa using this
theorem at1 {ds : List D} {c d : D} : atI (c :: d :: ds) 1 = some d := atI_nat (xs := c :: d :: ds) (j := 1) (v := d) rfl
theorem at2 {ds : List D} {b c d : D} : atI (b :: c :: d :: ds) 2 = some d := atI_nat (xs := b :: c :: d :: ds) (j := 2) (v := d) rfl
theorem ev_ix0 {d : D} {ds : List D} (ha : Ev ta σ H (PD (.tup (d :: ds)))) : Ev (tOp (rIxT K) ta (tC (.int 0))) σ H (PD d) := ev_ixT ha ev_int at0
theorem ev_ix1 {c d : D} {ds : List D} (ha : Ev ta σ H (PD (.tup (c :: d :: ds)))) : Ev (tOp (rIxT K) ta (tC (.int 1))) σ H (PD d) := ev_ixT ha ev_int at1
theorem ev_ix2 {b c d : D} {ds : List D} (ha : Ev ta σ H (PD (.tup (b :: c :: d :: ds)))) : Ev (tOp (rIxT K) ta (tC (.int 2))) σ H (PD d) := ev_ixT ha ev_int at2
theorem ev_ixN {ds : List D} {n : Nat} {d : D} (ha : Ev ta σ H (PD (.tup ds))) (hb : Ev tb σ H (PD (nm n))) (h : ds[n]? = some d) : Ev (tOp (rIxT K) ta tb) σ H (PD d) := ev_ixT ha hb (atI_nat h)
/-- term[1:] -/
theorem cut1 {d : D} {ds : List D} : cutD (d :: ds) (some 1) none = ds := by
  have e1 : HT.sIx (d :: ds).length 0 (some (1 : Int)) = 1 := by
    have := HT.sIx_nat (d :: ds).length 0 1
    rw [show ((1 : Nat) : Int) = 1 from rfl] at this
    rw [this]
    simp
  unfold cutD
  rw [e1, HT.sIx_none]
  simp
theorem ev_tail {d : D} {ds : List D} (ha : Ev te σ H (PD (.tup (d :: ds)))) : Ev (tSl (rSlA K) te (tPart (tC (.int 1))) tNoPart) σ H (PD (.tup ds)) := ev_slA ha (eo_some ev_int) eo_none cut1
theorem ev_callD {α : Type} {T : List Addr} {pre : α → Prop} {A : α → List (V → Hp → Prop)} {Rr : α → V → Hp → Prop} {E : XK} {ta : TA} {dvs : List V} {Ps : List (V → Hp → Prop)} (x : α) (ht : TabsG T H) (h : EvA ta σ H Ps) (hp : pre x) (hA : ∀ vs H', PsA Ps vs H' → PsA (A x) (vs ++ dvs) H') :
    Ev (tCall (spP T pre A Rr) dvs E ta) σ H (Rr x) := fun H1 e Q q =>
  h H1 e _ fun vs H2 e2 hv => ⟨ht.mono (e.trans e2), x, hp, hA vs H2 hv, fun v H' e' hr => q v H' (e2.trans e') hr⟩
end
/-- a def's promise that nobody may ask -/
theorem fc_never {P : Program} {w : World} {K : PySem.W.Frag} {mg : Str → Option Value} {base : Heap} {CX : CXT} {k : Nat} {x : Str} {f : Addr} {fd : FuncData} {ps : List Str} {ds : List Value} {dvs : List V} (hm : mg x = some (.ref f)) (hk : PySem.W.keepIn K (.ref f) = true) (hb : Binds K fd ps ds) (hd : Vals dvs ds) :
    Fc P w K mg base CX k x dvs (fun _ _ _ _ => False) := ⟨f, fd, ps, ds, ⟨fun _ _ _ _ h => h.elim, fun _ _ _ _ _ _ _ _ _ _ _ _ _ h => h.elim⟩, hm, hk, hb, hd⟩
theorem spP_len {α : Type} {T : List Addr} {pre : α → Prop} {A : α → List (V → Hp → Prop)} {R : α → V → Hp → Prop} {n : Nat} (hn : ∀ x, (A x).length = n) : ∀ vs H Q E, spP T pre A R vs H Q E → vs.length = n := by
  intro vs H Q E ⟨_, x, _, h, _⟩
  rw [← hn x]
  generalize A x = Ps at h
  clear hn
  induction Ps generalizing vs with
  | nil => cases (show vs = [] from h); rfl
  | cons P Ps ih =>
    obtain ⟨v, r, rfl, _, h2⟩ := h
    simp [ih r h2]
end LX

set_option maxRecDepth 100000
set_option maxHeartbeats 4000000
namespace LX
open PySem PySem.Spec PyProof.Rows L2 MDict GxR GQ
namespace D_is_number
abbrev st : Stmt := top 11
abbrev N : List Str := ["value", "low", "high"]
abbrev ps : List Str := ["value", "low", "high"]
theorem S : FnScope N ps (defScope st) := ⟨rfl, rfl, rfl, by decide +kernel, rfl, by decide +kernel, by decide +kernel⟩
def t (K : PySem.W.Frag) (w : World) : TS :=
  (tRet (tAndV (tCB (rIsi K) (tCons (tVar 0) (tCons (tC (.ty "int")) tNil))) (tAndV (tNotV (tCB (rIsi K) (tCons (tVar 0) (tCons (tC (.ty "bool")) tNil)))) (tChain rLe rLe (tVar 1) (tVar 0) (tVar 2)))))
theorem d {P : Program} {w : World} {K : PySem.W.Frag} {mg : Str → Option Value} {base : Heap} {f : Addr} {cdv : Value} {A : Around} {outer : List Env} {s : Shared} {H : Hp} {E : XK} {k : Nat} (B : Bi mg) (hr : Room (k) (A.deeper (envOfC "is_number" (defScope st) s.heap.objs.size f cdv))) :
    PSs (cxOf CX0 P w K mg base N "is_number" (defScope st) f cdv A outer s H E).nox (defBody st) (t K w) :=
  (pss_one (ps_ret (pe_and (x_isi B (pv 0) (x_ty B.int boot_int')) (pe_and (pe_not (x_isi B (pv 0) (x_ty B.bool boot_bool'))) (pe_one (pe_chain op_le op_le (pv 1) (pv 0) (pv 2)))))))
end D_is_number

namespace D_need_machine
abbrev st : Stmt := top 12
abbrev N : List Str := ["value", "cells", "functions", "reads"]
abbrev ps : List Str := ["value"]
theorem S : FnScope N ps (defScope st) := ⟨rfl, rfl, rfl, by decide +kernel, rfl, by decide +kernel, by decide +kernel⟩
def t (K : PySem.W.Frag) (w : World) (Pt : Addr) (sp_is_number : Sp) : TS :=
  (tSeq (tIfS (tOr (tNot (tB (tCB (rIsi K) (tCons (tVar 0) (tCons (tC (.ty "tuple")) tNil))))) (tTest (tOp (rNeD K) (tCB (rLenV K) (tCons (tVar 0) tNil)) (tC (.int 2))))) tNever tNext)
  (tSeq (tAsg (tVar 0) (gTup K 2 (gNames [1, 2])))
  (tSeq (tIfS (tNot (tB (tCall sp_is_number [] E0 (tCons (tVar 1) (tCons (tC (.int 1)) (tCons (tC (.int 4)) tNil)))))) tNever tNext)
  (tSeq (tIfS (tOr (tNot (tB (tCB (rIsi K) (tCons (tVar 2) (tCons (tC (.ty "tuple")) tNil))))) (tNot (tTest (tChain rLe rLe (tC (.int 1)) (tCB (rLenV K) (tCons (tVar 2) tNil)) (tC (.int 3)))))) tNever tNext)
  (tIfS (tNot (tB (tQu Pt true (iTup K (tVar 2)) (gName 3) (tCall sp_is_number [] E0 (tCons (tVar 3) (tCons (tC (.int 1)) (tCons (tC (.int 2)) tNil)))) [3]))) tNever tNext)))))
theorem d {P : Program} {w : World} {K : PySem.W.Frag} {mg : Str → Option Value} {base : Heap} {f c Pt : Addr} {cdv : Value} {A : Around} {outer : List Env} {s : Shared} {H : Hp} {E : XK} {k : Nat} {sp_is_number : Sp} (B : Bi mg) (hr : Room (k + 1) (A.deeper (envOfC "need_machine" (defScope st) s.heap.objs.size f cdv))) (TB : TabB base mg c Pt) (hcd : cdv = .ref c) (g_MOST_CELLS : ∃ t, mg "MOST_CELLS" = some (.int 4 t)) (g_MOST_FUNCTIONS : ∃ t, mg "MOST_FUNCTIONS" = some (.int 3 t)) (g_MOST_READ : ∃ t, mg "MOST_READ" = some (.int 2 t)) (F_is_number : Fc P w K mg base CX0 k "is_number" [] sp_is_number) :
    PSs (cxOf CX0 P w K mg base N "need_machine" (defScope st) f cdv A outer s H E).nox (defBody st) (t K w Pt sp_is_number) :=
  (pss_cons (ps_if ((pw_or (pt_not (pt_val (x_isi B (pv 0) (x_ty B.tuple boot_tuple')))) (pw_or1 (y_neD (u64 hr) (x_len B (pv 0)) pe_int)))).pt pss_never pss_nil)
  (pss_cons (ps_asg (pv 0) (pg_tup rfl (by exact (pgs_cons (g_nm 1 S.nd) (pgs_cons (g_nm 2 S.nd) pgs_nil)))))
  (pss_cons (ps_if (pt_not (pt_val (x_call F_is_number (hr.mono (by omega)) (by exact (pa_cons (pv 1) (pa_cons pe_int (pa_cons (x_gint g_MOST_CELLS) pa_nil))))))) pss_never pss_nil)
  (pss_cons (ps_if ((pw_or (pt_not (pt_val (x_isi B (pv 2) (x_ty B.tuple boot_tuple')))) (pw_or1 (pt_not (pt_chain op_le op_le pe_int (x_len B (pv 2)) (x_gint g_MOST_FUNCTIONS)))))).pt pss_never pss_nil)
  (pss_one (ps_if (pt_not (pt_val (x_all (own := [("reads", 3)]) (g := (gName 3)) hr B rfl S.nd TB hcd (gscope_by (N := N) (sc := defScope st) (by decide +kernel)) (pi_tup (pv 2)) (fun _ _ _ _ _ _ _ => (g_nm 3 S.nd)) (fun _ _ _ _ _ _ _ hr => (x_call F_is_number (hr.mono (by omega)) (by exact (pa_cons (pv 3) (pa_cons pe_int (pa_cons (x_gint g_MOST_READ) pa_nil))))))))) pss_never pss_nil))))))
end D_need_machine

namespace D_is_soft
abbrev st : Stmt := top 13
abbrev N : List Str := ["line"]
abbrev ps : List Str := ["line"]
theorem S : FnScope N ps (defScope st) := ⟨rfl, rfl, rfl, by decide +kernel, rfl, by decide +kernel, by decide +kernel⟩
def t (K : PySem.W.Frag) (w : World) : TS :=
  (tRet (tOp (rIn K true) (tOp (rIxT K) (tVar 0) (tC (.int 0))) (tOp (rIxT K) (tVar 0) (tC (.int 2)))))
theorem d {P : Program} {w : World} {K : PySem.W.Frag} {mg : Str → Option Value} {base : Heap} {f : Addr} {cdv : Value} {A : Around} {outer : List Env} {s : Shared} {H : Hp} {E : XK} {k : Nat} (B : Bi mg) (hr : Room (k) (A.deeper (envOfC "is_soft" (defScope st) s.heap.objs.size f cdv))) :
    PSs (cxOf CX0 P w K mg base N "is_soft" (defScope st) f cdv A outer s H E).nox (defBody st) (t K w) :=
  (pss_one (ps_ret (x_ninT (x_ixT (pv 0) pe_int) (x_ixT (pv 0) pe_int))))
end D_is_soft

namespace D_depth
abbrev st : Stmt := top 14
abbrev N : List Str := ["term", "part"]
abbrev ps : List Str := ["term"]
theorem S : FnScope N ps (defScope st) := ⟨rfl, rfl, rfl, by decide +kernel, rfl, by decide +kernel, by decide +kernel⟩
def t (K : PySem.W.Frag) (w : World) (sp_depth : Sp) : TS :=
  (tRet (tIf (tB (tCB (rIsi K) (tCons (tVar 0) (tCons (tC (.ty "tuple")) tNil)))) (tOp rAddI (tC (.int 1)) (tCB (rMax K) (tCons (tLc (iTup K (tSl (rSlA K) (tVar 0) (tPart (tC (.int 1))) tNoPart)) (gName 1) tYes (tCall sp_depth [] E0 (tCons (tVar 1) tNil)) [1]) tNil))) (tC (.int 1))))
theorem d {P : Program} {w : World} {K : PySem.W.Frag} {mg : Str → Option Value} {base : Heap} {f : Addr} {cdv : Value} {A : Around} {outer : List Env} {s : Shared} {H : Hp} {E : XK} {k : Nat} {sp_depth : Sp} (B : Bi mg) (hr : Room (k) (A.deeper (envOfC "depth" (defScope st) s.heap.objs.size f cdv))) (F_depth : Fc P w K mg base CX0 k "depth" [] sp_depth) :
    PSs (cxOf CX0 P w K mg base N "depth" (defScope st) f cdv A outer s H E).nox (defBody st) (t K w sp_depth) :=
  (pss_one (ps_ret (pe_ifExp (pt_val (x_isi B (pv 0) (x_ty B.tuple boot_tuple'))) (pe_op op_add pe_int (x_max B rfl (pe_lc (own := [("part", 1)]) (g := (gName 1)) (tt := tYes) rfl S.nd (pi_tup (pe_slice sl_tupA (pv 0) (po_some pe_int) po_none)) (blkOk_by (N := N) (sc := defScope st) (by decide +kernel)) (fun _ _ _ _ _ => (g_nm 1 S.nd)) (fun _ _ _ _ _ => pts_nil) (fun _ _ _ _ _ => (x_call F_depth (hr.mono (by omega)) (by exact (pa_cons (pv 1) pa_nil))))))) pe_int)))
end D_depth

namespace D_is_term
abbrev st : Stmt := top 15
abbrev N : List Str := ["machine", "value", "deep", "cells", "functions", "part"]
abbrev ps : List Str := ["machine", "value", "deep"]
theorem S : FnScope N ps (defScope st) := ⟨rfl, rfl, rfl, by decide +kernel, rfl, by decide +kernel, by decide +kernel⟩
def t (K : PySem.W.Frag) (w : World) (Pt : Addr) (sp_is_number : Sp) (sp_is_term3 : Sp) : TS :=
  (tSeq (tAsg (tVar 0) (gTup K 2 (gNames [3, 4])))
  (tSeq (tIfS (tNot (tB (tCB (rIsi K) (tCons (tVar 1) (tCons (tC (.ty "tuple")) tNil))))) (tRet (tCall sp_is_number [] E0 (tCons (tVar 1) (tCons (tC (.int 0)) (tCons (tOp rSubI (tVar 3) (tC (.int 1))) tNil))))) tNext)
  (tSeq (tIfS (tOr (tTest (tOp rLt (tVar 2) (tC (.int 2)))) (tOr (tNot (tTru K (tVar 1))) (tNot (tB (tCall sp_is_number [] E0 (tCons (tOp (rIxT K) (tVar 1) (tC (.int 0))) (tCons (tC (.int 0)) (tCons (tOp rSubI (tCB (rLenV K) (tCons (tVar 4) tNil)) (tC (.int 1))) tNil)))))))) (tRet (tC (.bl false))) tNext)
  (tSeq (tIfS (tTest (tOp (rNeD K) (tCB (rLenV K) (tCons (tVar 1) tNil)) (tOp rAddI (tC (.int 1)) (tOp (rIxT K) (tVar 4) (tOp (rIxT K) (tVar 1) (tC (.int 0))))))) (tRet (tC (.bl false))) tNext)
  (tRet (tQu Pt true (iTup K (tSl (rSlA K) (tVar 1) (tPart (tC (.int 1))) tNoPart)) (gName 5) (tCall sp_is_term3 [] E0 (tCons (tVar 0) (tCons (tVar 5) (tCons (tOp rSubI (tVar 2) (tC (.int 1))) tNil)))) [5]))))))
theorem d {P : Program} {w : World} {K : PySem.W.Frag} {mg : Str → Option Value} {base : Heap} {f c Pt : Addr} {cdv : Value} {A : Around} {outer : List Env} {s : Shared} {H : Hp} {E : XK} {k : Nat} {sp_is_number : Sp} {sp_is_term3 : Sp} (B : Bi mg) (hr : Room (k + 1) (A.deeper (envOfC "is_term" (defScope st) s.heap.objs.size f cdv))) (TB : TabB base mg c Pt) (hcd : cdv = .ref c) (F_is_number : Fc P w K mg base CX0 k "is_number" [] sp_is_number) (F_is_term3 : Fc P w K mg base CX0 k "is_term" [] sp_is_term3) :
    PSs (cxOf CX0 P w K mg base N "is_term" (defScope st) f cdv A outer s H E).nox (defBody st) (t K w Pt sp_is_number sp_is_term3) :=
  (pss_cons (ps_asg (pv 0) (pg_tup rfl (by exact (pgs_cons (g_nm 3 S.nd) (pgs_cons (g_nm 4 S.nd) pgs_nil)))))
  (pss_cons (ps_if (pt_not (pt_val (x_isi B (pv 1) (x_ty B.tuple boot_tuple')))) (pss_one (ps_ret (x_call F_is_number (hr.mono (by omega)) (by exact (pa_cons (pv 1) (pa_cons pe_int (pa_cons (pe_op op_sub (pv 3) pe_int) pa_nil))))))) pss_nil)
  (pss_cons (ps_if ((pw_or (y_lt (pv 2) pe_int) (pw_or (pt_not (y_tru (pv 1))) (pw_or1 (pt_not (pt_val (x_call F_is_number (hr.mono (by omega)) (by exact (pa_cons (x_ixT (pv 1) pe_int) (pa_cons pe_int (pa_cons (pe_op op_sub (x_len B (pv 4)) pe_int) pa_nil))))))))))).pt (pss_one (ps_ret x_false)) pss_nil)
  (pss_cons (ps_if (y_neD (u64 hr) (x_len B (pv 1)) (pe_op op_add pe_int (x_ixT (pv 4) (x_ixT (pv 1) pe_int)))) (pss_one (ps_ret x_false)) pss_nil)
  (pss_one (ps_ret (x_all (own := [("part", 5)]) (g := (gName 5)) hr B rfl S.nd TB hcd (gscope_by (N := N) (sc := defScope st) (by decide +kernel)) (pi_tup (pe_slice sl_tupA (pv 1) (po_some pe_int) po_none)) (fun _ _ _ _ _ _ _ => (g_nm 5 S.nd)) (fun _ _ _ _ _ _ _ hr => (x_call F_is_term3 (hr.mono (by omega)) (by exact (pa_cons (pv 0) (pa_cons (pv 5) (pa_cons (pe_op op_sub (pv 2) pe_int) pa_nil)))))))))))))
end D_is_term

namespace D_first_terms
abbrev st : Stmt := top 16
abbrev N : List Str := ["machine"]
abbrev ps : List Str := ["machine"]
theorem S : FnScope N ps (defScope st) := ⟨rfl, rfl, rfl, by decide +kernel, rfl, by decide +kernel, by decide +kernel⟩
def t (K : PySem.W.Frag) (w : World) : TS :=
  (tRet (tTupRg (tRg1 (tOp (rIxT K) (tVar 0) (tC (.int 0))))))
theorem d {P : Program} {w : World} {K : PySem.W.Frag} {mg : Str → Option Value} {base : Heap} {f : Addr} {cdv : Value} {A : Around} {outer : List Env} {s : Shared} {H : Hp} {E : XK} {k : Nat} (B : Bi mg) (hr : Room (k) (A.deeper (envOfC "first_terms" (defScope st) s.heap.objs.size f cdv))) :
    PSs (cxOf CX0 P w K mg base N "first_terms" (defScope st) f cdv A outer s H E).nox (defBody st) (t K w) :=
  (pss_one (ps_ret (x_tupRg B rfl (x_ixT (pv 0) pe_int))))
end D_first_terms

end LX

set_option maxRecDepth 100000
set_option maxHeartbeats 4000000
namespace LX
open PySem PySem.Spec PyProof.Rows L2 MDict GxR GQ
section
variable {K : PySem.W.Frag} {σ : L2.St} {H : Hp} {t : TT} {Dn : Ends} {tu tw tz : TS}
theorem q_yes (h : EvT t σ H true) (k : ∀ H1, Gx H H1 → tu { Dn with nx := tz Dn } σ H1) : tSeq (tIfS t tu tw) tz Dn σ H := q_if h (fun _ => k) fun z => Bool.noConfusion z
theorem q_no (h : EvT t σ H false) (k : ∀ H1, Gx H H1 → tw { Dn with nx := tz Dn } σ H1) : tSeq (tIfS t tu tw) tz Dn σ H := q_if h (fun z => Bool.noConfusion z) fun _ => k
theorem s_yes (h : EvT t σ H true) (k : ∀ H1, Gx H H1 → tu Dn σ H1) : tIfS t tu tw Dn σ H := s_if h (fun _ => k) fun z => Bool.noConfusion z
theorem s_pass (h : EvT t σ H false) (k : ∀ H1, Gx H H1 → Dn.nx σ H1) : tIfS t tu tNext Dn σ H := s_if h (fun z => Bool.noConfusion z) fun _ => k
end
/-! machines, lines, terms -/
def mD (n : Nat) (fs : List Nat) : D := .tup [nm n, .tup (fs.map nm)]
/-- a machine as the law makes them -/
structure MOk (n : Nat) (fs : List Nat) : Prop where
  n1 : 1 ≤ n
  n3 : n ≤ 3
  f1 : 1 ≤ fs.length
  f2 : fs.length ≤ 2
  r : ∀ r ∈ fs, r = 1 ∨ r = 2
structure Ln where
  c : Nat
  f : Option Nat
  s : List Nat
  deriving DecidableEq
def fD : Option Nat → D
  | none => .none
  | some f => nm f
def Ln.d (l : Ln) : D := .tup [nm l.c, fD l.f, .tup (l.s.map nm)]
def soft (l : Ln) : Bool := !decide (l.c ∈ l.s)
def hdN : List D → Bool
  | .num _ :: _ :: r => decide (r.length ≤ 1)
  | _ => false
mutual
def wfS : D → Bool
  | .num _ => true
  | .tup ks => hdN ks && wfSs ks
  | _ => false
def wfSs : List D → Bool
  | [] => true
  | k :: ks => wfS k && wfSs ks
end
def hdF (fs : List Nat) : List D → Bool
  | .num f :: a :: r => decide (0 ≤ f) && decide (fs[f.toNat]? = some (r.length + 1))
  | _ => false
mutual
def wfT (n : Nat) (fs : List Nat) : D → Bool
  | .num i => decide (0 ≤ i) && decide (i < n)
  | .tup ks => hdF fs ks && wfTl n fs ks
  | _ => false
def wfTl (n : Nat) (fs : List Nat) : List D → Bool
  | [] => false
  | _ :: ks => wfTs n fs ks
def wfTs (n : Nat) (fs : List Nat) : List D → Bool
  | [] => true
  | k :: ks => wfT n fs k && wfTs n fs ks
end
theorem wfSs_all : ∀ {ks : List D}, wfSs ks = true ↔ ∀ k ∈ ks, wfS k = true
  | [] => by simp [wfSs]
  | k :: ks => by simp [wfSs, wfSs_all (ks := ks)]
theorem wfTs_all {n : Nat} {fs : List Nat} : ∀ {ks : List D}, wfTs n fs ks = true ↔ ∀ k ∈ ks, wfT n fs k = true
  | [] => by simp [wfTs]
  | k :: ks => by simp [wfTs, wfTs_all (ks := ks)]
theorem hdN_shape {ks : List D} (h : hdN ks = true) : ∃ f a r, ks = .num f :: a :: r ∧ r.length ≤ 1 := by
  match ks, h with
  | .num f :: a :: r, h => exact ⟨f, a, r, rfl, of_decide_eq_true h⟩
theorem hdF_shape {fs : List Nat} {ks : List D} (h : hdF fs ks = true) : ∃ (f : Nat) (a : D) (r : List D), ks = nm f :: a :: r ∧ fs[f]? = some (r.length + 1) := by
  match ks, h with
  | .num f :: a :: r, h =>
    simp only [hdF, Bool.and_eq_true, decide_eq_true_eq] at h
    refine ⟨f.toNat, a, r, ?_, h.2⟩
    rw [show nm f.toNat = NestedKey.num f from congrArg NestedKey.num (Int.toNat_of_nonneg h.1)]
theorem depth_max {ks : List D} (h : ks ≠ []) : ∃ k ∈ ks, k.depth = NestedKey.depthAll ks := by
  induction ks with
  | nil => exact absurd rfl h
  | cons k ks ih =>
    simp only [NestedKey.depthAll]
    by_cases e : ks = []
    · subst e
      exact ⟨k, List.mem_cons_self, by simp [NestedKey.depthAll]⟩
    · obtain ⟨k', h1, h2⟩ := ih e
      by_cases hle : k.depth ≤ NestedKey.depthAll ks
      · exact ⟨k', List.mem_cons_of_mem _ h1, by rw [h2]; omega⟩
      · exact ⟨k, List.mem_cons_self, by omega⟩
theorem depth_tup {f : Int} {ks : List D} : (NestedKey.tup (.num f :: ks)).depth = NestedKey.depthAll ks + 1 := by
  simp only [NestedKey.depth, NestedKey.depthAll]
  omega

section
variable {P : Program} {w : World} {K : PySem.W.Frag} {mg : Str → Option Value} {base : Heap} {T : List Addr}
/-! is_number -/
def sp_is_number (T : List Addr) : Sp := spP (α := Int × Int × Int) T (fun _ => True) (fun x => [PD (.num x.1), PD (.num x.2.1), PD (.num x.2.2)]) fun x => PB (decide (x.2.1 ≤ x.1) && decide (x.1 ≤ x.2.2))
theorem pure_is_number : ∀ vs H Q E, sp_is_number T vs H Q E → D_is_number.t K w { nx := fun _ H' => Q .non H', rt := Q } (start D_is_number.N vs) H := by
  rintro vs H Q E ⟨hT, ⟨i, lo, hi⟩, _, ⟨v1, _, rfl, h1, v2, _, rfl, h2, v3, _, rfl, h3, rfl⟩, k⟩
  refine s_ret (P := PB (true && (!false && (decide (lo ≤ i) && decide (i ≤ hi))))) ?_ fun v H1 e hv => k v H1 e (by simpa using hv)
  exact ev_andV (i_ii (ev_var h1 rfl)) fun _ => ev_andV (ev_notV (i_ib (ev_var h1 rfl))) fun _ => ev_chainI (ev_var h2 rfl) (ev_var h1 rfl) (ev_var h3 rfl)
theorem ok_is_number {f c : Addr} {k : Nat} (F : Df K "is_number" "is_number" D_is_number.st [] f c) (hm : mg "is_number" = some (.ref f)) (B : Bi mg) : Fc P w K mg base CX0 (k + 1) "is_number" [] (sp_is_number T) :=
  F.fc hm D_is_number.S (spP_len fun _ => rfl) (fun _ _ _ _ _ _ us hl => match us, hl with | [_, _, _], _ => rfl) fun cdv A outer s H vs Q E hc hr h => ⟨_, PSs.nox (D_is_number.d B hr), pure_is_number vs H Q E h⟩
/-! need_machine -/
def sp_need_machine (T : List Addr) : Sp := spP (α := Nat × List Nat) T (fun x => MOk x.1 x.2) (fun x => [PD (mD x.1 x.2)]) fun _ => PV .non
def inN (lo hi : Int) : D → Bool
  | .num i => decide (lo ≤ i) && decide (i ≤ hi)
  | _ => false
theorem pure_need_machine {Pt : Addr} (hP : Pt ∈ T) : ∀ vs H Q E, sp_need_machine T vs H Q E → D_need_machine.t K w Pt (sp_is_number T) { nx := fun _ H' => Q .non H', rt := Q } (start D_need_machine.N vs) H := by
  rintro vs H Q E ⟨hT, ⟨n, fs⟩, m, ⟨v1, _, rfl, h1, rfl⟩, k⟩
  have m : MOk n fs := m
  have h1 : KeyH H (mD n fs) v1 := h1
  have n1 := m.n1; have n3 := m.n3; have f1 := m.f1; have f2 := m.f2
  refine q_pass (et_is (et_or (et_not (et_B (i_tt (ev_var (P := PD (mD n fs)) h1 rfl)))) fun _ => et_test (ev_neI (ev_lenT (ev_var (P := PD (mD n fs)) h1 rfl)) ev_int)) (by simp)) fun H1 e1 => ?_
  refine q_unp (ev_var (P := PD (mD n fs)) (mono_d e1 h1) rfl) rfl rfl fun vs2 H2 e2 hv => ?_
  obtain ⟨c, _, rfl, hc, fv, _, rfl, hf, rfl⟩ := hv
  refine q_pass (et_is (et_not (et_B (ev_call ((n : Int), 1, 4) ((hT.mono e1).mono e2) (ea_cons (ev_var hc rfl) (ea_cons ev_int (ea_cons ev_int ea_nil))) trivial))) (by simp; omega)) fun H3 e3 => ?_
  have hf3 := mono_d e3 hf
  refine q_pass (et_is (et_or (et_not (et_B (i_tt (ev_var (P := PD _) hf3 rfl)))) fun _ => et_not (et_test (ev_chainI ev_int (ev_lenT (ev_var (P := PD _) hf3 rfl)) ev_int))) (by simp; omega)) fun H4 e4 => ?_
  refine s_pass (et_is (et_not (et_B (ev_quT (f := inN 1 2) ((((hT.mono e1).mono e2).mono e3).mono e4 Pt hP) (ev_var (P := PD _) (mono_d e4 hf3) rfl) fun d x H5 e5 hd hx => ?_))) ?_) fun H5 e5 => k _ H5 (((((e1.trans e2).trans e3).trans e4).trans e5)) rfl
  · obtain ⟨r, hr, rfl⟩ := List.mem_map.mp hd
    exact ⟨_, tg_name, rfl, ev_call ((r : Int), 1, 2) (((((hT.mono e1).mono e2).mono e3).mono e4).mono e5) (ea_cons (ev_var (P := PD (nm r)) hx rfl) (ea_cons ev_int (ea_cons ev_int ea_nil))) trivial⟩
  · have : (fs.map nm).all (inN 1 2) = true := by
      rw [List.all_eq_true]
      intro d hd
      obtain ⟨r, hr, rfl⟩ := List.mem_map.mp hd
      have := m.r r hr
      show (decide ((1 : Int) ≤ r) && decide ((r : Int) ≤ 2)) = true
      simp; omega
    simp [this]
theorem ok_need_machine {f c Pt : Addr} {k : Nat} (F : Df K "need_machine" "need_machine" D_need_machine.st [] f c) (hm : mg "need_machine" = some (.ref f)) (B : Bi mg) (TB : TabB base mg c Pt) (hP : Pt ∈ T) (g1 : ∃ t, mg "MOST_CELLS" = some (.int 4 t)) (g2 : ∃ t, mg "MOST_FUNCTIONS" = some (.int 3 t)) (g3 : ∃ t, mg "MOST_READ" = some (.int 2 t))
    (F1 : Fc P w K mg base CX0 k "is_number" [] (sp_is_number T)) : Fc P w K mg base CX0 (k + 2) "need_machine" [] (sp_need_machine T) :=
  F.fc hm D_need_machine.S (spP_len fun _ => rfl) (fun _ _ _ _ _ _ us hl => match us, hl with | [_], _ => rfl) fun cdv A outer s H vs Q E hc hr h => ⟨_, PSs.nox (D_need_machine.d B hr TB hc g1 g2 g3 F1), pure_need_machine hP vs H Q E h⟩
/-! is_soft -/
def sp_is_soft (T : List Addr) : Sp := spP (α := Ln) T (fun _ => True) (fun l => [PD l.d]) fun l => PB (soft l)
theorem nms_eq (s : List Nat) : s.map nm = (s.map fun (x : Nat) => (x : Int)).map NestedKey.num := by rw [List.map_map]; rfl
theorem mem_cast {c : Nat} {s : List Nat} : ((c : Int) ∈ s.map fun (x : Nat) => (x : Int)) ↔ c ∈ s := by
  constructor
  · intro h
    obtain ⟨x, h1, h2⟩ := List.mem_map.mp h
    have : x = c := by omega
    exact this ▸ h1
  · exact fun h => List.mem_map.mpr ⟨c, h, rfl⟩
theorem ev_soft {σ : L2.St} {H : Hp} {te : TE} {l : Ln} (h : Ev te σ H (PD l.d)) : Ev (tOp (rIn K true) (tOp (rIxT K) te (tC (.int 0))) (tOp (rIxT K) te (tC (.int 2)))) σ H (PB (soft l)) := by
  refine ev_isB (ev_inT (i := (l.c : Int)) (is := l.s.map fun (x : Nat) => (x : Int)) (ev_ix0 h) (by rw [← nms_eq]; exact ev_ix2 h)) ?_
  simp only [if_true, soft]
  congr 1
  exact decide_eq_decide.mpr mem_cast
theorem pure_is_soft : ∀ vs H Q E, sp_is_soft T vs H Q E → D_is_soft.t K w { nx := fun _ H' => Q .non H', rt := Q } (start D_is_soft.N vs) H := by
  rintro vs H Q E ⟨hT, l, _, ⟨v1, _, rfl, h1, rfl⟩, k⟩
  exact s_ret (ev_soft (ev_var h1 rfl)) k
theorem ok_is_soft {f c : Addr} {k : Nat} (F : Df K "is_soft" "is_soft" D_is_soft.st [] f c) (hm : mg "is_soft" = some (.ref f)) (B : Bi mg) : Fc P w K mg base CX0 (k + 1) "is_soft" [] (sp_is_soft T) :=
  F.fc hm D_is_soft.S (spP_len fun _ => rfl) (fun _ _ _ _ _ _ us hl => match us, hl with | [_], _ => rfl) fun cdv A outer s H vs Q E hc hr h => ⟨_, PSs.nox (D_is_soft.d B hr), pure_is_soft vs H Q E h⟩
/-! depth -/
def sp_depth (T : List Addr) (b : Nat) : Sp := spP (α := D) T (fun d => wfS d = true ∧ d.depth ≤ b) (fun d => [PD d]) fun d => PD (nm (d.depth + 1))
theorem ev_depths {σ : L2.St} {H : Hp} {te : TE} {r : List D} (h : Ev te σ H (PL (r.map fun d => nm (d.depth + 1)))) (hne : r ≠ []) : Ev (tCB (rMax K) (tCons te tNil)) σ H (PD (nm (NestedKey.depthAll r + 1))) := by
  have e : (r.map fun d => nm (d.depth + 1)) = (r.map fun d => ((d.depth + 1 : Nat) : Int)).map NestedKey.num := by rw [List.map_map]; rfl
  rw [e] at h
  refine ev_max h (fun x hx hy => ?_) (by cases r with | nil => exact absurd rfl hne | cons _ _ => simp)
  obtain ⟨d, h1, rfl⟩ := List.mem_map.mp hx
  obtain ⟨d', h2, h3⟩ := depth_max hne
  have a := hy _ (List.mem_map.mpr ⟨d', h2, rfl⟩)
  have b := le_depths h1
  omega
theorem pure_depth {b : Nat} {spc : Sp} (hs : ∀ b', b = b' + 1 → spc = sp_depth T b') : ∀ vs H Q E, sp_depth T b vs H Q E → D_depth.t K w spc { nx := fun _ H' => Q .non H', rt := Q } (start D_depth.N vs) H := by
  rintro vs H Q E ⟨hT, d, ⟨hw, hd⟩, ⟨v1, _, rfl, h1, rfl⟩, k⟩
  refine s_ret ?_ k
  cases d with
  | none => simp [wfS] at hw
  | text _ => simp [wfS] at hw
  | num i => exact ev_if (et_B (i_it (ev_var h1 rfl))) (fun z => Bool.noConfusion z) fun _ => ev_int
  | tup ks =>
    simp only [wfS, Bool.and_eq_true] at hw
    obtain ⟨f, a, r, rfl, hl⟩ := hdN_shape hw.1
    obtain ⟨b', rfl⟩ : ∃ b', b = b' + 1 := ⟨b - 1, by rw [depth_tup] at hd; omega⟩
    have hs := hs b' rfl
    subst hs
    have hsub : ∀ d ∈ a :: r, wfS d = true ∧ d.depth ≤ b' := fun d hm => ⟨wfSs_all.mp hw.2 d (List.mem_cons_of_mem _ hm), by have := le_depths hm; rw [depth_tup] at hd; omega⟩
    refine ev_if (et_B (i_tt (ev_var h1 rfl))) (fun _ => ?_) fun z => Bool.noConfusion z
    refine ev_isD (ev_add ev_int (ev_depths (r := a :: r) (EvL.ev ?_) (by simp))) ?_
    · have e : (a :: r).map (fun d => nm (d.depth + 1)) = ((a :: r).filter fun _ => true).map fun d => nm (d.depth + 1) := by rw [List.filter_eq_self.mpr fun _ _ => rfl]
      rw [e]
      have hlen : (a :: r).length ≤ 40000 := by simp; omega
      refine el_lcT (ev_tail (ev_var (P := PD _) h1 rfl)) hlen fun d x H1 e1 hm hx => ⟨_, tg_name, rfl, et_yes, fun _ => ?_⟩
      exact ev_call d (hT.mono e1) (ea_cons (ev_var hx rfl) ea_nil) (hsub d hm)
    · rw [depth_tup]
      show NestedKey.num _ = NestedKey.num _
      congr 1
      omega
/-- how the defaults stand, and binding of a def without any -/
theorem fn_never {x : Str} {st : Stmt} {f c : Addr} {ps : List Str} {CX : CXT} {k : Nat} (F : Df K x x st [] f c) (hm : mg x = some (.ref f))
    (hb : ∀ (kV doc pm : Value) (an : Option Addr) (cdv ct : Value) (us : List Value), us.length = ps.length → bindArgs (PySem.W.fnOf x x (defArgs st) (defBody st) (defScope st) .none kV doc pm an cdv ct) ⟨us, []⟩ = pure (ps.zip us)) :
    Fc P w K mg base CX k x [] (fun _ _ _ _ => False) := by
  obtain ⟨fd, F, _⟩ := F.ex
  exact fc_never (ps := ps) hm F.kp (F.bindsN hb) .nil
theorem ok_depth {f c : Addr} (F : Df K "depth" "depth" D_depth.st [] f c) (hm : mg "depth" = some (.ref f)) (B : Bi mg) : ∀ b : Nat, Fc P w K mg base CX0 (b + 1) "depth" [] (sp_depth T b)
  | 0 => F.fc hm D_depth.S (spP_len fun _ => rfl) (fun _ _ _ _ _ _ us hl => match us, hl with | [_], _ => rfl) fun cdv A outer s H vs Q E hc hr h =>
      ⟨_, PSs.nox (D_depth.d B hr (fn_never (ps := D_depth.ps) F hm (fun _ _ _ _ _ _ us hl => match us, hl with | [_], _ => rfl))), pure_depth (fun _ e => by omega) vs H Q E h⟩
  | b + 1 => F.fc hm D_depth.S (spP_len fun _ => rfl) (fun _ _ _ _ _ _ us hl => match us, hl with | [_], _ => rfl) fun cdv A outer s H vs Q E hc hr h =>
      ⟨_, PSs.nox (D_depth.d B hr (ok_depth F hm B b)), pure_depth (fun b' e => by cases e; rfl) vs H Q E h⟩
end
end LX

set_option maxRecDepth 100000
set_option maxHeartbeats 4000000
namespace LX
open PySem PySem.Spec PyProof.Rows L2 MDict GxR GQ
namespace D_is_wish
abbrev st : Stmt := top 20
abbrev N : List Str := ["machine", "value"]
abbrev ps : List Str := ["machine", "value"]
theorem S : FnScope N ps (defScope st) := ⟨rfl, rfl, rfl, by decide +kernel, rfl, by decide +kernel, by decide +kernel⟩
def t (K : PySem.W.Frag) (w : World) (sp_is_number : Sp) (sp_is_term : Sp) : TS :=
  (tSeq (tIfS (tOr (tNot (tB (tCB (rIsi K) (tCons (tVar 1) (tCons (tC (.ty "tuple")) tNil))))) (tOr (tTest (tOp (rNeD K) (tCB (rLenV K) (tCons (tVar 1) tNil)) (tC (.int 2)))) (tNot (tB (tCall sp_is_number [] E0 (tCons (tOp (rIxT K) (tVar 1) (tC (.int 0))) (tCons (tC (.int 0)) (tCons (tOp rSubI (tOp (rIxT K) (tVar 0) (tC (.int 0))) (tC (.int 1))) tNil)))))))) (tRet (tC (.bl false))) tNext)
  (tRet (tCall sp_is_term [.int 8] E0 (tCons (tVar 0) (tCons (tOp (rIxT K) (tVar 1) (tC (.int 1))) tNil)))))
theorem d {P : Program} {w : World} {K : PySem.W.Frag} {mg : Str → Option Value} {base : Heap} {f : Addr} {cdv : Value} {A : Around} {outer : List Env} {s : Shared} {H : Hp} {E : XK} {k : Nat} {sp_is_number : Sp} {sp_is_term : Sp} (B : Bi mg) (hr : Room (k) (A.deeper (envOfC "is_wish" (defScope st) s.heap.objs.size f cdv))) (F_is_number : Fc P w K mg base CX0 k "is_number" [] sp_is_number) (F_is_term : Fc P w K mg base CX0 k "is_term" [.int 8] sp_is_term) :
    PSs (cxOf CX0 P w K mg base N "is_wish" (defScope st) f cdv A outer s H E).nox (defBody st) (t K w sp_is_number sp_is_term) :=
  (pss_cons (ps_if ((pw_or (pt_not (pt_val (x_isi B (pv 1) (x_ty B.tuple boot_tuple')))) (pw_or (y_neD (u64 hr) (x_len B (pv 1)) pe_int) (pw_or1 (pt_not (pt_val (x_call F_is_number (hr.mono (by omega)) (by exact (pa_cons (x_ixT (pv 1) pe_int) (pa_cons pe_int (pa_cons (pe_op op_sub (x_ixT (pv 0) pe_int) pe_int) pa_nil))))))))))).pt (pss_one (ps_ret x_false)) pss_nil)
  (pss_one (ps_ret (x_call F_is_term (hr.mono (by omega)) (by exact (pa_cons (pv 0) (pa_cons (x_ixT (pv 1) pe_int) pa_nil)))))))
end D_is_wish

namespace D_need_wishes
abbrev st : Stmt := top 21
abbrev N : List Str := ["machine", "value", "index", "wish"]
abbrev ps : List Str := ["machine", "value"]
theorem S : FnScope N ps (defScope st) := ⟨rfl, rfl, rfl, by decide +kernel, rfl, by decide +kernel, by decide +kernel⟩
def t (K : PySem.W.Frag) (w : World) (sp_is_wish : Sp) : TS :=
  (tSeq (tIfS (tOr (tNot (tB (tCB (rIsi K) (tCons (tVar 1) (tCons (tC (.ty "tuple")) tNil))))) (tNot (tTru K (tVar 1)))) tNever tNext)
  (tFor (iEnumT K (tCons (tVar 1) tNil)) (gTup K 2 (gNames [2, 3])) (tIfS (tOr (tNot (tB (tCall sp_is_wish [] E0 (tCons (tVar 0) (tCons (tVar 3) tNil))))) (tAnd (tTest (tOp rGt (tVar 2) (tC (.int 0)))) (tTest (tOp rGe (tOp (rIxT K) (tOp (rIxT K) (tVar 1) (tOp rSubI (tVar 2) (tC (.int 1)))) (tC (.int 0))) (tOp (rIxT K) (tVar 3) (tC (.int 0))))))) tNever tNext)))
theorem d {P : Program} {w : World} {K : PySem.W.Frag} {mg : Str → Option Value} {base : Heap} {f : Addr} {cdv : Value} {A : Around} {outer : List Env} {s : Shared} {H : Hp} {E : XK} {k : Nat} {sp_is_wish : Sp} (B : Bi mg) (hr : Room (k) (A.deeper (envOfC "need_wishes" (defScope st) s.heap.objs.size f cdv))) (F_is_wish : Fc P w K mg base CX0 k "is_wish" [] sp_is_wish) :
    PSs (cxOf CX0 P w K mg base N "need_wishes" (defScope st) f cdv A outer s H E).nox (defBody st) (t K w sp_is_wish) :=
  (pss_cons (ps_if ((pw_or (pt_not (pt_val (x_isi B (pv 1) (x_ty B.tuple boot_tuple')))) (pw_or1 (pt_not (y_tru (pv 1)))))).pt pss_never pss_nil)
  (pss_one (ps_for PassesOwn.never rfl (x_enumT B (pv 1)) (pg_tup rfl (by exact (pgs_cons (g_nm 2 S.nd) (pgs_cons (g_nm 3 S.nd) pgs_nil)))) (pss_one (ps_if ((pw_or (pt_not (pt_val (x_call F_is_wish (hr.mono (by omega)) (by exact (pa_cons (pv 0) (pa_cons (pv 3) pa_nil)))))) (pw_or1 ((pw_and (y_gt (pv 2) pe_int) (pw_and1 (y_ge (x_ixT (x_ixT (pv 1) (pe_op op_sub (pv 2) pe_int)) pe_int) (x_ixT (pv 3) pe_int))))).pt))).pt pss_never pss_nil)))))
end D_need_wishes

namespace D_fulfilled
abbrev st : Stmt := top 22
abbrev N : List Str := ["held", "wishes", "cell", "term"]
abbrev ps : List Str := ["held", "wishes"]
theorem S : FnScope N ps (defScope st) := ⟨rfl, rfl, rfl, by decide +kernel, rfl, by decide +kernel, by decide +kernel⟩
def t (K : PySem.W.Frag) (w : World) (Pt : Addr) : TS :=
  (tRet (tQu Pt true (iTup K (tVar 1)) (gTup K 2 (gNames [2, 3])) (tOp (rEqD K) (tOp (rIxT K) (tVar 0) (tVar 2)) (tVar 3)) [2, 3]))
theorem d {P : Program} {w : World} {K : PySem.W.Frag} {mg : Str → Option Value} {base : Heap} {f c Pt : Addr} {cdv : Value} {A : Around} {outer : List Env} {s : Shared} {H : Hp} {E : XK} {k : Nat} (B : Bi mg) (hr : Room (k + 1) (A.deeper (envOfC "fulfilled" (defScope st) s.heap.objs.size f cdv))) (TB : TabB base mg c Pt) (hcd : cdv = .ref c) :
    PSs (cxOf CX0 P w K mg base N "fulfilled" (defScope st) f cdv A outer s H E).nox (defBody st) (t K w Pt) :=
  (pss_one (ps_ret (x_all (own := [("cell", 2), ("term", 3)]) (g := (gTup K 2 (gNames [2, 3]))) hr B rfl S.nd TB hcd (gscope_by (N := N) (sc := defScope st) (by decide +kernel)) (pi_tup (pv 1)) (fun _ _ _ _ _ _ _ => (pg_tup rfl (by exact (pgs_cons (g_nm 2 S.nd) (pgs_cons (g_nm 3 S.nd) pgs_nil))))) (fun _ _ _ _ _ _ _ hr => (x_eqD (u64 hr) (x_ixT (pv 0) (pv 2)) (pv 3))))))
end D_fulfilled

namespace D_parts_of
abbrev st : Stmt := top 26
abbrev N : List Str := ["term", "found", "part"]
abbrev ps : List Str := ["term"]
theorem S : FnScope N ps (defScope st) := ⟨rfl, rfl, rfl, by decide +kernel, rfl, by decide +kernel, by decide +kernel⟩
def t (K : PySem.W.Frag) (w : World) (sp_parts_of : Sp) : TS :=
  (tSeq (tAsg (tLst (tCons (tVar 0) tNil)) (gName 1))
  (tSeq (tIfS (tB (tCB (rIsi K) (tCons (tVar 0) (tCons (tC (.ty "tuple")) tNil)))) (tFor (iTup K (tSl (rSlA K) (tVar 0) (tPart (tC (.int 1))) tNoPart)) (gName 2) (tAug 1 (tCall sp_parts_of [] E0 (tCons (tVar 2) tNil)) rExt2)) tNext)
  (tRet (tVar 1))))
theorem d {P : Program} {w : World} {K : PySem.W.Frag} {mg : Str → Option Value} {base : Heap} {f : Addr} {cdv : Value} {A : Around} {outer : List Env} {s : Shared} {H : Hp} {E : XK} {k : Nat} {sp_parts_of : Sp} (B : Bi mg) (hr : Room (k) (A.deeper (envOfC "parts_of" (defScope st) s.heap.objs.size f cdv))) (F_parts_of : Fc P w K mg base CX0 k "parts_of" [] sp_parts_of) :
    PSs (cxOf CX0 P w K mg base N "parts_of" (defScope st) f cdv A outer s H E).nox (defBody st) (t K w sp_parts_of) :=
  (pss_cons (x_set (i := 1) S.nd (pe_lst (by exact (pa_cons (pv 0) pa_nil))))
  (pss_cons (ps_if (pt_val (x_isi B (pv 0) (x_ty B.tuple boot_tuple'))) (pss_one (ps_for PassesOwn.never rfl (pi_tup (pe_slice sl_tupA (pv 0) (po_some pe_int) po_none)) (g_nm 2 S.nd) (pss_one (x_aug (i := 1) S.nd (x_call F_parts_of (hr.mono (by omega)) (by exact (pa_cons (pv 2) pa_nil))) ip_ext)))) pss_nil)
  (pss_one (ps_ret (pv 1)))))
end D_parts_of

namespace D_all_parts
abbrev st : Stmt := top 27
abbrev N : List Str := ["wishes", "found", "_", "term", "part"]
abbrev ps : List Str := ["wishes"]
theorem S : FnScope N ps (defScope st) := ⟨rfl, rfl, rfl, by decide +kernel, rfl, by decide +kernel, by decide +kernel⟩
def t (K : PySem.W.Frag) (w : World) (sp_parts_of : Sp) : TS :=
  (tSeq (tAsg (tMNew w) (gName 1))
  (tSeq (tFor (iTup K (tVar 0)) (gTup K 2 (gNames [2, 3])) (tFor (iList K (tCall sp_parts_of [] E0 (tCons (tVar 3) tNil))) (gName 4) (tDrop (tMSdef w (tVar 1) (tVar 4) (tCB (rMLen w) (tCons (tVar 1) tNil))))))
  (tSeq (tIfS (tTest (tOp rGt (tCB (rMLen w) (tCons (tVar 1) tNil)) (tC (.int 16)))) tNever tNext)
  (tRet (tVar 1)))))
theorem d {P : Program} {w : World} {K : PySem.W.Frag} {mg : Str → Option Value} {base : Heap} {f : Addr} {cdv : Value} {A : Around} {outer : List Env} {s : Shared} {H : Hp} {E : XK} {k : Nat} {sp_parts_of : Sp} (B : Bi mg) (hr : Room (k) (A.deeper (envOfC "all_parts" (defScope st) s.heap.objs.size f cdv))) (g_MOST_PARTS : ∃ t, mg "MOST_PARTS" = some (.int 16 t)) (F_parts_of : Fc P w K mg base CX0 k "parts_of" [] sp_parts_of) :
    PSs (cxOf CX0 P w K mg base N "all_parts" (defScope st) f cdv A outer s H E).nox (defBody st) (t K w sp_parts_of) :=
  (pss_cons (x_set (i := 1) S.nd pe_mnew)
  (pss_cons (ps_for PassesOwn.never rfl (pi_tup (pv 0)) (pg_tup rfl (by exact (pgs_cons (g_nm 2 S.nd) (pgs_cons (g_nm 3 S.nd) pgs_nil)))) (pss_one (ps_for PassesOwn.never rfl (pi_list (x_call F_parts_of (hr.mono (by omega)) (by exact (pa_cons (pv 3) pa_nil)))) (g_nm 4 S.nd) (pss_one (ps_expr (pe_msdef (u9 hr) (pv 1) (pv 4) (x_mlen B (pv 1)) ⟨rfl, rfl, rfl, rfl⟩))))))
  (pss_cons (ps_if (y_gt (x_mlen B (pv 1)) (x_gint g_MOST_PARTS)) pss_never pss_nil)
  (pss_one (ps_ret (pv 1))))))
end D_all_parts

namespace D_all_lines
abbrev st : Stmt := top 28
abbrev N : List Str := ["machine", "rows", "found", "cell", "cells", "functions", "one", "other", "function", "reads", "source", "sources"]
abbrev ps : List Str := ["machine"]
theorem S : FnScope N ps (defScope st) := ⟨rfl, rfl, rfl, by decide +kernel, rfl, by decide +kernel, by decide +kernel⟩
def t (K : PySem.W.Frag) (w : World) : TS :=
  (tSeq (tAsg (tVar 0) (gTup K 2 (gNames [4, 5])))
  (tSeq (tAsg (tMOne w (tC (.int 1)) (tLc (iRng1 (tCons (tVar 4) tNil)) (gName 6) tYes (tTup (tCons (tVar 6) tNil)) [6])) (gName 1))
  (tSeq (sMPut w (tVar 1) (tC (.int 2)) (tLc2 (iRng1 (tCons (tVar 4) tNil)) (gName 6) tYes (iRng1 (tCons (tVar 4) tNil)) (gName 7) tYes (tTup (tCons (tVar 6) (tCons (tVar 7) tNil))) [6, 7] [7]))
  (tSeq (tAsg (tLst tNil) (gName 2))
  (tSeq (tFor (iRng1 (tCons (tVar 4) tNil)) (gName 3) (tSeq (tFor (iEnumT K (tCons (tVar 5) tNil)) (gTup K 2 (gNames [8, 9])) (tAug 2 (tLc (iList K (tMGet w (tVar 1) (tVar 9))) (gName 11) tYes (tTup (tCons (tVar 3) (tCons (tVar 8) (tCons (tVar 11) tNil)))) [11]) rExt2))
  (tAug 2 (tLc (iRng1 (tCons (tVar 4) tNil)) (gName 10) (tTest (tOp (rNeD K) (tVar 10) (tVar 3))) (tTup (tCons (tVar 3) (tCons (tC .non) (tCons (tTup (tCons (tVar 10) tNil)) tNil)))) [10]) rExt2)))
  (tRet (tVar 2)))))))
theorem d {P : Program} {w : World} {K : PySem.W.Frag} {mg : Str → Option Value} {base : Heap} {f : Addr} {cdv : Value} {A : Around} {outer : List Env} {s : Shared} {H : Hp} {E : XK} {k : Nat} (B : Bi mg) (hr : Room (k) (A.deeper (envOfC "all_lines" (defScope st) s.heap.objs.size f cdv))) :
    PSs (cxOf CX0 P w K mg base N "all_lines" (defScope st) f cdv A outer s H E).nox (defBody st) (t K w) :=
  (pss_cons (ps_asg (pv 0) (pg_tup rfl (by exact (pgs_cons (g_nm 4 S.nd) (pgs_cons (g_nm 5 S.nd) pgs_nil)))))
  (pss_cons (x_set (i := 1) S.nd (pe_mone (u9 hr) pe_int (pe_lc (own := [("one", 6)]) (g := (gName 6)) (tt := tYes) rfl S.nd (x_rng B (pv 4)) (blkOk_by (N := N) (sc := defScope st) (by decide +kernel)) (fun _ _ _ _ _ => (g_nm 6 S.nd)) (fun _ _ _ _ _ => pts_nil) (fun _ _ _ _ _ => (pe_tup (by exact (pa_cons (pv 6) pa_nil)))))))
  (pss_cons (ps_mput (u9 hr) (pv 1) pe_int (pe_lc2 (own := [("one", 6), ("other", 7)]) (vs1 := [7]) (g := (gName 6)) (tt := tYes) (g1 := (gName 7)) (tt1 := tYes) rfl S.nd (x_rng B (pv 4)) (blkOk_by (N := N) (sc := defScope st) (by decide +kernel)) (by decide) (fun _ _ _ _ _ => (g_nm 6 S.nd)) (fun _ _ _ _ _ => pts_nil) (fun _ _ _ _ _ => (x_rng B (pv 4))) (fun _ _ _ _ _ => (g_nm 7 S.nd)) (fun _ _ _ _ _ => pts_nil) (fun _ _ _ _ _ => (pe_tup (by exact (pa_cons (pv 6) (pa_cons (pv 7) pa_nil)))))) rfl)
  (pss_cons (x_set (i := 2) S.nd (pe_lst (by exact pa_nil)))
  (pss_cons (ps_for PassesOwn.never rfl (x_rng B (pv 4)) (g_nm 3 S.nd) (pss_cons (ps_for PassesOwn.never rfl (x_enumT B (pv 5)) (pg_tup rfl (by exact (pgs_cons (g_nm 8 S.nd) (pgs_cons (g_nm 9 S.nd) pgs_nil)))) (pss_one (x_aug (i := 2) S.nd (pe_lc (own := [("sources", 11)]) (g := (gName 11)) (tt := tYes) rfl S.nd (pi_list (x_ixM (u9 hr) (pv 1) (pv 9))) (blkOk_by (N := N) (sc := defScope st) (by decide +kernel)) (fun _ _ _ _ _ => (g_nm 11 S.nd)) (fun _ _ _ _ _ => pts_nil) (fun _ _ _ _ _ => (pe_tup (by exact (pa_cons (pv 3) (pa_cons (pv 8) (pa_cons (pv 11) pa_nil))))))) ip_ext)))
  (pss_one (x_aug (i := 2) S.nd (pe_lc (own := [("source", 10)]) (g := (gName 10)) (tt := (tTest (tOp (rNeD K) (tVar 10) (tVar 3)))) rfl S.nd (x_rng B (pv 4)) (blkOk_by (N := N) (sc := defScope st) (by decide +kernel)) (fun _ _ _ _ _ => (g_nm 10 S.nd)) (fun _ _ _ _ _ => (pts_one (y_neD (u64 hr) (pv 10) (pv 3)))) (fun _ _ _ _ _ => (pe_tup (by exact (pa_cons (pv 3) (pa_cons pe_non (pa_cons (pe_tup (by exact (pa_cons (pv 10) pa_nil))) pa_nil))))))) ip_ext))))
  (pss_one (ps_ret (pv 2))))))))
end D_all_lines

end LX

set_option maxRecDepth 100000
set_option maxHeartbeats 4000000
namespace LX
open PySem PySem.Spec PyProof.Rows L2 MDict GxR GQ
section
variable {K : PySem.W.Frag} {σ : L2.St} {H : Hp} {ta te : TE} {Dn : Ends} {tu : TS} {g : TG}
/-- a loop over an iterator, by the turn -/
theorem for_by {J : It} {H : Hp} (n : Nat) (Pv : Nat → L2.St → Hp → Prop) (h0 : Pv 0 σ H) (hgo : ∀ i σ H, i < n → Pv i σ H → J.go i H) (hst : ∀ σ H, Pv n σ H → J.stop n H ∧ Dn.nx σ H)
    (hs : ∀ i σ H x H', i < n → Pv i σ H → J.yld i H x H' → g x σ H' fun σ2 H2 => tu { Dn with nx := Pv (i + 1), ct := Pv (i + 1), bk := Dn.nx } σ2 H2) :
    ∃ W : Nat → Nat → L2.St → Hp → Prop, (∃ m, W 0 m σ H) ∧ ∀ i m σ H, W i m σ H →
      (J.stop i H ∧ Dn.nx σ H) ∨ (J.go i H ∧ ∃ N : L2.St → Hp → Prop, (∀ σ' H', N σ' H' → ∃ m', m' < m ∧ W (i + 1) m' σ' H') ∧ ∀ x H', J.yld i H x H' → g x σ H' fun σ2 H2 => tu { Dn with nx := N, ct := N, bk := Dn.nx } σ2 H2) := by
  refine ⟨fun i m σ H => m = n - i ∧ i ≤ n ∧ Pv i σ H, ⟨n, by simp, Nat.zero_le _, h0⟩, ?_⟩
  rintro i m σ H ⟨rfl, hi, p⟩
  by_cases hlt : i < n
  · exact .inr ⟨hgo i σ H hlt p, Pv (i + 1), fun σ' H' p' => ⟨n - (i + 1), by omega, rfl, hlt, p'⟩, fun x H' y => hs i σ H x H' hlt p y⟩
  · have e : i = n := by omega
    subst e
    exact .inl (hst σ H p)
/-- for i, x in enumerate(a tuple) -/
theorem s_forET {ds : List D} (h : Ev ta σ H (PD (.tup ds))) (Pv : Hp → Nat → L2.St → Hp → Prop) (h0 : ∀ H1, Gx H H1 → Pv H1 0 σ H1) (hk : ∀ H1 i σ' H', Gx H H1 → Pv H1 i σ' H' → Tk H1 H')
    (hs : ∀ H1 i d v σ' H' H'', Gx H H1 → ds[i]? = some d → Pv H1 i σ' H' → Gx H' H'' → KeyH H'' (.tup [nm i, d]) v → g v σ' H'' fun σ2 H2 => tu { Dn with nx := Pv H1 (i + 1), ct := Pv H1 (i + 1), bk := Dn.nx } σ2 H2)
    (hd : ∀ H1 σ' H', Gx H H1 → Pv H1 ds.length σ' H' → Dn.nx σ' H') : tFor (iEnumT K (tCons ta tNil)) g tu Dn σ H := h H (Gx.refl H) _ fun v H1 e hv => by
  obtain ⟨a, vs, rfl, h1, h2⟩ := hv
  have hl := ka_len h2
  have st : ∀ {i σ' H'}, Pv H1 i σ' H' → SqT K H' a vs := fun {i σ' H'} p => SqT.of (hk H1 i σ' H' e p a vs h1)
  refine ⟨a, vs, rfl, SqT.of h1, for_by ds.length (Pv H1) (h0 H1 e) (fun i σ' H' hi p => ⟨vs, vs[i]'(by omega), st p, by rw [List.getElem?_eq_getElem (by omega)]⟩) (fun σ' H' p => ⟨⟨vs, st p, by omega⟩, hd H1 σ' H' e p⟩) fun i σ' H' x H'' hi p y => ?_⟩
  obtain ⟨T, u, rfl, hT, rfl, hu⟩ := y
  have hu := hu vs (st p)
  obtain ⟨d, e1, e2⟩ := ka_get' h2 hu
  have g' := Gx.new (o := .tup [.int (i : Nat), u]) hT
  exact hs H1 i d _ σ' H' _ e e1 p g' ⟨T, _, rfl, upd_same, .int (i : Nat), [u], rfl, rfl, u, [], rfl, mono_d g' ((hk H1 i σ' H' e p).d e2), rfl⟩
/-- found += a list -/
theorem s_ext {i : Nat} {l : Addr} {vs : List V} {es : List D} (hi : σ[i]? = some (some (.ref l))) (hl : H l = some (.lst vs)) (h : Ev te σ H (PL es)) (hz : vs.length + es.length ≤ 1000000)
    (k : ∀ us H1, Gx H H1 → KeyAll H1 es us → Dn.nx (σ.set i (some (.ref l))) (upd H1 l (.lst (vs ++ us)))) : tAug i te rExt2 Dn σ H := ⟨.ref l, hi, h H (Gx.refl H) _ fun v H1 e hv => by
  obtain ⟨b, us, rfl, h1, h2⟩ := hv
  exact ⟨l, b, vs, us, rfl, rfl, e.kp l _ hl (fun _ z => by cases z), h1, by rw [ka_len h2, sizeLine_eq]; omega, k us H1 e h2⟩⟩
end
section
variable {P : Program} {w : World} {K : PySem.W.Frag} {mg : Str → Option Value} {base : Heap} {T : List Addr}
/-! is_term -/
structure TArg where
  n : Nat
  fs : List Nat
  d : D
  deep : Int
def sp_is_term (T : List Addr) (b : Nat) : Sp := spP (α := TArg) T (fun x => MOk x.n x.fs ∧ wfT x.n x.fs x.d = true ∧ x.d.depth ≤ b ∧ (x.d.depth : Int) + 1 ≤ x.deep) (fun x => [PD (mD x.n x.fs), PD x.d, PD (.num x.deep)]) fun _ => PB true
theorem pure_is_term {Pt : Addr} (hP : Pt ∈ T) {b : Nat} {spc : Sp} (hs : ∀ b', b = b' + 1 → spc = sp_is_term T b') : ∀ vs H Q E, sp_is_term T b vs H Q E → D_is_term.t K w Pt (sp_is_number T) spc { nx := fun _ H' => Q .non H', rt := Q } (start D_is_term.N vs) H := by
  rintro vs H Q E ⟨hT, ⟨n, fs, d, deep⟩, ⟨m, hw, hd, hdeep⟩, ⟨v1, _, rfl, h1, v2, _, rfl, h2, v3, _, rfl, h3, rfl⟩, k⟩
  have h1 : KeyH H (mD n fs) v1 := h1
  have h2 : KeyH H d v2 := h2
  have h3 : KeyH H (.num deep) v3 := h3
  have hw : wfT n fs d = true := hw
  have m : MOk n fs := m
  have hd : d.depth ≤ b := hd
  have hdeep : (d.depth : Int) + 1 ≤ deep := hdeep
  refine q_unp (ev_var (P := PD (mD n fs)) h1 rfl) rfl rfl fun vs2 H2 e2 hv => ?_
  obtain ⟨c, _, rfl, hc, fv, _, rfl, hf, rfl⟩ := hv
  have hT2 := hT.mono e2
  have h22 := mono_d e2 h2
  have h32 := mono_d e2 h3
  cases d with
  | none => simp [wfT] at hw
  | text _ => simp [wfT] at hw
  | num i =>
    simp only [wfT, Bool.and_eq_true, decide_eq_true_eq] at hw
    refine q_yes (et_is (et_not (et_B (i_it (ev_var h22 rfl)))) rfl) fun H3 e3 => ?_
    refine s_ret (ev_isB (ev_call (i, 0, (n : Int) - 1) (hT2.mono e3) (ea_cons (ev_var (P := PD (.num i)) (mono_d e3 h22) rfl) (ea_cons ev_int (ea_cons (ev_sub (ev_var (P := PD (nm n)) (mono_d e3 hc) rfl) ev_int) ea_nil))) trivial) ?_) fun v H4 e4 hv => k v H4 ((e2.trans e3).trans e4) hv
    simp; omega
  | tup ks =>
    simp only [wfT, Bool.and_eq_true] at hw
    obtain ⟨f, a, r, rfl, hfr⟩ := hdF_shape hw.1
    have hlt : f < fs.length := (List.getElem?_eq_some_iff.mp hfr).1
    have hdep : (NestedKey.tup (nm f :: a :: r)).depth = NestedKey.depthAll (a :: r) + 1 := depth_tup
    obtain ⟨b', rfl⟩ : ∃ b', b = b' + 1 := ⟨b - 1, by omega⟩
    have hs := hs b' rfl
    subst hs
    refine q_pass (et_is (et_not (et_B (i_tt (ev_var h22 rfl)))) rfl) fun H3 e3 => ?_
    have h23 := mono_d e3 h22
    have h33 := mono_d e3 h32
    have hf3 := mono_d e3 hf
    refine q_pass (et_is (et_or (et_test (ev_lt (ev_var h33 rfl) ev_int)) fun _ => et_or (et_not (et_tru (ev_var (P := PD _) h23 rfl))) fun _ => et_not (et_B (ev_call ((f : Int), 0, (fs.length : Int) - 1) (hT2.mono e3)
      (ea_cons (ev_ix0 (ev_var (P := PD _) h23 rfl)) (ea_cons ev_int (ea_cons (ev_isD (ev_sub (ev_lenT (ev_var (P := PD _) hf3 rfl)) ev_int) (by rw [List.length_map])) ea_nil))) trivial))) ?_) fun H4 e4 => ?_
    · have a1 : ¬ deep < 2 := by omega
      simp [a1, truD]; omega
    have h24 := mono_d e4 h23
    have hf4 := mono_d e4 hf3
    refine q_pass (et_is (et_test (ev_neI (ev_lenT (ev_var (P := PD _) h24 rfl)) (ev_add ev_int (ev_ixN (d := nm (r.length + 1)) (ev_var (P := PD _) hf4 rfl) (ev_ix0 (ev_var (P := PD _) h24 rfl)) (by rw [List.getElem?_map, hfr]; rfl))))) ?_) fun H5 e5 => ?_
    · simp; omega
    have h25 := mono_d e5 h24
    have g5 := ((e2.trans e3).trans e4).trans e5
    refine s_ret (ev_isB (ev_quT (f := fun _ => true) (hT.mono g5 Pt hP) (ev_tail (ev_var (P := PD _) h25 rfl)) fun d x H6 e6 hm hx => ?_) (by simp)) fun v H6 e6 hv => k v H6 (g5.trans e6) hv
    have l1 := le_depths hm
    exact ⟨_, tg_name, rfl, ev_call ⟨n, fs, d, deep - 1⟩ ((hT.mono g5).mono e6) (ea_cons (ev_var (P := PD (mD n fs)) (mono_d (g5.trans e6) h1) rfl) (ea_cons (ev_var hx rfl) (ea_cons (ev_sub (ev_var (P := PD (.num deep)) (mono_d (g5.trans e6) h3) rfl) ev_int) ea_nil)))
      ⟨m, wfTs_all.mp hw.2 d hm, (by show d.depth ≤ b'; omega), (by show (d.depth : Int) + 1 ≤ deep - 1; omega)⟩⟩
theorem is_term_binds {f c : Addr} (F : Df K "is_term" "is_term" D_is_term.st [.int 8] f c) : (∃ fd ds, FunD K "is_term" "is_term" (defArgs D_is_term.st) (defBody D_is_term.st) (defScope D_is_term.st) [.int 8] [] f fd ∧ Vals [] ds ∧ Binds K fd D_is_term.ps ds) := by
  obtain ⟨fd, F, _⟩ := F.ex
  obtain ⟨ds, h1, h2⟩ := F.binds1 (ps := D_is_term.ps) 3 1 (by simp) rfl (fun T kV doc pm an cdv ct us its h1 h2 => match us, its, h1, h2 with | [_, _, _], [_], _, _ => ⟨_, rfl, rfl⟩)
  exact ⟨fd, ds, F, h1, h2⟩
theorem is_term_fcs {f : Addr} {fd : FuncData} {k : Nat} {sp : Sp} (hm : mg "is_term" = some (.ref f)) (h3 : FnOk P w K mg base CX0 k f fd D_is_term.ps sp) (h4 : FunD K "is_term" "is_term" (defArgs D_is_term.st) (defBody D_is_term.st) (defScope D_is_term.st) [.int 8] [] f fd) :
    Fc P w K mg base CX0 k "is_term" [] sp ∧ Fc P w K mg base CX0 k "is_term" [.int 8] sp := by
  obtain ⟨ds, h5, h6⟩ := h4.binds1 (ps := D_is_term.ps) 3 1 (by simp) rfl (fun T kV doc pm an cdv ct us its h1 h2 => match us, its, h1, h2 with | [_, _, _], [_], _, _ => ⟨_, rfl, rfl⟩)
  obtain ⟨es, h7, h8⟩ := h4.binds1 (ps := D_is_term.ps) 2 0 (by simp) rfl (fun T kV doc pm an cdv ct us its h1 h2 => match us, its, h1, h2 with | [_, _], [_], _, _ => ⟨_, rfl, rfl⟩)
  exact ⟨⟨f, fd, _, ds, h3, hm, h4.kp, h6, h5⟩, f, fd, _, es, h3, hm, h4.kp, h8, h7⟩
theorem ok_is_term0 {f c Pt : Addr} {k0 : Nat} (F : Df K "is_term" "is_term" D_is_term.st [.int 8] f c) (hm : mg "is_term" = some (.ref f)) (B : Bi mg) (TB : TabB base mg c Pt) (hP : Pt ∈ T) (F1 : Fc P w K mg base CX0 k0 "is_number" [] (sp_is_number T)) :
    ∀ b : Nat, ∃ fd, FnOk P w K mg base CX0 (k0 + 2 * b + 2) f fd D_is_term.ps (sp_is_term T b) ∧ FunD K "is_term" "is_term" (defArgs D_is_term.st) (defBody D_is_term.st) (defScope D_is_term.st) [.int 8] [] f fd
  | 0 => by
    obtain ⟨fd0, ds, G, h1, h2⟩ := is_term_binds F
    exact F.ok (k := k0 + 1) D_is_term.S (spP_len fun _ => rfl) fun cdv A outer s H vs Q E hc hr h =>
      ⟨_, PSs.nox (D_is_term.d B hr TB hc F1 (fc_never hm G.kp h2 h1)), pure_is_term hP (fun _ e => by omega) vs H Q E h⟩
  | b + 1 => by
    obtain ⟨fd, i1, i2⟩ := ok_is_term0 F hm B TB hP F1 b
    have ih := (is_term_fcs hm i1 i2).1
    have e : k0 + 2 * (b + 1) + 2 = k0 + 2 * b + 2 + 1 + 1 := by omega
    rw [e]
    exact F.ok (k := k0 + 2 * b + 2 + 1) D_is_term.S (spP_len fun _ => rfl) fun cdv A outer s H vs Q E hc hr h =>
      ⟨_, PSs.nox (D_is_term.d B hr TB hc (F1.mono (by omega)) ih), pure_is_term hP (fun b' e => by cases e; rfl) vs H Q E h⟩
/-- with the default -/
theorem ok_is_term {f c Pt : Addr} {k0 : Nat} (F : Df K "is_term" "is_term" D_is_term.st [.int 8] f c) (hm : mg "is_term" = some (.ref f)) (B : Bi mg) (TB : TabB base mg c Pt) (hP : Pt ∈ T) (F1 : Fc P w K mg base CX0 k0 "is_number" [] (sp_is_number T)) (b : Nat) :
    Fc P w K mg base CX0 (k0 + 2 * b + 2) "is_term" [.int 8] (sp_is_term T b) := by
  obtain ⟨fd, h3, h4⟩ := ok_is_term0 (P := P) (w := w) F hm B TB hP F1 b
  exact (is_term_fcs hm h3 h4).2
/-! first_terms -/
def sp_first_terms (T : List Addr) : Sp := spP (α := Nat × List Nat) T (fun x => MOk x.1 x.2) (fun x => [PD (mD x.1 x.2)]) fun x => PD (.tup (rgD x.1))
theorem pure_first_terms : ∀ vs H Q E, sp_first_terms T vs H Q E → D_first_terms.t K w { nx := fun _ H' => Q .non H', rt := Q } (start D_first_terms.N vs) H := by
  rintro vs H Q E ⟨hT, ⟨n, fs⟩, m, ⟨v1, _, rfl, h1, rfl⟩, k⟩
  have n3 := MOk.n3 m
  exact s_ret (ev_tupRg (ev_ix0 (ev_var (P := PD (mD n fs)) h1 rfl)) (by omega)) k
theorem ok_first_terms {f c : Addr} {k : Nat} (F : Df K "first_terms" "first_terms" D_first_terms.st [] f c) (hm : mg "first_terms" = some (.ref f)) (B : Bi mg) : Fc P w K mg base CX0 (k + 1) "first_terms" [] (sp_first_terms T) :=
  F.fc hm D_first_terms.S (spP_len fun _ => rfl) (fun _ _ _ _ _ _ us hl => match us, hl with | [_], _ => rfl) fun cdv A outer s H vs Q E hc hr h => ⟨_, PSs.nox (D_first_terms.d B hr), pure_first_terms vs H Q E h⟩
/-! wishes -/
abbrev Wish := Nat × D
def wishD (x : Wish) : D := .tup [nm x.1, x.2]
def wsD (ws : List Wish) : D := .tup (ws.map wishD)
/-- what a wish is -/
structure WOk (n : Nat) (fs : List Nat) (x : Wish) : Prop where
  c : x.1 < n
  t : wfT n fs x.2 = true
  d : x.2.depth ≤ 6
def sp_is_wish (T : List Addr) : Sp := spP (α := (Nat × List Nat) × Wish) T (fun x => MOk x.1.1 x.1.2 ∧ WOk x.1.1 x.1.2 x.2) (fun x => [PD (mD x.1.1 x.1.2), PD (wishD x.2)]) fun _ => PB true
theorem pure_is_wish : ∀ vs H Q E, sp_is_wish T vs H Q E → D_is_wish.t K w (sp_is_number T) (sp_is_term T 6) { nx := fun _ H' => Q .non H', rt := Q } (start D_is_wish.N vs) H := by
  rintro vs H Q E ⟨hT, ⟨⟨n, fs⟩, c, t⟩, ⟨m, hw⟩, ⟨v1, _, rfl, h1, v2, _, rfl, h2, rfl⟩, k⟩
  have h1 : KeyH H (mD n fs) v1 := h1
  have h2 : KeyH H (.tup [nm c, t]) v2 := h2
  have m : MOk n fs := m
  have hw : WOk n fs (c, t) := hw
  have hc : c < n := hw.c
  refine q_pass (et_is (et_or (et_not (et_B (i_tt (ev_var h2 rfl)))) fun _ => et_or (et_test (ev_neI (ev_lenT (ev_var (P := PD _) h2 rfl)) ev_int)) fun _ => et_not (et_B (ev_call ((c : Int), 0, (n : Int) - 1) hT
    (ea_cons (ev_ix0 (ev_var (P := PD _) h2 rfl)) (ea_cons ev_int (ea_cons (ev_sub (ev_ix0 (d := nm n) (ev_var (P := PD (mD n fs)) h1 rfl)) ev_int) ea_nil))) trivial))) ?_) fun H1 e1 => ?_
  · simp; omega
  refine s_ret (ev_callD ⟨n, fs, t, 8⟩ (hT.mono e1) (ea_cons (ev_var (P := PD (mD n fs)) (mono_d e1 h1) rfl) (ea_cons (ev_ix1 (ev_var (P := PD _) (mono_d e1 h2) rfl)) ea_nil)) ⟨m, hw.t, hw.d, ?_⟩ fun vs H' ha => ?_) fun v H2 e2 hv => k v H2 (e1.trans e2) hv
  · have := hw.d
    show (t.depth : Int) + 1 ≤ 8
    have : t.depth ≤ 6 := this
    omega
  · obtain ⟨a, _, rfl, ha, b, _, rfl, hb, rfl⟩ := ha
    exact ⟨a, _, rfl, ha, b, _, rfl, hb, _, _, rfl, rfl, rfl⟩
theorem ok_is_wish {f c : Addr} {k : Nat} (F : Df K "is_wish" "is_wish" D_is_wish.st [] f c) (hm : mg "is_wish" = some (.ref f)) (B : Bi mg) (F1 : Fc P w K mg base CX0 k "is_number" [] (sp_is_number T)) (F2 : Fc P w K mg base CX0 k "is_term" [.int 8] (sp_is_term T 6)) : Fc P w K mg base CX0 (k + 1) "is_wish" [] (sp_is_wish T) :=
  F.fc hm D_is_wish.S (spP_len fun _ => rfl) (fun _ _ _ _ _ _ us hl => match us, hl with | [_, _], _ => rfl) fun cdv A outer s H vs Q E hc hr h => ⟨_, PSs.nox (D_is_wish.d B hr F1 F2), pure_is_wish vs H Q E h⟩
/-- the wishes as the law makes them -/
structure WsOk (n : Nat) (fs : List Nat) (ws : List Wish) : Prop where
  ne : ws ≠ []
  ok : ∀ x ∈ ws, WOk n fs x
  up : ∀ i x y, ws[i]? = some x → ws[i + 1]? = some y → x.1 < y.1
  len : ws.length ≤ 3
def sp_need_wishes (T : List Addr) : Sp := spP (α := (Nat × List Nat) × List Wish) T (fun x => MOk x.1.1 x.1.2 ∧ WsOk x.1.1 x.1.2 x.2) (fun x => [PD (mD x.1.1 x.1.2), PD (wsD x.2)]) fun _ => PV .non
theorem pure_need_wishes : ∀ vs H Q E, sp_need_wishes T vs H Q E → D_need_wishes.t K w (sp_is_wish T) { nx := fun _ H' => Q .non H', rt := Q } (start D_need_wishes.N vs) H := by
  rintro vs H Q E ⟨hT, ⟨⟨n, fs⟩, ws⟩, ⟨m, hw⟩, ⟨v1, _, rfl, h1, v2, _, rfl, h2, rfl⟩, k⟩
  have h1 : KeyH H (mD n fs) v1 := h1
  have h2 : KeyH H (.tup (ws.map wishD)) v2 := h2
  have m : MOk n fs := m
  have hw : WsOk n fs ws := hw
  have hne := hw.ne
  refine q_pass (et_is (et_or (et_not (et_B (i_tt (ev_var h2 rfl)))) fun _ => et_not (et_tru (ev_var (P := PD _) h2 rfl))) ?_) fun H1 e1 => ?_
  · cases ws with
    | nil => exact absurd rfl hne
    | cons _ _ => rfl
  refine s_forET (ds := ws.map wishD) (ev_var (P := PD _) (mono_d e1 h2) rfl) (fun Hs i σ' H' => (∃ a b, σ' = [some v1, some v2, a, b]) ∧ Gx Hs H') (fun H2 e2 => ⟨⟨_, _, rfl⟩, Gx.refl _⟩) (fun H2 i σ' H' e2 p => p.2.tk) (fun H2 i d v σ' H' H'' e2 hi p g hv => ?_) (fun H2 σ' H' e2 p => k _ H' ((e1.trans e2).trans p.2) rfl)
  obtain ⟨⟨a, b, rfl⟩, p⟩ := p
  have ge := ((e1.trans e2).trans p).trans g
  rw [List.getElem?_map] at hi
  cases hx : ws[i]? with
  | none => rw [hx] at hi; cases hi
  | some x =>
    rw [hx] at hi
    cases hi
    have hxm := List.mem_of_getElem? hx
    refine g_tup hv rfl rfl fun vs hvs => ?_
    obtain ⟨ia, _, rfl, hia, xa, _, rfl, hxa, rfl⟩ := hvs
    refine s_pass (et_is (et_or (a := !true) (b := false) (et_not (et_B (ev_call ((n, fs), x) (hT.mono ge) (ea_cons (ev_var (P := PD (mD n fs)) (mono_d ge h1) rfl) (ea_cons (ev_var hxa rfl) ea_nil)) ⟨m, hw.ok x hxm⟩))) fun _ => ?_) rfl) fun H5 e5 => ⟨⟨_, _, rfl⟩, (p.trans g).trans e5⟩
    cases i with
    | zero => exact et_is (et_and (a := false) (b := false) (et_is (et_test (ev_gt (ev_var (P := PD (nm 0)) hia rfl) ev_int)) (by simp)) fun z => Bool.noConfusion z) rfl
    | succ j =>
      have hj : j < ws.length := by have := (List.getElem?_eq_some_iff.mp hx).1; omega
      obtain ⟨y, hy⟩ : ∃ y, ws[j]? = some y := ⟨ws[j], List.getElem?_eq_getElem hj⟩
      have hup := hw.up j y x hy hx
      refine et_is (et_and (et_test (ev_gt (ev_var (P := PD (nm (j + 1))) hia rfl) ev_int)) fun _ => et_test (ev_ge (ev_ix0 (d := nm y.1) (ev_ixN (n := j) (d := wishD y) (ev_var (P := PD _) (mono_d ge h2) rfl) (ev_isD (ev_sub (ev_var (P := PD (nm (j + 1))) hia rfl) ev_int) ?_) (by rw [List.getElem?_map, hy]; rfl)))
        (ev_ix0 (d := nm x.1) (ev_var (P := PD (wishD x)) hxa rfl)))) ?_
      · show NestedKey.num _ = NestedKey.num _
        congr 1
        omega
      · have : ¬ (x.1 : Int) ≤ y.1 := by omega
        simp [this]
theorem ok_need_wishes {f c : Addr} {k : Nat} (F : Df K "need_wishes" "need_wishes" D_need_wishes.st [] f c) (hm : mg "need_wishes" = some (.ref f)) (B : Bi mg) (F1 : Fc P w K mg base CX0 k "is_wish" [] (sp_is_wish T)) : Fc P w K mg base CX0 (k + 1) "need_wishes" [] (sp_need_wishes T) :=
  F.fc hm D_need_wishes.S (spP_len fun _ => rfl) (fun _ _ _ _ _ _ us hl => match us, hl with | [_, _], _ => rfl) fun cdv A outer s H vs Q E hc hr h => ⟨_, PSs.nox (D_need_wishes.d B hr F1), pure_need_wishes vs H Q E h⟩
/-! fulfilled -/
def hit (held : List D) (x : Wish) : Bool := decide (held[x.1]? = some x.2)
def sp_fulfilled (T : List Addr) : Sp := spP (α := List D × List Wish) T (fun x => (∀ d ∈ x.1, d.depth ≤ 60) ∧ ∀ y ∈ x.2, y.1 < x.1.length ∧ y.2.depth ≤ 60) (fun x => [PD (.tup x.1), PD (wsD x.2)]) fun x => PB (x.2.all (hit x.1))
def hitD (held : List D) : D → Bool
  | .tup [.num c, t] => decide (held[c.toNat]? = some t)
  | _ => false
theorem hitD_eq (held : List D) (x : Wish) : hitD held (wishD x) = hit held x := by
  show decide (held[((x.1 : Int)).toNat]? = some x.2) = decide (held[x.1]? = some x.2)
  rw [Int.toNat_natCast]
theorem pure_fulfilled {Pt : Addr} (hP : Pt ∈ T) : ∀ vs H Q E, sp_fulfilled T vs H Q E → D_fulfilled.t K w Pt { nx := fun _ H' => Q .non H', rt := Q } (start D_fulfilled.N vs) H := by
  rintro vs H Q E ⟨hT, ⟨held, ws⟩, ⟨hd, hw⟩, ⟨v1, _, rfl, h1, v2, _, rfl, h2, rfl⟩, k⟩
  have h1 : KeyH H (.tup held) v1 := h1
  have h2 : KeyH H (.tup (ws.map wishD)) v2 := h2
  refine s_ret (ev_isB (ev_quT (f := hitD held) (hT Pt hP) (ev_var (P := PD _) h2 rfl) fun d x H1 e1 hm hx => ?_) ?_) k
  · obtain ⟨y, hy, rfl⟩ := List.mem_map.mp hm
    obtain ⟨hy1, hy2⟩ := hw y hy
    obtain ⟨vs, hvs, tg⟩ := tg_tup (K := K) (σ := wipe (start D_fulfilled.N [v1, v2]) [2, 3]) (is := [2, 3]) (n := 2) hx rfl rfl
    obtain ⟨ca, _, rfl, hc, ta, _, rfl, ht, rfl⟩ := hvs
    have hg : held[y.1]? = some held[y.1] := List.getElem?_eq_getElem hy1
    refine ⟨_, tg, rfl, ev_isB (ev_eqD (ev_ixN (n := y.1) (d := held[y.1]) (ev_var (P := PD _) (mono_d e1 h1) rfl) (ev_var hc rfl) hg) (ev_var ht rfl) (hd _ (List.getElem_mem hy1)) hy2) ?_⟩
    rw [hitD_eq]
    unfold hit
    rw [hg]
    exact decide_eq_decide.mpr ⟨fun e => by rw [e], fun e => Option.some.inj e⟩
  · rw [if_pos rfl, List.all_map]
    congr 1
theorem ok_fulfilled {f c Pt : Addr} {k : Nat} (F : Df K "fulfilled" "fulfilled" D_fulfilled.st [] f c) (hm : mg "fulfilled" = some (.ref f)) (B : Bi mg) (TB : TabB base mg c Pt) (hP : Pt ∈ T) : Fc P w K mg base CX0 (k + 2) "fulfilled" [] (sp_fulfilled T) :=
  F.fc hm D_fulfilled.S (spP_len fun _ => rfl) (fun _ _ _ _ _ _ us hl => match us, hl with | [_, _], _ => rfl) fun cdv A outer s H vs Q E hc hr h => ⟨_, PSs.nox (D_fulfilled.d (k := k) B hr TB hc), pure_fulfilled hP vs H Q E h⟩
/-! parts_of -/
mutual
def partsOf : D → List D
  | .tup ks => .tup ks :: partsTl ks
  | d => [d]
def partsTl : List D → List D
  | [] => []
  | _ :: r => partsSs r
def partsSs : List D → List D
  | [] => []
  | d :: r => partsOf d ++ partsSs r
end
theorem partsSs_eq : ∀ r : List D, partsSs r = r.flatMap partsOf
  | [] => rfl
  | d :: r => by simp [partsSs, partsSs_eq r]
theorem partsSs_app (r q : List D) : partsSs (r ++ q) = partsSs r ++ partsSs q := by simp [partsSs_eq]
mutual
theorem parts_len : ∀ (d : D), wfS d = true → (partsOf d).length + 1 ≤ 2 ^ (d.depth + 1)
  | .none, h => by simp [wfS] at h
  | .text _, h => by simp [wfS] at h
  | .num i, h => by simp [partsOf, NestedKey.depth]
  | .tup ks, h => by
    simp only [wfS, Bool.and_eq_true] at h
    obtain ⟨f, a, r, rfl, hl⟩ := hdN_shape h.1
    have h2 := parts_lens (a :: r) (wfSs_all.mpr fun k hk => wfSs_all.mp h.2 k (List.mem_cons_of_mem _ hk))
    rw [depth_tup]
    simp only [partsOf, partsTl, List.length_cons]
    have h3 : (a :: r).length ≤ 2 := by simp; omega
    have h4 : (a :: r).length * 2 ^ (NestedKey.depthAll (a :: r) + 1) ≤ 2 * 2 ^ (NestedKey.depthAll (a :: r) + 1) := Nat.mul_le_mul_right _ h3
    have h5 : 2 ^ (NestedKey.depthAll (a :: r) + 1 + 1) = 2 * 2 ^ (NestedKey.depthAll (a :: r) + 1) := by rw [Nat.pow_succ]; omega
    have h6 : 1 ≤ (a :: r).length := by simp
    have h7 : 1 ≤ 2 ^ (NestedKey.depthAll (a :: r) + 1) := Nat.one_le_two_pow
    have h8 : (a :: r).length = 1 ∨ (a :: r).length = 2 := by omega
    rcases h8 with e | e
    · rw [e] at h2; omega
    · rw [e] at h2; omega
theorem parts_lens : ∀ (r : List D), wfSs r = true → (partsSs r).length + r.length ≤ r.length * 2 ^ (NestedKey.depthAll r + 1)
  | [], h => by simp [partsSs]
  | d :: r, h => by
    simp only [wfSs, Bool.and_eq_true] at h
    have h1 := parts_len d h.1
    have h2 := parts_lens r h.2
    simp only [partsSs, List.length_append, List.length_cons, NestedKey.depthAll]
    have h3 : 2 ^ (d.depth + 1) ≤ 2 ^ (max d.depth (NestedKey.depthAll r) + 1) := Nat.pow_le_pow_right (by omega) (by omega)
    have h4 : 2 ^ (NestedKey.depthAll r + 1) ≤ 2 ^ (max d.depth (NestedKey.depthAll r) + 1) := Nat.pow_le_pow_right (by omega) (by omega)
    have h5 : r.length * 2 ^ (NestedKey.depthAll r + 1) ≤ r.length * 2 ^ (max d.depth (NestedKey.depthAll r) + 1) := Nat.mul_le_mul_left _ h4
    rw [Nat.add_mul]
    omega
end
/-- for a list that a loop makes longer -/
theorem pow9 {d : D} (h : wfS d = true) (hd : d.depth ≤ 8) : (partsOf d).length ≤ 600 := by
  have h1 := parts_len d h
  have h2 : 2 ^ (d.depth + 1) ≤ 2 ^ 9 := Nat.pow_le_pow_right (by omega) (by omega)
  have h3 : (2 : Nat) ^ 9 = 512 := rfl
  omega
def sp_parts_of (T : List Addr) (b : Nat) : Sp := spP (α := D) T (fun d => wfS d = true ∧ d.depth ≤ b ∧ d.depth ≤ 8) (fun d => [PD d]) fun d => PL (partsOf d)
theorem pure_parts_of {b : Nat} {spc : Sp} (hs : ∀ b', b = b' + 1 → spc = sp_parts_of T b') : ∀ vs H Q E, sp_parts_of T b vs H Q E → D_parts_of.t K w spc { nx := fun _ H' => Q .non H', rt := Q } (start D_parts_of.N vs) H := by
  rintro vs H Q E ⟨hT, d, ⟨hw, hd, h8⟩, ⟨v1, _, rfl, h1, rfl⟩, k⟩
  have h1 : KeyH H d v1 := h1
  have hw : wfS d = true := hw
  have hd : d.depth ≤ b := hd
  have h8 : d.depth ≤ 8 := h8
  refine q_asgL (ds := [d]) (el_lst (ea_cons (ev_var (P := PD d) h1 rfl) ea_nil) (by simp)) fun l vs H1 hl e1 hl1 hv => ?_
  cases d with
  | none => simp [wfS] at hw
  | text _ => simp [wfS] at hw
  | num i =>
    refine q_pass (et_B (i_it (ev_var (mono_d e1 h1) rfl))) fun H2 e2 => ?_
    refine s_ret (P := PL [.num i]) (ev_var (P := PL [.num i]) ⟨l, vs, rfl, e2.kp l _ hl1 (fun _ z => by cases z), mono_all e2 hv⟩ rfl) fun v H3 e3 hv3 => k v H3 ((e1.trans e2).trans e3) hv3
  | tup ks =>
    simp only [wfS, Bool.and_eq_true] at hw
    obtain ⟨f, a, r, rfl, hlr⟩ := hdN_shape hw.1
    have hdep : (NestedKey.tup (.num f :: a :: r)).depth = NestedKey.depthAll (a :: r) + 1 := depth_tup
    obtain ⟨b', rfl⟩ : ∃ b', b = b' + 1 := ⟨b - 1, by omega⟩
    have hs := hs b' rfl
    subst hs
    have hsub : ∀ d ∈ a :: r, wfS d = true ∧ d.depth ≤ b' ∧ d.depth ≤ 8 := fun d hm => ⟨wfSs_all.mp hw.2 d (List.mem_cons_of_mem _ hm), by have := le_depths hm; omega, by have := le_depths hm; omega⟩
    refine q_yes (et_B (i_tt (ev_var (P := PD _) (mono_d e1 h1) rfl))) fun H2 e2 => ?_
    have e12 := e1.trans e2
    refine s_forT (ds := a :: r) (ev_tail (ev_var (P := PD _) (mono_d e12 h1) rfl)) (fun Hs i σ' H' => (∃ x, σ' = [some v1, some (.ref l), x]) ∧ Gx H H' ∧ Tk Hs H' ∧ ∃ us, H' l = some (.lst us) ∧ KeyAll H' (.tup (.num f :: a :: r) :: partsSs ((a :: r).take i)) us)
      (fun H3 e3 => ⟨⟨_, rfl⟩, e12.trans e3, Tk.refl _, vs, (e2.trans e3).kp l _ hl1 (fun _ z => by cases z), by rw [List.take_zero]; exact mono_all (e2.trans e3) hv⟩) (fun H3 i σ' H' e3 p => p.2.2.1) (fun H3 i d x σ' H' e3 hi p hx => ?_) (fun H3 σ' H' e3 p => ?_)
    · obtain ⟨⟨y, rfl⟩, g, tk, us, hl2, hu⟩ := p
      have hm := List.mem_of_getElem? hi
      have hilt := (List.getElem?_eq_some_iff.mp hi).1
      have hlen : us.length ≤ 1300 := by
        rw [ka_len hu, List.length_cons, partsSs_eq]
        have : ((a :: r).take i).length ≤ 1 := by rw [List.length_take]; simp only [List.length_cons] at hilt ⊢; omega
        have key : ∀ l : List D, l.length ≤ 1 → (∀ d ∈ l, d ∈ a :: r) → (l.flatMap partsOf).length ≤ 600 := fun l h1 h2 => by
          match l, h1 with
          | [], _ => simp
          | [d], _ =>
            have hh := hsub d (h2 d List.mem_cons_self)
            simpa using pow9 hh.1 hh.2.2
        have := key _ this fun d hd => List.mem_of_mem_take hd
        omega
      refine s_ext (es := partsOf d) rfl hl2 (ev_call d (hT.mono g) (ea_cons (ev_var hx rfl) ea_nil) (hsub d hm)) ?_ fun us2 H5 e5 hu2 => ?_
      · have hh := hsub d hm
        have := pow9 hh.1 hh.2.2
        omega
      · have hl5 := e5.kp l _ hl2 (fun _ z => by cases z)
        have tk5 : Tk H5 (upd H5 l (.lst (us ++ us2))) := Tk.lst hl5
        refine ⟨⟨_, rfl⟩, (g.trans e5).mut hl, (tk.trans e5.tk).trans tk5, us ++ us2, upd_same, ?_⟩
        rw [take_succ_of hi, partsSs_app]
        show KeyAll _ (.tup (.num f :: a :: r) :: (partsSs ((a :: r).take i) ++ partsSs [d])) _
        rw [show partsSs [d] = partsOf d by simp [partsSs], ← List.cons_append]
        exact ka_app (tk5.all (mono_all e5 hu)) (tk5.all hu2)
    · obtain ⟨⟨y, rfl⟩, g, tk, us, hl2, hu⟩ := p
      rw [List.take_length] at hu
      exact s_ret (P := PL (partsOf (.tup (.num f :: a :: r)))) (ev_var (P := PL _) ⟨l, us, rfl, hl2, hu⟩ rfl) fun v H5 e5 hv5 => k v H5 (g.trans e5) hv5
theorem ok_parts_of {f c : Addr} (F : Df K "parts_of" "parts_of" D_parts_of.st [] f c) (hm : mg "parts_of" = some (.ref f)) (B : Bi mg) : ∀ b : Nat, Fc P w K mg base CX0 (b + 1) "parts_of" [] (sp_parts_of T b)
  | 0 => F.fc hm D_parts_of.S (spP_len fun _ => rfl) (fun _ _ _ _ _ _ us hl => match us, hl with | [_], _ => rfl) fun cdv A outer s H vs Q E hc hr h =>
      ⟨_, PSs.nox (D_parts_of.d B hr (fn_never (ps := D_parts_of.ps) F hm (fun _ _ _ _ _ _ us hl => match us, hl with | [_], _ => rfl))), pure_parts_of (fun _ e => by omega) vs H Q E h⟩
  | b + 1 => F.fc hm D_parts_of.S (spP_len fun _ => rfl) (fun _ _ _ _ _ _ us hl => match us, hl with | [_], _ => rfl) fun cdv A outer s H vs Q E hc hr h =>
      ⟨_, PSs.nox (D_parts_of.d B hr (ok_parts_of F hm B b)), pure_parts_of (fun b' e => by cases e; rfl) vs H Q E h⟩
end
end LX

set_option maxRecDepth 100000
set_option maxHeartbeats 4000000
namespace LX
open PySem PySem.Spec PyProof.Rows L2 MDict GxR GQ
/-- lists stay -/
def Lk (H H' : Hp) : Prop := ∀ a xs, H a = some (.lst xs) → H' a = some (.lst xs)
theorem Gx.lk {H H' : Hp} (e : Gx H H') : Lk H H' := fun a xs h => e.kp a _ h fun _ z => by cases z
theorem Lk.refl (H : Hp) : Lk H H := fun _ _ h => h
theorem Lk.trans {H H1 H2 : Hp} (x : Lk H H1) (y : Lk H1 H2) : Lk H H2 := fun a xs h => y a xs (x a xs h)
theorem Tk.ext {H : Hp} {l : Addr} {φ : Heap → Prop} {o : HO} (h : H l = some (.ext φ)) : Tk H (upd H l o) := fun a ys e => by
  have : a ≠ l := fun z => by rw [z, h] at e; cases e
  rw [upd_ne this]; exact e
theorem Lk.ext {H : Hp} {l : Addr} {φ : Heap → Prop} {o : HO} (h : H l = some (.ext φ)) : Lk H (upd H l o) := fun a ys e => by
  have : a ≠ l := fun z => by rw [z, h] at e; cases e
  rw [upd_ne this]; exact e
/-! ### numbered parts -/
def numF : Nat → List D → List (D × V)
  | _, [] => []
  | i, p :: ps => (p, .int (i : Int)) :: numF (i + 1) ps
abbrev numb (ps : List D) : List (D × V) := numF 0 ps
theorem numF_snoc : ∀ (i : Nat) (ps : List D) (k : D), numF i (ps ++ [k]) = numF i ps ++ [(k, .int ((i + ps.length : Nat) : Int))]
  | i, [], k => rfl
  | i, p :: ps, k => by
    show (p, V.int (i : Int)) :: numF (i + 1) (ps ++ [k]) = _
    rw [numF_snoc (i + 1) ps k]
    have : i + 1 + ps.length = i + (p :: ps).length := by simp; omega
    rw [this]
    rfl
theorem numF_len : ∀ (i : Nat) (ps : List D), (numF i ps).length = ps.length
  | _, [] => rfl
  | i, p :: ps => by simp [numF, numF_len (i + 1) ps]
theorem numF_keys : ∀ (i : Nat) (ps : List D), (numF i ps).map (·.1) = ps
  | _, [] => rfl
  | i, p :: ps => by simp [numF, numF_keys (i + 1) ps]
theorem numF_val : ∀ (i : Nat) (ps : List D) (k : D), valV (numF i ps) k = if k ∈ ps then some (.int ((i + ps.idxOf k : Nat) : Int)) else none
  | i, [], k => by simp [numF, valV_nil]
  | i, p :: ps, k => by
    by_cases e : p = k
    · subst e
      simp [numF, valV_pos]
    · rw [numF, valV_neg (p := (p, V.int (i : Int))) e, numF_val (i + 1) ps k]
      have e' : ¬ k = p := fun z => e z.symm
      have hx : (p :: ps).idxOf k = ps.idxOf k + 1 := by
        rw [List.idxOf_cons]
        have : (p == k) = false := beq_eq_false_iff_ne.mpr e
        simp [this]
      by_cases hm : k ∈ ps
      · rw [if_pos hm, if_pos (List.mem_cons_of_mem _ hm), hx]
        have : i + 1 + ps.idxOf k = i + (ps.idxOf k + 1) := by omega
        rw [this]
      · rw [if_neg hm, if_neg (by simp [e', hm])]
def addP (acc : List D) (k : D) : List D := if k ∈ acc then acc else acc ++ [k]
def distinct (ps : List D) : List D := ps.foldl addP []
def partsW (ws : List Wish) : List D := distinct (ws.flatMap fun x => partsOf x.2)
theorem addP_len (acc : List D) (k : D) : acc.length ≤ (addP acc k).length := by
  unfold addP
  split
  · exact Nat.le_refl _
  · simp
theorem fold_len : ∀ (ps acc : List D), acc.length ≤ (ps.foldl addP acc).length
  | [], _ => Nat.le_refl _
  | p :: ps, acc => Nat.le_trans (addP_len acc p) (fold_len ps _)
theorem addP_mem {acc : List D} {k x : D} : x ∈ addP acc k ↔ x ∈ acc ∨ x = k := by
  unfold addP
  split
  · rename_i h
    exact ⟨.inl, fun z => z.elim id fun e => e ▸ h⟩
  · simp
theorem fold_mem : ∀ {ps acc : List D} {x : D}, x ∈ ps.foldl addP acc ↔ x ∈ acc ∨ x ∈ ps
  | [], acc, x => by simp
  | p :: ps, acc, x => by
    rw [List.foldl_cons, fold_mem (ps := ps), addP_mem, List.mem_cons]
    constructor
    · rintro ((h | h) | h)
      · exact .inl h
      · exact .inr (.inl h)
      · exact .inr (.inr h)
    · rintro (h | h | h)
      · exact .inl (.inl h)
      · exact .inl (.inr h)
      · exact .inr h
theorem addP_nodup {acc : List D} {k : D} (h : acc.Nodup) : (addP acc k).Nodup := by
  unfold addP
  split
  · exact h
  · rename_i hk
    rw [List.nodup_append]
    exact ⟨h, by simp, fun x hx y hy => by
      have : y = k := by simpa using hy
      subst this
      exact fun e => hk (e ▸ hx)⟩
theorem fold_nodup : ∀ {ps acc : List D}, acc.Nodup → (ps.foldl addP acc).Nodup
  | [], _, h => h
  | _ :: ps, _, h => fold_nodup (ps := ps) (addP_nodup h)
theorem partsW_nodup (ws : List Wish) : (partsW ws).Nodup := fold_nodup List.nodup_nil
theorem partsW_mem {ws : List Wish} {x : D} : x ∈ partsW ws ↔ ∃ y ∈ ws, x ∈ partsOf y.2 := by
  unfold partsW distinct
  rw [fold_mem, List.mem_flatMap]
  simp
mutual
theorem parts_wf : ∀ (d p : D), wfS d = true → p ∈ partsOf d → wfS p = true ∧ p.depth ≤ d.depth
  | .none, p, h, _ => by simp [wfS] at h
  | .text _, p, h, _ => by simp [wfS] at h
  | .num i, p, h, hp => by
    have : p = .num i := by simpa [partsOf] using hp
    subst this
    exact ⟨h, Nat.le_refl _⟩
  | .tup ks, p, h, hp => by
    simp only [partsOf, List.mem_cons] at hp
    rcases hp with rfl | hp
    · exact ⟨h, Nat.le_refl _⟩
    · simp only [wfS, Bool.and_eq_true] at h
      have := parts_wfTl ks p h.2 hp
      exact ⟨this.1, by simp only [NestedKey.depth]; omega⟩
theorem parts_wfTl : ∀ (ks : List D) (p : D), wfSs ks = true → p ∈ partsTl ks → wfS p = true ∧ p.depth ≤ NestedKey.depthAll ks
  | [], p, h, hp => by simp [partsTl] at hp
  | k :: r, p, h, hp => by
    simp only [wfSs, Bool.and_eq_true] at h
    have := parts_wfs r p h.2 (by simpa [partsTl] using hp)
    exact ⟨this.1, by simp only [NestedKey.depthAll]; omega⟩
theorem parts_wfs : ∀ (ks : List D) (p : D), wfSs ks = true → p ∈ partsSs ks → wfS p = true ∧ p.depth ≤ NestedKey.depthAll ks
  | [], p, h, hp => by simp [partsSs] at hp
  | k :: r, p, h, hp => by
    simp only [wfSs, Bool.and_eq_true] at h
    simp only [partsSs, List.mem_append] at hp
    simp only [NestedKey.depthAll]
    rcases hp with hp | hp
    · have := parts_wf k p h.1 hp
      exact ⟨this.1, by omega⟩
    · have := parts_wfs r p h.2 hp
      exact ⟨this.1, by omega⟩
end
theorem wfS_top {p : D} (h : wfS p = true) : (∃ i, p = .num i) ∨ ∃ ks, p = .tup ks := by
  cases p with
  | none => simp [wfS] at h
  | text _ => simp [wfS] at h
  | num i => exact .inl ⟨i, rfl⟩
  | tup ks => exact .inr ⟨ks, rfl⟩
/-! ### dicts in expressions -/
section
variable {K : PySem.W.Frag} {w : World} {σ : L2.St} {H : Hp} {ta tb te td tl ty tx : TE} {Dn : Ends} {tu tz : TS} {g : TG} {P : V → Hp → Prop}
/-- a dict with these entries -/
def PM (w : World) (kvs : List (D × V)) : V → Hp → Prop := fun v H => ∃ d, v = .ref d ∧ MAt w H d kvs
instance (kvs : List (D × V)) : Mono (PM w kvs) := ⟨fun e ⟨d, e1, m⟩ => ⟨d, e1, e.map m⟩⟩
theorem q_mnew {i : Nat} (k : ∀ d H1, H d = none → Gx H H1 → MAt w H1 d [] → tz Dn (σ.set i (some (.ref d))) H1) : tSeq (tAsg (tMNew w) (gName i)) tz Dn σ H := fun p hp φ m => k p _ hp (Gx.new hp) m
theorem ev_mlen {kvs : List (D × V)} (h : Ev te σ H (PM w kvs)) : Ev (tCB (rMLen w) (tCons te tNil)) σ H (PD (nm kvs.length)) := fun H1 e Q q => h H1 e _ fun v H2 e2 hv => by
  obtain ⟨d, rfl, m⟩ := hv
  exact ⟨d, kvs, rfl, m, q _ H2 e2 rfl⟩
theorem ktop {k : D} {v : V} (h : KeyH H k v) (hd : k.depth ≤ 8) (ht : (∃ i, k = .num i) ∨ ∃ ks, k = .tup ks) : KTop H k v := ⟨h, hd, ht⟩
theorem ev_mget {kvs : List (D × V)} {k : D} {v : V} [Mono P] (ha : Ev ta σ H (PM w kvs)) (hb : Ev tb σ H (PD k)) (hd : k.depth ≤ 8) (ht : (∃ i, k = .num i) ∨ ∃ ks, k = .tup ks) (hv : valV kvs k = some v) (hp : P v H) : Ev (tMGet w ta tb) σ H P := fun H1 e Q q =>
  ha H1 e _ fun x H2 e2 hx => hb H2 (e.trans e2) _ fun y H3 e3 hy => by
    obtain ⟨d, rfl, m⟩ := hx
    exact ⟨d, kvs, k, v, rfl, e3.map m, ktop hy hd ht, hv, q v H3 (e2.trans e3) (Mono.mono ((e.trans e2).trans e3) hp)⟩
theorem ev_mgetD {kvs : List (D × V)} {k : D} {z : D} {r : D} (ha : Ev ta σ H (PM w kvs)) (hb : Ev tb σ H (PD k)) (hc : Ev tx σ H (PD z)) (hd : k.depth ≤ 8) (ht : (∃ i, k = .num i) ∨ ∃ ks, k = .tup ks)
    (h1 : ∀ v, valV kvs k = some v → ∀ H', KeyH H' r v) (h2 : valV kvs k = none → r = z) : Ev (tMGet2 w ta tb tx) σ H (PD r) := fun H1 e Q q =>
  ha H1 e _ fun x H2 e2 hx => by
    obtain ⟨d, rfl, m⟩ := hx
    refine ⟨d, rfl, ⟨kvs, m⟩, hb H2 (e.trans e2) _ fun y H3 e3 hy => hc H3 ((e.trans e2).trans e3) _ fun zv H4 e4 hz => ⟨kvs, k, (e3.trans e4).map m, ktop (mono_d e4 hy) hd ht, ?_⟩⟩
    refine q _ H4 ((e2.trans e3).trans e4) ?_
    cases hv : valV kvs k with
    | none => rw [h2 hv]; exact hz
    | some v => exact h1 v hv H4
theorem ev_min {neg : Bool} {kvs : List (D × V)} {k : D} (ha : Ev ta σ H (PD k)) (hb : Ev tb σ H (PM w kvs)) (hd : k.depth ≤ 8) (ht : (∃ i, k = .num i) ∨ ∃ ks, k = .tup ks) : Ev (tMIn w ta tb) σ H (PB (valV kvs k).isSome) := fun H1 e Q q =>
  ha H1 e _ fun y H2 e2 hy => hb H2 (e.trans e2) _ fun x H3 e3 hx => by
    obtain ⟨d, rfl, m⟩ := hx
    exact ⟨d, kvs, k, rfl, m, ktop (mono_d e3 hy) hd ht, q _ H3 (e2.trans e3) rfl⟩
theorem ev_mnin {kvs : List (D × V)} {k : D} (ha : Ev ta σ H (PD k)) (hb : Ev tb σ H (PM w kvs)) (hd : k.depth ≤ 8) (ht : (∃ i, k = .num i) ∨ ∃ ks, k = .tup ks) : Ev (tMNotIn w ta tb) σ H (PB (!(valV kvs k).isSome)) := fun H1 e Q q =>
  ha H1 e _ fun y H2 e2 hy => hb H2 (e.trans e2) _ fun x H3 e3 hx => by
    obtain ⟨d, rfl, m⟩ := hx
    exact ⟨d, kvs, k, rfl, m, ktop (mono_d e3 hy) hd ht, q _ H3 (e2.trans e3) rfl⟩
/-- over a list that an expression hands out; dicts may change -/
theorem s_forPL {ds : List D} (h : Ev tl σ H (PL ds)) (Pv : Hp → Nat → L2.St → Hp → Prop) (h0 : ∀ H1, Gx H H1 → Pv H1 0 σ H1) (hk : ∀ H1 i σ' H', Gx H H1 → Pv H1 i σ' H' → Tk H1 H' ∧ Lk H1 H')
    (hs : ∀ H1 i d x σ' H', Gx H H1 → ds[i]? = some d → Pv H1 i σ' H' → KeyH H' d x → g x σ' H' fun σ2 H2 => tu { Dn with nx := Pv H1 (i + 1), ct := Pv H1 (i + 1), bk := Dn.nx } σ2 H2)
    (hd : ∀ H1 σ' H', Gx H H1 → Pv H1 ds.length σ' H' → Dn.nx σ' H') : tFor (iList K tl) g tu Dn σ H := h H (Gx.refl H) _ fun v H1 e hv => by
  obtain ⟨a, vs, rfl, h1, h2⟩ := hv
  have hl := ka_len h2
  refine ⟨a, rfl, ⟨vs, SqL.of h1⟩, for_list (K := K) (a := a) (xs := vs) (Pv H1) (h0 H1 e) (fun i σ' H' _ p => SqL.of ((hk H1 i σ' H' e p).2 a vs h1)) (fun i x σ' H' hx p => ?_) fun σ' H' p => hd H1 σ' H' e (by rw [← hl]; exact p)⟩
  obtain ⟨d, e1, e2⟩ := ka_get' h2 hx
  exact hs H1 i d x σ' H' e e1 p ((hk H1 i σ' H' e p).1.d e2)
end
section
variable {P : Program} {w : World} {K : PySem.W.Frag} {mg : Str → Option Value} {base : Heap} {T : List Addr}
/-! all_parts -/
structure PWOk (ws : List Wish) : Prop where
  wf : ∀ x ∈ ws, wfS x.2 = true ∧ x.2.depth ≤ 6
  len : ws.length ≤ 3
  few : (partsW ws).length ≤ 10
def sp_all_parts (w : World) (T : List Addr) : Sp := spP (α := List Wish) T PWOk (fun ws => [PD (wsD ws)]) fun ws => PM w (numb (partsW ws))
theorem pure_all_parts : ∀ vs H Q E, sp_all_parts w T vs H Q E → D_all_parts.t K w (sp_parts_of T 6) { nx := fun _ H' => Q .non H', rt := Q } (start D_all_parts.N vs) H := by
  rintro vs H Q E ⟨hT, ws, ok, ⟨v1, _, rfl, h1, rfl⟩, k⟩
  have h1 : KeyH H (.tup (ws.map wishD)) v1 := h1
  have ok : PWOk ws := ok
  refine q_mnew fun d H1 hd e1 m1 => ?_
  refine s_forT (ds := ws.map wishD) (ev_var (P := PD _) (mono_d e1 h1) rfl) (fun Hs i σ' H' => (∃ a b c, σ' = [some v1, some (.ref d), a, b, c]) ∧ Gx H H' ∧ Tk Hs H' ∧ MAt w H' d (numb (distinct ((ws.take i).flatMap fun x => partsOf x.2))))
    (fun H2 e2 => ⟨⟨_, _, _, rfl⟩, e1.trans e2, Tk.refl _, e2.map m1⟩) (fun H2 i σ' H' e2 p => p.2.2.1) (fun H2 i dd x σ' H' e2 hi p hx => ?_) (fun H2 σ' H' e2 p => ?_)
  · obtain ⟨⟨a, b, c, rfl⟩, g, tk, m⟩ := p
    rw [List.getElem?_map] at hi
    cases hy : ws[i]? with
    | none => rw [hy] at hi; cases hi
    | some y =>
    rw [hy] at hi
    cases hi
    have hym := List.mem_of_getElem? hy
    obtain ⟨hw, h6⟩ := ok.wf y hym
    refine g_tup hx rfl rfl fun us hus => ?_
    obtain ⟨ca, _, rfl, hca, ta, _, rfl, hta, rfl⟩ := hus
    refine s_forPL (ds := partsOf y.2) (ev_call y.2 (hT.mono g) (ea_cons (ev_var hta rfl) ea_nil) ⟨hw, h6, by omega⟩)
      (fun Hs j σ' H'' => (∃ c, σ' = [some v1, some (.ref d), some ca, some ta, c]) ∧ Gx H H'' ∧ Tk H' H'' ∧ (Tk Hs H'' ∧ Lk Hs H'') ∧ MAt w H'' d (numb (((partsOf y.2).take j).foldl addP (distinct ((ws.take i).flatMap fun x => partsOf x.2)))))
      (fun H3 e3 => ⟨⟨_, rfl⟩, g.trans e3, e3.tk, ⟨Tk.refl _, Lk.refl _⟩, by rw [List.take_zero]; exact e3.map m⟩) (fun H3 j σ' H'' e3 p => p.2.2.2.1) (fun H3 j q x3 σ' H'' e3 hj p hx3 => ?_) (fun H3 σ' H'' e3 p => ?_)
    · obtain ⟨⟨c2, rfl⟩, g2, tk2, ⟨tk3, lk3⟩, m2⟩ := p
      generalize hacc : ((partsOf y.2).take j).foldl addP (distinct ((ws.take i).flatMap fun x => partsOf x.2)) = acc at m2
      have hstep : ((partsOf y.2).take (j + 1)).foldl addP (distinct ((ws.take i).flatMap fun x => partsOf x.2)) = addP acc q := by
        rw [take_succ_of hj, List.foldl_append, hacc]; rfl
      have hpw := parts_wf y.2 q hw (List.mem_of_getElem? hj)
      have hal : acc.length ≤ 10 := by
        refine Nat.le_trans ?_ ok.few
        have e : partsW ws = ((ws.drop (i + 1)).flatMap fun x => partsOf x.2).foldl addP (((partsOf y.2).drop j).foldl addP acc) := by
          unfold partsW
          conv => lhs; rw [← List.take_append_drop i ws, List.drop_eq_getElem_cons (by exact (List.getElem?_eq_some_iff.mp hy).1)]
          have : ws[i]'((List.getElem?_eq_some_iff.mp hy).1) = y := (List.getElem?_eq_some_iff.mp hy).2
          rw [this]
          unfold distinct
          rw [List.flatMap_append, List.flatMap_cons, List.foldl_append, List.foldl_append]
          conv => lhs; rw [← List.take_append_drop j (partsOf y.2), List.foldl_append]
          rw [← hacc]
          rfl
        rw [e]
        exact Nat.le_trans (fold_len _ _) (fold_len _ _)
      refine ⟨_, rfl, d, rfl, ⟨_, m2⟩, x3, rfl, ?_⟩
      refine (ev_mlen (w := w) (ev_var (P := PM w (numb acc)) ⟨d, rfl, m2⟩ rfl)) H'' (Gx.refl _) _ fun lv H4 e4 hlv => ?_
      have m4 := e4.map m2
      refine ⟨numb acc, q, m4, ktop (mono_d e4 hx3) (by omega) (wfS_top hpw.1), by rw [numF_len, sizeLine_eq]; omega, fun v hv => ?_, fun hn φ mφ => ?_⟩
      · have hmem : q ∈ acc := by
          rw [numF_val] at hv
          by_cases hq : q ∈ acc
          · exact hq
          · rw [if_neg hq] at hv; cases hv
        refine ⟨⟨_, rfl⟩, g2.trans e4, tk2.trans e4.tk, ⟨tk3.trans e4.tk, lk3.trans e4.lk⟩, ?_⟩
        rw [hstep]
        unfold addP
        rw [if_pos hmem]
        exact m4
      · have hnm : q ∉ acc := fun hq => by rw [numF_val, if_pos hq] at hn; cases hn
        obtain ⟨φ0, hφ0⟩ := m4.there
        refine ⟨⟨_, rfl⟩, (g2.trans e4).mut hd, (tk2.trans e4.tk).trans (Tk.ext hφ0), ⟨(tk3.trans e4.tk).trans (Tk.ext hφ0), (lk3.trans e4.lk).trans (Lk.ext hφ0)⟩, ?_⟩
        rw [hstep]
        unfold addP
        rw [if_neg hnm]
        have hlv : lv = .int ((numb acc).length : Int) := hlv
        rw [hlv, numF_len, putK_new _ hn] at mφ
        rw [show numb (acc ++ [q]) = numb acc ++ [(q, V.int (acc.length : Int))] from by
          have := numF_snoc 0 acc q
          rw [Nat.zero_add] at this
          exact this]
        exact mφ
    · obtain ⟨⟨c2, rfl⟩, g2, tk2, _, m2⟩ := p
      rw [List.take_length] at m2
      refine ⟨⟨_, _, _, rfl⟩, g2, tk.trans tk2, ?_⟩
      rw [take_succ_of hy, List.flatMap_append]
      unfold distinct at m2 ⊢
      rw [List.foldl_append]
      simpa using m2
  · obtain ⟨⟨a, b, c, rfl⟩, g, tk, m⟩ := p
    rw [List.length_map, List.take_length] at m
    have m : MAt w H' d (numb (partsW ws)) := m
    have hf := ok.few
    refine q_pass (et_is (et_test (ev_gt (ev_mlen (ev_var (P := PM w (numb (partsW ws))) ⟨d, rfl, m⟩ rfl)) ev_int)) ?_) fun H3 e3 => ?_
    · rw [numF_len]
      simp; omega
    exact s_ret (P := PM w (numb (partsW ws))) (ev_var (P := PM w (numb (partsW ws))) ⟨d, rfl, e3.map m⟩ rfl) fun v H4 e4 hv => k v H4 ((g.trans e3).trans e4) hv
theorem ok_all_parts {f c : Addr} {k : Nat} (F : Df K "all_parts" "all_parts" D_all_parts.st [] f c) (hm : mg "all_parts" = some (.ref f)) (B : Bi mg) (g1 : ∃ t, mg "MOST_PARTS" = some (.int 16 t)) (F1 : Fc P w K mg base CX0 k "parts_of" [] (sp_parts_of T 6)) : Fc P w K mg base CX0 (k + 1) "all_parts" [] (sp_all_parts w T) :=
  F.fc hm D_all_parts.S (spP_len fun _ => rfl) (fun _ _ _ _ _ _ us hl => match us, hl with | [_], _ => rfl) fun cdv A outer s H vs Q E hc hr h => ⟨_, PSs.nox (D_all_parts.d B hr g1 F1), pure_all_parts vs H Q E h⟩
end
end LX

set_option maxRecDepth 100000
set_option maxHeartbeats 4000000
namespace LX
open PySem PySem.Spec PyProof.Rows L2 MDict GxR GQ
/-! ### all but one object stays -/
structure Gm (l : Addr) (H H' : Hp) : Prop where
  kp : ∀ a o, a ≠ l → H a = some o → (∀ ps, o ≠ .tbl ps) → H' a = some o
  tb : ∀ a, TabG H a → TabG H' a
  dm : ∀ a, H' a = none → H a = none
  tk : Tk H H'
theorem Gx.gm {l : Addr} {H H' : Hp} (e : Gx H H') : Gm l H H' := ⟨fun a o _ => e.kp a o, e.tb, e.dm, e.tk⟩
theorem Gm.trans {l : Addr} {H H1 H2 : Hp} (x : Gm l H H1) (y : Gm l H1 H2) : Gm l H H2 := ⟨fun a o n e z => y.kp a o n (x.kp a o n e z) z, fun a t => y.tb a (x.tb a t), fun a e => x.dm a (y.dm a e), x.tk.trans y.tk⟩
theorem Gm.updL {l : Addr} {H : Hp} {xs : List V} {o : HO} (h : H l = some (.lst xs)) : Gm l H (upd H l o) := by
  refine ⟨fun a u n e _ => by rw [upd_ne n]; exact e, fun a t => ?_, fun a e => ?_, Tk.lst h⟩
  · obtain ⟨ps, e1, e2⟩ := t
    have : a ≠ l := fun z => by rw [z, h] at e1; cases e1
    exact ⟨ps, by rw [upd_ne this]; exact e1, e2⟩
  · have : a ≠ l := fun z => by rw [z, upd_same] at e; cases e
    rw [upd_ne this] at e
    exact e
theorem Gm.updE {l : Addr} {H : Hp} {φ : Heap → Prop} {o : HO} (h : H l = some (.ext φ)) : Gm l H (upd H l o) := by
  refine ⟨fun a u n e _ => by rw [upd_ne n]; exact e, fun a t => ?_, fun a e => ?_, Tk.ext h⟩
  · obtain ⟨ps, e1, e2⟩ := t
    have : a ≠ l := fun z => by rw [z, h] at e1; cases e1
    exact ⟨ps, by rw [upd_ne this]; exact e1, e2⟩
  · have : a ≠ l := fun z => by rw [z, upd_same] at e; cases e
    rw [upd_ne this] at e
    exact e
theorem Gm.gx {l : Addr} {H H1 H' : Hp} (e : Gx H H1) (h : H l = none) (g : Gm l H1 H') : Gx H H' :=
  ⟨fun a o ha z => g.kp a o (ne_of_none ha h) (e.kp a o ha z) z, fun a t => g.tb a (e.tb a t), fun a ha => e.dm a (g.dm a ha)⟩
theorem Gm.map {l : Addr} {w : World} {H H' : Hp} {d : Addr} {kvs : List (NestedKey × V)} (e : Gm l H H') (n : d ≠ l) (x : MAt w H d kvs) : MAt w H' d kvs := by
  obtain ⟨φ, h⟩ := x.there
  refine x.mono e.tk fun o ho => ?_
  rw [h] at ho
  cases ho
  exact e.kp d _ n h fun _ z => by cases z
theorem Gm.lst {l : Addr} {H H' : Hp} {a : Addr} {xs : List V} (e : Gm l H H') (n : a ≠ l) (x : H a = some (.lst xs)) : H' a = some (.lst xs) := e.kp a _ n x fun _ z => by cases z
theorem TabsG.gm {l : Addr} {T : List Addr} {H H' : Hp} (e : Gm l H H') (h : TabsG T H) : TabsG T H' := fun P hP => e.tb P (h P hP)
theorem dict_ne_lst {w : World} {H : Hp} {d l : Addr} {kvs : List (NestedKey × V)} {xs : List V} (m : MAt w H d kvs) (h : H l = some (.lst xs)) : d ≠ l := fun z => by
  obtain ⟨φ, e⟩ := m.there
  rw [z, h] at e
  cases e
/-! ### the lines -/
def rowsL (n r : Nat) : List (List Nat) := if r = 1 then (List.range n).map fun a => [a] else (List.range n).flatMap fun a => (List.range n).map fun b => [a, b]
def fnLines (n c : Nat) (p : Nat × Nat) : List Ln := (rowsL n p.1).map fun s => ⟨c, some p.2, s⟩
def cpLines (n c : Nat) : List Ln := ((List.range n).filter fun s => decide (s ≠ c)).map fun s => ⟨c, none, [s]⟩
def linesOf (n : Nat) (fs : List Nat) (c : Nat) : List Ln := fs.zipIdx.flatMap (fnLines n c) ++ cpLines n c
def allLines (n : Nat) (fs : List Nat) : List Ln := (List.range n).flatMap (linesOf n fs)
theorem flat_le {α β : Type} {f : α → List β} {B : Nat} : ∀ {l : List α}, (∀ x ∈ l, (f x).length ≤ B) → (l.flatMap f).length ≤ l.length * B
  | [], _ => by simp
  | x :: l, h => by
    have h1 := h x List.mem_cons_self
    have h2 := flat_le (f := f) (l := l) fun y hy => h y (List.mem_cons_of_mem _ hy)
    rw [List.flatMap_cons, List.length_append, List.length_cons, Nat.add_mul]
    omega
theorem rowsL_le {n r : Nat} (h : n ≤ 3) : (rowsL n r).length ≤ 9 := by
  unfold rowsL
  split
  · simp; omega
  · refine Nat.le_trans (flat_le (B := 3) fun a _ => by simp; exact h) ?_
    rw [List.length_range]; omega
theorem fnLines_le {n c : Nat} {p : Nat × Nat} (h : n ≤ 3) : (fnLines n c p).length ≤ 9 := by unfold fnLines; rw [List.length_map]; exact rowsL_le h
theorem cpLines_le {n c : Nat} (h : n ≤ 3) : (cpLines n c).length ≤ 3 := by
  unfold cpLines
  rw [List.length_map]
  refine Nat.le_trans (List.length_filter_le _ _) ?_
  rw [List.length_range]; exact h
theorem linesOf_le {n : Nat} {fs : List Nat} {c : Nat} (h : n ≤ 3) (hf : fs.length ≤ 2) : (linesOf n fs c).length ≤ 21 := by
  unfold linesOf
  rw [List.length_append]
  have h1 := flat_le (f := fnLines n c) (B := 9) (l := fs.zipIdx) fun p _ => fnLines_le h
  rw [List.length_zipIdx] at h1
  have h2 := cpLines_le (n := n) (c := c) h
  omega
def rowD (n r : Nat) : List D := (rowsL n r).map fun s => .tup (s.map nm)
section
variable {K : PySem.W.Frag} {w : World} {σ : L2.St} {H : Hp} {ta tb te td tl ty tx tk tv : TE} {Dn : Ends} {tu tz : TS} {g g1 : TG} {P : V → Hp → Prop}
/-- rows = {k: a new list} -/
theorem q_mone {i : Nat} {k : D} {ds : List D} (hk : Ev tk σ H (PD k)) (hd : k.depth ≤ 8) (ht : (∃ i, k = .num i) ∨ ∃ ks, k = .tup ks) (hv : EvL tv σ H ds)
    (kk : ∀ d l vs H1, H d = none → H l = none → Gx H H1 → MAt w H1 d [(k, .ref l)] → H1 l = some (.lst vs) → KeyAll H1 ds vs → tz Dn (σ.set i (some (.ref d))) H1) : tSeq (tAsg (tMOne w tk tv) (gName i)) tz Dn σ H := fun p hp φ m =>
  hk _ (Gx.new hp) _ fun y H1 e1 hy => hv H1 ((Gx.new hp).trans e1) _ fun l vs H2 hl e2 hl2 hvs => by
    have m2 := e2.map (e1.map m)
    refine ⟨k, m2, ktop (mono_d e2 hy) hd ht, fun φ2 m3 => ?_⟩
    have g := ((Gx.new (o := .ext φ) hp).trans e1).trans e2
    obtain ⟨φ0, h0⟩ := m2.there
    have ne : l ≠ p := fun z => dict_ne_lst m2 hl2 z.symm
    exact kk p l vs _ hp (((Gx.new (o := .ext φ) hp).trans e1).dm l hl) (g.mut hp) m3 (by rw [upd_ne ne]; exact hl2) ((Tk.ext h0).all hvs)
/-- [.. for a in range(n) for b in range(n)] -/
theorem el_lc2R {n : Nat} {v : Nat → Nat → D} {j j1 : Nat} (h : Ev ta σ H (PD (nm n))) (hz : n ≤ 100) (hb : ∀ (a : Nat) H1, Gx H H1 → a < n → Ev tb ((wipe σ [j, j1]).set j (some (.int a))) H1 (PD (nm n)))
    (hw : ∀ x, wipe ((wipe σ [j, j1]).set j (some x)) [j, j1] = wipe σ [j, j1]) (hw1 : ∀ x y, wipe ((wipe ((wipe σ [j, j1]).set j (some x)) [j1]).set j1 (some y)) [j1] = wipe ((wipe σ [j, j1]).set j (some x)) [j1])
    (he : ∀ (a b : Nat) H1, Gx H H1 → a < n → b < n → Ev te ((wipe ((wipe σ [j, j1]).set j (some (.int a))) [j1]).set j1 (some (.int b))) H1 (PD (v a b))) :
    EvL (tLc2 (iRng1 (tCons ta tNil)) (gName j) tYes (iRng1 (tCons tb tNil)) (gName j1) tYes te [j, j1] [j1]) σ H ((List.range n).flatMap fun a => (List.range n).map (v a)) := fun H0 e Q q => h H0 e _ fun x H1 e1 hx => by
  have hx : x = .int (n : Int) := hx
  subst hx
  refine ⟨(n : Int), rfl, by omega, by omega, fun Dl hD => ?_⟩
  rw [show ((n : Int)).toNat = n from Int.toNat_natCast n]
  have hn2 : ∀ i ≤ n, ∀ k ≤ n, i * n + k ≤ 10100 := fun i hi k hk => by
    have := Nat.mul_le_mul hi (Nat.le_refl n)
    have := Nat.mul_le_mul hz hz
    omega
  let A : Nat → Nat → List D := fun i k => ((List.range i).flatMap fun a => (List.range n).map (v a)) ++ (List.range k).map (v i)
  have hA : ∀ i, A i n = A (i + 1) 0 := fun i => by
    show _ ++ _ = _ ++ _
    rw [List.range_succ, List.flatMap_append]
    simp
  have hA2 : ∀ i k, A i (k + 1) = A i k ++ [v i k] := fun i k => by
    show _ ++ _ = (_ ++ _) ++ _
    rw [List.range_succ, List.map_append, List.append_assoc]
    rfl
  have hlenA : ∀ i k, (A i k).length = i * n + k := fun i k => by
    show (List.length (_ ++ _)) = _
    rw [List.length_append, List.length_map, List.length_range]
    congr 1
    have : ∀ m, ((List.range m).flatMap fun a => (List.range n).map (v a)).length = m * n := fun m => by
      induction m with
      | zero => simp
      | succ m ih => rw [List.range_succ, List.flatMap_append, List.length_append, ih, Nat.add_mul]; simp
    exact this i
  refine ⟨fun i m H' => m = n - i ∧ i ≤ n ∧ H1 Dl = none ∧ Gx H1 H' ∧ ∃ acc, H' Dl = some (.lst acc) ∧ KeyAll H' (A i 0) acc, ⟨n, by simp, Nat.zero_le _, hD, Gx.new hD, [], upd_same, rfl⟩, ?_⟩
  rintro i m H' ⟨rfl, hi, p1, p2, acc, p3, p4⟩
  by_cases hlt : i < n
  · refine .inr ⟨hlt, fun H'' => i + 1 ≤ n ∧ H1 Dl = none ∧ Gx H1 H'' ∧ ∃ acc, H'' Dl = some (.lst acc) ∧ KeyAll H'' (A (i + 1) 0) acc, fun H'' p => ⟨n - (i + 1), by omega, rfl, p⟩, fun y H'' hy => ?_⟩
    obtain ⟨rfl, rfl⟩ := hy
    rw [Int.zero_add]
    refine ⟨hw _, ?_⟩
    unfold tYes
    dsimp only
    rw [if_pos rfl]
    refine hb i H'' ((e.trans e1).trans p2) hlt H'' (Gx.refl _) _ fun z H4 e4 hz4 => ?_
    have hz4 : z = .int (n : Int) := hz4
    subst hz4
    refine ⟨(n : Int), rfl, by omega, by omega, ?_⟩
    rw [show ((n : Int)).toNat = n from Int.toNat_natCast n]
    refine ⟨fun k m H' => m = n - k ∧ k ≤ n ∧ Gx H1 H' ∧ ∃ acc, H' Dl = some (.lst acc) ∧ KeyAll H' (A i k) acc, ⟨n, by simp, Nat.zero_le _, p2.trans e4, acc, e4.kp Dl _ p3 (fun _ z => by cases z), mono_all e4 p4⟩, ?_⟩
    rintro k m H5 ⟨rfl, hk, r2, acc5, r3, r4⟩
    by_cases hklt : k < n
    · refine .inr ⟨hklt, fun H'' => k + 1 ≤ n ∧ Gx H1 H'' ∧ ∃ acc, H'' Dl = some (.lst acc) ∧ KeyAll H'' (A i (k + 1)) acc, fun H'' p => ⟨n - (k + 1), by omega, rfl, p⟩, fun y H6 hy => ?_⟩
      obtain ⟨rfl, rfl⟩ := hy
      rw [Int.zero_add]
      refine ⟨hw1 _ _, ?_⟩
      dsimp only
      rw [if_pos rfl]
      refine he i k H6 ((e.trans e1).trans r2) hlt hklt H6 (Gx.refl _) _ fun u H7 e7 hu => ?_
      have h7 := e7.kp Dl _ r3 (fun _ z => by cases z)
      have tk7 : Tk H7 (upd H7 Dl (.lst (acc5 ++ [u]))) := Tk.lst h7
      refine ⟨acc5, h7, by rw [ka_len r4, hlenA, sizeLine_eq]; have := hn2 i hi k hk; omega, hklt, (r2.trans e7).mut p1, acc5 ++ [u], upd_same, ?_⟩
      rw [hA2]
      exact ka_app (tk7.all (mono_all e7 r4)) (ka_one (tk7.d hu))
    · have : k = n := by omega
      subst this
      refine .inl ⟨Nat.le_refl _, hlt, p1, r2, acc5, r3, ?_⟩
      rw [← hA]
      exact r4
  · have : i = n := by omega
    subst this
    refine .inl ⟨Nat.le_refl _, q Dl acc H' (e1.dm Dl p1) (e1.trans p2) p3 ?_⟩
    have : A i 0 = (List.range i).flatMap fun a => (List.range i).map (v a) := by simp [A]
    rw [← this]
    exact p4
end
end LX

set_option maxRecDepth 100000
set_option maxHeartbeats 4000000
namespace LX
open PySem PySem.Spec PyProof.Rows L2 MDict GxR GQ
theorem rowD1 (n : Nat) : rowD n 1 = ((rgD n).filter fun _ => true).map fun d => .tup [d] := by
  unfold rowD rowsL rgD
  rw [if_pos rfl, List.filter_eq_self.mpr fun _ _ => rfl, List.map_map, List.map_map]
  rfl
theorem rowD2 (n : Nat) : rowD n 2 = (List.range n).flatMap fun a => (List.range n).map fun b => .tup [nm a, nm b] := by
  unfold rowD rowsL
  rw [if_neg (by decide), List.map_flatMap]
  congr 1
  funext a
  rw [List.map_map]
  rfl
def mkLn (c : Nat) (f : Option Nat) : D → D := fun s => .tup [nm c, fD f, s]
theorem fnLines_d (n c : Nat) (p : Nat × Nat) : (fnLines n c p).map Ln.d = ((rowD n p.1).filter fun _ => true).map (mkLn c (some p.2)) := by
  unfold fnLines rowD
  rw [List.filter_eq_self.mpr fun _ _ => rfl, List.map_map, List.map_map]
  rfl
def neqD (c : Nat) : D → Bool := fun d => !decide (d = nm c)
theorem cpLines_d (n c : Nat) : (cpLines n c).map Ln.d = ((rgD n).filter (neqD c)).map fun s => mkLn c none (.tup [s]) := by
  unfold cpLines rgD
  rw [List.map_map, List.filter_map, List.map_map]
  have e : (List.range n).filter (fun s => decide (s ≠ c)) = (List.range n).filter (neqD c ∘ fun (i : Nat) => NestedKey.num (i : Int)) := by
    congr 1
    funext s
    show decide (s ≠ c) = !decide (nm s = nm c)
    by_cases h : s = c
    · subst h; simp
    · have : ¬ nm s = nm c := fun e => h (by have := NestedKey.num.inj e; omega)
      simp [h, this]
  rw [e]
  rfl
theorem zip_get {fs : List Nat} {i : Nat} {p : Nat × Nat} (h : fs.zipIdx[i]? = some p) : fs[i]? = some p.1 ∧ p.2 = i := by
  rw [List.getElem?_zipIdx] at h
  cases e : fs[i]? with
  | none => rw [e] at h; cases h
  | some r => rw [e] at h; cases h; exact ⟨rfl, by simp⟩
section
variable {P : Program} {w : World} {K : PySem.W.Frag} {mg : Str → Option Value} {base : Heap} {T : List Addr}
def sp_all_lines (T : List Addr) : Sp := spP (α := Nat × List Nat) T (fun x => MOk x.1 x.2) (fun x => [PD (mD x.1 x.2)]) fun x => PL ((allLines x.1 x.2).map Ln.d)
theorem rows_kv {l1 l2 : Addr} : putK [(NestedKey.num 1, V.ref l1)] (.num 2) (.ref l2) = [(NestedKey.num 1, V.ref l1), (.num 2, .ref l2)] := by
  have h : valV [(NestedKey.num 1, V.ref l1)] (.num 2) = none := by
    rw [valV_neg (p := (NestedKey.num 1, V.ref l1)) (by intro e; exact absurd (NestedKey.num.inj e) (by decide)), valV_nil]
  rw [putK_new _ h]
  rfl
theorem rows_get {l1 l2 : Addr} {r : Nat} (h : r = 1 ∨ r = 2) : valV [(NestedKey.num 1, V.ref l1), (.num 2, .ref l2)] (nm r) = some (.ref (if r = 1 then l1 else l2)) := by
  rcases h with rfl | rfl
  · exact (valV_pos (p := (NestedKey.num 1, V.ref l1)) (k := nm 1) rfl).trans (by simp)
  · exact (valV_neg (p := (NestedKey.num 1, V.ref l1)) (k := nm 2) (by intro e; exact absurd (NestedKey.num.inj e) (by decide))).trans ((valV_pos (p := (NestedKey.num 2, V.ref l2)) (k := nm 2) rfl).trans (by simp))
theorem take_le_len {α : Type} (l : List α) (i : Nat) : (l.take i).length ≤ l.length := by rw [List.length_take]; omega
theorem pure_all_lines : ∀ vs H Q E, sp_all_lines T vs H Q E → D_all_lines.t K w { nx := fun _ H' => Q .non H', rt := Q } (start D_all_lines.N vs) H := by
  rintro vs H Q E ⟨hT, ⟨n, fs⟩, m, ⟨v1, _, rfl, h1, rfl⟩, k⟩
  have h1 : KeyH H (mD n fs) v1 := h1
  have m : MOk n fs := m
  have n3 := m.n3; have f2 := m.f2
  refine q_unp (ev_var (P := PD (mD n fs)) h1 rfl) rfl rfl fun vs2 H1 e1 hv => ?_
  obtain ⟨cv, _, rfl, hc, fv, _, rfl, hf, rfl⟩ := hv
  have hc : cv = .int (n : Int) := hc
  subst hc
  refine q_mone (k := .num 1) (ds := rowD n 1) ev_int (Nat.zero_le _) (.inl ⟨_, rfl⟩) ?_ fun d l1 vs1 H2 hd hl1 e2 m2 hl12 hv1 => ?_
  · rw [rowD1]
    exact el_lcR (ev_var (P := PD (nm n)) rfl rfl) (by omega) fun d x H3 e3 _ hx => ⟨_, tg_name, rfl, et_yes, fun _ => ev_tup (ds := [d]) (ea_cons (ev_var hx rfl) ea_nil) (by simp)⟩
  refine (show EvL _ _ H2 (rowD n 2) from ?_) H2 (Gx.refl _) _ fun l2 vs3 H3 hl2 e3 hl23 hv3 => ?_
  · rw [rowD2]
    exact el_lc2R (ev_var (P := PD (nm n)) rfl rfl) (by omega) (fun a H1 e ha => ev_var (P := PD (nm n)) rfl rfl) (fun x => rfl) (fun x y => rfl) fun a b H1 e ha hb => ev_tup (ds := [nm a, nm b]) (ea_cons (ev_var (P := PD (nm a)) rfl rfl) (ea_cons (ev_var (P := PD (nm b)) rfl rfl) ea_nil)) (by simp)
  have m3 := e3.map m2
  refine ⟨_, rfl, d, _, .num 2, rfl, m3, ktop rfl (Nat.zero_le _) (.inl ⟨_, rfl⟩), by show 1 < sizeLine; rw [sizeLine_eq]; decide, fun φ m4 => ?_⟩
  rw [rows_kv] at m4
  obtain ⟨φ0, h0⟩ := m3.there
  have g4 : Gm d H3 (upd H3 d (.ext φ)) := Gm.updE h0
  have e4 : Gx H (upd H3 d (.ext φ)) := ((e1.trans e2).trans e3).mut (e1.dm d hd)
  have ne1 : l1 ≠ d := fun z => dict_ne_lst m2 hl12 z.symm
  have ne2 : l2 ≠ d := fun z => dict_ne_lst m3 hl23 z.symm
  have hl14 := g4.lst ne1 (e3.kp l1 _ hl12 (fun _ z => by cases z))
  have hl24 := g4.lst ne2 hl23
  have hv14 := g4.tk.all (mono_all e3 hv1)
  have hv34 := g4.tk.all hv3
  generalize upd H3 d (.ext φ) = H4 at m4 g4 e4 hl14 hl24 hv14 hv34
  have hf4 : KeyH H4 (.tup (fs.map nm)) fv := (g4.tk.d (mono_d e3 (mono_d e2 hf)))
  refine q_asgL (ds := []) (el_lst ea_nil (by simp)) fun l us0 H5 hl e5 hl5 hu0 => ?_
  have hlH : H l = none := e4.dm l hl
  have m5 := e5.map m4
  have nl1 : l1 ≠ l := fun z => by rw [z, hl] at hl14; cases hl14
  have nl2 : l2 ≠ l := fun z => by rw [z, hl] at hl24; cases hl24
  have nd : d ≠ l := dict_ne_lst m5 hl5
  have hf5 := mono_d e5 hf4
  -- what every list of rows is, wherever found alone has changed
  have row : ∀ {H'} (g : Gm l H5 H') {r : Nat}, r = 1 ∨ r = 2 → PL (rowD n r) (.ref (if r = 1 then l1 else l2)) H' := fun {H'} g {r} hr => by
    rcases hr with rfl | rfl
    · exact ⟨l1, vs1, by simp, g.lst nl1 (e5.kp l1 _ hl14 (fun _ z => by cases z)), g.tk.all (mono_all e5 hv14)⟩
    · exact ⟨l2, vs3, by simp, g.lst nl2 (e5.kp l2 _ hl24 (fun _ z => by cases z)), g.tk.all (mono_all e5 hv34)⟩
  refine s_forR (n := n) (ev_var (P := PD (nm n)) rfl rfl) (by omega) (fun i σ' H' => (∃ x3 x8 x9, σ' = [some v1, some (.ref d), some (.ref l), x3, some (.int (n : Int)), some fv, none, none, x8, x9, none, none]) ∧ Gm l H5 H' ∧ ∃ us, H' l = some (.lst us) ∧ KeyAll H' (((List.range i).flatMap (linesOf n fs)).map Ln.d) us)
    (fun H6 e6 => ⟨⟨_, _, _, rfl⟩, e6.gm, us0, e6.kp l _ hl5 (fun _ z => by cases z), mono_all e6 hu0⟩) (fun i σ' H' hi p => ?_) (fun σ' H' p => ?_)
  · obtain ⟨⟨x3, x8, x9, rfl⟩, g, us, hl6, hu⟩ := p
    have hbl : ((List.range i).flatMap (linesOf n fs)).length ≤ 63 := by
      refine Nat.le_trans (flat_le (B := 21) fun c _ => linesOf_le n3 f2) ?_
      rw [List.length_range]; omega
    refine s_forET (ds := fs.map nm) (ev_var (P := PD (.tup (fs.map nm))) (g.tk.d hf5) rfl) (fun Hs j σ' H'' => (∃ x8 x9, σ' = [some v1, some (.ref d), some (.ref l), some (.int (i : Int)), some (.int (n : Int)), some fv, none, none, x8, x9, none, none]) ∧ Gm l H5 H'' ∧ Tk Hs H'' ∧ ∃ us, H'' l = some (.lst us) ∧
        KeyAll H'' (((List.range i).flatMap (linesOf n fs) ++ (fs.zipIdx.take j).flatMap (fnLines n i)).map Ln.d) us)
      (fun H6 e6 => ⟨⟨_, _, rfl⟩, g.trans e6.gm, Tk.refl _, us, e6.kp l _ hl6 (fun _ z => by cases z), by simpa using mono_all e6 hu⟩) (fun H6 j σ' H'' e6 p => p.2.2.1) (fun H6 j dd v σ' H'' H3' e6 hj p gg hv => ?_) (fun H6 σ' H'' e6 p => ?_)
    · obtain ⟨⟨x8, x9, rfl⟩, g7, tk7, us7, hl7, hu7⟩ := p
      rw [List.getElem?_map] at hj
      cases hr : fs[j]? with
      | none => rw [hr] at hj; cases hj
      | some r =>
      rw [hr] at hj
      cases hj
      have hr12 := m.r r (List.mem_of_getElem? hr)
      have hz : fs.zipIdx[j]? = some (r, j) := by rw [List.getElem?_zipIdx, hr]; simp
      refine g_tup hv rfl rfl fun ws hws => ?_
      obtain ⟨ja, _, rfl, hja, ra, _, rfl, hra, rfl⟩ := hws
      have hja : ja = .int (j : Int) := hja
      have hra : ra = .int (r : Int) := hra
      subst hja hra
      have g8 := g7.trans gg.gm
      have m8 := g8.map nd m5
      refine s_ext (es := (fnLines n i (r, j)).map Ln.d) rfl (gg.kp l _ hl7 (fun _ z => by cases z)) ?_ ?_ fun us2 H9 e9 hu9 => ?_
      · rw [fnLines_d]
        refine (el_lcL (ev_mget (P := PL (rowD n r)) (ev_var (P := PM w _) ⟨d, rfl, m8⟩ rfl) (ev_var (P := PD (nm r)) rfl rfl) (Nat.zero_le _) (.inl ⟨_, rfl⟩) (rows_get hr12) (row g8 hr12)) ?_ fun dd x H10 e10 _ hx => ⟨_, tg_name, rfl, et_yes, fun _ => ?_⟩).ev
        · unfold rowD; rw [List.length_map]; have := rowsL_le (n := n) (r := r) n3; omega
        · exact ev_tup (ds := [nm i, nm j, dd]) (ea_cons (ev_var (P := PD (nm i)) rfl rfl) (ea_cons (ev_var (P := PD (nm j)) rfl rfl) (ea_cons (ev_var hx rfl) ea_nil))) (by simp)
      · rw [ka_len hu7, List.length_map, List.length_map, List.length_append]
        have b1 := flat_le (f := fnLines n i) (B := 9) (l := fs.zipIdx.take j) fun p _ => fnLines_le n3
        have b2 := take_le_len fs.zipIdx j
        rw [List.length_zipIdx] at b2
        have b3 := fnLines_le (c := i) (p := (r, j)) n3
        omega
      · have hl9 := e9.kp l _ (gg.kp l _ hl7 (fun _ z => by cases z)) (fun _ z => by cases z)
        have tk9 : Tk H9 (upd H9 l (.lst (us7 ++ us2))) := Tk.lst hl9
        refine ⟨⟨_, _, rfl⟩, (g8.trans e9.gm).trans (Gm.updL hl9), ((tk7.trans gg.tk).trans e9.tk).trans tk9, us7 ++ us2, upd_same, ?_⟩
        rw [take_succ_of hz, List.flatMap_append, ← List.append_assoc, List.map_append]
        refine ka_app (tk9.all (mono_all e9 (mono_all gg hu7))) ?_
        simpa using tk9.all hu9
    · obtain ⟨⟨x8, x9, rfl⟩, g7, tk7, us7, hl7, hu7⟩ := p
      rw [List.length_map, show fs.zipIdx.take fs.length = fs.zipIdx from List.take_of_length_le (by rw [List.length_zipIdx]; exact Nat.le_refl _)] at hu7
      refine s_ext (es := (cpLines n i).map Ln.d) rfl hl7 ?_ ?_ fun us2 H9 e9 hu9 => ?_
      · rw [cpLines_d]
        refine (el_lcR (ev_var (P := PD (nm n)) rfl rfl) (by omega) fun dd x H10 e10 hm hx => ?_).ev
        obtain ⟨s, hs, rfl⟩ := List.mem_map.mp hm
        refine ⟨_, tg_name, rfl, et_test (ev_neD (k := nm s) (l := nm i) (ev_var hx rfl) (ev_var (P := PD (nm i)) rfl rfl) (Nat.zero_le _) (Nat.zero_le _)), fun _ => ?_⟩
        exact ev_tup (ds := [nm i, .none, .tup [nm s]]) (ea_cons (ev_var (P := PD (nm i)) rfl rfl) (ea_cons ev_non (ea_cons (ev_tup (ds := [nm s]) (ea_cons (ev_var hx rfl) ea_nil) (by simp)) ea_nil))) (by simp)
      · rw [ka_len hu7, List.length_map, List.length_map, List.length_append]
        have b1 := flat_le (f := fnLines n i) (B := 9) (l := fs.zipIdx) fun p _ => fnLines_le n3
        rw [List.length_zipIdx] at b1
        have b3 := cpLines_le (c := i) n3
        omega
      · have hl9 := e9.kp l _ hl7 (fun _ z => by cases z)
        have tk9 : Tk H9 (upd H9 l (.lst (us7 ++ us2))) := Tk.lst hl9
        refine ⟨⟨_, _, _, rfl⟩, (g7.trans e9.gm).trans (Gm.updL hl9), us7 ++ us2, upd_same, ?_⟩
        rw [List.range_succ, List.flatMap_append, show ([i] : List Nat).flatMap (linesOf n fs) = fs.zipIdx.flatMap (fnLines n i) ++ cpLines n i by simp [linesOf], ← List.append_assoc, List.map_append]
        exact ka_app (tk9.all (mono_all e9 hu7)) (tk9.all hu9)
  · obtain ⟨⟨x3, x8, x9, rfl⟩, g, us, hl6, hu⟩ := p
    exact s_ret (P := PL ((allLines n fs).map Ln.d)) (ev_var (P := PL ((allLines n fs).map Ln.d)) ⟨l, us, rfl, hl6, hu⟩ rfl) fun v H7 e7 hv7 => k v H7 ((Gm.gx (e4.trans e5) hlH g).trans e7) hv7
theorem ok_all_lines {f c : Addr} {k : Nat} (F : Df K "all_lines" "all_lines" D_all_lines.st [] f c) (hm : mg "all_lines" = some (.ref f)) (B : Bi mg) : Fc P w K mg base CX0 (k + 1) "all_lines" [] (sp_all_lines T) :=
  F.fc hm D_all_lines.S (spP_len fun _ => rfl) (fun _ _ _ _ _ _ us hl => match us, hl with | [_], _ => rfl) fun cdv A outer s H vs Q E hc hr h => ⟨_, PSs.nox (D_all_lines.d B hr), pure_all_lines vs H Q E h⟩
end
end LX

set_option maxRecDepth 100000
set_option maxHeartbeats 4000000
namespace LX
open PySem PySem.Spec PyProof.Rows L2 MDict GxR GQ
namespace D_law_did
abbrev st : Stmt := top 44
abbrev N : List Str := ["_law_held", "_law_line", "_law_term", "_law_cell", "_law_function", "_law_sources", "_law_one"]
abbrev ps : List Str := ["_law_held", "_law_line"]
theorem S : FnScope N ps (defScope st) := ⟨rfl, rfl, rfl, by decide +kernel, rfl, by decide +kernel, by decide +kernel⟩
def t (K : PySem.W.Frag) (w : World) : TS :=
  (tSeq (tAsg (tVar 1) (gTup K 3 (gNames [3, 4, 5])))
  (tSeq (tAsg (tIf (tB (tIsN (tVar 4))) (tOp (rIxT K) (tVar 0) (tOp (rIxT K) (tVar 5) (tC (.int 0)))) (tOp (rCatA K) (tTup (tCons (tVar 4) tNil)) (tThen (tLc (iTup K (tVar 5)) (gName 6) tYes (tOp (rIxT K) (tVar 0) (tVar 6)) [6]) (kTup K)))) (gName 2))
  (tRet (tOp (rCatA K) (tOp (rCatA K) (tSl (rSlA K) (tVar 0) tNoPart (tPart (tVar 3))) (tTup (tCons (tVar 2) tNil))) (tSl (rSlA K) (tVar 0) (tPart (tOp rAddI (tVar 3) (tC (.int 1)))) tNoPart)))))
theorem d {P : Program} {w : World} {K : PySem.W.Frag} {mg : Str → Option Value} {base : Heap} {f : Addr} {cdv : Value} {A : Around} {outer : List Env} {s : Shared} {H : Hp} {E : XK} {k : Nat} (B : Bi mg) (hr : Room (k) (A.deeper (envOfC "_law_did" (defScope st) s.heap.objs.size f cdv))) :
    PSs (cxOf CX0 P w K mg base N "_law_did" (defScope st) f cdv A outer s H E).nox (defBody st) (t K w) :=
  (pss_cons (ps_asg (pv 1) (pg_tup rfl (by exact (pgs_cons (g_nm 3 S.nd) (pgs_cons (g_nm 4 S.nd) (pgs_cons (g_nm 5 S.nd) pgs_nil))))))
  (pss_cons (x_set (i := 2) S.nd (pe_ifExp (y_isN (pv 4)) (x_ixT (pv 0) (x_ixT (pv 5) pe_int)) (pe_op op_catA (pe_tup (by exact (pa_cons (pv 4) pa_nil))) (x_tup B (pe_lc (own := [("_law_one", 6)]) (g := (gName 6)) (tt := tYes) rfl S.nd (pi_tup (pv 5)) (blkOk_by (N := N) (sc := defScope st) (by decide +kernel)) (fun _ _ _ _ _ => (g_nm 6 S.nd)) (fun _ _ _ _ _ => pts_nil) (fun _ _ _ _ _ => (x_ixT (pv 0) (pv 6))))))))
  (pss_one (ps_ret (pe_op op_catA (pe_op op_catA (pe_slice sl_tupA (pv 0) po_none (po_some (pv 3))) (pe_tup (by exact (pa_cons (pv 2) pa_nil)))) (pe_slice sl_tupA (pv 0) (po_some (pe_op op_add (pv 3) pe_int)) po_none))))))
end D_law_did

namespace D_law_deep
abbrev st : Stmt := top 45
abbrev N : List Str := ["_law_term", "_law_part"]
abbrev ps : List Str := ["_law_term"]
theorem S : FnScope N ps (defScope st) := ⟨rfl, rfl, rfl, by decide +kernel, rfl, by decide +kernel, by decide +kernel⟩
def t (K : PySem.W.Frag) (w : World) (sp_law_deep : Sp) : TS :=
  (tSeq (tIfS (tNot (tB (tCB (rIsi K) (tCons (tVar 0) (tCons (tC (.ty "tuple")) tNil))))) (tRet (tC (.int 1))) tNext)
  (tRet (tOp rAddI (tC (.int 1)) (tCB (rMax K) (tCons (tLc (iTup K (tSl (rSlA K) (tVar 0) (tPart (tC (.int 1))) tNoPart)) (gName 1) tYes (tCall sp_law_deep [] E0 (tCons (tVar 1) tNil)) [1]) tNil)))))
theorem d {P : Program} {w : World} {K : PySem.W.Frag} {mg : Str → Option Value} {base : Heap} {f : Addr} {cdv : Value} {A : Around} {outer : List Env} {s : Shared} {H : Hp} {E : XK} {k : Nat} {sp_law_deep : Sp} (B : Bi mg) (hr : Room (k) (A.deeper (envOfC "_law_deep" (defScope st) s.heap.objs.size f cdv))) (F_law_deep : Fc P w K mg base CX0 k "_law_deep" [] sp_law_deep) :
    PSs (cxOf CX0 P w K mg base N "_law_deep" (defScope st) f cdv A outer s H E).nox (defBody st) (t K w sp_law_deep) :=
  (pss_cons (ps_if (pt_not (pt_val (x_isi B (pv 0) (x_ty B.tuple boot_tuple')))) (pss_one (ps_ret pe_int)) pss_nil)
  (pss_one (ps_ret (pe_op op_add pe_int (x_max B rfl (pe_lc (own := [("_law_part", 1)]) (g := (gName 1)) (tt := tYes) rfl S.nd (pi_tup (pe_slice sl_tupA (pv 0) (po_some pe_int) po_none)) (blkOk_by (N := N) (sc := defScope st) (by decide +kernel)) (fun _ _ _ _ _ => (g_nm 1 S.nd)) (fun _ _ _ _ _ => pts_nil) (fun _ _ _ _ _ => (x_call F_law_deep (hr.mono (by omega)) (by exact (pa_cons (pv 1) pa_nil))))))))))
end D_law_deep

namespace D_law_tame
abbrev st : Stmt := top 46
abbrev N : List Str := ["_law_machine_here", "_law_program_here", "_law_line", "_law_held", "_law_found", "_law_after", "_law_term"]
abbrev ps : List Str := ["_law_machine_here", "_law_program_here"]
theorem S : FnScope N ps (defScope st) := ⟨rfl, rfl, rfl, by decide +kernel, rfl, by decide +kernel, by decide +kernel⟩
def t (K : PySem.W.Frag) (w : World) (sp_law_did : Sp) (sp_law_deep : Sp) : TS :=
  (tSeq (tPar 3 4 (tCons (tTupRg (tRg1 (tOp (rIxT K) (tVar 0) (tC (.int 0))))) (tCons (tTup tNil) tNil)))
  (tSeq (tFor (iTup K (tVar 1)) (gName 2) (tSeq (tAsg (tCall sp_law_did [] E0 (tCons (tVar 3) (tCons (tVar 2) tNil))) (gName 5))
  (tIfS (tTest (tOp rLt (tCB (rMax K) (tCons (tLc (iTup K (tVar 5)) (gName 6) tYes (tCall sp_law_deep [] E0 (tCons (tVar 6) tNil)) [6]) tNil)) (tC (.int 6)))) (tPar 3 4 (tCons (tVar 5) (tCons (tOp (rCatA K) (tVar 4) (tTup (tCons (tVar 2) tNil))) tNil))) tNext)))
  (tRet (tVar 4))))
theorem d {P : Program} {w : World} {K : PySem.W.Frag} {mg : Str → Option Value} {base : Heap} {f : Addr} {cdv : Value} {A : Around} {outer : List Env} {s : Shared} {H : Hp} {E : XK} {k : Nat} {sp_law_did : Sp} {sp_law_deep : Sp} (B : Bi mg) (hr : Room (k) (A.deeper (envOfC "_law_tame" (defScope st) s.heap.objs.size f cdv))) (F_law_did : Fc P w K mg base CX0 k "_law_did" [] sp_law_did) (F_law_deep : Fc P w K mg base CX0 k "_law_deep" [] sp_law_deep) :
    PSs (cxOf CX0 P w K mg base N "_law_tame" (defScope st) f cdv A outer s H E).nox (defBody st) (t K w sp_law_did sp_law_deep) :=
  (pss_cons (ps_par (i := 3) (j := 4) rfl S.nd rfl rfl (by decide) rfl rfl (by exact (pa_cons (x_tupRg B rfl (x_ixT (pv 0) pe_int)) (pa_cons (pe_tup (by exact pa_nil)) pa_nil))) (by exact rfl))
  (pss_cons (ps_for PassesOwn.never rfl (pi_tup (pv 1)) (g_nm 2 S.nd) (pss_cons (x_set (i := 5) S.nd (x_call F_law_did (hr.mono (by omega)) (by exact (pa_cons (pv 3) (pa_cons (pv 2) pa_nil)))))
  (pss_one (ps_if (y_lt (x_max B rfl (pe_lc (own := [("_law_term", 6)]) (g := (gName 6)) (tt := tYes) rfl S.nd (pi_tup (pv 5)) (blkOk_by (N := N) (sc := defScope st) (by decide +kernel)) (fun _ _ _ _ _ => (g_nm 6 S.nd)) (fun _ _ _ _ _ => pts_nil) (fun _ _ _ _ _ => (x_call F_law_deep (hr.mono (by omega)) (by exact (pa_cons (pv 6) pa_nil)))))) pe_int) (pss_one (ps_par (i := 3) (j := 4) rfl S.nd rfl rfl (by decide) rfl rfl (by exact (pa_cons (pv 5) (pa_cons (pe_op op_catA (pv 4) (pe_tup (by exact (pa_cons (pv 2) pa_nil)))) pa_nil))) (by exact rfl))) pss_nil))))
  (pss_one (ps_ret (pv 4)))))
end D_law_tame

namespace D_law_every_line
abbrev st : Stmt := top 47
abbrev N : List Str := ["_law_machine_here", "_law_found", "_law_cell", "_law_cells", "_law_functions", "_law_function", "_law_reads", "_law_one", "_law_other"]
abbrev ps : List Str := ["_law_machine_here"]
theorem S : FnScope N ps (defScope st) := ⟨rfl, rfl, rfl, by decide +kernel, rfl, by decide +kernel, by decide +kernel⟩
def t (K : PySem.W.Frag) (w : World) : TS :=
  (tSeq (tAsg (tVar 0) (gTup K 2 (gNames [3, 4])))
  (tSeq (tAsg (tLst tNil) (gName 1))
  (tSeq (tFor (iRng1 (tCons (tVar 3) tNil)) (gName 2) (tSeq (tFor (iEnumT K (tCons (tVar 4) tNil)) (gTup K 2 (gNames [5, 6])) (tFor (iRng1 (tCons (tVar 3) tNil)) (gName 7) (tIfS (tTest (tOp (rEqD K) (tVar 6) (tC (.int 1)))) (tDrop (tBM K "list" rAppend (tVar 1) (tCons (tTup (tCons (tVar 2) (tCons (tVar 5) (tCons (tTup (tCons (tVar 7) tNil)) tNil)))) tNil))) (tAsg (tOp rCat (tVar 1) (tLc (iRng1 (tCons (tVar 3) tNil)) (gName 8) tYes (tTup (tCons (tVar 2) (tCons (tVar 5) (tCons (tTup (tCons (tVar 7) (tCons (tVar 8) tNil))) tNil)))) [8])) (gName 1)))))
  (tAsg (tOp rCat (tVar 1) (tLc (iRng1 (tCons (tVar 3) tNil)) (gName 7) (tTest (tOp (rNeD K) (tVar 7) (tVar 2))) (tTup (tCons (tVar 2) (tCons (tC .non) (tCons (tTup (tCons (tVar 7) tNil)) tNil)))) [7])) (gName 1))))
  (tRet (tVar 1)))))
theorem d {P : Program} {w : World} {K : PySem.W.Frag} {mg : Str → Option Value} {base : Heap} {f : Addr} {cdv : Value} {A : Around} {outer : List Env} {s : Shared} {H : Hp} {E : XK} {k : Nat} (B : Bi mg) (hr : Room (k) (A.deeper (envOfC "_law_every_line" (defScope st) s.heap.objs.size f cdv))) :
    PSs (cxOf CX0 P w K mg base N "_law_every_line" (defScope st) f cdv A outer s H E).nox (defBody st) (t K w) :=
  (pss_cons (ps_asg (pv 0) (pg_tup rfl (by exact (pgs_cons (g_nm 3 S.nd) (pgs_cons (g_nm 4 S.nd) pgs_nil)))))
  (pss_cons (x_set (i := 1) S.nd (pe_lst (by exact pa_nil)))
  (pss_cons (ps_for PassesOwn.never rfl (x_rng B (pv 3)) (g_nm 2 S.nd) (pss_cons (ps_for PassesOwn.never rfl (x_enumT B (pv 4)) (pg_tup rfl (by exact (pgs_cons (g_nm 5 S.nd) (pgs_cons (g_nm 6 S.nd) pgs_nil)))) (pss_one (ps_for PassesOwn.never rfl (x_rng B (pv 3)) (g_nm 7 S.nd) (pss_one (ps_if (y_eqD (u64 hr) (pv 6) pe_int) (pss_one (ps_expr (pe_bm PySem.F.plainAttrs_list PySem.F.slot_list_append PySem.F.type_list_append mt_append (pv 1) (by exact (pa_cons (pe_tup (by exact (pa_cons (pv 2) (pa_cons (pv 5) (pa_cons (pe_tup (by exact (pa_cons (pv 7) pa_nil))) pa_nil))))) pa_nil))))) (pss_one (x_set (i := 1) S.nd (pe_op op_cat (pv 1) (pe_lc (own := [("_law_other", 8)]) (g := (gName 8)) (tt := tYes) rfl S.nd (x_rng B (pv 3)) (blkOk_by (N := N) (sc := defScope st) (by decide +kernel)) (fun _ _ _ _ _ => (g_nm 8 S.nd)) (fun _ _ _ _ _ => pts_nil) (fun _ _ _ _ _ => (pe_tup (by exact (pa_cons (pv 2) (pa_cons (pv 5) (pa_cons (pe_tup (by exact (pa_cons (pv 7) (pa_cons (pv 8) pa_nil)))) pa_nil)))))))))))))))
  (pss_one (x_set (i := 1) S.nd (pe_op op_cat (pv 1) (pe_lc (own := [("_law_one", 7)]) (g := (gName 7)) (tt := (tTest (tOp (rNeD K) (tVar 7) (tVar 2)))) rfl S.nd (x_rng B (pv 3)) (blkOk_by (N := N) (sc := defScope st) (by decide +kernel)) (fun _ _ _ _ _ => (g_nm 7 S.nd)) (fun _ _ _ _ _ => (pts_one (y_neD (u64 hr) (pv 7) (pv 2)))) (fun _ _ _ _ _ => (pe_tup (by exact (pa_cons (pv 2) (pa_cons pe_non (pa_cons (pe_tup (by exact (pa_cons (pv 7) pa_nil))) pa_nil))))))))))))
  (pss_one (ps_ret (pv 1))))))
end D_law_every_line

namespace D_law_ran
abbrev st : Stmt := top 50
abbrev N : List Str := ["_law_machine_here", "_law_program_here", "_law_losses", "_law_held", "_law_at", "_law_line", "_law_term"]
abbrev ps : List Str := ["_law_machine_here", "_law_program_here", "_law_losses"]
theorem S : FnScope N ps (defScope st) := ⟨rfl, rfl, rfl, by decide +kernel, rfl, by decide +kernel, by decide +kernel⟩
def t (K : PySem.W.Frag) (w : World) (sp_law_did : Sp) (sp_law_deep : Sp) : TS :=
  (tSeq (tAsg (tTupRg (tRg1 (tOp (rIxT K) (tVar 0) (tC (.int 0))))) (gName 3))
  (tSeq (tFor (iEnumT K (tCons (tVar 1) tNil)) (gTup K 2 (gNames [4, 5])) (tIfS (tTest (tOp (rIn K true) (tVar 4) (tVar 2))) (tSeq (tAsg (tCall sp_law_did [] E0 (tCons (tVar 3) (tCons (tVar 5) tNil))) (gName 3))
  (tIfS (tTest (tOp rGt (tCB (rMax K) (tCons (tLc (iTup K (tVar 3)) (gName 6) tYes (tCall sp_law_deep [] E0 (tCons (tVar 6) tNil)) [6]) tNil)) (tC (.int 8)))) (tRet (tC .non)) tNext)) tNext))
  (tRet (tVar 3))))
theorem d {P : Program} {w : World} {K : PySem.W.Frag} {mg : Str → Option Value} {base : Heap} {f : Addr} {cdv : Value} {A : Around} {outer : List Env} {s : Shared} {H : Hp} {E : XK} {k : Nat} {sp_law_did : Sp} {sp_law_deep : Sp} (B : Bi mg) (hr : Room (k) (A.deeper (envOfC "_law_ran" (defScope st) s.heap.objs.size f cdv))) (F_law_did : Fc P w K mg base CX0 k "_law_did" [] sp_law_did) (F_law_deep : Fc P w K mg base CX0 k "_law_deep" [] sp_law_deep) :
    PSs (cxOf CX0 P w K mg base N "_law_ran" (defScope st) f cdv A outer s H E).nox (defBody st) (t K w sp_law_did sp_law_deep) :=
  (pss_cons (x_set (i := 3) S.nd (x_tupRg B rfl (x_ixT (pv 0) pe_int)))
  (pss_cons (ps_for PassesOwn.never rfl (x_enumT B (pv 1)) (pg_tup rfl (by exact (pgs_cons (g_nm 4 S.nd) (pgs_cons (g_nm 5 S.nd) pgs_nil)))) (pss_one (ps_if (y_ninT (pv 4) (pv 2)) (pss_cons (x_set (i := 3) S.nd (x_call F_law_did (hr.mono (by omega)) (by exact (pa_cons (pv 3) (pa_cons (pv 5) pa_nil)))))
  (pss_one (ps_if (y_gt (x_max B rfl (pe_lc (own := [("_law_term", 6)]) (g := (gName 6)) (tt := tYes) rfl S.nd (pi_tup (pv 3)) (blkOk_by (N := N) (sc := defScope st) (by decide +kernel)) (fun _ _ _ _ _ => (g_nm 6 S.nd)) (fun _ _ _ _ _ => pts_nil) (fun _ _ _ _ _ => (x_call F_law_deep (hr.mono (by omega)) (by exact (pa_cons (pv 6) pa_nil)))))) pe_int) (pss_one (ps_ret pe_non)) pss_nil))) pss_nil)))
  (pss_one (ps_ret (pv 3)))))
end D_law_ran

namespace D_law_parts
abbrev st : Stmt := top 52
abbrev N : List Str := ["_law_wishes_here", "_law_found", "_law_last", "_law_term", "_law_cell"]
abbrev ps : List Str := ["_law_wishes_here"]
theorem S : FnScope N ps (defScope st) := ⟨rfl, rfl, rfl, by decide +kernel, rfl, by decide +kernel, by decide +kernel⟩
def t (K : PySem.W.Frag) (w : World) : TS :=
  (tSeq (tPar 1 2 (tCons (tLst tNil) (tCons (tLc (iTup K (tVar 0)) (gTup K 2 (gNames [4, 3])) tYes (tVar 3) [4, 3]) tNil)))
  (tSeq (tWhile (tTest (tOp (rNeD K) (tVar 2) (tLst tNil))) (tSeq (tAsg (tBM0 K "list" rPop (tVar 2)) (gName 3))
  (tIfS (tTest (tOp (rNotInD K) (tVar 3) (tVar 1))) (tSeq (tDrop (tBM K "list" rAppend (tVar 1) (tCons (tVar 3) tNil)))
  (tAsg (tOp rCat (tVar 2) (tIf (tB (tCB (rIsi K) (tCons (tVar 3) (tCons (tC (.ty "tuple")) tNil)))) (tCB (rListS K) (tCons (tSl (rSlA K) (tVar 3) (tPart (tC (.int 1))) tNoPart) tNil)) (tLst tNil))) (gName 2))) tNext)))
  (tRet (tVar 1))))
theorem d {P : Program} {w : World} {K : PySem.W.Frag} {mg : Str → Option Value} {base : Heap} {f : Addr} {cdv : Value} {A : Around} {outer : List Env} {s : Shared} {H : Hp} {E : XK} {k : Nat} (B : Bi mg) (hr : Room (k) (A.deeper (envOfC "_law_parts" (defScope st) s.heap.objs.size f cdv))) :
    PSs (cxOf CX0 P w K mg base N "_law_parts" (defScope st) f cdv A outer s H E).nox (defBody st) (t K w) :=
  (pss_cons (ps_par (i := 1) (j := 2) rfl S.nd rfl rfl (by decide) rfl rfl (by exact (pa_cons (pe_lst (by exact pa_nil)) (pa_cons (pe_lc (own := [("_law_cell", 4), ("_law_term", 3)]) (g := (gTup K 2 (gNames [4, 3]))) (tt := tYes) rfl S.nd (pi_tup (pv 0)) (blkOk_by (N := N) (sc := defScope st) (by decide +kernel)) (fun _ _ _ _ _ => (pg_tup rfl (by exact (pgs_cons (g_nm 4 S.nd) (pgs_cons (g_nm 3 S.nd) pgs_nil))))) (fun _ _ _ _ _ => pts_nil) (fun _ _ _ _ _ => (pv 3))) pa_nil))) (by exact rfl))
  (pss_cons (ps_while PassesOwn.never (y_neD (u64 hr) (pv 2) (pe_lst (by exact pa_nil))) (pss_cons (x_set (i := 3) S.nd (pe_bm0 PySem.F.plainAttrs_list PySem.F.slot_list_pop PySem.F.type_list_pop mt_pop (pv 2)))
  (pss_one (ps_if (y_ninL (u65 hr) (pv 3) (pv 1)) (pss_cons (ps_expr (pe_bm PySem.F.plainAttrs_list PySem.F.slot_list_append PySem.F.type_list_append mt_append (pv 1) (by exact (pa_cons (pv 3) pa_nil))))
  (pss_one (x_set (i := 2) S.nd (pe_op op_cat (pv 2) (pe_ifExp (pt_val (x_isi B (pv 3) (x_ty B.tuple boot_tuple'))) (x_list B (pe_slice sl_tupA (pv 3) (po_some pe_int) po_none)) (pe_lst (by exact pa_nil))))))) pss_nil))))
  (pss_one (ps_ret (pv 1)))))
end D_law_parts

end LX

set_option maxRecDepth 100000
set_option maxHeartbeats 4000000
namespace LX
open PySem PySem.Spec PyProof.Rows L2 MDict GxR GQ
/-! ### a line's work -/
def getD' (held : List D) (i : Nat) : D := held.getD i .none
def newT (held : List D) (l : Ln) : D := match l.f with
  | none => getD' held (l.s.headD 0)
  | some f => .tup (nm f :: l.s.map (getD' held))
def did (held : List D) (l : Ln) : List D := held.set l.c (newT held l)
/-- a line that may stand in a machine of n cells -/
structure LnIn (n : Nat) (l : Ln) : Prop where
  c : l.c < n
  s : ∀ x ∈ l.s, x < n
  ne : l.s ≠ []
  two : l.s.length ≤ 2
theorem getD_get {held : List D} {i : Nat} (h : i < held.length) : held[i]? = some (getD' held i) := by
  unfold getD'
  rw [List.getD_eq_getElem?_getD, List.getElem?_eq_getElem h]
  rfl
theorem cut_to {ds : List D} {c : Nat} (h : c ≤ ds.length) : cutD ds none (some (c : Int)) = ds.take c := by
  unfold cutD
  rw [HT.sIx_none, HT.sIx_nat, List.drop_zero, Nat.sub_zero, Nat.min_eq_left h]
theorem cut_from {ds : List D} {c : Nat} (h : c ≤ ds.length) : cutD ds (some (c : Int)) none = ds.drop c := by
  unfold cutD
  rw [HT.sIx_none, HT.sIx_nat, Nat.min_eq_left h]
  exact List.take_of_length_le (by rw [List.length_drop]; exact Nat.le_refl _)
theorem set_cut {held : List D} {c : Nat} (h : c < held.length) (t : D) : held.take c ++ [t] ++ held.drop (c + 1) = held.set c t := by
  rw [List.set_eq_take_append_cons_drop, if_pos h]
  simp
section
variable {K : PySem.W.Frag} {w : World} {σ : L2.St} {H : Hp} {ta tb te td tl ty tx tk tv : TE} {t : TT} {Dn : Ends} {tu tz : TS} {g g1 : TG} {P R : V → Hp → Prop}
/-- held[:cell] + (term,) + held[cell + 1:] -/
theorem ev_setc {held : List D} {c : Nat} {d : D} (hh : Ev ta σ H (PD (.tup held))) (hc : Ev tb σ H (PD (nm c))) (hd : Ev td σ H (PD d)) (hlt : c < held.length) (hl : held.length ≤ 1000) :
    Ev (tOp (rCatA K) (tOp (rCatA K) (tSl (rSlA K) ta tNoPart (tPart tb)) (tTup (tCons td tNil))) (tSl (rSlA K) ta (tPart (tOp rAddI tb (tC (.int 1)))) tNoPart)) σ H (PD (.tup (held.set c d))) := by
  rw [← set_cut hlt]
  refine ev_catA (ev_catA (ev_slA hh eo_none (eo_some hc) (cut_to (by omega))) (ev_tup (ds := [d]) (ea_cons hd ea_nil) (by simp)) ?_) (ev_slA hh (eo_some (ev_add hc ev_int)) eo_none (cut_from (c := c + 1) (by omega))) ?_
  · rw [List.length_take]; simp; omega
  · rw [List.length_append, List.length_take, List.length_drop]; simp; omega
theorem fD_none {f : Option Nat} : decide (fD f = NestedKey.none) = f.isNone := by
  cases f with
  | none => simp [fD]
  | some f => simp [fD]
/-- the new term -/
theorem ev_newT {held : List D} {l : Ln} {j : Nat} (hh : ∀ H1, Gx H H1 → Ev ta σ H1 (PD (.tup held))) (hf : Ev tb σ H (PD (fD l.f))) (hs : Ev td σ H (PD (.tup (l.s.map nm)))) (hi : LnIn held.length l)
    (hx : ∀ x H1, Gx H H1 → wipe ((wipe σ [j]).set j (some x)) [j] = wipe σ [j] ∧ Ev tx ((wipe σ [j]).set j (some x)) H1 (PV x) ∧ Ev ta ((wipe σ [j]).set j (some x)) H1 (PD (.tup held))) :
    Ev (tIf (tB (tIsN tb)) (tOp (rIxT K) ta (tOp (rIxT K) td (tC (.int 0)))) (tOp (rCatA K) (tTup (tCons tb tNil)) (tThen (tLc (iTup K td) (gName j) tYes (tOp (rIxT K) ta tx) [j]) (kTup K)))) σ H (PD (newT held l)) := by
  refine ev_if (b := l.f.isNone) (et_B (ev_isB (ev_isN hf) fD_none)) (fun hb => ?_) fun hb => ?_
  · cases hlf : l.f with
    | some f => rw [hlf] at hb; cases hb
    | none =>
      have hne := hi.ne
      cases hls : l.s with
      | nil => exact absurd hls hne
      | cons a r =>
        have ha := hi.s a (by rw [hls]; exact List.mem_cons_self)
        unfold newT
        rw [hlf, hls]
        rw [hls] at hs
        exact ev_ixN (n := a) (hh H (Gx.refl H)) (ev_ix0 (d := nm a) (ds := r.map nm) hs) (getD_get ha)
  · cases hlf : l.f with
    | none => rw [hlf] at hb; cases hb
    | some f =>
      rw [hlf] at hf
      unfold newT
      rw [hlf]
      show Ev _ σ H (PD (.tup ([nm f] ++ l.s.map (getD' held))))
      have two := hi.two
      refine ev_catA (ev_tup (ds := [nm f]) (ea_cons hf ea_nil) (by simp)) (ev_tupOf ?_) (by simp; omega)
      have e : l.s.map (getD' held) = ((l.s.map nm).filter fun _ => true).map fun d => match d with | .num i => getD' held i.toNat | _ => .none := by
        rw [List.filter_eq_self.mpr fun _ _ => rfl, List.map_map]
        refine List.map_congr_left fun a ha => ?_
        show getD' held a = getD' held ((a : Int)).toNat
        rw [Int.toNat_natCast]
      rw [e]
      refine (el_lcT hs (by simp; omega) fun d x H1 e1 hm hx' => ?_).ev
      obtain ⟨a, ha, rfl⟩ := List.mem_map.mp hm
      obtain ⟨h1, h2, h3⟩ := hx x H1 e1
      have hx' : x = .int (a : Int) := hx'
      subst hx'
      refine ⟨_, tg_name, h1, et_yes, fun _ => ?_⟩
      show Ev _ _ H1 (PD (getD' held ((a : Int)).toNat))
      rw [Int.toNat_natCast]
      exact ev_ixN (n := a) h3 (h2.imp fun v H' e => e) (getD_get (hi.s a ha))
/-- found + a new list -/
theorem el_cat {ds es : List D} (ha : Ev ta σ H (PL ds)) (hb : Ev tb σ H (PL es)) (hz : ds.length + es.length ≤ 1000000) : EvL (tOp rCat ta tb) σ H (ds ++ es) := fun H1 e Q q =>
  ha H1 e _ fun x H2 e2 hx => hb H2 (e.trans e2) _ fun y H3 e3 hy => by
    obtain ⟨l, vs, rfl, h1, h2⟩ := Mono.mono e3 hx
    obtain ⟨b, us, rfl, h3, h4⟩ := hy
    refine ⟨l, b, vs, us, rfl, rfl, h1, h3, by rw [ka_len h2, ka_len h4, sizeLine_eq]; omega, fun p hp => ?_⟩
    have g' := Gx.new (o := .lst (vs ++ us)) hp
    exact q p _ _ ((e2.trans e3).dm p hp) ((e2.trans e3).trans g') upd_same (ka_app (mono_all g' h2) (mono_all g' h4))
theorem el_listT {ks : List D} (h : Ev te σ H (PD (.tup ks))) : EvL (tCB (rListS K) (tCons te tNil)) σ H ks := fun H1 e Q q =>
  h H1 e _ fun v H2 e2 hv => by
    obtain ⟨a, vs, rfl, h1, h2⟩ := hv
    refine ⟨a, vs, rfl, .inr (SqT.of h1), fun p hp => ?_⟩
    have g' := Gx.new (o := .lst vs) hp
    exact q p _ _ (e2.dm p hp) (e2.trans g') upd_same (mono_all g' h2)
theorem q_while (W : Nat → L2.St → Hp → Prop) (m0 : Nat) (h0 : W m0 σ H)
    (hs : ∀ m σ' H', W m σ' H' → ∃ b, EvT t σ' H' b ∧ (b = true → ∀ H1, Gx H' H1 → ∃ N : L2.St → Hp → Prop, (∀ σ2 H2, N σ2 H2 → ∃ m', m' < m ∧ W m' σ2 H2) ∧ tu { Dn with nx := N, ct := N, bk := tz Dn } σ' H1) ∧ (b = false → ∀ H1, Gx H' H1 → tz Dn σ' H1)) :
    tSeq (tWhile t tu) tz Dn σ H := by
  refine ⟨W, ⟨m0, h0⟩, fun m σ' H' hw => ?_⟩
  obtain ⟨b, hb, h1, h2⟩ := hs m σ' H' hw
  refine hb H' (Gx.refl H') _ fun H1 e1 => ?_
  cases b with
  | true => exact h1 rfl H1 e1
  | false => exact h2 rfl H1 e1
theorem q_par2 {i j : Nat} {ta : TA} {P R : V → Hp → Prop} (h : EvA ta σ H [P, R]) (k : ∀ v u H1, Gx H H1 → P v H1 → R u H1 → tz Dn ((σ.set i (some v)).set j (some u)) H1) : tSeq (tPar i j ta) tz Dn σ H := h H (Gx.refl H) _ fun vs H1 e hv => by
  obtain ⟨v, _, rfl, h1, u, _, rfl, h2, rfl⟩ := hv
  exact ⟨v, u, rfl, k v u H1 e h1 h2⟩
end
end LX

set_option maxRecDepth 100000
set_option maxHeartbeats 4000000
namespace LX
open PySem PySem.Spec PyProof.Rows L2 MDict GxR GQ
/-! ### runs -/
def maxD (held : List D) : Nat := NestedKey.depthAll held
def tameStep (st : List D × List Ln) (l : Ln) : List D × List Ln := if maxD (did st.1 l) + 1 < 6 then (did st.1 l, st.2 ++ [l]) else st
def tame (n : Nat) (prog : List Ln) : List Ln := (prog.foldl tameStep (rgD n, [])).2
def runL : List D → List Ln → Option (List D)
  | held, [] => some held
  | held, l :: ls => if maxD (did held l) + 1 > 8 then none else runL (did held l) ls
def optT : Option (List D) → D
  | none => .none
  | some h => .tup h
/-- a held tuple as it may be -/
structure HOk (n : Nat) (held : List D) : Prop where
  len : held.length = n
  wf : ∀ d ∈ held, wfS d = true
theorem hok_first (n : Nat) : HOk n (rgD n) := ⟨rgD_length n, fun d hd => by
  obtain ⟨i, _, rfl⟩ := List.mem_map.mp hd
  rfl⟩
theorem getD_mem {held : List D} {i : Nat} (h : i < held.length) : getD' held i ∈ held := List.mem_of_getElem? (getD_get h)
theorem newT_wf {n : Nat} {held : List D} {l : Ln} (h : HOk n held) (hl : LnIn n l) : wfS (newT held l) = true := by
  have hlen := h.len
  cases hf : l.f with
  | none =>
    cases hs : l.s with
    | nil => exact absurd hs hl.ne
    | cons a r =>
      have ha := hl.s a (by rw [hs]; exact List.mem_cons_self)
      unfold newT
      rw [hf, hs]
      exact h.wf _ (getD_mem (by rw [hlen]; exact ha))
  | some f =>
    unfold newT
    rw [hf]
    have h2 := hl.two
    have hs := hl.s
    cases e : l.s with
    | nil => exact absurd e hl.ne
    | cons a r =>
      rw [e] at h2 hs
      simp only [wfS, Bool.and_eq_true]
      refine ⟨by simp [hdN]; simpa using h2, wfSs_all.mpr fun k hk => ?_⟩
      rcases List.mem_cons.mp hk with rfl | hk
      · rfl
      · obtain ⟨b, hb, rfl⟩ := List.mem_map.mp hk
        exact h.wf _ (getD_mem (by rw [hlen]; exact hs b hb))
theorem newT_depth {n : Nat} {held : List D} {l : Ln} (h : HOk n held) (hl : LnIn n l) : (newT held l).depth ≤ maxD held + 1 := by
  have hlen := h.len
  cases hf : l.f with
  | none =>
    cases hs : l.s with
    | nil => exact absurd hs hl.ne
    | cons a r =>
      have ha := hl.s a (by rw [hs]; exact List.mem_cons_self)
      unfold newT
      rw [hf, hs]
      have := le_depths (getD_mem (held := held) (i := a) (by rw [hlen]; exact ha))
      show (getD' held a).depth ≤ _
      unfold maxD
      omega
  | some f =>
    unfold newT
    rw [hf]
    show (NestedKey.tup (.num _ :: l.s.map (getD' held))).depth ≤ _
    rw [depth_tup]
    unfold maxD
    have : NestedKey.depthAll (l.s.map (getD' held)) ≤ NestedKey.depthAll held := depths_le fun k hk => by
      obtain ⟨b, hb, rfl⟩ := List.mem_map.mp hk
      exact le_depths (getD_mem (by rw [hlen]; exact hl.s b hb))
    omega
theorem hok_did {n : Nat} {held : List D} {l : Ln} (h : HOk n held) (hl : LnIn n l) : HOk n (did held l) := ⟨by unfold did; rw [List.length_set]; exact h.len, fun d hd => by
  rcases List.mem_or_eq_of_mem_set hd with h1 | rfl
  · exact h.wf d h1
  · exact newT_wf h hl⟩
theorem did_depth {n : Nat} {held : List D} {l : Ln} (h : HOk n held) (hl : LnIn n l) : maxD (did held l) ≤ maxD held + 1 := depths_le fun k hk => by
  rcases List.mem_or_eq_of_mem_set hk with h1 | rfl
  · have := le_depths h1
    unfold maxD
    omega
  · exact newT_depth h hl
theorem first_depth (n : Nat) : maxD (rgD n) = 0 := Nat.le_zero.mp (depths_le fun k hk => by
  obtain ⟨i, _, rfl⟩ := List.mem_map.mp hk
  exact Nat.le_refl 0)
def progD (ls : List Ln) : D := .tup (ls.map Ln.d)
section
variable {P : Program} {w : World} {K : PySem.W.Frag} {mg : Str → Option Value} {base : Heap} {T : List Addr}
/-! _law_did -/
def sp_law_did (T : List Addr) : Sp := spP (α := List D × Ln) T (fun x => LnIn x.1.length x.2 ∧ x.1.length ≤ 10) (fun x => [PD (.tup x.1), PD x.2.d]) fun x => PD (.tup (did x.1 x.2))
theorem pure_law_did : ∀ vs H Q E, sp_law_did T vs H Q E → D_law_did.t K w { nx := fun _ H' => Q .non H', rt := Q } (start D_law_did.N vs) H := by
  rintro vs H Q E ⟨hT, ⟨held, l⟩, ⟨hi, hl⟩, ⟨v1, _, rfl, h1, v2, _, rfl, h2, rfl⟩, k⟩
  have h1 : KeyH H (.tup held) v1 := h1
  have h2 : KeyH H l.d v2 := h2
  have hi : LnIn held.length l := hi
  have hl : held.length ≤ 10 := hl
  refine q_unp (ks := [nm l.c, fD l.f, .tup (l.s.map nm)]) (ev_var (P := PD l.d) h2 rfl) rfl rfl fun vs2 H1 e1 hv => ?_
  obtain ⟨cv, _, rfl, hc, fv, _, rfl, hf, sv, _, rfl, hs, rfl⟩ := hv
  have h11 := mono_d e1 h1
  refine q_asg (ev_newT (fun H2 e2 => ev_var (P := PD (.tup held)) (mono_d e2 h11) rfl) (ev_var (P := PD (fD l.f)) hf rfl) (ev_var (P := PD (.tup (l.s.map nm))) hs rfl) hi fun x H2 e2 => ⟨rfl, ev_var (P := PV x) rfl rfl, ev_var (P := PD (.tup held)) (mono_d e2 h11) rfl⟩) fun v H2 e2 hv => ?_
  exact s_ret (ev_setc (ev_var (P := PD (.tup held)) (mono_d e2 h11) rfl) (ev_var (P := PD (nm l.c)) (mono_d e2 hc) rfl) (ev_var (P := PD (newT held l)) hv rfl) hi.c (by omega)) fun v H3 e3 hv3 => k v H3 ((e1.trans e2).trans e3) hv3
theorem ok_law_did {f c : Addr} {k : Nat} (F : Df K "_law_did" "_law_did" D_law_did.st [] f c) (hm : mg "_law_did" = some (.ref f)) (B : Bi mg) : Fc P w K mg base CX0 (k + 1) "_law_did" [] (sp_law_did T) :=
  F.fc hm D_law_did.S (spP_len fun _ => rfl) (fun _ _ _ _ _ _ us hl => match us, hl with | [_, _], _ => rfl) fun cdv A outer s H vs Q E hc hr h => ⟨_, PSs.nox (D_law_did.d B hr), pure_law_did vs H Q E h⟩
/-! _law_deep -/
theorem pure_law_deep {b : Nat} {spc : Sp} (hs : ∀ b', b = b' + 1 → spc = sp_depth T b') : ∀ vs H Q E, sp_depth T b vs H Q E → D_law_deep.t K w spc { nx := fun _ H' => Q .non H', rt := Q } (start D_law_deep.N vs) H := by
  rintro vs H Q E ⟨hT, d, ⟨hw, hd⟩, ⟨v1, _, rfl, h1, rfl⟩, k⟩
  have h1 : KeyH H d v1 := h1
  cases d with
  | none => simp [wfS] at hw
  | text _ => simp [wfS] at hw
  | num i => exact q_yes (et_is (et_not (et_B (i_it (ev_var h1 rfl)))) rfl) fun H1 e1 => s_ret (P := PD (nm 1)) ev_int fun v H2 e2 hv => k v H2 (e1.trans e2) hv
  | tup ks =>
    simp only [wfS, Bool.and_eq_true] at hw
    obtain ⟨f, a, r, rfl, hl⟩ := hdN_shape hw.1
    obtain ⟨b', rfl⟩ : ∃ b', b = b' + 1 := ⟨b - 1, by rw [depth_tup] at hd; omega⟩
    have hs := hs b' rfl
    subst hs
    have hsub : ∀ d ∈ a :: r, wfS d = true ∧ d.depth ≤ b' := fun d hm => ⟨wfSs_all.mp hw.2 d (List.mem_cons_of_mem _ hm), by have := le_depths hm; rw [depth_tup] at hd; omega⟩
    refine q_pass (et_is (et_not (et_B (i_tt (ev_var (P := PD _) h1 rfl)))) rfl) fun H1 e1 => ?_
    refine s_ret (ev_isD (ev_add ev_int (ev_depths (r := a :: r) (EvL.ev ?_) (by simp))) ?_) fun v H2 e2 hv => k v H2 (e1.trans e2) hv
    · have e : (a :: r).map (fun d => nm (d.depth + 1)) = ((a :: r).filter fun _ => true).map fun d => nm (d.depth + 1) := by rw [List.filter_eq_self.mpr fun _ _ => rfl]
      rw [e]
      refine el_lcT (ev_tail (ev_var (P := PD _) (mono_d e1 h1) rfl)) (by simp; omega) fun d x H2 e2 hm hx => ⟨_, tg_name, rfl, et_yes, fun _ => ?_⟩
      exact ev_call d ((hT.mono e1).mono e2) (ea_cons (ev_var hx rfl) ea_nil) (hsub d hm)
    · rw [depth_tup]
      show NestedKey.num _ = NestedKey.num _
      congr 1
      omega
theorem ok_law_deep {f c : Addr} (F : Df K "_law_deep" "_law_deep" D_law_deep.st [] f c) (hm : mg "_law_deep" = some (.ref f)) (B : Bi mg) : ∀ b : Nat, Fc P w K mg base CX0 (b + 1) "_law_deep" [] (sp_depth T b)
  | 0 => F.fc hm D_law_deep.S (spP_len fun _ => rfl) (fun _ _ _ _ _ _ us hl => match us, hl with | [_], _ => rfl) fun cdv A outer s H vs Q E hc hr h =>
      ⟨_, PSs.nox (D_law_deep.d B hr (fn_never (ps := D_law_deep.ps) F hm (fun _ _ _ _ _ _ us hl => match us, hl with | [_], _ => rfl))), pure_law_deep (fun _ e => by omega) vs H Q E h⟩
  | b + 1 => F.fc hm D_law_deep.S (spP_len fun _ => rfl) (fun _ _ _ _ _ _ us hl => match us, hl with | [_], _ => rfl) fun cdv A outer s H vs Q E hc hr h =>
      ⟨_, PSs.nox (D_law_deep.d B hr (ok_law_deep F hm B b)), pure_law_deep (fun b' e => by cases e; rfl) vs H Q E h⟩
/-- max([_law_deep(term) for term in held]) -/
theorem ev_maxdeep {σ : L2.St} {H : Hp} {tl tx : TE} {held : List D} {n b j : Nat} (hT : TabsG T H) (h : Ev tl σ H (PD (.tup held))) (ok : HOk n held) (hn : 1 ≤ n) (hn3 : n ≤ 3) (hb : maxD held ≤ b)
    (hx : ∀ x H1, Gx H H1 → wipe ((wipe σ [j]).set j (some x)) [j] = wipe σ [j] ∧ Ev tx ((wipe σ [j]).set j (some x)) H1 (PV x)) :
    Ev (tCB (rMax K) (tCons (tLc (iTup K tl) (gName j) tYes (tCall (sp_depth T b) [] E0 (tCons tx tNil)) [j]) tNil)) σ H (PD (nm (maxD held + 1))) := by
  have hl := ok.len
  refine ev_depths (r := held) (EvL.ev ?_) (by intro z; rw [z] at hl; simp at hl; omega)
  have e : held.map (fun d => nm (d.depth + 1)) = (held.filter fun _ => true).map fun d => nm (d.depth + 1) := by rw [List.filter_eq_self.mpr fun _ _ => rfl]
  rw [e]
  refine el_lcT h (by omega) fun d x H2 e2 hm hx' => ?_
  obtain ⟨w1, w2⟩ := hx x H2 e2
  exact ⟨_, tg_name, w1, et_yes, fun _ => ev_call d (hT.mono e2) (ea_cons (P := PD d) (fun H3 e3 Q q => w2 H3 e3 Q fun v H4 e4 hv => q v H4 e4 (by rw [show v = x from hv]; exact mono_d (e3.trans e4) hx')) ea_nil) ⟨ok.wf d hm, Nat.le_trans (le_depths hm) hb⟩⟩
/-! _law_tame -/
def sp_law_tame (T : List Addr) : Sp := spP (α := (Nat × List Nat) × List Ln) T (fun x => MOk x.1.1 x.1.2 ∧ (∀ l ∈ x.2, LnIn x.1.1 l) ∧ x.2.length ≤ 100) (fun x => [PD (mD x.1.1 x.1.2), PD (progD x.2)]) fun x => PD (progD (tame x.1.1 x.2))
theorem tame_ok {n : Nat} : ∀ (ls : List Ln) (st : List D × List Ln), (∀ l ∈ ls, LnIn n l) → HOk n st.1 → maxD st.1 + 1 < 6 → HOk n (ls.foldl tameStep st).1 ∧ maxD (ls.foldl tameStep st).1 + 1 < 6
  | [], st, _, h, hd => ⟨h, hd⟩
  | l :: ls, st, hl, h, hd => by
    rw [List.foldl_cons]
    refine tame_ok ls _ (fun x hx => hl x (List.mem_cons_of_mem _ hx)) ?_ ?_
    · unfold tameStep
      split
      · exact hok_did h (hl l List.mem_cons_self)
      · exact h
    · unfold tameStep
      split
      · assumption
      · exact hd
theorem tame_len {ls : List Ln} : ∀ (st : List D × List Ln), (ls.foldl tameStep st).2.length ≤ st.2.length + ls.length := by
  induction ls with
  | nil => intro st; exact Nat.le_refl _
  | cons l ls ih =>
    intro st
    rw [List.foldl_cons]
    refine Nat.le_trans (ih _) ?_
    have : (tameStep st l).2.length ≤ st.2.length + 1 := by
      unfold tameStep
      split
      · simp
      · omega
    simp; omega
theorem pure_law_tame : ∀ vs H Q E, sp_law_tame T vs H Q E → D_law_tame.t K w (sp_law_did T) (sp_depth T 6) { nx := fun _ H' => Q .non H', rt := Q } (start D_law_tame.N vs) H := by
  rintro vs H Q E ⟨hT, ⟨⟨n, fs⟩, prog⟩, ⟨m, hp, hlen⟩, ⟨v1, _, rfl, h1, v2, _, rfl, h2, rfl⟩, k⟩
  have h1 : KeyH H (mD n fs) v1 := h1
  have h2 : KeyH H (.tup (prog.map Ln.d)) v2 := h2
  have m : MOk n fs := m
  have hp : ∀ l ∈ prog, LnIn n l := hp
  have n3 := m.n3; have n1 := m.n1
  have hlen : prog.length ≤ 100 := hlen
  refine q_par2 (P := PD (.tup (rgD n))) (R := PD (progD [])) (ea_cons (ev_tupRg (ev_ix0 (d := nm n) (ev_var (P := PD (mD n fs)) h1 rfl)) (by omega)) (ea_cons (ev_tup (ds := []) ea_nil (by simp)) ea_nil)) fun hv fv H1 e1 hh hf => ?_
  refine s_forT (ds := prog.map Ln.d) (ev_var (P := PD _) (mono_d e1 h2) rfl) (fun Hs i σ' H' => (∃ x2 hv fv x5, σ' = [some v1, some v2, x2, some hv, some fv, x5, none] ∧ KeyH H' (.tup ((prog.take i).foldl tameStep (rgD n, [])).1) hv ∧ KeyH H' (progD ((prog.take i).foldl tameStep (rgD n, [])).2) fv) ∧ Gx Hs H')
    (fun H2 e2 => ⟨⟨_, _, _, _, rfl, mono_d e2 hh, mono_d e2 hf⟩, Gx.refl _⟩) (fun H2 i σ' H' e2 p => p.2.tk) (fun H2 i d x σ' H' e2 hi p hx => ?_) (fun H2 σ' H' e2 p => ?_)
  · obtain ⟨⟨x2, hv, fv, x5, rfl, hh, hf⟩, g⟩ := p
    rw [List.getElem?_map] at hi
    cases hy : prog[i]? with
    | none => rw [hy] at hi; cases hi
    | some l =>
    rw [hy] at hi
    cases hi
    have hil := (List.getElem?_eq_some_iff.mp hy).1
    have hlm := hp l (List.mem_of_getElem? hy)
    obtain ⟨ok, od⟩ := tame_ok (n := n) (prog.take i) (rgD n, []) (fun x hx => hp x (List.mem_of_mem_take hx)) (hok_first n) (by rw [first_depth]; decide)
    have tl := tame_len (ls := prog.take i) (rgD n, [])
    have tlen : (prog.take i).length ≤ i := by rw [List.length_take]; omega
    have hstep : (prog.take (i + 1)).foldl tameStep (rgD n, []) = tameStep ((prog.take i).foldl tameStep (rgD n, [])) l := by
      rw [take_succ_of hy, List.foldl_append]; rfl
    generalize hst : (prog.take i).foldl tameStep (rgD n, []) = st at hh hf ok od hstep tl
    have g2 := (e1.trans e2).trans g
    refine q_asg (ev_call (st.1, l) (hT.mono g2) (ea_cons (ev_var (P := PD (.tup st.1)) hh rfl) (ea_cons (ev_var (P := PD l.d) hx rfl) ea_nil)) ⟨by rw [ok.len]; exact hlm, by rw [ok.len]; omega⟩) fun av H4 e4 hav => ?_
    have oka := hok_did ok hlm
    have hd1 := did_depth ok hlm
    have hav : KeyH H4 (.tup (did st.1 l)) av := hav
    refine s_if (et_test (ev_lt (ev_maxdeep (b := 6) (j := 6) ((hT.mono g2).mono e4) (ev_var (P := PD (.tup (did st.1 l))) hav rfl) oka n1 n3 (by omega) fun x H5 e5 => ⟨rfl, ev_var (P := PV x) rfl rfl⟩) ev_int)) (fun hb H5 e5 => ?_) fun hb H5 e5 => ?_
    · have hb' : maxD (did st.1 l) + 1 < 6 := by have := of_decide_eq_true hb; omega
      have hts : tameStep st l = (did st.1 l, st.2 ++ [l]) := if_pos hb'
      refine (ea_cons (P := PD (.tup (did st.1 l))) (ev_var (mono_d e5 hav) rfl) (ea_cons (P := PD (progD (st.2 ++ [l]))) ?_ ea_nil)) H5 (Gx.refl _) _ fun vs6 H6 e6 hv6 => ?_
      · unfold progD
        rw [List.map_append]
        refine ev_catA (ds := st.2.map Ln.d) (es := [l.d]) (ev_var (P := PD (progD st.2)) (mono_d e5 (mono_d e4 hf)) rfl) (ev_tup (ds := [l.d]) (ea_cons (ev_var (P := PD l.d) (mono_d e5 (mono_d e4 hx)) rfl) ea_nil) (by simp)) ?_
        simp at tl ⊢
        omega
      · obtain ⟨a, _, rfl, ha, b, _, rfl, hb2, rfl⟩ := hv6
        refine ⟨a, b, rfl, ⟨_, _, _, _, rfl, ?_, ?_⟩, ((g.trans e4).trans e5).trans e6⟩
        · rw [hstep, hts]; exact ha
        · rw [hstep, hts]; exact hb2
    · have hb' : ¬ maxD (did st.1 l) + 1 < 6 := by have := of_decide_eq_false hb; omega
      have hts : tameStep st l = st := if_neg hb'
      refine ⟨⟨_, _, _, _, rfl, ?_, ?_⟩, (g.trans e4).trans e5⟩
      · rw [hstep, hts]; exact mono_d e5 (mono_d e4 hh)
      · rw [hstep, hts]; exact mono_d e5 (mono_d e4 hf)
  · obtain ⟨⟨x2, hv, fv, x5, rfl, hh, hf⟩, g⟩ := p
    rw [List.length_map, List.take_length] at hf
    exact s_ret (P := PD (progD (tame n prog))) (ev_var (P := PD (progD (tame n prog))) hf rfl) fun v H3 e3 hv => k v H3 (((e1.trans e2).trans g).trans e3) hv
theorem ok_law_tame {f c : Addr} {k : Nat} (F : Df K "_law_tame" "_law_tame" D_law_tame.st [] f c) (hm : mg "_law_tame" = some (.ref f)) (B : Bi mg) (F1 : Fc P w K mg base CX0 k "_law_did" [] (sp_law_did T)) (F2 : Fc P w K mg base CX0 k "_law_deep" [] (sp_depth T 6)) : Fc P w K mg base CX0 (k + 1) "_law_tame" [] (sp_law_tame T) :=
  F.fc hm D_law_tame.S (spP_len fun _ => rfl) (fun _ _ _ _ _ _ us hl => match us, hl with | [_, _], _ => rfl) fun cdv A outer s H vs Q E hc hr h => ⟨_, PSs.nox (D_law_tame.d B hr F1 F2), pure_law_tame vs H Q E h⟩
end
end LX

set_option maxRecDepth 100000
set_option maxHeartbeats 4000000
namespace LX
open PySem PySem.Spec PyProof.Rows L2 MDict GxR GQ
section
variable {K : PySem.W.Frag} {w : World} {σ : L2.St} {H : Hp} {ta tb te td tl ty tx tk tv : TE} {t : TT} {Dn : Ends} {tu tz : TS} {g g1 : TG} {P R : V → Hp → Prop}
/-- found.append(..), the last statement -/
theorem s_app {l : Addr} {vs : List V} {d : D} (ha : Ev ta σ H (PV (.ref l))) (hl : H l = some (.lst vs)) (h : Ev te σ H (PD d)) (hz : vs.length < 100000)
    (k : ∀ v H1, Gx H H1 → KeyH H1 d v → Dn.nx σ (upd H1 l (.lst (vs ++ [v])))) : tDrop (tBM K "list" rAppend ta (tCons te tNil)) Dn σ H := q_app (tz := fun D => D.nx) (Dn := Dn) ha hl h hz k
theorem s_asgL {i : Nat} {ds : List D} (h : EvL te σ H ds) (k : ∀ p vs H1, H p = none → Gx H H1 → H1 p = some (.lst vs) → KeyAll H1 ds vs → Dn.nx (σ.set i (some (.ref p))) H1) : tAsg te (gName i) Dn σ H := h H (Gx.refl H) _ k
end
section
variable {P : Program} {w : World} {K : PySem.W.Frag} {mg : Str → Option Value} {base : Heap} {T : List Addr}
/-! _law_every_line -/
/-- one source row's lines -/
def oneLines (n c j r a : Nat) : List Ln := if r = 1 then [⟨c, some j, [a]⟩] else (List.range n).map fun b => ⟨c, some j, [a, b]⟩
theorem fnLines_one {n c j r : Nat} (h : r = 1 ∨ r = 2) : fnLines n c (r, j) = (List.range n).flatMap (oneLines n c j r) := by
  unfold fnLines rowsL oneLines
  rcases h with rfl | rfl
  · simp [Function.comp_def]
    induction List.range n with
    | nil => rfl
    | cons a l ih => simp [ih]
  · simp [List.map_flatMap, Function.comp_def]
theorem oneLines_le {n c j r a : Nat} (h : n ≤ 3) : (oneLines n c j r a).length ≤ 3 := by
  unfold oneLines
  split
  · simp
  · simp; exact h
theorem pure_every_line : ∀ vs H Q E, sp_all_lines T vs H Q E → D_law_every_line.t K w { nx := fun _ H' => Q .non H', rt := Q } (start D_law_every_line.N vs) H := by
  rintro vs H Q E ⟨hT, ⟨n, fs⟩, m, ⟨v1, _, rfl, h1, rfl⟩, k⟩
  have h1 : KeyH H (mD n fs) v1 := h1
  have m : MOk n fs := m
  have n3 := m.n3; have f2 := m.f2
  refine q_unp (ev_var (P := PD (mD n fs)) h1 rfl) rfl rfl fun vs2 H1 e1 hv => ?_
  obtain ⟨cv, _, rfl, hc, fv, _, rfl, hf, rfl⟩ := hv
  have hc : cv = .int (n : Int) := hc
  subst hc
  refine q_asgL (ds := []) (el_lst ea_nil (by simp)) fun l0 us0 H2 hl0 e2 hl02 hu0 => ?_
  have e12 := e1.trans e2
  have hf2 := mono_d e2 hf
  -- what stays through all loops: a list of lines so far, its object new
  refine s_forR (n := n) (ev_var (P := PD (nm n)) rfl rfl) (by omega) (fun i σ' H' => (∃ l us x2 x5 x6 x7, σ' = [some v1, some (.ref l), x2, some (.int (n : Int)), some fv, x5, x6, x7, none] ∧ H l = none ∧ H' l = some (.lst us) ∧ KeyAll H' (((List.range i).flatMap (linesOf n fs)).map Ln.d) us) ∧ Gx H H' ∧ KeyH H' (.tup (fs.map nm)) fv)
    (fun H3 e3 => ⟨⟨l0, us0, _, _, _, _, rfl, e1.dm l0 hl0, e3.kp l0 _ hl02 (fun _ z => by cases z), mono_all e3 hu0⟩, e12.trans e3, mono_d e3 hf2⟩) (fun i σ' H' hi p => ?_) (fun σ' H' p => ?_)
  · obtain ⟨⟨l, us, x2, x5, x6, x7, rfl, hl, hl', hu⟩, g, hfv⟩ := p
    have hbl : ((List.range i).flatMap (linesOf n fs)).length ≤ 63 := by
      refine Nat.le_trans (flat_le (B := 21) fun c _ => linesOf_le n3 f2) ?_
      rw [List.length_range]; omega
    refine s_forET (ds := fs.map nm) (ev_var (P := PD (.tup (fs.map nm))) hfv rfl) (fun Hs j σ' H'' => (∃ l us x5 x6 x7, σ' = [some v1, some (.ref l), some (.int (i : Int)), some (.int (n : Int)), some fv, x5, x6, x7, none] ∧ H l = none ∧ H'' l = some (.lst us) ∧
        KeyAll H'' (((List.range i).flatMap (linesOf n fs) ++ (fs.zipIdx.take j).flatMap (fnLines n i)).map Ln.d) us) ∧ Gx H H'' ∧ Tk Hs H'' ∧ KeyH H'' (.tup (fs.map nm)) fv)
      (fun H6 e6 => ⟨⟨l, us, _, _, _, rfl, hl, e6.kp l _ hl' (fun _ z => by cases z), by simpa using mono_all e6 hu⟩, g.trans e6, Tk.refl _, mono_d e6 hfv⟩) (fun H6 j σ' H'' e6 p => p.2.2.1) (fun H6 j dd v σ' H'' H3' e6 hj p gg hv => ?_) (fun H6 σ' H'' e6 p => ?_)
    · obtain ⟨⟨l, us, x5, x6, x7, rfl, hl, hl', hu⟩, g7, tk7, hfv7⟩ := p
      rw [List.getElem?_map] at hj
      cases hr : fs[j]? with
      | none => rw [hr] at hj; cases hj
      | some r =>
      rw [hr] at hj
      cases hj
      have hr12 := m.r r (List.mem_of_getElem? hr)
      have hz : fs.zipIdx[j]? = some (r, j) := by rw [List.getElem?_zipIdx, hr]; simp
      refine g_tup hv rfl rfl fun ws hws => ?_
      obtain ⟨ja, _, rfl, hja, ra, _, rfl, hra, rfl⟩ := hws
      have hja : ja = .int (j : Int) := hja
      have hra : ra = .int (r : Int) := hra
      subst hja hra
      have hb1 : ((fs.zipIdx.take j).flatMap (fnLines n i)).length ≤ 18 := by
        have b1 := flat_le (f := fnLines n i) (B := 9) (l := fs.zipIdx.take j) fun p _ => fnLines_le n3
        have b2 := take_le_len fs.zipIdx j
        rw [List.length_zipIdx] at b2
        omega
      refine s_forR (n := n) (ev_var (P := PD (nm n)) rfl rfl) (by omega) (fun a σ' H4 => (∃ l us x7, σ' = [some v1, some (.ref l), some (.int (i : Int)), some (.int (n : Int)), some fv, some (.int (j : Int)), some (.int (r : Int)), x7, none] ∧ H l = none ∧ H4 l = some (.lst us) ∧
          KeyAll H4 (((List.range i).flatMap (linesOf n fs) ++ (fs.zipIdx.take j).flatMap (fnLines n i) ++ (List.range a).flatMap (oneLines n i j r)).map Ln.d) us) ∧ Gx H H4 ∧ Tk H6 H4 ∧ KeyH H4 (.tup (fs.map nm)) fv)
        (fun H8 e8 => ⟨⟨l, us, _, rfl, hl, e8.kp l _ (gg.kp l _ hl' (fun _ z => by cases z)) (fun _ z => by cases z), by simpa using mono_all e8 (mono_all gg hu)⟩, (g7.trans gg).trans e8, (tk7.trans gg.tk).trans e8.tk, mono_d e8 (mono_d gg hfv7)⟩) (fun a σ' H8 ha p => ?_) (fun σ' H8 p => ?_)
      · obtain ⟨⟨l, us, x7, rfl, hl, hl', hu⟩, g8, tk8, hfv8⟩ := p
        have hul : us.length ≤ 100 := by
          rw [ka_len hu, List.length_map, List.length_append, List.length_append]
          have b3 := flat_le (f := oneLines n i j r) (B := 3) (l := List.range a) fun p _ => oneLines_le n3
          rw [List.length_range] at b3
          omega
        have hnext : (List.range (a + 1)).flatMap (oneLines n i j r) = (List.range a).flatMap (oneLines n i j r) ++ oneLines n i j r a := by rw [List.range_succ, List.flatMap_append]; simp
        refine s_if (et_test (ev_eqI (ev_var (P := PD (nm r)) rfl rfl) ev_int)) (fun hb H9 e9 => ?_) fun hb H9 e9 => ?_
        · have hr1 : r = 1 := by have := of_decide_eq_true hb; omega
          have hl9 := e9.kp l _ hl' (fun _ z => by cases z)
          refine s_app (d := (⟨i, some j, [a]⟩ : Ln).d) (ev_var (P := PV (.ref l)) rfl rfl) hl9 (ev_tup (ds := [nm i, nm j, .tup [nm a]]) (ea_cons (ev_var (P := PD (nm i)) rfl rfl) (ea_cons (ev_var (P := PD (nm j)) rfl rfl) (ea_cons (ev_tup (ds := [nm a]) (ea_cons (ev_var (P := PD (nm a)) rfl rfl) ea_nil) (by simp)) ea_nil))) (by simp)) (by omega) fun v H10 e10 hv10 => ?_
          have hl10 := e10.kp l _ hl9 (fun _ z => by cases z)
          have tk10 : Tk H10 (upd H10 l (.lst (us ++ [v]))) := Tk.lst hl10
          refine ⟨⟨l, us ++ [v], _, rfl, hl, upd_same, ?_⟩, ((g8.trans e9).trans e10).mut hl, ((tk8.trans e9.tk).trans e10.tk).trans tk10, tk10.d (mono_d e10 (mono_d e9 hfv8))⟩
          rw [hnext, ← List.append_assoc, List.map_append]
          refine ka_app (tk10.all (mono_all e10 (mono_all e9 hu))) ?_
          unfold oneLines
          rw [if_pos hr1]
          exact ka_one (tk10.d hv10)
        · have hr1 : ¬ r = 1 := by have := of_decide_eq_false hb; omega
          refine s_asgL (el_cat (es := (oneLines n i j r a).map Ln.d) (ev_var (P := PL _) ⟨l, us, rfl, e9.kp l _ hl' (fun _ z => by cases z), mono_all e9 hu⟩ rfl) ?_ ?_) fun p vs10 H10 hp e10 hp10 hv10 => ?_
          · have e : (oneLines n i j r a).map Ln.d = ((rgD n).filter fun _ => true).map fun d => (.tup [nm i, nm j, .tup [nm a, d]] : D) := by
              unfold oneLines rgD
              rw [if_neg hr1, List.filter_eq_self.mpr fun _ _ => rfl, List.map_map, List.map_map]
              rfl
            rw [e]
            refine (el_lcR (ev_var (P := PD (nm n)) rfl rfl) (by omega) fun d x H11 e11 _ hx => ⟨_, tg_name, rfl, et_yes, fun _ => ?_⟩).ev
            exact ev_tup (ds := [nm i, nm j, .tup [nm a, d]]) (ea_cons (ev_var (P := PD (nm i)) rfl rfl) (ea_cons (ev_var (P := PD (nm j)) rfl rfl) (ea_cons (ev_tup (ds := [nm a, d]) (ea_cons (ev_var (P := PD (nm a)) rfl rfl) (ea_cons (ev_var hx rfl) ea_nil)) (by simp)) ea_nil))) (by simp)
          · rw [ka_len hu] at hul
            have := oneLines_le (c := i) (j := j) (r := r) (a := a) n3
            rw [List.length_map (as := oneLines n i j r a)]
            omega
          · refine ⟨⟨p, vs10, _, rfl, g8.dm p (e9.dm p hp), hp10, ?_⟩, (g8.trans e9).trans e10, (tk8.trans e9.tk).trans e10.tk, mono_d e10 (mono_d e9 hfv8)⟩
            rw [hnext, ← List.append_assoc, List.map_append]
            exact hv10
      · obtain ⟨⟨l, us, x7, rfl, hl, hl', hu⟩, g8, tk8, hfv8⟩ := p
        refine ⟨⟨l, us, _, _, _, rfl, hl, hl', ?_⟩, g8, tk8, hfv8⟩
        rw [take_succ_of hz, List.flatMap_append, show [(r, j)].flatMap (fnLines n i) = (List.range n).flatMap (oneLines n i j r) by rw [← fnLines_one hr12]; simp, ← List.append_assoc]
        exact hu
    · obtain ⟨⟨l, us, x5, x6, x7, rfl, hl, hl', hu⟩, g7, tk7, hfv7⟩ := p
      rw [List.length_map, show fs.zipIdx.take fs.length = fs.zipIdx from List.take_of_length_le (by rw [List.length_zipIdx]; exact Nat.le_refl _)] at hu
      refine s_asgL (el_cat (es := (cpLines n i).map Ln.d) (ev_var (P := PL _) ⟨l, us, rfl, hl', hu⟩ rfl) ?_ ?_) fun p vs10 H10 hp e10 hp10 hv10 => ?_
      · rw [cpLines_d]
        refine (el_lcR (ev_var (P := PD (nm n)) rfl rfl) (by omega) fun dd x H10 e10 hm hx => ?_).ev
        obtain ⟨s, hs, rfl⟩ := List.mem_map.mp hm
        refine ⟨_, tg_name, rfl, et_test (ev_neD (k := nm s) (l := nm i) (ev_var hx rfl) (ev_var (P := PD (nm i)) rfl rfl) (Nat.zero_le _) (Nat.zero_le _)), fun _ => ?_⟩
        exact ev_tup (ds := [nm i, .none, .tup [nm s]]) (ea_cons (ev_var (P := PD (nm i)) rfl rfl) (ea_cons ev_non (ea_cons (ev_tup (ds := [nm s]) (ea_cons (ev_var hx rfl) ea_nil) (by simp)) ea_nil))) (by simp)
      · have b1 := flat_le (f := fnLines n i) (B := 9) (l := fs.zipIdx) fun p _ => fnLines_le n3
        rw [List.length_zipIdx] at b1
        have b3 := cpLines_le (c := i) n3
        rw [List.length_map, List.length_map, List.length_append]
        omega
      · refine ⟨⟨p, vs10, _, _, _, _, rfl, g7.dm p hp, hp10, ?_⟩, g7.trans e10, mono_d e10 hfv7⟩
        rw [List.range_succ, List.flatMap_append, show ([i] : List Nat).flatMap (linesOf n fs) = fs.zipIdx.flatMap (fnLines n i) ++ cpLines n i by simp [linesOf], ← List.append_assoc, List.map_append]
        exact hv10
  · obtain ⟨⟨l, us, x2, x5, x6, x7, rfl, hl, hl', hu⟩, g, hfv⟩ := p
    exact s_ret (P := PL ((allLines n fs).map Ln.d)) (ev_var (P := PL ((allLines n fs).map Ln.d)) ⟨l, us, rfl, hl', hu⟩ rfl) fun v H7 e7 hv7 => k v H7 (g.trans e7) hv7
theorem ok_every_line {f c : Addr} {k : Nat} (F : Df K "_law_every_line" "_law_every_line" D_law_every_line.st [] f c) (hm : mg "_law_every_line" = some (.ref f)) (B : Bi mg) : Fc P w K mg base CX0 (k + 1) "_law_every_line" [] (sp_all_lines T) :=
  F.fc hm D_law_every_line.S (spP_len fun _ => rfl) (fun _ _ _ _ _ _ us hl => match us, hl with | [_], _ => rfl) fun cdv A outer s H vs Q E hc hr h => ⟨_, PSs.nox (D_law_every_line.d B hr), pure_every_line vs H Q E h⟩
/-! _law_ran -/
def sp_law_ran (T : List Addr) : Sp := spP (α := (Nat × List Nat) × List Ln) T (fun x => MOk x.1.1 x.1.2 ∧ (∀ l ∈ x.2, LnIn x.1.1 l)) (fun x => [PD (mD x.1.1 x.1.2), PD (progD x.2), PD (.tup [])]) fun x => PD (optT (runL (rgD x.1.1) x.2))
theorem pure_law_ran : ∀ vs H Q E, sp_law_ran T vs H Q E → D_law_ran.t K w (sp_law_did T) (sp_depth T 9) { nx := fun _ H' => Q .non H', rt := Q } (start D_law_ran.N vs) H := by
  rintro vs H Q E ⟨hT, ⟨⟨n, fs⟩, prog⟩, ⟨m, hp⟩, ⟨v1, _, rfl, h1, v2, _, rfl, h2, v3, _, rfl, h3, rfl⟩, k⟩
  have h1 : KeyH H (mD n fs) v1 := h1
  have h2 : KeyH H (.tup (prog.map Ln.d)) v2 := h2
  have h3 : KeyH H (.tup []) v3 := h3
  have m : MOk n fs := m
  have hp : ∀ l ∈ prog, LnIn n l := hp
  have n3 := m.n3; have n1 := m.n1
  refine q_asg (ev_tupRg (ev_ix0 (d := nm n) (ev_var (P := PD (mD n fs)) h1 rfl)) (by omega)) fun hv H1 e1 hh => ?_
  refine s_forET (ds := prog.map Ln.d) (ev_var (P := PD _) (mono_d e1 h2) rfl) (fun Hs i σ' H' => (∃ hv held x4 x5, σ' = [some v1, some v2, some v3, some hv, x4, x5, none] ∧ KeyH H' (.tup held) hv ∧ HOk n held ∧ maxD held ≤ 7 ∧ runL (rgD n) prog = runL held (prog.drop i)) ∧ Gx Hs H')
    (fun H2 e2 => ⟨⟨_, rgD n, _, _, rfl, mono_d e2 hh, hok_first n, by rw [first_depth]; omega, rfl⟩, Gx.refl _⟩) (fun H2 i σ' H' e2 p => p.2.tk) (fun H2 i d v σ' H' H'' e2 hi p gg hv => ?_) (fun H2 σ' H' e2 p => ?_)
  · obtain ⟨⟨hv, held, x4, x5, rfl, hh, ok, hd, hrun⟩, g⟩ := p
    rw [List.getElem?_map] at hi
    cases hy : prog[i]? with
    | none => rw [hy] at hi; cases hi
    | some l =>
    rw [hy] at hi
    cases hi
    have hlm := hp l (List.mem_of_getElem? hy)
    refine g_tup hv rfl rfl fun ws hws => ?_
    obtain ⟨ia, _, rfl, hia, la, _, rfl, hla, rfl⟩ := hws
    have gE := ((e1.trans e2).trans g).trans gg
    have hdrop : prog.drop i = l :: prog.drop (i + 1) := by
      have h5 := (List.getElem?_eq_some_iff.mp hy)
      rw [List.drop_eq_getElem_cons h5.1, h5.2]
    rw [hdrop] at hrun
    refine s_yes (et_is (et_test (ev_inT (neg := true) (i := (i : Int)) (is := []) (ev_var (P := PD (nm i)) hia rfl) (ev_var (P := PD (.tup [])) (mono_d gE h3) rfl))) (by simp)) fun H4 e4 => ?_
    refine q_asg (ev_call (held, l) (hT.mono (gE.trans e4)) (ea_cons (ev_var (P := PD (.tup held)) (mono_d e4 (mono_d gg hh)) rfl) (ea_cons (ev_var (P := PD l.d) (mono_d e4 hla) rfl) ea_nil)) ⟨by rw [ok.len]; exact hlm, by rw [ok.len]; omega⟩) fun av H5 e5 hav => ?_
    have hav : KeyH H5 (.tup (did held l)) av := hav
    have oka := hok_did ok hlm
    have hd1 := did_depth ok hlm
    refine s_if (et_test (ev_gt (ev_maxdeep (b := 9) (j := 6) ((hT.mono (gE.trans e4)).mono e5) (ev_var (P := PD (.tup (did held l))) hav rfl) oka n1 n3 (by omega) fun x H6 e6 => ⟨rfl, ev_var (P := PV x) rfl rfl⟩) ev_int)) (fun hb H6 e6 => ?_) fun hb H6 e6 => ?_
    · have hb' : maxD (did held l) + 1 > 8 := by have := of_decide_eq_true hb; omega
      have hr2 : runL (rgD n) prog = none := by rw [hrun]; exact if_pos hb'
      refine s_ret (P := PD .none) ev_non fun v H7 e7 hv7 => k v H7 ((((gE.trans e4).trans e5).trans e6).trans e7) ?_
      show KeyH H7 (optT (runL (rgD n) prog)) v
      rw [hr2]
      exact hv7
    · have hb' : ¬ maxD (did held l) + 1 > 8 := by have := of_decide_eq_false hb; omega
      refine ⟨⟨av, did held l, _, _, rfl, mono_d e6 hav, oka, by omega, ?_⟩, (((g.trans gg).trans e4).trans e5).trans e6⟩
      rw [hrun]
      exact if_neg hb'
  · obtain ⟨⟨hv, held, x4, x5, rfl, hh, ok, hd, hrun⟩, g⟩ := p
    rw [List.length_map, List.drop_length] at hrun
    refine s_ret (P := PD (.tup held)) (ev_var (P := PD (.tup held)) hh rfl) fun v H3 e3 hv => k v H3 (((e1.trans e2).trans g).trans e3) ?_
    show KeyH H3 (optT (runL (rgD n) prog)) v
    rw [hrun]
    exact hv
theorem ok_law_ran {f c : Addr} {k : Nat} (F : Df K "_law_ran" "_law_ran" D_law_ran.st [] f c) (hm : mg "_law_ran" = some (.ref f)) (B : Bi mg) (F1 : Fc P w K mg base CX0 k "_law_did" [] (sp_law_did T)) (F2 : Fc P w K mg base CX0 k "_law_deep" [] (sp_depth T 9)) : Fc P w K mg base CX0 (k + 1) "_law_ran" [] (sp_law_ran T) :=
  F.fc hm D_law_ran.S (spP_len fun _ => rfl) (fun _ _ _ _ _ _ us hl => match us, hl with | [_, _, _], _ => rfl) fun cdv A outer s H vs Q E hc hr h => ⟨_, PSs.nox (D_law_ran.d B hr F1 F2), pure_law_ran vs H Q E h⟩
end
end LX

set_option maxRecDepth 100000
set_option maxHeartbeats 4000000
namespace LX
open PySem PySem.Spec PyProof.Rows L2 MDict GxR GQ
def kids : D → List D
  | .tup (_ :: r) => r
  | _ => []
theorem self_part (d : D) : d ∈ partsOf d := by
  cases d <;> simp [partsOf]
theorem part_len (d : D) : 1 ≤ (partsOf d).length := List.length_pos_of_mem (self_part d)
mutual
theorem parts_kids : ∀ (d p c : D), p ∈ partsOf d → c ∈ kids p → c ∈ partsOf d
  | .none, p, c, hp, hc => by
    have : p = .none := by simpa [partsOf] using hp
    subst this; simp [kids] at hc
  | .num i, p, c, hp, hc => by
    have : p = .num i := by simpa [partsOf] using hp
    subst this; simp [kids] at hc
  | .text i, p, c, hp, hc => by
    have : p = .text i := by simpa [partsOf] using hp
    subst this; simp [kids] at hc
  | .tup ks, p, c, hp, hc => by
    simp only [partsOf, List.mem_cons] at hp ⊢
    rcases hp with rfl | hp
    · right
      cases ks with
      | nil => simp [kids] at hc
      | cons k r =>
        have hc : c ∈ r := hc
        show c ∈ partsSs r
        rw [partsSs_eq, List.mem_flatMap]
        exact ⟨c, hc, self_part c⟩
    · exact .inr (parts_kidsTl ks p c hp hc)
theorem parts_kidsTl : ∀ (ks : List D) (p c : D), p ∈ partsTl ks → c ∈ kids p → c ∈ partsTl ks
  | [], p, c, hp, hc => by simp [partsTl] at hp
  | k :: r, p, c, hp, hc => parts_kidsSs r p c hp hc
theorem parts_kidsSs : ∀ (ks : List D) (p c : D), p ∈ partsSs ks → c ∈ kids p → c ∈ partsSs ks
  | [], p, c, hp, hc => by simp [partsSs] at hp
  | k :: r, p, c, hp, hc => by
    simp only [partsSs, List.mem_append] at hp ⊢
    rcases hp with hp | hp
    · exact .inl (parts_kids k p c hp hc)
    · exact .inr (parts_kidsSs r p c hp hc)
end
section
variable {S : D → Prop} (cl : ∀ x, S x → ∀ c ∈ kids x, S c)
include cl
mutual
theorem closed_parts : ∀ (d : D), S d → ∀ p ∈ partsOf d, S p
  | .none, h, p, hp => by
    have : p = .none := by simpa [partsOf] using hp
    subst this; exact h
  | .num i, h, p, hp => by
    have : p = .num i := by simpa [partsOf] using hp
    subst this; exact h
  | .text i, h, p, hp => by
    have : p = .text i := by simpa [partsOf] using hp
    subst this; exact h
  | .tup ks, h, p, hp => by
    simp only [partsOf, List.mem_cons] at hp
    rcases hp with rfl | hp
    · exact h
    · exact closed_partsTl ks (cl _ h) p hp
theorem closed_partsTl : ∀ (ks : List D), (∀ c ∈ kids (.tup ks), S c) → ∀ p ∈ partsTl ks, S p
  | [], h, p, hp => by simp [partsTl] at hp
  | k :: r, h, p, hp => closed_partsSs r h p hp
theorem closed_partsSs : ∀ (ks : List D), (∀ c ∈ ks, S c) → ∀ p ∈ partsSs ks, S p
  | [], h, p, hp => by simp [partsSs] at hp
  | k :: r, h, p, hp => by
    simp only [partsSs, List.mem_append] at hp
    rcases hp with hp | hp
    · exact closed_parts k (h k List.mem_cons_self) p hp
    · exact closed_partsSs r (fun c hc => h c (List.mem_cons_of_mem _ hc)) p hp
end
end
def sizeW (st : List D) : Nat := (st.map fun d => (partsOf d).length).sum
theorem sizeW_app (a b : List D) : sizeW (a ++ b) = sizeW a + sizeW b := by unfold sizeW; rw [List.map_append, List.sum_append]
theorem len_sizeW : ∀ st : List D, st.length ≤ sizeW st
  | [] => Nat.le_refl _
  | d :: st => by
    have h1 := part_len d
    have h2 := len_sizeW st
    unfold sizeW at h2 ⊢
    rw [List.map_cons, List.sum_cons, List.length_cons]
    omega
theorem sizeW_kids (d : D) : sizeW (kids d) + 1 ≤ (partsOf d).length := by
  have key : ∀ r : List D, sizeW r = (partsSs r).length := fun r => by
    induction r with
    | nil => rfl
    | cons k r ih =>
      unfold sizeW at ih ⊢
      rw [List.map_cons, List.sum_cons, ih]
      simp [partsSs]
  cases d with
  | tup ks =>
    cases ks with
    | nil => simp [kids, sizeW, partsOf]
    | cons k r =>
      show sizeW r + 1 ≤ _
      rw [key]
      simp [partsOf, partsTl]
  | none => simp [kids, sizeW, partsOf]
  | num i => simp [kids, sizeW, partsOf]
  | text i => simp [kids, sizeW, partsOf]
theorem ka_snoc {H : Hp} : ∀ {st : List D} {t : D} {ss : List V}, KeyAll H (st ++ [t]) ss → ∃ ss' y, ss = ss' ++ [y] ∧ KeyAll H st ss' ∧ KeyH H t y
  | [], t, ss, h => by
    obtain ⟨y, r, rfl, h1, h2⟩ := h
    have h2 : r = [] := h2
    subst h2
    exact ⟨[], y, rfl, rfl, h1⟩
  | d :: st, t, ss, h => by
    obtain ⟨v, r, rfl, h1, h2⟩ := h
    obtain ⟨ss', y, rfl, h3, h4⟩ := ka_snoc h2
    exact ⟨v :: ss', y, rfl, ⟨v, ss', rfl, h1, h3⟩, h4⟩
section
variable {K : PySem.W.Frag} {w : World} {σ : L2.St} {H : Hp} {ta tb te td tl ty tx tk tv : TE} {t : TT} {Dn : Ends} {tu tz : TS}
theorem eqvs_dec (a b : List D) : PyData.eqvAll (NestedKey.datas a) (NestedKey.datas b) = decide (a = b) := by
  have h := eqv_dec (.tup a) (.tup b)
  simp only [NestedKey.data, PyData.eqv] at h
  rw [h]
  exact decide_eq_decide.mpr ⟨fun e => NestedKey.tup.inj e, fun e => by rw [e]⟩
theorem shapedL {H : Hp} {ks : List D} {vs : List V} (h : KeyAll H ks vs) (hd : ∀ k ∈ ks, k.depth ≤ 59) : SeqAt.shaped (.list (NestedKey.datas ks)) = true := by
  unfold SeqAt.shaped
  simp only [PyData.canLay0, PyData.depth, lays_of ks (notxs_of ks vs h), deps_of, Bool.true_and]
  have := depths_le hd
  exact decide_eq_true (by omega)
theorem ev_neL {ks ls : List D} (ha : Ev ta σ H (PL ks)) (hb : Ev tb σ H (PL ls)) (h1 : ∀ k ∈ ks, k.depth ≤ 59) (h2 : ∀ k ∈ ls, k.depth ≤ 59) : Ev (tOp (rNeD K) ta tb) σ H (PB (!decide (ks = ls))) :=
  ev_op2 ha hb fun x y H1 _ hx hy Q q => by
    obtain ⟨a, vs, rfl, e1, e2⟩ := hx
    obtain ⟨b, us, rfl, e3, e4⟩ := hy
    exact ⟨_, _, .lst (SqL.of e1) (dpa_of ks vs e2), .lst (SqL.of e3) (dpa_of ls us e4), shapedL e2 h1, shapedL e4 h2, q _ H1 (Gx.refl H1) (by simp only [PyData.eqv]; rw [eqvs_dec])⟩
theorem ev_eqL {ks ls : List D} (ha : Ev ta σ H (PL ks)) (hb : Ev tb σ H (PL ls)) (h1 : ∀ k ∈ ks, k.depth ≤ 59) (h2 : ∀ k ∈ ls, k.depth ≤ 59) : Ev (tOp (rEqD K) ta tb) σ H (PB (decide (ks = ls))) :=
  ev_op2 ha hb fun x y H1 _ hx hy Q q => by
    obtain ⟨a, vs, rfl, e1, e2⟩ := hx
    obtain ⟨b, us, rfl, e3, e4⟩ := hy
    exact ⟨_, _, .lst (SqL.of e1) (dpa_of ks vs e2), .lst (SqL.of e3) (dpa_of ls us e4), shapedL e2 h1, shapedL e4 h2, q _ H1 (Gx.refl H1) (by simp only [PyData.eqv]; rw [eqvs_dec])⟩
/-- a, b = two new lists -/
theorem q_parLL {i j : Nat} {ds es : List D} (h1 : EvL ta σ H ds) (h2 : ∀ H1, Gx H H1 → EvL tb σ H1 es)
    (k : ∀ p vs q us H1 H2, H p = none → Gx H H1 → H1 p = some (.lst vs) → KeyAll H1 ds vs → H1 q = none → Gx H1 H2 → H2 q = some (.lst us) → KeyAll H2 es us → tz Dn ((σ.set i (some (.ref p))).set j (some (.ref q))) H2) : tSeq (tPar i j (tCons ta (tCons tb tNil))) tz Dn σ H :=
  h1 H (Gx.refl H) _ fun p vs H1 hp e1 hp1 hv => h2 H1 e1 H1 (Gx.refl H1) _ fun q us H2 hq e2 hq2 hu => ⟨_, _, rfl, k p vs q us H1 H2 hp e1 hp1 hv hq e2 hq2 hu⟩
theorem ev_nilL : Ev (tLst tNil) σ H (PL []) := (el_lst ea_nil (by simp)).ev
end
section
variable {P : Program} {w : World} {K : PySem.W.Frag} {mg : Str → Option Value} {base : Heap} {T : List Addr}
/-! _law_parts -/
structure WfW (ws : List Wish) : Prop where
  wf : ∀ x ∈ ws, wfS x.2 = true ∧ x.2.depth ≤ 6
  len : ws.length ≤ 3
def RParts (ws : List Wish) (v : V) (H : Hp) : Prop := ∃ ps, PL ps v H ∧ ps.Nodup ∧ ∀ x, x ∈ ps ↔ x ∈ partsW ws
def sp_law_parts (T : List Addr) : Sp := spP (α := List Wish) T WfW (fun ws => [PD (wsD ws)]) RParts
def sndD : D → D
  | .tup [_, t] => t
  | _ => .none
/-- the math of the stack -/
structure StOk (ws : List Wish) (found stack : List D) : Prop where
  nd : found.Nodup
  sub : ∀ x, x ∈ found ∨ x ∈ stack → x ∈ partsW ws
  has : ∀ y ∈ ws, y.2 ∈ found ∨ y.2 ∈ stack
  cl : ∀ f ∈ found, ∀ c ∈ kids f, c ∈ found ∨ c ∈ stack
theorem partsW_kids {ws : List Wish} {p c : D} (h : p ∈ partsW ws) (hc : c ∈ kids p) : c ∈ partsW ws := by
  obtain ⟨y, hy, hp⟩ := partsW_mem.mp h
  exact partsW_mem.mpr ⟨y, hy, parts_kids _ p c hp hc⟩
theorem pure_law_parts : ∀ vs H Q E, sp_law_parts T vs H Q E → D_law_parts.t K w { nx := fun _ H' => Q .non H', rt := Q } (start D_law_parts.N vs) H := by
  rintro vs H Q E ⟨hT, ws, ok, ⟨v1, _, rfl, h1, rfl⟩, k⟩
  have h1 : KeyH H (.tup (ws.map wishD)) v1 := h1
  have ok : WfW ws := ok
  have depP : ∀ x ∈ partsW ws, wfS x = true ∧ x.depth ≤ 6 := fun x hx => by
    obtain ⟨y, hy, hp⟩ := partsW_mem.mp hx
    have h2 := ok.wf y hy
    have h3 := parts_wf y.2 x h2.1 hp
    exact ⟨h3.1, by omega⟩
  have lenP : (ws.flatMap fun x => partsOf x.2).length ≤ 1800 := by
    refine Nat.le_trans (flat_le (B := 600) fun x hx => pow9 (ok.wf x hx).1 (by have := (ok.wf x hx).2; omega)) ?_
    have := ok.len
    omega
  have s0 : sizeW (ws.map (·.2)) ≤ 1800 := by
    refine Nat.le_trans (Nat.le_of_eq ?_) lenP
    unfold sizeW
    rw [List.map_map, List.length_flatMap]
    rfl
  refine q_parLL (ds := []) (es := ws.map (·.2)) (el_lst ea_nil (by simp)) (fun H1 e1 => ?_) fun lf us0 ll ss0 H1 H2 hlf e1 hlf1 hu0 hll e2 hll2 hs0 => ?_
  · have e : ws.map (·.2) = ((ws.map wishD).filter fun _ => true).map sndD := by
      rw [List.filter_eq_self.mpr fun _ _ => rfl, List.map_map]
      rfl
    rw [e]
    refine el_lcT (ev_var (P := PD _) (mono_d e1 h1) rfl) (by rw [List.length_map]; have := ok.len; omega) fun d x H3 e3 hm hx => ?_
    obtain ⟨y, hy, rfl⟩ := List.mem_map.mp hm
    obtain ⟨vs, hvs, tg⟩ := tg_tup (K := K) (σ := wipe (start D_law_parts.N [v1]) [4, 3]) (is := [4, 3]) (n := 2) hx rfl rfl
    obtain ⟨ca, _, rfl, hc, ta, _, rfl, ht, rfl⟩ := hvs
    exact ⟨_, tg, rfl, et_yes, fun _ => ev_var ht rfl⟩
  have ne0 : lf ≠ ll := fun z => by rw [← z, hlf1] at hll; cases hll
  refine q_while (fun m σ' H' => (∃ lf ll us ss found stack x3, σ' = [some v1, some (.ref lf), some (.ref ll), x3, none] ∧ H lf = none ∧ H ll = none ∧ lf ≠ ll ∧ H' lf = some (.lst us) ∧ H' ll = some (.lst ss) ∧ KeyAll H' found us ∧ KeyAll H' stack ss ∧ StOk ws found stack ∧ m = sizeW stack ∧ m ≤ 1800) ∧ Gx H H')
    (sizeW (ws.map (·.2))) ⟨⟨lf, ll, us0, ss0, [], ws.map (·.2), _, rfl, hlf, e1.dm ll hll, ne0, e2.kp lf _ hlf1 (fun _ z => by cases z), hll2, mono_all e2 hu0, hs0, ⟨List.nodup_nil, fun x hx => ?_, fun y hy => .inr (List.mem_map.mpr ⟨y, hy, rfl⟩), fun f hf => by cases hf⟩, rfl, s0⟩, e1.trans e2⟩ fun m σ' H' hw => ?_
  · rcases hx with hx | hx
    · cases hx
    · obtain ⟨y, hy, rfl⟩ := List.mem_map.mp hx
      exact partsW_mem.mpr ⟨y, hy, self_part _⟩
  obtain ⟨⟨lf, ll, us, ss, found, stack, x3, rfl, hlf, hll, ne, hlf', hll', hu, hs, st, rfl, hm⟩, g⟩ := hw
  have dep : ∀ x ∈ stack, x.depth ≤ 59 := fun x hx => by have := (depP x (st.sub x (.inr hx))).2; omega
  have depf : ∀ x ∈ found, x.depth ≤ 59 := fun x hx => by have := (depP x (st.sub x (.inl hx))).2; omega
  refine ⟨_, et_test (ev_neL (ks := stack) (ls := []) (ev_var (P := PL stack) ⟨ll, ss, rfl, hll', hs⟩ rfl) ev_nilL dep (by simp)), fun hb H3 e3 => ?_, fun hb H3 e3 => ?_⟩
  · have hne : stack ≠ [] := fun z => by simp [z] at hb
    obtain ⟨stk, t, rfl⟩ : ∃ stk t, stack = stk ++ [t] := ⟨stack.dropLast, stack.getLast hne, (List.dropLast_concat_getLast hne).symm⟩
    obtain ⟨ss', y, rfl, hs', hy⟩ := ka_snoc hs
    have hll3 := e3.kp ll _ hll' (fun _ z => by cases z)
    have hlf3 := e3.kp lf _ hlf' (fun _ z => by cases z)
    refine ⟨fun σ2 H2 => (∃ lf ll us ss found stack x3, σ2 = [some v1, some (.ref lf), some (.ref ll), x3, none] ∧ H lf = none ∧ H ll = none ∧ lf ≠ ll ∧ H2 lf = some (.lst us) ∧ H2 ll = some (.lst ss) ∧ KeyAll H2 found us ∧ KeyAll H2 stack ss ∧ StOk ws found stack ∧ sizeW stack < sizeW (stk ++ [t])) ∧ Gx H H2, fun σ2 H2 hN => ?_, ?_⟩
    · obtain ⟨⟨lf, ll, us, ss, found, stack, x3, e, a1, a2, a3, a4, a5, a6, a7, a8, a9⟩, g2⟩ := hN
      exact ⟨sizeW stack, a9, ⟨lf, ll, us, ss, found, stack, x3, e, a1, a2, a3, a4, a5, a6, a7, a8, rfl, by omega⟩, g2⟩
    refine ⟨_, rfl, .inl ⟨rfl, _, SqL.of hll3⟩, ll, ss' ++ [y], y, rfl, rfl, hll3, by simp, ?_⟩
    have tk4 : Tk H3 (upd H3 ll (.lst (ss' ++ [y]).dropLast)) := Tk.lst hll3
    have g4 : Gm ll H3 (upd H3 ll (.lst (ss' ++ [y]).dropLast)) := Gm.updL hll3
    have gE : Gx H (upd H3 ll (.lst (ss' ++ [y]).dropLast)) := (g.trans e3).mut hll
    have hll4 : upd H3 ll (.lst (ss' ++ [y]).dropLast) ll = some (.lst ss') := by rw [upd_same, List.dropLast_concat]
    have hlf4 := g4.lst ne hlf3
    have hs4 := tk4.all (mono_all e3 hs')
    have hu4 := tk4.all (mono_all e3 hu)
    have hy4 := tk4.d (mono_d e3 hy)
    generalize upd H3 ll (.lst (ss' ++ [y]).dropLast) = H4 at tk4 g4 gE hll4 hlf4 hs4 hu4 hy4
    have ht := depP t (st.sub t (.inr (List.mem_append_right _ (by simp))))
    have hsz := sizeW_app stk [t]
    have ht1 : sizeW [t] = (partsOf t).length := by simp [sizeW]
    have hk := sizeW_kids t
    refine s_if (et_test (ev_ninD (ks := found) (ev_var (P := PD t) hy4 rfl) (ev_var (P := PL found) ⟨lf, us, rfl, hlf4, hu4⟩ rfl) (by omega) depf)) (fun hb2 H5 e5 => ?_) fun hb2 H5 e5 => ?_
    · have hnf : t ∉ found := fun z => by simp [z] at hb2
      have hlf5 := e5.kp lf _ hlf4 (fun _ z => by cases z)
      have hll5 := e5.kp ll _ hll4 (fun _ z => by cases z)
      have hul : us.length ≤ 1800 := by
        rw [ka_len hu]
        refine Nat.le_trans (Lost.nodup_le (U := ws.flatMap fun x => partsOf x.2) st.nd fun x hx => ?_) lenP
        obtain ⟨y, hy, hp⟩ := partsW_mem.mp (st.sub x (.inl hx))
        exact List.mem_flatMap.mpr ⟨y, hy, hp⟩
      refine q_app (ev_var (P := PV (.ref lf)) rfl rfl) hlf5 (ev_var (P := PD t) (mono_d e5 hy4) rfl) (by omega) fun v6 H6 e6 hv6 => ?_
      have hlf6 := e6.kp lf _ hlf5 (fun _ z => by cases z)
      have hll6 := e6.kp ll _ hll5 (fun _ z => by cases z)
      have g7 : Gm lf H6 (upd H6 lf (.lst (us ++ [v6]))) := Gm.updL hlf6
      have hll7 := g7.lst (Ne.symm ne) hll6
      have hu7 := ka_app (g7.tk.all (mono_all e6 (mono_all e5 hu4))) (ka_one (g7.tk.d hv6))
      have hs7 := g7.tk.all (mono_all e6 (mono_all e5 hs4))
      have gE7 : Gx H (upd H6 lf (.lst (us ++ [v6]))) := ((gE.trans e5).trans e6).mut hlf
      have hlf7 : upd H6 lf (.lst (us ++ [v6])) lf = some (.lst (us ++ [v6])) := upd_same
      have hy7 := g7.tk.d (mono_d e6 (mono_d e5 hy4))
      generalize upd H6 lf (.lst (us ++ [v6])) = H7 at g7 hll7 hu7 hs7 gE7 hlf7 hy7
      have st7 : StOk ws (found ++ [t]) (stk ++ kids t) := by
        refine ⟨?_, fun x hx => ?_, fun y hy => ?_, fun f hf c hc => ?_⟩
        · exact Lost.nodup_snoc st.nd hnf
        · have htw := st.sub t (.inr (List.mem_append_right _ (by simp)))
          rcases hx with hx | hx
          · rcases List.mem_append.mp hx with hx | hx
            · exact st.sub x (.inl hx)
            · rw [List.mem_singleton.mp hx]; exact htw
          · rcases List.mem_append.mp hx with hx | hx
            · exact st.sub x (.inr (List.mem_append_left _ hx))
            · exact partsW_kids htw hx
        · rcases st.has y hy with h | h
          · exact .inl (List.mem_append_left _ h)
          · rcases List.mem_append.mp h with h | h
            · exact .inr (List.mem_append_left _ h)
            · exact .inl (List.mem_append_right _ h)
        · rcases List.mem_append.mp hf with hf | hf
          · rcases st.cl f hf c hc with h | h
            · exact .inl (List.mem_append_left _ h)
            · rcases List.mem_append.mp h with h | h
              · exact .inr (List.mem_append_left _ h)
              · exact .inl (List.mem_append_right _ h)
          · rw [List.mem_singleton.mp hf] at hc
            exact .inr (List.mem_append_right _ hc)
      have hsl := len_sizeW stk
      have hkl := len_sizeW (kids t)
      refine s_asgL (el_cat (ds := stk) (es := kids t) (ev_var (P := PL stk) ⟨ll, ss', rfl, hll7, hs7⟩ rfl) ?_ (by omega)) fun p vs8 H8 hp e8 hp8 hv8 => ?_
      · cases t with
        | none => simp [wfS] at ht
        | text _ => simp [wfS] at ht
        | num i => exact ev_if (et_B (i_it (ev_var (P := PD _) hy7 rfl))) (fun z => Bool.noConfusion z) fun _ => ev_nilL
        | tup ks =>
          have ht1 := ht.1
          simp only [wfS, Bool.and_eq_true] at ht1
          obtain ⟨f, a, r, rfl, hlr⟩ := hdN_shape ht1.1
          exact ev_if (et_B (i_tt (ev_var (P := PD _) hy7 rfl))) (fun _ => (el_listT (ev_tail (ev_var (P := PD _) hy7 rfl))).ev) fun z => Bool.noConfusion z
      · refine ⟨⟨lf, p, us ++ [v6], vs8, found ++ [t], stk ++ kids t, _, rfl, hlf, gE7.dm p hp, (fun z => by rw [← z, hlf7] at hp; cases hp), e8.kp lf _ hlf7 (fun _ z => by cases z), hp8, mono_all e8 hu7, hv8, st7, ?_⟩, gE7.trans e8⟩
        rw [sizeW_app]; omega
    · have hf : t ∈ found := Decidable.byContradiction fun z => by simp [z] at hb2
      refine ⟨⟨lf, ll, us, ss', found, stk, _, rfl, hlf, hll, ne, e5.kp lf _ hlf4 (fun _ z => by cases z), e5.kp ll _ hll4 (fun _ z => by cases z), mono_all e5 hu4, mono_all e5 hs4, ⟨st.nd, fun x hx => st.sub x (hx.elim .inl fun z => .inr (List.mem_append_left _ z)), fun y hy => ?_, fun f hf' c hc => ?_⟩, by omega⟩, gE.trans e5⟩
      · rcases st.has y hy with h | h
        · exact .inl h
        · rcases List.mem_append.mp h with h | h
          · exact .inr h
          · rw [List.mem_singleton.mp h]; exact .inl hf
      · rcases st.cl f hf' c hc with h | h
        · exact .inl h
        · rcases List.mem_append.mp h with h | h
          · exact .inr h
          · rw [List.mem_singleton.mp h]; exact .inl hf
  · have he : stack = [] := by simpa using hb
    subst he
    refine s_ret (P := PL found) (ev_var (P := PL found) ⟨lf, us, rfl, e3.kp lf _ hlf' (fun _ z => by cases z), mono_all e3 hu⟩ rfl) fun v H4 e4 hv => k v H4 ((g.trans e3).trans e4) ⟨found, hv, st.nd, fun x => ⟨fun hx => st.sub x (.inl hx), fun hx => ?_⟩⟩
    obtain ⟨y, hy, hp⟩ := partsW_mem.mp hx
    exact closed_parts (S := fun x => x ∈ found) (fun x hx c hc => (st.cl x hx c hc).elim id fun z => by cases z) y.2 ((st.has y hy).elim id fun z => by cases z) x hp
theorem ok_law_parts {f c : Addr} {k : Nat} (F : Df K "_law_parts" "_law_parts" D_law_parts.st [] f c) (hm : mg "_law_parts" = some (.ref f)) (B : Bi mg) : Fc P w K mg base CX0 (k + 1) "_law_parts" [] (sp_law_parts T) :=
  F.fc hm D_law_parts.S (spP_len fun _ => rfl) (fun _ _ _ _ _ _ us hl => match us, hl with | [_], _ => rfl) fun cdv A outer s H vs Q E hc hr h => ⟨_, PSs.nox (D_law_parts.d B hr), pure_law_parts vs H Q E h⟩
end
end LX

set_option maxRecDepth 100000
set_option maxHeartbeats 4000000
namespace LX
open PySem PySem.Spec PyProof.Rows L2 MDict GxR GQ
namespace D_law_fewest
abbrev st : Stmt := top 53
abbrev N : List Str := ["_law_machine_here", "_law_wishes_here", "_law_gentle", "_law_parts_here", "_law_first", "_law_lines", "_law_seen", "_law_last", "_law_many", "_law_longer", "_law_held", "_law_line", "_law_cell", "_law_after", "_law_term", "_law_one"]
abbrev ps : List Str := ["_law_machine_here", "_law_wishes_here", "_law_gentle"]
theorem S : FnScope N ps (defScope st) := ⟨rfl, rfl, rfl, by decide +kernel, rfl, by decide +kernel, by decide +kernel⟩
def t (K : PySem.W.Frag) (w : World) (sp_law_parts : Sp) (sp_law_every_line : Sp) (sp_law_did : Sp) : TS :=
  (tSeq (tAsg (tCall sp_law_parts [] E0 (tCons (tVar 1) tNil)) (gName 3))
  (tSeq (tAsg (tThen (tLc (iRng1 (tCons (tOp (rIxT K) (tVar 0) (tC (.int 0))) tNil)) (gName 12) tYes (tIf (tTest (tOp (rInD K) (tVar 12) (tVar 3))) (tVar 12) (tC .non)) [12]) (kTup K)) (gName 4))
  (tSeq (tPar3 6 7 8 (tCons (tMOne w (tVar 4) (tC (.bl true))) (tCons (tLst (tCons (tVar 4) tNil)) (tCons (tC (.int 0)) tNil))))
  (tSeq (tAsg (tLc (iList K (tCall sp_law_every_line [] E0 (tCons (tVar 0) tNil))) (gName 11) (tOr (tTest (tOp (rIn K true) (tOp (rIxT K) (tVar 11) (tC (.int 0))) (tOp (rIxT K) (tVar 11) (tC (.int 2))))) (tNot (tB (tVar 2)))) (tVar 11) [11]) (gName 5))
  (tSeq (tWhile (tTest (tOp (rNeD K) (tVar 7) (tLst tNil))) (tSeq (tAsg (tLst tNil) (gName 9))
  (tSeq (tFor (iList K (tVar 7)) (gName 10) (tSeq (tIfS (tTest (tOp (rEqD K) (tLc (iTup K (tVar 1)) (gTup K 2 (gNames [12, 14])) (tOr (tB (tIsN (tOp (rIxT K) (tVar 10) (tVar 12)))) (tTest (tOp (rNeD K) (tOp (rIxT K) (tVar 10) (tVar 12)) (tVar 14)))) (tC (.int 1)) [12, 14]) (tLst tNil))) (tRet (tVar 8)) tNext)
  (tFor (iList K (tVar 5)) (gName 11) (tIfS (tTest (tOp (rEqD K) (tLc (iTup K (tOp (rIxT K) (tVar 11) (tC (.int 2)))) (gName 15) (tB (tIsN (tOp (rIxT K) (tVar 10) (tVar 15)))) (tVar 15) [15]) (tLst tNil))) (tSeq (tAsg (tCall sp_law_did [] E0 (tCons (tVar 10) (tCons (tVar 11) tNil))) (gName 13))
  (tIfS (tAnd (tTest (tOp (rInD K) (tOp (rIxT K) (tVar 13) (tOp (rIxT K) (tVar 11) (tC (.int 0)))) (tVar 3))) (tB (tMNotIn w (tVar 13) (tVar 6)))) (tSeq (sMPut w (tVar 6) (tVar 13) (tC (.bl true)))
  (tDrop (tBM K "list" rAppend (tVar 9) (tCons (tVar 13) tNil)))) tNext)) tNext))))
  (tPar 7 8 (tCons (tVar 9) (tCons (tOp rAddI (tVar 8) (tC (.int 1))) tNil))))))
  (tRet (tC .non)))))))
theorem d {P : Program} {w : World} {K : PySem.W.Frag} {mg : Str → Option Value} {base : Heap} {f : Addr} {cdv : Value} {A : Around} {outer : List Env} {s : Shared} {H : Hp} {E : XK} {k : Nat} {sp_law_parts : Sp} {sp_law_every_line : Sp} {sp_law_did : Sp} (B : Bi mg) (hr : Room (k) (A.deeper (envOfC "_law_fewest" (defScope st) s.heap.objs.size f cdv))) (F_law_parts : Fc P w K mg base CX0 k "_law_parts" [] sp_law_parts) (F_law_every_line : Fc P w K mg base CX0 k "_law_every_line" [] sp_law_every_line) (F_law_did : Fc P w K mg base CX0 k "_law_did" [] sp_law_did) :
    PSs (cxOf CX0 P w K mg base N "_law_fewest" (defScope st) f cdv A outer s H E).nox (defBody st) (t K w sp_law_parts sp_law_every_line sp_law_did) :=
  (pss_cons (x_set (i := 3) S.nd (x_call F_law_parts (hr.mono (by omega)) (by exact (pa_cons (pv 1) pa_nil))))
  (pss_cons (x_set (i := 4) S.nd (x_tup B (pe_lc (own := [("_law_cell", 12)]) (g := (gName 12)) (tt := tYes) rfl S.nd (x_rng B (x_ixT (pv 0) pe_int)) (blkOk_by (N := N) (sc := defScope st) (by decide +kernel)) (fun _ _ _ _ _ => (g_nm 12 S.nd)) (fun _ _ _ _ _ => pts_nil) (fun _ _ _ _ _ => (pe_ifExp (y_inL (u65 hr) (pv 12) (pv 3)) (pv 12) pe_non)))))
  (pss_cons (ps_par3 (i := 6) (j := 7) (l := 8) rfl S.nd rfl rfl rfl (by decide) (by decide) (by decide) rfl rfl rfl (by exact (pa_cons (pe_mone (u9 hr) (pv 4) x_true) (pa_cons (pe_lst (by exact (pa_cons (pv 4) pa_nil))) (pa_cons pe_int pa_nil)))) (by exact rfl))
  (pss_cons (ps_setLc (i := 5) (own := [("_law_line", 11)]) (g := (gName 11)) (tt := (tOr (tTest (tOp (rIn K true) (tOp (rIxT K) (tVar 11) (tC (.int 0))) (tOp (rIxT K) (tVar 11) (tC (.int 2))))) (tNot (tB (tVar 2))))) rfl S.nd rfl rfl (sw_true rfl rfl rfl (by decide +kernel)) (pi_list (x_call F_law_every_line (hr.mono (by omega)) (by exact (pa_cons (pv 0) pa_nil)))) (blkOk_by (N := N) (sc := defScope st) (by decide +kernel)) (fun _ _ _ _ _ => (g_nm 11 S.nd)) (fun _ _ _ _ _ => (pts_one ((pw_or (y_ninT (x_ixT (pv 11) pe_int) (x_ixT (pv 11) pe_int)) (pw_or1 (pt_not (pt_val (pv 2)))))).pt)) (fun _ _ _ _ _ => (pv 11)))
  (pss_cons (ps_while PassesOwn.never (y_neD (u64 hr) (pv 7) (pe_lst (by exact pa_nil))) (pss_cons (x_set (i := 9) S.nd (pe_lst (by exact pa_nil)))
  (pss_cons (ps_for PassesOwn.never rfl (pi_list (pv 7)) (g_nm 10 S.nd) (pss_cons (ps_if (y_eqD (u64 hr) (pe_lc (own := [("_law_cell", 12), ("_law_term", 14)]) (g := (gTup K 2 (gNames [12, 14]))) (tt := (tOr (tB (tIsN (tOp (rIxT K) (tVar 10) (tVar 12)))) (tTest (tOp (rNeD K) (tOp (rIxT K) (tVar 10) (tVar 12)) (tVar 14))))) rfl S.nd (pi_tup (pv 1)) (blkOk_by (N := N) (sc := defScope st) (by decide +kernel)) (fun _ _ _ _ _ => (pg_tup rfl (by exact (pgs_cons (g_nm 12 S.nd) (pgs_cons (g_nm 14 S.nd) pgs_nil))))) (fun _ _ _ _ _ => (pts_one ((pw_or (y_isN (x_ixT (pv 10) (pv 12))) (pw_or1 (y_neD (u64 hr) (x_ixT (pv 10) (pv 12)) (pv 14))))).pt)) (fun _ _ _ _ _ => pe_int)) (pe_lst (by exact pa_nil))) (pss_one (ps_ret (pv 8))) pss_nil)
  (pss_one (ps_for PassesOwn.never rfl (pi_list (pv 5)) (g_nm 11 S.nd) (pss_one (ps_if (y_eqD (u64 hr) (pe_lc (own := [("_law_one", 15)]) (g := (gName 15)) (tt := (tB (tIsN (tOp (rIxT K) (tVar 10) (tVar 15))))) rfl S.nd (pi_tup (x_ixT (pv 11) pe_int)) (blkOk_by (N := N) (sc := defScope st) (by decide +kernel)) (fun _ _ _ _ _ => (g_nm 15 S.nd)) (fun _ _ _ _ _ => (pts_one (y_isN (x_ixT (pv 10) (pv 15))))) (fun _ _ _ _ _ => (pv 15))) (pe_lst (by exact pa_nil))) (pss_cons (x_set (i := 13) S.nd (x_call F_law_did (hr.mono (by omega)) (by exact (pa_cons (pv 10) (pa_cons (pv 11) pa_nil)))))
  (pss_one (ps_if ((pw_and (y_inL (u65 hr) (x_ixT (pv 13) (x_ixT (pv 11) pe_int)) (pv 3)) (pw_and1 (y_ninM (u9 hr) (pv 13) (pv 6))))).pt (pss_cons (ps_mput (u9 hr) (pv 6) (pv 13) x_true rfl)
  (pss_one (ps_expr (pe_bm PySem.F.plainAttrs_list PySem.F.slot_list_append PySem.F.type_list_append mt_append (pv 9) (by exact (pa_cons (pv 13) pa_nil)))))) pss_nil))) pss_nil))))))
  (pss_one (ps_par (i := 7) (j := 8) rfl S.nd rfl rfl (by decide) rfl rfl (by exact (pa_cons (pv 9) (pa_cons (pe_op op_add (pv 8) pe_int) pa_nil))) (by exact rfl))))))
  (pss_one (ps_ret pe_non)))))))
end D_law_fewest

namespace D_law_alike
abbrev st : Stmt := top 54
abbrev N : List Str := ["_law_found", "_law_due", "_law_k"]
abbrev ps : List Str := ["_law_found", "_law_due"]
theorem S : FnScope N ps (defScope st) := ⟨rfl, rfl, rfl, by decide +kernel, rfl, by decide +kernel, by decide +kernel⟩
def t (K : PySem.W.Frag) (w : World) (sp_law_alike : Sp) : TS :=
  (tSeq (tIfS (tB (tCB (rIsiT K) (tCons (tVar 1) (tCons (tTup (tCons (tC (.ty "tuple")) (tCons (tC (.ty "list")) tNil))) tNil)))) (tSeq (tIfS (tOr (tNot (tB (tCB (rIsiT K) (tCons (tVar 0) (tCons (tTup (tCons (tC (.ty "tuple")) (tCons (tC (.ty "list")) tNil))) tNil))))) (tTest (tOp rNe (tCB (rIsi K) (tCons (tVar 0) (tCons (tC (.ty "list")) tNil))) (tCB (rIsi K) (tCons (tVar 1) (tCons (tC (.ty "list")) tNil)))))) (tRet (tC (.bl false))) tNext)
  (tSeq (tIfS (tTest (tOp (rNeD K) (tCB (rLenV K) (tCons (tVar 0) tNil)) (tCB (rLenV K) (tCons (tVar 1) tNil)))) (tRet (tC (.bl false))) tNext)
  (tRet (tOp (rEqD K) (tLc (iRng1 (tCons (tCB (rLenV K) (tCons (tVar 1) tNil)) tNil)) (gName 2) (tNot (tB (tCall sp_law_alike [] E0 (tCons (tOp (rIx K) (tVar 0) (tVar 2)) (tCons (tOp (rIx K) (tVar 1) (tVar 2)) tNil))))) (tVar 2) [2]) (tLst tNil))))) tNext)
  (tSeq (tIfS (tOr (tB (tIsN (tVar 1))) (tB (tCB (rIsi K) (tCons (tVar 1) (tCons (tC (.ty "str")) tNil))))) (tRet (tAndV (tOp (rEqD K) (tVar 0) (tVar 1)) (tOp rEq (tCB (rIsi K) (tCons (tVar 0) (tCons (tC (.ty "str")) tNil))) (tCB (rIsi K) (tCons (tVar 1) (tCons (tC (.ty "str")) tNil)))))) tNext)
  (tRet (tAndV (tCB (rIsi K) (tCons (tVar 0) (tCons (tC (.ty "int")) tNil))) (tAndV (tOp rEq (tCB (rIsi K) (tCons (tVar 0) (tCons (tC (.ty "bool")) tNil))) (tCB (rIsi K) (tCons (tVar 1) (tCons (tC (.ty "bool")) tNil)))) (tOp (rEqD K) (tVar 0) (tVar 1)))))))
theorem d {P : Program} {w : World} {K : PySem.W.Frag} {mg : Str → Option Value} {base : Heap} {f : Addr} {cdv : Value} {A : Around} {outer : List Env} {s : Shared} {H : Hp} {E : XK} {k : Nat} {sp_law_alike : Sp} (B : Bi mg) (hr : Room (k) (A.deeper (envOfC "_law_alike" (defScope st) s.heap.objs.size f cdv))) (F_law_alike : Fc P w K mg base CX0 k "_law_alike" [] sp_law_alike) :
    PSs (cxOf CX0 P w K mg base N "_law_alike" (defScope st) f cdv A outer s H E).nox (defBody st) (t K w sp_law_alike) :=
  (pss_cons (ps_if (pt_val (x_isiT B (pv 1) (pe_tup (by exact (pa_cons (x_ty B.tuple boot_tuple') (pa_cons (x_ty B.list boot_list') pa_nil)))))) (pss_cons (ps_if ((pw_or (pt_not (pt_val (x_isiT B (pv 0) (pe_tup (by exact (pa_cons (x_ty B.tuple boot_tuple') (pa_cons (x_ty B.list boot_list') pa_nil))))))) (pw_or1 (y_neB (x_isi B (pv 0) (x_ty B.list boot_list')) (x_isi B (pv 1) (x_ty B.list boot_list')))))).pt (pss_one (ps_ret x_false)) pss_nil)
  (pss_cons (ps_if (y_neD (u64 hr) (x_len B (pv 0)) (x_len B (pv 1))) (pss_one (ps_ret x_false)) pss_nil)
  (pss_one (ps_ret (x_eqD (u64 hr) (pe_lc (own := [("_law_k", 2)]) (g := (gName 2)) (tt := (tNot (tB (tCall sp_law_alike [] E0 (tCons (tOp (rIx K) (tVar 0) (tVar 2)) (tCons (tOp (rIx K) (tVar 1) (tVar 2)) tNil)))))) rfl S.nd (x_rng B (x_len B (pv 1))) (blkOk_by (N := N) (sc := defScope st) (by decide +kernel)) (fun _ _ _ _ _ => (g_nm 2 S.nd)) (fun _ _ _ _ _ => (pts_one (pt_not (pt_val (x_call F_law_alike (hr.mono (by omega)) (by exact (pa_cons (pe_ix ix_seq (pv 0) (pv 2) (by intro _ _; rfl)) (pa_cons (pe_ix ix_seq (pv 1) (pv 2) (by intro _ _; rfl)) pa_nil)))))))) (fun _ _ _ _ _ => (pv 2))) (pe_lst (by exact pa_nil))))))) pss_nil)
  (pss_cons (ps_if ((pw_or (y_isN (pv 1)) (pw_or1 (pt_val (x_isi B (pv 1) (x_ty B.str boot_str')))))).pt (pss_one (ps_ret (pe_and (x_eqD (u64 hr) (pv 0) (pv 1)) (pe_one (x_eqB (x_isi B (pv 0) (x_ty B.str boot_str')) (x_isi B (pv 1) (x_ty B.str boot_str'))))))) pss_nil)
  (pss_one (ps_ret (pe_and (x_isi B (pv 0) (x_ty B.int boot_int')) (pe_and (x_eqB (x_isi B (pv 0) (x_ty B.bool boot_bool')) (x_isi B (pv 1) (x_ty B.bool boot_bool'))) (pe_one (x_eqD (u64 hr) (pv 0) (pv 1)))))))))
end D_law_alike

namespace D_law_does
abbrev st : Stmt := top 55
abbrev N : List Str := ["_law_machine_here", "_law_value", "_law_wishes_here", "_law_due", "_law_gentle", "_law_every", "_law_line", "_law_held", "_law_one", "_law_cell", "_law_term"]
abbrev ps : List Str := ["_law_machine_here", "_law_value", "_law_wishes_here", "_law_due", "_law_gentle"]
theorem S : FnScope N ps (defScope st) := ⟨rfl, rfl, rfl, by decide +kernel, rfl, by decide +kernel, by decide +kernel⟩
def t (K : PySem.W.Frag) (w : World) (sp_law_every_line : Sp) (sp_law_alike : Sp) (sp_law_ran : Sp) : TS :=
  (tSeq (tAsg (tCall sp_law_every_line [] E0 (tCons (tVar 0) tNil)) (gName 5))
  (tSeq (tIfS (tOr (tNot (tB (tCB (rIsi K) (tCons (tVar 1) (tCons (tC (.ty "tuple")) tNil))))) (tOr (tB (tIsN (tVar 3))) (tTest (tOp (rNeD K) (tCB (rLenV K) (tCons (tVar 1) tNil)) (tVar 3))))) (tRet (tC (.bl false))) tNext)
  (tSeq (tFor (iTup K (tVar 1)) (gName 6) (tIfS (tOr (tTest (tOp (rEqD K) (tLc (iList K (tVar 5)) (gName 8) (tB (tCall sp_law_alike [] E0 (tCons (tVar 8) (tCons (tVar 6) tNil)))) (tVar 8) [8]) (tLst tNil))) (tAnd (tB (tVar 4)) (tTest (tOp (rIn K false) (tOp (rIxT K) (tVar 6) (tC (.int 0))) (tOp (rIxT K) (tVar 6) (tC (.int 2))))))) (tRet (tC (.bl false))) tNext))
  (tSeq (tAsg (tCall sp_law_ran [] E0 (tCons (tVar 0) (tCons (tVar 1) (tCons (tTup tNil) tNil)))) (gName 7))
  (tRet (tAndV (tNotN (tVar 7)) (tOp (rEqD K) (tLc (iTup K (tVar 2)) (gTup K 2 (gNames [9, 10])) (tTest (tOp (rNeD K) (tOp (rIxT K) (tVar 7) (tVar 9)) (tVar 10))) (tC (.int 1)) [9, 10]) (tLst tNil))))))))
theorem d {P : Program} {w : World} {K : PySem.W.Frag} {mg : Str → Option Value} {base : Heap} {f : Addr} {cdv : Value} {A : Around} {outer : List Env} {s : Shared} {H : Hp} {E : XK} {k : Nat} {sp_law_every_line : Sp} {sp_law_alike : Sp} {sp_law_ran : Sp} (B : Bi mg) (hr : Room (k) (A.deeper (envOfC "_law_does" (defScope st) s.heap.objs.size f cdv))) (F_law_every_line : Fc P w K mg base CX0 k "_law_every_line" [] sp_law_every_line) (F_law_alike : Fc P w K mg base CX0 k "_law_alike" [] sp_law_alike) (F_law_ran : Fc P w K mg base CX0 k "_law_ran" [] sp_law_ran) :
    PSs (cxOf CX0 P w K mg base N "_law_does" (defScope st) f cdv A outer s H E).nox (defBody st) (t K w sp_law_every_line sp_law_alike sp_law_ran) :=
  (pss_cons (x_set (i := 5) S.nd (x_call F_law_every_line (hr.mono (by omega)) (by exact (pa_cons (pv 0) pa_nil))))
  (pss_cons (ps_if ((pw_or (pt_not (pt_val (x_isi B (pv 1) (x_ty B.tuple boot_tuple')))) (pw_or (y_isN (pv 3)) (pw_or1 (y_neD (u64 hr) (x_len B (pv 1)) (pv 3)))))).pt (pss_one (ps_ret x_false)) pss_nil)
  (pss_cons (ps_for PassesOwn.never rfl (pi_tup (pv 1)) (g_nm 6 S.nd) (pss_one (ps_if ((pw_or (y_eqD (u64 hr) (pe_lc (own := [("_law_one", 8)]) (g := (gName 8)) (tt := (tB (tCall sp_law_alike [] E0 (tCons (tVar 8) (tCons (tVar 6) tNil))))) rfl S.nd (pi_list (pv 5)) (blkOk_by (N := N) (sc := defScope st) (by decide +kernel)) (fun _ _ _ _ _ => (g_nm 8 S.nd)) (fun _ _ _ _ _ => (pts_one (pt_val (x_call F_law_alike (hr.mono (by omega)) (by exact (pa_cons (pv 8) (pa_cons (pv 6) pa_nil))))))) (fun _ _ _ _ _ => (pv 8))) (pe_lst (by exact pa_nil))) (pw_or1 ((pw_and (pt_val (pv 4)) (pw_and1 (y_inT (x_ixT (pv 6) pe_int) (x_ixT (pv 6) pe_int))))).pt))).pt (pss_one (ps_ret x_false)) pss_nil)))
  (pss_cons (x_set (i := 7) S.nd (x_call F_law_ran (hr.mono (by omega)) (by exact (pa_cons (pv 0) (pa_cons (pv 1) (pa_cons (pe_tup (by exact pa_nil)) pa_nil))))))
  (pss_one (ps_ret (pe_and (x_nNon (pv 7)) (pe_one (x_eqD (u64 hr) (pe_lc (own := [("_law_cell", 9), ("_law_term", 10)]) (g := (gTup K 2 (gNames [9, 10]))) (tt := (tTest (tOp (rNeD K) (tOp (rIxT K) (tVar 7) (tVar 9)) (tVar 10)))) rfl S.nd (pi_tup (pv 2)) (blkOk_by (N := N) (sc := defScope st) (by decide +kernel)) (fun _ _ _ _ _ => (pg_tup rfl (by exact (pgs_cons (g_nm 9 S.nd) (pgs_cons (g_nm 10 S.nd) pgs_nil))))) (fun _ _ _ _ _ => (pts_one (y_neD (u64 hr) (x_ixT (pv 7) (pv 9)) (pv 10)))) (fun _ _ _ _ _ => pe_int)) (pe_lst (by exact pa_nil)))))))))))
end D_law_does

namespace D_Search_init
abbrev st : Stmt := inClass (top 29) 0
abbrev N : List Str := ["self", "machine", "wishes", "gentle", "line", "cell", "term"]
abbrev ps : List Str := ["self", "machine", "wishes", "gentle"]
theorem S : FnScope N ps (defScope st) := ⟨rfl, rfl, rfl, by decide +kernel, rfl, by decide +kernel, by decide +kernel⟩
def t (K : PySem.W.Frag) (w : World) (sp_all_parts : Sp) (sp_all_lines : Sp) (sp_is_soft : Sp) (sp_first_terms : Sp) : TS :=
  (tSeq (sFld K (tVar 0) (tCall sp_all_parts [] E0 (tCons (tVar 2) tNil)) "parts")
  (tSeq (sFld K (tVar 0) (tCB (rListM w) (tCons (tFld K (tVar 0) "parts") tNil)) "terms")
  (tSeq (sFld K (tVar 0) (tLc (iTup K (tVar 2)) (gTup K 2 (gNames [5, 6])) tYes (tTup (tCons (tVar 5) (tCons (tMGet w (tFld K (tVar 0) "parts") (tVar 6)) tNil))) [5, 6]) "goal")
  (tSeq (sFld K (tVar 0) (tLc (iList K (tCall sp_all_lines [] E0 (tCons (tVar 1) tNil))) (gName 4) (tOr (tB (tCall sp_is_soft [] E0 (tCons (tVar 4) tNil))) (tNot (tB (tVar 3)))) (tVar 4) [4]) "moves")
  (sFld K (tVar 0) (tThen (tLc (iTup K (tCall sp_first_terms [] E0 (tCons (tVar 1) tNil))) (gName 6) tYes (tMGet2 w (tFld K (tVar 0) "parts") (tVar 6) (tC (.int (-1)))) [6]) (kTup K)) "start")))))
theorem d {P : Program} {w : World} {K : PySem.W.Frag} {mg : Str → Option Value} {base : Heap} {f : Addr} {cdv : Value} {A : Around} {outer : List Env} {s : Shared} {H : Hp} {E : XK} {k : Nat} {sp_all_parts : Sp} {sp_all_lines : Sp} {sp_is_soft : Sp} {sp_first_terms : Sp} (B : Bi mg) (hr : Room (k) (A.deeper (envOfC "Search.__init__" (defScope st) s.heap.objs.size f cdv))) (g_NOTHING : ∃ t, mg "NOTHING" = some (.int (-1) t)) (F_all_parts : Fc P w K mg base CX0 k "all_parts" [] sp_all_parts) (F_all_lines : Fc P w K mg base CX0 k "all_lines" [] sp_all_lines) (F_is_soft : Fc P w K mg base CX0 k "is_soft" [] sp_is_soft) (F_first_terms : Fc P w K mg base CX0 k "first_terms" [] sp_first_terms) :
    PSs (cxOf CX0 P w K mg base N "Search.__init__" (defScope st) f cdv A outer s H E).nox (defBody st) (t K w sp_all_parts sp_all_lines sp_is_soft sp_first_terms) :=
  (pss_cons (ps_fld (pv 0) (x_call F_all_parts (hr.mono (by omega)) (by exact (pa_cons (pv 2) pa_nil))) rfl)
  (pss_cons (ps_fld (pv 0) (x_listM B rfl (pe_fld (pv 0) rfl)) rfl)
  (pss_cons (ps_fld (pv 0) (pe_lc (own := [("cell", 5), ("term", 6)]) (g := (gTup K 2 (gNames [5, 6]))) (tt := tYes) rfl S.nd (pi_tup (pv 2)) (blkOk_by (N := N) (sc := defScope st) (by decide +kernel)) (fun _ _ _ _ _ => (pg_tup rfl (by exact (pgs_cons (g_nm 5 S.nd) (pgs_cons (g_nm 6 S.nd) pgs_nil))))) (fun _ _ _ _ _ => pts_nil) (fun _ _ _ _ _ => (pe_tup (by exact (pa_cons (pv 5) (pa_cons (x_ixM (u9 hr) (pe_fld (pv 0) rfl) (pv 6)) pa_nil)))))) rfl)
  (pss_cons (ps_fld (pv 0) (pe_lc (own := [("line", 4)]) (g := (gName 4)) (tt := (tOr (tB (tCall sp_is_soft [] E0 (tCons (tVar 4) tNil))) (tNot (tB (tVar 3))))) rfl S.nd (pi_list (x_call F_all_lines (hr.mono (by omega)) (by exact (pa_cons (pv 1) pa_nil)))) (blkOk_by (N := N) (sc := defScope st) (by decide +kernel)) (fun _ _ _ _ _ => (g_nm 4 S.nd)) (fun _ _ _ _ _ => (pts_one ((pw_or (pt_val (x_call F_is_soft (hr.mono (by omega)) (by exact (pa_cons (pv 4) pa_nil)))) (pw_or1 (pt_not (pt_val (pv 3)))))).pt)) (fun _ _ _ _ _ => (pv 4))) rfl)
  (pss_one (ps_fld (pv 0) (x_tup B (pe_lc (own := [("term", 6)]) (g := (gName 6)) (tt := tYes) rfl S.nd (pi_tup (x_call F_first_terms (hr.mono (by omega)) (by exact (pa_cons (pv 1) pa_nil)))) (blkOk_by (N := N) (sc := defScope st) (by decide +kernel)) (fun _ _ _ _ _ => (g_nm 6 S.nd)) (fun _ _ _ _ _ => pts_nil) (fun _ _ _ _ _ => (pe_mget2 (u9 hr) (pe_fld (pv 0) rfl) (pv 6) (x_gint g_NOTHING) ⟨rfl, rfl, rfl, rfl⟩)))) rfl))))))
end D_Search_init

namespace D_Search_behind
abbrev st : Stmt := inClass (top 29) 1
abbrev N : List Str := ["self", "held", "line", "cell", "function", "sources", "part", "source"]
abbrev ps : List Str := ["self", "held", "line"]
theorem S : FnScope N ps (defScope st) := ⟨rfl, rfl, rfl, by decide +kernel, rfl, by decide +kernel, by decide +kernel⟩
def t (K : PySem.W.Frag) (w : World) (Pt : Addr) : TS :=
  (tSeq (tAsg (tVar 2) (gTup K 3 (gNames [3, 4, 5])))
  (tSeq (tIfS (tB (tQu Pt false (iTup K (tVar 5)) (gName 7) (tOp (rEqD K) (tOp (rIxT K) (tVar 1) (tVar 7)) (tC (.int (-1)))) [7])) (tRet (tC .non)) tNext)
  (tSeq (tIfS (tB (tIsN (tVar 4))) (tAsg (tOp (rIxT K) (tVar 1) (tOp (rIxT K) (tVar 5) (tC (.int 0)))) (gName 6)) (tAsg (tMGet2 w (tFld K (tVar 0) "parts") (tOp (rCatA K) (tTup (tCons (tVar 4) tNil)) (tThen (tLc (iTup K (tVar 5)) (gName 7) tYes (tOp (rIxL K) (tFld K (tVar 0) "terms") (tOp (rIxT K) (tVar 1) (tVar 7))) [7]) (kTup K))) (tC (.int (-1)))) (gName 6)))
  (tSeq (tIfS (tOr (tTest (tOp (rEqD K) (tVar 6) (tC (.int (-1))))) (tTest (tOp (rEqD K) (tVar 6) (tOp (rIxT K) (tVar 1) (tVar 3))))) (tRet (tC .non)) tNext)
  (tRet (tOp (rCatA K) (tOp (rCatA K) (tSl (rSlA K) (tVar 1) tNoPart (tPart (tVar 3))) (tTup (tCons (tVar 6) tNil))) (tSl (rSlA K) (tVar 1) (tPart (tOp rAddI (tVar 3) (tC (.int 1)))) tNoPart)))))))
theorem d {P : Program} {w : World} {K : PySem.W.Frag} {mg : Str → Option Value} {base : Heap} {f c Pt : Addr} {cdv : Value} {A : Around} {outer : List Env} {s : Shared} {H : Hp} {E : XK} {k : Nat} (B : Bi mg) (hr : Room (k + 1) (A.deeper (envOfC "Search.behind" (defScope st) s.heap.objs.size f cdv))) (TB : TabB base mg c Pt) (hcd : cdv = .ref c) (g_NOTHING : ∃ t, mg "NOTHING" = some (.int (-1) t)) :
    PSs (cxOf CX0 P w K mg base N "Search.behind" (defScope st) f cdv A outer s H E).nox (defBody st) (t K w Pt) :=
  (pss_cons (ps_asg (pv 2) (pg_tup rfl (by exact (pgs_cons (g_nm 3 S.nd) (pgs_cons (g_nm 4 S.nd) (pgs_cons (g_nm 5 S.nd) pgs_nil))))))
  (pss_cons (ps_if (pt_val (x_any (own := [("source", 7)]) (g := (gName 7)) hr B rfl S.nd TB hcd (gscope_by (N := N) (sc := defScope st) (by decide +kernel)) (pi_tup (pv 5)) (fun _ _ _ _ _ _ _ => (g_nm 7 S.nd)) (fun _ _ _ _ _ _ _ hr => (x_eqD (u64 hr) (x_ixT (pv 1) (pv 7)) (x_gint g_NOTHING))))) (pss_one (ps_ret pe_non)) pss_nil)
  (pss_cons (ps_if (y_isN (pv 4)) (pss_one (x_set (i := 6) S.nd (x_ixT (pv 1) (x_ixT (pv 5) pe_int)))) (pss_one (x_set (i := 6) S.nd (pe_mget2 (u9 hr) (pe_fld (pv 0) rfl) (pe_op op_catA (pe_tup (by exact (pa_cons (pv 4) pa_nil))) (x_tup B (pe_lc (own := [("source", 7)]) (g := (gName 7)) (tt := tYes) rfl S.nd (pi_tup (pv 5)) (blkOk_by (N := N) (sc := defScope st) (by decide +kernel)) (fun _ _ _ _ _ => (g_nm 7 S.nd)) (fun _ _ _ _ _ => pts_nil) (fun _ _ _ _ _ => (x_ixL (pe_fld (pv 0) rfl) (x_ixT (pv 1) (pv 7))))))) (x_gint g_NOTHING) ⟨rfl, rfl, rfl, rfl⟩))))
  (pss_cons (ps_if ((pw_or (y_eqD (u64 hr) (pv 6) (x_gint g_NOTHING)) (pw_or1 (y_eqD (u64 hr) (pv 6) (x_ixT (pv 1) (pv 3)))))).pt (pss_one (ps_ret pe_non)) pss_nil)
  (pss_one (ps_ret (pe_op op_catA (pe_op op_catA (pe_slice sl_tupA (pv 1) po_none (po_some (pv 3))) (pe_tup (by exact (pa_cons (pv 6) pa_nil)))) (pe_slice sl_tupA (pv 1) (po_some (pe_op op_add (pv 3) pe_int)) po_none))))))))
end D_Search_behind

namespace D_Search_shortest
abbrev st : Stmt := inClass (top 29) 2
abbrev N : List Str := ["self", "found", "layer", "held", "later", "line", "after", "cell", "part"]
abbrev ps : List Str := ["self"]
theorem S : FnScope N ps (defScope st) := ⟨rfl, rfl, rfl, by decide +kernel, rfl, by decide +kernel, by decide +kernel⟩
def t (K : PySem.W.Frag) (w : World) (Pt : Addr) (C : Addr) (sp_Mbehind : Sp) : TS :=
  (tSeq (tPar 1 2 (tCons (tMOne w (tFld K (tVar 0) "start") (tTup tNil)) (tCons (tLst (tCons (tFld K (tVar 0) "start") tNil)) tNil)))
  (tSeq (tWhile (tTru K (tVar 2)) (tSeq (tFor (iList K (tVar 2)) (gName 3) (tIfS (tB (tQu Pt true (iList K (tFld K (tVar 0) "goal")) (gTup K 2 (gNames [7, 8])) (tOp (rEqD K) (tOp (rIxT K) (tVar 3) (tVar 7)) (tVar 8)) [7, 8])) (tRet (tMGet w (tVar 1) (tVar 3))) tNext))
  (tSeq (tAsg (tLst tNil) (gName 4))
  (tSeq (tFor (iList K (tVar 2)) (gName 3) (tFor (iList K (tFld K (tVar 0) "moves")) (gName 5) (tSeq (tAsg (tMeth C "behind" sp_Mbehind [] E0 (tVar 0) (tCons (tVar 3) (tCons (tVar 5) tNil))) (gName 6))
  (tIfS (tAnd (tB (tNotN (tVar 6))) (tB (tMNotIn w (tVar 6) (tVar 1)))) (tSeq (sMPut w (tVar 1) (tVar 6) (tOp (rCatA K) (tMGet w (tVar 1) (tVar 3)) (tTup (tCons (tVar 5) tNil))))
  (tDrop (tBM K "list" rAppend (tVar 4) (tCons (tVar 6) tNil)))) tNext))))
  (tAsg (tVar 4) (gName 2))))))
  (tRet (tC .non))))
theorem d {P : Program} {w : World} {K : PySem.W.Frag} {mg : Str → Option Value} {base : Heap} {f c Pt : Addr} {cdv : Value} {A : Around} {outer : List Env} {s : Shared} {H : Hp} {E : XK} {k : Nat} {C fM : Addr} (B : Bi mg) (hr : Room (k + 1) (A.deeper (envOfC "Search.shortest" (defScope st) s.heap.objs.size f cdv))) (TB : TabB base mg c Pt) (hcd : cdv = .ref c) {sp_Mbehind : Sp} (T : Cls K C) (hM : Meth K C "behind" fM) (F_Mbehind : Fm P w K mg base CX0 k fM [] sp_Mbehind) :
    PSs (cxOf CX0 P w K mg base N "Search.shortest" (defScope st) f cdv A outer s H E).nox (defBody st) (t K w Pt C sp_Mbehind) :=
  (pss_cons (ps_par (i := 1) (j := 2) rfl S.nd rfl rfl (by decide) rfl rfl (by exact (pa_cons (pe_mone (u9 hr) (pe_fld (pv 0) rfl) (pe_tup (by exact pa_nil))) (pa_cons (pe_lst (by exact (pa_cons (pe_fld (pv 0) rfl) pa_nil))) pa_nil))) (by exact rfl))
  (pss_cons (ps_while PassesOwn.never (y_tru (pv 2)) (pss_cons (ps_for PassesOwn.never rfl (pi_list (pv 2)) (g_nm 3 S.nd) (pss_one (ps_if (pt_val (x_all (own := [("cell", 7), ("part", 8)]) (g := (gTup K 2 (gNames [7, 8]))) hr B rfl S.nd TB hcd (gscope_by (N := N) (sc := defScope st) (by decide +kernel)) (pi_list (pe_fld (pv 0) rfl)) (fun _ _ _ _ _ _ _ => (pg_tup rfl (by exact (pgs_cons (g_nm 7 S.nd) (pgs_cons (g_nm 8 S.nd) pgs_nil))))) (fun _ _ _ _ _ _ _ hr => (x_eqD (u64 hr) (x_ixT (pv 3) (pv 7)) (pv 8))))) (pss_one (ps_ret (x_ixM (u9 hr) (pv 1) (pv 3)))) pss_nil)))
  (pss_cons (x_set (i := 4) S.nd (pe_lst (by exact pa_nil)))
  (pss_cons (ps_for PassesOwn.never rfl (pi_list (pv 2)) (g_nm 3 S.nd) (pss_one (ps_for PassesOwn.never rfl (pi_list (pe_fld (pv 0) rfl)) (g_nm 5 S.nd) (pss_cons (x_set (i := 6) S.nd (x_meth (pv 0) T hM F_Mbehind (hr.mono (by omega)) (by exact (pa_cons (pv 3) (pa_cons (pv 5) pa_nil)))))
  (pss_one (ps_if ((pw_and (y_nNon (pv 6)) (pw_and1 (y_ninM (u9 hr) (pv 6) (pv 1))))).pt (pss_cons (ps_mput (u9 hr) (pv 1) (pv 6) (pe_op op_catA (x_ixM (u9 hr) (pv 1) (pv 3)) (pe_tup (by exact (pa_cons (pv 5) pa_nil)))) rfl)
  (pss_one (ps_expr (pe_bm PySem.F.plainAttrs_list PySem.F.slot_list_append PySem.F.type_list_append mt_append (pv 4) (by exact (pa_cons (pv 6) pa_nil)))))) pss_nil))))))
  (pss_one (x_set (i := 2) S.nd (pv 4)))))))
  (pss_one (ps_ret pe_non))))
end D_Search_shortest

end LX

set_option maxRecDepth 100000
set_option maxHeartbeats 4000000
namespace LX
open PySem PySem.Spec PyProof.Rows L2 MDict GxR GQ
/-! ### the two searches, in plain Lean -/
def movesOf (n : Nat) (fs : List Nat) (gentle : Bool) : List Ln := (allLines n fs).filter fun l => soft l || !gentle
def nextL (pl : List D) (held : List D) (l : Ln) : Option (List D) :=
  if l.s.any (fun i => decide (getD' held i = .none)) then none else if newT held l ∈ pl then some (did held l) else none
def startL (pl : List D) (n : Nat) : List D := (rgD n).map fun d => if d ∈ pl then d else .none
def goalL (ws : List Wish) (held : List D) : Bool := ws.all (hit held)
/-- a state of the law's search -/
structure StL (pl : List D) (n : Nat) (held : List D) : Prop where
  len : held.length = n
  all : ∀ d ∈ held, d = .none ∨ d ∈ pl
theorem stl_start (pl : List D) (n : Nat) : StL pl n (startL pl n) := ⟨by unfold startL; rw [List.length_map, rgD_length], fun d hd => by
  obtain ⟨x, _, rfl⟩ := List.mem_map.mp hd
  by_cases h : x ∈ pl
  · rw [if_pos h]; exact .inr h
  · rw [if_neg h]; exact .inl rfl⟩
theorem stl_next {pl : List D} {n : Nat} {held a : List D} {l : Ln} (h : StL pl n held) (e : nextL pl held l = some a) : StL pl n a := by
  unfold nextL at e
  split at e
  · cases e
  · split at e
    · rename_i hm
      cases e
      refine ⟨by unfold did; rw [List.length_set]; exact h.len, fun d hd => ?_⟩
      rcases List.mem_or_eq_of_mem_set hd with h1 | rfl
      · exact h.all d h1
      · exact .inr hm
    · cases e
/-- all lists of n things of a list -/
def allOf {α : Type} (xs : List α) : Nat → List (List α)
  | 0 => [[]]
  | n + 1 => xs.flatMap fun x => (allOf xs n).map fun r => x :: r
theorem mem_allOf {α : Type} {xs : List α} : ∀ {n : Nat} {l : List α}, l.length = n → (∀ x ∈ l, x ∈ xs) → l ∈ allOf xs n
  | 0, l, h, _ => by
    cases l with
    | nil => simp [allOf]
    | cons _ _ => simp at h
  | n + 1, l, h, hs => by
    cases l with
    | nil => simp at h
    | cons a r =>
      simp only [allOf, List.mem_flatMap, List.mem_map]
      exact ⟨a, hs a List.mem_cons_self, r, mem_allOf (by simpa using h) fun x hx => hs x (List.mem_cons_of_mem _ hx), rfl⟩
theorem allOf_len {α : Type} (xs : List α) : ∀ n, (allOf xs n).length = xs.length ^ n
  | 0 => rfl
  | n + 1 => by
    simp only [allOf, List.length_flatMap, List.length_map, allOf_len xs n]
    rw [List.map_const', List.sum_replicate_nat, Nat.pow_succ, Nat.mul_comm]
theorem pow3 {k n : Nat} (hk : k ≤ 11) (hn : n ≤ 3) : k ^ n ≤ 1331 := by
  have h1 : k ^ n ≤ 11 ^ n := Nat.pow_le_pow_left hk n
  have h2 : 11 ^ n ≤ 11 ^ 3 := Nat.pow_le_pow_right (by decide) hn
  have h3 : (11 : Nat) ^ 3 = 1331 := rfl
  omega
theorem univL {pl : List D} {n : Nat} : startL pl n ∈ allOf (.none :: pl) n ∧ ∀ s ∈ allOf (NestedKey.none :: pl) n, True := ⟨mem_allOf (stl_start pl n).len fun x hx => by
  rcases (stl_start pl n).all x hx with h | h
  · rw [h]; exact List.mem_cons_self
  · exact List.mem_cons_of_mem _ h, fun _ _ => trivial⟩
theorem stl_mem {pl : List D} {n : Nat} {held : List D} (h : StL pl n held) : held ∈ allOf (NestedKey.none :: pl) n := mem_allOf h.len fun x hx => by
  rcases h.all x hx with h | h
  · rw [h]; exact List.mem_cons_self
  · exact List.mem_cons_of_mem _ h
theorem stl_of_mem {pl : List D} : ∀ {n : Nat} {held : List D}, held ∈ allOf (NestedKey.none :: pl) n → StL pl n held
  | 0, held, h => by
    have : held = [] := by simpa [allOf] using h
    subst this
    exact ⟨rfl, fun d hd => by cases hd⟩
  | n + 1, held, h => by
    simp only [allOf, List.mem_flatMap, List.mem_map] at h
    obtain ⟨x, hx, r, hr, rfl⟩ := h
    have ih := stl_of_mem hr
    refine ⟨by simp [ih.len], fun d hd => ?_⟩
    rcases List.mem_cons.mp hd with rfl | hd
    · simpa using hx
    · exact ih.all d hd
theorem closedL {pl : List D} {n : Nat} {lines : List Ln} : ∀ s ∈ allOf (NestedKey.none :: pl) n, ∀ l ∈ lines, ∀ a, nextL pl s l = some a → a ∈ allOf (NestedKey.none :: pl) n := fun s hs l _ a ha => stl_mem (stl_next (stl_of_mem hs) ha)
/-! ### found as a dict -/
section
variable {S L : Type} [DecidableEq S] {key : S → D} (inj : ∀ a b, key a = key b → a = b) {P : List L → V → Prop}
def FRel (key : S → D) (P : List L → V → Prop) : List (S × List L) → List (D × V) → Prop := Paired fun e kv => kv.1 = key e.1 ∧ P e.2 kv.2
include inj
theorem frel_in {found : List (S × List L)} {kvs : List (D × V)} (r : FRel key P found kvs) (s : S) : (valV kvs (key s)).isSome = decide (s ∈ found.map (·.1)) := by
  unfold FRel at r
  induction r with
  | nil => simp [valV_nil]
  | @cons e kv es ks h t ih =>
    by_cases he : e.1 = s
    · rw [valV_pos (by rw [h.1, he])]
      simp [he]
    · rw [valV_neg (by rw [h.1]; exact fun z => he (inj _ _ z)), ih]
      have he' : ¬ s = e.1 := fun z => he z.symm
      exact decide_eq_decide.mpr (by simp [he'])
theorem frel_get {found : List (S × List L)} {kvs : List (D × V)} (r : FRel key P found kvs) {s : S} (hs : s ∈ found.map (·.1)) : ∃ v, valV kvs (key s) = some v ∧ P (Lost.pathOf found s) v := by
  unfold FRel at r
  induction r with
  | nil => cases hs
  | @cons e kv es ks h t ih =>
    by_cases he : e.1 = s
    · refine ⟨kv.2, valV_pos (by rw [h.1, he]), ?_⟩
      have : Lost.pathOf (e :: es) s = e.2 := by unfold Lost.pathOf; rw [List.find?_cons]; simp [he]
      rw [this]; exact h.2
    · have hs' : s ∈ es.map (·.1) := by
        have := List.mem_cons.mp hs
        exact this.elim (fun z => absurd z.symm he) id
      obtain ⟨v, h1, h2⟩ := ih hs'
      refine ⟨v, by rw [valV_neg (by rw [h.1]; exact fun z => he (inj _ _ z))]; exact h1, ?_⟩
      have : Lost.pathOf (e :: es) s = Lost.pathOf es s := by unfold Lost.pathOf; rw [List.find?_cons]; simp [he]
      rw [this]; exact h2
theorem frel_put {found : List (S × List L)} {kvs : List (D × V)} (r : FRel key P found kvs) {a : S} {p : List L} {v : V} (ha : a ∉ found.map (·.1)) (hp : P p v) : FRel key P (found ++ [(a, p)]) (putK kvs (key a) v) := by
  have hn : valV kvs (key a) = none := by
    have := frel_in inj r a
    rw [decide_eq_false ha] at this
    cases h : valV kvs (key a) with
    | none => rfl
    | some _ => rw [h] at this; cases this
  rw [putK_new _ hn]
  clear hn ha
  unfold FRel at r ⊢
  induction r with
  | nil => exact .cons ⟨rfl, hp⟩ .nil
  | cons h t ih => exact .cons h ih
omit inj in
theorem frel_len {found : List (S × List L)} {kvs : List (D × V)} (r : FRel key P found kvs) : kvs.length = found.length := (Paired.length r).symm
omit inj in
theorem frel_mono {P' : List L → V → Prop} {found : List (S × List L)} {kvs : List (D × V)} (r : FRel key P found kvs) (h : ∀ p v, P p v → P' p v) : FRel key P' found kvs := Paired.mapP r fun _ _ ⟨a, b⟩ => ⟨a, h _ _ b⟩
end
theorem Gm.mut {l p : Addr} {o : HO} {H H' : Hp} (e : Gm l H H') (h : H p = none) : Gm l H (upd H' p o) := by
  refine ⟨fun a u n ha z => ?_, fun a t => ?_, fun a ha => ?_, fun a xs ha => ?_⟩
  · rw [upd_ne (ne_of_none ha h)]; exact e.kp a u n ha z
  · obtain ⟨ps, e1, e2⟩ := e.tb a t
    exact ⟨ps, by rw [upd_ne (tabg_ne t h)]; exact e1, e2⟩
  · by_cases z : a = p
    · rw [z]; exact h
    · rw [upd_ne z] at ha; exact e.dm a ha
  · rw [upd_ne (ne_of_none ha h)]; exact e.tk a xs ha
end LX

set_option maxRecDepth 100000
set_option maxHeartbeats 8000000
namespace LX
open PySem PySem.Spec PyProof.Rows L2 MDict GxR GQ
section
variable {K : PySem.W.Frag} {w : World} {σ : L2.St} {H : Hp} {ta tb te td tl ty tx tk tv : TE} {t : TT} {Dn : Ends} {tu tz : TS} {g g1 : TG} {P : V → Hp → Prop}
/-- {k: v} as a value -/
theorem ev_mone {k : D} (hP : ∀ {H H' : Hp} {v : V}, Tk H H' → P v H → P v H') (hk : Ev tk σ H (PD k)) (hd : k.depth ≤ 8) (ht : (∃ i, k = .num i) ∨ ∃ ks, k = .tup ks) (hv : Ev tv σ H P) :
    ∀ H1, Gx H H1 → ∀ Q : VK, (∀ d z H2, H1 d = none → Gx H1 H2 → MAt w H2 d [(k, z)] → P z H2 → Q (.ref d) H2) → tMOne w tk tv σ H1 Q := fun H1 e Q q p hp φ m =>
  hk _ (e.trans (Gx.new hp)) _ fun y H2 e2 hy => hv H2 ((e.trans (Gx.new hp)).trans e2) _ fun z H3 e3 hz => by
    have m2 := e3.map (e2.map m)
    refine ⟨k, m2, ktop (mono_d e3 hy) hd ht, fun φ2 m3 => ?_⟩
    obtain ⟨φ0, h0⟩ := m2.there
    exact q p z _ hp ((((Gx.new (o := .ext φ) hp).trans e2).trans e3).mut hp) m3 (hP (Tk.ext h0) hz)
/-- d[k] = v, k not there yet -/
theorem s_mput {d : Addr} {kvs : List (D × V)} {k : D} (hd : Ev td σ H (PV (.ref d))) (m : MAt w H d kvs) (hk : Ev tk σ H (PD k)) (hdp : k.depth ≤ 8) (ht : (∃ i, k = .num i) ∨ ∃ ks, k = .tup ks) (hl : kvs.length < 100000) (hv : Ev tv σ H P) (hP : ∀ {H H' : Hp} {v : V}, Tk H H' → P v H → P v H')
    (kk : ∀ v φ H1, Gx H H1 → P v H1 → MAt w (upd H1 d (.ext φ)) d (putK kvs k v) → (∃ φ0, H1 d = some (.ext φ0)) → tz Dn σ (upd H1 d (.ext φ))) : tSeq (sMPut w td tk tv) tz Dn σ H :=
  hv H (Gx.refl H) _ fun v H1 e1 hv1 => hd H1 e1 _ fun x H2 e2 hx => hk H2 (e1.trans e2) _ fun y H3 e3 hy => by
    have hx : x = .ref d := hx
    subst hx
    have m3 := ((e1.trans e2).trans e3)
    refine ⟨d, kvs, k, rfl, m3.map m, ktop hy hdp ht, by rw [sizeLine_eq]; omega, fun φ m4 => ?_⟩
    exact kk v φ H3 m3 (hP (e2.trans e3).tk hv1) m4 (m3.map m).there
theorem q_par3 {i j l : Nat} {ta : TA} (h : ta σ H fun vs H1 => ∃ u v w, vs = [u, v, w] ∧ tz Dn (((σ.set i (some u)).set j (some v)).set l (some w)) H1) : tSeq (tPar3 i j l ta) tz Dn σ H := h
end
def softD : D → Bool
  | .tup [c, _, .tup ss] => !decide (c ∈ ss)
  | _ => false
theorem softD_eq (l : Ln) : softD l.d = soft l := by
  show (!decide (nm l.c ∈ l.s.map nm)) = !decide (l.c ∈ l.s)
  congr 1
  refine decide_eq_decide.mpr ⟨fun h => ?_, fun h => List.mem_map.mpr ⟨l.c, h, rfl⟩⟩
  obtain ⟨x, h1, h2⟩ := List.mem_map.mp h
  have : x = l.c := by have := NestedKey.num.inj h2; omega
  exact this ▸ h1
theorem moves_d (n : Nat) (fs : List Nat) (b : Bool) : (movesOf n fs b).map Ln.d = (((allLines n fs).map Ln.d).filter fun d => softD d || !b).map fun d => d := by
  unfold movesOf
  rw [List.map_id', List.filter_map]
  congr 2
  funext l
  show (soft l || !b) = (softD l.d || !b)
  rw [softD_eq]
theorem lnIn_all {n : Nat} {fs : List Nat} (m : ∀ r ∈ fs, r = 1 ∨ r = 2) {l : Ln} (h : l ∈ allLines n fs) : LnIn n l := by
  unfold allLines at h
  obtain ⟨c, hc, h⟩ := List.mem_flatMap.mp h
  have hc := List.mem_range.mp hc
  unfold linesOf at h
  rcases List.mem_append.mp h with h | h
  · obtain ⟨⟨r, j⟩, hr, h⟩ := List.mem_flatMap.mp h
    obtain ⟨s, hs, rfl⟩ := List.mem_map.mp h
    unfold rowsL at hs
    split at hs
    · obtain ⟨a, ha, rfl⟩ := List.mem_map.mp hs
      have ha := List.mem_range.mp ha
      exact ⟨hc, fun x hx => by rw [List.mem_singleton.mp hx]; exact ha, by simp, by simp⟩
    · obtain ⟨a, ha, hs⟩ := List.mem_flatMap.mp hs
      obtain ⟨b, hb, rfl⟩ := List.mem_map.mp hs
      have ha := List.mem_range.mp ha
      have hb := List.mem_range.mp hb
      refine ⟨hc, fun x hx => ?_, by simp, by simp⟩
      rcases List.mem_cons.mp hx with rfl | hx
      · exact ha
      · rw [List.mem_singleton.mp hx]; exact hb
  · obtain ⟨s, hs, rfl⟩ := List.mem_map.mp h
    have hs := List.mem_range.mp (List.mem_filter.mp hs).1
    exact ⟨hc, fun x hx => by rw [List.mem_singleton.mp hx]; exact hs, by simp, by simp⟩
theorem lnIn_moves {n : Nat} {fs : List Nat} {b : Bool} (m : ∀ r ∈ fs, r = 1 ∨ r = 2) {l : Ln} (h : l ∈ movesOf n fs b) : LnIn n l := lnIn_all m (List.mem_filter.mp h).1
theorem moves_len {n : Nat} {fs : List Nat} {b : Bool} (n3 : n ≤ 3) (f2 : fs.length ≤ 2) : (movesOf n fs b).length ≤ 63 := by
  unfold movesOf
  refine Nat.le_trans (List.length_filter_le _ _) ?_
  unfold allLines
  refine Nat.le_trans (flat_le (B := 21) fun c _ => linesOf_le n3 f2) ?_
  rw [List.length_range]; omega
def lenD : Option (List Ln) → D
  | none => .none
  | some p => nm p.length
structure FArg where
  n : Nat
  fs : List Nat
  ws : List Wish
  b : Bool
structure FOk (x : FArg) : Prop where
  m : MOk x.n x.fs
  w : WfW x.ws
  c : ∀ y ∈ x.ws, y.1 < x.n
  few : (partsW x.ws).length ≤ 10
def LeastL (x : FArg) (q : Option (List Ln)) : Prop := Lost.Least (nextL (partsW x.ws)) (movesOf x.n x.fs x.b) (goalL x.ws) (startL (partsW x.ws) x.n) q
def RFew (x : FArg) (v : V) (H : Hp) : Prop := ∃ q, LeastL x q ∧ KeyH H (lenD q) v
def sp_law_fewest (T : List Addr) : Sp := spP (α := FArg) T FOk (fun x => [PD (mD x.n x.fs), PD (wsD x.ws), PB x.b]) RFew
def badD (held : List D) : D → Bool
  | .tup [.num c, t] => decide (getD' held c.toNat = .none) || !decide (getD' held c.toNat = t)
  | _ => false
theorem badD_eq {held : List D} {x : Wish} (hc : x.1 < held.length) (hx : x.2 ≠ .none) : badD held (wishD x) = !hit held x := by
  show (decide (getD' held ((x.1 : Int)).toNat = .none) || !decide (getD' held ((x.1 : Int)).toNat = x.2)) = !decide (held[x.1]? = some x.2)
  rw [Int.toNat_natCast, getD_get hc]
  by_cases h : getD' held x.1 = x.2
  · rw [h]; simp [hx]
  · simp [h]
theorem goal_d {held : List D} {ws : List Wish} (hc : ∀ y ∈ ws, y.1 < held.length) (hx : ∀ y ∈ ws, y.2 ≠ .none) : decide ((((ws.map wishD).filter (badD held)).map fun _ => NestedKey.num 1) = []) = goalL ws held := by
  unfold goalL
  rw [Bool.eq_iff_iff, decide_eq_true_iff, List.map_eq_nil_iff, List.filter_eq_nil_iff, List.all_eq_true]
  constructor
  · intro h y hy
    have := h _ (List.mem_map.mpr ⟨y, hy, rfl⟩)
    rw [badD_eq (hc y hy) (hx y hy)] at this
    simpa using this
  · intro h d hd
    obtain ⟨y, hy, rfl⟩ := List.mem_map.mp hd
    rw [badD_eq (hc y hy) (hx y hy), h y hy]
    simp
def noneAt (held : List D) : D → Bool
  | .num c => decide (getD' held c.toNat = .none)
  | _ => false
theorem src_d {held : List D} {s : List Nat} : decide ((((s.map nm).filter (noneAt held)).map fun d => d) = []) = !(s.any fun i => decide (getD' held i = .none)) := by
  rw [List.map_id', Bool.eq_iff_iff, decide_eq_true_iff, List.filter_eq_nil_iff, Bool.not_eq_true', List.any_eq_false]
  constructor
  · intro h i hi
    have := h _ (List.mem_map.mpr ⟨i, hi, rfl⟩)
    simpa [noneAt] using this
  · intro h d hd
    obtain ⟨i, hi, rfl⟩ := List.mem_map.mp hd
    have := h i hi
    simpa [noneAt] using this
end LX

set_option maxRecDepth 100000
set_option maxHeartbeats 8000000
namespace LX
open PySem PySem.Spec PyProof.Rows L2 MDict GxR GQ
section
variable {P : Program} {w : World} {K : PySem.W.Frag} {mg : Str → Option Value} {base : Heap} {T : List Addr}
/-- seen: its keys -/
abbrev FSeen (found : List (List D × List Ln)) (kvs : List (D × V)) : Prop := FRel (fun h => NestedKey.tup h) (fun _ _ => True) found kvs
theorem tup_inj : ∀ a b : List D, NestedKey.tup a = .tup b → a = b := fun _ _ e => NestedKey.tup.inj e
/-- the layer's middle: what is kept of the work -/
structure MidW (w : World) (x : FArg) (ds la lg : Addr) (vla : List V) (Hb H' : Hp) (d : Nat) (found : List (List D × List Ln)) (layer : List (List D)) (st : List (List D × List Ln) × List (List D)) : Prop where
  gm : Gm ds Hb H'
  mid : Lost.Mid (nextL (partsW x.ws)) (movesOf x.n x.fs x.b) (startL (partsW x.ws) x.n) d found st
  seen : ∃ kvs, MAt w H' ds kvs ∧ FSeen st.1 kvs
  lat : ∃ us, H' lg = some (.lst us) ∧ KeyAll H' (st.2.map fun h => .tup h) us
  lay : H' la = some (.lst vla) ∧ KeyAll H' (layer.map fun h => .tup h) vla
theorem MidW.gx {x : FArg} {ds la lg : Addr} {vla : List V} {Hb H' H'' : Hp} {d : Nat} {found : List (List D × List Ln)} {layer : List (List D)} {st : List (List D × List Ln) × List (List D)} (m : MidW w x ds la lg vla Hb H' d found layer st) (e : Gx H' H'') : MidW w x ds la lg vla Hb H'' d found layer st := by
  obtain ⟨kvs, m1, m2⟩ := m.seen
  obtain ⟨us, l1, l2⟩ := m.lat
  exact ⟨m.gm.trans e.gm, m.mid, ⟨kvs, e.map m1, m2⟩, ⟨us, e.kp lg _ l1 (fun _ z => by cases z), mono_all e l2⟩, e.kp la _ m.lay.1 (fun _ z => by cases z), mono_all e m.lay.2⟩
theorem keyTup (h : List D) : (∃ i, NestedKey.tup h = .num i) ∨ ∃ ks, NestedKey.tup h = .tup ks := .inr ⟨h, rfl⟩
/-- one line's turn -/
theorem few_line {x : FArg} (ok : FOk x) {ds la lg : Addr} {vla : List V} {Hb H H' : Hp} {d : Nat} {found : List (List D × List Ln)} {layer : List (List D)} {st : List (List D × List Ln) × List (List D)} {held : List D} {l : Ln} {ps : List D} {lp : Addr} {Dn : Ends}
    {o4 o5 o8 o12 o13 o14 o15 : Option V} {w1 w2 w3 hv lv : V}
    (hT : TabsG T H) (hH : Gm ds H Hb) (hps : PL ps (.ref lp) Hb) (hpm : ∀ y, y ∈ ps ↔ y ∈ partsW x.ws) (nds : ds ≠ lg) (nlp : lp ≠ ds) (nlg : Hb lg = none) (nla : la ≠ lg) (nla2 : la ≠ ds) (hsd : StL (partsW x.ws) x.n held) (hl : l ∈ movesOf x.n x.fs x.b)
    (hh : held ∈ found.map (·.1)) (hd : (Lost.pathOf found held).length = d) (M : MidW w x ds la lg vla Hb H' d found layer st) (hhv : KeyH H' (.tup held) hv) (hlv : KeyH H' l.d lv)
    (hU : ∀ {f : List (List D × List Ln)}, Lost.Good (nextL (partsW x.ws)) (movesOf x.n x.fs x.b) (startL (partsW x.ws) x.n) f → f.length ≤ 1331)
    (k : ∀ H'' o13 o15, Gm ds H' H'' ∨ True → Tk H' H'' → MidW w x ds la lg vla Hb H'' d found layer (Lost.addOne (nextL (partsW x.ws)) held st l) →
      Dn.nx [some w1, some w2, some w3, some (.ref lp), o4, o5, some (.ref ds), some (.ref la), o8, some (.ref lg), some hv, some lv, o12, o13, o14, o15] H'') :
    tIfS (tTest (tOp (rEqD K) (tLc (iTup K (tOp (rIxT K) (tVar 11) (tC (.int 2)))) (gName 15) (tB (tIsN (tOp (rIxT K) (tVar 10) (tVar 15)))) (tVar 15) [15]) (tLst tNil))) (tSeq (tAsg (tCall (sp_law_did T) [] E0 (tCons (tVar 10) (tCons (tVar 11) tNil))) (gName 13))
      (tIfS (tAnd (tTest (tOp (rInD K) (tOp (rIxT K) (tVar 13) (tOp (rIxT K) (tVar 11) (tC (.int 0)))) (tVar 3))) (tB (tMNotIn w (tVar 13) (tVar 6)))) (tSeq (sMPut w (tVar 6) (tVar 13) (tC (.bl true)))
      (tDrop (tBM K "list" rAppend (tVar 9) (tCons (tVar 13) tNil)))) tNext)) tNext Dn
      [some w1, some w2, some w3, some (.ref lp), o4, o5, some (.ref ds), some (.ref la), o8, some (.ref lg), some hv, some lv, o12, o13, o14, o15] H' := by
  have hin := lnIn_moves ok.m.r hl
  have n3 := ok.m.n3
  have hlen := hsd.len
  have depP : ∀ y ∈ partsW x.ws, wfS y = true ∧ y.depth ≤ 6 := fun y hy => by
    obtain ⟨z, hz, hp⟩ := partsW_mem.mp hy
    have h2 := ok.w.wf z hz
    have h3 := parts_wf z.2 y h2.1 hp
    exact ⟨h3.1, by omega⟩
  have dh : ∀ y ∈ held, y.depth ≤ 6 := fun y hy => (hsd.all y hy).elim (fun e => by rw [e]; exact Nat.zero_le _) fun h => (depP y h).2
  refine s_if (b := !(l.s.any fun i => decide (getD' held i = .none))) (et_is (et_test (ev_eqL (ks := ((l.s.map nm).filter (noneAt held)).map fun d => d) (ls := []) (el_lcT (ev_ix2 (b := nm l.c) (c := fD l.f) (ds := []) (ev_var (P := PD l.d) hlv rfl)) (by have := hin.two; simp; omega) fun y xv H1 e1 hm hx => ?_).ev ev_nilL ?_ (by simp))) src_d) (fun hb H1 e1 => ?_) fun hb H1 e1 => ?_
  · obtain ⟨i, hi, rfl⟩ := List.mem_map.mp hm
    have hi' := hin.s i hi
    refine ⟨_, tg_name, rfl, ?_, fun _ => ev_var (P := PD (nm i)) hx rfl⟩
    show EvT _ _ _ (decide (getD' held ((i : Int)).toNat = .none))
    rw [Int.toNat_natCast]
    exact et_B (ev_isN (ev_ixN (n := i) (ev_var (P := PD (.tup held)) (mono_d e1 hhv) rfl) (ev_var (P := PD (nm i)) hx rfl) (getD_get (by rw [hlen]; exact hi'))))
  · intro y hy
    rw [List.map_id'] at hy
    obtain ⟨i, _, rfl⟩ := List.mem_map.mp (List.mem_filter.mp hy).1
    exact Nat.zero_le _
  · have hany : (l.s.any fun i => decide (getD' held i = .none)) = false := by simpa using hb
    refine q_asg (ev_call (held, l) (((hT.gm hH).gm M.gm).mono e1) (ea_cons (ev_var (P := PD (.tup held)) (mono_d e1 hhv) rfl) (ea_cons (ev_var (P := PD l.d) (mono_d e1 hlv) rfl) ea_nil)) ⟨by rw [hlen]; exact hin, by rw [hlen]; omega⟩) fun av H2 e2 hav => ?_
    have hav : KeyH H2 (.tup (did held l)) av := hav
    have M2 := M.gx (e1.trans e2)
    have hps2 : PL ps (.ref lp) H2 := by
      obtain ⟨l', vs, e, h1, h2⟩ := hps
      cases e
      exact ⟨lp, vs, rfl, M2.gm.lst nlp h1, M2.gm.tk.all h2⟩
    have hget : (did held l)[l.c]? = some (newT held l) := by
      unfold did
      rw [List.getElem?_set_self (by rw [hlen]; exact hin.c)]
    have hdT : (newT held l).depth ≤ 8 := by
      have hd0 := depths_le dh
      cases hf : l.f with
      | none =>
        unfold newT
        rw [hf]
        cases hs : l.s with
        | nil => exact absurd hs hin.ne
        | cons a r =>
          have := dh _ (getD_mem (held := held) (i := a) (by rw [hlen]; exact hin.s a (by rw [hs]; exact List.mem_cons_self)))
          show (getD' held a).depth ≤ 8
          omega
      | some f =>
        unfold newT
        rw [hf]
        show (NestedKey.tup (.num _ :: l.s.map (getD' held))).depth ≤ _
        rw [depth_tup]
        have : NestedKey.depthAll (l.s.map (getD' held)) ≤ 6 := depths_le fun k hk => by
          obtain ⟨b, hb, rfl⟩ := List.mem_map.mp hk
          exact dh _ (getD_mem (by rw [hlen]; exact hin.s b hb))
        omega
    obtain ⟨kvs, mk, fk⟩ := M2.seen
    have hnx : nextL (partsW x.ws) held l = if newT held l ∈ partsW x.ws then some (did held l) else none := by
      unfold nextL
      rw [hany]
      simp
    refine s_if (b := decide (newT held l ∈ partsW x.ws) && !decide (did held l ∈ st.1.map (·.1))) (et_and (et_is (et_test (ev_inD (ks := ps) (ev_ixN (n := l.c) (ev_var (P := PD (.tup (did held l))) hav rfl) (ev_ix0 (d := nm l.c) (ds := [fD l.f, .tup (l.s.map nm)]) (ev_var (P := PD l.d) (mono_d (e1.trans e2) hlv) rfl)) hget) (ev_var (P := PL ps) hps2 rfl) (by omega) fun y hy => by have := (depP y ((hpm y).mp hy)).2; omega)) (decide_eq_decide.mpr (hpm _))) fun hm => ?_) (fun hb2 H3 e3 => ?_) fun hb2 H3 e3 => ?_
    · refine et_B (ev_isB (ev_mnin (k := .tup (did held l)) (ev_var (P := PD (.tup (did held l))) hav rfl) (ev_var (P := PM w kvs) ⟨ds, rfl, mk⟩ rfl) ?_ (keyTup _)) (congrArg (fun z => !z) ((frel_in tup_inj fk (did held l)).trans (decide_eq_decide.mpr Iff.rfl))))
      have hm := of_decide_eq_true hm
      show NestedKey.depthAll (did held l) + 1 ≤ 8
      have : NestedKey.depthAll (did held l) ≤ 6 := depths_le fun k hk => by
        rcases List.mem_or_eq_of_mem_set hk with h1 | rfl
        · exact dh k h1
        · exact (depP _ hm).2
      omega
    · rw [Bool.and_eq_true] at hb2
      have hm := of_decide_eq_true hb2.1
      have hnew : did held l ∉ st.1.map (·.1) := by simpa using hb2.2
      have hadd : Lost.addOne (nextL (partsW x.ws)) held st l = (st.1 ++ [(did held l, Lost.pathOf st.1 held ++ [l])], st.2 ++ [did held l]) := by
        unfold Lost.addOne
        rw [hnx, if_pos hm]
        simp only []
        rw [if_neg hnew]
      have mid' := Lost.mid_one (l := l) hl hh hd M.mid
      have M3 := M2.gx e3
      obtain ⟨kvs, mk, fk⟩ := M3.seen
      have hkl : kvs.length ≤ 1331 := by rw [frel_len fk]; exact hU M.mid.good
      have dk : (NestedKey.tup (did held l)).depth ≤ 8 := by
        show NestedKey.depthAll (did held l) + 1 ≤ 8
        have : NestedKey.depthAll (did held l) ≤ 6 := depths_le fun k hk => by
          rcases List.mem_or_eq_of_mem_set hk with h1 | rfl
          · exact dh k h1
          · exact (depP _ hm).2
        omega
      refine s_mput (P := PB true) (kvs := kvs) (k := .tup (did held l)) (ev_var (P := PV (.ref ds)) rfl rfl) mk (ev_var (P := PD (.tup (did held l))) (mono_d e3 hav) rfl) dk (keyTup _) (by omega) ev_bl (fun _ h => h) fun v φ H4 e4 hv4 m4 ⟨φ0, h0⟩ => ?_
      have hv4 : v = .bl true := hv4
      have M4 := M3.gx e4
      have g5 : Gm ds H4 (upd H4 ds (.ext φ)) := Gm.updE h0
      obtain ⟨us, lu1, lu2⟩ := M4.lat
      have lu3 := g5.lst (Ne.symm nds) lu1
      have lay3 := g5.lst nla2 M4.lay.1
      have lay4 := g5.tk.all M4.lay.2
      have gm5 := M4.gm.trans g5
      have lu4 := g5.tk.all lu2
      have hav5 := g5.tk.d (mono_d e4 (mono_d e3 hav))
      have tk5 : Tk H' (upd H4 ds (.ext φ)) := (((e1.trans e2).trans e3).trans e4).tk.trans g5.tk
      have fk5 := frel_put tup_inj fk (v := v) (p := Lost.pathOf st.1 held ++ [l]) hnew trivial
      generalize upd H4 ds (.ext φ) = H5 at g5 lu3 lay3 lay4 gm5 lu4 hav5 m4 tk5
      have hul : us.length ≤ 1331 := by
        rw [ka_len lu4, List.length_map]
        obtain ⟨gg, a1, a2, _⟩ := M.mid.app
        have := hU M.mid.good
        rw [a1, List.length_append] at this
        rw [← a2, List.length_map]
        omega
      refine s_app (d := .tup (did held l)) (ev_var (P := PV (.ref lg)) rfl rfl) lu3 (ev_var (P := PD (.tup (did held l))) hav5 rfl) (by omega) fun v6 H6 e6 hv6 => ?_
      have lu6 := e6.kp lg _ lu3 (fun _ z => by cases z)
      have g7 : Gm lg H6 (upd H6 lg (.lst (us ++ [v6]))) := Gm.updL lu6
      refine k _ _ _ (.inr trivial) ((tk5.trans e6.tk).trans g7.tk) ?_
      rw [hadd]
      refine ⟨(gm5.trans e6.gm).mut nlg, ?_, ⟨_, g7.map nds (e6.map m4), fk5⟩, ⟨us ++ [v6], upd_same, ?_⟩, g7.lst nla (e6.kp la _ lay3 (fun _ z => by cases z)), g7.tk.all (mono_all e6 lay4)⟩
      · rw [← hadd]; exact mid'
      · rw [List.map_append]
        exact ka_app (g7.tk.all (mono_all e6 lu4)) (ka_one (g7.tk.d hv6))
    · have hadd : Lost.addOne (nextL (partsW x.ws)) held st l = st := by
        unfold Lost.addOne
        rw [hnx]
        by_cases hm : newT held l ∈ partsW x.ws
        · rw [if_pos hm]
          simp only []
          have : did held l ∈ st.1.map (·.1) := Decidable.byContradiction fun z => by rw [decide_eq_true hm, decide_eq_false z] at hb2; cases hb2
          rw [if_pos this]
        · rw [if_neg hm]
      refine k _ _ _ (.inr trivial) ((e1.trans e2).trans e3).tk ?_
      rw [hadd]
      exact M2.gx e3
  · have hany : (l.s.any fun i => decide (getD' held i = .none)) = true := by
      cases q : (l.s.any fun i => decide (getD' held i = .none)) with
      | true => rfl
      | false => rw [q] at hb; cases hb
    have hadd : Lost.addOne (nextL (partsW x.ws)) held st l = st := by
      unfold Lost.addOne nextL
      rw [hany]
      rfl
    refine k _ _ _ (.inr trivial) e1.tk ?_
    rw [hadd]
    exact M.gx e1
end
end LX

set_option maxRecDepth 100000
set_option maxHeartbeats 8000000
namespace LX
open PySem PySem.Spec PyProof.Rows L2 MDict GxR GQ
section
variable {P : Program} {w : World} {K : PySem.W.Frag} {mg : Str → Option Value} {base : Heap} {T : List Addr}
theorem find_none_take {α : Type} {p : α → Bool} {l : List α} {i : Nat} {x : α} (hi : l[i]? = some x) (h : ∀ y ∈ l.take i, p y = false) (hx : p x = true) : l.find? p = some x := by
  have e : l = l.take i ++ x :: l.drop (i + 1) := by
    have h5 := List.getElem?_eq_some_iff.mp hi
    conv => lhs; rw [← List.take_append_drop i l, List.drop_eq_getElem_cons h5.1, h5.2]
  rw [e, List.find?_append]
  have : (l.take i).find? p = none := List.find?_eq_none.mpr fun y hy => by rw [h y hy]; exact Bool.false_ne_true
  rw [this, List.find?_cons, hx]
  rfl
theorem s_par2 {σ : L2.St} {H : Hp} {Dn : Ends} {i j : Nat} {ta : TA} {P R : V → Hp → Prop} (h : EvA ta σ H [P, R]) (k : ∀ v u H1, Gx H H1 → P v H1 → R u H1 → Dn.nx ((σ.set i (some v)).set j (some u)) H1) : tPar i j ta Dn σ H := h H (Gx.refl H) _ fun vs H1 e hv => by
  obtain ⟨v, _, rfl, h1, u, _, rfl, h2, rfl⟩ := hv
  exact ⟨v, u, rfl, k v u H1 e h1 h2⟩
theorem pure_law_fewest : ∀ vs H Q E, sp_law_fewest T vs H Q E → D_law_fewest.t K w (sp_law_parts T) (sp_all_lines T) (sp_law_did T) { nx := fun _ H' => Q .non H', rt := Q } (start D_law_fewest.N vs) H := by
  rintro vs H Q E ⟨hT, x, ok, ⟨v1, _, rfl, h1, v2, _, rfl, h2, v3, _, rfl, h3, rfl⟩, k⟩
  have h1 : KeyH H (mD x.n x.fs) v1 := h1
  have h2 : KeyH H (.tup (x.ws.map wishD)) v2 := h2
  have h3 : v3 = .bl x.b := h3
  subst h3
  have n3 := ok.m.n3; have f2 := ok.m.f2
  have depP : ∀ y ∈ partsW x.ws, wfS y = true ∧ y.depth ≤ 6 := fun y hy => by
    obtain ⟨z, hz, hp⟩ := partsW_mem.mp hy
    have h2 := ok.w.wf z hz
    have h3 := parts_wf z.2 y h2.1 hp
    exact ⟨h3.1, by omega⟩
  have noneP : NestedKey.none ∉ partsW x.ws := fun z => by have := (depP _ z).1; simp [wfS] at this
  -- parts
  refine q_asg (ev_call x.ws hT (ea_cons (ev_var (P := PD (wsD x.ws)) h2 rfl) ea_nil) ok.w) fun pv H1 e1 hpv => ?_
  obtain ⟨ps, hps, hnd, hpm⟩ := hpv
  obtain ⟨lp, vps, rfl, hlp, hvps⟩ := id hps
  -- the first state
  refine q_asg (P := PD (.tup (startL (partsW x.ws) x.n))) ?_ fun fv H2 e2 hfv => ?_
  · refine ev_tupOf ?_
    have e : startL (partsW x.ws) x.n = ((rgD x.n).filter fun _ => true).map fun d => if d ∈ partsW x.ws then d else .none := by rw [List.filter_eq_self.mpr fun _ _ => rfl]; rfl
    rw [e]
    refine (el_lcR (ev_ix0 (d := nm x.n) (ev_var (P := PD (mD x.n x.fs)) (mono_d e1 h1) rfl)) (by omega) fun d xv H3 e3 hm hx => ?_).ev
    obtain ⟨i, _, rfl⟩ := List.mem_map.mp hm
    refine ⟨_, tg_name, rfl, et_yes, fun _ => ?_⟩
    refine ev_if (b := decide (nm i ∈ partsW x.ws)) (et_is (et_test (ev_inD (ks := ps) (ev_var (P := PD (nm i)) hx rfl) (ev_var (P := PL ps) (Mono.mono e3 hps) rfl) (Nat.zero_le _) fun y hy => by have := (depP y ((hpm y).mp hy)).2; omega)) (decide_eq_decide.mpr (hpm _))) (fun hb => ?_) fun hb => ?_
    · exact ev_isD (ev_var (P := PD (nm i)) hx rfl) (by rw [if_pos (of_decide_eq_true hb)])
    · exact ev_isD ev_non (by rw [if_neg (of_decide_eq_false hb)])
  -- seen, last, many
  have sdep : (NestedKey.tup (startL (partsW x.ws) x.n)).depth ≤ 8 := by
    show NestedKey.depthAll _ + 1 ≤ 8
    have : NestedKey.depthAll (startL (partsW x.ws) x.n) ≤ 6 := depths_le fun y hy => ((stl_start (partsW x.ws) x.n).all y hy).elim (fun e => by rw [e]; exact Nat.zero_le _) fun h => (depP y h).2
    omega
  refine q_par3 (ev_mone (P := PB true) (fun _ h => h) (ev_var (P := PD (.tup (startL (partsW x.ws) x.n))) hfv rfl) sdep (keyTup _) ev_bl H2 (Gx.refl H2) _ fun ds z H3 hds e3 m3 hz => ?_)
  have hz : z = .bl true := hz
  subst hz
  refine (el_lst (ds := [.tup (startL (partsW x.ws) x.n)]) (ea_cons (ev_var (P := PD (.tup (startL (partsW x.ws) x.n))) (mono_d e3 hfv) rfl) ea_nil) (by simp)) H3 (Gx.refl H3) _ fun la vla H4 hla e4 hla4 hvla => ⟨_, _, _, rfl, ?_⟩
  -- lines
  refine q_asgL (ds := (movesOf x.n x.fs x.b).map Ln.d) ?_ fun ln vln H5 hln e5 hln5 hvln => ?_
  · rw [moves_d]
    have g14 := ((e1.trans e2).trans e3).trans e4
    refine el_lcL (ev_call (x.n, x.fs) (hT.mono g14) (ea_cons (ev_var (P := PD (mD x.n x.fs)) (mono_d g14 h1) rfl) ea_nil) ok.m) ?_ fun d xv H6 e6 hm hx => ?_
    · rw [List.length_map]
      unfold allLines
      refine Nat.le_trans (flat_le (B := 21) fun c _ => linesOf_le n3 f2) ?_
      rw [List.length_range]; omega
    · obtain ⟨l, hl, rfl⟩ := List.mem_map.mp hm
      refine ⟨_, tg_name, rfl, ?_, fun _ => ev_var hx rfl⟩
      rw [softD_eq]
      exact et_or (et_test (ev_soft (ev_var (P := PD l.d) hx rfl))) fun _ => et_not (et_B (ev_var (P := PB x.b) rfl rfl))
  have gH5 := (((e1.trans e2).trans e3).trans e4).trans e5
  have m5 := e5.map (e4.map m3)
  have hla5 := e5.kp la _ hla4 (fun _ z => by cases z)
  have hps5 : PL ps (.ref lp) H5 := Mono.mono (((e2.trans e3).trans e4).trans e5) hps
  have hlp5 : H5 lp = some (.lst vps) := (((e2.trans e3).trans e4).trans e5).kp lp _ hlp (fun _ z => by cases z)
  have nlp : lp ≠ ds := fun z => dict_ne_lst m5 hlp5 z.symm
  have nln : ln ≠ ds := fun z => dict_ne_lst m5 hln5 z.symm
  have nla : la ≠ ds := fun z => dict_ne_lst m5 hla5 z.symm
  have hU0 : ∀ {f : List (List D × List Ln)}, Lost.Good (nextL (partsW x.ws)) (movesOf x.n x.fs x.b) (startL (partsW x.ws) x.n) f → (f.map (·.1)).length ≤ (allOf (NestedKey.none :: partsW x.ws) x.n).length := fun {f} hg =>
    Lost.nodup_le hg.nd fun s hs => by
      obtain ⟨e, he, rfl⟩ := List.mem_map.mp hs
      exact Lost.path_in univL.1 closedL (hg.path e he)
  have hUl : (allOf (NestedKey.none :: partsW x.ws) x.n).length ≤ 1331 := by
    rw [allOf_len]
    exact pow3 (by have := ok.few; simp; omega) n3
  have hU : ∀ {f : List (List D × List Ln)}, Lost.Good (nextL (partsW x.ws)) (movesOf x.n x.fs x.b) (startL (partsW x.ws) x.n) f → f.length ≤ 1331 := fun {f} hg => by
    have := hU0 hg
    rw [List.length_map] at this
    omega
  -- the layers
  refine q_while (fun m σ' H' => (∃ d found layer la vla kvs x9 x10 x11 x12 x13 x14 x15, σ' = [some v1, some v2, some (.bl x.b), some (.ref lp), some fv, some (.ref ln), some (.ref ds), some (.ref la), some (.int ((d : Nat) : Int)), x9, x10, x11, x12, x13, x14, x15] ∧
      Lost.Turn (nextL (partsW x.ws)) (movesOf x.n x.fs x.b) (goalL x.ws) (startL (partsW x.ws) x.n) d found layer ∧ m = 1332 - d ∧ MAt w H' ds kvs ∧ FSeen found kvs ∧ la ≠ ds ∧ H' la = some (.lst vla) ∧ KeyAll H' (layer.map fun h => .tup h) vla) ∧ Gm ds H5 H') 1332
    ⟨⟨0, [(startL (partsW x.ws) x.n, [])], [startL (partsW x.ws) x.n], la, vla, _, _, _, _, _, _, _, _, rfl, Lost.turn0, rfl, m5, .cons ⟨rfl, trivial⟩ .nil, nla, hla5, mono_all e5 hvla⟩, (Gx.refl H5).gm⟩ fun m σ' H' hw => ?_
  obtain ⟨⟨d, found, layer, la, vla, kvs, x9, x10, x11, x12, x13, x14, x15, rfl, tn, rfl, mk, fk, nla, hla, hvla⟩, g⟩ := hw
  have bnd := Lost.Turn.bound univL.1 closedL tn
  have lenv : vla.length = layer.length := by rw [ka_len hvla, List.length_map]
  have hstl : ∀ h ∈ layer, StL (partsW x.ws) x.n h := fun h hh => by
    obtain ⟨hm, _⟩ := tn.lens h hh
    obtain ⟨e, he, rfl⟩ := List.mem_map.mp hm
    exact stl_of_mem (Lost.path_in univL.1 closedL (tn.good.path e he))
  have ldep : ∀ y ∈ layer.map fun h => NestedKey.tup h, y.depth ≤ 59 := fun y hy => by
    obtain ⟨h, hh, rfl⟩ := List.mem_map.mp hy
    show NestedKey.depthAll h + 1 ≤ 59
    have : NestedKey.depthAll h ≤ 6 := depths_le fun y hy => ((hstl h hh).all y hy).elim (fun e => by rw [e]; exact Nat.zero_le _) fun h => (depP y h).2
    omega
  refine ⟨_, et_test (ev_neL (ks := layer.map fun h => .tup h) (ls := []) (ev_var (P := PL _) ⟨la, vla, rfl, hla, hvla⟩ rfl) ev_nilL ldep (by simp)), fun hb H6 e6 => ?_, fun hb H6 e6 => ?_⟩
  · have hne : layer ≠ [] := fun z => by simp [z] at hb
    have hpos : 0 < layer.length := List.length_pos_iff.mpr hne
    refine ⟨fun σ2 H2 => (∃ d' found layer la vla kvs x9 x10 x11 x12 x13 x14 x15, σ2 = [some v1, some v2, some (.bl x.b), some (.ref lp), some fv, some (.ref ln), some (.ref ds), some (.ref la), some (.int ((d' : Nat) : Int)), x9, x10, x11, x12, x13, x14, x15] ∧
      Lost.Turn (nextL (partsW x.ws)) (movesOf x.n x.fs x.b) (goalL x.ws) (startL (partsW x.ws) x.n) d' found layer ∧ d' = d + 1 ∧ MAt w H2 ds kvs ∧ FSeen found kvs ∧ la ≠ ds ∧ H2 la = some (.lst vla) ∧ KeyAll H2 (layer.map fun h => .tup h) vla) ∧ Gm ds H5 H2, fun σ2 H2 hN => ?_, ?_⟩
    · obtain ⟨⟨d', found, layer, la, vla, kvs, x9, x10, x11, x12, x13, x14, x15, e, tn, rfl, a1, a2, a3, a4, a5⟩, g2⟩ := hN
      exact ⟨1332 - (d + 1), by omega, ⟨d + 1, found, layer, la, vla, kvs, x9, x10, x11, x12, x13, x14, x15, e, tn, rfl, a1, a2, a3, a4, a5⟩, g2⟩
    refine q_asgL (ds := []) (el_lst ea_nil (by simp)) fun lg us0 H7 hlg e7 hlg7 hu0 => ?_
    have g7 := (g.trans e6.gm).trans e7.gm
    have nlg : H5 lg = none := g7.dm lg |> fun _ => (g.trans e6.gm).dm lg hlg
    have hla7 := e7.kp la _ (e6.kp la _ hla (fun _ z => by cases z)) (fun _ z => by cases z)
    have nlalg : la ≠ lg := fun z => by rw [← z, e6.kp la _ hla (fun _ z => by cases z)] at hlg; cases hlg
    have m7 := e7.map (e6.map mk)
    have ndslg : ds ≠ lg := dict_ne_lst m7 hlg7
    have hvla7 := mono_all e7 (mono_all e6 hvla)
    have mid0 : MidW w x ds la lg vla H5 H7 d found layer (found, []) := ⟨g7, ⟨tn.good, [], by simp, rfl, fun e he => by cases he⟩, ⟨kvs, m7, fk⟩, ⟨us0, hlg7, hu0⟩, hla7, hvla7⟩
    have hlnA : ∀ {H''}, Gm ds H5 H'' → H'' ln = some (.lst vln) ∧ KeyAll H'' ((movesOf x.n x.fs x.b).map Ln.d) vln := fun {H''} gg => ⟨gg.lst nln hln5, gg.tk.all hvln⟩
    let stAt : Nat → List (List D × List Ln) × List (List D) := fun i => (layer.take i).foldl (Lost.addAll (nextL (partsW x.ws)) (movesOf x.n x.fs x.b)) (found, [])
    have fmany : ∀ {H'' : Hp} {dv : V} {o9 o10 o11 o12 o13 o14 o15 : Option V}, True := fun {_ _ _ _ _ _ _ _ _} => trivial
    refine (show tSeq (tFor _ _ _) _ _ _ H7 from s_forL (ds := layer.map fun h => .tup h) (l := la) (vs := vla) (Dn := { nx := _, rt := Q, bk := _, ct := _ }) (ev_var (P := PV (.ref la)) rfl rfl) hla7 hvla7
      (fun i σ' H'' => (∃ x10 x11 x12 x13 x14 x15, σ' = [some v1, some v2, some (.bl x.b), some (.ref lp), some fv, some (.ref ln), some (.ref ds), some (.ref la), some (.int ((d : Nat) : Int)), some (.ref lg), x10, x11, x12, x13, x14, x15]) ∧ Tk H7 H'' ∧ MidW w x ds la lg vla H5 H'' d found layer (stAt i) ∧ ∀ h ∈ layer.take i, goalL x.ws h = false)
      (fun H8 e8 => ⟨⟨_, _, _, _, _, _, rfl⟩, e8.tk, mid0.gx e8, fun h hh => by simp at hh⟩) (fun i σ' H'' p => ⟨p.2.1, p.2.2.1.lay.1⟩) (fun i hd xv σ' H'' hi p hx => ?_) (fun σ' H'' p => ?_))
    · obtain ⟨⟨x10, x11, x12, x13, x14, x15, rfl⟩, tk, M, hno⟩ := p
      rw [List.getElem?_map] at hi
      cases hh : layer[i]? with
      | none => rw [hh] at hi; cases hi
      | some held =>
      rw [hh] at hi
      cases hi
      have hhm := List.mem_of_getElem? hh
      have hsd := hstl held hhm
      have hlen := hsd.len
      obtain ⟨hfd, hpl⟩ := tn.lens held hhm
      have hcell : ∀ y ∈ x.ws, y.1 < held.length := fun y hy => by rw [hlen]; exact ok.c y hy
      have hnn : ∀ y ∈ x.ws, y.2 ≠ .none := fun y hy z => by have := (ok.w.wf y hy).1; rw [z] at this; simp [wfS] at this
      have dhd : ∀ i, i < held.length → (getD' held i).depth ≤ 6 := fun i hi => ((hsd.all _ (getD_mem hi)).elim (fun e => by rw [e]; exact Nat.zero_le _) fun h => (depP _ h).2)
      have h28 : KeyH H'' (.tup (x.ws.map wishD)) v2 := M.gm.tk.d (mono_d gH5 h2)
      refine q_if (b := goalL x.ws held) (et_is (et_test (ev_eqL (ks := ((x.ws.map wishD).filter (badD held)).map fun _ => NestedKey.num 1) (ls := []) (el_lcT (ev_var (P := PD (.tup (x.ws.map wishD))) h28 rfl) (by rw [List.length_map]; have := ok.w.len; omega) fun dd xv2 H9 e9 hm hx9 => ?_).ev ev_nilL ?_ (by simp))) (goal_d hcell hnn)) (fun hb9 H9 e9 => ?_) fun hb9 H9 e9 => ?_
      · obtain ⟨y, hy, rfl⟩ := List.mem_map.mp hm
        obtain ⟨vs, hvs, tg⟩ := tg_tup (K := K) (σ := wipe [some v1, some v2, some (.bl x.b), some (.ref lp), some fv, some (.ref ln), some (.ref ds), some (.ref la), some (.int ((d : Nat) : Int)), some (.ref lg), some xv, x11, x12, x13, x14, x15] [12, 14]) (is := [12, 14]) (n := 2) hx9 rfl rfl
        obtain ⟨ca, _, rfl, hc, ta, _, rfl, ht, rfl⟩ := hvs
        refine ⟨_, tg, rfl, ?_, fun _ => ev_int⟩
        show EvT _ _ _ (decide (getD' held ((y.1 : Int)).toNat = .none) || !decide (getD' held ((y.1 : Int)).toNat = y.2))
        rw [Int.toNat_natCast]
        have eg : ∀ {σx : L2.St}, σx[10]? = some (some xv) → σx[12]? = some (some ca) → Ev (tOp (rIxT K) (tVar 10) (tVar 12)) σx H9 (PD (getD' held y.1)) := fun {σx} a1 a2 => ev_ixN (n := y.1) (ev_var (P := PD (.tup held)) (mono_d e9 hx) a1) (ev_var (P := PD (nm y.1)) hc a2) (getD_get (hcell y hy))
        exact et_or (et_B (ev_isN (eg rfl rfl))) fun _ => et_test (ev_neD (eg rfl rfl) (ev_var (P := PD y.2) ht rfl) (by have := dhd y.1 (hcell y hy); omega) (by have := (ok.w.wf y hy).2; omega))
      · intro y hy
        obtain ⟨_, _, rfl⟩ := List.mem_map.mp hy
        exact Nat.zero_le _
      · have hf := find_none_take hh hno hb9
        obtain ⟨hL, hlenp⟩ := tn.hit hf
        have gE : Gx H H9 := Gm.gx (e1.trans e2) ((e1.trans e2).dm ds hds) ((((e3.trans e4).trans e5).gm.trans M.gm).trans e9.gm)
        refine s_ret (P := PD (nm d)) (ev_var (P := PD (nm d)) rfl rfl) fun v H10 e10 hv => k v H10 (gE.trans e10) ⟨_, hL, ?_⟩
        show KeyH H10 (nm (Lost.pathOf found held).length) v
        rw [hlenp]
        exact hv
      · have M9 := M.gx e9
        obtain ⟨hl1, hl2⟩ := hlnA M9.gm
        refine s_forL (ds := (movesOf x.n x.fs x.b).map Ln.d) (l := ln) (vs := vln) (ev_var (P := PV (.ref ln)) rfl rfl) hl1 hl2
          (fun j σ' H10 => (∃ x11 x12 x13 x14 x15, σ' = [some v1, some v2, some (.bl x.b), some (.ref lp), some fv, some (.ref ln), some (.ref ds), some (.ref la), some (.int ((d : Nat) : Int)), some (.ref lg), some xv, x11, x12, x13, x14, x15]) ∧ Tk H9 H10 ∧ MidW w x ds la lg vla H5 H10 d found layer (((movesOf x.n x.fs x.b).take j).foldl (Lost.addOne (nextL (partsW x.ws)) held) (stAt i)))
          (fun H10 e10 => ⟨⟨_, _, _, _, _, rfl⟩, e10.tk, M9.gx e10⟩) (fun j σ' H10 p => ⟨p.2.1, (hlnA p.2.2.gm).1⟩) (fun j ld xl σ' H10 hj p hxl => ?_) (fun σ' H10 p => ?_)
        · obtain ⟨⟨x11, x12, x13, x14, x15, rfl⟩, tk10, M10⟩ := p
          rw [List.getElem?_map] at hj
          cases hlj : (movesOf x.n x.fs x.b)[j]? with
          | none => rw [hlj] at hj; cases hj
          | some l =>
          rw [hlj] at hj
          cases hj
          refine few_line ok hT ((e1.trans e2).trans ((e3.trans e4).trans e5)).gm hps5 hpm ndslg nlp nlg nlalg nla hsd (List.mem_of_getElem? hlj) hfd hpl M10 (tk10.d (mono_d e9 hx)) hxl hU fun H11 o13 o15 _ tk11 M11 => ⟨⟨_, _, _, _, _, rfl⟩, tk10.trans tk11, ?_⟩
          rw [take_succ_of hlj, List.foldl_append]
          exact M11
        · obtain ⟨⟨x11, x12, x13, x14, x15, rfl⟩, tk10, M10⟩ := p
          rw [List.length_map, List.take_length] at M10
          refine ⟨⟨_, _, _, _, _, _, rfl⟩, (tk.trans e9.tk).trans tk10, ?_, fun h hh' => ?_⟩
          · show MidW w x ds la lg vla H5 H10 d found layer ((layer.take (i + 1)).foldl _ (found, []))
            rw [take_succ_of hh, List.foldl_append]
            exact M10
          · rw [take_succ_of hh] at hh'
            rcases List.mem_append.mp hh' with z | z
            · exact hno h z
            · rw [List.mem_singleton.mp z]; exact hb9
    · obtain ⟨⟨x10, x11, x12, x13, x14, x15, rfl⟩, tk, M, hno⟩ := p
      rw [List.length_map, List.take_length] at hno
      have hst : stAt layer.length = Lost.layerOf (nextL (partsW x.ws)) (movesOf x.n x.fs x.b) found layer := by
        show (layer.take layer.length).foldl _ _ = _
        rw [List.take_length]
        rfl
      rw [List.length_map, hst] at M
      have tn' := tn.succ (List.find?_eq_none.mpr fun y hy => by rw [hno y hy]; exact Bool.false_ne_true) hne
      refine s_par2 (P := PV (.ref lg)) (R := PD (nm (d + 1))) (ea_cons (ev_var (P := PV (.ref lg)) rfl rfl) (ea_cons (ev_isD (ev_add (ev_var (P := PD (nm d)) rfl rfl) ev_int) (by show NestedKey.num ((d : Int) + 1) = NestedKey.num ((d + 1 : Nat) : Int); congr 1)) ea_nil)) fun a b H8 e8 ha hb2 => ?_
      have ha : a = .ref lg := ha
      have hb2 : b = .int ((d + 1 : Nat) : Int) := hb2
      subst ha hb2
      have M8 := M.gx e8
      obtain ⟨kvs8, mk8, fk8⟩ := M8.seen
      obtain ⟨us8, l81, l82⟩ := M8.lat
      exact ⟨⟨d + 1, _, _, lg, us8, kvs8, _, _, _, _, _, _, _, rfl, tn', rfl, mk8, fk8, Ne.symm ndslg, l81, l82⟩, M8.gm⟩
  · have he : layer = [] := by simpa using hb
    subst he
    have gE : Gx H H6 := Gm.gx (e1.trans e2) ((e1.trans e2).dm ds hds) ((((e3.trans e4).trans e5).gm.trans g).trans e6.gm)
    exact s_ret (P := PD .none) ev_non fun v H10 e10 hv => k v H10 (gE.trans e10) ⟨none, tn.stop, hv⟩
theorem ok_law_fewest {f c : Addr} {k : Nat} (F : Df K "_law_fewest" "_law_fewest" D_law_fewest.st [] f c) (hm : mg "_law_fewest" = some (.ref f)) (B : Bi mg) (F1 : Fc P w K mg base CX0 k "_law_parts" [] (sp_law_parts T)) (F2 : Fc P w K mg base CX0 k "_law_every_line" [] (sp_all_lines T)) (F3 : Fc P w K mg base CX0 k "_law_did" [] (sp_law_did T)) : Fc P w K mg base CX0 (k + 1) "_law_fewest" [] (sp_law_fewest T) :=
  F.fc hm D_law_fewest.S (spP_len fun _ => rfl) (fun _ _ _ _ _ _ us hl => match us, hl with | [_, _, _], _ => rfl) fun cdv A outer s H vs Q E hc hr h => ⟨_, PSs.nox (D_law_fewest.d B hr F1 F2 F3), pure_law_fewest vs H Q E h⟩
end
end LX

set_option maxRecDepth 100000
set_option maxHeartbeats 8000000
namespace LX
open PySem PySem.Spec PyProof.Rows L2 MDict GxR GQ
/-! ### the program's search, in plain Lean -/
def idxI (ps : List D) (d : D) : Int := if d ∈ ps then (ps.idxOf d : Int) else -1
def getI (held : List Int) (i : Nat) : Int := held.getD i (-1)
def termI (ps : List D) (held : List Int) (i : Nat) : D := getD' ps (getI held i).toNat
def partI (ps : List D) (held : List Int) (l : Ln) : Int := match l.f with
  | none => getI held (l.s.headD 0)
  | some f => idxI ps (.tup (nm f :: l.s.map (termI ps held)))
def nextP (ps : List D) (held : List Int) (l : Ln) : Option (List Int) :=
  if l.s.any (fun i => decide (getI held i = -1)) then none else if partI ps held l = -1 ∨ partI ps held l = getI held l.c then none else some (held.set l.c (partI ps held l))
def numD (held : List Int) : D := .tup (held.map NestedKey.num)
def optI : Option (List Int) → D
  | none => .none
  | some h => numD h
structure SD where
  ps : List D
  goal : List (Nat × Nat)
  moves : List Ln
  start : List Int
def gD (x : Nat × Nat) : D := .tup [nm x.1, nm x.2]
def sdOf (x : FArg) : SD := ⟨partsW x.ws, x.ws.map fun y => (y.1, (partsW x.ws).idxOf y.2), movesOf x.n x.fs x.b, (List.range x.n).map fun i => idxI (partsW x.ws) (nm i)⟩
theorem lkH {k : Str} {v : V} {r : List (Str × V)} : List.lookup k ((k, v) :: r) = some v := by
  have e : (k == k) = true := beq_self_eq_true k
  simp only [List.lookup, e]
theorem lkP {k g : Str} {v : V} {r : List (Str × V)} (h : (k == g) = false) : List.lookup k ((g, v) :: r) = List.lookup k r := by simp only [List.lookup, h]
theorem ptP {f g : Str} {v x : V} {r : List (Str × V)} (h : ¬ g = f) : putF f v ((g, x) :: r) = (g, x) :: putF f v r := if_neg h
/-- what the top has written of the class -/
structure Sc (K : PySem.W.Frag) (C fI fB fS : Addr) : Prop where
  cl : Cls K C
  n1 : NoAttr K C "parts"
  n2 : NoAttr K C "terms"
  n3 : NoAttr K C "goal"
  n4 : NoAttr K C "moves"
  n5 : NoAttr K C "start"
  mI : Mk K C fI
  mB : Meth K C "behind" fB
  mS : Meth K C "shortest" fS
def fsS (a b c d e : V) : List (Str × V) := [("parts", a), ("terms", b), ("goal", c), ("moves", d), ("start", e)]
theorem fs1 {a b c d e : V} : (fsS a b c d e).lookup ("parts" : Str) = some a := lkH
theorem fs2 {a b c d e : V} : (fsS a b c d e).lookup ("terms" : Str) = some b := (lkP (by decide +kernel)).trans lkH
theorem fs3 {a b c d e : V} : (fsS a b c d e).lookup ("goal" : Str) = some c := (lkP (by decide +kernel)).trans ((lkP (by decide +kernel)).trans lkH)
theorem fs4 {a b c d e : V} : (fsS a b c d e).lookup ("moves" : Str) = some d := (lkP (by decide +kernel)).trans ((lkP (by decide +kernel)).trans ((lkP (by decide +kernel)).trans lkH))
theorem fs5 {a b c d e : V} : (fsS a b c d e).lookup ("start" : Str) = some e := (lkP (by decide +kernel)).trans ((lkP (by decide +kernel)).trans ((lkP (by decide +kernel)).trans ((lkP (by decide +kernel)).trans lkH)))
theorem fsN {m : Str} {a b c d e : V} (h1 : (m == ("parts" : Str)) = false) (h2 : (m == ("terms" : Str)) = false) (h3 : (m == ("goal" : Str)) = false) (h4 : (m == ("moves" : Str)) = false) (h5 : (m == ("start" : Str)) = false) : (fsS a b c d e).lookup m = none :=
  (lkP h1).trans ((lkP h2).trans ((lkP h3).trans ((lkP h4).trans ((lkP h5).trans rfl))))
/-- a Search with this content -/
def PSr (w : World) (C : Addr) (sd : SD) : V → Hp → Prop := fun v H => ∃ s dx a b c d e, v = .ref s ∧ H s = some (.ins C dx (fsS a b c d e)) ∧ PM w (numb sd.ps) a H ∧ PL sd.ps b H ∧ PL (sd.goal.map gD) c H ∧ PL (sd.moves.map Ln.d) d H ∧ KeyH H (numD sd.start) e
instance {w : World} {C : Addr} {sd : SD} : Mono (PSr w C sd) := ⟨fun g ⟨s, dx, a, b, c, d, e, h0, h1, h2, h3, h4, h5, h6⟩ => ⟨s, dx, a, b, c, d, e, h0, g.kp s _ h1 (fun _ z => by cases z), Mono.mono g h2, Mono.mono g h3, Mono.mono g h4, Mono.mono g h5, mono_d g h6⟩⟩
theorem Gm.updI {l : Addr} {H : Hp} {C dx : Addr} {fs : List (Str × V)} {o : HO} (h : H l = some (.ins C dx fs)) : Gm l H (upd H l o) := by
  refine ⟨fun a u n e _ => by rw [upd_ne n]; exact e, fun a t => ?_, fun a e => ?_, fun a ys e => ?_⟩
  · obtain ⟨ps, e1, e2⟩ := t
    have : a ≠ l := fun z => by rw [z, h] at e1; cases e1
    exact ⟨ps, by rw [upd_ne this]; exact e1, e2⟩
  · have : a ≠ l := fun z => by rw [z, upd_same] at e; cases e
    rw [upd_ne this] at e
    exact e
  · have : a ≠ l := fun z => by rw [z, h] at e; cases e
    rw [upd_ne this]; exact e
section
variable {K : PySem.W.Frag} {w : World} {σ : L2.St} {H : Hp} {ta tb te td tl ty tx tk tv : TE} {t : TT} {Dn : Ends} {tu tz : TS} {g g1 : TG} {P : V → Hp → Prop} {C fI fB fS : Addr} {sd : SD}
theorem ev_fld {f : Str} (ha : Ev ta σ H (PSr w C sd)) (cl : Cls K C) (n : NoAttr K C f) (hp : ∀ s dx a b c d e H', PM w (numb sd.ps) a H' → PL sd.ps b H' → PL (sd.goal.map gD) c H' → PL (sd.moves.map Ln.d) d H' → KeyH H' (numD sd.start) e → H' s = some (.ins C dx (fsS a b c d e)) → ∃ v, (fsS a b c d e).lookup f = some v ∧ P v H') :
    Ev (tFld K ta f) σ H P := fun H1 e Q q => ha H1 e _ fun x H2 e2 hx => by
  obtain ⟨s, dx, a, b, c, d, ee, rfl, h1, h2, h3, h4, h5, h6⟩ := hx
  obtain ⟨v, l, pv⟩ := hp s dx a b c d ee H2 h2 h3 h4 h5 h6 h1
  exact ⟨s, C, dx, _, v, rfl, h1, cl, n, l, q v H2 e2 pv⟩
theorem ev_parts (S : Sc K C fI fB fS) (ha : Ev ta σ H (PSr w C sd)) : Ev (tFld K ta "parts") σ H (PM w (numb sd.ps)) := ev_fld ha S.cl S.n1 fun _ _ _ _ _ _ _ _ h _ _ _ _ _ => ⟨_, fs1, h⟩
theorem ev_terms (S : Sc K C fI fB fS) (ha : Ev ta σ H (PSr w C sd)) : Ev (tFld K ta "terms") σ H (PL sd.ps) := ev_fld ha S.cl S.n2 fun _ _ _ _ _ _ _ _ _ h _ _ _ _ => ⟨_, fs2, h⟩
theorem ev_goal (S : Sc K C fI fB fS) (ha : Ev ta σ H (PSr w C sd)) : Ev (tFld K ta "goal") σ H (PL (sd.goal.map gD)) := ev_fld ha S.cl S.n3 fun _ _ _ _ _ _ _ _ _ _ h _ _ _ => ⟨_, fs3, h⟩
theorem ev_moves (S : Sc K C fI fB fS) (ha : Ev ta σ H (PSr w C sd)) : Ev (tFld K ta "moves") σ H (PL (sd.moves.map Ln.d)) := ev_fld ha S.cl S.n4 fun _ _ _ _ _ _ _ _ _ _ _ h _ _ => ⟨_, fs4, h⟩
theorem ev_start (S : Sc K C fI fB fS) (ha : Ev ta σ H (PSr w C sd)) : Ev (tFld K ta "start") σ H (PD (numD sd.start)) := ev_fld ha S.cl S.n5 fun _ _ _ _ _ _ _ _ _ _ _ _ h _ => ⟨_, fs5, h⟩
/-- self.f = v -/
theorem q_fld {i : Nat} {a C dx : Addr} {fs : List (Str × V)} {f : Str} (hi : σ[i]? = some (some (.ref a))) (ho : H a = some (.ins C dx fs)) (cl : Cls K C) (n : NoAttr K C f) (hl : fs.length ≤ 10) (hv : Ev tv σ H P)
    (k : ∀ y H1, Gx H H1 → P y H1 → tz Dn σ (upd H1 a (.ins C dx (putF f y fs)))) : tSeq (sFld K (tVar i) tv f) tz Dn σ H := hv H (Gx.refl H) _ fun y H1 e1 hy => ⟨_, hi, a, C, dx, fs, rfl, e1.kp a _ ho (fun _ z => by cases z), cl, n, by omega, k y H1 e1 hy⟩
theorem s_fld {i : Nat} {a C dx : Addr} {fs : List (Str × V)} {f : Str} (hi : σ[i]? = some (some (.ref a))) (ho : H a = some (.ins C dx fs)) (cl : Cls K C) (n : NoAttr K C f) (hl : fs.length ≤ 10) (hv : Ev tv σ H P)
    (k : ∀ y H1, Gx H H1 → P y H1 → Dn.nx σ (upd H1 a (.ins C dx (putF f y fs)))) : sFld K (tVar i) tv f Dn σ H := hv H (Gx.refl H) _ fun y H1 e1 hy => ⟨_, hi, a, C, dx, fs, rfl, e1.kp a _ ho (fun _ z => by cases z), cl, n, by omega, k y H1 e1 hy⟩
theorem el_listM {kvs : List (D × V)} (h : Ev te σ H (PM w kvs)) : EvL (tCB (rListM w) (tCons te tNil)) σ H (kvs.map (·.1)) := fun H1 e Q q => h H1 e _ fun v H2 e2 hv => by
  obtain ⟨d, rfl, m⟩ := hv
  refine ⟨d, kvs, rfl, m, fun p vs hp hv => ?_⟩
  have g' := Gx.new (o := .lst vs) hp
  exact q p vs _ (e2.dm p hp) (e2.trans g') upd_same (mono_all g' hv)
/-- a field of an object under way -/
theorem ev_fldR {i : Nat} {a dx : Addr} {fs : List (Str × V)} {f : Str} {v : V} [Mono P] (hi : σ[i]? = some (some (.ref a))) (ho : H a = some (.ins C dx fs)) (cl : Cls K C) (n : NoAttr K C f) (l : fs.lookup f = some v) (hp : P v H) : Ev (tFld K (tVar i) f) σ H P := fun H1 e Q q =>
  ⟨_, hi, a, C, dx, fs, v, rfl, e.kp a _ ho (fun _ z => by cases z), cl, n, l, q v H1 (Gx.refl H1) (Mono.mono e hp)⟩
end
theorem idxI_val (ps : List D) (d : D) (v : V) (h : valV (numb ps) d = some v) : v = .int (idxI ps d) := by
  rw [numF_val] at h
  unfold idxI
  by_cases hm : d ∈ ps
  · rw [if_pos hm] at h
    rw [if_pos hm]
    have h := Option.some.inj h
    rw [← h, Nat.zero_add]
  · rw [if_neg hm] at h; cases h
theorem idxI_none (ps : List D) (d : D) (h : valV (numb ps) d = none) : idxI ps d = -1 := by
  rw [numF_val] at h
  unfold idxI
  by_cases hm : d ∈ ps
  · rw [if_pos hm] at h; cases h
  · rw [if_neg hm]
/-- d.get(term, NOTHING) -/
theorem ev_idx {w : World} {σ : L2.St} {H : Hp} {ta tb : TE} {ps : List D} {d : D} (ha : Ev ta σ H (PM w (numb ps))) (hb : Ev tb σ H (PD d)) (hd : d.depth ≤ 8) (ht : (∃ i, d = .num i) ∨ ∃ ks, d = .tup ks) :
    Ev (tMGet2 w ta tb (tC (.int (-1)))) σ H (PD (.num (idxI ps d))) := ev_mgetD (z := .num (-1)) ha hb ev_int hd ht (fun v hv H' => idxI_val ps d v hv) fun hn => by rw [idxI_none ps d hn]
section
variable {P : Program} {w : World} {K : PySem.W.Frag} {mg : Str → Option Value} {base : Heap} {T : List Addr} {C fI fB fS : Addr}
/-! Search.__init__ -/
def spInit (w : World) (T : List Addr) (C : Addr) : Sp := fun vs H Q _ => TabsG T H ∧ ∃ (x : FArg) (s dx : Addr) (r : List V), FOk x ∧ vs = .ref s :: r ∧ PsA [PD (mD x.n x.fs), PD (wsD x.ws), PB x.b] r H ∧ H s = some (.ins C dx []) ∧ ∀ H', Gm s H H' → PSr w C (sdOf x) (.ref s) H' → Q .non H'
theorem ins_ne_ext {H : Hp} {s C dx : Addr} {fs : List (Str × V)} {d : Addr} {kvs : List (NestedKey × V)} (h : H s = some (.ins C dx fs)) (m : MAt w H d kvs) : d ≠ s := fun z => by
  obtain ⟨φ, e⟩ := m.there
  rw [z, h] at e; cases e
theorem ins_ne_lst {H : Hp} {s C dx : Addr} {fs : List (Str × V)} {l : Addr} {xs : List V} (h : H s = some (.ins C dx fs)) (m : H l = some (.lst xs)) : l ≠ s := fun z => by rw [z, h] at m; cases m
theorem Gm.pm {H H' : Hp} {s : Addr} {kvs : List (D × V)} {v : V} (g : Gm s H H') (n : ∀ d, v = .ref d → d ≠ s) (h : PM w kvs v H) : PM w kvs v H' := by
  obtain ⟨d, e, m⟩ := h
  exact ⟨d, e, g.map (n d e) m⟩
theorem Gm.pl {H H' : Hp} {s : Addr} {ds : List D} {v : V} (g : Gm s H H') (n : ∀ d, v = .ref d → d ≠ s) (h : PL ds v H) : PL ds v H' := by
  obtain ⟨l, vs, e, h1, h2⟩ := h
  exact ⟨l, vs, e, g.lst (n l e) h1, g.tk.all h2⟩
theorem pm_ne {H : Hp} {s C dx : Addr} {fs : List (Str × V)} {kvs : List (D × V)} {v : V} (hs : H s = some (.ins C dx fs)) (h : PM w kvs v H) : ∀ d, v = .ref d → d ≠ s := fun d e => by
  obtain ⟨d', e', m⟩ := h
  rw [e] at e'; cases e'
  exact ins_ne_ext hs m
theorem pl_ne {H : Hp} {s C dx : Addr} {fs : List (Str × V)} {ds : List D} {v : V} (hs : H s = some (.ins C dx fs)) (h : PL ds v H) : ∀ d, v = .ref d → d ≠ s := fun d e => by
  obtain ⟨l, vs, e', h1, _⟩ := h
  rw [e] at e'; cases e'
  exact ins_ne_lst hs h1
def goalV (ps : List D) : D → D
  | .tup [c, t] => .tup [c, nm (ps.idxOf t)]
  | _ => .none
theorem pure_init (S : Sc K C fI fB fS) : ∀ vs H Q E, spInit w T C vs H Q E → D_Search_init.t K w (sp_all_parts w T) (sp_all_lines T) (sp_is_soft T) (sp_first_terms T) { nx := fun _ H' => Q .non H', rt := Q } (start D_Search_init.N vs) H := by
  rintro vs H Q E ⟨hT, x, s, dx, r, ok, rfl, ⟨v1, _, rfl, h1, v2, _, rfl, h2, v3, _, rfl, h3, rfl⟩, hs, k⟩
  have h1 : KeyH H (mD x.n x.fs) v1 := h1
  have h2 : KeyH H (.tup (x.ws.map wishD)) v2 := h2
  have h3 : v3 = .bl x.b := h3
  subst h3
  have n3 := ok.m.n3; have f2 := ok.m.f2
  have depP : ∀ y ∈ partsW x.ws, wfS y = true ∧ y.depth ≤ 6 := fun y hy => by
    obtain ⟨z, hz, hp⟩ := partsW_mem.mp hy
    have h2 := ok.w.wf z hz
    have h3 := parts_wf z.2 y h2.1 hp
    exact ⟨h3.1, by omega⟩
  -- parts
  refine q_fld (P := PM w (numb (partsW x.ws))) rfl hs S.cl S.n1 (by simp) (ev_call x.ws hT (ea_cons (ev_var (P := PD (wsD x.ws)) h2 rfl) ea_nil) ⟨ok.w.wf, ok.w.len, ok.few⟩) fun a H1 e1 ha => ?_
  have hs1 := e1.kp s _ hs (fun _ z => by cases z)
  have g1 : Gm s H1 (upd H1 s (.ins C dx (putF "parts" a []))) := Gm.updI hs1
  have ha2 := g1.pm (pm_ne hs1 ha) ha
  have na := pm_ne hs1 ha
  have gA : Gm s H (upd H1 s (.ins C dx (putF "parts" a []))) := e1.gm.trans g1
  have hs2 : upd H1 s (.ins C dx (putF "parts" a [])) s = some (.ins C dx [("parts", a)]) := upd_same
  generalize upd H1 s (.ins C dx (putF "parts" a [])) = H2 at g1 ha2 gA hs2
  -- terms
  refine q_fld (P := PL (partsW x.ws)) rfl hs2 S.cl S.n2 (by simp) ?_ fun b H3 e3 hb => ?_
  · have := el_listM (te := tFld K (tVar 0) "parts") (kvs := numb (partsW x.ws)) (ev_fldR (P := PM w (numb (partsW x.ws))) (σ := start D_Search_init.N [.ref s, v1, v2, .bl x.b]) (i := 0) rfl hs2 S.cl S.n1 lkH ha2)
    rw [numF_keys] at this
    exact this.ev
  have hs3 := e3.kp s _ hs2 (fun _ z => by cases z)
  have g3 : Gm s H3 (upd H3 s (.ins C dx (putF "terms" b [("parts", a)]))) := Gm.updI hs3
  have nb := pl_ne hs3 hb
  have ha4 := g3.pm na (Mono.mono e3 ha2)
  have hb4 := g3.pl nb hb
  have gB := (gA.trans e3.gm).trans g3
  have hs4 : upd H3 s (.ins C dx (putF "terms" b [("parts", a)])) s = some (.ins C dx [("parts", a), ("terms", b)]) := by rw [upd_same, ptP (by decide +kernel)]; rfl
  generalize upd H3 s (.ins C dx (putF "terms" b [("parts", a)])) = H4 at g3 ha4 hb4 gB hs4
  -- goal
  refine q_fld (P := PL ((sdOf x).goal.map gD)) rfl hs4 S.cl S.n3 (by simp) ?_ fun c H5 e5 hc => ?_
  · have e : (sdOf x).goal.map gD = ((x.ws.map wishD).filter fun _ => true).map (goalV (partsW x.ws)) := by
      rw [List.filter_eq_self.mpr fun _ _ => rfl, List.map_map]
      unfold sdOf
      rw [List.map_map]
      rfl
    rw [e]
    refine (el_lcT (ev_var (P := PD (.tup (x.ws.map wishD))) (gB.tk.d h2) rfl) (by rw [List.length_map]; have := ok.w.len; omega) fun d xv H6 e6 hm hx => ?_).ev
    obtain ⟨y, hy, rfl⟩ := List.mem_map.mp hm
    obtain ⟨vs, hvs, tg⟩ := tg_tup (K := K) (σ := wipe (start D_Search_init.N [.ref s, v1, v2, .bl x.b]) [5, 6]) (is := [5, 6]) (n := 2) hx rfl rfl
    obtain ⟨ca, _, rfl, hc, tt, _, rfl, ht, rfl⟩ := hvs
    have hyw := ok.w.wf y hy
    have hym : y.2 ∈ partsW x.ws := partsW_mem.mpr ⟨y, hy, self_part _⟩
    refine ⟨_, tg, rfl, et_yes, fun _ => ev_tup (ds := [nm y.1, nm ((partsW x.ws).idxOf y.2)]) (ea_cons (ev_var hc rfl) (ea_cons (ev_mget (P := PD (nm ((partsW x.ws).idxOf y.2))) (v := .int (((partsW x.ws).idxOf y.2 : Nat) : Int)) (ev_fldR (P := PM w (numb (partsW x.ws))) (i := 0) rfl (e6.kp s _ hs4 (fun _ z => by cases z)) S.cl S.n1 lkH (Mono.mono e6 ha4)) (ev_var (P := PD y.2) ht rfl) (by omega) (wfS_top hyw.1) ?_ rfl) ea_nil)) (by simp)⟩
    rw [numF_val, if_pos hym, Nat.zero_add]
  have hs5 := e5.kp s _ hs4 (fun _ z => by cases z)
  have g5 : Gm s H5 (upd H5 s (.ins C dx (putF "goal" c [("parts", a), ("terms", b)]))) := Gm.updI hs5
  have nc := pl_ne hs5 hc
  have ha6 := g5.pm na (Mono.mono e5 ha4)
  have hb6 := g5.pl nb (Mono.mono e5 hb4)
  have hc6 := g5.pl nc hc
  have gC := (gB.trans e5.gm).trans g5
  have hs6 : upd H5 s (.ins C dx (putF "goal" c [("parts", a), ("terms", b)])) s = some (.ins C dx [("parts", a), ("terms", b), ("goal", c)]) := by rw [upd_same, ptP (by decide +kernel), ptP (by decide +kernel)]; rfl
  generalize upd H5 s (.ins C dx (putF "goal" c [("parts", a), ("terms", b)])) = H6 at g5 ha6 hb6 hc6 gC hs6
  -- moves
  refine q_fld (P := PL ((movesOf x.n x.fs x.b).map Ln.d)) rfl hs6 S.cl S.n4 (by simp) ?_ fun d H7 e7 hd => ?_
  · rw [moves_d]
    refine (el_lcL (ev_call (x.n, x.fs) (hT.gm gC) (ea_cons (ev_var (P := PD (mD x.n x.fs)) (gC.tk.d h1) rfl) ea_nil) ok.m) ?_ fun d xv H8 e8 hm hx => ?_).ev
    · rw [List.length_map]
      unfold allLines
      refine Nat.le_trans (flat_le (B := 21) fun c _ => linesOf_le n3 f2) ?_
      rw [List.length_range]; omega
    · obtain ⟨l, hl, rfl⟩ := List.mem_map.mp hm
      refine ⟨_, tg_name, rfl, ?_, fun _ => ev_var hx rfl⟩
      rw [softD_eq]
      exact et_or (et_B (ev_call l ((hT.gm gC).mono e8) (ea_cons (ev_var (P := PD l.d) hx rfl) ea_nil) trivial)) fun _ => et_not (et_B (ev_var (P := PB x.b) rfl rfl))
  have hs7 := e7.kp s _ hs6 (fun _ z => by cases z)
  have g7 : Gm s H7 (upd H7 s (.ins C dx (putF "moves" d [("parts", a), ("terms", b), ("goal", c)]))) := Gm.updI hs7
  have nd := pl_ne hs7 hd
  have ha8 := g7.pm na (Mono.mono e7 ha6)
  have hb8 := g7.pl nb (Mono.mono e7 hb6)
  have hc8 := g7.pl nc (Mono.mono e7 hc6)
  have hd8 := g7.pl nd hd
  have gD' := (gC.trans e7.gm).trans g7
  have hs8 : upd H7 s (.ins C dx (putF "moves" d [("parts", a), ("terms", b), ("goal", c)])) s = some (.ins C dx [("parts", a), ("terms", b), ("goal", c), ("moves", d)]) := by rw [upd_same, ptP (by decide +kernel), ptP (by decide +kernel), ptP (by decide +kernel)]; rfl
  generalize upd H7 s (.ins C dx (putF "moves" d [("parts", a), ("terms", b), ("goal", c)])) = H8 at g7 ha8 hb8 hc8 hd8 gD' hs8
  -- start
  refine s_fld (P := PD (numD (sdOf x).start)) rfl hs8 S.cl S.n5 (by simp) ?_ fun e H9 e9 he => ?_
  · refine ev_tupOf ?_
    have ee : (sdOf x).start.map NestedKey.num = ((rgD x.n).filter fun _ => true).map fun d => .num (idxI (partsW x.ws) d) := by
      rw [List.filter_eq_self.mpr fun _ _ => rfl]
      unfold sdOf rgD
      rw [List.map_map, List.map_map]
      rfl
    rw [ee]
    refine (el_lcT (ev_call (x.n, x.fs) (hT.gm gD') (ea_cons (ev_var (P := PD (mD x.n x.fs)) (gD'.tk.d h1) rfl) ea_nil) ok.m) (by rw [rgD_length]; omega) fun dd xv H10 e10 hm hx => ?_).ev
    obtain ⟨i, _, rfl⟩ := List.mem_map.mp hm
    exact ⟨_, tg_name, rfl, et_yes, fun _ => ev_idx (ev_fldR (P := PM w (numb (partsW x.ws))) (i := 0) rfl (e10.kp s _ hs8 (fun _ z => by cases z)) S.cl S.n1 lkH (Mono.mono e10 ha8)) (ev_var hx rfl) (Nat.zero_le _) (.inl ⟨_, rfl⟩)⟩
  have hs9 := e9.kp s _ hs8 (fun _ z => by cases z)
  have g9 : Gm s H9 (upd H9 s (.ins C dx (putF "start" e [("parts", a), ("terms", b), ("goal", c), ("moves", d)]))) := Gm.updI hs9
  refine k _ ((gD'.trans e9.gm).trans g9) ⟨s, dx, a, b, c, d, e, rfl, ?_, g9.pm na (Mono.mono e9 ha8), g9.pl nb (Mono.mono e9 hb8), g9.pl nc (Mono.mono e9 hc8), g9.pl nd (Mono.mono e9 hd8), g9.tk.d he⟩
  rw [upd_same, ptP (by decide +kernel), ptP (by decide +kernel), ptP (by decide +kernel), ptP (by decide +kernel)]
  rfl
end
end LX

set_option maxRecDepth 100000
set_option maxHeartbeats 8000000
namespace LX
open PySem PySem.Spec PyProof.Rows L2 MDict GxR GQ
/-- a state of the program's search -/
structure StP (ps : List D) (n : Nat) (held : List Int) : Prop where
  len : held.length = n
  all : ∀ v ∈ held, v = -1 ∨ (0 ≤ v ∧ v < ps.length)
theorem getI_get {held : List Int} {i : Nat} (h : i < held.length) : held[i]? = some (getI held i) := by
  unfold getI
  rw [List.getD_eq_getElem?_getD, List.getElem?_eq_getElem h]
  rfl
theorem getI_mem {held : List Int} {i : Nat} (h : i < held.length) : getI held i ∈ held := List.mem_of_getElem? (getI_get h)
theorem idxI_ok (ps : List D) (d : D) : idxI ps d = -1 ∨ (0 ≤ idxI ps d ∧ idxI ps d < ps.length) := by
  unfold idxI
  by_cases h : d ∈ ps
  · rw [if_pos h]
    have := List.idxOf_lt_length_of_mem h
    exact .inr ⟨by omega, by omega⟩
  · rw [if_neg h]; exact .inl rfl
theorem partI_ok {ps : List D} {n : Nat} {held : List Int} {l : Ln} (h : StP ps n held) (hl : LnIn n l) : partI ps held l = -1 ∨ (0 ≤ partI ps held l ∧ partI ps held l < ps.length) := by
  unfold partI
  cases l.f with
  | some f => exact idxI_ok _ _
  | none =>
    cases hs : l.s with
    | nil => exact absurd hs hl.ne
    | cons a r => exact h.all _ (getI_mem (by rw [h.len]; exact hl.s a (by rw [hs]; exact List.mem_cons_self)))
theorem stp_next {ps : List D} {n : Nat} {held a : List Int} {l : Ln} (h : StP ps n held) (hl : LnIn n l) (e : nextP ps held l = some a) : StP ps n a := by
  unfold nextP at e
  split at e
  · cases e
  · split at e
    · cases e
    · rename_i hm
      cases e
      refine ⟨by rw [List.length_set]; exact h.len, fun v hv => ?_⟩
      rcases List.mem_or_eq_of_mem_set hv with h1 | rfl
      · exact h.all v h1
      · exact partI_ok h hl
def vals (k : Nat) : List Int := -1 :: (List.range k).map fun (i : Nat) => (i : Int)
theorem vals_mem {k : Nat} {v : Int} : v ∈ vals k ↔ v = -1 ∨ (0 ≤ v ∧ v < k) := by
  unfold vals
  rw [List.mem_cons, List.mem_map]
  constructor
  · rintro (h | ⟨i, hi, rfl⟩)
    · exact .inl h
    · have := List.mem_range.mp hi
      exact .inr ⟨by omega, by omega⟩
  · rintro (h | ⟨h1, h2⟩)
    · exact .inl h
    · exact .inr ⟨v.toNat, List.mem_range.mpr (by omega), by omega⟩
theorem stp_mem {ps : List D} {n : Nat} {held : List Int} (h : StP ps n held) : held ∈ allOf (vals ps.length) n := mem_allOf h.len fun v hv => vals_mem.mpr (h.all v hv)
theorem allOf_of {α : Type} {xs : List α} : ∀ {n : Nat} {l : List α}, l ∈ allOf xs n → l.length = n ∧ ∀ x ∈ l, x ∈ xs
  | 0, l, h => by
    have : l = [] := by simpa [allOf] using h
    subst this
    exact ⟨rfl, fun x hx => by cases hx⟩
  | n + 1, l, h => by
    simp only [allOf, List.mem_flatMap, List.mem_map] at h
    obtain ⟨x, hx, r, hr, rfl⟩ := h
    obtain ⟨h1, h2⟩ := allOf_of hr
    exact ⟨by simp [h1], fun y hy => (List.mem_cons.mp hy).elim (fun e => e ▸ hx) (h2 y)⟩
theorem stp_of_mem {ps : List D} {n : Nat} {held : List Int} (h : held ∈ allOf (vals ps.length) n) : StP ps n held := by
  obtain ⟨h1, h2⟩ := allOf_of h
  exact ⟨h1, fun v hv => vals_mem.mp (h2 v hv)⟩
theorem stp_start (x : FArg) : StP (partsW x.ws) x.n (sdOf x).start := ⟨by simp [sdOf], fun v hv => by
  obtain ⟨i, _, rfl⟩ := List.mem_map.mp hv
  exact idxI_ok _ _⟩
theorem closedP {ps : List D} {n : Nat} {lines : List Ln} (hl : ∀ l ∈ lines, LnIn n l) : ∀ s ∈ allOf (vals ps.length) n, ∀ l ∈ lines, ∀ a, nextP ps s l = some a → a ∈ allOf (vals ps.length) n := fun s hs l h a ha => stp_mem (stp_next (stp_of_mem hs) (hl l h) ha)
def goalI (goal : List (Nat × Nat)) (held : List Int) : Bool := goal.all fun x => decide (getI held x.1 = (x.2 : Int))
def LeastP (x : FArg) (p : Option (List Ln)) : Prop := Lost.Least (nextP (partsW x.ws)) (movesOf x.n x.fs x.b) (goalI (sdOf x).goal) (sdOf x).start p
def pathD : Option (List Ln) → D
  | none => .none
  | some p => progD p
def RShort (x : FArg) (v : V) (H : Hp) : Prop := ∃ p, LeastP x p ∧ KeyH H (pathD p) v
def negAt (held : List Int) : D → Bool
  | .num c => decide (getI held c.toNat = -1)
  | _ => false
section
variable {P : Program} {w : World} {K : PySem.W.Frag} {mg : Str → Option Value} {base : Heap} {T : List Addr} {C fI fB fS : Addr}
structure BArg where
  x : FArg
  held : List Int
  l : Ln
def sp_behindS (w : World) (C : Addr) (T : List Addr) : Sp := spP (α := BArg) T (fun y => FOk y.x ∧ StP (partsW y.x.ws) y.x.n y.held ∧ y.l ∈ movesOf y.x.n y.x.fs y.x.b) (fun y => [PSr w C (sdOf y.x), PD (numD y.held), PD y.l.d]) fun y => PD (optI (nextP (partsW y.x.ws) y.held y.l))
theorem ev_getI {σ : L2.St} {H : Hp} {ta tb : TE} {held : List Int} {i : Nat} (ha : Ev ta σ H (PD (numD held))) (hb : Ev tb σ H (PD (nm i))) (hi : i < held.length) : Ev (tOp (rIxT K) ta tb) σ H (PD (.num (getI held i))) :=
  ev_ixN (n := i) ha hb (by rw [List.getElem?_map, getI_get hi]; rfl)
theorem pure_behindS {Pt : Addr} (hP : Pt ∈ T) (S : Sc K C fI fB fS) : ∀ vs H Q E, sp_behindS w C T vs H Q E → D_Search_behind.t K w Pt { nx := fun _ H' => Q .non H', rt := Q } (start D_Search_behind.N vs) H := by
  rintro vs H Q E ⟨hT, ⟨x, held, l⟩, ⟨ok, hst, hlm⟩, ⟨v0, _, rfl, h0, v1, _, rfl, h1, v2, _, rfl, h2, rfl⟩, k⟩
  have h0 : PSr w C (sdOf x) v0 H := h0
  have h1 : KeyH H (numD held) v1 := h1
  have h2 : KeyH H l.d v2 := h2
  have ok : FOk x := ok
  have hst : StP (partsW x.ws) x.n held := hst
  have hlm : l ∈ movesOf x.n x.fs x.b := hlm
  have hin := lnIn_moves ok.m.r hlm
  have n3 := ok.m.n3
  have hlen := hst.len
  have k : ∀ v H', Gx H H' → KeyH H' (optI (nextP (partsW x.ws) held l)) v → Q v H' := k
  have depP : ∀ y ∈ partsW x.ws, wfS y = true ∧ y.depth ≤ 6 := fun y hy => by
    obtain ⟨z, hz, hp⟩ := partsW_mem.mp hy
    have h2 := ok.w.wf z hz
    have h3 := parts_wf z.2 y h2.1 hp
    exact ⟨h3.1, by omega⟩
  refine q_unp (ks := [nm l.c, fD l.f, .tup (l.s.map nm)]) (ev_var (P := PD l.d) h2 rfl) rfl rfl fun vs2 H1 e1 hv => ?_
  obtain ⟨cv, _, rfl, hc, fv, _, rfl, hf, sv, _, rfl, hs, rfl⟩ := hv
  refine q_when (b := l.s.any fun i => decide (getI held i = -1)) (et_is (et_B (ev_quT (cont := false) (f := negAt held) ((hT.mono e1) Pt hP) (ev_var (P := PD (.tup (l.s.map nm))) hs rfl) fun d xv H2 e2 hm hx => ?_)) ?_) (fun hb H2 e2 => ?_) fun hb H2 e2 => ?_
  · obtain ⟨i, hi, rfl⟩ := List.mem_map.mp hm
    refine ⟨_, tg_name, rfl, ?_⟩
    show Ev _ _ _ (PB (decide (getI held ((i : Int)).toNat = -1)))
    rw [Int.toNat_natCast]
    exact ev_eqI (ev_getI (ev_var (P := PD (numD held)) (mono_d (e1.trans e2) h1) rfl) (ev_var (P := PD (nm i)) hx rfl) (by rw [hlen]; exact hin.s i hi)) ev_int
  · rw [if_neg Bool.false_ne_true, List.any_map]
    congr 1
  · refine s_ret (P := PD .none) ev_non fun v H3 e3 hv3 => k v H3 ((e1.trans e2).trans e3) ?_
    unfold nextP
    rw [if_pos hb]
    exact hv3
  · have hnn : ∀ i ∈ l.s, getI held i ≠ -1 := fun i hi => by simpa using List.any_eq_false.mp hb i hi
    have g2 := e1.trans e2
    -- behind part = ..
    have cont : ∀ pv H3, Gx H2 H3 → KeyH H3 (.num (partI (partsW x.ws) held l)) pv → (tSeq (tIfS (tOr (tTest (tOp (rEqD K) (tVar 6) (tC (.int (-1))))) (tTest (tOp (rEqD K) (tVar 6) (tOp (rIxT K) (tVar 1) (tVar 3))))) (tRet (tC .non)) tNext)
        (tRet (tOp (rCatA K) (tOp (rCatA K) (tSl (rSlA K) (tVar 1) tNoPart (tPart (tVar 3))) (tTup (tCons (tVar 6) tNil))) (tSl (rSlA K) (tVar 1) (tPart (tOp rAddI (tVar 3) (tC (.int 1)))) tNoPart)))) { nx := fun _ H' => Q .non H', rt := Q } [some v0, some v1, some v2, some cv, some fv, some sv, some pv, none] H3 := fun pv H3 e3 hpv => by
      have hh3 := mono_d (g2.trans e3) h1
      have hc3 := mono_d (e2.trans e3) hc
      refine q_when (b := decide (partI (partsW x.ws) held l = -1) || decide (partI (partsW x.ws) held l = getI held l.c)) (et_or (et_test (ev_eqI (ev_var (P := PD (.num _)) hpv rfl) ev_int)) fun _ => et_test (ev_eqI (ev_var (P := PD (.num _)) hpv rfl) (ev_getI (ev_var (P := PD (numD held)) hh3 rfl) (ev_var (P := PD (nm l.c)) hc3 rfl) (by rw [hlen]; exact hin.c)))) (fun hb3 H4 e4 => ?_) fun hb3 H4 e4 => ?_
      · refine s_ret (P := PD .none) ev_non fun v H5 e5 hv5 => k v H5 (((g2.trans e3).trans e4).trans e5) ?_
        unfold nextP
        rw [if_neg (by rw [hb]; exact Bool.false_ne_true), if_pos (by simpa using hb3)]
        exact hv5
      · refine s_ret (ev_setc (held := held.map NestedKey.num) (c := l.c) (d := .num (partI (partsW x.ws) held l)) (ev_var (P := PD (numD held)) (mono_d e4 hh3) rfl) (ev_var (P := PD (nm l.c)) (mono_d e4 hc3) rfl) (ev_var (P := PD (.num _)) (mono_d e4 hpv) rfl) (by rw [List.length_map, hlen]; exact hin.c) (by rw [List.length_map, hlen]; omega)) fun v H5 e5 hv5 => k v H5 (((g2.trans e3).trans e4).trans e5) ?_
        unfold nextP
        rw [if_neg (by rw [hb]; exact Bool.false_ne_true), if_neg (by simpa using hb3)]
        show KeyH H5 (.tup ((held.set l.c (partI (partsW x.ws) held l)).map NestedKey.num)) v
        rw [List.map_set]
        exact hv5
    have hh2 := mono_d g2 h1
    have hs2 := mono_d e2 hs
    have hf2 := mono_d e2 hf
    refine q_if (b := l.f.isNone) (et_B (ev_isB (ev_isN (ev_var (P := PD (fD l.f)) hf2 rfl)) fD_none)) (fun hb3 H3 e3 => ?_) fun hb3 H3 e3 => ?_
    · have hfn : l.f = none := by cases h : l.f with | none => rfl | some _ => rw [h] at hb3; cases hb3
      cases hls : l.s with
      | nil => exact absurd hls hin.ne
      | cons a r =>
        have hpe : partI (partsW x.ws) held l = getI held a := by unfold partI; rw [hfn, hls]; rfl
        rw [hls] at hs2
        refine s_asg (P := PD (.num (getI held a))) (ev_getI (ev_var (P := PD (numD held)) (mono_d e3 hh2) rfl) (ev_ix0 (d := nm a) (ds := r.map nm) (ev_var (P := PD (.tup ((a :: r).map nm))) (mono_d e3 hs2) rfl)) (by rw [hlen]; exact hin.s a (by rw [hls]; exact List.mem_cons_self))) fun v H4 e4 hv4 => cont v H4 (e3.trans e4) (by rw [hpe]; exact hv4)
    · obtain ⟨f, hff⟩ : ∃ f, l.f = some f := by cases h : l.f with | none => rw [h] at hb3; cases hb3 | some f => exact ⟨f, rfl⟩
      have hpe : partI (partsW x.ws) held l = idxI (partsW x.ws) (.tup (nm f :: l.s.map (termI (partsW x.ws) held))) := by unfold partI; rw [hff]
      rw [hff] at hf2
      have two := hin.two
      have hval : ∀ i ∈ l.s, 0 ≤ getI held i ∧ getI held i < (partsW x.ws).length := fun i hi => ((hst.all _ (getI_mem (by rw [hlen]; exact hin.s i hi))).elim (fun e => absurd e (hnn i hi)) id)
      have htm : ∀ i ∈ l.s, termI (partsW x.ws) held i ∈ partsW x.ws := fun i hi => by
        have := hval i hi
        exact getD_mem (by omega)
      have hps := Mono.mono (P := PSr w C (sdOf x)) (g2.trans e3) h0
      refine s_asg (P := PD (.num (idxI (partsW x.ws) (.tup (nm f :: l.s.map (termI (partsW x.ws) held)))))) (ev_idx (ev_parts S (ev_var (P := PSr w C (sdOf x)) hps rfl)) (ev_catA (ds := [nm f]) (es := l.s.map (termI (partsW x.ws) held)) (ev_tup (ds := [nm f]) (ea_cons (ev_var (P := PD (nm f)) (mono_d e3 hf2) rfl) ea_nil) (by simp)) (ev_tupOf ?_) (by simp; omega)) ?_ (.inr ⟨_, rfl⟩)) fun v H4 e4 hv4 => cont v H4 (e3.trans e4) (by rw [hpe]; exact hv4)
      · have e : l.s.map (termI (partsW x.ws) held) = ((l.s.map nm).filter fun _ => true).map fun d => match d with | .num i => termI (partsW x.ws) held i.toNat | _ => .none := by
          rw [List.filter_eq_self.mpr fun _ _ => rfl, List.map_map]
          refine List.map_congr_left fun a ha => ?_
          show termI _ held a = termI _ held ((a : Int)).toNat
          rw [Int.toNat_natCast]
        rw [e]
        refine (el_lcT (ev_var (P := PD (.tup (l.s.map nm))) (mono_d e3 hs2) rfl) (by simp; omega) fun d xv H4 e4 hm hx => ?_).ev
        obtain ⟨i, hi, rfl⟩ := List.mem_map.mp hm
        refine ⟨_, tg_name, rfl, et_yes, fun _ => ?_⟩
        show Ev _ _ H4 (PD (termI (partsW x.ws) held ((i : Int)).toNat))
        rw [Int.toNat_natCast]
        have hv := hval i hi
        refine ev_ixL (ds := partsW x.ws) (i := getI held i) (ev_terms S (ev_var (P := PSr w C (sdOf x)) (Mono.mono e4 hps) rfl)) (ev_getI (ev_var (P := PD (numD held)) (mono_d (e3.trans e4) hh2) rfl) (ev_var (P := PD (nm i)) hx rfl) (by rw [hlen]; exact hin.s i hi)) ?_
        have e2 : getI held i = (((getI held i).toNat : Nat) : Int) := by omega
        rw [e2]
        refine atI_nat ?_
        exact getD_get (by omega)
      · show (NestedKey.tup (.num _ :: l.s.map (termI (partsW x.ws) held))).depth ≤ 8
        rw [depth_tup]
        have : NestedKey.depthAll (l.s.map (termI (partsW x.ws) held)) ≤ 6 := depths_le fun k hk => by
          obtain ⟨b, hb, rfl⟩ := List.mem_map.mp hk
          exact (depP _ (htm b hb)).2
        omega
theorem ok_behindS {c Pt : Addr} {k : Nat} (F : Df K "behind" "Search.behind" D_Search_behind.st [] fB c) (B : Bi mg) (S : Sc K C fI fB fS) (TB : TabB base mg c Pt) (hP : Pt ∈ T) (g1 : ∃ t, mg "NOTHING" = some (.int (-1) t)) : Fm P w K mg base CX0 (k + 2) fB [] (sp_behindS w C T) := by
  obtain ⟨fd, h1, h2⟩ := F.ok (P := P) (w := w) (mg := mg) (base := base) (CX := CX0) (k := k + 1) (sp := sp_behindS w C T) (N := D_Search_behind.N) (ps := D_Search_behind.ps) D_Search_behind.S (spP_len fun _ => rfl) fun cdv A outer s H vs Q E hc hr h => ⟨_, PSs.nox (D_Search_behind.d (k := k) B hr TB hc g1), pure_behindS hP S vs H Q E h⟩
  exact ⟨fd, _, [], h1, h2.bindsN (fun _ _ _ _ _ _ us hl => match us, hl with | [_, _, _], _ => rfl), .nil⟩
end
end LX

set_option maxRecDepth 100000
set_option maxHeartbeats 8000000
namespace LX
open PySem PySem.Spec PyProof.Rows L2 MDict GxR GQ
section
variable {K : PySem.W.Frag} {w : World} {σ : L2.St} {H : Hp} {ta tb te td : TE} {t : TA} {Dn : Ends} {tz : TS} {C : Addr} {sd : SD} {T : List Addr}
theorem ev_meth {α : Type} {m : Str} {pre : α → Prop} {A : α → List (V → Hp → Prop)} {R : α → V → Hp → Prop} {Ps : List (V → Hp → Prop)} (x : α) (ht : TabsG T H) (ha : Ev ta σ H (PSr w C sd)) (hA : A x = PSr w C sd :: Ps) (h : EvA t σ H Ps) (hp : pre x) (hn : ∀ a b c d e, (fsS a b c d e).lookup m = none) :
    Ev (tMeth C m (spP T pre A R) [] E0 ta t) σ H (R x) := fun H1 e Q q => ha H1 e _ fun v H2 e2 hv => by
  obtain ⟨s, dx, a, b, c, d, ee, rfl, h1, hr⟩ := id hv
  refine ⟨s, dx, _, rfl, h1, hn _ _ _ _ _, h H2 (e.trans e2) _ fun vs H3 e3 hvs => ?_⟩
  refine ⟨ht.mono ((e.trans e2).trans e3), x, hp, ?_, fun v H' e' hr => q v H' ((e2.trans e3).trans e') hr⟩
  rw [hA, List.append_nil]
  exact ⟨_, vs, rfl, Mono.mono e3 hv, hvs⟩
theorem q_parR {i j : Nat} {ta : TA} (h : ta σ H fun vs H1 => ∃ v w, vs = [v, w] ∧ tz Dn ((σ.set i (some v)).set j (some w)) H1) : tSeq (tPar i j ta) tz Dn σ H := h
end
theorem numD_inj : ∀ a b : List Int, numD a = numD b → a = b := fun a b e => by
  have e := NestedKey.tup.inj e
  have key : ∀ a b : List Int, a.map NestedKey.num = b.map NestedKey.num → a = b := by
    intro a
    induction a with
    | nil => intro b h; cases b with | nil => rfl | cons _ _ => simp at h
    | cons x a ih =>
      intro b h
      cases b with
      | nil => simp at h
      | cons y b =>
        simp only [List.map_cons, List.cons.injEq] at h
        rw [NestedKey.num.inj h.1, ih b h.2]
  exact key a b e
abbrev FFnd (H : Hp) (found : List (List Int × List Ln)) (kvs : List (D × V)) : Prop := FRel numD (fun p v => KeyH H (progD p) v) found kvs
theorem keyNum (h : List Int) : (∃ i, numD h = .num i) ∨ ∃ ks, numD h = .tup ks := .inr ⟨_, rfl⟩
theorem numD_dep (h : List Int) : (numD h).depth ≤ 1 := by
  show NestedKey.depthAll _ + 1 ≤ 1
  have : NestedKey.depthAll (h.map NestedKey.num) ≤ 0 := depths_le fun k hk => by
    obtain ⟨i, _, rfl⟩ := List.mem_map.mp hk
    exact Nat.le_refl 0
  omega
section
variable {P : Program} {w : World} {K : PySem.W.Frag} {mg : Str → Option Value} {base : Heap} {T : List Addr} {C fI fB fS : Addr}
structure MidS (w : World) (x : FArg) (df la lg : Addr) (vla : List V) (H H' : Hp) (d : Nat) (found : List (List Int × List Ln)) (layer : List (List Int)) (st : List (List Int × List Ln) × List (List Int)) : Prop where
  gx : Gx H H'
  mid : Lost.Mid (nextP (partsW x.ws)) (movesOf x.n x.fs x.b) (sdOf x).start d found st
  fnd : ∃ kvs, MAt w H' df kvs ∧ FFnd H' st.1 kvs
  lat : ∃ us, H' lg = some (.lst us) ∧ KeyAll H' (st.2.map numD) us
  lay : H' la = some (.lst vla) ∧ KeyAll H' (layer.map numD) vla
theorem MidS.gxx {x : FArg} {df la lg : Addr} {vla : List V} {H H' H'' : Hp} {d : Nat} {found : List (List Int × List Ln)} {layer : List (List Int)} {st : List (List Int × List Ln) × List (List Int)} (m : MidS w x df la lg vla H H' d found layer st) (e : Gx H' H'') : MidS w x df la lg vla H H'' d found layer st := by
  obtain ⟨kvs, m1, m2⟩ := m.fnd
  obtain ⟨us, l1, l2⟩ := m.lat
  exact ⟨m.gx.trans e, m.mid, ⟨kvs, e.map m1, frel_mono m2 fun _ _ h => mono_d e h⟩, ⟨us, e.kp lg _ l1 (fun _ z => by cases z), mono_all e l2⟩, e.kp la _ m.lay.1 (fun _ z => by cases z), mono_all e m.lay.2⟩
def sp_shortestS (w : World) (C : Addr) (T : List Addr) : Sp := spP (α := FArg) T FOk (fun x => [PSr w C (sdOf x)]) RShort
def goalB (held : List Int) : D → Bool
  | .tup [.num c, .num p] => decide (getI held c.toNat = p)
  | _ => false
theorem pure_shortestS {Pt : Addr} (hP : Pt ∈ T) (S : Sc K C fI fB fS) : ∀ vs H Q E, sp_shortestS w C T vs H Q E → D_Search_shortest.t K w Pt C (sp_behindS w C T) { nx := fun _ H' => Q .non H', rt := Q } (start D_Search_shortest.N vs) H := by
  rintro vs H Q E ⟨hT, x, ok, ⟨v0, _, rfl, h0, rfl⟩, k⟩
  have ok : FOk x := ok
  have h0 : PSr w C (sdOf x) v0 H := h0
  have n3 := ok.m.n3; have f2 := ok.m.f2
  obtain ⟨s, dx, fa, fb, fc, fd, fe, rfl, hs, p1, p2, p3, p4, p5⟩ := id h0
  obtain ⟨lm, vlm, rfl, hlm, hvlm⟩ := id p4
  have hmv : (sdOf x).moves = movesOf x.n x.fs x.b := rfl
  -- found, layer
  have sdep : (numD (sdOf x).start).depth ≤ 8 := by have := numD_dep (sdOf x).start; omega
  refine q_parR (ev_mone (P := PD (progD [])) (fun tk h => tk.d h) (ev_start S (ev_var (P := PSr w C (sdOf x)) h0 rfl)) sdep (keyNum _) (ev_tup (ds := []) ea_nil (by simp)) H (Gx.refl H) _ fun df z H3 hdf e3 m3 hz => ?_)
  refine (el_lst (ds := [numD (sdOf x).start]) (ea_cons (ev_start S (ev_var (P := PSr w C (sdOf x)) (Mono.mono e3 h0) rfl)) ea_nil) (by simp)) H3 (Gx.refl H3) _ fun la vla H4 hla e4 hla4 hvla => ⟨_, _, rfl, ?_⟩
  have m4 := e4.map m3
  have hU0 : ∀ {f : List (List Int × List Ln)}, Lost.Good (nextP (partsW x.ws)) (movesOf x.n x.fs x.b) (sdOf x).start f → (f.map (·.1)).length ≤ (allOf (vals (partsW x.ws).length) x.n).length := fun {f} hg =>
    Lost.nodup_le hg.nd fun s hs => by
      obtain ⟨e, he, rfl⟩ := List.mem_map.mp hs
      exact Lost.path_in (stp_mem (stp_start x)) (closedP fun l hl => lnIn_moves ok.m.r hl) (hg.path e he)
  have hUl : (allOf (vals (partsW x.ws).length) x.n).length ≤ 1331 := by
    rw [allOf_len]
    exact pow3 (by have := ok.few; simp [vals]; omega) n3
  have hU : ∀ {f : List (List Int × List Ln)}, Lost.Good (nextP (partsW x.ws)) (movesOf x.n x.fs x.b) (sdOf x).start f → f.length ≤ 1331 := fun {f} hg => by
    have := hU0 hg
    rw [List.length_map] at this
    omega
  refine q_while (fun m σ' H' => (∃ d found layer la vla kvs x3 x4 x5 x6, σ' = [some (.ref s), some (.ref df), some (.ref la), x3, x4, x5, x6, none, none] ∧
      Lost.Turn (nextP (partsW x.ws)) (movesOf x.n x.fs x.b) (goalI (sdOf x).goal) (sdOf x).start d found layer ∧ m = 1332 - d ∧ MAt w H' df kvs ∧ FFnd H' found kvs ∧ la ≠ df ∧ H la = none ∧ H' la = some (.lst vla) ∧ KeyAll H' (layer.map numD) vla) ∧ Gx H H') 1332
    ⟨⟨0, [((sdOf x).start, [])], [(sdOf x).start], la, vla, _, _, _, _, _, rfl, Lost.turn0, rfl, m4, .cons ⟨rfl, mono_d e4 hz⟩ .nil, (dict_ne_lst m4 hla4).symm, e3.dm la hla, hla4, hvla⟩, e3.trans e4⟩ fun m σ' H' hw => ?_
  obtain ⟨⟨d, found, layer, la, vla, kvs, x3, x4, x5, x6, rfl, tn, rfl, mk, fk, nla, hlaH, hla, hvla⟩, g⟩ := hw
  have bnd := Lost.Turn.bound (stp_mem (stp_start x)) (closedP fun l hl => lnIn_moves ok.m.r hl) tn
  have hstl : ∀ h ∈ layer, StP (partsW x.ws) x.n h := fun h hh => by
    obtain ⟨hm, _⟩ := tn.lens h hh
    obtain ⟨e, he, rfl⟩ := List.mem_map.mp hm
    exact stp_of_mem (Lost.path_in (stp_mem (stp_start x)) (closedP fun l hl => lnIn_moves ok.m.r hl) (tn.good.path e he))
  refine ⟨_, et_truL (ks := layer.map numD) (ev_var (P := PL _) ⟨la, vla, rfl, hla, hvla⟩ rfl), fun hb H6 e6 => ?_, fun hb H6 e6 => ?_⟩
  · have hne : layer ≠ [] := fun z => by simp [z] at hb
    have hpos : 0 < layer.length := List.length_pos_iff.mpr hne
    refine ⟨fun σ2 H2 => (∃ d' found layer la vla kvs x3 x4 x5 x6, σ2 = [some (.ref s), some (.ref df), some (.ref la), x3, x4, x5, x6, none, none] ∧
      Lost.Turn (nextP (partsW x.ws)) (movesOf x.n x.fs x.b) (goalI (sdOf x).goal) (sdOf x).start d' found layer ∧ d' = d + 1 ∧ MAt w H2 df kvs ∧ FFnd H2 found kvs ∧ la ≠ df ∧ H la = none ∧ H2 la = some (.lst vla) ∧ KeyAll H2 (layer.map numD) vla) ∧ Gx H H2, fun σ2 H2 hN => ?_, ?_⟩
    · obtain ⟨⟨d', found, layer, la, vla, kvs, x3, x4, x5, x6, e, tn, rfl, a1, a2, a3, a4, a5, a6⟩, g2⟩ := hN
      exact ⟨1332 - (d + 1), by omega, ⟨d + 1, found, layer, la, vla, kvs, x3, x4, x5, x6, e, tn, rfl, a1, a2, a3, a4, a5, a6⟩, g2⟩
    have g6 := g.trans e6
    have hla6 := e6.kp la _ hla (fun _ z => by cases z)
    have hvla6 := mono_all e6 hvla
    have mk6 := e6.map mk
    have fk6 : FFnd H6 found kvs := frel_mono fk fun _ _ h => mono_d e6 h
    -- is one of the layer the goal?
    refine (show tSeq (tFor _ _ _) _ _ _ H6 from s_forL (ds := layer.map numD) (l := la) (vs := vla) (Dn := { nx := _, rt := Q, bk := _, ct := _ }) (ev_var (P := PV (.ref la)) rfl rfl) hla6 hvla6
      (fun i σ' H'' => (∃ x3, σ' = [some (.ref s), some (.ref df), some (.ref la), x3, x4, x5, x6, none, none]) ∧ Gx H6 H'' ∧ ∀ h ∈ layer.take i, goalI (sdOf x).goal h = false)
      (fun H8 e8 => ⟨⟨_, rfl⟩, e8, fun h hh => by simp at hh⟩) (fun i σ' H'' p => ⟨p.2.1.tk, p.2.1.kp la _ hla6 (fun _ z => by cases z)⟩) (fun i hd xv σ' H'' hi p hx => ?_) (fun σ' H'' p => ?_))
    · obtain ⟨⟨x3, rfl⟩, g8, hno⟩ := p
      rw [List.getElem?_map] at hi
      cases hh : layer[i]? with
      | none => rw [hh] at hi; cases hi
      | some held =>
      rw [hh] at hi
      cases hi
      have hhm := List.mem_of_getElem? hh
      have hsd := hstl held hhm
      have hlen := hsd.len
      obtain ⟨hfd, hpl⟩ := tn.lens held hhm
      have h08 := Mono.mono (P := PSr w C (sdOf x)) (g6.trans g8) h0
      have hcell : ∀ y ∈ (sdOf x).goal, y.1 < held.length := fun y hy => by
        obtain ⟨z, hz, rfl⟩ := List.mem_map.mp hy
        rw [hlen]; exact ok.c z hz
      refine s_if (b := goalI (sdOf x).goal held) (et_is (et_B (ev_quL (cont := true) (f := goalB held) ((hT.mono (g6.trans g8)) Pt hP) (ev_goal S (ev_var (P := PSr w C (sdOf x)) h08 rfl)) fun dd xv2 H9 e9 hm hx9 => ?_)) ?_) (fun hb9 H9 e9 => ?_) fun hb9 H9 e9 => ?_
      · obtain ⟨y, hy, rfl⟩ := List.mem_map.mp hm
        obtain ⟨vs, hvs, tg⟩ := tg_tup (K := K) (σ := wipe [some (.ref s), some (.ref df), some (.ref la), some xv, x4, x5, x6, none, none] [7, 8]) (is := [7, 8]) (n := 2) hx9 rfl rfl
        obtain ⟨ca, _, rfl, hc, pa, _, rfl, hp, rfl⟩ := hvs
        refine ⟨_, tg, rfl, ?_⟩
        show Ev _ _ _ (PB (decide (getI held ((y.1 : Int)).toNat = (y.2 : Int))))
        rw [Int.toNat_natCast]
        exact ev_eqI (ev_getI (ev_var (P := PD (numD held)) (mono_d e9 hx) rfl) (ev_var (P := PD (nm y.1)) hc rfl) (hcell y hy)) (ev_var (P := PD (nm y.2)) hp rfl)
      · rw [if_pos rfl, List.all_map]
        unfold goalI
        congr 1
      · have hf := find_none_take hh hno hb9
        obtain ⟨hL, _⟩ := tn.hit hf
        have fk9 : FFnd H9 found kvs := frel_mono fk6 fun _ _ h => mono_d (g8.trans e9) h
        obtain ⟨pv, hpv1, hpv2⟩ := frel_get numD_inj fk9 hfd
        refine s_ret (P := PD (progD (Lost.pathOf found held))) (ev_mget (kvs := kvs) (k := numD held) (v := pv) (ev_var (P := PM w kvs) ⟨df, rfl, (g8.trans e9).map mk6⟩ rfl) (ev_var (P := PD (numD held)) (mono_d e9 hx) rfl) (by have := numD_dep held; omega) (keyNum _) hpv1 hpv2) fun v H10 e10 hv => k v H10 (((g6.trans g8).trans e9).trans e10) ⟨_, hL, hv⟩
      · refine ⟨⟨_, rfl⟩, g8.trans e9, fun h hh' => ?_⟩
        rw [take_succ_of hh] at hh'
        rcases List.mem_append.mp hh' with z | z
        · exact hno h z
        · rw [List.mem_singleton.mp z]; exact hb9
    obtain ⟨⟨x3, rfl⟩, g8, hno⟩ := p
    rw [List.length_map, List.take_length] at hno
    have tn' := tn.succ (List.find?_eq_none.mpr fun y hy => by rw [hno y hy]; exact Bool.false_ne_true) hne
    -- the next layer
    refine q_asgL (ds := []) (el_lst ea_nil (by simp)) fun lg us0 H7 hlg e7 hlg7 hu0 => ?_
    have g67 := g8.trans e7
    have g7 := g6.trans g67
    have hla7 := g67.kp la _ hla6 (fun _ z => by cases z)
    have nlgH : H lg = none := (g6.trans g8).dm lg hlg
    have nlalg : la ≠ lg := fun z => by rw [← z, g8.kp la _ hla6 (fun _ z => by cases z)] at hlg; cases hlg
    have m7 := g67.map mk6
    have ndflg : df ≠ lg := dict_ne_lst m7 hlg7
    have hdfH : H df = none := hdf
    have hvla7 := mono_all g67 hvla6
    have mid0 : MidS w x df la lg vla H H7 d found layer (found, []) := ⟨g7, ⟨tn.good, [], by simp, rfl, fun e he => by cases he⟩, ⟨kvs, m7, frel_mono fk6 fun _ _ h => mono_d g67 h⟩, ⟨us0, hlg7, hu0⟩, hla7, hvla7⟩
    let stAt : Nat → List (List Int × List Ln) × List (List Int) := fun i => (layer.take i).foldl (Lost.addAll (nextP (partsW x.ws)) (movesOf x.n x.fs x.b)) (found, [])
    refine (show tSeq (tFor _ _ _) _ _ _ H7 from s_forL (ds := layer.map numD) (l := la) (vs := vla) (Dn := { nx := _, rt := Q, bk := _, ct := _ }) (ev_var (P := PV (.ref la)) rfl rfl) hla7 hvla7
      (fun i σ' H'' => (∃ x3 x5 x6, σ' = [some (.ref s), some (.ref df), some (.ref la), x3, some (.ref lg), x5, x6, none, none]) ∧ Tk H7 H'' ∧ MidS w x df la lg vla H H'' d found layer (stAt i))
      (fun H8 e8 => ⟨⟨_, _, _, rfl⟩, e8.tk, mid0.gxx e8⟩) (fun i σ' H'' p => ⟨p.2.1, p.2.2.lay.1⟩) (fun i hd xv σ' H'' hi p hx => ?_) (fun σ' H'' p => ?_))
    · obtain ⟨⟨x3, x5, x6, rfl⟩, tk, M⟩ := p
      rw [List.getElem?_map] at hi
      cases hh : layer[i]? with
      | none => rw [hh] at hi; cases hi
      | some held =>
      rw [hh] at hi
      cases hi
      have hhm := List.mem_of_getElem? hh
      have hsd := hstl held hhm
      obtain ⟨hfd, hpl⟩ := tn.lens held hhm
      have hlmA : ∀ {Hx}, Gx H Hx → Hx lm = some (.lst vlm) ∧ KeyAll Hx ((movesOf x.n x.fs x.b).map Ln.d) vlm := fun {Hx} gg => ⟨gg.kp lm _ hlm (fun _ z => by cases z), mono_all gg hvlm⟩
      obtain ⟨hl1, hl2⟩ := hlmA M.gx
      refine s_forL (ds := (movesOf x.n x.fs x.b).map Ln.d) (l := lm) (vs := vlm) (ev_fldR (P := PV (.ref lm)) (i := 0) rfl (M.gx.kp s _ hs (fun _ z => by cases z)) S.cl S.n4 fs4 rfl) hl1 hl2
        (fun j σ' H10 => (∃ x5 x6, σ' = [some (.ref s), some (.ref df), some (.ref la), some xv, some (.ref lg), x5, x6, none, none]) ∧ Tk H'' H10 ∧ MidS w x df la lg vla H H10 d found layer (((movesOf x.n x.fs x.b).take j).foldl (Lost.addOne (nextP (partsW x.ws)) held) (stAt i)))
        (fun H10 e10 => ⟨⟨_, _, rfl⟩, e10.tk, M.gxx e10⟩) (fun j σ' H10 p => ⟨p.2.1, (hlmA p.2.2.gx).1⟩) (fun j ld xl σ' H10 hj p hxl => ?_) (fun σ' H10 p => ?_)
      · obtain ⟨⟨x5, x6, rfl⟩, tk10, M10⟩ := p
        rw [List.getElem?_map] at hj
        cases hlj : (movesOf x.n x.fs x.b)[j]? with
        | none => rw [hlj] at hj; cases hj
        | some l =>
        rw [hlj] at hj
        cases hj
        have hlmem := List.mem_of_getElem? hlj
        have hin := lnIn_moves ok.m.r hlmem
        have hx10 := tk10.d hx
        have hstep : ((movesOf x.n x.fs x.b).take (j + 1)).foldl (Lost.addOne (nextP (partsW x.ws)) held) (stAt i) = Lost.addOne (nextP (partsW x.ws)) held (((movesOf x.n x.fs x.b).take j).foldl (Lost.addOne (nextP (partsW x.ws)) held) (stAt i)) l := by
          rw [take_succ_of hlj, List.foldl_append]; rfl
        rw [hstep]
        generalize ((movesOf x.n x.fs x.b).take j).foldl (Lost.addOne (nextP (partsW x.ws)) held) (stAt i) = st at M10
        refine q_asg (ev_meth (C := C) (sd := sdOf x) (⟨x, held, l⟩ : BArg) (hT.mono M10.gx) (ev_var (P := PSr w C (sdOf x)) (Mono.mono M10.gx h0) rfl) rfl (ea_cons (ev_var (P := PD (numD held)) hx10 rfl) (ea_cons (ev_var (P := PD l.d) hxl rfl) ea_nil)) ⟨ok, hsd, hlmem⟩ fun _ _ _ _ _ => fsN (by decide +kernel) (by decide +kernel) (by decide +kernel) (by decide +kernel) (by decide +kernel)) fun av H11 e11 hav => ?_
        have hav : KeyH H11 (optI (nextP (partsW x.ws) held l)) av := hav
        have M11 := M10.gxx e11
        cases hnx : nextP (partsW x.ws) held l with
        | none =>
          rw [hnx] at hav
          have hadd : Lost.addOne (nextP (partsW x.ws)) held st l = st := by unfold Lost.addOne; rw [hnx]
          rw [hadd]
          exact s_if (b := false) (et_is (et_and (a := false) (b := false) (et_is (et_B (ev_nNon (k := .none) (ev_var (P := PD .none) hav rfl))) (by simp)) fun z => Bool.noConfusion z) rfl) (fun z => Bool.noConfusion z) fun _ H12 e12 => ⟨⟨_, _, rfl⟩, (tk10.trans e11.tk).trans e12.tk, M11.gxx e12⟩
        | some a =>
          rw [hnx] at hav
          have hav : KeyH H11 (numD a) av := hav
          obtain ⟨kvs1, mk1, fk1⟩ := M11.fnd
          have adep : (numD a).depth ≤ 8 := by have := numD_dep a; omega
          refine s_if (b := true && !decide (a ∈ st.1.map (·.1))) (et_and (et_is (et_B (ev_nNon (k := numD a) (ev_var (P := PD (numD a)) hav rfl))) (by simp [numD])) fun _ => et_B (ev_isB (ev_mnin (k := numD a) (ev_var (P := PD (numD a)) hav rfl) (ev_var (P := PM w kvs1) ⟨df, rfl, mk1⟩ rfl) adep (keyNum _)) (congrArg (fun z => !z) ((frel_in numD_inj fk1 a).trans (decide_eq_decide.mpr Iff.rfl))))) (fun hb2 H12 e12 => ?_) fun hb2 H12 e12 => ?_
          · have hnew : a ∉ st.1.map (·.1) := by simpa using hb2
            have hadd : Lost.addOne (nextP (partsW x.ws)) held st l = (st.1 ++ [(a, Lost.pathOf st.1 held ++ [l])], st.2 ++ [a]) := by
              unfold Lost.addOne
              rw [hnx]
              simp only []
              rw [if_neg hnew]
            have mid' := Lost.mid_one (l := l) hlmem hfd hpl M10.mid
            have M12 := M11.gxx e12
            obtain ⟨kvs, mk, fk⟩ := M12.fnd
            have hkl : kvs.length ≤ 1331 := by rw [frel_len fk]; exact hU M12.mid.good
            have hheld : held ∈ st.1.map (·.1) := by
              obtain ⟨gg, a1, _⟩ := M12.mid.app
              rw [a1, List.map_append]
              exact List.mem_append_left _ hfd
            have hplen : (Lost.pathOf st.1 held).length ≤ 1331 := by
              obtain ⟨gg, a1, _⟩ := M12.mid.app
              rw [a1, Lost.pathOf_app hfd, hpl]
              omega
            obtain ⟨pv, hpv1, hpv2⟩ := frel_get numD_inj fk hheld
            have hx12 := mono_d e12 (mono_d e11 hx10)
            have hxl12 := mono_d e12 (mono_d e11 hxl)
            refine s_mput (P := PD (progD (Lost.pathOf st.1 held ++ [l]))) (kvs := kvs) (k := numD a) (ev_var (P := PV (.ref df)) rfl rfl) mk (ev_var (P := PD (numD a)) (mono_d e12 hav) rfl) adep (keyNum _) (by omega) ?_ (fun tk h => tk.d h) fun v φ H13 e13 hv13 m13 ⟨φ0, hφ0⟩ => ?_
            · unfold progD
              rw [List.map_append]
              exact ev_catA (es := [l.d]) (ev_mget (P := PD (progD (Lost.pathOf st.1 held))) (kvs := kvs) (k := numD held) (v := pv) (ev_var (P := PM w kvs) ⟨df, rfl, mk⟩ rfl) (ev_var (P := PD (numD held)) hx12 rfl) (by have := numD_dep held; omega) (keyNum _) hpv1 hpv2) (ev_tup (ds := [l.d]) (ea_cons (ev_var (P := PD l.d) hxl12 rfl) ea_nil) (by simp)) (by simp; omega)
            have M13 := M12.gxx e13
            have g5 : Gm df H13 (upd H13 df (.ext φ)) := Gm.updE hφ0
            obtain ⟨us, lu1, lu2⟩ := M13.lat
            have lu3 := g5.lst (Ne.symm ndflg) lu1
            have lay3 := g5.lst nla M13.lay.1
            have lay4 := g5.tk.all M13.lay.2
            have lu4 := g5.tk.all lu2
            have gx5 : Gx H (upd H13 df (.ext φ)) := M13.gx.mut hdfH
            have hav5 := g5.tk.d (mono_d e13 (mono_d e12 hav))
            have fk13 : FFnd H13 st.1 kvs := frel_mono fk fun _ _ h => mono_d e13 h
            have fk5 : FFnd (upd H13 df (.ext φ)) (st.1 ++ [(a, Lost.pathOf st.1 held ++ [l])]) (putK kvs (numD a) v) := frel_put numD_inj (frel_mono fk13 fun _ _ h => g5.tk.d h) hnew (g5.tk.d hv13)
            have tk5 : Tk H'' (upd H13 df (.ext φ)) := (((tk10.trans e11.tk).trans e12.tk).trans e13.tk).trans g5.tk
            generalize upd H13 df (.ext φ) = H14 at g5 lu3 lay3 lay4 lu4 gx5 hav5 fk5 tk5 m13
            have hul : us.length ≤ 1331 := by
              rw [ka_len lu4, List.length_map]
              obtain ⟨gg, a1, a2, _⟩ := M12.mid.app
              have := hU M12.mid.good
              rw [a1, List.length_append] at this
              rw [← a2, List.length_map]
              omega
            refine s_app (d := numD a) (ev_var (P := PV (.ref lg)) rfl rfl) lu3 (ev_var (P := PD (numD a)) hav5 rfl) (by omega) fun v6 H15 e15 hv6 => ?_
            have lu6 := e15.kp lg _ lu3 (fun _ z => by cases z)
            have g7' : Gm lg H15 (upd H15 lg (.lst (us ++ [v6]))) := Gm.updL lu6
            refine ⟨⟨_, _, rfl⟩, (tk5.trans e15.tk).trans g7'.tk, ?_⟩
            rw [hadd]
            refine ⟨(gx5.trans e15).mut nlgH, ?_, ⟨_, g7'.map ndflg (e15.map m13), frel_mono fk5 fun _ _ h => g7'.tk.d (mono_d e15 h)⟩, ⟨us ++ [v6], upd_same, ?_⟩, g7'.lst nlalg (e15.kp la _ lay3 (fun _ z => by cases z)), g7'.tk.all (mono_all e15 lay4)⟩
            · rw [← hadd]; exact mid'
            · rw [List.map_append]
              exact ka_app (g7'.tk.all (mono_all e15 lu4)) (ka_one (g7'.tk.d hv6))
          · have hold : a ∈ st.1.map (·.1) := Decidable.byContradiction fun z => by rw [decide_eq_false z] at hb2; cases hb2
            have hadd : Lost.addOne (nextP (partsW x.ws)) held st l = st := by
              unfold Lost.addOne
              rw [hnx]
              simp only []
              rw [if_pos hold]
            rw [hadd]
            exact ⟨⟨_, _, rfl⟩, (tk10.trans e11.tk).trans e12.tk, M11.gxx e12⟩
      · obtain ⟨⟨x5, x6, rfl⟩, tk10, M10⟩ := p
        rw [List.length_map, List.take_length] at M10
        refine ⟨⟨_, _, _, rfl⟩, tk.trans tk10, ?_⟩
        show MidS w x df la lg vla H H10 d found layer ((layer.take (i + 1)).foldl _ (found, []))
        rw [take_succ_of hh, List.foldl_append]
        exact M10
    · obtain ⟨⟨x3, x5, x6, rfl⟩, tk, M⟩ := p
      have hst : stAt layer.length = Lost.layerOf (nextP (partsW x.ws)) (movesOf x.n x.fs x.b) found layer := by
        show (layer.take layer.length).foldl _ _ = _
        rw [List.take_length]
        rfl
      rw [List.length_map, hst] at M
      refine s_asg (P := PV (.ref lg)) (ev_var (P := PV (.ref lg)) rfl rfl) fun v8 H8 e8 hv8 => ?_
      have hv8 : v8 = .ref lg := hv8
      subst hv8
      have M8 := M.gxx e8
      obtain ⟨kvs8, mk8, fk8⟩ := M8.fnd
      obtain ⟨us8, l81, l82⟩ := M8.lat
      exact ⟨⟨d + 1, _, _, lg, us8, kvs8, _, _, _, _, rfl, tn', rfl, mk8, fk8, Ne.symm ndflg, nlgH, l81, l82⟩, M8.gx⟩
  · have he : layer = [] := by simpa using hb
    subst he
    exact s_ret (P := PD .none) ev_non fun v H10 e10 hv => k v H10 ((g.trans e6).trans e10) ⟨none, tn.stop, hv⟩
theorem ok_shortestS {c Pt : Addr} {k : Nat} (F : Df K "shortest" "Search.shortest" D_Search_shortest.st [] fS c) (B : Bi mg) (S : Sc K C fI fB fS) (TB : TabB base mg c Pt) (hP : Pt ∈ T) (F1 : Fm P w K mg base CX0 k fB [] (sp_behindS w C T)) : Fm P w K mg base CX0 (k + 2) fS [] (sp_shortestS w C T) := by
  obtain ⟨fd, h1, h2⟩ := F.ok (P := P) (w := w) (mg := mg) (base := base) (CX := CX0) (k := k + 1) (sp := sp_shortestS w C T) (N := D_Search_shortest.N) (ps := D_Search_shortest.ps) D_Search_shortest.S (spP_len fun _ => rfl) fun cdv A outer s H vs Q E hc hr h => ⟨_, PSs.nox (D_Search_shortest.d (k := k) B hr TB hc S.cl S.mB F1), pure_shortestS hP S vs H Q E h⟩
  exact ⟨fd, _, [], h1, h2.bindsN (fun _ _ _ _ _ _ us hl => match us, hl with | [_], _ => rfl), .nil⟩
end
end LX

set_option maxRecDepth 100000
set_option maxHeartbeats 4000000
namespace LX
open PySem PySem.Spec PyProof.Rows L2 MDict GxR GQ

namespace D_shortest
abbrev st : Stmt := top 32
abbrev N : List Str := ["machine", "wishes"]
abbrev ps : List Str := ["machine", "wishes"]
theorem S : FnScope N ps (defScope st) := ⟨rfl, rfl, rfl, by decide +kernel, rfl, by decide +kernel, by decide +kernel⟩
def t (K : PySem.W.Frag) (w : World) (sp_need_both : Sp) (sp_best : Sp) : TS :=
  (tSeq (tDrop (tCall sp_need_both [] E0 (tCons (tVar 0) (tCons (tVar 1) tNil))))
  (tRet (tCall sp_best [] E0 (tCons (tVar 0) (tCons (tVar 1) (tCons (tC (.bl false)) tNil))))))
theorem d {P : Program} {w : World} {K : PySem.W.Frag} {mg : Str → Option Value} {base : Heap} {f : Addr} {cdv : Value} {A : Around} {outer : List Env} {s : Shared} {H : Hp} {E : XK} {k : Nat} {sp_need_both : Sp} {sp_best : Sp} (B : Bi mg) (hr : Room (k) (A.deeper (envOfC "shortest" (defScope st) s.heap.objs.size f cdv))) (F_need_both : Fc P w K mg base CX0 k "need_both" [] sp_need_both) (F_best : Fc P w K mg base CX0 k "best" [] sp_best) :
    PSs (cxOf CX0 P w K mg base N "shortest" (defScope st) f cdv A outer s H E).nox (defBody st) (t K w sp_need_both sp_best) :=
  (pss_cons (ps_expr (x_call F_need_both (hr.mono (by omega)) (by exact (pa_cons (pv 0) (pa_cons (pv 1) pa_nil)))))
  (pss_one (ps_ret (x_call F_best (hr.mono (by omega)) (by exact (pa_cons (pv 0) (pa_cons (pv 1) (pa_cons x_false pa_nil))))))))
end D_shortest

namespace D_shortest_gentle
abbrev st : Stmt := top 33
abbrev N : List Str := ["machine", "wishes"]
abbrev ps : List Str := ["machine", "wishes"]
theorem S : FnScope N ps (defScope st) := ⟨rfl, rfl, rfl, by decide +kernel, rfl, by decide +kernel, by decide +kernel⟩
def t (K : PySem.W.Frag) (w : World) (sp_need_both : Sp) (sp_best : Sp) : TS :=
  (tSeq (tDrop (tCall sp_need_both [] E0 (tCons (tVar 0) (tCons (tVar 1) tNil))))
  (tRet (tCall sp_best [] E0 (tCons (tVar 0) (tCons (tVar 1) (tCons (tC (.bl true)) tNil))))))
theorem d {P : Program} {w : World} {K : PySem.W.Frag} {mg : Str → Option Value} {base : Heap} {f : Addr} {cdv : Value} {A : Around} {outer : List Env} {s : Shared} {H : Hp} {E : XK} {k : Nat} {sp_need_both : Sp} {sp_best : Sp} (B : Bi mg) (hr : Room (k) (A.deeper (envOfC "shortest_gentle" (defScope st) s.heap.objs.size f cdv))) (F_need_both : Fc P w K mg base CX0 k "need_both" [] sp_need_both) (F_best : Fc P w K mg base CX0 k "best" [] sp_best) :
    PSs (cxOf CX0 P w K mg base N "shortest_gentle" (defScope st) f cdv A outer s H E).nox (defBody st) (t K w sp_need_both sp_best) :=
  (pss_cons (ps_expr (x_call F_need_both (hr.mono (by omega)) (by exact (pa_cons (pv 0) (pa_cons (pv 1) pa_nil)))))
  (pss_one (ps_ret (x_call F_best (hr.mono (by omega)) (by exact (pa_cons (pv 0) (pa_cons (pv 1) (pa_cons x_true pa_nil))))))))
end D_shortest_gentle

namespace D_least_lines
abbrev st : Stmt := top 34
abbrev N : List Str := ["machine", "wishes", "found"]
abbrev ps : List Str := ["machine", "wishes"]
theorem S : FnScope N ps (defScope st) := ⟨rfl, rfl, rfl, by decide +kernel, rfl, by decide +kernel, by decide +kernel⟩
def t (K : PySem.W.Frag) (w : World) (sp_need_both : Sp) (sp_best : Sp) : TS :=
  (tSeq (tDrop (tCall sp_need_both [] E0 (tCons (tVar 0) (tCons (tVar 1) tNil))))
  (tSeq (tAsg (tCall sp_best [] E0 (tCons (tVar 0) (tCons (tVar 1) (tCons (tC (.bl false)) tNil)))) (gName 2))
  (tRet (tIf (tB (tIsN (tVar 2))) (tC .non) (tCB (rLenV K) (tCons (tVar 2) tNil))))))
theorem d {P : Program} {w : World} {K : PySem.W.Frag} {mg : Str → Option Value} {base : Heap} {f : Addr} {cdv : Value} {A : Around} {outer : List Env} {s : Shared} {H : Hp} {E : XK} {k : Nat} {sp_need_both : Sp} {sp_best : Sp} (B : Bi mg) (hr : Room (k) (A.deeper (envOfC "least_lines" (defScope st) s.heap.objs.size f cdv))) (F_need_both : Fc P w K mg base CX0 k "need_both" [] sp_need_both) (F_best : Fc P w K mg base CX0 k "best" [] sp_best) :
    PSs (cxOf CX0 P w K mg base N "least_lines" (defScope st) f cdv A outer s H E).nox (defBody st) (t K w sp_need_both sp_best) :=
  (pss_cons (ps_expr (x_call F_need_both (hr.mono (by omega)) (by exact (pa_cons (pv 0) (pa_cons (pv 1) pa_nil)))))
  (pss_cons (x_set (i := 2) S.nd (x_call F_best (hr.mono (by omega)) (by exact (pa_cons (pv 0) (pa_cons (pv 1) (pa_cons x_false pa_nil))))))
  (pss_one (ps_ret (pe_ifExp (y_isN (pv 2)) pe_non (x_len B (pv 2)))))))
end D_least_lines

namespace D_least_gentle_lines
abbrev st : Stmt := top 35
abbrev N : List Str := ["machine", "wishes", "found"]
abbrev ps : List Str := ["machine", "wishes"]
theorem S : FnScope N ps (defScope st) := ⟨rfl, rfl, rfl, by decide +kernel, rfl, by decide +kernel, by decide +kernel⟩
def t (K : PySem.W.Frag) (w : World) (sp_need_both : Sp) (sp_best : Sp) : TS :=
  (tSeq (tDrop (tCall sp_need_both [] E0 (tCons (tVar 0) (tCons (tVar 1) tNil))))
  (tSeq (tAsg (tCall sp_best [] E0 (tCons (tVar 0) (tCons (tVar 1) (tCons (tC (.bl true)) tNil)))) (gName 2))
  (tRet (tIf (tB (tIsN (tVar 2))) (tC .non) (tCB (rLenV K) (tCons (tVar 2) tNil))))))
theorem d {P : Program} {w : World} {K : PySem.W.Frag} {mg : Str → Option Value} {base : Heap} {f : Addr} {cdv : Value} {A : Around} {outer : List Env} {s : Shared} {H : Hp} {E : XK} {k : Nat} {sp_need_both : Sp} {sp_best : Sp} (B : Bi mg) (hr : Room (k) (A.deeper (envOfC "least_gentle_lines" (defScope st) s.heap.objs.size f cdv))) (F_need_both : Fc P w K mg base CX0 k "need_both" [] sp_need_both) (F_best : Fc P w K mg base CX0 k "best" [] sp_best) :
    PSs (cxOf CX0 P w K mg base N "least_gentle_lines" (defScope st) f cdv A outer s H E).nox (defBody st) (t K w sp_need_both sp_best) :=
  (pss_cons (ps_expr (x_call F_need_both (hr.mono (by omega)) (by exact (pa_cons (pv 0) (pa_cons (pv 1) pa_nil)))))
  (pss_cons (x_set (i := 2) S.nd (x_call F_best (hr.mono (by omega)) (by exact (pa_cons (pv 0) (pa_cons (pv 1) (pa_cons x_true pa_nil))))))
  (pss_one (ps_ret (pe_ifExp (y_isN (pv 2)) pe_non (x_len B (pv 2)))))))
end D_least_gentle_lines

namespace D_need_both
abbrev st : Stmt := top 31
abbrev N : List Str := ["machine", "wishes"]
abbrev ps : List Str := ["machine", "wishes"]
theorem S : FnScope N ps (defScope st) := ⟨rfl, rfl, rfl, by decide +kernel, rfl, by decide +kernel, by decide +kernel⟩
def t (K : PySem.W.Frag) (w : World) (sp_need_machine : Sp) (sp_need_wishes : Sp) : TS :=
  (tSeq (tDrop (tCall sp_need_machine [] E0 (tCons (tVar 0) tNil)))
  (tDrop (tCall sp_need_wishes [] E0 (tCons (tVar 0) (tCons (tVar 1) tNil)))))
theorem d {P : Program} {w : World} {K : PySem.W.Frag} {mg : Str → Option Value} {base : Heap} {f : Addr} {cdv : Value} {A : Around} {outer : List Env} {s : Shared} {H : Hp} {E : XK} {k : Nat} {sp_need_machine : Sp} {sp_need_wishes : Sp} (B : Bi mg) (hr : Room (k) (A.deeper (envOfC "need_both" (defScope st) s.heap.objs.size f cdv))) (F_need_machine : Fc P w K mg base CX0 k "need_machine" [] sp_need_machine) (F_need_wishes : Fc P w K mg base CX0 k "need_wishes" [] sp_need_wishes) :
    PSs (cxOf CX0 P w K mg base N "need_both" (defScope st) f cdv A outer s H E).nox (defBody st) (t K w sp_need_machine sp_need_wishes) :=
  (pss_cons (ps_expr (x_call F_need_machine (hr.mono (by omega)) (by exact (pa_cons (pv 0) pa_nil))))
  (pss_one (ps_expr (x_call F_need_wishes (hr.mono (by omega)) (by exact (pa_cons (pv 0) (pa_cons (pv 1) pa_nil)))))))
end D_need_both

namespace D_shows_shortest
abbrev st : Stmt := top 39
abbrev N : List Str := ["machine", "wishes", "value"]
abbrev ps : List Str := ["machine", "wishes", "value"]
theorem S : FnScope N ps (defScope st) := ⟨rfl, rfl, rfl, by decide +kernel, rfl, by decide +kernel, by decide +kernel⟩
def t (K : PySem.W.Frag) (w : World) (sp_need_both : Sp) (sp_shows_best : Sp) : TS :=
  (tSeq (tDrop (tCall sp_need_both [] E0 (tCons (tVar 0) (tCons (tVar 1) tNil))))
  (tRet (tCall sp_shows_best [] E0 (tCons (tVar 0) (tCons (tVar 1) (tCons (tC (.bl false)) (tCons (tVar 2) tNil)))))))
theorem d {P : Program} {w : World} {K : PySem.W.Frag} {mg : Str → Option Value} {base : Heap} {f : Addr} {cdv : Value} {A : Around} {outer : List Env} {s : Shared} {H : Hp} {E : XK} {k : Nat} {sp_need_both : Sp} {sp_shows_best : Sp} (B : Bi mg) (hr : Room (k) (A.deeper (envOfC "shows_shortest" (defScope st) s.heap.objs.size f cdv))) (F_need_both : Fc P w K mg base CX0 k "need_both" [] sp_need_both) (F_shows_best : Fc P w K mg base CX0 k "shows_best" [] sp_shows_best) :
    PSs (cxOf CX0 P w K mg base N "shows_shortest" (defScope st) f cdv A outer s H E).nox (defBody st) (t K w sp_need_both sp_shows_best) :=
  (pss_cons (ps_expr (x_call F_need_both (hr.mono (by omega)) (by exact (pa_cons (pv 0) (pa_cons (pv 1) pa_nil)))))
  (pss_one (ps_ret (x_call F_shows_best (hr.mono (by omega)) (by exact (pa_cons (pv 0) (pa_cons (pv 1) (pa_cons x_false (pa_cons (pv 2) pa_nil)))))))))
end D_shows_shortest

namespace D_shows_shortest_gentle
abbrev st : Stmt := top 40
abbrev N : List Str := ["machine", "wishes", "value"]
abbrev ps : List Str := ["machine", "wishes", "value"]
theorem S : FnScope N ps (defScope st) := ⟨rfl, rfl, rfl, by decide +kernel, rfl, by decide +kernel, by decide +kernel⟩
def t (K : PySem.W.Frag) (w : World) (sp_need_both : Sp) (sp_shows_best : Sp) : TS :=
  (tSeq (tDrop (tCall sp_need_both [] E0 (tCons (tVar 0) (tCons (tVar 1) tNil))))
  (tRet (tCall sp_shows_best [] E0 (tCons (tVar 0) (tCons (tVar 1) (tCons (tC (.bl true)) (tCons (tVar 2) tNil)))))))
theorem d {P : Program} {w : World} {K : PySem.W.Frag} {mg : Str → Option Value} {base : Heap} {f : Addr} {cdv : Value} {A : Around} {outer : List Env} {s : Shared} {H : Hp} {E : XK} {k : Nat} {sp_need_both : Sp} {sp_shows_best : Sp} (B : Bi mg) (hr : Room (k) (A.deeper (envOfC "shows_shortest_gentle" (defScope st) s.heap.objs.size f cdv))) (F_need_both : Fc P w K mg base CX0 k "need_both" [] sp_need_both) (F_shows_best : Fc P w K mg base CX0 k "shows_best" [] sp_shows_best) :
    PSs (cxOf CX0 P w K mg base N "shows_shortest_gentle" (defScope st) f cdv A outer s H E).nox (defBody st) (t K w sp_need_both sp_shows_best) :=
  (pss_cons (ps_expr (x_call F_need_both (hr.mono (by omega)) (by exact (pa_cons (pv 0) (pa_cons (pv 1) pa_nil)))))
  (pss_one (ps_ret (x_call F_shows_best (hr.mono (by omega)) (by exact (pa_cons (pv 0) (pa_cons (pv 1) (pa_cons x_true (pa_cons (pv 2) pa_nil)))))))))
end D_shows_shortest_gentle

namespace D_is_plain
abbrev st : Stmt := top 37
abbrev N : List Str := ["value", "parts", "part"]
abbrev ps : List Str := ["value"]
theorem S : FnScope N ps (defScope st) := ⟨rfl, rfl, rfl, by decide +kernel, rfl, by decide +kernel, by decide +kernel⟩
def t (K : PySem.W.Frag) (w : World) (Pt : Addr) : TS :=
  (tSeq (tIfS (tOr (tNot (tB (tCB (rIsi K) (tCons (tVar 0) (tCons (tC (.ty "tuple")) tNil))))) (tOr (tTest (tOp (rNeD K) (tCB (rLenV K) (tCons (tVar 0) tNil)) (tC (.int 3)))) (tNot (tB (tCB (rIsi K) (tCons (tOp (rIxT K) (tVar 0) (tC (.int 2))) (tCons (tC (.ty "tuple")) tNil))))))) (tRet (tC (.bl false))) tNext)
  (tSeq (tAsg (tOp (rCatA K) (tOp (rCatA K) (tTup (tCons (tOp (rIxT K) (tVar 0) (tC (.int 0))) tNil)) (tOp (rIxT K) (tVar 0) (tC (.int 2)))) (tIf (tB (tIsN (tOp (rIxT K) (tVar 0) (tC (.int 1))))) (tTup tNil) (tTup (tCons (tOp (rIxT K) (tVar 0) (tC (.int 1))) tNil)))) (gName 1))
  (tRet (tQu Pt true (iTup K (tVar 1)) (gName 2) (tAndV (tCB (rIsi K) (tCons (tVar 2) (tCons (tC (.ty "int")) tNil))) (tNotV (tCB (rIsi K) (tCons (tVar 2) (tCons (tC (.ty "bool")) tNil))))) [2]))))
theorem d {P : Program} {w : World} {K : PySem.W.Frag} {mg : Str → Option Value} {base : Heap} {f c Pt : Addr} {cdv : Value} {A : Around} {outer : List Env} {s : Shared} {H : Hp} {E : XK} {k : Nat} (B : Bi mg) (hr : Room (k + 1) (A.deeper (envOfC "is_plain" (defScope st) s.heap.objs.size f cdv))) (TB : TabB base mg c Pt) (hcd : cdv = .ref c) :
    PSs (cxOf CX0 P w K mg base N "is_plain" (defScope st) f cdv A outer s H E).nox (defBody st) (t K w Pt) :=
  (pss_cons (ps_if ((pw_or (pt_not (pt_val (x_isi B (pv 0) (x_ty B.tuple boot_tuple')))) (pw_or (y_neD (u64 hr) (x_len B (pv 0)) pe_int) (pw_or1 (pt_not (pt_val (x_isi B (x_ixT (pv 0) pe_int) (x_ty B.tuple boot_tuple')))))))).pt (pss_one (ps_ret x_false)) pss_nil)
  (pss_cons (x_set (i := 1) S.nd (pe_op op_catA (pe_op op_catA (pe_tup (by exact (pa_cons (x_ixT (pv 0) pe_int) pa_nil))) (x_ixT (pv 0) pe_int)) (pe_ifExp (y_isN (x_ixT (pv 0) pe_int)) (pe_tup (by exact pa_nil)) (pe_tup (by exact (pa_cons (x_ixT (pv 0) pe_int) pa_nil))))))
  (pss_one (ps_ret (x_all (own := [("part", 2)]) (g := (gName 2)) hr B rfl S.nd TB hcd (gscope_by (N := N) (sc := defScope st) (by decide +kernel)) (pi_tup (pv 1)) (fun _ _ _ _ _ _ _ => (g_nm 2 S.nd)) (fun _ _ _ _ _ _ _ hr => (pe_and (x_isi B (pv 2) (x_ty B.int boot_int')) (pe_one (pe_not (x_isi B (pv 2) (x_ty B.bool boot_bool')))))))))))
end D_is_plain

namespace D_is_program
abbrev st : Stmt := top 36
abbrev N : List Str := ["machine", "value", "lines", "line"]
abbrev ps : List Str := ["machine", "value"]
theorem S : FnScope N ps (defScope st) := ⟨rfl, rfl, rfl, by decide +kernel, rfl, by decide +kernel, by decide +kernel⟩
def t (K : PySem.W.Frag) (w : World) (Pt : Addr) (sp_all_lines : Sp) (sp_is_plain : Sp) : TS :=
  (tSeq (tAsg (tMdc w (iList K (tCall sp_all_lines [] E0 (tCons (tVar 0) tNil))) (gName 3) tYes (tVar 3) (tC (.bl true)) [3]) (gName 2))
  (tSeq (tIfS (tOr (tNot (tB (tCB (rIsi K) (tCons (tVar 1) (tCons (tC (.ty "tuple")) tNil))))) (tTest (tOp rGt (tCB (rLenV K) (tCons (tVar 1) tNil)) (tC (.int 60))))) (tRet (tC (.bl false))) tNext)
  (tRet (tQu Pt true (iTup K (tVar 1)) (gName 3) (tAndV (tCall sp_is_plain [] E0 (tCons (tVar 3) tNil)) (tMIn w (tVar 3) (tVar 2))) [3]))))
theorem d {P : Program} {w : World} {K : PySem.W.Frag} {mg : Str → Option Value} {base : Heap} {f c Pt : Addr} {cdv : Value} {A : Around} {outer : List Env} {s : Shared} {H : Hp} {E : XK} {k : Nat} {sp_all_lines : Sp} {sp_is_plain : Sp} (B : Bi mg) (hr : Room (k + 1) (A.deeper (envOfC "is_program" (defScope st) s.heap.objs.size f cdv))) (TB : TabB base mg c Pt) (hcd : cdv = .ref c) (g_MOST_LINES : ∃ t, mg "MOST_LINES" = some (.int 60 t)) (F_all_lines : Fc P w K mg base CX0 k "all_lines" [] sp_all_lines) (F_is_plain : Fc P w K mg base CX0 k "is_plain" [] sp_is_plain) :
    PSs (cxOf CX0 P w K mg base N "is_program" (defScope st) f cdv A outer s H E).nox (defBody st) (t K w Pt sp_all_lines sp_is_plain) :=
  (pss_cons (x_set (i := 2) S.nd (pe_mdc (own := [("line", 3)]) (g := (gName 3)) (tt := tYes) (u9 hr) rfl S.nd (pi_list (x_call F_all_lines (hr.mono (by omega)) (by exact (pa_cons (pv 0) pa_nil)))) (blkOk_by (N := N) (sc := defScope st) (by decide +kernel)) (fun _ _ _ _ _ => (g_nm 3 S.nd)) (fun _ _ _ _ _ => pts_nil) (fun _ _ _ _ _ => (pv 3)) (fun _ _ _ _ _ => x_true)))
  (pss_cons (ps_if ((pw_or (pt_not (pt_val (x_isi B (pv 1) (x_ty B.tuple boot_tuple')))) (pw_or1 (y_gt (x_len B (pv 1)) (x_gint g_MOST_LINES))))).pt (pss_one (ps_ret x_false)) pss_nil)
  (pss_one (ps_ret (x_all (own := [("line", 3)]) (g := (gName 3)) hr B rfl S.nd TB hcd (gscope_by (N := N) (sc := defScope st) (by decide +kernel)) (pi_tup (pv 1)) (fun _ _ _ _ _ _ _ => (g_nm 3 S.nd)) (fun _ _ _ _ _ _ _ hr => (pe_and (x_call F_is_plain (hr.mono (by omega)) (by exact (pa_cons (pv 3) pa_nil))) (pe_one (x_inM (u9 hr) (pv 3) (pv 2))))))))))
end D_is_program

end LX

set_option maxRecDepth 100000
set_option maxHeartbeats 8000000
namespace LX
open PySem PySem.Spec PyProof.Rows L2 MDict GxR GQ
namespace D_best
abbrev st : Stmt := top 30
abbrev N : List Str := ["machine", "wishes", "gentle"]
abbrev ps : List Str := ["machine", "wishes", "gentle"]
theorem S : FnScope N ps (defScope st) := ⟨rfl, rfl, rfl, by decide +kernel, rfl, by decide +kernel, by decide +kernel⟩
def t (C : Addr) (spI spS : Sp) : TS := tRet (tMeth C "shortest" spS [] E0 (tMake C spI [] E0 (tCons (tVar 0) (tCons (tVar 1) (tCons (tVar 2) tNil)))) tNil)
theorem d {P : Program} {w : World} {K : PySem.W.Frag} {mg : Str → Option Value} {base : Heap} {f C fI fS : Addr} {cdv : Value} {A : Around} {outer : List Env} {s : Shared} {H : Hp} {E : XK} {k : Nat} {spI spS : Sp} (hr : Room (k + 1) (A.deeper (envOfC "best" (defScope st) s.heap.objs.size f cdv))) (hC : mg "Search" = some (.ref C)) (T : Cls K C) (hm : Mk K C fI) (hS : Meth K C "shortest" fS) (FI : Fm P w K mg base CX0 k fI [] spI) (FS : Fm P w K mg base CX0 k fS [] spS) :
    PSs (cxOf CX0 P w K mg base N "best" (defScope st) f cdv A outer s H E).nox (defBody st) (t C spI spS) := by
  obtain ⟨fd1, ps1, ds1, i1, i2, i3⟩ := FI.ex
  obtain ⟨fd2, ps2, ds2, j1, j2, j3⟩ := FS.ex
  exact pss_one (ps_ret (pe_meth0 (pe_make hm i1 hr rfl hC i2 i3 pass0 (by exact (pa_cons (pv 0) (pa_cons (pv 1) (pa_cons (pv 2) pa_nil))))) T hS j1 (hr.mono (by omega)) j2 j3 pass0))
end D_best
section
variable {P : Program} {w : World} {K : PySem.W.Frag} {mg : Str → Option Value} {base : Heap} {T : List Addr} {C fI fB fS : Addr}
theorem ok_init {c : Addr} {k : Nat} (F : Df K "__init__" "Search.__init__" D_Search_init.st [] fI c) (B : Bi mg) (S : Sc K C fI fB fS) (F1 : Fc P w K mg base CX0 k "all_parts" [] (sp_all_parts w T)) (F2 : Fc P w K mg base CX0 k "all_lines" [] (sp_all_lines T)) (F3 : Fc P w K mg base CX0 k "is_soft" [] (sp_is_soft T)) (F4 : Fc P w K mg base CX0 k "first_terms" [] (sp_first_terms T)) (g1 : ∃ t, mg "NOTHING" = some (.int (-1) t)) : Fm P w K mg base CX0 (k + 1) fI [] (spInit w T C) := by
  obtain ⟨fd, h1, h2⟩ := F.ok (P := P) (w := w) (mg := mg) (base := base) (CX := CX0) (k := k) (sp := spInit w T C) (N := D_Search_init.N) (ps := D_Search_init.ps) D_Search_init.S (fun vs H Q E h => by
    obtain ⟨_, x, s, dx, r, _, rfl, ⟨_, _, rfl, _, _, _, rfl, _, _, _, rfl, _, rfl⟩, _⟩ := h
    rfl) fun cdv A outer s H vs Q E hc hr h => ⟨_, PSs.nox (D_Search_init.d (k := k) B hr g1 F1 F2 F3 F4), pure_init S vs H Q E h⟩
  exact ⟨fd, _, [], h1, h2.bindsN (fun _ _ _ _ _ _ us hl => match us, hl with | [_, _, _, _], _ => rfl), .nil⟩
theorem q_drop {σ : L2.St} {H : Hp} {te : TE} {Dn : Ends} {tz : TS} {P : V → Hp → Prop} (h : Ev te σ H P) (k : ∀ H1, Gx H H1 → tz Dn σ H1) : tSeq (tDrop te) tz Dn σ H := h H (Gx.refl H) _ fun v H1 e _ => k H1 e
theorem s_drop {σ : L2.St} {H : Hp} {te : TE} {Dn : Ends} {P : V → Hp → Prop} (h : Ev te σ H P) (k : ∀ H1, Gx H H1 → Dn.nx σ H1) : tDrop te Dn σ H := h H (Gx.refl H) _ fun v H1 e _ => k H1 e
def RBest (x : FArg) (v : V) (H : Hp) : Prop := ∃ p, LeastP x p ∧ KeyH H (pathD p) v
def sp_best (T : List Addr) : Sp := spP (α := FArg) T FOk (fun x => [PD (mD x.n x.fs), PD (wsD x.ws), PB x.b]) RBest
theorem pure_best : ∀ vs H Q E, sp_best T vs H Q E → D_best.t C (spInit w T C) (sp_shortestS w C T) { nx := fun _ H' => Q .non H', rt := Q } (start D_best.N vs) H := by
  rintro vs H Q E ⟨hT, x, ok, ⟨v1, _, rfl, h1, v2, _, rfl, h2, v3, _, rfl, h3, rfl⟩, k⟩
  have ok : FOk x := ok
  have h1 : KeyH H (mD x.n x.fs) v1 := h1
  have h2 : KeyH H (.tup (x.ws.map wishD)) v2 := h2
  have h3 : v3 = .bl x.b := h3
  refine s_ret (P := RBest x) ?_ fun v H1 e hv => k v H1 e hv
  intro H1 e1 Q' q
  have ha : EvA (tCons (tVar 0) (tCons (tVar 1) (tCons (tVar 2) tNil))) (start D_best.N [v1, v2, v3]) H [PD (mD x.n x.fs), PD (wsD x.ws), PB x.b] := ea_cons (ev_var (P := PD (mD x.n x.fs)) h1 rfl) (ea_cons (ev_var (P := PD (wsD x.ws)) h2 rfl) (ea_cons (ev_var (P := PB x.b) h3 rfl) ea_nil))
  unfold tMeth tMake
  refine ha H1 e1 _ fun us H2 e2 hus => ?_
  intro s dx hs hdx nds
  have ga : Gx H2 (upd H2 dx (.own s)) := Gx.new hdx
  have hs3 : upd H2 dx (.own s) s = none := by rw [upd_ne (Ne.symm nds)]; exact hs
  have gb : Gx (upd H2 dx (.own s)) (upd (upd H2 dx (.own s)) s (.ins C dx [])) := Gx.new hs3
  have gab := ga.trans gb
  refine ⟨((hT.mono e1).mono e2).mono gab, x, s, dx, us, ok, by rw [List.append_nil], ?_, upd_same, fun H' g' hp => ⟨rfl, ?_⟩⟩
  · obtain ⟨v1, _, rfl, a1, v2, _, rfl, a2, v3, _, rfl, a3, rfl⟩ := hus
    exact ⟨v1, _, rfl, mono_d gab a1, v2, _, rfl, mono_d gab a2, v3, _, rfl, a3, rfl⟩
  · have gx : Gx H2 H' := Gm.gx gab hs g'
    obtain ⟨s', dx', a, b, c, d, ee, e', h1', hr⟩ := id hp
    refine ⟨s, dx', _, rfl, by cases e'; exact h1', fsN (by decide +kernel) (by decide +kernel) (by decide +kernel) (by decide +kernel) (by decide +kernel), ?_⟩
    refine ⟨((hT.mono e1).mono e2).mono gx, x, ok, ⟨_, [], rfl, hp, rfl⟩, fun v H'' e'' hr => q v H'' ((e2.trans gx).trans e'') hr⟩
theorem ok_best {f c : Addr} {k : Nat} (F : Df K "best" "best" D_best.st [] f c) (hm : mg "best" = some (.ref f)) (S : Sc K C fI fB fS) (hC : mg "Search" = some (.ref C)) (FI : Fm P w K mg base CX0 k fI [] (spInit w T C)) (FS : Fm P w K mg base CX0 k fS [] (sp_shortestS w C T)) : Fc P w K mg base CX0 (k + 2) "best" [] (sp_best T) :=
  F.fc hm D_best.S (spP_len fun _ => rfl) (fun _ _ _ _ _ _ us hl => match us, hl with | [_, _, _], _ => rfl) fun cdv A outer s H vs Q E hc hr h => ⟨_, PSs.nox (D_best.d hr hC S.cl S.mI S.mS FI FS), pure_best vs H Q E h⟩
/-! need_both .. least_gentle_lines -/
structure GOk (x : FArg) : Prop where
  f : FOk x
  w : WsOk x.n x.fs x.ws
def sp_need_both (T : List Addr) : Sp := spP (α := FArg) T GOk (fun x => [PD (mD x.n x.fs), PD (wsD x.ws)]) fun _ => PV .non
theorem pure_need_both : ∀ vs H Q E, sp_need_both T vs H Q E → D_need_both.t K w (sp_need_machine T) (sp_need_wishes T) { nx := fun _ H' => Q .non H', rt := Q } (start D_need_both.N vs) H := by
  rintro vs H Q E ⟨hT, x, ok, ⟨v1, _, rfl, h1, v2, _, rfl, h2, rfl⟩, k⟩
  have ok : GOk x := ok
  refine q_drop (ev_call (x.n, x.fs) hT (ea_cons (ev_var (P := PD (mD x.n x.fs)) h1 rfl) ea_nil) ok.f.m) fun H1 e1 => ?_
  exact s_drop (ev_call ((x.n, x.fs), x.ws) (hT.mono e1) (ea_cons (ev_var (P := PD (mD x.n x.fs)) (mono_d e1 h1) rfl) (ea_cons (ev_var (P := PD (wsD x.ws)) (mono_d e1 h2) rfl) ea_nil)) ⟨ok.f.m, ok.w⟩) fun H2 e2 => k _ H2 (e1.trans e2) rfl
theorem ok_need_both {f c : Addr} {k : Nat} (F : Df K "need_both" "need_both" D_need_both.st [] f c) (hm : mg "need_both" = some (.ref f)) (B : Bi mg) (F1 : Fc P w K mg base CX0 k "need_machine" [] (sp_need_machine T)) (F2 : Fc P w K mg base CX0 k "need_wishes" [] (sp_need_wishes T)) : Fc P w K mg base CX0 (k + 1) "need_both" [] (sp_need_both T) :=
  F.fc hm D_need_both.S (spP_len fun _ => rfl) (fun _ _ _ _ _ _ us hl => match us, hl with | [_, _], _ => rfl) fun cdv A outer s H vs Q E hc hr h => ⟨_, PSs.nox (D_need_both.d B hr F1 F2), pure_need_both vs H Q E h⟩
def FArg.wi (x : FArg) (b : Bool) : FArg := { x with b := b }
theorem FOk.wi {x : FArg} (h : FOk x) (b : Bool) : FOk (x.wi b) := ⟨h.m, h.w, h.c, h.few⟩
def sp_short (b : Bool) (T : List Addr) : Sp := spP (α := FArg) T GOk (fun x => [PD (mD x.n x.fs), PD (wsD x.ws)]) fun x => RBest (x.wi b)
def RLen (x : FArg) (v : V) (H : Hp) : Prop := ∃ p, LeastP x p ∧ KeyH H (lenD p) v
def sp_least (b : Bool) (T : List Addr) : Sp := spP (α := FArg) T GOk (fun x => [PD (mD x.n x.fs), PD (wsD x.ws)]) fun x => RLen (x.wi b)
instance {x : FArg} : Mono (RBest x) := ⟨fun g ⟨p, a, b⟩ => ⟨p, a, mono_d g b⟩⟩
theorem ev_best {σ : L2.St} {H : Hp} {x : FArg} {v1 v2 : V} (b : Bool) (hT : TabsG T H) (ok : GOk x) (h1 : KeyH H (mD x.n x.fs) v1) (h2 : KeyH H (wsD x.ws) v2) (i0 : σ[0]? = some (some v1)) (i1 : σ[1]? = some (some v2)) : Ev (tCall (sp_best T) [] E0 (tCons (tVar 0) (tCons (tVar 1) (tCons (tC (.bl b)) tNil)))) σ H (RBest (x.wi b)) :=
  ev_call (x.wi b) hT (ea_cons (ev_var (P := PD (mD x.n x.fs)) h1 i0) (ea_cons (ev_var (P := PD (wsD x.ws)) h2 i1) (ea_cons ev_bl ea_nil))) (ok.f.wi b)
theorem pure_short (b : Bool) {Q : VK} {H : Hp} {vs : List V} {E : XK} (h : sp_short b T vs H Q E) : (tSeq (tDrop (tCall (sp_need_both T) [] E0 (tCons (tVar 0) (tCons (tVar 1) tNil)))) (tRet (tCall (sp_best T) [] E0 (tCons (tVar 0) (tCons (tVar 1) (tCons (tC (.bl b)) tNil)))))) { nx := fun _ H' => Q .non H', rt := Q } (start D_shortest.N vs) H := by
  obtain ⟨hT, x, ok, ⟨v1, _, rfl, h1, v2, _, rfl, h2, rfl⟩, k⟩ := h
  have ok : GOk x := ok
  refine q_drop (ev_call x hT (ea_cons (ev_var (P := PD (mD x.n x.fs)) h1 rfl) (ea_cons (ev_var (P := PD (wsD x.ws)) h2 rfl) ea_nil)) ok) fun H1 e1 => ?_
  exact s_ret (P := RBest (x.wi b)) (ev_best b (hT.mono e1) ok (mono_d e1 h1) (mono_d e1 h2) rfl rfl) fun v H2 e2 hv => k v H2 (e1.trans e2) hv
theorem pure_least (b : Bool) {Q : VK} {H : Hp} {vs : List V} {E : XK} (h : sp_least b T vs H Q E) : (tSeq (tDrop (tCall (sp_need_both T) [] E0 (tCons (tVar 0) (tCons (tVar 1) tNil)))) (tSeq (tAsg (tCall (sp_best T) [] E0 (tCons (tVar 0) (tCons (tVar 1) (tCons (tC (.bl b)) tNil)))) (gName 2))
  (tRet (tIf (tB (tIsN (tVar 2))) (tC .non) (tCB (rLenV K) (tCons (tVar 2) tNil)))))) { nx := fun _ H' => Q .non H', rt := Q } (start D_least_lines.N vs) H := by
  obtain ⟨hT, x, ok, ⟨v1, _, rfl, h1, v2, _, rfl, h2, rfl⟩, k⟩ := h
  have ok : GOk x := ok
  refine q_drop (ev_call x hT (ea_cons (ev_var (P := PD (mD x.n x.fs)) h1 rfl) (ea_cons (ev_var (P := PD (wsD x.ws)) h2 rfl) ea_nil)) ok) fun H1 e1 => ?_
  refine q_asg (P := RBest (x.wi b)) (ev_best b (hT.mono e1) ok (mono_d e1 h1) (mono_d e1 h2) rfl rfl) fun v H2 e2 hv => ?_
  obtain ⟨p, lp, hp⟩ := hv
  refine s_ret (P := PD (lenD p)) (ev_if (b := p.isNone) (et_B (ev_isB (ev_isN (ev_var (P := PD (pathD p)) hp rfl)) (by cases p <;> rfl))) (fun hb => ?_) fun hb => ?_) fun u H3 e3 hu => k u H3 ((e1.trans e2).trans e3) ⟨p, lp, hu⟩
  · cases p with
    | none => exact ev_non
    | some p => cases hb
  · cases p with
    | none => cases hb
    | some p => exact ev_isD (ev_lenT (ks := p.map Ln.d) (ev_var (P := PD (progD p)) hp rfl)) (by rw [List.length_map]; rfl)
theorem ok_shortest {f c : Addr} {k : Nat} (F : Df K "shortest" "shortest" D_shortest.st [] f c) (hm : mg "shortest" = some (.ref f)) (B : Bi mg) (F1 : Fc P w K mg base CX0 k "need_both" [] (sp_need_both T)) (F2 : Fc P w K mg base CX0 k "best" [] (sp_best T)) : Fc P w K mg base CX0 (k + 1) "shortest" [] (sp_short false T) :=
  F.fc hm D_shortest.S (spP_len fun _ => rfl) (fun _ _ _ _ _ _ us hl => match us, hl with | [_, _], _ => rfl) fun cdv A outer s H vs Q E hc hr h => ⟨_, PSs.nox (D_shortest.d B hr F1 F2), pure_short false h⟩
theorem ok_shortest_gentle {f c : Addr} {k : Nat} (F : Df K "shortest_gentle" "shortest_gentle" D_shortest_gentle.st [] f c) (hm : mg "shortest_gentle" = some (.ref f)) (B : Bi mg) (F1 : Fc P w K mg base CX0 k "need_both" [] (sp_need_both T)) (F2 : Fc P w K mg base CX0 k "best" [] (sp_best T)) : Fc P w K mg base CX0 (k + 1) "shortest_gentle" [] (sp_short true T) :=
  F.fc hm D_shortest_gentle.S (spP_len fun _ => rfl) (fun _ _ _ _ _ _ us hl => match us, hl with | [_, _], _ => rfl) fun cdv A outer s H vs Q E hc hr h => ⟨_, PSs.nox (D_shortest_gentle.d B hr F1 F2), pure_short true h⟩
theorem ok_least_lines {f c : Addr} {k : Nat} (F : Df K "least_lines" "least_lines" D_least_lines.st [] f c) (hm : mg "least_lines" = some (.ref f)) (B : Bi mg) (F1 : Fc P w K mg base CX0 k "need_both" [] (sp_need_both T)) (F2 : Fc P w K mg base CX0 k "best" [] (sp_best T)) : Fc P w K mg base CX0 (k + 1) "least_lines" [] (sp_least false T) :=
  F.fc hm D_least_lines.S (spP_len fun _ => rfl) (fun _ _ _ _ _ _ us hl => match us, hl with | [_, _], _ => rfl) fun cdv A outer s H vs Q E hc hr h => ⟨_, PSs.nox (D_least_lines.d B hr F1 F2), pure_least false h⟩
theorem ok_least_gentle_lines {f c : Addr} {k : Nat} (F : Df K "least_gentle_lines" "least_gentle_lines" D_least_gentle_lines.st [] f c) (hm : mg "least_gentle_lines" = some (.ref f)) (B : Bi mg) (F1 : Fc P w K mg base CX0 k "need_both" [] (sp_need_both T)) (F2 : Fc P w K mg base CX0 k "best" [] (sp_best T)) : Fc P w K mg base CX0 (k + 1) "least_gentle_lines" [] (sp_least true T) :=
  F.fc hm D_least_gentle_lines.S (spP_len fun _ => rfl) (fun _ _ _ _ _ _ us hl => match us, hl with | [_, _], _ => rfl) fun cdv A outer s H vs Q E hc hr h => ⟨_, PSs.nox (D_least_gentle_lines.d B hr F1 F2), pure_least true h⟩
end
end LX

set_option maxRecDepth 100000
set_option maxHeartbeats 8000000
namespace LX
open PySem PySem.Spec PyProof.Rows L2 MDict GxR GQ
/-! ### values as the law's comparer meets them -/
inductive Dv where
  | non
  | bl (b : Bool)
  | int (i : Int)
  | tup (xs : List Dv)
  | lst (xs : List Dv)
noncomputable instance : DecidableEq Dv := fun _ _ => Classical.propDecidable _
mutual
def KV (H : Hp) : Dv → V → Prop
  | .non, v => v = .non
  | .bl b, v => v = .bl b
  | .int i, v => v = .int i
  | .tup xs, v => ∃ a vs, v = .ref a ∧ H a = some (.tup vs) ∧ KVs H xs vs
  | .lst xs, v => ∃ a vs, v = .ref a ∧ H a = some (.lst vs) ∧ KVs H xs vs
def KVs (H : Hp) : List Dv → List V → Prop
  | [], vs => vs = []
  | x :: xs, vs => ∃ v r, vs = v :: r ∧ KV H x v ∧ KVs H xs r
end
mutual
theorem KV.mono {H H' : Hp} (e : Gx H H') : ∀ (x : Dv) (v : V), KV H x v → KV H' x v
  | .non, _, h => h
  | .bl _, _, h => h
  | .int _, _, h => h
  | .tup xs, _, ⟨a, vs, h0, h1, h2⟩ => ⟨a, vs, h0, e.tup a vs h1, KVs.mono e xs vs h2⟩
  | .lst xs, _, ⟨a, vs, h0, h1, h2⟩ => ⟨a, vs, h0, e.kp a _ h1 (fun _ z => by cases z), KVs.mono e xs vs h2⟩
theorem KVs.mono {H H' : Hp} (e : Gx H H') : ∀ (xs : List Dv) (vs : List V), KVs H xs vs → KVs H' xs vs
  | [], _, h => h
  | x :: xs, _, ⟨v, r, h0, h1, h2⟩ => ⟨v, r, h0, KV.mono e x v h1, KVs.mono e xs r h2⟩
end
abbrev PK (x : Dv) : V → Hp → Prop := fun v H => KV H x v
instance {x : Dv} : Mono (PK x) := ⟨fun e h => KV.mono e x _ h⟩
mutual
def ofD : D → Dv
  | .none => .non
  | .num i => .int i
  | .text _ => .non
  | .tup ks => .tup (ofDs ks)
def ofDs : List D → List Dv
  | [] => []
  | k :: ks => ofD k :: ofDs ks
end
mutual
theorem kv_of {H : Hp} : ∀ (k : D) (v : V), KeyH H k v → KV H (ofD k) v
  | .none, v, h => h
  | .num i, v, h => h
  | .text _, v, h => False.elim h
  | .tup ks, v, h => by
    obtain ⟨a, vs, rfl, h1, h2⟩ := h
    exact ⟨a, vs, rfl, h1, kvs_of ks vs h2⟩
theorem kvs_of {H : Hp} : ∀ (ks : List D) (vs : List V), KeyAll H ks vs → KVs H (ofDs ks) vs
  | [], vs, h => h
  | k :: ks, vs, h => by
    obtain ⟨v, r, rfl, h1, h2⟩ := h
    exact ⟨v, _, rfl, kv_of k v h1, kvs_of ks r h2⟩
end
theorem ofDs_map : ∀ (ks : List D), ofDs ks = ks.map ofD
  | [] => rfl
  | k :: ks => by simp only [ofDs, List.map_cons, ofDs_map ks]
mutual
theorem ofD_inj : ∀ (a b : D), noTx a = true → noTx b = true → ofD a = ofD b → a = b
  | .none, .none, _, _, _ => rfl
  | .none, .num _, _, _, h => by simp [ofD] at h
  | .none, .text _, _, h2, _ => by simp [noTx] at h2
  | .none, .tup _, _, _, h => by simp [ofD] at h
  | .num _, .none, _, _, h => by simp [ofD] at h
  | .num a, .num b, _, _, h => by simp only [ofD, Dv.int.injEq] at h; rw [h]
  | .num _, .text _, _, h2, _ => by simp [noTx] at h2
  | .num _, .tup _, _, _, h => by simp [ofD] at h
  | .text _, _, h1, _, _ => by simp [noTx] at h1
  | .tup _, .none, _, _, h => by simp [ofD] at h
  | .tup _, .num _, _, _, h => by simp [ofD] at h
  | .tup _, .text _, _, h2, _ => by simp [noTx] at h2
  | .tup a, .tup b, h1, h2, h => by
    simp only [ofD, Dv.tup.injEq] at h
    simp only [noTx] at h1 h2
    rw [ofDs_inj a b h1 h2 h]
theorem ofDs_inj : ∀ (a b : List D), noTxs a = true → noTxs b = true → ofDs a = ofDs b → a = b
  | [], [], _, _, _ => rfl
  | [], _ :: _, _, _, h => by simp [ofDs] at h
  | _ :: _, [], _, _, h => by simp [ofDs] at h
  | a :: as, b :: bs, h1, h2, h => by
    simp only [ofDs, List.cons.injEq] at h
    simp only [noTxs, Bool.and_eq_true] at h1 h2
    rw [ofD_inj a b h1.1 h2.1 h.1, ofDs_inj as bs h1.2 h2.2 h.2]
end
mutual
def Dv.dat : Dv → PyData
  | .non => .none
  | .bl b => .bool b
  | .int i => .int i
  | .tup xs => .tuple (Dv.dats xs)
  | .lst xs => .list (Dv.dats xs)
def Dv.dats : List Dv → List PyData
  | [] => []
  | x :: xs => x.dat :: Dv.dats xs
end
mutual
theorem dp_kv {K : PySem.W.Frag} {H : Hp} : ∀ (x : Dv) (v : V), KV H x v → Dp K H v x.dat
  | .non, v, h => by cases (show v = .non from h); exact .non
  | .bl b, v, h => by cases (show v = .bl b from h); exact .bl b
  | .int i, v, h => by cases (show v = .int i from h); exact .int i
  | .tup xs, v, h => by
    obtain ⟨a, vs, rfl, h1, h2⟩ := h
    exact .tup (SqT.of h1) (dps_kv xs vs h2)
  | .lst xs, v, h => by
    obtain ⟨a, vs, rfl, h1, h2⟩ := h
    exact .lst (SqL.of h1) (dps_kv xs vs h2)
theorem dps_kv {K : PySem.W.Frag} {H : Hp} : ∀ (xs : List Dv) (vs : List V), KVs H xs vs → DpAll K H vs (Dv.dats xs)
  | [], vs, h => by cases (show vs = [] from h); exact .nil
  | x :: xs, vs, h => by
    obtain ⟨v, r, rfl, h1, h2⟩ := h
    exact .cons (dp_kv x v h1) (dps_kv xs r h2)
end
mutual
def Dv.dep : Dv → Nat
  | .tup xs => Dv.deps xs + 1
  | .lst xs => Dv.deps xs + 1
  | _ => 0
def Dv.deps : List Dv → Nat
  | [] => 0
  | x :: xs => Nat.max x.dep (Dv.deps xs)
end
mutual
theorem lay_dv : ∀ (x : Dv), x.dat.canLay0 = true
  | .non => rfl
  | .bl b => rfl
  | .int i => rfl
  | .tup xs => by simp only [Dv.dat, PyData.canLay0]; exact lays_dv xs
  | .lst xs => by simp only [Dv.dat, PyData.canLay0]; exact lays_dv xs
theorem lays_dv : ∀ (xs : List Dv), PyData.canLayAll0 (Dv.dats xs) = true
  | [] => rfl
  | x :: xs => by simp only [Dv.dats, PyData.canLayAll0, lay_dv x, lays_dv xs, Bool.and_self]
end
mutual
theorem dep_dv : ∀ (x : Dv), x.dat.depth = x.dep
  | .non => rfl
  | .bl b => rfl
  | .int i => rfl
  | .tup xs => by simp only [Dv.dat, PyData.depth, Dv.dep]; rw [deps_dv xs]
  | .lst xs => by simp only [Dv.dat, PyData.depth, Dv.dep]; rw [deps_dv xs]
theorem deps_dv : ∀ (xs : List Dv), PyData.depthAll (Dv.dats xs) = Dv.deps xs
  | [] => rfl
  | x :: xs => by simp only [Dv.dats, PyData.depthAll, Dv.deps]; rw [dep_dv x, deps_dv xs]
end
theorem shaped_dv {x : Dv} (h : x.dep ≤ 60) : SeqAt.shaped x.dat = true := by
  unfold SeqAt.shaped
  rw [lay_dv, dep_dv, Bool.true_and]
  exact decide_eq_true (by omega)
theorem le_deps {xs : List Dv} {x : Dv} (h : x ∈ xs) : x.dep ≤ Dv.deps xs := by
  induction xs with
  | nil => cases h
  | cons y ys ih =>
    simp only [Dv.deps]
    rcases List.mem_cons.mp h with rfl | h
    · exact Nat.le_max_left _ _
    · exact Nat.le_trans (ih h) (Nat.le_max_right _ _)
theorem kvs_len {H : Hp} : ∀ {xs : List Dv} {vs : List V}, KVs H xs vs → vs.length = xs.length
  | [], vs, h => by cases (show vs = [] from h); rfl
  | x :: xs, vs, h => by
    obtain ⟨v, r, rfl, h1, h2⟩ := h
    simp [kvs_len h2]
theorem kvs_get {H : Hp} : ∀ {xs : List Dv} {vs : List V} {i : Nat} {x : Dv}, KVs H xs vs → xs[i]? = some x → ∃ v, vs[i]? = some v ∧ KV H x v
  | [], _, _, _, _, e => by cases e
  | y :: ys, vs, i, x, h, e => by
    obtain ⟨v, r, rfl, h1, h2⟩ := h
    cases i with
    | zero => cases e; exact ⟨v, rfl, h1⟩
    | succ j => exact kvs_get (xs := ys) (i := j) h2 e
def tyV : Dv → String
  | .non => "NoneType"
  | .bl _ => "bool"
  | .int _ => "int"
  | .tup _ => "tuple"
  | .lst _ => "list"
section
variable {P : Program} {w : World} {K : PySem.W.Frag} {mg : Str → Option Value} {base : Heap} {T : List Addr} {σ : L2.St} {H : Hp} {ta tb te : TE}
theorem tyx_kv {x : Dv} {v : V} (h : KV H x v) : TyX K H v (.type (tyV x)) := by
  cases x with
  | non => cases (show v = .non from h); exact .base .non
  | bl b => cases (show v = .bl b from h); exact .base (.bl b)
  | int i => cases (show v = .int i from h); exact .base (.int i)
  | tup xs => obtain ⟨a, vs, rfl, h1, h2⟩ := h; exact .base (.tup h1)
  | lst xs => obtain ⟨a, vs, rfl, h1, h2⟩ := h; exact .base (.lst h1)
theorem ev_isiV {S : String} {x : Dv} {b : Bool} (ha : Ev ta σ H (PK x)) (hk : kitB (tyV x) S = some b) : Ev (tCB (rIsi K) (tCons ta (tCons (tC (.ty S)) tNil))) σ H (PB b) := ev_isi ha (fun _ _ h => tyx_kv h) hk
def Dv.seq : Dv → Bool
  | .tup _ => true
  | .lst _ => true
  | _ => false
theorem kitTL (x : Dv) : PySem.W.kitAny K (.type (tyV x)) [.type "tuple", .type "list"] = some x.seq := by
  cases x with
  | non => exact kitAny_cons (kit_ty k_nt) (fun _ => kitAny_cons (kit_ty k_nl) (fun _ => kitAny_nil) fun z => Bool.noConfusion z) fun z => Bool.noConfusion z
  | bl b => exact kitAny_cons (kit_ty k_bt) (fun _ => kitAny_cons (kit_ty k_bl) (fun _ => kitAny_nil) fun z => Bool.noConfusion z) fun z => Bool.noConfusion z
  | int i => exact kitAny_cons (kit_ty k_it) (fun _ => kitAny_cons (kit_ty k_il) (fun _ => kitAny_nil) fun z => Bool.noConfusion z) fun z => Bool.noConfusion z
  | tup xs => exact kitAny_cons (kit_ty k_tt) (fun z => Bool.noConfusion z) fun _ => rfl
  | lst xs => exact kitAny_cons (kit_ty k_lt) (fun _ => kitAny_cons (kit_ty k_ll) (fun z => Bool.noConfusion z) fun _ => rfl) fun z => Bool.noConfusion z
theorem ev_isiTL {x : Dv} (ha : Ev ta σ H (PK x)) : Ev (tCB (rIsiT K) (tCons ta (tCons (tTup (tCons (tC (.ty "tuple")) (tCons (tC (.ty "list")) tNil))) tNil))) σ H (PB x.seq) := fun H1 e Q q =>
  ha H1 e _ fun v H2 e2 hv => ⟨by rw [sizeLine_eq]; decide, fun p hp => ⟨v, p, _, .type (tyV x), [.type "tuple", .type "list"], x.seq, rfl, upd_same, .cons (.ty _) (.cons (.ty _) .nil), tyx_kv (KV.mono (Gx.new hp) x v hv), kitTL x, q _ _ (e2.trans (Gx.new hp)) rfl⟩⟩
theorem ev_lenV {x : Dv} {xs : List Dv} (hx : x = .tup xs ∨ x = .lst xs) (ha : Ev ta σ H (PK x)) : Ev (tCB (rLenV K) (tCons ta tNil)) σ H (PD (nm xs.length)) := fun H1 e Q q =>
  ha H1 e _ fun v H2 e2 hv => by
    rcases hx with rfl | rfl
    · obtain ⟨a, vs, rfl, h1, h2⟩ := hv
      refine ⟨.ref a, vs.length, rfl, .inr ⟨vs, SqT.of h1, rfl⟩, q _ H2 e2 ?_⟩
      show V.int (vs.length : Int) = .int (xs.length : Int)
      rw [kvs_len h2]
    · obtain ⟨a, vs, rfl, h1, h2⟩ := hv
      refine ⟨.ref a, vs.length, rfl, .inl ⟨vs, SqL.of h1, rfl⟩, q _ H2 e2 ?_⟩
      show V.int (vs.length : Int) = .int (xs.length : Int)
      rw [kvs_len h2]
theorem ev_ixV {x y : Dv} {xs : List Dv} {i : Nat} (hx : x = .tup xs ∨ x = .lst xs) (ha : Ev ta σ H (PK x)) (hb : Ev tb σ H (PD (nm i))) (hi : xs[i]? = some y) : Ev (tOp (rIx K) ta tb) σ H (PK y) :=
  ev_op2 ha hb fun u z H1 _ hu hz Q q => by
    have hz : z = .int (i : Int) := hz
    subst hz
    rcases hx with rfl | rfl
    · obtain ⟨a, vs, rfl, h1, h2⟩ := hu
      obtain ⟨v, hv1, hv2⟩ := kvs_get h2 hi
      exact .inr (.inl ⟨a, vs, _, v, rfl, rfl, SqT.of h1, atI_nat hv1, q v H1 (Gx.refl H1) hv2⟩)
    · obtain ⟨a, vs, rfl, h1, h2⟩ := hu
      obtain ⟨v, hv1, hv2⟩ := kvs_get h2 hi
      exact .inl ⟨a, vs, _, v, rfl, rfl, SqL.of h1, atI_nat hv1, q v H1 (Gx.refl H1) hv2⟩
theorem ev_eqV {x y : Dv} (ha : Ev ta σ H (PK x)) (hb : Ev tb σ H (PK y)) (h1 : x.dep ≤ 60) (h2 : y.dep ≤ 60) : Ev (tOp (rEqD K) ta tb) σ H (PB (PyData.eqv x.dat y.dat)) :=
  ev_op2 ha hb fun u z H1 _ hu hz Q q => ⟨x.dat, y.dat, dp_kv x u hu, dp_kv y z hz, shaped_dv h1, shaped_dv h2, q _ H1 (Gx.refl H1) rfl⟩
theorem ev_eqB {a b : Bool} (ha : Ev ta σ H (PB a)) (hb : Ev tb σ H (PB b)) : Ev (tOp rEq ta tb) σ H (PB (a == b)) :=
  ev_op2 ha hb fun u z H1 _ hu hz Q q => by
    cases (show u = .bl a from hu)
    cases (show z = .bl b from hz)
    exact ⟨rfl, q _ H1 (Gx.refl H1) (by rw [dec_bl])⟩
theorem ev_neB {a b : Bool} (ha : Ev ta σ H (PB a)) (hb : Ev tb σ H (PB b)) : Ev (tOp rNe ta tb) σ H (PB (!(a == b))) :=
  ev_op2 ha hb fun u z H1 _ hu hz Q q => by
    cases (show u = .bl a from hu)
    cases (show z = .bl b from hz)
    exact ⟨rfl, q _ H1 (Gx.refl H1) (by rw [dec_bl])⟩
theorem ev_isNV {x : Dv} (h : Ev te σ H (PK x)) : Ev (tIsN te) σ H (PB (decide (x = .non))) := fun H1 e _ q => h H1 e _ fun v H2 e2 hv => q _ H2 e2 (by
  cases x with
  | non => cases (show v = .non from hv); simp
  | bl b => cases (show v = .bl b from hv); simp
  | int b => cases (show v = .int b from hv); simp
  | tup xs => obtain ⟨a, vs, rfl, h1, h2⟩ := hv; simp
  | lst xs => obtain ⟨a, vs, rfl, h1, h2⟩ := hv; simp)
/-- alike -/
structure AArg where
  a : Dv
  b : Dv
def DOk : Nat → Dv → Prop
  | b + 1, .tup xs => xs.length ≤ 1000 ∧ ∀ x ∈ xs, DOk b x
  | b + 1, .lst xs => xs.length ≤ 1000 ∧ ∀ x ∈ xs, DOk b x
  | _, x => x.seq = false
def sp_alike (T : List Addr) (b : Nat) : Sp := spP (α := AArg) T (fun x => x.a.dep ≤ 50 ∧ DOk b x.b) (fun x => [PK x.a, PK x.b]) fun x => PB (decide (x.a = x.b))
theorem filter_nil {α : Type} {p : α → Bool} {l : List α} : (l.filter p = []) ↔ ∀ x ∈ l, p x = false := by
  rw [List.filter_eq_nil_iff]
  exact ⟨fun h x hx => by simpa using h x hx, fun h x hx => by simp [h x hx]⟩
/-- both are sequences of a kind -/
theorem alike_seq {b : Nat} {xs ys : List Dv} {x y : Dv} {v1 v2 : V} {Dn : Ends} (hk : (x = .tup xs ∧ y = .tup ys) ∨ (x = .lst xs ∧ y = .lst ys)) (hT : TabsG T H) (h1 : KV H x v1) (h2 : KV H y v2) (hd : x.dep ≤ 50) (hy : ys.length ≤ 1000) (hys : ∀ z ∈ ys, DOk b z)
    (k : ∀ H', Gx H H' → Dn.rt (.bl (decide (x = y))) H') :
    (tSeq (tIfS (tTest (tOp (rNeD K) (tCB (rLenV K) (tCons (tVar 0) tNil)) (tCB (rLenV K) (tCons (tVar 1) tNil)))) (tRet (tC (.bl false))) tNext)
      (tRet (tOp (rEqD K) (tLc (iRng1 (tCons (tCB (rLenV K) (tCons (tVar 1) tNil)) tNil)) (gName 2) (tNot (tB (tCall (sp_alike T b) [] E0 (tCons (tOp (rIx K) (tVar 0) (tVar 2)) (tCons (tOp (rIx K) (tVar 1) (tVar 2)) tNil))))) (tVar 2) [2]) (tLst tNil)))) Dn [some v1, some v2, none] H := by
  have hx : x = .tup xs ∨ x = .lst xs := hk.imp (·.1) (·.1)
  have hy2 : y = .tup ys ∨ y = .lst ys := hk.imp (·.2) (·.2)
  have heq : x = y ↔ xs = ys := by
    rcases hk with ⟨rfl, rfl⟩ | ⟨rfl, rfl⟩
    · exact ⟨fun e => Dv.tup.inj e, fun e => by rw [e]⟩
    · exact ⟨fun e => Dv.lst.inj e, fun e => by rw [e]⟩
  have hds : Dv.deps xs ≤ 49 := by
    rcases hx with rfl | rfl <;> (simp only [Dv.dep] at hd; omega)
  refine q_when (b := !decide (xs.length = ys.length)) (et_test (ev_isB (ev_neI (ev_lenV hx (ev_var (P := PK x) h1 rfl)) (ev_lenV hy2 (ev_var (P := PK y) h2 rfl))) (by rw [decide_eq_decide.mpr (show ((xs.length : Int) = ys.length) ↔ xs.length = ys.length by omega)]))) (fun hb H1 e1 => ?_) fun hb H1 e1 => ?_
  · have hne : x ≠ y := fun z => by rw [heq.mp z] at hb; simp at hb
    exact s_ret (P := PB false) ev_bl fun v H2 e2 hv => by rw [show v = .bl false from hv]; have := k H2 (e1.trans e2); rwa [decide_eq_false hne] at this
  · have hl : xs.length = ys.length := by simpa using hb
    let bad : D → Bool := fun d => match d with | .num i => !decide (xs[i.toNat]? = ys[i.toNat]?) | _ => false
    refine s_ret (P := PB (decide (x = y))) (ev_isB (ev_eqL (ks := (rgD ys.length).filter bad |>.map id) (ls := []) (EvL.ev (el_lcR (f := bad) (v := id) (ev_lenV hy2 (ev_var (P := PK y) (KV.mono e1 y _ h2) rfl)) (by omega) fun d xv H2 e2 hm hxv => ?_)) (EvL.ev (el_lst (ds := []) ea_nil (by simp))) ?_ ?_) ?_) fun v H2 e2 hv => by rw [show v = .bl _ from hv]; exact k H2 (e1.trans e2)
    · obtain ⟨i, hi, rfl⟩ := List.mem_map.mp hm
      have hi := List.mem_range.mp hi
      have hxi : i < xs.length := by omega
      refine ⟨_, tg_name, rfl, et_is (et_not (et_B (ev_call (⟨xs[i], ys[i]⟩ : AArg) ((hT.mono e1).mono e2) (ea_cons (ev_ixV (y := xs[i]) hx (ev_var (P := PK x) (KV.mono (e1.trans e2) x _ h1) rfl) (ev_var hxv rfl) (List.getElem?_eq_getElem hxi)) (ea_cons (ev_ixV (y := ys[i]) hy2 (ev_var (P := PK y) (KV.mono (e1.trans e2) y _ h2) rfl) (ev_var hxv rfl) (List.getElem?_eq_getElem hi)) ea_nil)) ⟨?_, hys _ (List.getElem_mem hi)⟩))) ?_, fun _ => ev_var hxv rfl⟩
      · have := le_deps (List.getElem_mem hxi)
        show xs[i].dep ≤ 50
        omega
      · show (!decide (xs[i] = ys[i])) = !decide (xs[((i : Int)).toNat]? = ys[((i : Int)).toNat]?)
        rw [Int.toNat_natCast, List.getElem?_eq_getElem hxi, List.getElem?_eq_getElem hi]
        congr 1
        exact decide_eq_decide.mpr ⟨fun e => by rw [e], fun e => Option.some.inj e⟩
    · intro z hz
      rw [List.map_id] at hz
      obtain ⟨i, _, rfl⟩ := List.mem_map.mp (List.mem_filter.mp hz).1
      exact Nat.zero_le _
    · intro z hz; cases hz
    · refine decide_eq_decide.mpr ?_
      rw [heq, List.map_id, filter_nil]
      constructor
      · intro h
        refine List.ext_getElem? fun i => ?_
        by_cases hi : i < ys.length
        · have := h (.num (i : Int)) (List.mem_map.mpr ⟨i, List.mem_range.mpr hi, rfl⟩)
          simpa [bad] using this
        · rw [List.getElem?_eq_none (by omega), List.getElem?_eq_none (by omega)]
      · rintro rfl d hd
        cases d <;> simp [bad]

theorem alike_scal {x y : Dv} {v1 v2 : V} {Dn : Ends} (h1 : KV H x v1) (h2 : KV H y v2) (hd : x.dep ≤ 50) (hy : y.seq = false)
    (k : ∀ H', Gx H H' → Dn.rt (.bl (decide (x = y))) H') :
    (tSeq (tIfS (tOr (tB (tIsN (tVar 1))) (tB (tCB (rIsi K) (tCons (tVar 1) (tCons (tC (.ty "str")) tNil))))) (tRet (tAndV (tOp (rEqD K) (tVar 0) (tVar 1)) (tOp rEq (tCB (rIsi K) (tCons (tVar 0) (tCons (tC (.ty "str")) tNil))) (tCB (rIsi K) (tCons (tVar 1) (tCons (tC (.ty "str")) tNil)))))) tNext)
  (tRet (tAndV (tCB (rIsi K) (tCons (tVar 0) (tCons (tC (.ty "int")) tNil))) (tAndV (tOp rEq (tCB (rIsi K) (tCons (tVar 0) (tCons (tC (.ty "bool")) tNil))) (tCB (rIsi K) (tCons (tVar 1) (tCons (tC (.ty "bool")) tNil)))) (tOp (rEqD K) (tVar 0) (tVar 1)))))) Dn [some v1, some v2, none] H := by
  have str : ∀ z : Dv, kitB (tyV z) "str" = some false := fun z => by
    cases z with
    | non => exact k_ns
    | bl b => exact k_bs
    | int i => exact k_is
    | tup xs => exact k_ts
    | lst xs => exact k_ls
  have hy60 : y.dep ≤ 60 := by cases y <;> first | (simp [Dv.seq] at hy; done) | exact Nat.zero_le _
  have ret : ∀ (te : TE) (H1 : Hp), Gx H H1 → Ev te [some v1, some v2, none] H1 (PB (decide (x = y))) → tRet te Dn [some v1, some v2, none] H1 := fun te H1 e1 h => s_ret (P := PB (decide (x = y))) h fun v H2 e2 hv => by rw [show v = .bl _ from hv]; exact k H2 (e1.trans e2)
  refine q_when (b := decide (y = .non) || false) (et_or (et_B (ev_isNV (ev_var (P := PK y) h2 rfl))) fun _ => et_B (ev_isiV (ev_var (P := PK y) h2 rfl) (str y))) (fun hb H1 e1 => ?_) fun hb H1 e1 => ?_
  · have hyn : y = .non := by simpa using hb
    subst hyn
    refine ret _ H1 e1 (ev_isB (ev_andV (ev_eqV (ev_var (P := PK x) (KV.mono e1 x _ h1) rfl) (ev_var (P := PK .non) (KV.mono e1 .non _ h2) rfl) (by omega) (by simp [Dv.dep])) fun _ => ev_eqB (ev_isiV (ev_var (P := PK x) (KV.mono e1 x _ h1) rfl) (str x)) (ev_isiV (ev_var (P := PK .non) (KV.mono e1 .non _ h2) rfl) (str .non))) ?_)
    cases x <;> simp [Dv.dat, PyData.eqv]
  · have hyn : y ≠ .non := fun z => by rw [z] at hb; simp at hb
    have hx1 := KV.mono e1 x _ h1
    have hx2 := KV.mono e1 y _ h2
    have bo : ∀ z : Dv, ∃ b, kitB (tyV z) "bool" = some b ∧ (b = true ↔ ∃ c, z = .bl c) := fun z => by
      cases z with
      | non => exact ⟨_, k_nb, by simp⟩
      | bl b => exact ⟨_, k_bb, by simp⟩
      | int i => exact ⟨_, k_ib, by simp⟩
      | tup xs => exact ⟨_, k_tb, by simp⟩
      | lst xs => exact ⟨_, k_lb, by simp⟩
    obtain ⟨bx, kx, px⟩ := bo x
    obtain ⟨bY, ky, py⟩ := bo y
    have cmp : Ev (tAndV (tOp rEq (tCB (rIsi K) (tCons (tVar 0) (tCons (tC (.ty "bool")) tNil))) (tCB (rIsi K) (tCons (tVar 1) (tCons (tC (.ty "bool")) tNil)))) (tOp (rEqD K) (tVar 0) (tVar 1))) [some v1, some v2, none] H1 (PB ((bx == bY) && PyData.eqv x.dat y.dat)) :=
      ev_andV (ev_eqB (ev_isiV (ev_var (P := PK x) hx1 rfl) kx) (ev_isiV (ev_var (P := PK y) hx2 rfl) ky)) fun _ => ev_eqV (ev_var (P := PK x) hx1 rfl) (ev_var (P := PK y) hx2 rfl) (by omega) hy60
    have key : ∀ c, kitB (tyV x) "int" = some c → (c && ((bx == bY) && PyData.eqv x.dat y.dat)) = decide (x = y) → tRet (tAndV (tCB (rIsi K) (tCons (tVar 0) (tCons (tC (.ty "int")) tNil))) (tAndV (tOp rEq (tCB (rIsi K) (tCons (tVar 0) (tCons (tC (.ty "bool")) tNil))) (tCB (rIsi K) (tCons (tVar 1) (tCons (tC (.ty "bool")) tNil)))) (tOp (rEqD K) (tVar 0) (tVar 1)))) Dn [some v1, some v2, none] H1 := fun c hc e =>
      ret _ H1 e1 (ev_isB (ev_andV (ev_isiV (ev_var (P := PK x) hx1 rfl) hc) fun _ => cmp) e)
    cases x with
    | non => exact key _ k_ni (by rw [Bool.false_and]; exact (decide_eq_false fun z => hyn z.symm).symm)
    | tup xs => exact key _ k_ti (by rw [Bool.false_and]; exact (decide_eq_false fun z => by rw [← z] at hy; cases hy).symm)
    | lst xs => exact key _ k_li (by rw [Bool.false_and]; exact (decide_eq_false fun z => by rw [← z] at hy; cases hy).symm)
    | bl b =>
      have : bx = true := px.mpr ⟨b, rfl⟩
      subst this
      refine key _ k_bi ?_
      cases y with
      | non => exact absurd rfl hyn
      | tup _ => cases hy
      | lst _ => cases hy
      | int i =>
        have : bY = false := by cases bY; rfl; exact absurd (py.mp rfl) (by simp)
        subst this
        simp
      | bl c =>
        have : bY = true := py.mpr ⟨c, rfl⟩
        subst this
        simp only [Dv.dat, PyData.eqv]
        cases b <;> cases c <;> simp
    | int j =>
      have : bx = false := by cases bx; rfl; exact absurd (px.mp rfl) (by simp)
      subst this
      refine key _ k_ii ?_
      cases y with
      | non => exact absurd rfl hyn
      | tup _ => cases hy
      | lst _ => cases hy
      | bl c =>
        have : bY = true := py.mpr ⟨c, rfl⟩
        subst this
        simp
      | int i =>
        have : bY = false := by cases bY; rfl; exact absurd (py.mp rfl) (by simp)
        subst this
        simp only [Dv.dat, PyData.eqv]
        simp
        exact Bool.beq_eq_decide_eq j i
theorem pure_alike {b : Nat} {spc : Sp} (hs : ∀ b', b = b' + 1 → spc = sp_alike T b') : ∀ vs H Q E, sp_alike T b vs H Q E → D_law_alike.t K w spc { nx := fun _ H' => Q .non H', rt := Q } (start D_law_alike.N vs) H := by
  rintro vs H Q E ⟨hT, ⟨x, y⟩, ⟨hd, hy⟩, ⟨v1, _, rfl, h1, v2, _, rfl, h2, rfl⟩, k⟩
  have h1 : KV H x v1 := h1
  have h2 : KV H y v2 := h2
  have hd : x.dep ≤ 50 := hd
  have hy : DOk b y := hy
  have k : ∀ H', Gx H H' → Q (.bl (decide (x = y))) H' := fun H' e => k _ H' e rfl
  refine q_when (b := y.seq) (et_B (ev_isiTL (ev_var (P := PK y) h2 rfl))) (fun hb H1 e1 => ?_) fun hb H1 e1 => ?_
  · have hx1 := KV.mono e1 x _ h1
    have hy1 := KV.mono e1 y _ h2
    have hlY : ∃ b, kitB (tyV y) "list" = some b ∧ (b = true ↔ ∃ c, y = .lst c) := by
      cases y with
      | non => cases hb
      | bl b => cases hb
      | int i => cases hb
      | tup xs => exact ⟨_, k_tl, by simp⟩
      | lst xs => exact ⟨_, k_ll, by simp⟩
    obtain ⟨bY, ky, py⟩ := hlY
    have hlX : ∃ b, kitB (tyV x) "list" = some b ∧ (b = true ↔ ∃ c, x = .lst c) := by
      cases x with
      | non => exact ⟨_, k_nl, by simp⟩
      | bl b => exact ⟨_, k_bl, by simp⟩
      | int i => exact ⟨_, k_il, by simp⟩
      | tup xs => exact ⟨_, k_tl, by simp⟩
      | lst xs => exact ⟨_, k_ll, by simp⟩
    obtain ⟨bX, kx, px⟩ := hlX
    refine q_when (b := !x.seq || !(bX == bY)) (et_or (et_not (et_B (ev_isiTL (ev_var (P := PK x) hx1 rfl)))) fun _ => et_test (ev_neB (ev_isiV (ev_var (P := PK x) hx1 rfl) kx) (ev_isiV (ev_var (P := PK y) hy1 rfl) ky))) (fun hb2 H2 e2 => ?_) fun hb2 H2 e2 => ?_
    · have hne : x ≠ y := fun z => by
        subst z
        have : bX = bY := Option.some.inj (kx.symm.trans ky)
        rw [hb, this] at hb2
        simp at hb2
      exact s_ret (P := PB false) ev_bl fun v H3 e3 hv => by rw [show v = .bl false from hv]; have := k H3 ((e1.trans e2).trans e3); rwa [decide_eq_false hne] at this
    · have hxs : x.seq = true := by cases h : x.seq; rw [h] at hb2; simp at hb2; rfl
      have hbb : bX = bY := by rw [hxs] at hb2; simpa using hb2
      obtain ⟨b', rfl⟩ : ∃ b', b = b' + 1 := by
        cases b with
        | zero => cases y <;> first | (cases hb; done) | (cases (show Dv.seq _ = false from hy); done) | exact absurd hy (by simp [DOk, Dv.seq])
        | succ b' => exact ⟨b', rfl⟩
      have hs := hs b' rfl
      subst hs
      have hx2 := KV.mono e2 x _ hx1
      have hy2 := KV.mono e2 y _ hy1
      cases y with
      | non => cases hb
      | bl b => cases hb
      | int i => cases hb
      | tup ys =>
        cases x with
        | non => cases hxs
        | bl b => cases hxs
        | int i => cases hxs
        | tup xs => exact alike_seq (.inl ⟨rfl, rfl⟩) ((hT.mono e1).mono e2) hx2 hy2 hd hy.1 hy.2 fun H' e => k H' ((e1.trans e2).trans e)
        | lst xs => have := px.mpr ⟨_, rfl⟩; rw [hbb] at this; exact absurd (py.mp this) (by simp)
      | lst ys =>
        cases x with
        | non => cases hxs
        | bl b => cases hxs
        | int i => cases hxs
        | lst xs => exact alike_seq (.inr ⟨rfl, rfl⟩) ((hT.mono e1).mono e2) hx2 hy2 hd hy.1 hy.2 fun H' e => k H' ((e1.trans e2).trans e)
        | tup xs => have := py.mpr ⟨_, rfl⟩; rw [← hbb] at this; exact absurd (px.mp this) (by simp)
  · exact alike_scal (KV.mono e1 x _ h1) (KV.mono e1 y _ h2) hd hb fun H' e => k H' (e1.trans e)
theorem ok_alike {f c : Addr} (F : Df K "_law_alike" "_law_alike" D_law_alike.st [] f c) (hm : mg "_law_alike" = some (.ref f)) (B : Bi mg) : ∀ b : Nat, Fc P w K mg base CX0 (b + 1) "_law_alike" [] (sp_alike T b)
  | 0 => F.fc hm D_law_alike.S (spP_len fun _ => rfl) (fun _ _ _ _ _ _ us hl => match us, hl with | [_, _], _ => rfl) fun cdv A outer s H vs Q E hc hr h =>
      ⟨_, PSs.nox (D_law_alike.d B hr (fn_never (ps := D_law_alike.ps) F hm (fun _ _ _ _ _ _ us hl => match us, hl with | [_, _], _ => rfl))), pure_alike (fun _ e => by omega) vs H Q E h⟩
  | b + 1 => F.fc hm D_law_alike.S (spP_len fun _ => rfl) (fun _ _ _ _ _ _ us hl => match us, hl with | [_, _], _ => rfl) fun cdv A outer s H vs Q E hc hr h =>
      ⟨_, PSs.nox (D_law_alike.d B hr (ok_alike F hm B b)), pure_alike (fun b' e => by cases e; rfl) vs H Q E h⟩
end
end LX

set_option maxRecDepth 100000
set_option maxHeartbeats 8000000
namespace LX
open PySem PySem.Spec PyProof.Rows L2 MDict GxR GQ
mutual
theorem kd_of {H : Hp} : ∀ (k : D) (v : V), noTx k = true → KV H (ofD k) v → KeyH H k v
  | .none, v, _, h => h
  | .num i, v, _, h => h
  | .text _, v, n, h => by simp [noTx] at n
  | .tup ks, v, n, h => by
    simp only [ofD] at h
    obtain ⟨a, vs, rfl, h1, h2⟩ := h
    exact ⟨a, vs, rfl, h1, kds_of ks vs (by simpa [noTx] using n) h2⟩
theorem kds_of {H : Hp} : ∀ (ks : List D) (vs : List V), noTxs ks = true → KVs H (ofDs ks) vs → KeyAll H ks vs
  | [], vs, _, h => h
  | k :: ks, vs, n, h => by
    simp only [ofDs] at h
    simp only [noTxs, Bool.and_eq_true] at n
    obtain ⟨v, r, rfl, h1, h2⟩ := h
    exact ⟨v, _, rfl, kd_of k v n.1 h1, kds_of ks r n.2 h2⟩
end
theorem noTxs_all : ∀ {ks : List D}, noTxs ks = true ↔ ∀ k ∈ ks, noTx k = true
  | [] => by simp [noTxs]
  | k :: ks => by simp [noTxs, noTxs_all (ks := ks)]
theorem noTx_nms (s : List Nat) : noTxs (s.map nm) = true := noTxs_all.mpr fun k hk => by
  obtain ⟨i, _, rfl⟩ := List.mem_map.mp hk
  rfl
theorem noTx_ln (l : Ln) : noTx l.d = true := by
  unfold Ln.d
  simp only [noTx, noTxs, Bool.and_true, Bool.true_and, noTx_nms]
  cases l.f <;> rfl
def lnV (l : Ln) : Dv := ofD l.d
def progV (ls : List Ln) : Dv := .tup (ls.map lnV)
theorem progV_eq (ls : List Ln) : progV ls = ofD (progD ls) := by
  unfold progV progD
  rw [ofD, ofDs_map, List.map_map]
  rfl
theorem noTx_prog (ls : List Ln) : noTx (progD ls) = true := by
  unfold progD
  simp only [noTx]
  exact noTxs_all.mpr fun k hk => by
    obtain ⟨l, _, rfl⟩ := List.mem_map.mp hk
    exact noTx_ln l
theorem nms_inj : ∀ a b : List Nat, a.map nm = b.map nm → a = b
  | [], [], _ => rfl
  | [], _ :: _, h => by simp at h
  | _ :: _, [], h => by simp at h
  | a :: as, b :: bs, h => by
    simp only [List.map_cons, List.cons.injEq, NestedKey.num.injEq] at h
    rw [nms_inj as bs h.2, show a = b by omega]
theorem d_inj {l m : Ln} (h : l.d = m.d) : l = m := by
  obtain ⟨c, f, s⟩ := l
  obtain ⟨c', f', s'⟩ := m
  unfold Ln.d at h
  simp only [NestedKey.tup.injEq, List.cons.injEq, NestedKey.num.injEq, and_true] at h
  obtain ⟨h1, h2, h3⟩ := h
  have e1 : c = c' := by omega
  have e3 := nms_inj _ _ h3
  have e2 : f = f' := by
    cases f with
    | none => cases f' with
      | none => rfl
      | some y => simp [fD] at h2
    | some x => cases f' with
      | none => simp [fD] at h2
      | some y =>
        simp only [fD, NestedKey.num.injEq] at h2
        rw [show x = y by omega]
  rw [e1, e2, e3]
theorem lnV_inj {l m : Ln} (h : lnV l = lnV m) : l = m := d_inj (ofD_inj _ _ (noTx_ln l) (noTx_ln m) h)
theorem lnVs_inj : ∀ {a b : List Ln}, a.map lnV = b.map lnV → a = b
  | [], [], _ => rfl
  | [], _ :: _, h => by simp at h
  | _ :: _, [], h => by simp at h
  | a :: as, b :: bs, h => by
    simp only [List.map_cons, List.cons.injEq] at h
    rw [lnV_inj h.1, lnVs_inj h.2]
theorem progV_inj {a b : List Ln} (h : progV a = progV b) : a = b := lnVs_inj (Dv.tup.inj h)
theorem kvs_get' {H : Hp} : ∀ {xs : List Dv} {vs : List V} {i : Nat} {v : V}, KVs H xs vs → vs[i]? = some v → ∃ x, xs[i]? = some x ∧ KV H x v
  | [], vs, _, _, h, e => by cases (show vs = [] from h); cases e
  | y :: ys, vs, i, x, h, e => by
    obtain ⟨v, r, rfl, h1, h2⟩ := h
    cases i with
    | zero => cases e; exact ⟨y, rfl, h1⟩
    | succ j => exact kvs_get' (xs := ys) (i := j) h2 e
section
variable {P : Program} {w : World} {K : PySem.W.Frag} {mg : Str → Option Value} {base : Heap} {T : List Addr} {σ : L2.St} {H : Hp} {ta tb te tl : TE} {tu : TS} {g : TG} {Dn : Ends}
theorem s_forV {xs : List Dv} (h : Ev tl σ H (PK (.tup xs))) (Pv : Hp → Nat → L2.St → Hp → Prop) (h0 : ∀ H1, Gx H H1 → Pv H1 0 σ H1) (hk : ∀ H1 i σ' H', Gx H H1 → Pv H1 i σ' H' → Gx H1 H')
    (hs : ∀ H1 i x v σ' H', Gx H H1 → xs[i]? = some x → Pv H1 i σ' H' → KV H' x v → g v σ' H' fun σ2 H2 => tu { Dn with nx := Pv H1 (i + 1), ct := Pv H1 (i + 1), bk := Dn.nx } σ2 H2)
    (hd : ∀ H1 σ' H', Gx H H1 → Pv H1 xs.length σ' H' → Dn.nx σ' H') : tFor (iTup K tl) g tu Dn σ H := h H (Gx.refl H) _ fun v H1 e hv => by
  obtain ⟨a, vs, rfl, h1, h2⟩ := hv
  have hl := kvs_len h2
  refine ⟨a, rfl, ⟨vs, SqT.of h1⟩, for_tup (K := K) (a := a) (xs := vs) (Pv H1) (h0 H1 e) (fun i σ' H' _ p => SqT.of ((hk H1 i σ' H' e p).tup a vs h1)) (fun i x σ' H' hx p => ?_) fun σ' H' p => hd H1 σ' H' e (by rw [← hl]; exact p)⟩
  obtain ⟨d, e1, e2⟩ := kvs_get' h2 hx
  exact hs H1 i d x σ' H' e e1 p (KV.mono (hk H1 i σ' H' e p) d x e2)
theorem ev_quV {Pt : Addr} {xs : List Dv} {f : Dv → Bool} {vs : List Nat} (ht : TabG H Pt) (h : Ev tl σ H (PK (.tup xs))) (hs : ∀ x v H1, Gx H H1 → x ∈ xs → KV H1 x v → ∃ σ2, Tg g v (wipe σ vs) H1 σ2 ∧ wipe σ2 vs = wipe σ vs ∧ Ev te σ2 H1 (PB (f x))) : Ev (tQu Pt true (iTup K tl) g te vs) σ H (PB (xs.all f)) := fun H0 e Q q => h H0 e _ fun w H1 e1 hw => by
  obtain ⟨a, us, rfl, h1, h2⟩ := hw
  have hn := kvs_len h2
  refine ⟨a, rfl, ⟨us, SqT.of h1⟩, (e.trans e1).tb Pt ht, xs.length, fun i H' => Gx H1 H' ∧ ∀ d ∈ xs.take i, f d = true, fun H2 h => ⟨Gx.tab ((e.trans e1).tb Pt ht) h, fun d hd => by simp at hd⟩, fun i H' hi p => ?_, fun H' p => ?_⟩
  · have hu : i < us.length := by omega
    refine ⟨⟨us, us[i], SqT.of (p.1.tup a us h1), by simp [hu]⟩, fun x H'' y => ?_⟩
    obtain ⟨rfl, y⟩ := y
    have hx := y us (SqT.of (p.1.tup a us h1))
    obtain ⟨d, g1, g2⟩ := kvs_get' h2 hx
    obtain ⟨p1, p2⟩ := p
    obtain ⟨σ2, h1, h2, h3⟩ := hs d x _ ((e.trans e1).trans p1) (List.mem_of_getElem? g1) (KV.mono p1 d x g2)
    refine h1 _ ⟨h2, h3 _ (Gx.refl _) _ fun v H3 e3 hv => ⟨f d, hv, fun hc => ⟨p1.trans e3, fun d' hd' => ?_⟩, fun hc => q _ H3 ((e1.trans p1).trans e3) ?_⟩⟩
    · rw [take_succ_of g1] at hd'
      rcases List.mem_append.mp hd' with z | z
      · exact p2 d' z
      · rw [List.mem_singleton.mp z]; exact hc
    · have : xs.all f = false := by
        rw [List.all_eq_false]
        exact ⟨d, List.mem_of_getElem? g1, hc⟩
      rw [this]
      rfl
  · refine ⟨⟨us, SqT.of (p.1.tup a us h1), by omega⟩, q _ H' (e1.trans p.1) ?_⟩
    have : xs.all f = true := by
      rw [List.all_eq_true]
      have := p.2
      rwa [List.take_length] at this
    rw [this]
/-! the values the law hands over -/
inductive Vk where
  | val (x : Dv)
  | dict
def PVk (k : Vk) : V → Hp → Prop := fun v H => match k with
  | .val x => KV H x v
  | .dict => ∃ a, v = .ref a ∧ H a = some (.dK [])
theorem PVk.mono {k : Vk} {v : V} {H H' : Hp} (e : Gx H H') (h : PVk k v H) : PVk k v H' := by
  cases k with
  | val x => exact KV.mono e x v h
  | dict => obtain ⟨a, h0, h1⟩ := h; exact ⟨a, h0, e.kp a _ h1 (fun _ z => by cases z)⟩
instance {k : Vk} : Mono (PVk k) := ⟨fun e h => PVk.mono e h⟩
def badV : Dv := .tup [.int 0, .int 0]
def boolV : Dv := .tup [.bl true, .int 0, .tup [.int 0]]
/-- an item of a value -/
def ItOk (n : Nat) (fs : List Nat) (x : Dv) : Prop := (∃ l ∈ allLines n fs, x = lnV l) ∨ x = .non ∨ x = badV ∨ x = boolV
def VkOk (n : Nat) (fs : List Nat) : Vk → Prop
  | .dict => True
  | .val x => x = .non ∨ (∃ xs, x = .lst xs) ∨ ∃ xs, x = .tup xs ∧ xs.length ≤ 500 ∧ ∀ y ∈ xs, ItOk n fs y
def hitsL (x : FArg) (ls : List Ln) : Prop := ∃ h, runL (rgD x.n) ls = some h ∧ x.ws.all (hit h) = true
open Classical in
noncomputable def doesV (x : FArg) (k : Vk) (due : Option Nat) : Bool := decide (∃ ls, k = .val (progV ls) ∧ (∀ l ∈ ls, l ∈ allLines x.n x.fs) ∧ due = some ls.length ∧ (x.b = true → ∀ l ∈ ls, soft l = true) ∧ hitsL x ls)
def dueD : Option Nat → D
  | none => .none
  | some m => nm m
structure DArg where
  x : FArg
  k : Vk
  due : Option Nat
theorem isi_vk {k : Vk} (ha : Ev te σ H (PVk k)) : ∃ b, (b = true ↔ ∃ xs, k = .val (.tup xs)) ∧ Ev (tCB (rIsi K) (tCons te (tCons (tC (.ty "tuple")) tNil))) σ H (PB b) := by
  cases k with
  | dict => exact ⟨false, by simp, ev_isi ha (fun v H1 ⟨a, h0, h1⟩ => by subst h0; exact .base (.dK h1)) k_dt⟩
  | val x =>
    cases x with
    | non => exact ⟨_, by simp, ev_isiV (x := .non) ha k_nt⟩
    | bl b => exact ⟨_, by simp, ev_isiV (x := .bl b) ha k_bt⟩
    | int i => exact ⟨_, by simp, ev_isiV (x := .int i) ha k_it⟩
    | tup xs => exact ⟨_, by simp, ev_isiV (x := .tup xs) ha k_tt⟩
    | lst xs => exact ⟨_, by simp, ev_isiV (x := .lst xs) ha k_lt⟩
def sp_law_does (T : List Addr) : Sp := spP (α := DArg) T (fun y => FOk y.x ∧ VkOk y.x.n y.x.fs y.k) (fun y => [PD (mD y.x.n y.x.fs), PVk y.k, PD (wsD y.x.ws), PD (dueD y.due), PB y.x.b]) fun y => PB (doesV y.x y.k y.due)
theorem run_ok {n : Nat} : ∀ {ls : List Ln} {held h : List D}, HOk n held → maxD held ≤ 7 → (∀ l ∈ ls, LnIn n l) → runL held ls = some h → HOk n h ∧ maxD h ≤ 7
  | [], held, h, ok, hd, _, e => by cases e; exact ⟨ok, hd⟩
  | l :: ls, held, h, ok, hd, hl, e => by
    unfold runL at e
    split at e
    · cases e
    · exact run_ok (hok_did ok (hl l List.mem_cons_self)) (by omega) (fun m hm => hl m (List.mem_cons_of_mem _ hm)) e

theorem lines_len {n : Nat} {fs : List Nat} (m : MOk n fs) : (allLines n fs).length ≤ 63 := by
  have n3 := m.n3; have f2 := m.f2
  unfold allLines
  refine Nat.le_trans (flat_le (B := 21) fun c _ => linesOf_le n3 f2) ?_
  rw [List.length_range]; omega
open Classical in
theorem doesV_false {x : FArg} {k : Vk} {due : Option Nat} (h : ∀ ls, k = .val (progV ls) → (∀ l ∈ ls, l ∈ allLines x.n x.fs) → due = some ls.length → (x.b = true → ∀ l ∈ ls, soft l = true) → hitsL x ls → False) : doesV x k due = false := decide_eq_false fun ⟨ls, a, b, c, d, e⟩ => h ls a b c d e
open Classical in
theorem doesV_true {x : FArg} {k : Vk} {due : Option Nat} (h : ∃ ls, k = .val (progV ls) ∧ (∀ l ∈ ls, l ∈ allLines x.n x.fs) ∧ due = some ls.length ∧ (x.b = true → ∀ l ∈ ls, soft l = true) ∧ hitsL x ls) : doesV x k due = true := decide_eq_true h
theorem it_dep {n : Nat} {fs : List Nat} (m : MOk n fs) {y : Dv} (h : ItOk n fs y) : DOk 2 y := by
  rcases h with ⟨l, hl, rfl⟩ | rfl | rfl | rfl
  · refine ⟨by simp [ofDs], fun z hz => ?_⟩
    simp only [ofDs, List.mem_cons, List.not_mem_nil, or_false] at hz
    rcases hz with rfl | rfl | rfl
    · rfl
    · cases l.f <;> rfl
    · have := (lnIn_all m.r hl).two
      refine ⟨by rw [ofDs_map, List.length_map, List.length_map]; omega, fun z hz => ?_⟩
      rw [ofDs_map, List.map_map] at hz
      obtain ⟨i, _, rfl⟩ := List.mem_map.mp hz
      rfl
  · rfl
  · refine ⟨by simp, fun z hz => ?_⟩
    simp only [List.mem_cons, List.not_mem_nil, or_false] at hz
    rcases hz with rfl | rfl <;> rfl
  · refine ⟨by simp, fun z hz => ?_⟩
    simp only [List.mem_cons, List.not_mem_nil, or_false] at hz
    rcases hz with rfl | rfl | rfl
    · rfl
    · rfl
    · exact ⟨by simp, fun z hz => by simp only [List.mem_cons, List.not_mem_nil, or_false] at hz; rw [hz]; rfl⟩
theorem pure_law_does : ∀ vs H Q E, sp_law_does T vs H Q E → D_law_does.t K w (sp_all_lines T) (sp_alike T 2) (sp_law_ran T) { nx := fun _ H' => Q .non H', rt := Q } (start D_law_does.N vs) H := by
  rintro vs H Q E ⟨hT, ⟨x, kk, due⟩, ⟨ok, hk⟩, ⟨v1, _, rfl, h1, v2, _, rfl, h2, v3, _, rfl, h3, v4, _, rfl, h4, v5, _, rfl, h5, rfl⟩, k⟩
  replace ok : FOk x := ok
  replace hk : VkOk x.n x.fs kk := hk
  have h1 : KeyH H (mD x.n x.fs) v1 := h1
  have h2 : PVk kk v2 H := h2
  have h3 : KeyH H (.tup (x.ws.map wishD)) v3 := h3
  have h4 : KeyH H (dueD due) v4 := h4
  have h5 : v5 = .bl x.b := h5
  subst h5
  have n3 := ok.m.n3
  have k : ∀ H', Gx H H' → Q (.bl (doesV x kk due)) H' := fun H' e => k _ H' e rfl
  refine q_asg (ev_call (x.n, x.fs) hT (ea_cons (ev_var (P := PD (mD x.n x.fs)) h1 rfl) ea_nil) ok.m) fun ev H1 e1 hev => ?_
  have h2' := PVk.mono e1 h2
  obtain ⟨bt, pt, hbt⟩ := isi_vk (K := K) (σ := [some v1, some v2, some v3, some v4, some (.bl x.b), some ev, none, none, none, none, none]) (te := tVar 1) (k := kk) (ev_var h2' rfl)
  have fls : ∀ (Dn : Ends) σ2 H2, Gx H H2 → Dn.rt = Q → doesV x kk due = false → tRet (tC (.bl false)) Dn σ2 H2 := fun Dn σ2 H2 e2 hr hd => s_ret (P := PB false) ev_bl fun v H3 e3 hv => by rw [show v = .bl false from hv, hr]; have := k H3 (e2.trans e3); rwa [hd] at this
  by_cases htup : ∃ xs, kk = .val (.tup xs)
  · obtain ⟨xs, rfl⟩ := htup
    have hbt2 : bt = true := pt.mpr ⟨xs, rfl⟩
    subst hbt2
    have hxs : xs.length ≤ 500 ∧ ∀ y ∈ xs, ItOk x.n x.fs y := by
      rcases hk with h | ⟨_, h⟩ | ⟨ys, h, hh⟩
      · cases h
      · cases h
      · cases h; exact hh
    have hlenV : Ev (tCB (rLenV K) (tCons (tVar 1) tNil)) [some v1, some v2, some v3, some v4, some (.bl x.b), some ev, none, none, none, none, none] H1 (PD (nm xs.length)) := ev_lenV (x := .tup xs) (.inl rfl) (ev_var h2' rfl)
    have h4' := mono_d e1 h4
    refine q_when (b := !true || (decide (dueD due = .none) || !decide (nm xs.length = dueD due))) (et_or (et_not (et_B hbt)) fun _ => et_or (et_B (ev_isN (ev_var h4' rfl))) fun hnn => ?_) (fun hb H2 e2 => ?_) fun hb H2 e2 => ?_
    · cases due with
      | none => cases hnn
      | some m => exact et_test (ev_isB (ev_neD hlenV (ev_var (P := PD (dueD (some m))) h4' rfl) (Nat.zero_le _) (Nat.zero_le _)) rfl)
    · refine fls _ _ H2 (e1.trans e2) rfl (doesV_false fun ls hkv _ hd _ _ => ?_)
      have hl : xs.length = ls.length := by
        have := Dv.tup.inj (Vk.val.inj hkv)
        rw [this, List.length_map]
      rw [hd, ← hl] at hb
      simp [dueD] at hb
    have hdue : due = some xs.length := by
      cases due with
      | none => simp [dueD] at hb
      | some m =>
        simp only [dueD, Bool.not_true, Bool.false_or, Bool.or_eq_false_iff, Bool.not_eq_false', decide_eq_true_eq, NestedKey.num.injEq] at hb
        rw [show m = xs.length by omega]
    refine (show tSeq (tFor _ _ _) _ _ _ H2 from s_forV (xs := xs) (ev_var (PVk.mono e2 h2') rfl) (fun Hs i σ' H' => (∃ x6 x8, σ' = [some v1, some v2, some v3, some v4, some (.bl x.b), some ev, x6, none, x8, none, none]) ∧ Gx Hs H' ∧ ∃ ls : List Ln, xs.take i = ls.map lnV ∧ ∀ l ∈ ls, l ∈ allLines x.n x.fs ∧ (x.b = true → soft l = true))
      (fun Hs e3 => ⟨⟨_, _, rfl⟩, Gx.refl _, [], by simp, fun _ h => by cases h⟩) (fun Hs i σ' H' e3 p => p.2.1) (fun Hs i y yv σ' H' e3 hi p hy => ?_) fun Hs σ' H' e3 p => ?_)
    · obtain ⟨⟨x6, x8, rfl⟩, g, ls, htk, hls⟩ := p
      have hym := List.mem_of_getElem? hi
      have hit := hxs.2 y hym
      have gg := ((e1.trans e2).trans e3).trans g
      have bad : (∀ l ∈ allLines x.n x.fs, y = lnV l → x.b = true ∧ soft l = false) → doesV x (.val (.tup xs)) due = false := fun hbad => doesV_false fun ls2 hkv hls2 _ hsf _ => by
        have e := Dv.tup.inj (Vk.val.inj hkv)
        rw [e] at hym
        obtain ⟨l, hl, rfl⟩ := List.mem_map.mp hym
        obtain ⟨b1, b2⟩ := hbad l (hls2 l hl) rfl
        rw [hsf b1 l hl] at b2; cases b2
      let eqs : D → Bool := fun d => decide (ofD d = y)
      have hmapd : ∀ d ∈ (allLines x.n x.fs).map Ln.d, d.depth ≤ 40 ∧ (ofD d).dep ≤ 50 := fun d hd => by
        obtain ⟨l, _, rfl⟩ := List.mem_map.mp hd
        have h1 : NestedKey.depthAll (l.s.map nm) ≤ 0 := depths_le fun k hk => by
          obtain ⟨i, _, rfl⟩ := List.mem_map.mp hk
          exact Nat.le_refl 0
        have h3 : (fD l.f).depth = 0 := by cases l.f <;> rfl
        have h2 : Dv.deps (ofDs (l.s.map nm)) = 0 := by
          rw [ofDs_map, List.map_map]
          induction l.s with
          | nil => rfl
          | cons a r ih => simp only [List.map_cons, Dv.deps, ih]; rfl
        have h4 : (ofD (fD l.f)).dep = 0 := by cases l.f <;> rfl
        have a1 : l.d.depth = Nat.max 0 (Nat.max (fD l.f).depth (Nat.max (NestedKey.depthAll (l.s.map nm) + 1) 0)) + 1 := rfl
        have a2 : (ofD l.d).dep = Nat.max 0 (Nat.max (ofD (fD l.f)).dep (Nat.max (Dv.deps (ofDs (l.s.map nm)) + 1) 0)) + 1 := rfl
        have h1' : NestedKey.depthAll (l.s.map nm) = 0 := by omega
        constructor
        · rw [a1, h3, h1']; decide
        · rw [a2, h2, h4]; decide
      have hcmp : EvT (tTest (tOp (rEqD K) (tLc (iList K (tVar 5)) (gName 8) (tB (tCall (sp_alike T 2) [] E0 (tCons (tVar 8) (tCons (tVar 6) tNil)))) (tVar 8) [8]) (tLst tNil))) [some v1, some v2, some v3, some v4, some (.bl x.b), some ev, some yv, none, x8, none, none] H' (decide ((((allLines x.n x.fs).map Ln.d).filter eqs).map id = [])) := by
        refine et_test (ev_eqL (ks := (((allLines x.n x.fs).map Ln.d).filter eqs).map id) (ls := []) (EvL.ev (el_lcL (f := eqs) (v := id) (ev_var (P := PL _) (Mono.mono ((e2.trans e3).trans g) hev) rfl) (by rw [List.length_map]; have := lines_len (n := x.n) (fs := x.fs) ok.m; omega) fun d dv H4 e4 hm hd => ?_)) (EvL.ev (el_lst (ds := []) ea_nil (by simp))) ?_ ?_)
        · refine ⟨_, tg_name, rfl, et_B (ev_call (⟨ofD d, y⟩ : AArg) (hT.mono (gg.trans e4)) (ea_cons (ev_var (P := PK (ofD d)) (kv_of d _ hd) rfl) (ea_cons (ev_var (P := PK y) (KV.mono e4 y _ hy) rfl) ea_nil)) ⟨(hmapd d hm).2, it_dep ok.m hit⟩), fun _ => ev_var (P := PD d) hd rfl⟩
        · intro d hd
          rw [List.map_id] at hd
          have := (hmapd d (List.mem_filter.mp hd).1).1
          omega
        · intro d hd; cases hd
      by_cases hex : ∃ l ∈ allLines x.n x.fs, y = lnV l
      · obtain ⟨l, hl, rfl⟩ := hex
        have hne : decide ((((allLines x.n x.fs).map Ln.d).filter eqs).map id = []) = false := by
          refine decide_eq_false fun z => ?_
          rw [List.map_id, filter_nil] at z
          have := z l.d (List.mem_map.mpr ⟨l, hl, rfl⟩)
          exact absurd this (by simp [eqs, lnV])
        rw [hne] at hcmp
        have hkl : KeyH H' l.d yv := kd_of l.d yv (noTx_ln l) hy
        refine s_if (b := false || (x.b && !soft l)) (et_or hcmp fun _ => et_and (et_B (ev_var (P := PB x.b) rfl rfl)) fun _ => et_test (ev_isB (ev_inT (neg := false) (i := (l.c : Int)) (is := l.s.map fun (x : Nat) => (x : Int)) (ev_ix0 (ev_var (P := PD l.d) hkl rfl)) (by rw [← nms_eq]; exact ev_ix2 (ev_var (P := PD l.d) hkl rfl))) ?_)) (fun hb2 H4 e4 => ?_) fun hb2 H4 e4 => ?_
        · simp only [soft, Bool.not_not, Bool.false_eq_true, if_false]
          exact decide_eq_decide.mpr mem_cast
        · have hb3 : x.b = true ∧ soft l = false := by simpa using hb2
          exact fls _ _ H4 (gg.trans e4) rfl (bad fun m hm e => by rw [← lnV_inj e]; exact hb3)
        · have hb3 : x.b = true → soft l = true := by
            intro z; rw [z] at hb2; simpa using hb2
          refine ⟨⟨_, _, rfl⟩, g.trans e4, ls ++ [l], ?_, fun m hm => ?_⟩
          · rw [take_succ_of hi, htk, List.map_append]; rfl
          · rcases List.mem_append.mp hm with z | z
            · exact hls m z
            · rw [List.mem_singleton.mp z]; exact ⟨hl, hb3⟩
      · have hne : decide ((((allLines x.n x.fs).map Ln.d).filter eqs).map id = []) = true := by
          refine decide_eq_true ?_
          rw [List.map_id, filter_nil]
          intro d hd
          obtain ⟨l, hl, rfl⟩ := List.mem_map.mp hd
          exact decide_eq_false fun z => hex ⟨l, hl, z.symm⟩
        rw [hne] at hcmp
        refine s_if (b := true) (et_is (et_or (a := true) (b := true) hcmp fun z => Bool.noConfusion z) rfl) (fun _ H4 e4 => ?_) fun z => Bool.noConfusion z
        exact fls _ _ H4 (gg.trans e4) rfl (bad fun m hm e => absurd ⟨m, hm, e⟩ hex)
    · obtain ⟨⟨x6, x8, rfl⟩, g, ls, htk, hls⟩ := p
      rw [List.take_length] at htk
      subst htk
      have gg := ((e1.trans e2).trans e3).trans g
      have hval : KeyH H' (progD ls) v2 := kd_of (progD ls) v2 (noTx_prog ls) (by rw [← progV_eq]; exact KV.mono gg (progV ls) v2 h2)
      have hin : ∀ l ∈ ls, LnIn x.n l := fun l hl => lnIn_all ok.m.r (hls l hl).1
      refine q_asg (P := PD (optT (runL (rgD x.n) ls))) (show Ev (tCall (sp_law_ran T) [] E0 _) _ _ _ from ev_call ((x.n, x.fs), ls) (hT.mono gg) (ea_cons (ev_var (P := PD (mD x.n x.fs)) (mono_d gg h1) rfl) (ea_cons (ev_var (P := PD (progD ls)) hval rfl) (ea_cons (ev_tup (ds := []) ea_nil (by simp)) ea_nil))) ⟨ok.m, hin⟩) fun hv H4 e4 hh => ?_
      have hh : KeyH H4 (optT (runL (rgD x.n) ls)) hv := hh
      have hdoes : doesV x (.val (progV ls)) due = (match runL (rgD x.n) ls with | none => false | some h => x.ws.all (hit h)) := by
        rw [List.length_map] at hdue
        cases hr : runL (rgD x.n) ls with
        | none =>
          show doesV x (.val (progV ls)) due = false
          refine doesV_false fun ls2 hkv _ _ _ hx => ?_
          obtain ⟨h, hh, _⟩ := hx
          rw [← progV_inj (Vk.val.inj hkv), hr] at hh
          cases hh
        | some h =>
          cases hw : x.ws.all (hit h) with
          | true =>
            show doesV x (.val (progV ls)) due = x.ws.all (hit h)
            rw [hw]
            exact doesV_true ⟨ls, rfl, fun l hl => (hls l hl).1, hdue, fun z l hl => (hls l hl).2 z, h, hr, hw⟩
          | false =>
            show doesV x (.val (progV ls)) due = x.ws.all (hit h)
            rw [hw]
            refine doesV_false fun ls2 hkv _ _ _ hx => ?_
            obtain ⟨h', hh, hw'⟩ := hx
            rw [← progV_inj (Vk.val.inj hkv), hr] at hh
            cases hh
            rw [hw] at hw'; cases hw'
      cases hr : runL (rgD x.n) ls with
      | none =>
        rw [hr] at hh hdoes
        refine s_ret (P := PB false) (ev_isB (ev_andV (a := false) (b := false) (ev_isB (ev_nNon (k := .none) (ev_var (P := PD .none) hh rfl)) (by simp)) fun z => Bool.noConfusion z) rfl) fun v H5 e5 hv5 => ?_
        rw [show v = .bl false from hv5]
        have := k H5 ((gg.trans e4).trans e5)
        rwa [show doesV x (.val (.tup (ls.map lnV))) due = false from hdoes] at this
      | some h =>
        rw [hr] at hh hdoes
        have hh : KeyH H4 (.tup h) hv := hh
        obtain ⟨hok, hmx⟩ := run_ok (hok_first x.n) (by rw [first_depth]; omega) hin hr
        have hnn : ∀ y ∈ x.ws, y.2 ≠ .none := fun y hy z => by
          have := (ok.w.wf y hy).1
          rw [z] at this
          simp [wfS] at this
        refine s_ret (P := PB (true && decide ((((x.ws.map wishD).filter fun d => match d with | .tup [.num c, t] => !decide (getD' h c.toNat = t) | _ => false).map fun _ => NestedKey.num 1) = []))) (ev_andV (ev_isB (ev_nNon (k := .tup h) (ev_var (P := PD (.tup h)) hh rfl)) (by simp)) fun _ => ev_eqL (ls := []) (EvL.ev (el_lcT (ev_var (P := PD (wsD x.ws)) (mono_d (gg.trans e4) h3) rfl) (by rw [List.length_map]; have : x.ws.length ≤ 3 := ok.w.len; omega) fun d dv H5 e5 hm hd => ?_)) (EvL.ev (el_lst (ds := []) ea_nil (by simp))) ?_ ?_) fun v H5 e5 hv5 => ?_
        · obtain ⟨y, hy, rfl⟩ := List.mem_map.mp hm
          obtain ⟨us, hus, tg⟩ := tg_tup (K := K) (σ := wipe [some v1, some v2, some v3, some v4, some (.bl x.b), some ev, x6, some hv, x8, none, none] [9, 10]) (is := [9, 10]) (n := 2) hd rfl rfl
          obtain ⟨ca, _, rfl, hc, ta', _, rfl, ht, rfl⟩ := hus
          have hcl : y.1 < h.length := by rw [hok.len]; exact ok.c y hy
          refine ⟨_, tg, rfl, et_test ?_, fun _ => ev_int⟩
          show Ev _ _ _ (PB (!decide (getD' h ((y.1 : Int)).toNat = y.2)))
          rw [Int.toNat_natCast]
          refine ev_neD (ev_ixN (ev_var (P := PD (.tup h)) (mono_d e5 hh) rfl) (ev_var (P := PD (nm y.1)) hc rfl) (getD_get hcl)) (ev_var (P := PD y.2) ht rfl) ?_ ?_
          · have := le_depths (getD_mem hcl)
            unfold maxD at hmx
            omega
          · have := (ok.w.wf y hy).2; omega
        · intro d hd
          obtain ⟨_, _, rfl⟩ := List.mem_map.mp hd
          exact Nat.zero_le _
        · intro d hd; cases hd
        · rw [show v = .bl _ from hv5]
          have := k H5 ((gg.trans e4).trans e5)
          rw [show doesV x (.val (.tup (ls.map lnV))) due = x.ws.all (hit h) from hdoes] at this
          refine (congrArg (fun z => Q (.bl z) H5) ?_).mp this
          symm
          rw [Bool.true_and, Bool.eq_iff_iff, decide_eq_true_iff, List.map_eq_nil_iff, filter_nil, List.all_eq_true]
          constructor
          · intro z y hy
            have := z _ (List.mem_map.mpr ⟨y, hy, rfl⟩)
            have this : (!decide (getD' h ((y.1 : Int)).toNat = y.2)) = false := this
            rw [Int.toNat_natCast] at this
            have hcl : y.1 < h.length := by rw [hok.len]; exact ok.c y hy
            unfold hit
            rw [getD_get hcl]
            simpa using this
          · intro z d hd
            obtain ⟨y, hy, rfl⟩ := List.mem_map.mp hd
            have hcl : y.1 < h.length := by rw [hok.len]; exact ok.c y hy
            have := z y hy
            unfold hit at this
            rw [getD_get hcl] at this
            show (!decide (getD' h ((y.1 : Int)).toNat = y.2)) = false
            rw [Int.toNat_natCast]
            simpa using this
  · have hbt2 : bt = false := by cases bt; rfl; exact absurd (pt.mp rfl) htup
    subst hbt2
    refine q_when (b := true) (et_is (et_or (a := true) (b := true) (et_not (et_B hbt)) fun z => Bool.noConfusion z) rfl) (fun _ H2 e2 => fls _ _ H2 (e1.trans e2) rfl (doesV_false fun ls hkv _ _ _ _ => htup ⟨_, hkv⟩)) fun z => Bool.noConfusion z
theorem ok_law_does {f c : Addr} {k : Nat} (F : Df K "_law_does" "_law_does" D_law_does.st [] f c) (hm : mg "_law_does" = some (.ref f)) (B : Bi mg) (F1 : Fc P w K mg base CX0 k "_law_every_line" [] (sp_all_lines T)) (F2 : Fc P w K mg base CX0 k "_law_alike" [] (sp_alike T 2)) (F3 : Fc P w K mg base CX0 k "_law_ran" [] (sp_law_ran T)) : Fc P w K mg base CX0 (k + 1) "_law_does" [] (sp_law_does T) :=
  F.fc hm D_law_does.S (spP_len fun _ => rfl) (fun _ _ _ _ _ _ us hl => match us, hl with | [_, _, _, _, _], _ => rfl) fun cdv A outer s H vs Q E hc hr h => ⟨_, PSs.nox (D_law_does.d B hr F1 F2 F3), pure_law_does vs H Q E h⟩
end
end LX

set_option maxRecDepth 100000
set_option maxHeartbeats 8000000
namespace LX
open PySem PySem.Spec PyProof.Rows L2 MDict GxR GQ
theorem putK_len (kvs : List (D × V)) (k : D) (v : V) : (putK kvs k v).length ≤ kvs.length + 1 := by
  unfold putK
  split
  · rw [List.length_map]; omega
  · simp
section
variable {P : Program} {w : World} {K : PySem.W.Frag} {mg : Str → Option Value} {base : Heap} {T : List Addr} {σ : L2.St} {H : Hp} {ta tb te tl : TE} {tu : TS} {g : TG} {Dn : Ends}
/-- {x: True for x in a list} -/
theorem ev_mdc {ds : List D} {j : Nat} (h : Ev tl σ H (PL ds)) (hz : ds.length ≤ 40000) (hd : ∀ d ∈ ds, d.depth ≤ 8 ∧ ((∃ i, d = .num i) ∨ ∃ ks, d = .tup ks)) (hw : ∀ x, wipe ((wipe σ [j]).set j (some x)) [j] = wipe σ [j]) (hj : ∀ x, ((wipe σ [j]).set j (some x))[j]? = some (some x)) :
    Ev (tMdc w (iList K tl) (gName j) tYes (tVar j) (tC (.bl true)) [j]) σ H fun v H' => ∃ kvs, PM w kvs v H' ∧ ∀ k, (valV kvs k).isSome = decide (k ∈ ds) := fun H0 e Q q => h H0 e _ fun v H1 e1 hv => by
  obtain ⟨a, us, rfl, h1, h2⟩ := hv
  have hn := ka_len h2
  refine ⟨a, rfl, ⟨us, SqL.of h1⟩, fun Dd hD φ hm => ?_⟩
  have st : ∀ {H'}, Gx H1 H' → SqL K H' a us := fun e' => SqL.of (e'.kp a _ h1 (fun _ z => by cases z))
  refine ⟨fun i m H' => m = us.length - i ∧ i ≤ us.length ∧ Gx H1 H' ∧ ∃ kvs, MAt w H' Dd kvs ∧ kvs.length ≤ i ∧ ∀ k, (valV kvs k).isSome = decide (k ∈ ds.take i), ⟨us.length, by simp, Nat.zero_le _, Gx.new hD, [], hm, by simp, fun k => by simp [valV_nil]⟩, ?_⟩
  rintro i m H' ⟨rfl, hi, g, kvs, mk, kl, kv⟩
  by_cases hlt : i < us.length
  · refine .inr ⟨⟨us, us[i], st g, by simp [hlt]⟩, fun H'' => i + 1 ≤ us.length ∧ Gx H1 H'' ∧ ∃ kvs, MAt w H'' Dd kvs ∧ kvs.length ≤ i + 1 ∧ ∀ k, (valV kvs k).isSome = decide (k ∈ ds.take (i + 1)), fun H'' p => ⟨us.length - (i + 1), by omega, rfl, p⟩, fun x H'' y => ?_⟩
    obtain ⟨rfl, y⟩ := y
    have hx := y us (st g)
    obtain ⟨d, g1, g2⟩ := ka_get' h2 hx
    have hdm := List.mem_of_getElem? g1
    refine ⟨hw x, ?_⟩
    refine ⟨x, hj x, kvs, d, mk, ktop (mono_d g g2) (hd d hdm).1 (hd d hdm).2, by rw [sizeLine_eq]; omega, fun φ2 m2 => ⟨hlt, g.mut hD, _, m2, Nat.le_trans (putK_len _ _ _) (by omega), fun k => ?_⟩⟩
    rw [valV_put, take_succ_of g1]
    by_cases hk : k = d
    · rw [if_pos hk]; simp [hk]
    · rw [if_neg hk, kv]
      exact decide_eq_decide.mpr (by simp [hk])
  · have : i = us.length := by omega
    subst this
    refine .inl ⟨⟨us, st g, Nat.le_refl _⟩, q _ H' (e1.trans g) ⟨kvs, ⟨Dd, rfl, mk⟩, fun k => ?_⟩⟩
    rw [kv, hn, List.take_length]
/-! is_plain -/
theorem ev_ixTV {x y : Dv} {xs : List Dv} {i : Nat} (hx : x = .tup xs) (ha : Ev ta σ H (PK x)) (hb : Ev tb σ H (PD (nm i))) (hi : xs[i]? = some y) : Ev (tOp (rIxT K) ta tb) σ H (PK y) :=
  ev_op2 ha hb fun u z H1 _ hu hz Q q => by
    have hz : z = .int (i : Int) := hz
    subst hz
    subst hx
    obtain ⟨a, vs, rfl, h1, h2⟩ := hu
    obtain ⟨v, hv1, hv2⟩ := kvs_get h2 hi
    exact ⟨a, vs, _, v, rfl, rfl, SqT.of h1, atI_nat hv1, q v H1 (Gx.refl H1) hv2⟩
theorem kvs_app : ∀ {xs ys : List Dv} {vs us : List V}, KVs H xs vs → KVs H ys us → KVs H (xs ++ ys) (vs ++ us)
  | [], _, vs, _, h, h2 => by cases (show vs = [] from h); exact h2
  | x :: xs, ys, vs, us, h, h2 => by
    obtain ⟨v, r, rfl, h1, hr⟩ := h
    exact ⟨v, r ++ us, rfl, h1, kvs_app hr h2⟩
theorem ev_catV {xs ys : List Dv} (ha : Ev ta σ H (PK (.tup xs))) (hb : Ev tb σ H (PK (.tup ys))) (hz : xs.length + ys.length ≤ 100000) : Ev (tOp (rCatA K) ta tb) σ H (PK (.tup (xs ++ ys))) :=
  ev_op2 ha hb fun x y H1 _ hx hy Q q => by
    obtain ⟨a, vs, rfl, h1, h2⟩ := hx
    obtain ⟨b, us, rfl, h3, h4⟩ := hy
    refine ⟨a, b, vs, us, rfl, rfl, SqT.of h1, SqT.of h3, by rw [kvs_len h2, kvs_len h4, sizeLine_eq]; omega, fun z => ?_, fun z z' => ?_, fun z z' p hp => ?_⟩
    · subst z
      have e : xs = [] := List.eq_nil_of_length_eq_zero (by rw [← kvs_len h2]; rfl)
      subst e
      exact q _ H1 (Gx.refl H1) ⟨b, us, rfl, h3, h4⟩
    · subst z'
      have e : ys = [] := List.eq_nil_of_length_eq_zero (by rw [← kvs_len h4]; rfl)
      subst e
      rw [List.append_nil]  at q
      exact q _ H1 (Gx.refl H1) ⟨a, vs, rfl, h1, h2⟩
    · have e := Gx.new (o := .tup (vs ++ us)) hp
      exact q _ _ e ⟨p, vs ++ us, rfl, upd_same, kvs_app (KVs.mono e _ _ h2) (KVs.mono e _ _ h4)⟩
theorem ev_tupV0 : Ev (tTup tNil) σ H (PK (.tup [])) := fun H1 e Q q => ⟨by simp, fun p hp => q _ _ (Gx.new hp) ⟨p, [], rfl, upd_same, rfl⟩⟩
theorem ev_tupV1 {x : Dv} (h : Ev te σ H (PK x)) : Ev (tTup (tCons te tNil)) σ H (PK (.tup [x])) := fun H1 e Q q => h H1 e _ fun v H2 e2 hv => by
  refine ⟨by rw [sizeLine_eq]; show 1 ≤ _; decide, fun p hp => ?_⟩
  have g := Gx.new (o := .tup [v]) hp
  exact q _ _ (e2.trans g) ⟨p, [v], rfl, upd_same, v, [], rfl, KV.mono g x v hv, rfl⟩
theorem ev_kd {d : D} (h : Ev te σ H (PD d)) : Ev te σ H (PK (ofD d)) := h.imp fun v H' hv => kv_of d v hv
def numV : Dv → Bool
  | .int _ => true
  | _ => false
theorem isi_tup (x : Dv) : ∃ b, kitB (tyV x) "tuple" = some b ∧ (b = true ↔ ∃ xs, x = .tup xs) := by
  cases x with
  | non => exact ⟨_, k_nt, by simp⟩
  | bl b => exact ⟨_, k_bt, by simp⟩
  | int i => exact ⟨_, k_it, by simp⟩
  | tup xs => exact ⟨_, k_tt, by simp⟩
  | lst xs => exact ⟨_, k_lt, by simp⟩
theorem ev_num {j : Nat} {x : Dv} {v : V} (h : KV H x v) (hj : σ[j]? = some (some v)) : Ev (tAndV (tCB (rIsi K) (tCons (tVar j) (tCons (tC (.ty "int")) tNil))) (tNotV (tCB (rIsi K) (tCons (tVar j) (tCons (tC (.ty "bool")) tNil))))) σ H (PB (numV x)) := by
  cases x with
  | non => exact ev_isB (ev_andV (a := false) (b := false) (ev_isiV (x := .non) (ev_var h hj) k_ni) fun z => Bool.noConfusion z) rfl
  | bl b => exact ev_isB (ev_andV (ev_isiV (x := .bl b) (ev_var h hj) k_bi) fun _ => ev_notV (ev_isiV (x := .bl b) (ev_var h hj) k_bb)) rfl
  | int i => exact ev_isB (ev_andV (ev_isiV (x := .int i) (ev_var h hj) k_ii) fun _ => ev_notV (ev_isiV (x := .int i) (ev_var h hj) k_ib)) rfl
  | tup xs => exact ev_isB (ev_andV (a := false) (b := false) (ev_isiV (x := .tup xs) (ev_var h hj) k_ti) fun z => Bool.noConfusion z) rfl
  | lst xs => exact ev_isB (ev_andV (a := false) (b := false) (ev_isiV (x := .lst xs) (ev_var h hj) k_li) fun z => Bool.noConfusion z) rfl
open Classical in
noncomputable def lineB (n : Nat) (fs : List Nat) (x : Dv) : Bool := decide (∃ l ∈ allLines n fs, x = lnV l)
open Classical in
theorem lineB_true {n : Nat} {fs : List Nat} {x : Dv} : lineB n fs x = true ↔ ∃ l ∈ allLines n fs, x = lnV l := decide_eq_true_iff
structure IArg where
  n : Nat
  fs : List Nat
  x : Dv
def sp_is_plain (T : List Addr) : Sp := spP (α := IArg) T (fun y => MOk y.n y.fs ∧ ItOk y.n y.fs y.x) (fun y => [PK y.x]) fun y => PB (lineB y.n y.fs y.x)
theorem lnV_shape (l : Ln) : lnV l = .tup [.int (l.c : Int), ofD (fD l.f), .tup (l.s.map fun (i : Nat) => Dv.int (i : Int))] := by
  unfold lnV Ln.d
  simp only [ofD, ofDs]
  rw [ofDs_map, List.map_map]
  rfl
theorem not_ln {x : Dv} (h : ∀ a b ss, x ≠ .tup [.int a, b, .tup ss]) (l : Ln) : x ≠ lnV l := fun e => h _ _ _ (e.trans (lnV_shape l))
theorem pure_is_plain {Pt : Addr} (hP : Pt ∈ T) : ∀ vs H Q E, sp_is_plain T vs H Q E → D_is_plain.t K w Pt { nx := fun _ H' => Q .non H', rt := Q } (start D_is_plain.N vs) H := by
  rintro vs H Q E ⟨hT, ⟨n, fs, x⟩, ⟨m, hi⟩, ⟨v1, _, rfl, h1, rfl⟩, k⟩
  replace m : MOk n fs := m
  replace hi : ItOk n fs x := hi
  replace h1 : KV H x v1 := h1
  replace k : ∀ H', Gx H H' → Q (.bl (lineB n fs x)) H' := fun H' e => k _ H' e rfl
  -- the general case
  have main : ∀ a b ss, x = .tup [a, b, .tup ss] → ss.length ≤ 100 → lineB n fs x = ((a :: ss) ++ (if b = .non then [] else [b])).all numV → D_is_plain.t K w Pt { nx := fun _ H' => Q .non H', rt := Q } (start D_is_plain.N [v1]) H := fun a b ss hx hl hr => by
    have i0 : [a, b, Dv.tup ss][0]? = some a := rfl
    refine q_pass (et_is (et_or (et_not (et_B (ev_isiV (x := x) (ev_var h1 rfl) (by rw [hx]; exact k_tt)))) fun _ => et_or (et_test (ev_neI (ev_lenV (.inl hx) (ev_var h1 rfl)) ev_int)) fun _ => et_not (et_B (ev_isiV (x := .tup ss) (ev_ixTV (i := 2) hx (ev_var h1 rfl) ev_int rfl) k_tt))) (by simp)) fun H1 e1 => ?_
    have h1' := KV.mono e1 x _ h1
    refine q_asg (P := PK (.tup (([a] ++ ss) ++ (if b = .non then [] else [b])))) (ev_catV (ev_catV (ev_tupV1 (ev_ixTV (i := 0) hx (ev_var h1' rfl) ev_int rfl)) (ev_ixTV (i := 2) hx (ev_var h1' rfl) ev_int rfl) (by simp; omega)) (ev_if (b := decide (b = .non)) (et_B (ev_isNV (ev_ixTV (i := 1) hx (ev_var h1' rfl) ev_int rfl))) (fun hb => ?_) fun hb => ?_) (by split <;> (simp; omega))) fun pv H2 e2 hp => ?_
    · rw [if_pos (of_decide_eq_true hb)]; exact ev_tupV0
    · rw [if_neg (of_decide_eq_false hb)]; exact ev_tupV1 (ev_ixTV (i := 1) hx (ev_var h1' rfl) ev_int rfl)
    refine s_ret (P := PB (lineB n fs x)) (ev_isB (ev_quV (f := numV) (((hT.mono e1).mono e2) Pt hP) (ev_var hp rfl) fun y v H3 e3 hm hy => ⟨_, tg_name, rfl, ev_num hy rfl⟩) hr.symm) fun v H3 e3 hv => by rw [show v = .bl _ from hv]; exact k H3 ((e1.trans e2).trans e3)
  have nul : (lineB n fs x = false) → (∀ xs, x = .tup xs → xs.length = 2) → D_is_plain.t K w Pt { nx := fun _ H' => Q .non H', rt := Q } (start D_is_plain.N [v1]) H := fun hr h2 => by
    obtain ⟨b, hb1, hb2⟩ := isi_tup x
    refine q_when (b := true) ?_ (fun _ H1 e1 => s_ret (P := PB false) ev_bl fun v H2 e2 hv => by rw [show v = .bl false from hv]; have := k H2 (e1.trans e2); rwa [hr] at this) fun z => Bool.noConfusion z
    cases b with
    | false => exact et_is (et_or (a := true) (b := true) (et_not (et_B (ev_isiV (x := x) (ev_var h1 rfl) hb1))) fun z => Bool.noConfusion z) rfl
    | true =>
      obtain ⟨xs, hx⟩ := hb2.mp rfl
      have := h2 xs hx
      exact et_is (et_or (a := false) (b := true) (et_not (et_B (ev_isiV (x := x) (ev_var h1 rfl) hb1))) fun _ => et_is (et_or (a := true) (b := true) (et_test (ev_isB (ev_neI (ev_lenV (.inl hx) (ev_var h1 rfl)) ev_int) (by simp [this]))) fun z => Bool.noConfusion z) rfl) rfl
  have notL : (∀ l, x ≠ lnV l) → lineB n fs x = false := fun h => by
    cases hb : lineB n fs x with
    | false => rfl
    | true => obtain ⟨l, _, e⟩ := lineB_true.mp hb; exact absurd e (h l)
  rcases hi with ⟨l, hl, rfl⟩ | rfl | rfl | rfl
  · refine main _ _ _ (lnV_shape l) (by have := (lnIn_all m.r hl).two; rw [List.length_map]; omega) ?_
    rw [lineB_true.mpr ⟨l, hl, rfl⟩]
    symm
    rw [List.all_eq_true]
    intro y hy
    rcases List.mem_append.mp hy with h | h
    · rcases List.mem_cons.mp h with rfl | h
      · rfl
      · obtain ⟨i, _, rfl⟩ := List.mem_map.mp h; rfl
    · cases hf : l.f with
      | none => rw [hf] at h; simp [fD, ofD] at h
      | some f => rw [hf] at h; simp [fD, ofD] at h; rw [h]; rfl
  · exact nul (notL (not_ln fun _ _ _ => by simp)) (fun xs h => by cases h)
  · exact nul (notL (not_ln fun _ _ _ => by simp [badV])) (fun xs h => by cases h; rfl)
  · refine main (.bl true) (.int 0) [.int 0] rfl (by simp) ?_
    rw [notL (not_ln fun _ _ _ => by simp [boolV])]
    rfl
end
end LX

set_option maxRecDepth 100000
set_option maxHeartbeats 8000000
namespace LX
open PySem PySem.Spec PyProof.Rows L2 MDict GxR GQ
section
variable {P : Program} {w : World} {K : PySem.W.Frag} {mg : Str → Option Value} {base : Heap} {T : List Addr} {σ : L2.St} {H : Hp} {ta tb te tl : TE} {tu : TS} {g : TG} {Dn : Ends}
theorem ok_is_plain {f c Pt : Addr} {k : Nat} (F : Df K "is_plain" "is_plain" D_is_plain.st [] f c) (hm : mg "is_plain" = some (.ref f)) (B : Bi mg) (TB : TabB base mg c Pt) (hP : Pt ∈ T) : Fc P w K mg base CX0 (k + 2) "is_plain" [] (sp_is_plain T) :=
  F.fc hm D_is_plain.S (spP_len fun _ => rfl) (fun _ _ _ _ _ _ us hl => match us, hl with | [_], _ => rfl) fun cdv A outer s H vs Q E hc hr h => ⟨_, PSs.nox (D_is_plain.d (k := k) B hr TB hc), pure_is_plain hP vs H Q E h⟩
structure RArg where
  n : Nat
  fs : List Nat
  k : Vk
open Classical in
noncomputable def progB (n : Nat) (fs : List Nat) (k : Vk) : Bool := decide (∃ ls, k = .val (progV ls) ∧ (∀ l ∈ ls, l ∈ allLines n fs) ∧ ls.length ≤ 60)
open Classical in
theorem progB_true {n : Nat} {fs : List Nat} {k : Vk} : progB n fs k = true ↔ ∃ ls, k = .val (progV ls) ∧ (∀ l ∈ ls, l ∈ allLines n fs) ∧ ls.length ≤ 60 := decide_eq_true_iff
theorem progB_false {n : Nat} {fs : List Nat} {k : Vk} (h : ∀ ls, k = .val (progV ls) → (∀ l ∈ ls, l ∈ allLines n fs) → ls.length ≤ 60 → False) : progB n fs k = false := by
  cases hb : progB n fs k with
  | false => rfl
  | true => obtain ⟨ls, a, b, c⟩ := progB_true.mp hb; exact absurd (h ls a b c) id
theorem lines_of {A : List Ln} : ∀ {xs : List Dv}, (∀ y ∈ xs, ∃ l ∈ A, y = lnV l) → ∃ ls : List Ln, xs = ls.map lnV ∧ ∀ l ∈ ls, l ∈ A
  | [], _ => ⟨[], rfl, fun _ h => by cases h⟩
  | x :: xs, h => by
    obtain ⟨l, hl, rfl⟩ := h x List.mem_cons_self
    obtain ⟨ls, rfl, hls⟩ := lines_of (xs := xs) fun y hy => h y (List.mem_cons_of_mem _ hy)
    exact ⟨l :: ls, rfl, fun m hm => (List.mem_cons.mp hm).elim (fun e => e ▸ hl) (hls m)⟩
def sp_is_program (T : List Addr) : Sp := spP (α := RArg) T (fun y => MOk y.n y.fs ∧ VkOk y.n y.fs y.k) (fun y => [PD (mD y.n y.fs), PVk y.k]) fun y => PB (progB y.n y.fs y.k)
theorem ln_depth {n : Nat} {fs : List Nat} (m : MOk n fs) {d : D} (h : d ∈ (allLines n fs).map Ln.d) : d.depth ≤ 8 ∧ ((∃ i, d = .num i) ∨ ∃ ks, d = .tup ks) := by
  obtain ⟨l, _, rfl⟩ := List.mem_map.mp h
  refine ⟨?_, .inr ⟨_, rfl⟩⟩
  have h1 : NestedKey.depthAll (l.s.map nm) ≤ 0 := depths_le fun k hk => by
    obtain ⟨i, _, rfl⟩ := List.mem_map.mp hk
    exact Nat.le_refl 0
  have h3 : (fD l.f).depth = 0 := by cases l.f <;> rfl
  have a1 : l.d.depth = Nat.max 0 (Nat.max (fD l.f).depth (Nat.max (NestedKey.depthAll (l.s.map nm) + 1) 0)) + 1 := rfl
  rw [a1, h3, show NestedKey.depthAll (l.s.map nm) = 0 by omega]
  decide
theorem pure_is_program {Pt : Addr} (hP : Pt ∈ T) : ∀ vs H Q E, sp_is_program T vs H Q E → D_is_program.t K w Pt (sp_all_lines T) (sp_is_plain T) { nx := fun _ H' => Q .non H', rt := Q } (start D_is_program.N vs) H := by
  rintro vs H Q E ⟨hT, ⟨n, fs, kk⟩, ⟨m, hk⟩, ⟨v1, _, rfl, h1, v2, _, rfl, h2, rfl⟩, k⟩
  replace m : MOk n fs := m
  replace hk : VkOk n fs kk := hk
  replace h1 : KeyH H (mD n fs) v1 := h1
  replace h2 : PVk kk v2 H := h2
  replace k : ∀ H', Gx H H' → Q (.bl (progB n fs kk)) H' := fun H' e => k _ H' e rfl
  refine q_asg (ev_mdc (ds := (allLines n fs).map Ln.d) (ev_call (n, fs) hT (ea_cons (ev_var (P := PD (mD n fs)) h1 rfl) ea_nil) m) (by rw [List.length_map]; have := lines_len m; omega) (fun d hd => ln_depth m hd) (fun _ => rfl) (fun _ => rfl)) fun dv H1 e1 hdv => ?_
  obtain ⟨kvs, hpm, hin⟩ := hdv
  have h2' := PVk.mono e1 h2
  obtain ⟨bt, pt, hbt⟩ := isi_vk (K := K) (σ := [some v1, some v2, some dv, none]) (te := tVar 1) (k := kk) (ev_var h2' rfl)
  have fls : ∀ (Dn : Ends) σ2 H2, Gx H H2 → Dn.rt = Q → progB n fs kk = false → tRet (tC (.bl false)) Dn σ2 H2 := fun Dn σ2 H2 e2 hr hd => s_ret (P := PB false) ev_bl fun v H3 e3 hv => by rw [show v = .bl false from hv, hr]; have := k H3 (e2.trans e3); rwa [hd] at this
  by_cases htup : ∃ xs, kk = .val (.tup xs)
  · obtain ⟨xs, hkx⟩ := htup
    have hbt2 : bt = true := pt.mpr ⟨xs, hkx⟩
    subst hbt2
    have hxs : xs.length ≤ 500 ∧ ∀ y ∈ xs, ItOk n fs y := by
      rw [hkx] at hk
      rcases hk with h | ⟨_, h⟩ | ⟨ys, h, hh⟩
      · cases h
      · cases h
      · cases h; exact hh
    have h2x : KV H1 (.tup xs) v2 := by rw [hkx] at h2'; exact h2'
    refine q_when (b := !true || decide ((60 : Int) < (xs.length : Int))) (et_or (et_not (et_B hbt)) fun _ => et_test (ev_gt (ev_lenV (x := .tup xs) (.inl rfl) (ev_var h2x rfl)) ev_int)) (fun hb H2 e2 => ?_) fun hb H2 e2 => ?_
    · refine fls _ _ H2 (e1.trans e2) rfl (progB_false fun ls hkv _ hl => ?_)
      rw [hkx] at hkv
      have : xs.length = ls.length := by rw [Dv.tup.inj (Vk.val.inj hkv), List.length_map]
      simp at hb
      omega
    · have hl60 : xs.length ≤ 60 := by simp at hb; omega
      refine s_ret (P := PB (progB n fs kk)) (ev_isB (ev_quV (f := lineB n fs) (((hT.mono e1).mono e2) Pt hP) (ev_var (KV.mono e2 (.tup xs) _ h2x) rfl) fun y v H3 e3 hm hy => ⟨_, tg_name, rfl, ?_⟩) ?_) fun v H3 e3 hv => by rw [show v = .bl _ from hv]; exact k H3 ((e1.trans e2).trans e3)
      · refine ev_isB (a := lineB n fs y && true) (ev_andV (ev_call (⟨n, fs, y⟩ : IArg) (((hT.mono e1).mono e2).mono e3) (ea_cons (ev_var (P := PK y) hy rfl) ea_nil) ⟨m, hxs.2 y hm⟩) fun hb2 => ?_) (Bool.and_true _)
        obtain ⟨l, hl, rfl⟩ := lineB_true.mp hb2
        refine ev_isB (ev_min (neg := false) (k := l.d) (kvs := kvs) (ev_var (P := PD l.d) (kd_of l.d v (noTx_ln l) hy) rfl) (ev_var (P := PM w kvs) (Mono.mono (e2.trans e3) hpm) rfl) (ln_depth m (List.mem_map.mpr ⟨l, hl, rfl⟩)).1 (.inr ⟨_, rfl⟩)) ?_
        rw [hin]
        exact decide_eq_true (List.mem_map.mpr ⟨l, hl, rfl⟩)
      · cases hb3 : xs.all (lineB n fs) with
        | true =>
          obtain ⟨ls, rfl, hls⟩ := lines_of (A := allLines n fs) fun y hy => lineB_true.mp (List.all_eq_true.mp hb3 y hy)
          exact (progB_true.mpr ⟨ls, hkx, hls, by rw [List.length_map] at hl60; exact hl60⟩).symm
        | false =>
          symm
          refine progB_false fun ls hkv hls _ => ?_
          rw [hkx] at hkv
          have := Dv.tup.inj (Vk.val.inj hkv)
          rw [this, List.all_eq_false] at hb3
          obtain ⟨y, hy, hy2⟩ := hb3
          obtain ⟨l, hl, rfl⟩ := List.mem_map.mp hy
          exact hy2 (lineB_true.mpr ⟨l, hls l hl, rfl⟩)
  · have hbt2 : bt = false := by cases bt; rfl; exact absurd (pt.mp rfl) htup
    subst hbt2
    exact q_when (b := true) (et_is (et_or (a := true) (b := true) (et_not (et_B hbt)) fun z => Bool.noConfusion z) rfl) (fun _ H2 e2 => fls _ _ H2 (e1.trans e2) rfl (progB_false fun ls hkv _ _ => htup ⟨_, hkv⟩)) fun z => Bool.noConfusion z
theorem ok_is_program {f c Pt : Addr} {k : Nat} (F : Df K "is_program" "is_program" D_is_program.st [] f c) (hm : mg "is_program" = some (.ref f)) (B : Bi mg) (TB : TabB base mg c Pt) (hP : Pt ∈ T) (g1 : ∃ t, mg "MOST_LINES" = some (.int 60 t)) (F1 : Fc P w K mg base CX0 k "all_lines" [] (sp_all_lines T)) (F2 : Fc P w K mg base CX0 k "is_plain" [] (sp_is_plain T)) : Fc P w K mg base CX0 (k + 2) "is_program" [] (sp_is_program T) :=
  F.fc hm D_is_program.S (spP_len fun _ => rfl) (fun _ _ _ _ _ _ us hl => match us, hl with | [_, _], _ => rfl) fun cdv A outer s H vs Q E hc hr h => ⟨_, PSs.nox (D_is_program.d (k := k) B hr TB hc g1 F1 F2), pure_is_program hP vs H Q E h⟩
end
end LX

set_option maxRecDepth 100000
set_option maxHeartbeats 8000000
namespace LX
open PySem PySem.Spec PyProof.Rows L2 MDict GxR GQ
/-! ### TooMany -/
/-- what the top has written of the error -/
structure Tm (K : PySem.W.Frag) (mg : Str → Option Value) (C fI : Addr) : Prop where
  gC : mg "TooMany" = some (.ref C)
  o : OexC K C
  noM : PySem.W.findIn K (.ref C) "most" = some none
  iC : PySem.W.findIn K (.ref C) "__init__" = some (some (.ref fI))
  tI : PySem.W.typeIn K (.ref fI) = some (.type "function")
  te : PySem.W.exmOne K (.ref C) (.ref C) = some true
namespace D_TM
abbrev st : Stmt := inClass (top 4) 0
abbrev N : List Str := ["self", "most"]
abbrev ps : List Str := ["self", "most"]
theorem S : FnScope N ps (defScope st) := ⟨rfl, rfl, rfl, by decide +kernel, rfl, by decide +kernel, by decide +kernel⟩
def t (K : PySem.W.Frag) : TS := tOst K "most" (tVar 0) (tVar 1)
theorem d {P : Program} {w : World} {K : PySem.W.Frag} {mg : Str → Option Value} {base : Heap} {f : Addr} {cdv : Value} {A : Around} {outer : List Env} {s : Shared} {H : Hp} {E : XK} :
    PSs (cxOf CX0 P w K mg base N "TooMany.__init__" (defScope st) f cdv A outer s H E).nox (defBody st) (t K) := pss_one (ps_ost (pv 0) (pv 1))
end D_TM
def sp_tm (C : Addr) : Sp := fun vs H Q _ => ∃ a v, vs = [.ref a, v] ∧ H a = some (exo a C none) ∧ ∀ dx, H dx = none → dx ≠ a → Q .non (upd (upd H dx (exd dx [("most", v)])) a (exo a C (some dx)))
section
variable {P : Program} {w : World} {K : PySem.W.Frag} {mg : Str → Option Value} {base : Heap} {T : List Addr} {C fI : Addr} {X : Cx}
theorem ok_tm {c : Addr} {k : Nat} (F : Df K "__init__" "TooMany.__init__" D_TM.st [] fI c) (M : Tm K mg C fI) : Fm P w K mg base CX0 (k + 1) fI [] (sp_tm C) := by
  obtain ⟨fd, h1, h2⟩ := F.ok (P := P) (w := w) (mg := mg) (base := base) (CX := CX0) (k := k) (sp := sp_tm C) (N := D_TM.N) (ps := D_TM.ps) D_TM.S (fun vs H Q E h => by
    obtain ⟨a, v, rfl, _⟩ := h
    rfl) fun cdv A outer s H vs Q E hc hr h => ⟨_, PSs.nox D_TM.d, by
      obtain ⟨a, v, rfl, ha, k⟩ := h
      exact ⟨v, rfl, .ref a, rfl, a, C, rfl, M.o, M.noM, .inl ⟨ha, fun dx hd hn => k dx hd hn⟩⟩⟩
  exact ⟨fd, _, [], h1, h2.bindsN (fun _ _ _ _ _ _ us hl => match us, hl with | [_, _], _ => rfl), .nil⟩
/-- the reading of raise TooMany(8) -/
def tRaiseTM (C : Addr) (W : WX) : TS := fun _ σ H => tMkO C (sp_tm C) [] (tCons (tC (.int 8)) tNil) σ H fun cls d H' => W cls d σ H'
theorem ps_raiseTM {W : WX} {x : Str} {p p2 pos pos2 : Pos} {k : Nat} (hc : X.calm = true) (M : Tm X.K X.mg C fI) (F1 : Fm X.prog X.w X.K X.mg X.base CX0 k fI [] (sp_tm C)) (hr : Room (k + 1) X.A) (tk : Takes X W) (g8 : ∃ t, X.mg x = some (.int 8 t)) (hgx : Gl X x := by rfl) (hg : Gl X "TooMany" := by rfl)
    (hd : (x == ("__debug__" : Str)) = false := by decide)
    (he : starEach (.Name x p2 :: []) X.env = (false, eval (.Name x p2) X.env) :: starEach [] X.env := by rfl) (hpl : (backTo pos (starEach [] X.env)).any (·.1) = false := by rfl) :
    PS X (.Raise (some (.Call (.Name "TooMany" p) [.Name x p2] [] pos)) none pos2) (tRaiseTM C W) := by
  obtain ⟨fd, ps, ds, h1, h2, h3⟩ := F1.ex
  exact ps_raise hc tk (pmk_oex M.o M.iC M.tI h1 hr h2 h3 pass0 hg M.gC (pa_cons (x_gint g8 hgx hd) pa_nil) (by decide) he hpl)
theorem raise_tm {W : WX} {σ : L2.St} {H : Hp} {Dn : Ends} (k : ∀ d H', Gx H H' → W (.ref C) (some d) σ H') : tRaiseTM C W Dn σ H := by
  refine ⟨by simp, fun a ha => ⟨a, .int 8, rfl, upd_same, fun dx hd hn => ⟨rfl, dx, [("most", .int 8)], upd_same, by rw [upd_ne hn, upd_same], ?_, ?_⟩⟩⟩
  · rwa [upd_ne hn] at hd
  · rw [upd_ne hn] at hd
    have e : upd (del (upd (upd (upd H a (exo a C none)) dx (exd dx [("most", V.int 8)])) a (exo a C (some dx))) a) dx (.xd [("most", .int 8)]) = upd H dx (.xd [("most", .int 8)]) := by
      funext b
      by_cases h1 : b = dx
      · rw [h1, upd_same, upd_same]
      · rw [upd_ne h1, upd_ne h1]
        by_cases h2 : b = a
        · rw [h2, del_same, ha]
        · rw [del_ne h2, upd_ne h2, upd_ne h1, upd_ne h2]
    rw [e]
    exact k dx _ (Gx.new hd)
/-- a call that may raise -/
theorem x_callS {k : Nat} {x : Str} {sp : Sp} {W : WX} {e : Expr} {es : List Expr} {p pos : Pos} {ta : TA} (F : Fc X.prog X.w X.K X.mg X.base (L2.CX X.prog X.w) k x [] sp) (tk : Takes X W) (hr : Room k X.A) (ha : PA X (e :: es) ta) (hg : Gl X x := by rfl)
    (hdb : (x == ("__debug__" : Str)) = false := by decide) (he : starEach (e :: es) X.env = (false, eval e X.env) :: starEach es X.env := by rfl) (hpl : (backTo pos (starEach es X.env)).any (·.1) = false := by rfl) :
    PE X (.Call (.Name x p) (e :: es) [] pos) (tCallS sp (WE W) ta) := by
  obtain ⟨f, fd, ps, ds, h1, h2, h3, h4, h5⟩ := F
  cases h5
  exact pe_callS h1 hr hg h2 h3 h4 (fun σ => passAt tk σ) ha hdb he hpl
end
end LX

set_option maxRecDepth 100000
set_option maxHeartbeats 8000000
namespace LX
open PySem PySem.Spec PyProof.Rows L2 MDict GxR GQ
/-- try: x = f(..) except TooMany: return False -/
def tTryB (K : PySem.W.Frag) (C : Addr) (sp : Sp) (ta : TA) (i : Nat) : TS := fun D σ H => tAsg (tCallS sp (WE (wOnly K (.ref C) (fun _ _ _ => tRet (tC (.bl false))) (fun _ _ _ _ => False) D)) ta) (gName i) D σ H
namespace D_done
abbrev st : Stmt := top 17
abbrev N : List Str := ["held", "line", "cell", "function", "sources", "term", "source"]
abbrev ps : List Str := ["held", "line"]
theorem S : FnScope N ps (defScope st) := ⟨rfl, rfl, rfl, by decide +kernel, rfl, by decide +kernel, by decide +kernel⟩
def t (K : PySem.W.Frag) (w : World) (C : Addr) (W : WX) (sp_depth : Sp) : TS :=
  (tSeq (tAsg (tVar 1) (gTup K 3 (gNames [2, 3, 4])))
  (tSeq (tIfS (tB (tIsN (tVar 3))) (tAsg (tOp (rIxT K) (tVar 0) (tOp (rIxT K) (tVar 4) (tC (.int 0)))) (gName 5)) (tSeq (tAsg (tOp (rCatA K) (tTup (tCons (tVar 3) tNil)) (tThen (tLc (iTup K (tVar 4)) (gName 6) tYes (tOp (rIxT K) (tVar 0) (tVar 6)) [6]) (kTup K))) (gName 5))
  (tIfS (tTest (tOp rGt (tCall sp_depth [] E0 (tCons (tVar 5) tNil)) (tC (.int 8)))) (tRaiseTM C W) tNext)))
  (tRet (tOp (rCatA K) (tOp (rCatA K) (tSl (rSlA K) (tVar 0) tNoPart (tPart (tVar 2))) (tTup (tCons (tVar 5) tNil))) (tSl (rSlA K) (tVar 0) (tPart (tOp rAddI (tVar 2) (tC (.int 1)))) tNoPart)))))
theorem d {P : Program} {w : World} {K : PySem.W.Frag} {mg : Str → Option Value} {base : Heap} {f : Addr} {cdv : Value} {A : Around} {outer : List Env} {s : Shared} {H : Hp} {E : XK} {k : Nat} {C fI : Addr} {sp_depth : Sp} (M : Tm K mg C fI) (FT : Fm P w K mg base CX0 k fI [] (sp_tm C)) (B : Bi mg) (hr : Room (k + 1) (A.deeper (envOfC "done" (defScope st) s.heap.objs.size f cdv))) (g_MOST_DEEP : ∃ t, mg "MOST_DEEP" = some (.int 8 t)) (F_depth : Fc P w K mg base CX0 k "depth" [] sp_depth) :
    PSs (cxOf (L2.CX P w) P w K mg base N "done" (defScope st) f cdv A outer s H E) (defBody st) (t K w C (fun cls d _ H => E cls d H) sp_depth) :=
  (pss_cons (ps_asg (pv 1) (pg_tup rfl (by exact (pgs_cons (g_nm 2 S.nd) (pgs_cons (g_nm 3 S.nd) (pgs_cons (g_nm 4 S.nd) pgs_nil))))))
  (pss_cons (ps_if (y_isN (pv 3)) (pss_one (x_set (i := 5) S.nd (x_ixT (pv 0) (x_ixT (pv 4) pe_int)))) (pss_cons (x_set (i := 5) S.nd (pe_op op_catA (pe_tup (by exact (pa_cons (pv 3) pa_nil))) (x_tup B (pe_lc (own := [("source", 6)]) (g := (gName 6)) (tt := tYes) rfl S.nd (pi_tup (pv 4)) (blkOk_by (N := N) (sc := defScope st) (by decide +kernel)) (fun _ _ _ _ _ => (g_nm 6 S.nd)) (fun _ _ _ _ _ => pts_nil) (fun _ _ _ _ _ => (x_ixT (pv 0) (pv 6)))))))
  (pss_one (ps_if (y_gt (x_call F_depth (hr.mono (by omega)) (by exact (pa_cons (pv 5) pa_nil))) (x_gint g_MOST_DEEP)) (pss_one (ps_raiseTM rfl M FT hr (takes_of rfl rfl rfl rfl) g_MOST_DEEP)) pss_nil))))
  (pss_one (ps_ret (pe_op op_catA (pe_op op_catA (pe_slice sl_tupA (pv 0) po_none (po_some (pv 2))) (pe_tup (by exact (pa_cons (pv 5) pa_nil)))) (pe_slice sl_tupA (pv 0) (po_some (pe_op op_add (pv 2) pe_int)) po_none))))))
end D_done

namespace D_behind
abbrev st : Stmt := top 18
abbrev N : List Str := ["held", "program", "line"]
abbrev ps : List Str := ["held", "program"]
theorem S : FnScope N ps (defScope st) := ⟨rfl, rfl, rfl, by decide +kernel, rfl, by decide +kernel, by decide +kernel⟩
def t (K : PySem.W.Frag) (w : World) (W : WX) (sp_done : Sp) : TS :=
  (tSeq (tFor (iTup K (tVar 1)) (gName 2) (tAsg (tCallS sp_done (WE W) (tCons (tVar 0) (tCons (tVar 2) tNil))) (gName 0)))
  (tRet (tVar 0)))
theorem d {P : Program} {w : World} {K : PySem.W.Frag} {mg : Str → Option Value} {base : Heap} {f : Addr} {cdv : Value} {A : Around} {outer : List Env} {s : Shared} {H : Hp} {E : XK} {k : Nat} {sp_done : Sp} (B : Bi mg) (hr : Room (k) (A.deeper (envOfC "behind" (defScope st) s.heap.objs.size f cdv))) (F_done : Fc P w K mg base (L2.CX P w) k "done" [] sp_done) :
    PSs (cxOf (L2.CX P w) P w K mg base N "behind" (defScope st) f cdv A outer s H E) (defBody st) (t K w (fun cls d _ H => E cls d H) sp_done) :=
  (pss_cons (ps_for (passes_of rfl) rfl (pi_tup (pv 1)) (g_nm 2 S.nd) (pss_one (x_set (i := 0) S.nd (x_callS F_done (takes_of rfl rfl rfl rfl) (hr.mono (by omega)) (by exact (pa_cons (pv 0) (pa_cons (pv 2) pa_nil)))))))
  (pss_one (ps_ret (pv 0))))
end D_behind

namespace D_shows_best
abbrev st : Stmt := top 38
abbrev N : List Str := ["machine", "wishes", "gentle", "value", "due", "held", "line"]
abbrev ps : List Str := ["machine", "wishes", "gentle", "value"]
theorem S : FnScope N ps (defScope st) := ⟨rfl, rfl, rfl, by decide +kernel, rfl, by decide +kernel, by decide +kernel⟩
def t (K : PySem.W.Frag) (w : World) (Pt : Addr) (C : Addr) (sp_behind : Sp) (sp_best : Sp) (sp_is_program : Sp) (sp_is_soft : Sp) (sp_first_terms : Sp) (sp_fulfilled : Sp) : TS :=
  (tSeq (tAsg (tCall sp_best [] E0 (tCons (tVar 0) (tCons (tVar 1) (tCons (tVar 2) tNil)))) (gName 4))
  (tSeq (tIfS (tOr (tB (tIsN (tVar 4))) (tB (tIsN (tVar 3)))) (tRet (tAndV (tIsN (tVar 4)) (tIsN (tVar 3)))) tNext)
  (tSeq (tIfS (tOr (tNot (tB (tCall sp_is_program [] E0 (tCons (tVar 0) (tCons (tVar 3) tNil))))) (tTest (tOp (rNeD K) (tCB (rLenV K) (tCons (tVar 3) tNil)) (tCB (rLenV K) (tCons (tVar 4) tNil))))) (tRet (tC (.bl false))) tNext)
  (tSeq (tIfS (tAnd (tB (tVar 2)) (tNot (tB (tQu Pt true (iTup K (tVar 3)) (gName 6) (tCall sp_is_soft [] E0 (tCons (tVar 6) tNil)) [6])))) (tRet (tC (.bl false))) tNext)
  (tSeq (tTryB K C sp_behind (tCons (tCall sp_first_terms [] E0 (tCons (tVar 0) tNil)) (tCons (tVar 3) tNil)) 5)
  (tRet (tCall sp_fulfilled [] E0 (tCons (tVar 5) (tCons (tVar 1) tNil)))))))))
theorem d {P : Program} {w : World} {K : PySem.W.Frag} {mg : Str → Option Value} {base : Heap} {f c Pt : Addr} {cdv : Value} {A : Around} {outer : List Env} {s : Shared} {H : Hp} {E : XK} {k : Nat} {C fI : Addr} {sp_behind : Sp} (M : Tm K mg C fI) (F_behind : Fc P w K mg base (L2.CX P w) k "behind" [] sp_behind) {sp_best : Sp} {sp_is_program : Sp} {sp_is_soft : Sp} {sp_first_terms : Sp} {sp_fulfilled : Sp} (B : Bi mg) (hr : Room (k + 1) (A.deeper (envOfC "shows_best" (defScope st) s.heap.objs.size f cdv))) (TB : TabB base mg c Pt) (hcd : cdv = .ref c) (F_best : Fc P w K mg base CX0 k "best" [] sp_best) (F_is_program : Fc P w K mg base CX0 k "is_program" [] sp_is_program) (F_is_soft : Fc P w K mg base CX0 k "is_soft" [] sp_is_soft) (F_first_terms : Fc P w K mg base CX0 k "first_terms" [] sp_first_terms) (F_fulfilled : Fc P w K mg base CX0 k "fulfilled" [] sp_fulfilled) :
    PSs (cxOf CX0 P w K mg base N "shows_best" (defScope st) f cdv A outer s H E).nox (defBody st) (t K w Pt C sp_behind sp_best sp_is_program sp_is_soft sp_first_terms sp_fulfilled) :=
  (pss_cons (x_set (i := 4) S.nd (x_call F_best (hr.mono (by omega)) (by exact (pa_cons (pv 0) (pa_cons (pv 1) (pa_cons (pv 2) pa_nil))))))
  (pss_cons (ps_if ((pw_or (y_isN (pv 4)) (pw_or1 (y_isN (pv 3))))).pt (pss_one (ps_ret (pe_and (x_isN (pv 4)) (pe_one (x_isN (pv 3)))))) pss_nil)
  (pss_cons (ps_if ((pw_or (pt_not (pt_val (x_call F_is_program (hr.mono (by omega)) (by exact (pa_cons (pv 0) (pa_cons (pv 3) pa_nil)))))) (pw_or1 (y_neD (u64 hr) (x_len B (pv 3)) (x_len B (pv 4)))))).pt (pss_one (ps_ret x_false)) pss_nil)
  (pss_cons (ps_if ((pw_and (pt_val (pv 2)) (pw_and1 (pt_not (pt_val (x_all (own := [("line", 6)]) (g := (gName 6)) hr B rfl S.nd TB hcd (gscope_by (N := N) (sc := defScope st) (by decide +kernel)) (pi_tup (pv 3)) (fun _ _ _ _ _ _ _ => (g_nm 6 S.nd)) (fun _ _ _ _ _ _ _ hr => (x_call F_is_soft (hr.mono (by omega)) (by exact (pa_cons (pv 6) pa_nil)))))))))).pt (pss_one (ps_ret x_false)) pss_nil)
  (pss_cons (ps_try_only (tb := fun W => tAsg (tCallS sp_behind (WE W) (tCons (tCall sp_first_terms [] E0 (tCons (tVar 0) tNil)) (tCons (tVar 3) tNil))) (gName 5)) (ts := fun _ _ _ => tRet (tC (.bl false))) (Wout := fun _ _ _ _ => False) rfl rfl ⟨rfl, by decide, Or.inl M.gC⟩ takes0 (fun W pn xe tk _ => pss_one (x_set (i := 5) S.nd (x_callS F_behind tk (hr.mono (by omega)) (by exact (pa_cons (x_call F_first_terms (hr.mono (by omega)) (by exact (pa_cons (pv 0) pa_nil))) (pa_cons (pv 3) pa_nil)))))) (fun a oe cls d pn hz hf => pss_one (ps_ret x_false)))
  (pss_one (ps_ret (x_call F_fulfilled (hr.mono (by omega)) (by exact (pa_cons (pv 5) (pa_cons (pv 1) pa_nil)))))))))))
end D_shows_best

end LX

set_option maxRecDepth 100000
set_option maxHeartbeats 8000000
namespace LX
open PySem PySem.Spec PyProof.Rows L2 MDict GxR GQ
/-! done, behind -/
def deepB (held : List D) (l : Ln) : Bool := l.f.isSome && decide (8 < (newT held l).depth + 1)
def runP : List D → List Ln → Option (List D)
  | held, [] => some held
  | held, l :: ls => if deepB held l = true then none else runP (did held l) ls
section
variable {P : Program} {w : World} {K : PySem.W.Frag} {mg : Str → Option Value} {base : Heap} {T : List Addr} {C fI : Addr} {σ : L2.St} {H : Hp} {ta tb td tx : TE}
theorem ev_newF {held : List D} {l : Ln} {f j : Nat} (hlf : l.f = some f) (hf : Ev tb σ H (PD (nm f))) (hs : Ev td σ H (PD (.tup (l.s.map nm)))) (hi : LnIn held.length l)
    (hx : ∀ x H1, Gx H H1 → wipe ((wipe σ [j]).set j (some x)) [j] = wipe σ [j] ∧ Ev tx ((wipe σ [j]).set j (some x)) H1 (PV x) ∧ Ev ta ((wipe σ [j]).set j (some x)) H1 (PD (.tup held))) :
    Ev (tOp (rCatA K) (tTup (tCons tb tNil)) (tThen (tLc (iTup K td) (gName j) tYes (tOp (rIxT K) ta tx) [j]) (kTup K))) σ H (PD (newT held l)) := by
  unfold newT
  rw [hlf]
  show Ev _ σ H (PD (.tup ([nm f] ++ l.s.map (getD' held))))
  have two := hi.two
  refine ev_catA (ev_tup (ds := [nm f]) (ea_cons hf ea_nil) (by simp)) (ev_tupOf ?_) (by simp; omega)
  have e : l.s.map (getD' held) = ((l.s.map nm).filter fun _ => true).map fun d => match d with | .num i => getD' held i.toNat | _ => .none := by
    rw [List.filter_eq_self.mpr fun _ _ => rfl, List.map_map]
    refine List.map_congr_left fun a ha => ?_
    show getD' held a = getD' held ((a : Int)).toNat
    rw [Int.toNat_natCast]
  rw [e]
  refine (el_lcT hs (by simp; omega) fun d x H1 e1 hm hx' => ?_).ev
  obtain ⟨i, hi', rfl⟩ := List.mem_map.mp hm
  obtain ⟨x1, x2, x3⟩ := hx x H1 e1
  refine ⟨_, tg_name, x1, et_yes, fun _ => ?_⟩
  show Ev _ _ H1 (PD (getD' held ((i : Int)).toNat))
  rw [Int.toNat_natCast]
  exact ev_ixN x3 (fun H2 e2 Q q => x2 H2 e2 Q fun v H3 e3 hv => q v H3 e3 (by rw [show v = x from hv]; exact mono_d (e2.trans e3) hx')) (getD_get (hi.s i hi'))
def sp_done (T : List Addr) (C : Addr) : Sp := fun vs H Q E => TabsG T H ∧ ∃ (n : Nat) (held : List D) (l : Ln), HOk n held ∧ LnIn n l ∧ n ≤ 3 ∧ maxD held ≤ 7 ∧ PsA [PD (.tup held), PD l.d] vs H ∧
  (deepB held l = false → ∀ v H', Gx H H' → KeyH H' (.tup (did held l)) v → Q v H') ∧ (deepB held l = true → ∀ d H', Gx H H' → E (.ref C) (some d) H')
theorem pure_done : ∀ vs H Q E, sp_done T C vs H Q E → D_done.t K w C (fun cls d _ H => E cls d H) (sp_depth T 8) { nx := fun _ H' => Q .non H', rt := Q } (start D_done.N vs) H := by
  rintro vs H Q E ⟨hT, n, held, l, ok, hi, n3, hmx, ⟨v1, _, rfl, h1, v2, _, rfl, h2, rfl⟩, kQ, kE⟩
  have h1 : KeyH H (.tup held) v1 := h1
  have h2 : KeyH H l.d v2 := h2
  have hlen := ok.len
  have hi' : LnIn held.length l := by rw [hlen]; exact hi
  refine q_unp (ks := [nm l.c, fD l.f, .tup (l.s.map nm)]) (ev_var (P := PD l.d) h2 rfl) rfl rfl fun vs2 H1 e1 hv => ?_
  obtain ⟨cv, _, rfl, hc, fv, _, rfl, hf, sv, _, rfl, hs, rfl⟩ := hv
  have h11 := mono_d e1 h1
  have fin : ∀ (v : V) H2, Gx H1 H2 → deepB held l = false → KeyH H2 (newT held l) v → ∀ x6, tRet (tOp (rCatA K) (tOp (rCatA K) (tSl (rSlA K) (tVar 0) tNoPart (tPart (tVar 2))) (tTup (tCons (tVar 5) tNil))) (tSl (rSlA K) (tVar 0) (tPart (tOp rAddI (tVar 2) (tC (.int 1)))) tNoPart)) { nx := fun _ H' => Q .non H', rt := Q } [some v1, some v2, some cv, some fv, some sv, some v, x6] H2 := fun v H2 e2 hd hv x6 =>
    s_ret (ev_setc (ev_var (P := PD (.tup held)) (mono_d e2 h11) rfl) (ev_var (P := PD (nm l.c)) (mono_d e2 hc) rfl) (ev_var (P := PD (newT held l)) hv rfl) hi'.c (by omega)) fun v H3 e3 hv3 => kQ hd v H3 ((e1.trans e2).trans e3) hv3
  refine q_if (b := l.f.isNone) (et_B (ev_isB (ev_isN (ev_var (P := PD (fD l.f)) hf rfl)) fD_none)) (fun hb H2 e2 => ?_) fun hb H2 e2 => ?_
  · cases hlf : l.f with
    | some f => rw [hlf] at hb; cases hb
    | none =>
      cases hls : l.s with
      | nil => exact absurd hls hi.ne
      | cons a r =>
        have ha := hi'.s a (by rw [hls]; exact List.mem_cons_self)
        have hnt : newT held l = getD' held a := by unfold newT; rw [hlf, hls]; rfl
        rw [hls] at hs
        refine s_asg (P := PD (newT held l)) (by rw [hnt]; exact ev_ixN (n := a) (ev_var (P := PD (.tup held)) (mono_d e2 h11) rfl) (ev_ix0 (d := nm a) (ds := r.map nm) (ev_var (P := PD (.tup ((a :: r).map nm))) (mono_d e2 hs) rfl)) (getD_get ha)) fun v H3 e3 hv => fin v H3 (e2.trans e3) (by unfold deepB; rw [hlf]; rfl) hv _
  · cases hlf : l.f with
    | none => rw [hlf] at hb; cases hb
    | some f =>
      rw [hlf] at hf
      refine q_asg (P := PD (newT held l)) (ev_newF hlf (ev_var (P := PD (nm f)) (mono_d e2 hf) rfl) (ev_var (P := PD (.tup (l.s.map nm))) (mono_d e2 hs) rfl) hi' fun x H3 e3 => ⟨rfl, ev_var (P := PV x) rfl rfl, ev_var (P := PD (.tup held)) (mono_d (e2.trans e3) h11) rfl⟩) fun v H3 e3 hv => ?_
      have hw := newT_wf ok hi
      have hdp := newT_depth ok hi
      refine s_if (b := decide (8 < (newT held l).depth + 1)) (et_test (ev_isB (ev_gt (ev_call (newT held l) ((((hT.mono e1).mono e2).mono e3)) (ea_cons (ev_var (P := PD (newT held l)) hv rfl) ea_nil) ⟨hw, by omega⟩) ev_int) (decide_eq_decide.mpr (show (8 : Int) < (((newT held l).depth + 1 : Nat) : Int) ↔ _ by omega)))) (fun hb2 H4 e4 => ?_) fun hb2 H4 e4 => ?_
      · exact raise_tm fun d H5 e5 => kE (by unfold deepB; rw [hlf]; exact hb2) d H5 ((((e1.trans e2).trans e3).trans e4).trans e5)
      · exact fin v H4 ((e2.trans e3).trans e4) (by unfold deepB; rw [hlf]; exact hb2) (mono_d e4 hv) _
theorem ok_done {f c : Addr} {k : Nat} (F : Df K "done" "done" D_done.st [] f c) (hm : mg "done" = some (.ref f)) (B : Bi mg) (M : Tm K mg C fI) (FT : Fm P w K mg base CX0 k fI [] (sp_tm C)) (g1 : ∃ t, mg "MOST_DEEP" = some (.int 8 t)) (F1 : Fc P w K mg base CX0 k "depth" [] (sp_depth T 8)) : Fc P w K mg base (L2.CX P w) (k + 2) "done" [] (sp_done T C) :=
  F.fc hm D_done.S (fun vs H Q E h => by
    obtain ⟨_, n, held, l, _, _, _, _, ⟨_, _, rfl, _, _, _, rfl, _, rfl⟩, _⟩ := h
    rfl) (fun _ _ _ _ _ _ us hl => match us, hl with | [_, _], _ => rfl) fun cdv A outer s H vs Q E hc hr h => ⟨_, D_done.d M FT B hr g1 F1, pure_done vs H Q E h⟩
def sp_behind (T : List Addr) (C : Addr) : Sp := fun vs H Q E => TabsG T H ∧ ∃ (n : Nat) (held : List D) (ls : List Ln), HOk n held ∧ (∀ l ∈ ls, LnIn n l) ∧ n ≤ 3 ∧ maxD held ≤ 7 ∧ PsA [PD (.tup held), PD (progD ls)] vs H ∧
  (∀ h, runP held ls = some h → ∀ v H', Gx H H' → KeyH H' (.tup h) v → Q v H') ∧ (runP held ls = none → ∀ d H', Gx H H' → E (.ref C) (some d) H')
theorem did_mx {n : Nat} {held : List D} {l : Ln} (ok : HOk n held) (hi : LnIn n l) (hmx : maxD held ≤ 7) (hd : deepB held l = false) : maxD (did held l) ≤ 7 := depths_le fun k hk => by
  unfold did at hk
  rcases List.mem_or_eq_of_mem_set hk with h | rfl
  · have := le_depths h; unfold maxD at hmx; omega
  · unfold deepB at hd
    cases hf : l.f with
    | some f => rw [hf] at hd; simp at hd; omega
    | none =>
      cases hs : l.s with
      | nil => exact absurd hs hi.ne
      | cons a r =>
        have ha := hi.s a (by rw [hs]; exact List.mem_cons_self)
        have : newT held l = getD' held a := by unfold newT; rw [hf, hs]; rfl
        rw [this]
        have := le_depths (getD_mem (held := held) (i := a) (by rw [ok.len]; exact ha))
        unfold maxD at hmx; omega
theorem pure_behind : ∀ vs H Q E, sp_behind T C vs H Q E → D_behind.t K w (fun cls d _ H => E cls d H) (sp_done T C) { nx := fun _ H' => Q .non H', rt := Q } (start D_behind.N vs) H := by
  rintro vs H Q E ⟨hT, n, held, ls, ok, hls, n3, hmx, ⟨v1, _, rfl, h1, v2, _, rfl, h2, rfl⟩, kQ, kE⟩
  have h1 : KeyH H (.tup held) v1 := h1
  have h2 : KeyH H (.tup (ls.map Ln.d)) v2 := h2
  refine (show tSeq (tFor _ _ _) _ _ _ H from s_forT (ds := ls.map Ln.d) (Dn := { nx := _, rt := Q, bk := _, ct := _ }) (ev_var (P := PD _) h2 rfl) (fun Hs i σ' H' => (∃ hv held' x2, σ' = [some hv, some v2, x2] ∧ KeyH H' (.tup held') hv ∧ HOk n held' ∧ maxD held' ≤ 7 ∧ runP held ls = runP held' (ls.drop i)) ∧ Gx Hs H')
    (fun Hs e => ⟨⟨v1, held, _, rfl, mono_d e h1, ok, hmx, rfl⟩, Gx.refl _⟩) (fun Hs i σ' H' e p => p.2.tk) (fun Hs i d x σ' H' e hi p hx => ?_) fun Hs σ' H' e p => ?_)
  · obtain ⟨⟨hv, held', x2, rfl, hh, ok', hmx', hr⟩, g⟩ := p
    rw [List.getElem?_map] at hi
    cases hy : ls[i]? with
    | none => rw [hy] at hi; cases hi
    | some l =>
    rw [hy] at hi
    cases hi
    have hlm := hls l (List.mem_of_getElem? hy)
    have hdrop : ls.drop i = l :: ls.drop (i + 1) := by
      have h5 := (List.getElem?_eq_some_iff.mp hy)
      rw [List.drop_eq_getElem_cons h5.1, h5.2]
    rw [hdrop] at hr
    have gg := e.trans g
    refine ⟨hv, rfl, x, rfl, hT.mono gg, n, held', l, ok', hlm, n3, hmx', ⟨hv, _, rfl, hh, x, _, rfl, hx, rfl⟩, fun hd v H2 e2 hv2 => ?_, fun hd d H2 e2 => ?_⟩
    · refine ⟨⟨v, did held' l, _, rfl, hv2, hok_did ok' hlm, did_mx ok' hlm hmx' hd, ?_⟩, g.trans e2⟩
      rw [hr]
      show (if deepB held' l = true then none else _) = _
      rw [hd]; rfl
    · refine kE ?_ d H2 (gg.trans e2)
      rw [hr]
      show (if deepB held' l = true then none else _) = _
      rw [hd]; rfl
  · obtain ⟨⟨hv, held', x2, rfl, hh, ok', hmx', hr⟩, g⟩ := p
    rw [List.length_map, List.drop_length] at hr
    exact s_ret (P := PD (.tup held')) (ev_var (P := PD (.tup held')) hh rfl) fun v H3 e3 hv => kQ held' hr v H3 ((e.trans g).trans e3) hv
theorem ok_behind {f c : Addr} {k : Nat} (F : Df K "behind" "behind" D_behind.st [] f c) (hm : mg "behind" = some (.ref f)) (B : Bi mg) (F1 : Fc P w K mg base (L2.CX P w) k "done" [] (sp_done T C)) : Fc P w K mg base (L2.CX P w) (k + 1) "behind" [] (sp_behind T C) :=
  F.fc hm D_behind.S (fun vs H Q E h => by
    obtain ⟨_, n, held, l, _, _, _, _, ⟨_, _, rfl, _, _, _, rfl, _, rfl⟩, _⟩ := h
    rfl) (fun _ _ _ _ _ _ us hl => match us, hl with | [_, _], _ => rfl) fun cdv A outer s H vs Q E hc hr h => ⟨_, D_behind.d B hr F1, pure_behind vs H Q E h⟩
end
end LX

set_option maxRecDepth 100000
set_option maxHeartbeats 8000000
namespace LX
open PySem PySem.Spec PyProof.Rows L2 MDict GxR GQ
section
variable {P : Program} {w : World} {K : PySem.W.Frag} {mg : Str → Option Value} {base : Heap} {T : List Addr} {C fI : Addr} {σ : L2.St} {H : Hp} {ta tb td tx te : TE}
theorem isn_vk {k : Vk} (h : Ev te σ H (PVk k)) : ∃ b, (b = true ↔ k = .val .non) ∧ Ev (tIsN te) σ H (PB b) := by
  cases k with
  | dict => exact ⟨false, by simp, fun H1 e _ q => h H1 e _ fun v H2 e2 hv => q _ H2 e2 (by obtain ⟨a, rfl, _⟩ := hv; rfl)⟩
  | val x =>
    refine ⟨decide (x = .non), by simp, ?_⟩
    exact ev_isNV (x := x) h
theorem runP_ok {n : Nat} : ∀ {ls : List Ln} {held h : List D}, HOk n held → maxD held ≤ 7 → (∀ l ∈ ls, LnIn n l) → runP held ls = some h → HOk n h ∧ maxD h ≤ 7
  | [], held, h, ok, hd, _, e => by cases e; exact ⟨ok, hd⟩
  | l :: ls, held, h, ok, hd, hl, e => by
    unfold runP at e
    split at e
    · cases e
    · rename_i hb
      exact runP_ok (hok_did ok (hl l List.mem_cons_self)) (did_mx ok (hl l List.mem_cons_self) hd (by simpa using hb)) (fun m hm => hl m (List.mem_cons_of_mem _ hm)) e
def hitsP (x : FArg) (ls : List Ln) : Prop := ∃ h, runP (rgD x.n) ls = some h ∧ x.ws.all (hit h) = true
open Classical in
noncomputable def goodV (x : FArg) (k : Vk) (due : Nat) : Bool := decide (∃ ls, k = .val (progV ls) ∧ (∀ l ∈ ls, l ∈ allLines x.n x.fs) ∧ ls.length ≤ 60 ∧ due = ls.length ∧ (x.b = true → ∀ l ∈ ls, soft l = true) ∧ hitsP x ls)
open Classical in
theorem goodV_true {x : FArg} {k : Vk} {due : Nat} : goodV x k due = true ↔ ∃ ls, k = .val (progV ls) ∧ (∀ l ∈ ls, l ∈ allLines x.n x.fs) ∧ ls.length ≤ 60 ∧ due = ls.length ∧ (x.b = true → ∀ l ∈ ls, soft l = true) ∧ hitsP x ls := decide_eq_true_iff
theorem goodV_false {x : FArg} {k : Vk} {due : Nat} (h : ∀ ls, k = .val (progV ls) → (∀ l ∈ ls, l ∈ allLines x.n x.fs) → ls.length ≤ 60 → due = ls.length → (x.b = true → ∀ l ∈ ls, soft l = true) → hitsP x ls → False) : goodV x k due = false := by
  cases hb : goodV x k due with
  | false => rfl
  | true => obtain ⟨ls, a, b, c, d, e, f⟩ := goodV_true.mp hb; exact absurd (h ls a b c d e f) id
noncomputable instance : DecidableEq Vk := fun _ _ => Classical.propDecidable _
noncomputable def showB (x : FArg) (p : Option (List Ln)) (k : Vk) : Bool := match p with
  | none => decide (k = .val .non)
  | some q => if k = .val .non then false else goodV x k q.length
structure SArg where
  x : FArg
  k : Vk
def RShow (x : FArg) (k : Vk) (v : V) (_ : Hp) : Prop := ∃ p, LeastP x p ∧ v = .bl (showB x p k)
instance {x : FArg} {k : Vk} : Mono (RShow x k) := ⟨fun _ h => h⟩
def sp_shows_best (T : List Addr) : Sp := spP (α := SArg) T (fun y => FOk y.x ∧ VkOk y.x.n y.x.fs y.k) (fun y => [PD (mD y.x.n y.x.fs), PD (wsD y.x.ws), PB y.x.b, PVk y.k]) fun y => RShow y.x y.k
theorem pure_shows_best {Pt : Addr} (hP : Pt ∈ T) (M : Tm K mg C fI) : ∀ vs H Q E, sp_shows_best T vs H Q E → D_shows_best.t K w Pt C (sp_behind T C) (sp_best T) (sp_is_program T) (sp_is_soft T) (sp_first_terms T) (sp_fulfilled T) { nx := fun _ H' => Q .non H', rt := Q } (start D_shows_best.N vs) H := by
  rintro vs H Q E ⟨hT, ⟨x, kk⟩, ⟨ok, hk⟩, ⟨v1, _, rfl, h1, v2, _, rfl, h2, v3, _, rfl, h3, v4, _, rfl, h4, rfl⟩, k⟩
  replace ok : FOk x := ok
  replace hk : VkOk x.n x.fs kk := hk
  replace h1 : KeyH H (mD x.n x.fs) v1 := h1
  replace h2 : KeyH H (wsD x.ws) v2 := h2
  replace h3 : v3 = .bl x.b := h3
  replace h4 : PVk kk v4 H := h4
  subst h3
  have n3 := ok.m.n3
  refine q_asg (P := RBest x) (ev_call x hT (ea_cons (ev_var (P := PD (mD x.n x.fs)) h1 rfl) (ea_cons (ev_var (P := PD (wsD x.ws)) h2 rfl) (ea_cons (ev_var (P := PB x.b) rfl rfl) ea_nil))) ok) fun dv H1 e1 hdv => ?_
  obtain ⟨p, lp, hp⟩ := hdv
  have h4' := PVk.mono e1 h4
  have k : ∀ b H', Gx H H' → b = showB x p kk → Q (.bl b) H' := fun b H' e hb => k _ H' e ⟨p, lp, by rw [hb]⟩
  have ret : ∀ (Dn : Ends) σ2 (te : TE) b H2, Dn.rt = Q → Gx H H2 → Ev te σ2 H2 (PB b) → b = showB x p kk → tRet te Dn σ2 H2 := fun Dn σ2 te b H2 hr e2 h hb => s_ret (P := PB b) h fun v H3 e3 hv => by rw [show v = .bl _ from hv, hr]; exact k b H3 (e2.trans e3) hb
  have isd : ∀ H2, Gx H1 H2 → Ev (tIsN (tVar 4)) [some v1, some v2, some (.bl x.b), some v4, some dv, none, none] H2 (PB p.isNone) := fun H2 e2 => ev_isB (ev_isN (ev_var (P := PD (pathD p)) (mono_d e2 hp) rfl)) (by cases p <;> rfl)
  obtain ⟨bn, pn, _⟩ := isn_vk (k := kk) (ev_var (P := PVk kk) (σ := [some v1, some v2, some (.bl x.b), some v4, some dv, none, none]) (i := 3) h4' rfl)
  have isv : ∀ H2, Gx H1 H2 → Ev (tIsN (tVar 3)) [some v1, some v2, some (.bl x.b), some v4, some dv, none, none] H2 (PB bn) := fun H2 e2 => by
    obtain ⟨b', p', h'⟩ := isn_vk (k := kk) (ev_var (P := PVk kk) (σ := [some v1, some v2, some (.bl x.b), some v4, some dv, none, none]) (i := 3) (PVk.mono e2 h4') rfl)
    have : b' = bn := by rw [Bool.eq_iff_iff, p', pn]
    rw [← this]; exact h'
  refine q_when (b := p.isNone || bn) (et_or (et_B (isd H1 (Gx.refl _))) fun _ => et_B (isv H1 (Gx.refl _))) (fun hb H2 e2 => ?_) fun hb H2 e2 => ?_
  · refine ret _ _ _ (p.isNone && bn) H2 rfl (e1.trans e2) (ev_andV (isd H2 e2) fun _ => isv H2 e2) ?_
    cases p with
    | none =>
      show bn = decide (kk = .val .non)
      rw [Bool.eq_iff_iff, pn, decide_eq_true_iff]
    | some q =>
      have : bn = true := by simpa using hb
      show false = if kk = .val .non then false else goodV x kk q.length
      rw [if_pos (pn.mp this)]
  · obtain ⟨q, rfl⟩ : ∃ q, p = some q := by cases p with | none => simp at hb | some q => exact ⟨q, rfl⟩
    have hnk : kk ≠ .val .non := fun z => by rw [pn.mpr z] at hb; simp at hb
    have hsh : showB x (some q) kk = goodV x kk q.length := if_neg hnk
    rw [hsh] at ret
    have hp : KeyH H1 (.tup (q.map Ln.d)) dv := hp
    have e12 := e1.trans e2
    have h4'' := PVk.mono e2 h4'
    -- is_program
    have hprog : Ev (tCall (sp_is_program T) [] E0 (tCons (tVar 0) (tCons (tVar 3) tNil))) [some v1, some v2, some (.bl x.b), some v4, some dv, none, none] H2 (PB (progB x.n x.fs kk)) := ev_call (⟨x.n, x.fs, kk⟩ : RArg) (hT.mono e12) (ea_cons (ev_var (P := PD (mD x.n x.fs)) (mono_d e12 h1) rfl) (ea_cons (ev_var (P := PVk kk) h4'' rfl) ea_nil)) ⟨ok.m, hk⟩
    cases hpb : progB x.n x.fs kk with
    | false =>
      rw [hpb] at hprog
      refine q_when (b := true) (et_is (et_or (a := true) (b := true) (et_not (et_B hprog)) fun z => Bool.noConfusion z) rfl) (fun _ H3 e3 => ret _ _ _ false H3 rfl (e12.trans e3) ev_bl ?_) fun z => Bool.noConfusion z
      symm
      refine goodV_false fun ls a b c _ _ _ => ?_
      rw [progB_true.mpr ⟨ls, a, b, c⟩] at hpb
      cases hpb
    | true =>
    rw [hpb] at hprog
    obtain ⟨ls, rfl, hls, h60⟩ := progB_true.mp hpb
    have hval : KeyH H2 (.tup (ls.map Ln.d)) v4 := kd_of (progD ls) v4 (noTx_prog ls) (by rw [← progV_eq]; exact h4'')
    have good : ∀ b : Bool, (b = true ↔ q.length = ls.length ∧ (x.b = true → ∀ l ∈ ls, soft l = true) ∧ hitsP x ls) → b = goodV x (.val (progV ls)) q.length := fun b hb => by
      rw [Bool.eq_iff_iff, hb, goodV_true]
      constructor
      · rintro ⟨a, b, c⟩; exact ⟨ls, rfl, hls, h60, a, b, c⟩
      · rintro ⟨ls', a, _, _, d, e, f⟩
        have := progV_inj (Vk.val.inj a)
        subst this
        exact ⟨d, e, f⟩
    have hin : ∀ l ∈ ls, LnIn x.n l := fun l hl => lnIn_all ok.m.r (hls l hl)
    refine q_when (b := !true || !decide (ls.length = q.length)) (et_or (et_not (et_B hprog)) fun _ => et_test (ev_isB (ev_neI (ev_lenT (ev_var (P := PD (.tup (ls.map Ln.d))) hval rfl)) (ev_lenT (ev_var (P := PD (.tup (q.map Ln.d))) (mono_d e2 hp) rfl))) ?_)) (fun hb2 H3 e3 => ret _ _ _ false H3 rfl (e12.trans e3) ev_bl (good _ ?_)) fun hb2 H3 e3 => ?_
    · rw [List.length_map, List.length_map, decide_eq_decide.mpr (show ((ls.length : Int) = q.length) ↔ ls.length = q.length by omega)]
    · have : ls.length ≠ q.length := by simpa using hb2
      simp only [Bool.false_eq_true, false_iff]
      rintro ⟨a, _⟩; exact this a.symm
    have hlen : q.length = ls.length := by simp at hb2; omega
    have e13 := e12.trans e3
    have hval3 := mono_d e3 hval
    have hsoft : EvT (tAnd (tB (tVar 2)) (tNot (tB (tQu Pt true (iTup K (tVar 3)) (gName 6) (tCall (sp_is_soft T) [] E0 (tCons (tVar 6) tNil)) [6])))) [some v1, some v2, some (.bl x.b), some v4, some dv, none, none] H3 (x.b && !(ls.all soft)) := by
      refine et_and (et_B (ev_var (P := PB x.b) rfl rfl)) fun _ => et_not (et_is (et_B (ev_quT (cont := true) (f := softD) (hT.mono e13 Pt hP) (ev_var (P := PD (.tup (ls.map Ln.d))) hval3 rfl) fun d dvv H4 e4 hm hd => ?_)) ?_)
      · obtain ⟨l, hl, rfl⟩ := List.mem_map.mp hm
        exact ⟨_, tg_name, rfl, ev_isB (ev_call l (hT.mono (e13.trans e4)) (ea_cons (ev_var (P := PD l.d) hd rfl) ea_nil) trivial) (softD_eq l).symm⟩
      · rw [if_pos rfl, List.all_map]
        congr 1
        funext l
        exact softD_eq l
    refine q_when hsoft (fun hb3 H4 e4 => ret _ _ _ false H4 rfl (e13.trans e4) ev_bl (good _ ?_)) fun hb3 H4 e4 => ?_
    · have hb3 : x.b = true ∧ ls.all soft = false := by simpa using hb3
      simp only [Bool.false_eq_true, false_iff]
      rintro ⟨_, a, _⟩
      have := List.all_eq_true.mpr (a hb3.1)
      rw [hb3.2] at this; cases this
    have hsf : x.b = true → ∀ l ∈ ls, soft l = true := fun z => by
      rw [z] at hb3
      exact List.all_eq_true.mp (by simpa using hb3)
    have e14 := e13.trans e4
    -- try
    have hargs : EvA (tCons (tCall (sp_first_terms T) [] E0 (tCons (tVar 0) tNil)) (tCons (tVar 3) tNil)) [some v1, some v2, some (.bl x.b), some v4, some dv, none, none] H4 [PD (.tup (rgD x.n)), PD (progD ls)] :=
      ea_cons (ev_call (x.n, x.fs) (hT.mono e14) (ea_cons (ev_var (P := PD (mD x.n x.fs)) (mono_d e14 h1) rfl) ea_nil) ok.m) (ea_cons (ev_var (P := PD (progD ls)) (mono_d e4 hval3) rfl) ea_nil)
    unfold tSeq tTryB tAsg tCallS
    refine hargs H4 (Gx.refl _) _ fun us H5 e5 hus => ?_
    have e15 := e14.trans e5
    refine ⟨hT.mono e15, x.n, rgD x.n, ls, hok_first x.n, hin, n3, by rw [first_depth]; omega, hus, fun h hh v H6 e6 hv => ?_, fun hh d H6 e6 => ?_⟩
    · obtain ⟨hok, hmx⟩ := runP_ok (hok_first x.n) (by rw [first_depth]; omega) hin hh
      have e16 := e15.trans e6
      have pre1 : (∀ d ∈ h, NestedKey.depth d ≤ 60) := fun d hd => by
        have := le_depths hd; unfold maxD at hmx; omega
      have pre2 : ∀ y ∈ x.ws, y.1 < h.length ∧ NestedKey.depth y.2 ≤ 60 := fun y hy => ⟨by rw [hok.len]; exact ok.c y hy, by have := (ok.w.wf y hy).2; omega⟩
      have hful : Ev (tCall (sp_fulfilled T) [] E0 (tCons (tVar 5) (tCons (tVar 1) tNil))) [some v1, some v2, some (.bl x.b), some v4, some dv, some v, none] H6 (PB (x.ws.all (hit h))) := ev_call (h, x.ws) (hT.mono e16) (ea_cons (ev_var (P := PD (.tup h)) hv rfl) (ea_cons (ev_var (P := PD (wsD x.ws)) (mono_d e16 h2) rfl) ea_nil)) ⟨pre1, pre2⟩
      refine ret _ _ _ (x.ws.all (hit h)) H6 rfl e16 hful (good _ ?_)
      · constructor
        · intro hw; exact ⟨hlen, hsf, h, hh, hw⟩
        · rintro ⟨_, _, h', hh', hw⟩
          rw [hh] at hh'; cases hh'; exact hw
    · refine ⟨true, M.te, fun _ a _ => ?_, fun z => Bool.noConfusion z⟩
      refine ret _ _ _ false H6 rfl (e15.trans e6) ev_bl (good _ ?_)
      simp only [Bool.false_eq_true, false_iff]
      rintro ⟨_, _, h', hh', _⟩
      rw [hh] at hh'; cases hh'
theorem ok_shows_best {f c Pt : Addr} {k : Nat} (F : Df K "shows_best" "shows_best" D_shows_best.st [] f c) (hm : mg "shows_best" = some (.ref f)) (B : Bi mg) (TB : TabB base mg c Pt) (hP : Pt ∈ T) (M : Tm K mg C fI) (F0 : Fc P w K mg base (L2.CX P w) k "behind" [] (sp_behind T C)) (F1 : Fc P w K mg base CX0 k "best" [] (sp_best T)) (F2 : Fc P w K mg base CX0 k "is_program" [] (sp_is_program T)) (F3 : Fc P w K mg base CX0 k "is_soft" [] (sp_is_soft T)) (F4 : Fc P w K mg base CX0 k "first_terms" [] (sp_first_terms T)) (F5 : Fc P w K mg base CX0 k "fulfilled" [] (sp_fulfilled T)) : Fc P w K mg base CX0 (k + 2) "shows_best" [] (sp_shows_best T) :=
  F.fc hm D_shows_best.S (spP_len fun _ => rfl) (fun _ _ _ _ _ _ us hl => match us, hl with | [_, _, _, _], _ => rfl) fun cdv A outer s H vs Q E hc hr h => ⟨_, PSs.nox (D_shows_best.d M F0 B hr TB hc F1 F2 F3 F4 F5), pure_shows_best hP M vs H Q E h⟩
/-! shows_shortest -/
structure SGOk (y : SArg) : Prop where
  g : GOk y.x
  k : VkOk y.x.n y.x.fs y.k
def sp_shows (b : Bool) (T : List Addr) : Sp := spP (α := SArg) T SGOk (fun y => [PD (mD y.x.n y.x.fs), PD (wsD y.x.ws), PVk y.k]) fun y => RShow (y.x.wi b) y.k
theorem pure_shows (b : Bool) {Q : VK} {H : Hp} {vs : List V} {E : XK} (h : sp_shows b T vs H Q E) : (tSeq (tDrop (tCall (sp_need_both T) [] E0 (tCons (tVar 0) (tCons (tVar 1) tNil)))) (tRet (tCall (sp_shows_best T) [] E0 (tCons (tVar 0) (tCons (tVar 1) (tCons (tC (.bl b)) (tCons (tVar 2) tNil))))))) { nx := fun _ H' => Q .non H', rt := Q } (start D_shows_shortest.N vs) H := by
  obtain ⟨hT, ⟨x, kk⟩, ok, ⟨v1, _, rfl, h1, v2, _, rfl, h2, v3, _, rfl, h3, rfl⟩, k⟩ := h
  have ok : SGOk ⟨x, kk⟩ := ok
  have h3 : PVk kk v3 H := h3
  refine q_drop (ev_call x hT (ea_cons (ev_var (P := PD (mD x.n x.fs)) h1 rfl) (ea_cons (ev_var (P := PD (wsD x.ws)) h2 rfl) ea_nil)) ok.g) fun H1 e1 => ?_
  exact s_ret (P := RShow (x.wi b) kk) (ev_call (⟨x.wi b, kk⟩ : SArg) (hT.mono e1) (ea_cons (ev_var (P := PD (mD x.n x.fs)) (mono_d e1 h1) rfl) (ea_cons (ev_var (P := PD (wsD x.ws)) (mono_d e1 h2) rfl) (ea_cons ev_bl (ea_cons (ev_var (P := PVk kk) (PVk.mono e1 h3) rfl) ea_nil)))) ⟨ok.g.f.wi b, ok.k⟩) fun v H2 e2 hv => k v H2 (e1.trans e2) hv
theorem ok_shows_shortest {f c : Addr} {k : Nat} (F : Df K "shows_shortest" "shows_shortest" D_shows_shortest.st [] f c) (hm : mg "shows_shortest" = some (.ref f)) (B : Bi mg) (F1 : Fc P w K mg base CX0 k "need_both" [] (sp_need_both T)) (F2 : Fc P w K mg base CX0 k "shows_best" [] (sp_shows_best T)) : Fc P w K mg base CX0 (k + 1) "shows_shortest" [] (sp_shows false T) :=
  F.fc hm D_shows_shortest.S (spP_len fun _ => rfl) (fun _ _ _ _ _ _ us hl => match us, hl with | [_, _, _], _ => rfl) fun cdv A outer s H vs Q E hc hr h => ⟨_, PSs.nox (D_shows_shortest.d B hr F1 F2), pure_shows false h⟩
theorem ok_shows_shortest_gentle {f c : Addr} {k : Nat} (F : Df K "shows_shortest_gentle" "shows_shortest_gentle" D_shows_shortest_gentle.st [] f c) (hm : mg "shows_shortest_gentle" = some (.ref f)) (B : Bi mg) (F1 : Fc P w K mg base CX0 k "need_both" [] (sp_need_both T)) (F2 : Fc P w K mg base CX0 k "shows_best" [] (sp_shows_best T)) : Fc P w K mg base CX0 (k + 1) "shows_shortest_gentle" [] (sp_shows true T) :=
  F.fc hm D_shows_shortest_gentle.S (spP_len fun _ => rfl) (fun _ _ _ _ _ _ us hl => match us, hl with | [_, _, _], _ => rfl) fun cdv A outer s H vs Q E hc hr h => ⟨_, PSs.nox (D_shows_shortest_gentle.d B hr F1 F2), pure_shows true h⟩
end
end LX

set_option maxRecDepth 100000
set_option maxHeartbeats 4000000
namespace LX
open PySem PySem.Spec PyProof.Rows L2 MDict GxR GQ

namespace D_law_taken
abbrev st : Stmt := top 42
abbrev N : List Str := ["_law_row", "_law_many", "_law_cell", "_law_found"]
abbrev ps : List Str := ["_law_row", "_law_many"]
theorem S : FnScope N ps (defScope st) := ⟨rfl, rfl, rfl, by decide +kernel, rfl, by decide +kernel, by decide +kernel⟩
def t (K : PySem.W.Frag) (w : World) : TS :=
  (tSeq (tIfS (tTest (tOp rGt (tOp (rIxL K) (tVar 0) (tC (.int 3))) (tC (.int 0)))) (tSeq (tAsg (tOp rModI (tCB rInt1 (tCons (tOp (rIxL K) (tVar 0) (tC (.int 3))) tNil)) (tVar 1)) (gName 3))
  (tSeq (tAsg (tOp rDivI (tOp (rIxL K) (tVar 0) (tC (.int 3))) (tVar 1)) (gSub (tVar 0) (tC (.int 3)) rSetL))
  (tRet (tVar 3)))) tNext)
  (tSeq (tAsg (tOp rAddI (tOp (rIxL K) (tVar 0) (tC (.int 1))) (tC (.int 1))) (gSub (tVar 0) (tC (.int 1)) rSetL))
  (tSeq (tIfS (tTest (tOp rGt (tOp (rIxL K) (tVar 0) (tC (.int 1))) (tCB (rLenV K) (tCons (tOp (rIxL K) (tVar 0) (tC (.int 0))) tNil)))) (tSeq (tAsg (tOp rModI (tCB rInt1 (tCons (tOp rAddI (tOp rMulI (tOp (rIxL K) (tVar 0) (tC (.int 2))) (tC (.int 48271))) (tC (.int 11))) tNil)) (tC (.int 2147483647))) (gSub (tVar 0) (tC (.int 2)) rSetL))
  (tRet (tOp rModI (tCB rInt1 (tCons (tOp rDivI (tOp (rIxL K) (tVar 0) (tC (.int 2))) (tC (.int 7))) tNil)) (tVar 1)))) tNext)
  (tSeq (tAsg (tOp (rIxL K) (tOp (rIxL K) (tVar 0) (tC (.int 0))) (tOp rSubI (tOp (rIxL K) (tVar 0) (tC (.int 1))) (tC (.int 1)))) (gName 2))
  (tSeq (tAsg (tOp rModI (tCB rInt1 (tCons (tOp rAddI (tOp rAddI (tOp rMulI (tOp (rIxL K) (tVar 0) (tC (.int 2))) (tC (.int 48271))) (tVar 2)) (tC (.int 11))) tNil)) (tC (.int 2147483647))) (gSub (tVar 0) (tC (.int 2)) rSetL))
  (tSeq (tIfS (tTest (tOp rGe (tVar 2) (tOp rPowI (tC (.int 10)) (tC (.int 18))))) (tAsg (tOp rDivI (tVar 2) (tVar 1)) (gSub (tVar 0) (tC (.int 3)) rSetL)) tNext)
  (tRet (tOp rModI (tCB rInt1 (tCons (tVar 2) tNil)) (tVar 1)))))))))
theorem d {P : Program} {w : World} {K : PySem.W.Frag} {mg : Str → Option Value} {base : Heap} {f : Addr} {cdv : Value} {A : Around} {outer : List Env} {s : Shared} {H : Hp} {E : XK} {k : Nat} (B : Bi mg) (hr : Room (k) (A.deeper (envOfC "_law_taken" (defScope st) s.heap.objs.size f cdv))) :
    PSs (cxOf CX0 P w K mg base N "_law_taken" (defScope st) f cdv A outer s H E).nox (defBody st) (t K w) :=
  (pss_cons (ps_if (y_gt (x_ixL (pv 0) pe_int) pe_int) (pss_cons (x_set (i := 3) S.nd (pe_op op_mod (x_int B (x_ixL (pv 0) pe_int)) (pv 1)))
  (pss_cons (ps_asg (pe_op op_fdiv (x_ixL (pv 0) pe_int) (pv 1)) (pg_sub (pv 0) pe_int set_list))
  (pss_one (ps_ret (pv 3))))) pss_nil)
  (pss_cons (ps_asg (pe_op op_add (x_ixL (pv 0) pe_int) pe_int) (pg_sub (pv 0) pe_int set_list))
  (pss_cons (ps_if (y_gt (x_ixL (pv 0) pe_int) (x_len B (x_ixL (pv 0) pe_int))) (pss_cons (ps_asg (pe_op op_mod (x_int B (pe_op op_add (pe_op op_mul (x_ixL (pv 0) pe_int) pe_int) pe_int)) pe_int) (pg_sub (pv 0) pe_int set_list))
  (pss_one (ps_ret (pe_op op_mod (x_int B (pe_op op_fdiv (x_ixL (pv 0) pe_int) pe_int)) (pv 1))))) pss_nil)
  (pss_cons (x_set (i := 2) S.nd (x_ixL (x_ixL (pv 0) pe_int) (pe_op op_sub (x_ixL (pv 0) pe_int) pe_int)))
  (pss_cons (ps_asg (pe_op op_mod (x_int B (pe_op op_add (pe_op op_add (pe_op op_mul (x_ixL (pv 0) pe_int) pe_int) (pv 2)) pe_int)) pe_int) (pg_sub (pv 0) pe_int set_list))
  (pss_cons (ps_if (y_ge (pv 2) (pe_op op_pow pe_int pe_int)) (pss_one (ps_asg (pe_op op_fdiv (pv 2) (pv 1)) (pg_sub (pv 0) pe_int set_list))) pss_nil)
  (pss_one (ps_ret (pe_op op_mod (x_int B (pv 2)) (pv 1))))))))))
end D_law_taken

namespace D_law_pick
abbrev st : Stmt := top 48
abbrev N : List Str := ["_law_row", "_law_things"]
abbrev ps : List Str := ["_law_row", "_law_things"]
theorem S : FnScope N ps (defScope st) := ⟨rfl, rfl, rfl, by decide +kernel, rfl, by decide +kernel, by decide +kernel⟩
def t (K : PySem.W.Frag) (w : World) (sp_law_taken : Sp) : TS :=
  (tRet (tOp (rIxL K) (tVar 1) (tCall sp_law_taken [] E0 (tCons (tVar 0) (tCons (tCB (rLenV K) (tCons (tVar 1) tNil)) tNil)))))
theorem d {P : Program} {w : World} {K : PySem.W.Frag} {mg : Str → Option Value} {base : Heap} {f : Addr} {cdv : Value} {A : Around} {outer : List Env} {s : Shared} {H : Hp} {E : XK} {k : Nat} {sp_law_taken : Sp} (B : Bi mg) (hr : Room (k) (A.deeper (envOfC "_law_pick" (defScope st) s.heap.objs.size f cdv))) (F_law_taken : Fc P w K mg base CX0 k "_law_taken" [] sp_law_taken) :
    PSs (cxOf CX0 P w K mg base N "_law_pick" (defScope st) f cdv A outer s H E).nox (defBody st) (t K w sp_law_taken) :=
  (pss_one (ps_ret (x_ixL (pv 1) (x_call F_law_taken (hr.mono (by omega)) (by exact (pa_cons (pv 0) (pa_cons (x_len B (pv 1)) pa_nil)))))))
end D_law_pick

namespace D_law_machine
abbrev st : Stmt := top 43
abbrev N : List Str := ["_law_row", "_law_cells", "_law_many", "_law_function"]
abbrev ps : List Str := ["_law_row"]
theorem S : FnScope N ps (defScope st) := ⟨rfl, rfl, rfl, by decide +kernel, rfl, by decide +kernel, by decide +kernel⟩
def t (K : PySem.W.Frag) (w : World) (sp_law_taken : Sp) : TS :=
  (tSeq (tPar 1 2 (tCons (tOp rAddI (tC (.int 1)) (tCall sp_law_taken [] E0 (tCons (tVar 0) (tCons (tC (.int 3)) tNil)))) (tCons (tOp rAddI (tC (.int 1)) (tCall sp_law_taken [] E0 (tCons (tVar 0) (tCons (tC (.int 2)) tNil)))) tNil)))
  (tRet (tTup (tCons (tVar 1) (tCons (tThen (tLc (iRng1 (tCons (tVar 2) tNil)) (gName 3) tYes (tOp rAddI (tC (.int 1)) (tCall sp_law_taken [] E0 (tCons (tVar 0) (tCons (tC (.int 2)) tNil)))) [3]) (kTup K)) tNil)))))
theorem d {P : Program} {w : World} {K : PySem.W.Frag} {mg : Str → Option Value} {base : Heap} {f : Addr} {cdv : Value} {A : Around} {outer : List Env} {s : Shared} {H : Hp} {E : XK} {k : Nat} {sp_law_taken : Sp} (B : Bi mg) (hr : Room (k) (A.deeper (envOfC "_law_machine" (defScope st) s.heap.objs.size f cdv))) (F_law_taken : Fc P w K mg base CX0 k "_law_taken" [] sp_law_taken) :
    PSs (cxOf CX0 P w K mg base N "_law_machine" (defScope st) f cdv A outer s H E).nox (defBody st) (t K w sp_law_taken) :=
  (pss_cons (ps_par (i := 1) (j := 2) rfl S.nd rfl rfl (by decide) rfl rfl (by exact (pa_cons (pe_op op_add pe_int (x_call F_law_taken (hr.mono (by omega)) (by exact (pa_cons (pv 0) (pa_cons pe_int pa_nil))))) (pa_cons (pe_op op_add pe_int (x_call F_law_taken (hr.mono (by omega)) (by exact (pa_cons (pv 0) (pa_cons pe_int pa_nil))))) pa_nil))) (by exact rfl))
  (pss_one (ps_ret (pe_tup (by exact (pa_cons (pv 1) (pa_cons (x_tup B (pe_lc (own := [("_law_function", 3)]) (g := (gName 3)) (tt := tYes) rfl S.nd (x_rng B (pv 2)) (blkOk_by (N := N) (sc := defScope st) (by decide +kernel)) (fun _ _ _ _ _ => (g_nm 3 S.nd)) (fun _ _ _ _ _ => pts_nil) (fun _ _ _ _ _ => (pe_op op_add pe_int (x_call F_law_taken (hr.mono (by omega)) (by exact (pa_cons (pv 0) (pa_cons pe_int pa_nil)))))))) pa_nil)))))))
end D_law_machine

namespace D_law_program
abbrev st : Stmt := top 49
abbrev N : List Str := ["_law_row", "_law_machine_here", "_law_many", "_law_lines", "_law_turn"]
abbrev ps : List Str := ["_law_row", "_law_machine_here", "_law_many"]
theorem S : FnScope N ps (defScope st) := ⟨rfl, rfl, rfl, by decide +kernel, rfl, by decide +kernel, by decide +kernel⟩
def t (K : PySem.W.Frag) (w : World) (sp_law_every_line : Sp) (sp_law_taken : Sp) (sp_law_pick : Sp) : TS :=
  (tSeq (tAsg (tCall sp_law_every_line [] E0 (tCons (tVar 1) tNil)) (gName 3))
  (tRet (tThen (tLc (iRng1 (tCons (tCall sp_law_taken [] E0 (tCons (tVar 0) (tCons (tOp rAddI (tVar 2) (tC (.int 1))) tNil))) tNil)) (gName 4) tYes (tCall sp_law_pick [] E0 (tCons (tVar 0) (tCons (tVar 3) tNil))) [4]) (kTup K))))
theorem d {P : Program} {w : World} {K : PySem.W.Frag} {mg : Str → Option Value} {base : Heap} {f : Addr} {cdv : Value} {A : Around} {outer : List Env} {s : Shared} {H : Hp} {E : XK} {k : Nat} {sp_law_every_line : Sp} {sp_law_taken : Sp} {sp_law_pick : Sp} (B : Bi mg) (hr : Room (k) (A.deeper (envOfC "_law_program" (defScope st) s.heap.objs.size f cdv))) (F_law_every_line : Fc P w K mg base CX0 k "_law_every_line" [] sp_law_every_line) (F_law_taken : Fc P w K mg base CX0 k "_law_taken" [] sp_law_taken) (F_law_pick : Fc P w K mg base CX0 k "_law_pick" [] sp_law_pick) :
    PSs (cxOf CX0 P w K mg base N "_law_program" (defScope st) f cdv A outer s H E).nox (defBody st) (t K w sp_law_every_line sp_law_taken sp_law_pick) :=
  (pss_cons (x_set (i := 3) S.nd (x_call F_law_every_line (hr.mono (by omega)) (by exact (pa_cons (pv 1) pa_nil))))
  (pss_one (ps_ret (x_tup B (pe_lc (own := [("_law_turn", 4)]) (g := (gName 4)) (tt := tYes) rfl S.nd (x_rng B (x_call F_law_taken (hr.mono (by omega)) (by exact (pa_cons (pv 0) (pa_cons (pe_op op_add (pv 2) pe_int) pa_nil))))) (blkOk_by (N := N) (sc := defScope st) (by decide +kernel)) (fun _ _ _ _ _ => (g_nm 4 S.nd)) (fun _ _ _ _ _ => pts_nil) (fun _ _ _ _ _ => (x_call F_law_pick (hr.mono (by omega)) (by exact (pa_cons (pv 0) (pa_cons (pv 3) pa_nil))))))))))
end D_law_program

namespace D_law_wishes
abbrev st : Stmt := top 51
abbrev N : List Str := ["_law_row", "_law_machine_here", "_law_some", "_law_program_here", "_law_held", "_law_cell"]
abbrev ps : List Str := ["_law_row", "_law_machine_here"]
theorem S : FnScope N ps (defScope st) := ⟨rfl, rfl, rfl, by decide +kernel, rfl, by decide +kernel, by decide +kernel⟩
def t (K : PySem.W.Frag) (w : World) (sp_law_taken : Sp) (sp_law_tame : Sp) (sp_law_program : Sp) (sp_law_ran : Sp) (sp_law_pick : Sp) : TS :=
  (tSeq (tIfS (tTest (tOp rGt (tCall sp_law_taken [] E0 (tCons (tVar 0) (tCons (tC (.int 3)) tNil))) (tC (.int 0)))) (tSeq (tAsg (tCall sp_law_tame [] E0 (tCons (tVar 1) (tCons (tCall sp_law_program [] E0 (tCons (tVar 0) (tCons (tVar 1) (tCons (tC (.int 5)) tNil)))) tNil))) (gName 3))
  (tAsg (tCall sp_law_ran [] E0 (tCons (tVar 1) (tCons (tVar 3) (tCons (tTup tNil) tNil)))) (gName 4))) (tAsg (tThen (tLc (iRng1 (tCons (tOp (rIxT K) (tVar 1) (tC (.int 0))) tNil)) (gName 5) tYes (tCall sp_law_pick [] E0 (tCons (tVar 0) (tCons (tLst (tCons (tC (.int 0)) (tCons (tOp (rCatA K) (tTup (tCons (tC (.int 0)) tNil)) (tOp (rRepAny K) (tTup (tCons (tC (.int 0)) tNil)) (tOp (rIxT K) (tOp (rIxT K) (tVar 1) (tC (.int 1))) (tC (.int 0))))) tNil))) tNil))) [5]) (kTup K)) (gName 4)))
  (tSeq (tAsg (tLc (iRng1 (tCons (tOp (rIxT K) (tVar 1) (tC (.int 0))) tNil)) (gName 5) (tTest (tOp rGt (tCall sp_law_taken [] E0 (tCons (tVar 0) (tCons (tC (.int 3)) tNil))) (tC (.int 0)))) (tTup (tCons (tVar 5) (tCons (tOp (rIxT K) (tVar 4) (tVar 5)) tNil))) [5]) (gName 2))
  (tRet (tIf (tTest (tOp (rNeD K) (tVar 2) (tLst tNil))) (tThen (tVar 2) (kTup K)) (tTup (tCons (tTup (tCons (tC (.int 0)) (tCons (tOp (rIxT K) (tVar 4) (tC (.int 0))) tNil))) tNil))))))
theorem d {P : Program} {w : World} {K : PySem.W.Frag} {mg : Str → Option Value} {base : Heap} {f : Addr} {cdv : Value} {A : Around} {outer : List Env} {s : Shared} {H : Hp} {E : XK} {k : Nat} {sp_law_taken : Sp} {sp_law_tame : Sp} {sp_law_program : Sp} {sp_law_ran : Sp} {sp_law_pick : Sp} (B : Bi mg) (hr : Room (k) (A.deeper (envOfC "_law_wishes" (defScope st) s.heap.objs.size f cdv))) (F_law_taken : Fc P w K mg base CX0 k "_law_taken" [] sp_law_taken) (F_law_tame : Fc P w K mg base CX0 k "_law_tame" [] sp_law_tame) (F_law_program : Fc P w K mg base CX0 k "_law_program" [] sp_law_program) (F_law_ran : Fc P w K mg base CX0 k "_law_ran" [] sp_law_ran) (F_law_pick : Fc P w K mg base CX0 k "_law_pick" [] sp_law_pick) :
    PSs (cxOf CX0 P w K mg base N "_law_wishes" (defScope st) f cdv A outer s H E).nox (defBody st) (t K w sp_law_taken sp_law_tame sp_law_program sp_law_ran sp_law_pick) :=
  (pss_cons (ps_if (y_gt (x_call F_law_taken (hr.mono (by omega)) (by exact (pa_cons (pv 0) (pa_cons pe_int pa_nil)))) pe_int) (pss_cons (x_set (i := 3) S.nd (x_call F_law_tame (hr.mono (by omega)) (by exact (pa_cons (pv 1) (pa_cons (x_call F_law_program (hr.mono (by omega)) (by exact (pa_cons (pv 0) (pa_cons (pv 1) (pa_cons pe_int pa_nil))))) pa_nil)))))
  (pss_one (x_set (i := 4) S.nd (x_call F_law_ran (hr.mono (by omega)) (by exact (pa_cons (pv 1) (pa_cons (pv 3) (pa_cons (pe_tup (by exact pa_nil)) pa_nil)))))))) (pss_one (x_set (i := 4) S.nd (x_tup B (pe_lc (own := [("_law_cell", 5)]) (g := (gName 5)) (tt := tYes) rfl S.nd (x_rng B (x_ixT (pv 1) pe_int)) (blkOk_by (N := N) (sc := defScope st) (by decide +kernel)) (fun _ _ _ _ _ => (g_nm 5 S.nd)) (fun _ _ _ _ _ => pts_nil) (fun _ _ _ _ _ => (x_call F_law_pick (hr.mono (by omega)) (by exact (pa_cons (pv 0) (pa_cons (pe_lst (by exact (pa_cons pe_int (pa_cons (pe_op op_catA (pe_tup (by exact (pa_cons pe_int pa_nil))) (pe_op op_repA (pe_tup (by exact (pa_cons pe_int pa_nil))) (x_ixT (x_ixT (pv 1) pe_int) pe_int))) pa_nil)))) pa_nil))))))))))
  (pss_cons (ps_setLc (i := 2) (own := [("_law_cell", 5)]) (g := (gName 5)) (tt := (tTest (tOp rGt (tCall sp_law_taken [] E0 (tCons (tVar 0) (tCons (tC (.int 3)) tNil))) (tC (.int 0))))) rfl S.nd rfl rfl (sw_true rfl rfl rfl (by decide +kernel)) (x_rng B (x_ixT (pv 1) pe_int)) (blkOk_by (N := N) (sc := defScope st) (by decide +kernel)) (fun _ _ _ _ _ => (g_nm 5 S.nd)) (fun _ _ _ _ _ => (pts_one (y_gt (x_call F_law_taken (hr.mono (by omega)) (by exact (pa_cons (pv 0) (pa_cons pe_int pa_nil)))) pe_int))) (fun _ _ _ _ _ => (pe_tup (by exact (pa_cons (pv 5) (pa_cons (x_ixT (pv 4) (pv 5)) pa_nil))))))
  (pss_one (ps_ret (pe_ifExp (y_neD (u64 hr) (pv 2) (pe_lst (by exact pa_nil))) (x_tup B (pv 2)) (pe_tup (by exact (pa_cons (pe_tup (by exact (pa_cons pe_int (pa_cons (x_ixT (pv 4) pe_int) pa_nil)))) pa_nil))))))))
end D_law_wishes

end LX

set_option maxRecDepth 100000
set_option maxHeartbeats 8000000
namespace LX
open PySem PySem.Spec PyProof.Rows L2 MDict GxR GQ
/-! ### the row of draws -/
structure Rw where
  row : Addr
  sc : Addr
  xs : List Int
/-- the script stands apart from the row, or in the written part -/
def Sep (K : PySem.W.Frag) (ρ : Rw) : Prop := ρ.sc ≠ ρ.row ∨ SqL K (fun _ => none) ρ.sc (ρ.xs.map V.int)
def RowOk (K : PySem.W.Frag) (ρ : Rw) (H : Hp) : Prop := ∃ (a b c : Int), H ρ.row = some (.lst [.ref ρ.sc, .int a, .int b, .int c]) ∧ SqL K H ρ.sc (ρ.xs.map V.int) ∧ 0 ≤ a ∧ Sep K ρ
structure Gr (K : PySem.W.Frag) (ρ : Rw) (H H' : Hp) : Prop where
  ok : RowOk K ρ H'
  gm : Gm ρ.row H H'
section
variable {K : PySem.W.Frag} {ρ : Rw} {H H1 H2 H' : Hp}
theorem Gr.trans (x : Gr K ρ H H1) (y : Gr K ρ H1 H2) : Gr K ρ H H2 := ⟨y.ok, x.gm.trans y.gm⟩
theorem RowOk.gx (e : Gx H H') (h : RowOk K ρ H) : RowOk K ρ H' := by
  obtain ⟨a, b, c, h1, h2, h3, h4⟩ := h
  exact ⟨a, b, c, e.kp ρ.row _ h1 (fun _ z => by cases z), e.sl h2, h3, h4⟩
theorem Gr.gx (g : Gr K ρ H H1) (e : Gx H1 H2) : Gr K ρ H H2 := ⟨g.ok.gx e, g.gm.trans e.gm⟩
theorem RowOk.gr (h : RowOk K ρ H) (e : Gx H H') : Gr K ρ H H' := ⟨h.gx e, e.gm⟩
theorem RowOk.refl (h : RowOk K ρ H) : Gr K ρ H H := h.gr (Gx.refl H)
theorem Gr.d (g : Gr K ρ H H') {d : D} {v : V} (h : KeyH H d v) : KeyH H' d v := g.gm.tk.d h
theorem Gr.tabs (g : Gr K ρ H H') {T : List Addr} (h : TabsG T H) : TabsG T H' := h.gm g.gm
theorem Gm.sl {l a : Addr} {xs : List V} (e : Gm l H H') (n : a ≠ l) (h : SqL K H a xs) : SqL K H' a xs := by
  rcases h with (h | ⟨o, h⟩) | h
  · exact .inl (.inl (e.kp a _ n h fun _ z => by cases z))
  · exact .inl (.inr ⟨o, e.kp a _ n h fun _ z => by cases z⟩)
  · exact .inr h
theorem sl_none {a : Addr} {xs : List V} {H : Hp} (h : SqL K (fun _ => none) a xs) : SqL K H a xs := by
  rcases h with (h | ⟨o, h⟩) | h
  · cases h
  · cases h
  · exact .inr h
theorem Gm.sl2 (e : Gm ρ.row H H') (n : Sep K ρ) (h : SqL K H ρ.sc (ρ.xs.map V.int)) : SqL K H' ρ.sc (ρ.xs.map V.int) := by
  rcases n with n | n
  · exact e.sl n h
  · exact sl_none n
end
class MonoR (K : PySem.W.Frag) (ρ : Rw) (P : V → Hp → Prop) : Prop where
  mr : ∀ {v : V} {H H' : Hp}, RowOk K ρ H → Gr K ρ H H' → P v H → P v H'
section
variable {K : PySem.W.Frag} {w : World} {ρ : Rw} {σ : L2.St} {H : Hp} {ta tb te : TE} {P R S : V → Hp → Prop} {T : List Addr}
instance {d : D} : MonoR K ρ (PD d) := ⟨fun _ g h => g.d h⟩
instance {x : V} : MonoR K ρ (PV x) := ⟨fun _ _ h => h⟩
instance {b : Bool} : MonoR K ρ (PB b) := ⟨fun _ _ h => h⟩
/-- a list with such data in it is not the row -/
theorem pl_row {ds : List D} {l : Addr} {vs : List V} (ok : RowOk K ρ H) (hd : ds.length ≠ 4 ∨ ∀ d ∈ ds, ∃ ks, d = .tup ks) (h1 : H l = some (.lst vs)) (h2 : KeyAll H ds vs) : l ≠ ρ.row := fun z => by
  obtain ⟨a, b, c, e1, e2, _, _⟩ := ok
  rw [z, e1] at h1
  cases h1
  have hl := ka_len h2
  rcases hd with h | h
  · exact h hl.symm
  · obtain ⟨d, g1, g2⟩ := ka_get' (i := 1) (v := .int a) h2 rfl
    obtain ⟨ks, rfl⟩ := h d (List.mem_of_getElem? g1)
    obtain ⟨p, us, e3, _⟩ := g2
    cases e3
def PLr (row : Addr) (ds : List D) : V → Hp → Prop := fun v H => ∃ l vs, v = .ref l ∧ l ≠ row ∧ H l = some (.lst vs) ∧ KeyAll H ds vs
instance {ds : List D} : MonoR K ρ (PLr ρ.row ds) := ⟨fun _ g ⟨l, vs, h0, h1, h2, h3⟩ => ⟨l, vs, h0, h1, g.gm.lst h1 h2, g.gm.tk.all h3⟩⟩
instance {ds : List D} : Mono (PLr ρ.row ds) := ⟨fun e ⟨l, vs, h0, h1, h2, h3⟩ => ⟨l, vs, h0, h1, e.kp l _ h2 (fun _ z => by cases z), mono_all e h3⟩⟩
theorem plr_of {ds : List D} {v : V} (ok : RowOk K ρ H) (hd : ds.length ≠ 4 ∨ ∀ d ∈ ds, ∃ ks, d = .tup ks) (h : PL ds v H) : PLr ρ.row ds v H := by
  obtain ⟨l, vs, e, h1, h2⟩ := h
  exact ⟨l, vs, e, pl_row ok hd h1 h2, h1, h2⟩
theorem plr_pl {ds : List D} {v : V} (h : PLr ρ.row ds v H) : PL ds v H := by
  obtain ⟨l, vs, e, _, h1, h2⟩ := h
  exact ⟨l, vs, e, h1, h2⟩
def Er (K : PySem.W.Frag) (ρ : Rw) (te : TE) (σ : L2.St) (H : Hp) (P : V → Hp → Prop) : Prop := ∀ H1, Gr K ρ H H1 → ∀ Q : VK, (∀ v H2, Gr K ρ H1 H2 → P v H2 → Q v H2) → te σ H1 Q
def ErA (K : PySem.W.Frag) (ρ : Rw) (ta : TA) (σ : L2.St) (H : Hp) (Ps : List (V → Hp → Prop)) : Prop := ∀ H1, Gr K ρ H H1 → ∀ Q : List V → Hp → Prop, (∀ vs H2, Gr K ρ H1 H2 → PsA Ps vs H2 → Q vs H2) → ta σ H1 Q
theorem er (h : ∀ H1, Gr K ρ H H1 → Ev te σ H1 P) : Er K ρ te σ H P := fun H1 g Q q => h H1 g H1 (Gx.refl H1) Q fun v H2 e hv => q v H2 (g.ok.gr e) hv
theorem er_var [MonoR K ρ P] [Mono P] {i : Nat} {v : V} (ok : RowOk K ρ H) (h : P v H) (hi : σ[i]? = some (some v)) : Er K ρ (tVar i) σ H P := er fun H1 g => ev_var (MonoR.mr ok g h) hi
theorem Er.mono {H' : Hp} (g : Gr K ρ H H') (h : Er K ρ te σ H P) : Er K ρ te σ H' P := fun H1 g1 Q q => h H1 (g.trans g1) Q q
theorem Er.imp (h : Er K ρ te σ H P) (k : ∀ v H', RowOk K ρ H' → P v H' → R v H') : Er K ρ te σ H R := fun H1 g Q q => h H1 g Q fun v H2 g2 hv => q v H2 g2 (k v H2 g2.ok hv)
theorem era_nil : ErA K ρ tNil σ H [] := fun H1 g Q q => q [] H1 g.ok.refl rfl
theorem psa_monoR {Ps : List (V → Hp → Prop)} : True := trivial
theorem era_cons {tr : TA} {Ps : List (V → Hp → Prop)} [MonoR K ρ P] (h : Er K ρ te σ H P) (hr : ErA K ρ tr σ H Ps) : ErA K ρ (tCons te tr) σ H (P :: Ps) := fun H1 g Q q =>
  h H1 g _ fun v H2 g2 hv => hr H2 (g.trans g2) _ fun vs H3 g3 hvs => q _ H3 (g2.trans g3) ⟨v, vs, rfl, MonoR.mr g2.ok g3 hv, hvs⟩
theorem er_op2 {r : R2} [MonoR K ρ P] (ha : Er K ρ ta σ H P) (hb : Er K ρ tb σ H R) (hr : ∀ x y H1, Gr K ρ H H1 → P x H1 → R y H1 → ∀ Q : VK, (∀ v H2, Gx H1 H2 → S v H2 → Q v H2) → r x y H1 Q) : Er K ρ (tOp r ta tb) σ H S := fun H1 g Q q =>
  ha H1 g _ fun x H2 g2 hx => hb H2 (g.trans g2) _ fun y H3 g3 hy => hr x y H3 ((g.trans g2).trans g3) (MonoR.mr g2.ok g3 hx) hy Q fun v H4 e hv => q v H4 ((g2.trans g3).gx e) hv
/-- a call that leaves the row alone -/
theorem er_callN {α : Type} {pre : α → Prop} {A : α → List (V → Hp → Prop)} {Rr : α → V → Hp → Prop} {E : XK} {ta : TA} (x : α) (ht : TabsG T H) (h : ErA K ρ ta σ H (A x)) (hp : pre x) : Er K ρ (tCall (spP T pre A Rr) [] E ta) σ H (Rr x) := fun H1 g Q q =>
  h H1 g _ fun vs H2 g2 hvs => by
    rw [show (vs : List V) = vs ++ [] from (List.append_nil vs).symm] at hvs
    exact ⟨(g.trans g2).tabs ht, x, hp, hvs, fun v H3 e hv => q v H3 (g2.gx e) hv⟩
/-- a promise of a def that takes the row -/
def spR {α : Type} (K : PySem.W.Frag) (T : List Addr) (pre : α → Prop) (A : α → List (V → Hp → Prop)) (R : α → V → Hp → Prop) : Sp := fun vs H Q _ => TabsG T H ∧ ∃ (ρ : Rw) (x : α) (r : List V), RowOk K ρ H ∧ pre x ∧ vs = .ref ρ.row :: r ∧ PsA (A x) r H ∧ ∀ v H', Gr K ρ H H' → R x v H' → Q v H'
theorem er_call {α : Type} {pre : α → Prop} {A : α → List (V → Hp → Prop)} {Rr : α → V → Hp → Prop} {E : XK} {ta : TA} {i : Nat} (x : α) (ht : TabsG T H) (hi : σ[i]? = some (some (.ref ρ.row))) (h : ErA K ρ ta σ H (A x)) (hp : pre x) : Er K ρ (tCall (spR K T pre A Rr) [] E (tCons (tVar i) ta)) σ H (Rr x) := fun H1 g Q q =>
  ⟨.ref ρ.row, hi, h H1 g _ fun vs H2 g2 hvs => ⟨(g.trans g2).tabs ht, ρ, x, vs, g2.ok, hp, by rw [List.append_nil], hvs, fun v H3 g3 hv => q v H3 (g2.trans g3) hv⟩⟩

/-! _law_taken -/
def sp_taken (K : PySem.W.Frag) (T : List Addr) : Sp := spR (α := Nat) K T (fun m => 1 ≤ m ∧ m ≤ 1000000) (fun m => [PD (nm m)]) fun m v _ => ∃ r : Nat, r < m ∧ v = .int (r : Int)
theorem ev_rowL {i : Nat} {row : Addr} {vs : List V} {v : V} {j : Int} (hi : σ[i]? = some (some (.ref row))) (ho : H row = some (.lst vs)) (hj : atI vs j = some v) : Ev (tOp (rIxL K) (tVar i) (tC (.int j))) σ H (PV v) := fun H1 e Q q =>
  ⟨.ref row, hi, row, vs, j, v, rfl, rfl, SqL.of (e.kp row _ ho (fun _ z => by cases z)), hj, q v H1 (Gx.refl H1) rfl⟩
theorem ev_int1 {i : Int} (h : Ev te σ H (PD (.num i))) : Ev (tCB rInt1 (tCons te tNil)) σ H (PD (.num i)) := fun H1 e Q q => h H1 e _ fun v H2 e2 hv => .inl ⟨i, by rw [show v = .int i from hv], q _ H2 e2 rfl⟩
theorem ev_mod {i j : Int} (ha : Ev ta σ H (PD (.num i))) (hb : Ev tb σ H (PD (.num j))) (hj : 0 < j) : Ev (tOp rModI ta tb) σ H (PD (.num (i % j))) := ev_I ha hb hj fun _ => rfl
theorem ev_div {i j : Int} (ha : Ev ta σ H (PD (.num i))) (hb : Ev tb σ H (PD (.num j))) (hj : 0 < j ∧ j < 1073741824) : Ev (tOp rDivI ta tb) σ H (PD (.num (i / j))) := ev_I ha hb hj fun _ => rfl
theorem ev_mul {i j : Int} (ha : Ev ta σ H (PD (.num i))) (hb : Ev tb σ H (PD (.num j))) (hj : -(2 ^ 64) < j ∧ j < 2 ^ 64) : Ev (tOp rMulI ta tb) σ H (PD (.num (i * j))) := ev_I ha hb (.inr hj) fun _ => rfl
theorem ev_pv {i : Int} (h : Ev te σ H (PV (.int i))) : Ev te σ H (PD (.num i)) := h
/-- row[k] = v -/
theorem s_setL {i : Nat} {row : Addr} {vs : List V} {k : Int} {j : Nat} {Dn : Ends} (hi : σ[i]? = some (some (.ref row))) (ho : H row = some (.lst vs)) (hk : ixN vs.length k = some j) (h : Ev te σ H P) (kk : ∀ v H1, Gx H H1 → P v H1 → Dn.nx σ (upd H1 row (.lst (vs.set j v)))) : tAsg te (gSub (tVar i) (tC (.int k)) rSetL) Dn σ H :=
  h H (Gx.refl H) _ fun v H1 e hv => ⟨.ref row, hi, row, vs, k, j, rfl, rfl, e.kp row _ ho (fun _ z => by cases z), hk, kk v H1 e hv⟩
theorem gr_set {vs : List V} {H1 : Hp} (e : Gx H H1) (ho : H ρ.row = some (.lst vs)) {a b c : Int} (hs : SqL K H ρ.sc (ρ.xs.map V.int)) (ha : 0 ≤ a) (hn : Sep K ρ) : Gr K ρ H (upd H1 ρ.row (.lst [.ref ρ.sc, .int a, .int b, .int c])) := by
  have g1 : Gm ρ.row H1 (upd H1 ρ.row (.lst [.ref ρ.sc, .int a, .int b, .int c])) := Gm.updL (e.kp ρ.row _ ho (fun _ z => by cases z))
  exact ⟨⟨a, b, c, upd_same, g1.sl2 hn (e.sl hs), ha, hn⟩, e.gm.trans g1⟩
theorem pure_taken : ∀ vs H Q E, sp_taken K T vs H Q E → D_law_taken.t K w { nx := fun _ H' => Q .non H', rt := Q } (start D_law_taken.N vs) H := by
  rintro vs H Q E ⟨hT, ρ, m, r, ok, ⟨m1, m2⟩, rfl, ⟨v1, _, rfl, h1, rfl⟩, k⟩
  have h1 : v1 = .int (m : Int) := h1
  subst h1
  have k : ∀ (x : Int) H', Gr K ρ H H' → Q (.int (x % (m : Int))) H' := fun x H' g => k _ H' g ⟨(x % (m : Int)).toNat, by have := Int.emod_lt_of_pos x (show (0 : Int) < m by omega); have := Int.emod_nonneg x (show (m : Int) ≠ 0 by omega); omega, by have := Int.emod_nonneg x (show (m : Int) ≠ 0 by omega); rw [Int.toNat_of_nonneg this]⟩
  obtain ⟨a, b, c, ho, hs, ha, hn⟩ := id ok
  have mm : (0 : Int) < m := by omega
  have md : (0 : Int) < m ∧ (m : Int) < 1073741824 := by omega
  have var1 : ∀ {σ : L2.St} {H1 : Hp}, σ[1]? = some (some (.int (m : Int))) → Ev (tVar 1) σ H1 (PD (nm m)) := fun h => ev_var (P := PD (nm m)) rfl h
  have at0 : ∀ {v0 v1 v2 v3 : V}, atI [v0, v1, v2, v3] 0 = some v0 := atI_nat (xs := [_, _, _, _]) (j := 0) rfl
  have at1 : ∀ {v0 v1 v2 v3 : V}, atI [v0, v1, v2, v3] 1 = some v1 := atI_nat (xs := [_, _, _, _]) (j := 1) rfl
  have at2 : ∀ {v0 v1 v2 v3 : V}, atI [v0, v1, v2, v3] 2 = some v2 := atI_nat (xs := [_, _, _, _]) (j := 2) rfl
  have at3 : ∀ {v0 v1 v2 v3 : V}, atI [v0, v1, v2, v3] 3 = some v3 := atI_nat (xs := [_, _, _, _]) (j := 3) rfl
  refine q_when (b := decide (0 < c)) (et_test (ev_gt (ev_pv (ev_rowL rfl ho at3)) ev_int)) (fun _ H1 e1 => ?_) fun _ H1 e1 => ?_
  · have ho1 := e1.kp ρ.row _ ho (fun _ z => by cases z)
    refine q_asg (ev_mod (ev_int1 (ev_pv (ev_rowL rfl ho1 at3))) (var1 rfl) mm) fun v H2 e2 hv => ?_
    have hv : v = .int (c % (m : Int)) := hv
    subst hv
    have ho2 := e2.kp ρ.row _ ho1 (fun _ z => by cases z)
    refine (show tSeq (tAsg _ _) _ _ _ H2 from s_setL (j := 3) rfl ho2 rfl (ev_div (ev_pv (ev_rowL rfl ho2 at3)) (var1 rfl) md) fun v H3 e3 hv => ?_)
    have hv : v = .int (c / (m : Int)) := hv
    subst hv
    have g := gr_set (b := b) (c := c / (m : Int)) ((e1.trans e2).trans e3) ho hs ha hn
    exact s_ret (P := PV (.int (c % (m : Int)))) (ev_var (P := PV (.int (c % (m : Int)))) rfl rfl) fun v H4 e4 hv => by rw [show v = .int (c % (m : Int)) from hv]; exact k c H4 (g.gx e4)
  · have ho1 := e1.kp ρ.row _ ho (fun _ z => by cases z)
    refine (show tSeq (tAsg _ _) _ _ _ H1 from s_setL (j := 1) rfl ho1 rfl (ev_add (ev_pv (ev_rowL rfl ho1 at1)) ev_int) fun v H2 e2 hv => ?_)
    have hv : v = .int (a + 1) := hv
    subst hv
    have g2 := gr_set (a := a + 1) (b := b) (c := c) (e1.trans e2) ho hs (by omega) hn
    have ho2 : upd H2 ρ.row (.lst [.ref ρ.sc, .int (a + 1), .int b, .int c]) ρ.row = some (.lst [.ref ρ.sc, .int (a + 1), .int b, .int c]) := upd_same
    show tSeq _ _ _ _ (upd H2 ρ.row (.lst [.ref ρ.sc, .int (a + 1), .int b, .int c]))
    generalize upd H2 ρ.row (.lst [.ref ρ.sc, .int (a + 1), .int b, .int c]) = H3 at g2 ho2
    have hs3 : SqL K H3 ρ.sc (ρ.xs.map V.int) := g2.gm.sl2 hn hs
    have hlen : ∀ {H4 : Hp} {σ : L2.St}, Gx H3 H4 → σ[0]? = some (some (.ref ρ.row)) → Ev (tCB (rLenV K) (tCons (tOp (rIxL K) (tVar 0) (tC (.int 0))) tNil)) σ H4 (PD (nm ρ.xs.length)) := fun {H4 σ} e hi H5 e5 Q q => by
      refine ev_rowL hi (e.kp ρ.row _ ho2 (fun _ z => by cases z)) at0 H5 e5 _ fun v H6 e6 hv => ?_
      have hv : v = .ref ρ.sc := hv
      subst hv
      refine ⟨.ref ρ.sc, (ρ.xs.map V.int).length, rfl, .inl ?_, q _ H6 e6 ?_⟩
      · exact ⟨ρ.xs.map V.int, ((e.trans e5).trans e6).sl hs3, rfl⟩
      · show V.int _ = V.int _
        rw [List.length_map]
    refine q_when (b := decide ((ρ.xs.length : Int) < a + 1)) (et_test (ev_gt (ev_pv (ev_rowL rfl ho2 at1)) (hlen (Gx.refl _) rfl))) (fun _ H4 e4 => ?_) fun hb H4 e4 => ?_
    · have ho4 := e4.kp ρ.row _ ho2 (fun _ z => by cases z)
      refine (show tSeq (tAsg _ _) _ _ _ H4 from s_setL (j := 2) rfl ho4 rfl (ev_mod (ev_int1 (ev_add (ev_mul (ev_pv (ev_rowL rfl ho4 at2)) ev_int (by decide)) ev_int)) ev_int (by decide)) fun v H5 e5 hv => ?_)
      have hv : v = .int ((b * 48271 + 11) % 2147483647) := hv
      subst hv
      have g5 := g2.trans (gr_set (a := a + 1) (b := (b * 48271 + 11) % 2147483647) (c := c) (e4.trans e5) ho2 hs3 (by omega) hn)
      have ho5 : upd H5 ρ.row (.lst [.ref ρ.sc, .int (a + 1), .int ((b * 48271 + 11) % 2147483647), .int c]) ρ.row = some (.lst [.ref ρ.sc, .int (a + 1), .int ((b * 48271 + 11) % 2147483647), .int c]) := upd_same
      have hset : [V.ref ρ.sc, V.int (a + 1), V.int b, V.int c].set 2 (V.int ((b * 48271 + 11) % 2147483647)) = [.ref ρ.sc, .int (a + 1), .int ((b * 48271 + 11) % 2147483647), .int c] := rfl
      rw [hset]
      generalize upd H5 ρ.row (.lst [.ref ρ.sc, .int (a + 1), .int ((b * 48271 + 11) % 2147483647), .int c]) = H6 at g5 ho5
      exact s_ret (ev_mod (ev_int1 (ev_div (ev_pv (ev_rowL rfl ho5 at2)) ev_int (by decide))) (var1 rfl) mm) fun v H7 e7 hv => by rw [show v = .int _ from hv]; exact k _ H7 (g5.gx e7)
    · have hb : a + 1 ≤ ρ.xs.length := by have := of_decide_eq_false hb; omega
      obtain ⟨cell, hcell⟩ : ∃ cell, ρ.xs[a.toNat]? = some cell := ⟨ρ.xs[a.toNat]'(by omega), List.getElem?_eq_getElem _⟩
      have ho4 := e4.kp ρ.row _ ho2 (fun _ z => by cases z)
      have hs4 := e4.sl hs3
      refine q_asg (P := PD (.num cell)) (fun H5 e5 Q' q => ?_) fun v H5 e5 hv => ?_
      · refine ev_rowL (i := 0) (σ := [some (.ref ρ.row), some (.int (m : Int)), none, none]) rfl ho4 at0 H5 e5 _ fun v H6 e6 hv => ?_
        refine ev_sub (ev_pv (ev_rowL (i := 0) (σ := [some (.ref ρ.row), some (.int (m : Int)), none, none]) rfl ho4 at1)) ev_int H6 (e5.trans e6) _ fun u H7 e7 hu => ?_
        have hv : v = .ref ρ.sc := hv
        have hu : u = .int (a + 1 - 1) := hu
        subst hv
        subst hu
        refine ⟨ρ.sc, ρ.xs.map V.int, a + 1 - 1, .int cell, rfl, rfl, ((e5.trans e6).trans e7).sl hs4, ?_, q _ H7 (e6.trans e7) rfl⟩
        have e : a + 1 - 1 = ((a.toNat : Nat) : Int) := by omega
        rw [e]
        refine atI_nat ?_
        rw [List.getElem?_map, hcell]; rfl
      · have hv : v = .int cell := hv
        subst hv
        have ho5 := e5.kp ρ.row _ ho4 (fun _ z => by cases z)
        have hs5 := e5.sl hs4
        have var2 : ∀ {σ : L2.St} {H1 : Hp}, σ[2]? = some (some (.int cell)) → Ev (tVar 2) σ H1 (PD (.num cell)) := fun h => ev_var (P := PD (.num cell)) rfl h
        refine (show tSeq (tAsg _ _) _ _ _ H5 from s_setL (j := 2) rfl ho5 rfl (ev_mod (ev_int1 (ev_add (ev_add (ev_mul (ev_pv (ev_rowL rfl ho5 at2)) ev_int (by decide)) (var2 rfl)) ev_int)) ev_int (by decide)) fun v H6 e6 hv => ?_)
        have hv : v = .int ((b * 48271 + cell + 11) % 2147483647) := hv
        subst hv
        generalize (b * 48271 + cell + 11) % 2147483647 = b'
        have g6 := (g2.gx (e4.trans e5)).trans (gr_set (a := a + 1) (b := b') (c := c) e6 ho5 hs5 (by omega) hn)
        have ho6 : upd H6 ρ.row (.lst [.ref ρ.sc, .int (a + 1), .int b', .int c]) ρ.row = some (.lst [.ref ρ.sc, .int (a + 1), .int b', .int c]) := upd_same
        have hs6 : SqL K (upd H6 ρ.row (.lst [.ref ρ.sc, .int (a + 1), .int b', .int c])) ρ.sc (ρ.xs.map V.int) := g6.gm.sl2 hn hs
        show tSeq _ _ _ _ (upd H6 ρ.row (.lst [.ref ρ.sc, .int (a + 1), .int b', .int c]))
        generalize upd H6 ρ.row (.lst [.ref ρ.sc, .int (a + 1), .int b', .int c]) = H7 at g6 ho6 hs6
        have fin : ∀ H8, Gr K ρ H H8 → tRet (tOp rModI (tCB rInt1 (tCons (tVar 2) tNil)) (tVar 1)) { nx := fun _ H' => Q .non H', rt := Q } [some (.ref ρ.row), some (.int (m : Int)), some (.int cell), none] H8 := fun H8 g8 =>
          s_ret (ev_mod (ev_int1 (var2 rfl)) (var1 rfl) mm) fun v H9 e9 hv => by rw [show v = .int _ from hv]; exact k _ H9 (g8.gx e9)
        refine q_when (b := decide ((10 : Int) ^ 18 ≤ cell)) (et_test (ev_ge (var2 rfl) (ev_I (C := CPow) (g := fun i j => V.int (i ^ j.toNat)) (i := 10) (j := 18) (P' := PD (.num ((10 : Int) ^ 18))) ev_int ev_int ⟨by decide, by decide, by decide⟩ fun _ => rfl))) (fun _ H8 e8 => ?_) fun _ H8 e8 => fin H8 (g6.gx e8)
        have ho8 := e8.kp ρ.row _ ho6 (fun _ z => by cases z)
        refine s_setL (j := 3) rfl ho8 rfl (ev_div (var2 rfl) (var1 rfl) md) fun v H9 e9 hv => ?_
        have hv : v = .int (cell / (m : Int)) := hv
        subst hv
        exact fin _ ((g6.gx e8).trans (gr_set (a := a + 1) (b := b') (c := cell / (m : Int)) e9 ho8 (e8.sl hs6) (by omega) hn))
theorem spR_len {α : Type} {pre : α → Prop} {A : α → List (V → Hp → Prop)} {R : α → V → Hp → Prop} {n : Nat} (hn : ∀ x, (A x).length = n) : ∀ vs H Q E, spR K T pre A R vs H Q E → vs.length = n + 1 := by
  rintro vs H Q E ⟨_, ρ, x, r, _, _, rfl, h, _⟩
  have : ∀ (Ps : List (V → Hp → Prop)) (r : List V), PsA Ps r H → r.length = Ps.length := by
    intro Ps
    induction Ps with
    | nil => intro r h; rw [show r = [] from h]; rfl
    | cons P Ps ih => intro r h; obtain ⟨v, r', rfl, _, h2⟩ := h; simp [ih r' h2]
  rw [List.length_cons, this _ _ h, hn]
theorem ok_taken {P : Program} {mg : Str → Option Value} {base : Heap} {f c : Addr} {k : Nat} (F : Df K "_law_taken" "_law_taken" D_law_taken.st [] f c) (hm : mg "_law_taken" = some (.ref f)) (B : Bi mg) : Fc P w K mg base CX0 (k + 1) "_law_taken" [] (sp_taken K T) :=
  F.fc hm D_law_taken.S (spR_len (n := 1) fun _ => rfl) (fun _ _ _ _ _ _ us hl => match us, hl with | [_, _], _ => rfl) fun cdv A outer s H vs Q E hc hr h => ⟨_, PSs.nox (D_law_taken.d B hr), pure_taken vs H Q E h⟩
end
end LX

set_option maxRecDepth 100000
set_option maxHeartbeats 8000000
namespace LX
open PySem PySem.Spec PyProof.Rows L2 MDict GxR GQ
section
variable {P : Program} {K : PySem.W.Frag} {mg : Str → Option Value} {base : Heap} {w : World} {ρ : Rw} {σ : L2.St} {H : Hp} {ta tb te : TE} {tt : TT} {Pr R S : V → Hp → Prop} {T : List Addr}
/-! _law_pick -/
def sp_pick (K : PySem.W.Frag) (T : List Addr) : Sp := fun vs H Q _ => TabsG T H ∧ ∃ (ρ : Rw) (l : Addr) (us : List V), RowOk K ρ H ∧ vs = [.ref ρ.row, .ref l] ∧ l ≠ ρ.row ∧ H l = some (.lst us) ∧ 1 ≤ us.length ∧ us.length ≤ 1000000 ∧ ∀ (i : Nat) (v : V) H', us[i]? = some v → Gr K ρ H H' → Q v H'
theorem pure_pick : ∀ vs H Q E, sp_pick K T vs H Q E → D_law_pick.t K w (sp_taken K T) { nx := fun _ H' => Q .non H', rt := Q } (start D_law_pick.N vs) H := by
  rintro vs H Q E ⟨hT, ρ, l, us, ok, rfl, hl, ho, h1, h2, k⟩
  refine ⟨.ref l, rfl, ?_⟩
  have hlen : Er K ρ (tCB (rLenV K) (tCons (tVar 1) tNil)) [some (.ref ρ.row), some (.ref l)] H (PD (nm us.length)) := er fun H1 g H2 e Q' q => ⟨.ref l, rfl, .ref l, us.length, rfl, .inl ⟨us, SqL.of (e.kp l _ (g.gm.lst hl ho) (fun _ z => by cases z)), rfl⟩, q _ H2 (Gx.refl _) rfl⟩
  refine er_call us.length hT rfl (era_cons hlen era_nil) ⟨h1, h2⟩ H ok.refl _ fun v H1 g hv => ?_
  obtain ⟨r, hr, rfl⟩ := hv
  have hg : us[r]? = some us[r] := List.getElem?_eq_getElem hr
  exact ⟨l, us, (r : Int), us[r], rfl, rfl, SqL.of (g.gm.lst hl ho), atI_nat hg, k r _ H1 hg g⟩
theorem ok_pick {f c : Addr} {k : Nat} (F : Df K "_law_pick" "_law_pick" D_law_pick.st [] f c) (hm : mg "_law_pick" = some (.ref f)) (B : Bi mg) (F1 : Fc P w K mg base CX0 k "_law_taken" [] (sp_taken K T)) : Fc P w K mg base CX0 (k + 1) "_law_pick" [] (sp_pick K T) :=
  F.fc hm D_law_pick.S (fun vs H Q E h => by
    obtain ⟨_, ρ, l, us, _, rfl, _⟩ := h
    rfl) (fun _ _ _ _ _ _ us hl => match us, hl with | [_, _], _ => rfl) fun cdv A outer s H vs Q E hc hr h => ⟨_, PSs.nox (D_law_pick.d B hr F1), pure_pick vs H Q E h⟩
theorem er_pick {ds : List D} {i : Nat} {E : XK} (hT : TabsG T H) (hi : σ[i]? = some (some (.ref ρ.row))) (h : Er K ρ tb σ H (PLr ρ.row ds)) (h1 : 1 ≤ ds.length) (h2 : ds.length ≤ 1000000) : Er K ρ (tCall (sp_pick K T) [] E (tCons (tVar i) (tCons tb tNil))) σ H (fun v H' => ∃ d ∈ ds, KeyH H' d v) := fun H1 g Q q =>
  ⟨.ref ρ.row, hi, h H1 g _ fun v H2 g2 hv => by
    obtain ⟨l, vs, rfl, hl, ho, hk⟩ := hv
    have hn := ka_len hk
    refine ⟨(g.trans g2).tabs hT, ρ, l, vs, g2.ok, by rw [List.append_nil], hl, ho, by omega, by omega, fun j u H3 hj g3 => ?_⟩
    obtain ⟨d, e1, e2⟩ := ka_get' hk hj
    exact q u H3 (g2.trans g3) ⟨d, List.mem_of_getElem? e1, g3.d e2⟩⟩
/-! ### comprehensions that draw -/
theorem gr_fresh {Dl : Addr} {H2 H' : Hp} {o : HO} (ok : RowOk K ρ H2) (hD : H2 Dl = none) (g : Gr K ρ H2 H') : Gr K ρ H2 (upd H' Dl o) := by
  obtain ⟨a, b, c, e1, e2, e3, e4⟩ := id g.ok
  have n1 : ρ.row ≠ Dl := fun z => by
    obtain ⟨a', b', c', f1, _⟩ := ok
    rw [z, hD] at f1; cases f1
  refine ⟨⟨a, b, c, by rw [upd_ne n1]; exact e1, ?_, e3, e4⟩, g.gm.mut hD⟩
  rcases e4 with e4 | e4
  · obtain ⟨_, _, _, f1, f2, _⟩ := ok
    rcases f2 with (f2 | ⟨o', f2⟩) | f2
    · have n2 : ρ.sc ≠ Dl := fun z => by rw [z, hD] at f2; cases f2
      exact .inl (.inl (by rw [upd_ne n2]; exact g.gm.kp _ _ e4 f2 (fun _ z => by cases z)))
    · have n2 : ρ.sc ≠ Dl := fun z => by rw [z, hD] at f2; cases f2
      exact .inl (.inr ⟨o', by rw [upd_ne n2]; exact g.gm.kp _ _ e4 f2 (fun _ z => by cases z)⟩)
    · exact .inr f2
  · exact sl_none e4
theorem er_lcR {pr : Nat → Prop} {J : Nat → Nat → List D → Prop} {j : Nat} (hn : ∀ r, pr r → r ≤ 1000) (h : Er K ρ ta σ H (fun v _ => ∃ r : Nat, pr r ∧ v = .int (r : Int))) (h0 : ∀ r, pr r → J r 0 []) (hw : ∀ x, wipe ((wipe σ [j]).set j (some x)) [j] = wipe σ [j])
    (hs : ∀ (r i : Nat) (ds : List D) H1, pr r → i < r → J r i ds → Gr K ρ H H1 → ∀ Q : Bool → Hp → Prop, (∀ b H2, Gr K ρ H1 H2 → (b = false → J r (i + 1) ds) → (b = true → ∀ Q2 : VK, (∀ v H3 d, Gr K ρ H2 H3 → KeyH H3 d v → J r (i + 1) (ds ++ [d]) → Q2 v H3) → te ((wipe σ [j]).set j (some (.int (i : Int)))) H2 Q2) → Q b H2) → tt ((wipe σ [j]).set j (some (.int (i : Int)))) H1 Q) :
    ∀ H1, Gr K ρ H H1 → ∀ Q : VK, (∀ p us H2 r ds, Gr K ρ H1 H2 → pr r → J r r ds → p ≠ ρ.row → H2 p = some (.lst us) → KeyAll H2 ds us → Q (.ref p) H2) → tLc (iRng1 (tCons ta tNil)) (gName j) tt te [j] σ H1 Q := fun H1 g Q q => h H1 g _ fun x H2 g2 hx => by
  obtain ⟨r, hr, rfl⟩ := hx
  have hn := hn r hr
  refine ⟨(r : Int), rfl, by omega, by omega, fun Dl hD => ?_⟩
  rw [show ((r : Int)).toNat = r from Int.toNat_natCast r]
  have nD : Dl ≠ ρ.row := fun z => by
    obtain ⟨a', b', c', f1, _⟩ := g2.ok
    rw [← z, hD] at f1; cases f1
  refine lc_range (lo := 0) (n := r) (fun i H' => Gr K ρ H2 H' ∧ i ≤ r ∧ ∃ ds acc, J r i ds ∧ ds.length ≤ i ∧ H' Dl = some (.lst acc) ∧ KeyAll H' ds acc) ⟨gr_fresh g2.ok hD g2.ok.refl, Nat.zero_le _, [], [], h0 r hr, Nat.le_refl _, upd_same, rfl⟩ (fun i H' hi p => ?_) fun H' p => ?_
  · rw [Int.zero_add]
    obtain ⟨p1, p2, ds, acc, p3, p4, p5, p6⟩ := p
    refine ⟨hw _, ?_⟩
    refine hs r i ds H' hr hi p3 ((g.trans g2).trans p1) _ fun b H3 g3 hf ht => ?_
    cases b with
    | false => exact ⟨p1.trans g3, by omega, ds, acc, hf rfl, by omega, g3.gm.lst nD p5, g3.gm.tk.all p6⟩
    | true =>
      refine ht rfl _ fun v H4 d g4 hd hJ => ?_
      have g5 := (p1.trans g3).trans g4
      have h5 := g4.gm.lst nD (g3.gm.lst nD p5)
      have hl := ka_len p6
      refine ⟨acc, h5, by rw [sizeLine_eq]; omega, gr_fresh g2.ok hD g5, by omega, ds ++ [d], acc ++ [v], hJ, by simp; omega, upd_same, ?_⟩
      have tk : Tk H4 (upd H4 Dl (.lst (acc ++ [v]))) := Tk.lst h5
      exact ka_app (tk.all ((g3.trans g4).gm.tk.all p6)) (ka_one (tk.d hd))
  · obtain ⟨p1, p2, ds, acc, p3, p4, p5, p6⟩ := p
    exact q Dl acc H' r ds (g2.trans p1) hr p3 nD p5 p6

/-! _law_machine -/
def RMach (v : V) (H : Hp) : Prop := ∃ n fs, MOk n fs ∧ KeyH H (mD n fs) v
def sp_machine (K : PySem.W.Frag) (T : List Addr) : Sp := spR (α := Unit) K T (fun _ => True) (fun _ => []) fun _ => RMach
theorem er_taken {i m : Nat} {E : XK} (hT : TabsG T H) (hi : σ[i]? = some (some (.ref ρ.row))) (hm : 1 ≤ m ∧ m ≤ 1000000) (h : Er K ρ tb σ H (PD (nm m))) : Er K ρ (tCall (sp_taken K T) [] E (tCons (tVar i) (tCons tb tNil))) σ H (fun v _ => ∃ r : Nat, r < m ∧ v = .int (r : Int)) := er_call m hT hi (era_cons h era_nil) hm
theorem er_int {i : Int} : Er K ρ (tC (.int i)) σ H (PD (.num i)) := er fun _ _ => ev_int
theorem er_add1 {m : Nat} (h : Er K ρ te σ H (fun v _ => ∃ r : Nat, r < m ∧ v = .int (r : Int))) : Er K ρ (tOp rAddI (tC (.int 1)) te) σ H (fun v _ => ∃ r : Nat, 1 ≤ r ∧ r ≤ m ∧ v = .int (r : Int)) :=
  er_op2 (er_int (i := 1)) h fun x y H1 g hx hy Q q => by
    obtain ⟨r, hr, rfl⟩ := hy
    have hx : x = .int 1 := hx
    subst hx
    exact ⟨1, (r : Int), rfl, rfl, q _ H1 (Gx.refl _) ⟨r + 1, by omega, by omega, by show V.int _ = V.int _; congr 1; omega⟩⟩
instance {p : Nat → Prop} : MonoR K ρ (fun v _ => ∃ r : Nat, p r ∧ v = .int (r : Int)) := ⟨fun _ _ h => h⟩
theorem er_tup {ta : TA} {ds : List D} (h : ErA K ρ ta σ H (ds.map fun d => PD d)) (hz : ds.length ≤ 100000) : Er K ρ (tTup ta) σ H (PD (.tup ds)) := fun H1 g Q q =>
  h H1 g _ fun vs H2 g2 hv => by
    have hv := psa_all hv
    refine ⟨by rw [ka_len hv, sizeLine_eq]; omega, fun p hp => ?_⟩
    have e := Gx.new (o := .tup vs) hp
    exact q _ _ (g2.gx e) ⟨p, vs, rfl, upd_same, mono_all e hv⟩

/-- tuple([.. for j in range(..)]) -/
theorem er_tupR {pr : Nat → Prop} {J : Nat → Nat → List D → Prop} {j : Nat} (hn : ∀ r, pr r → r ≤ 1000) (h : Er K ρ ta σ H (fun v _ => ∃ r : Nat, pr r ∧ v = .int (r : Int))) (h0 : ∀ r, pr r → J r 0 []) (hw : ∀ x, wipe ((wipe σ [j]).set j (some x)) [j] = wipe σ [j])
    (hs : ∀ (r i : Nat) (ds : List D) H1, pr r → i < r → J r i ds → Gr K ρ H H1 → ∀ Q : Bool → Hp → Prop, (∀ b H2, Gr K ρ H1 H2 → (b = false → J r (i + 1) ds) → (b = true → ∀ Q2 : VK, (∀ v H3 d, Gr K ρ H2 H3 → KeyH H3 d v → J r (i + 1) (ds ++ [d]) → Q2 v H3) → te ((wipe σ [j]).set j (some (.int (i : Int)))) H2 Q2) → Q b H2) → tt ((wipe σ [j]).set j (some (.int (i : Int)))) H1 Q) :
    Er K ρ (tThen (tLc (iRng1 (tCons ta tNil)) (gName j) tt te [j]) (kTup K)) σ H fun v H' => ∃ r ds, pr r ∧ J r r ds ∧ KeyH H' (.tup ds) v := fun H1 g Q q =>
  er_lcR hn h h0 hw hs H1 g _ fun p us H2 r ds g2 hr hJ hp ho hk => .inl ⟨p, us, rfl, SqL.of ho, fun x hx => by
    have e := Gx.new (o := .tup us) hx
    exact q _ _ (g2.gx e) ⟨r, ds, hr, hJ, x, us, rfl, upd_same, mono_all e hk⟩⟩
theorem pure_machine : ∀ vs H Q E, sp_machine K T vs H Q E → D_law_machine.t K w (sp_taken K T) { nx := fun _ H' => Q .non H', rt := Q } (start D_law_machine.N vs) H := by
  rintro vs H Q E ⟨hT, ρ, _, r, ok, _, rfl, hr, k⟩
  have hr : r = [] := hr
  subst hr
  have a1 : ErA K ρ (tCons (tOp rAddI (tC (.int 1)) (tCall (sp_taken K T) [] E0 (tCons (tVar 0) (tCons (tC (.int 3)) tNil)))) (tCons (tOp rAddI (tC (.int 1)) (tCall (sp_taken K T) [] E0 (tCons (tVar 0) (tCons (tC (.int 2)) tNil)))) tNil)) [some (.ref ρ.row), none, none, none] H [fun v _ => ∃ r : Nat, (1 ≤ r ∧ r ≤ 3) ∧ v = .int (r : Int), fun v _ => ∃ r : Nat, (1 ≤ r ∧ r ≤ 2) ∧ v = .int (r : Int)] :=
    era_cons ((er_add1 (m := 3) (er_taken hT rfl (by omega) (er_int (i := 3)))).imp fun v H' _ ⟨r, a, b, c⟩ => ⟨r, ⟨a, b⟩, c⟩) (era_cons ((er_add1 (m := 2) (er_taken hT rfl (by omega) (er_int (i := 2)))).imp fun v H' _ ⟨r, a, b, c⟩ => ⟨r, ⟨a, b⟩, c⟩) era_nil)
  unfold D_law_machine.t tSeq tPar
  refine a1 H ok.refl _ fun vs H1 g1 hvs => ?_
  obtain ⟨v1, _, rfl, ⟨n, ⟨n1, n3⟩, rfl⟩, v2, _, rfl, ⟨m, ⟨m1, m2⟩, rfl⟩, rfl⟩ := hvs
  refine ⟨.int (n : Int), .int (m : Int), rfl, ?_⟩
  have hc : Er K ρ (tThen (tLc (iRng1 (tCons (tVar 2) tNil)) (gName 3) tYes (tOp rAddI (tC (.int 1)) (tCall (sp_taken K T) [] E0 (tCons (tVar 0) (tCons (tC (.int 2)) tNil)))) [3]) (kTup K)) [some (.ref ρ.row), some (.int (n : Int)), some (.int (m : Int)), none] H1 fun v H' => ∃ r ds, r = m ∧ (ds.length = r ∧ ∀ d ∈ ds, d = nm 1 ∨ d = nm 2) ∧ KeyH H' (.tup ds) v :=
    er_tupR (pr := fun r => r = m) (J := fun r i ds => ds.length = i ∧ ∀ d ∈ ds, d = nm 1 ∨ d = nm 2) (fun r hr => by omega) ((er fun H2 g2 => ev_var (P := PV (.int (m : Int))) rfl rfl).imp fun v H' _ hv => ⟨m, rfl, hv⟩) (fun r hr => ⟨rfl, fun d hd => by cases hd⟩) (fun x => rfl) fun r i ds H2 hr hi ⟨j1, j2⟩ g2 Q' q => by
      refine q true H2 g2.ok.refl (fun z => Bool.noConfusion z) fun _ Q2 q2 => ?_
      refine ((er_add1 (m := 2) (er_taken ((g1.trans g2).tabs hT) rfl (by omega) (er_int (i := 2))))) H2 g2.ok.refl _ fun v H3 g3 ⟨f, f1, f2, hv⟩ => ?_
      refine q2 v H3 (nm f) g3 hv ⟨by simp [j1], fun d hd => ?_⟩
      rcases List.mem_append.mp hd with h | h
      · exact j2 d h
      · rw [List.mem_singleton.mp h]
        have : f = 1 ∨ f = 2 := by omega
        rcases this with rfl | rfl
        · exact .inl rfl
        · exact .inr rfl
  unfold tRet tTup
  refine ⟨.int (n : Int), rfl, hc H1 g1.ok.refl _ fun v H2 g2 ⟨r, ds, hr, ⟨hl, hds⟩, hv⟩ => ?_⟩
  refine ⟨by rw [sizeLine_eq]; show 2 ≤ _; decide, fun p hp => ?_⟩
  have e := Gx.new (o := .tup [V.int (n : Int), v]) hp
  obtain ⟨fs, rfl, hfs⟩ : ∃ fs : List Nat, ds = fs.map nm ∧ ∀ f ∈ fs, f = 1 ∨ f = 2 := by
    clear hv hl
    induction ds with
    | nil => exact ⟨[], rfl, fun _ h => by cases h⟩
    | cons d ds ih =>
      obtain ⟨fs, rfl, h⟩ := ih fun d hd => hds d (List.mem_cons_of_mem _ hd)
      rcases hds d List.mem_cons_self with rfl | rfl
      · exact ⟨1 :: fs, rfl, fun f hf => (List.mem_cons.mp hf).elim (fun e => .inl e) (h f)⟩
      · exact ⟨2 :: fs, rfl, fun f hf => (List.mem_cons.mp hf).elim (fun e => .inr e) (h f)⟩
  rw [List.length_map] at hl
  exact k _ _ ((g1.trans g2).gx e) ⟨n, fs, ⟨n1, n3, by omega, by omega, hfs⟩, p, _, rfl, upd_same, .int (n : Int), _, rfl, rfl, v, [], rfl, mono_d e hv, rfl⟩
theorem ok_machine {f c : Addr} {k : Nat} (F : Df K "_law_machine" "_law_machine" D_law_machine.st [] f c) (hm : mg "_law_machine" = some (.ref f)) (B : Bi mg) (F1 : Fc P w K mg base CX0 k "_law_taken" [] (sp_taken K T)) : Fc P w K mg base CX0 (k + 1) "_law_machine" [] (sp_machine K T) :=
  F.fc hm D_law_machine.S (spR_len (n := 0) fun _ => rfl) (fun _ _ _ _ _ _ us hl => match us, hl with | [_], _ => rfl) fun cdv A outer s H vs Q E hc hr h => ⟨_, PSs.nox (D_law_machine.d B hr F1), pure_machine vs H Q E h⟩
end
end LX

set_option maxRecDepth 100000
set_option maxHeartbeats 8000000
namespace LX
open PySem PySem.Spec PyProof.Rows L2 MDict GxR GQ
/-! ### lines of a machine -/
theorem mem_allLines {n : Nat} {fs : List Nat} (m : ∀ r ∈ fs, r = 1 ∨ r = 2) {l : Ln} : l ∈ allLines n fs ↔ l.c < n ∧ (∀ x ∈ l.s, x < n) ∧ ((∃ f, l.f = some f ∧ fs[f]? = some l.s.length) ∨ (l.f = none ∧ ∃ s, l.s = [s] ∧ s ≠ l.c)) := by
  obtain ⟨c, f, s⟩ := l
  unfold allLines linesOf
  rw [List.mem_flatMap]
  constructor
  · rintro ⟨c', hc, h⟩
    have hc := List.mem_range.mp hc
    rcases List.mem_append.mp h with h | h
    · obtain ⟨⟨r, j⟩, hr, h⟩ := List.mem_flatMap.mp h
      obtain ⟨s', hs, e⟩ := List.mem_map.mp h
      cases e
      have hr' := List.mem_zipIdx_iff_getElem?.mp hr
      unfold rowsL at hs
      have hrm := m r (List.mem_of_getElem? hr')
      split at hs
      · rename_i hr1
        obtain ⟨a, ha, rfl⟩ := List.mem_map.mp hs
        refine ⟨hc, fun x hx => by rw [List.mem_singleton.mp hx]; exact List.mem_range.mp ha, .inl ⟨j, rfl, ?_⟩⟩
        rw [hr']
        simpa using hr1
      · rename_i hr1
        obtain ⟨a, ha, hs⟩ := List.mem_flatMap.mp hs
        obtain ⟨b, hb, rfl⟩ := List.mem_map.mp hs
        refine ⟨hc, fun x hx => ?_, .inl ⟨j, rfl, ?_⟩⟩
        · rcases List.mem_cons.mp hx with rfl | hx
          · exact List.mem_range.mp ha
          · rw [List.mem_singleton.mp hx]; exact List.mem_range.mp hb
        · rw [hr']
          have : r = 2 := by omega
          simpa using this
    · obtain ⟨s', hs, e⟩ := List.mem_map.mp h
      cases e
      obtain ⟨h1, h2⟩ := List.mem_filter.mp hs
      exact ⟨hc, fun x hx => by rw [List.mem_singleton.mp hx]; exact List.mem_range.mp h1, .inr ⟨rfl, s', rfl, by simpa using h2⟩⟩
  · rintro ⟨hc, hs, h⟩
    refine ⟨c, List.mem_range.mpr hc, ?_⟩
    rcases h with ⟨j, hf, hg⟩ | ⟨hf, s', hs', hne⟩
    · refine List.mem_append_left _ (List.mem_flatMap.mpr ⟨(s.length, j), List.mem_zipIdx_iff_getElem?.mpr hg, List.mem_map.mpr ⟨s, ?_, ?_⟩⟩)
      · unfold rowsL
        have hs' : ∀ x ∈ s, x < n := hs
        rcases m _ (List.mem_of_getElem? hg) with e | e
        · have e : s.length = 1 := e
          rw [if_pos e]
          obtain ⟨a, rfl⟩ := List.length_eq_one_iff.mp e
          exact List.mem_map.mpr ⟨a, List.mem_range.mpr (hs' a (by simp)), rfl⟩
        · have e : s.length = 2 := e
          rw [if_neg (by omega)]
          match s, e, hs' with
          | [a, b], _, hs' => exact List.mem_flatMap.mpr ⟨a, List.mem_range.mpr (hs' a (by simp)), List.mem_map.mpr ⟨b, List.mem_range.mpr (hs' b (by simp)), rfl⟩⟩
      · have hf : f = some j := hf
        rw [hf]
    · have hf : f = none := hf
      have hs' : s = [s'] := hs'
      subst hf
      subst hs'
      exact List.mem_append_right _ (List.mem_map.mpr ⟨s', List.mem_filter.mpr ⟨List.mem_range.mpr (hs s' (by simp)), by simpa using hne⟩, rfl⟩)
theorem all_ne {n : Nat} {fs : List Nat} (m : MOk n fs) : 1 ≤ (allLines n fs).length := by
  have f1 := m.f1
  have n1 := m.n1
  obtain ⟨r, hr⟩ : ∃ r, fs[0]? = some r := ⟨fs[0], List.getElem?_eq_getElem (by omega)⟩
  have : (⟨0, some 0, List.replicate r 0⟩ : Ln) ∈ allLines n fs := (mem_allLines m.r).mpr ⟨by show 0 < n; omega, fun x hx => by have := List.eq_of_mem_replicate hx; omega, .inl ⟨0, rfl, by rw [hr, List.length_replicate]⟩⟩
  exact List.length_pos_of_mem this
section
variable {P : Program} {K : PySem.W.Frag} {mg : Str → Option Value} {base : Heap} {w : World} {ρ : Rw} {σ : L2.St} {H : Hp} {ta tb te : TE} {tt : TT} {Pr R S : V → Hp → Prop} {T : List Addr}
/-! _law_program -/
structure PrA where
  n : Nat
  fs : List Nat
  m : Nat
def RProg (x : PrA) (v : V) (H : Hp) : Prop := ∃ ls : List Ln, ls.length ≤ x.m ∧ (∀ l ∈ ls, l ∈ allLines x.n x.fs) ∧ KeyH H (progD ls) v
def sp_program (K : PySem.W.Frag) (T : List Addr) : Sp := spR (α := PrA) K T (fun x => MOk x.n x.fs ∧ x.m ≤ 100) (fun x => [PD (mD x.n x.fs), PD (nm x.m)]) RProg
theorem er_every {i : Nat} {v : V} {n : Nat} {fs : List Nat} {E : XK} (hT : TabsG T H) (m : MOk n fs) (hv : KeyH H (mD n fs) v) (hi : σ[i]? = some (some v)) : Er K ρ (tCall (sp_all_lines T) [] E (tCons (tVar i) tNil)) σ H (PLr ρ.row ((allLines n fs).map Ln.d)) :=
  (er (P := PL ((allLines n fs).map Ln.d)) fun H1 g => ev_call (n, fs) (g.tabs hT) (ea_cons (ev_var (P := PD (mD n fs)) (g.d hv) hi) ea_nil) m).imp fun v H' ok h => plr_of ok (.inr fun d hd => by
    obtain ⟨l, _, rfl⟩ := List.mem_map.mp hd
    exact ⟨_, rfl⟩) h
theorem pure_program : ∀ vs H Q E, sp_program K T vs H Q E → D_law_program.t K w (sp_all_lines T) (sp_taken K T) (sp_pick K T) { nx := fun _ H' => Q .non H', rt := Q } (start D_law_program.N vs) H := by
  rintro vs H Q E ⟨hT, ρ, ⟨n, fs, m⟩, r, ok, ⟨mo, hm⟩, rfl, ⟨v1, _, rfl, h1, v2, _, rfl, h2, rfl⟩, k⟩
  replace mo : MOk n fs := mo
  replace hm : m ≤ 100 := hm
  replace h1 : KeyH H (mD n fs) v1 := h1
  have h2 : v2 = .int (m : Int) := h2
  subst h2
  unfold D_law_program.t tSeq tAsg
  refine er_every hT mo h1 rfl H ok.refl _ fun lv H1 g1 hlv => ?_
  unfold tRet
  have hlen : ((allLines n fs).map Ln.d).length ≤ 1000000 := by rw [List.length_map]; have := lines_len mo; omega
  have hne : 1 ≤ ((allLines n fs).map Ln.d).length := by rw [List.length_map]; exact all_ne mo
  have hrng : Er K ρ (tCall (sp_taken K T) [] E0 (tCons (tVar 0) (tCons (tOp rAddI (tVar 2) (tC (.int 1))) tNil))) [some (.ref ρ.row), some v1, some (.int (m : Int)), some lv, none] H1 (fun v _ => ∃ r : Nat, r ≤ m ∧ v = .int (r : Int)) := (er_taken (m := m + 1) (g1.tabs hT) rfl (by omega) (er fun H2 g2 => ev_isD (ev_add (ev_var (P := PD (nm m)) rfl rfl) (ev_int (i := 1))) (by show NestedKey.num _ = NestedKey.num _; congr 1))).imp fun v H' _ ⟨r, a, b⟩ => ⟨r, by omega, b⟩
  have hcmp := er_tupR (K := K) (te := tCall (sp_pick K T) [] E0 (tCons (tVar 0) (tCons (tVar 3) tNil))) (tt := tYes) (j := 4) (pr := fun r => r ≤ m) (J := fun r i ds => ds.length = i ∧ ∀ d ∈ ds, d ∈ (allLines n fs).map Ln.d) (fun r hr => by omega) hrng (fun r hr => ⟨rfl, fun d hd => by cases hd⟩) (fun x => rfl) (fun r i ds H2 hr hi ⟨j1, j2⟩ g2 Q' q => by
    refine q true H2 g2.ok.refl (fun z => Bool.noConfusion z) fun _ Q2 q2 => ?_
    refine er_pick ((g1.trans g2).tabs hT) rfl (er_var g2.ok (MonoR.mr g1.ok g2 hlv) rfl) hne hlen H2 g2.ok.refl _ fun v H3 g3 ⟨d, hd, hv⟩ => ?_
    refine q2 v H3 d g3 hv ⟨by simp [j1], fun d' hd' => ?_⟩
    rcases List.mem_append.mp hd' with h | h
    · exact j2 d' h
    · rw [List.mem_singleton.mp h]; exact hd)
  refine hcmp H1 g1.ok.refl _ fun v H2 g2 ⟨r, ds, hr, ⟨j1, j2⟩, hv⟩ => ?_
  obtain ⟨ls, rfl, hls⟩ : ∃ ls : List Ln, ds = ls.map Ln.d ∧ ∀ l ∈ ls, l ∈ allLines n fs := by
    clear hv j1
    induction ds with
    | nil => exact ⟨[], rfl, fun _ h => by cases h⟩
    | cons d ds ih =>
      obtain ⟨ls, rfl, h⟩ := ih fun d hd => j2 d (List.mem_cons_of_mem _ hd)
      obtain ⟨l, hl, rfl⟩ := List.mem_map.mp (j2 d List.mem_cons_self)
      exact ⟨l :: ls, rfl, fun f hf => (List.mem_cons.mp hf).elim (fun e => e ▸ hl) (h f)⟩
  rw [List.length_map] at j1
  exact k v H2 (g1.trans g2) ⟨ls, by show ls.length ≤ m; omega, hls, hv⟩
theorem ok_program {f c : Addr} {k : Nat} (F : Df K "_law_program" "_law_program" D_law_program.st [] f c) (hm : mg "_law_program" = some (.ref f)) (B : Bi mg) (F1 : Fc P w K mg base CX0 k "_law_every_line" [] (sp_all_lines T)) (F2 : Fc P w K mg base CX0 k "_law_taken" [] (sp_taken K T)) (F3 : Fc P w K mg base CX0 k "_law_pick" [] (sp_pick K T)) : Fc P w K mg base CX0 (k + 1) "_law_program" [] (sp_program K T) :=
  F.fc hm D_law_program.S (spR_len (n := 2) fun _ => rfl) (fun _ _ _ _ _ _ us hl => match us, hl with | [_, _, _], _ => rfl) fun cdv A outer s H vs Q E hc hr h => ⟨_, PSs.nox (D_law_program.d B hr F1 F2 F3), pure_program vs H Q E h⟩
end
end LX

set_option maxRecDepth 100000
set_option maxHeartbeats 8000000
namespace LX
open PySem PySem.Spec PyProof.Rows L2 MDict GxR GQ
theorem runL_snoc : ∀ (ls : List Ln) (held : List D) (l : Ln), runL held (ls ++ [l]) = (runL held ls).bind fun h => if maxD (did h l) + 1 > 8 then none else some (did h l)
  | [], held, l => by
    show (if maxD (did held l) + 1 > 8 then none else runL (did held l) []) = _
    rfl
  | m :: ls, held, l => by
    show (if maxD (did held m) + 1 > 8 then none else runL (did held m) (ls ++ [l])) = ((if maxD (did held m) + 1 > 8 then none else runL (did held m) ls)).bind _
    by_cases h : maxD (did held m) + 1 > 8
    · rw [if_pos h, if_pos h]; rfl
    · rw [if_neg h, if_neg h, runL_snoc ls _ l]
theorem tame_inv (n : Nat) (A : List Ln) : ∀ (prog : List Ln) (st : List D × List Ln), (∀ l ∈ prog, l ∈ A) → st.1 = st.2.foldl did (rgD n) → runL (rgD n) st.2 = some st.1 → maxD st.1 ≤ 4 → (∀ l ∈ st.2, l ∈ A) →
    let s := prog.foldl tameStep st
    s.1 = s.2.foldl did (rgD n) ∧ runL (rgD n) s.2 = some s.1 ∧ maxD s.1 ≤ 4 ∧ (∀ l ∈ s.2, l ∈ A) ∧ s.2.length ≤ st.2.length + prog.length
  | [], st, _, a, b, c, d => ⟨a, b, c, d, by simp⟩
  | l :: prog, st, hp, a, b, c, d => by
    have hp' : ∀ m ∈ prog, m ∈ A := fun m hm => hp m (List.mem_cons_of_mem _ hm)
    rw [List.foldl_cons]
    by_cases h : maxD (did st.1 l) + 1 < 6
    · have e : tameStep st l = (did st.1 l, st.2 ++ [l]) := if_pos h
      rw [e]
      have := tame_inv n A prog (did st.1 l, st.2 ++ [l]) hp' (by show did st.1 l = _; rw [List.foldl_append, ← a]; rfl) (by
        show runL (rgD n) (st.2 ++ [l]) = some (did st.1 l)
        rw [runL_snoc, b]
        show (if maxD (did st.1 l) + 1 > 8 then none else some (did st.1 l)) = _
        rw [if_neg (by omega)]) (by show maxD (did st.1 l) ≤ 4; omega) (fun m hm => (List.mem_append.mp hm).elim (d m) fun z => by rw [List.mem_singleton.mp z]; exact hp l List.mem_cons_self)
      refine ⟨this.1, this.2.1, this.2.2.1, this.2.2.2.1, ?_⟩
      have h5 := this.2.2.2.2
      simp only [List.length_append, List.length_cons, List.length_nil] at h5 ⊢
      omega
    · have e : tameStep st l = st := if_neg h
      rw [e]
      have := tame_inv n A prog st hp' a b c d
      refine ⟨this.1, this.2.1, this.2.2.1, this.2.2.2.1, ?_⟩
      have h5 := this.2.2.2.2
      simp only [List.length_cons] at h5 ⊢
      omega
def f0 (fs : List Nat) : D := .tup (nm 0 :: List.replicate (fs.headD 1) (nm 0))
/-- where the terms of wishes come from -/
def Src (n : Nat) (fs : List Nat) (held : List D) : Prop := (∃ ls : List Ln, (∀ l ∈ ls, l ∈ allLines n fs) ∧ ls.length ≤ 5 ∧ held = ls.foldl did (rgD n) ∧ maxD held ≤ 4) ∨ (held.length = n ∧ ∀ d ∈ held, d = nm 0 ∨ d = f0 fs)
structure WGood (n : Nat) (fs : List Nat) (ws : List Wish) : Prop where
  ne : ws ≠ []
  lt : ∀ y ∈ ws, y.1 < n
  up : ws.Pairwise fun x y => x.1 < y.1
  src : ∃ held, Src n fs held ∧ ∀ y ∈ ws, held[y.1]? = some y.2
theorem didF_len : ∀ (ls : List Ln) (held : List D), (ls.foldl did held).length = held.length
  | [], _ => rfl
  | l :: ls, held => by rw [List.foldl_cons, didF_len ls]; unfold did; rw [List.length_set]
theorem src_len {n : Nat} {fs : List Nat} {held : List D} (h : Src n fs held) : held.length = n := by
  rcases h with ⟨ls, _, _, rfl, _⟩ | ⟨h, _⟩
  · rw [didF_len, rgD_length]
  · exact h
section
variable {P : Program} {K : PySem.W.Frag} {mg : Str → Option Value} {base : Heap} {w : World} {ρ : Rw} {σ : L2.St} {H : Hp} {ta tb te : TE} {tt : TT} {Pr R S : V → Hp → Prop} {T : List Addr}
theorem er_pos {i : Nat} {E : XK} (hT : TabsG T H) (hi : σ[i]? = some (some (.ref ρ.row))) : ∀ H1, Gr K ρ H H1 → ∀ Q : Bool → Hp → Prop, (∀ b H2, Gr K ρ H1 H2 → Q b H2) → tTest (tOp rGt (tCall (sp_taken K T) [] E (tCons (tVar i) (tCons (tC (.int 3)) tNil))) (tC (.int 0))) σ H1 Q := fun H1 g Q q =>
  er_taken (m := 3) hT hi (by omega) er_int H1 g _ fun v H2 g2 ⟨r, hr, hv⟩ => by
    subst hv
    exact ⟨(r : Int), 0, rfl, rfl, _, rfl, q _ H2 g2⟩
theorem ev_rep {r : Nat} (hr : r = 1 ∨ r = 2) (h : Ev te σ H (PD (nm r))) : Ev (tOp (rRepAny K) (tTup (tCons (tC (.int 0)) tNil)) te) σ H (PD (.tup (List.replicate r (nm 0)))) :=
  ev_op2 (ev_tup (ds := [nm 0]) (ea_cons ev_int ea_nil) (by simp)) h fun x y H1 _ hx hy Q q => by
    have hy : y = .int (r : Int) := hy
    subst hy
    obtain ⟨a, vs, rfl, h1, h2⟩ := hx
    obtain ⟨v, r', e, hv, hr'⟩ := h2
    have hv : v = .int 0 := hv
    have hr' : r' = [] := hr'
    subst hv; subst hr'; subst e
    rcases hr with rfl | rfl
    · exact .inl ⟨a, _, rfl, rfl, SqT.of h1, q _ H1 (Gx.refl _) ⟨a, _, rfl, h1, _, _, rfl, rfl, rfl⟩⟩
    · refine .inr ⟨a, 2, [.int 0], rfl, rfl, SqT.of h1, by simp, by decide, by decide, by simp, fun p hp => q _ _ (Gx.new hp) ⟨p, _, rfl, upd_same, .int 0, [.int 0], rfl, rfl, .int 0, [], rfl, rfl, rfl⟩⟩
/-! _law_wishes -/
def sp_wishes (K : PySem.W.Frag) (T : List Addr) : Sp := spR (α := Nat × List Nat) K T (fun x => MOk x.1 x.2) (fun x => [PD (mD x.1 x.2)]) fun x v H => ∃ ws, WGood x.1 x.2 ws ∧ KeyH H (wsD ws) v
theorem pure_wishes : ∀ vs H Q E, sp_wishes K T vs H Q E → D_law_wishes.t K w (sp_taken K T) (sp_law_tame T) (sp_program K T) (sp_law_ran T) (sp_pick K T) { nx := fun _ H' => Q .non H', rt := Q } (start D_law_wishes.N vs) H := by
  rintro vs H Q E ⟨hT, ρ, ⟨n, fs⟩, r, ok, mo, rfl, ⟨v1, _, rfl, h1, rfl⟩, k⟩
  replace mo : MOk n fs := mo
  replace h1 : KeyH H (mD n fs) v1 := h1
  have n1 := mo.n1; have n3 := mo.n3; have ff1 := mo.f1
  obtain ⟨r0, hr0⟩ : ∃ r, fs[0]? = some r := ⟨fs[0], List.getElem?_eq_getElem (by omega)⟩
  have hr12 := mo.r r0 (List.mem_of_getElem? hr0)
  have hf0 : f0 fs = .tup (nm 0 :: List.replicate r0 (nm 0)) := by
    unfold f0
    rw [List.headD_eq_head?_getD, List.head?_eq_getElem?, hr0]
    rfl
  -- behind the if
  have cont : ∀ held hv x3 H1, Src n fs held → Gr K ρ H H1 → KeyH H1 (.tup held) hv → ∀ (Dn : Ends), Dn.rt = Q → (tSeq (tAsg (tLc (iRng1 (tCons (tOp (rIxT K) (tVar 1) (tC (.int 0))) tNil)) (gName 5) (tTest (tOp rGt (tCall (sp_taken K T) [] E0 (tCons (tVar 0) (tCons (tC (.int 3)) tNil))) (tC (.int 0)))) (tTup (tCons (tVar 5) (tCons (tOp (rIxT K) (tVar 4) (tVar 5)) tNil))) [5]) (gName 2))
      (tRet (tIf (tTest (tOp (rNeD K) (tVar 2) (tLst tNil))) (tThen (tVar 2) (kTup K)) (tTup (tCons (tTup (tCons (tC (.int 0)) (tCons (tOp (rIxT K) (tVar 4) (tC (.int 0))) tNil))) tNil))))) Dn [some (.ref ρ.row), some v1, none, x3, some hv, none] H1 := fun held hv x3 H1 hsrc g1 hh Dn hDn => by
    have hlen := src_len hsrc
    have h11 := g1.d h1
    unfold tSeq tAsg
    have hcmp := er_lcR (K := K) (ρ := ρ) (te := tTup (tCons (tVar 5) (tCons (tOp (rIxT K) (tVar 4) (tVar 5)) tNil))) (tt := tTest (tOp rGt (tCall (sp_taken K T) [] E0 (tCons (tVar 0) (tCons (tC (.int 3)) tNil))) (tC (.int 0)))) (ta := tOp (rIxT K) (tVar 1) (tC (.int 0))) (j := 5) (pr := fun r => r = n) (J := fun r i ds => ∃ ws : List Wish, ds = ws.map wishD ∧ (∀ y ∈ ws, y.1 < i ∧ y.1 < n ∧ held[y.1]? = some y.2) ∧ ws.Pairwise fun x y => x.1 < y.1) (σ := [some (.ref ρ.row), some v1, none, x3, some hv, none]) (H := H1) (fun r hr => by omega) ((er fun H2 g2 => ev_ix0 (d := nm n) (ev_var (P := PD (mD n fs)) (g2.d h11) rfl)).imp fun v H' _ hv => ⟨n, rfl, hv⟩) (fun r hr => ⟨[], rfl, fun y hy => (by cases hy), .nil⟩) (fun x => rfl) (fun r i ds H2 hr hi ⟨ws, e, hws, hp⟩ g2 Q' q => by
      refine er_pos ((g1.trans g2).tabs hT) rfl H2 g2.ok.refl _ fun b H3 g3 => q b H3 g3 (fun _ => ⟨ws, e, fun y hy => ⟨by have := (hws y hy).1; omega, (hws y hy).2⟩, hp⟩) fun _ Q2 q2 => ?_
      have hin : i < n := by omega
      have hhd : KeyH H3 (.tup held) hv := g3.d (g2.d hh)
      refine ev_tup (ds := [nm i, getD' held i]) (ea_cons (ev_var (P := PD (nm i)) rfl rfl) (ea_cons (ev_ixN (ev_var (P := PD (.tup held)) hhd rfl) (ev_var (P := PD (nm i)) rfl rfl) (getD_get (by omega))) ea_nil)) (by simp) H3 (Gx.refl _) _ fun v H4 e4 hv4 => ?_
      refine q2 v H4 (wishD (i, getD' held i)) (g3.ok.gr e4) hv4 ⟨ws ++ [(i, getD' held i)], by rw [e, List.map_append]; rfl, fun y hy => ?_, ?_⟩
      · rcases List.mem_append.mp hy with h | h
        · have := hws y h; exact ⟨by omega, this.2⟩
        · rw [List.mem_singleton.mp h]; exact ⟨by show i < i + 1; omega, hin, getD_get (by omega)⟩
      · rw [List.pairwise_append]
        refine ⟨hp, List.pairwise_singleton _ _, fun a ha b hb => ?_⟩
        rw [List.mem_singleton.mp hb]
        exact (hws a ha).1)
    refine hcmp H1 g1.ok.refl _ fun p us H2 r ds g2 hr ⟨ws, e, hws, hp⟩ hpr hpo hpk => ?_
    unfold gName
    dsimp only
    have hr : r = n := hr
    subst hr
    subst e
    have g12 := g1.trans g2
    have hh2 : KeyH H2 (.tup held) hv := g2.d hh
    have hpl : PL (ws.map wishD) (.ref p) H2 := ⟨p, us, rfl, hpo, hpk⟩
    have hdep : ∀ d ∈ ws.map wishD, d.depth ≤ 59 := fun d hd => by
      obtain ⟨y, hy, rfl⟩ := List.mem_map.mp hd
      have := (hws y hy).2.2
      have hm := List.mem_of_getElem? this
      have hyd : NestedKey.depth y.2 ≤ 8 := by
        rcases hsrc with ⟨ls, _, _, _, hmx⟩ | ⟨_, h2⟩
        · have := le_depths hm; unfold maxD at hmx; omega
        · rcases h2 _ hm with e | e
          · rw [e]; exact Nat.zero_le _
          · rw [e, hf0]
            rcases hr12 with rfl | rfl <;> decide
      show (NestedKey.tup [nm y.1, y.2]).depth ≤ 59
      rw [depth_tup]
      show Nat.max _ 0 + 1 ≤ 59
      have : Nat.max (NestedKey.depth y.2) 0 = NestedKey.depth y.2 := Nat.max_eq_left (Nat.zero_le _)
      omega
    refine s_ret (P := fun v H' => ∃ ws, WGood r fs ws ∧ KeyH H' (wsD ws) v) (ev_if (b := !decide (ws.map wishD = [])) (et_test ?_) (fun hb => ?_) fun hb => ?_) fun v H3 e3 hv => by rw [hDn]; exact k v H3 (g12.gx e3) hv
    · exact ev_neL (ls := []) (ev_var (P := PL (ws.map wishD)) hpl rfl) (EvL.ev (el_lst (ds := []) ea_nil (by simp))) hdep (fun d hd => by cases hd)
    · have hne : ws ≠ [] := fun z => by rw [z] at hb; simp at hb
      exact (ev_tupOf (ks := ws.map wishD) (ev_var (P := PL (ws.map wishD)) hpl rfl)).imp fun v H' hv => ⟨ws, ⟨hne, fun y hy => (hws y hy).2.1, hp, held, hsrc, fun y hy => (hws y hy).2.2⟩, hv⟩
    · refine (ev_tup (ds := [wishD (0, getD' held 0)]) (ea_cons (ev_tup (ds := [nm 0, getD' held 0]) (ea_cons ev_int (ea_cons (ev_ixN (n := 0) (ev_var (P := PD (.tup held)) hh2 rfl) ev_int (getD_get (by omega))) ea_nil)) (by simp)) ea_nil) (by simp)).imp fun v H' hv => ⟨[(0, getD' held 0)], ⟨by simp, fun y hy => by rw [List.mem_singleton.mp hy]; show 0 < r; omega, List.pairwise_singleton _ _, held, hsrc, fun y hy => by rw [List.mem_singleton.mp hy]; exact getD_get (by omega)⟩, hv⟩
  unfold D_law_wishes.t
  show tIfS _ _ _ _ _ _
  unfold tIfS
  refine er_pos hT rfl H ok.refl _ fun b H1 g1 => ?_
  have h11 := g1.d h1
  cases b with
  | true =>
    show tSeq (tAsg _ _) (tAsg _ _) _ _ H1
    unfold tSeq tAsg
    have hpg : Er K ρ (tCall (sp_program K T) [] E0 (tCons (tVar 0) (tCons (tVar 1) (tCons (tC (.int 5)) tNil)))) [some (.ref ρ.row), some v1, none, none, none, none] H1 (RProg ⟨n, fs, 5⟩) := er_call (⟨n, fs, 5⟩ : PrA) (g1.tabs hT) rfl (era_cons (er fun H2 g2 => ev_var (P := PD (mD n fs)) (g2.d h11) rfl) (era_cons (er_int (i := 5)) era_nil)) ⟨mo, by show 5 ≤ 100; omega⟩
    refine ⟨v1, rfl, hpg H1 g1.ok.refl _ fun pv H2 g2 ⟨prog, hl5, hin, hpv⟩ => ?_⟩
    replace hl5 : prog.length ≤ 5 := hl5
    replace hin : ∀ l ∈ prog, l ∈ allLines n fs := hin
    have hlin : ∀ l ∈ prog, LnIn n l := fun l hl => lnIn_all mo.r (hin l hl)
    have inv := tame_inv n (allLines n fs) prog (rgD n, []) hin rfl rfl (by show maxD (rgD n) ≤ 4; rw [first_depth]; omega) (fun l hl => by cases hl)
    have ht : (prog.foldl tameStep (rgD n, [])).2 = tame n prog := rfl
    simp only [] at inv
    rw [ht] at inv
    obtain ⟨i1, i2, i3, i4, i5⟩ := inv
    generalize (prog.foldl tameStep (rgD n, [])).1 = held at i1 i2 i3
    have g12 := g1.trans g2
    refine ⟨g12.tabs hT, ((n, fs), prog), ⟨mo, hlin, by show prog.length ≤ 100; omega⟩, ⟨v1, [pv], by simp, g2.d h11, pv, [], rfl, hpv, rfl⟩, fun tv H3 e3 htv => ?_⟩
    replace htv : KeyH H3 (progD (tame n prog)) tv := htv
    have g13 := g12.gx e3
    unfold gName
    dsimp only
    have hran : Ev (tCall (sp_law_ran T) [] E0 (tCons (tVar 1) (tCons (tVar 3) (tCons (tTup tNil) tNil)))) [some (.ref ρ.row), some v1, none, some tv, none, none] H3 (PD (optT (runL (rgD n) (tame n prog)))) := ev_call ((n, fs), tame n prog) (g13.tabs hT) (ea_cons (ev_var (P := PD (mD n fs)) (g13.d h1) rfl) (ea_cons (ev_var (P := PD (progD (tame n prog))) htv rfl) (ea_cons (ev_tup (ds := []) ea_nil (by simp)) ea_nil))) ⟨mo, fun l hl => lnIn_all mo.r (i4 l hl)⟩
    refine hran H3 (Gx.refl _) _ fun hv H4 e4 hh => ?_
    rw [i2] at hh
    have hh : KeyH H4 (.tup held) hv := hh
    exact cont held hv _ H4 (.inl ⟨tame n prog, i4, by simp at i5; omega, i1, i3⟩) (g13.gx e4) hh { nx := fun _ H' => Q .non H', rt := Q } rfl
  | false =>
    rw [if_neg Bool.false_ne_true]
    unfold tAsg
    have hlst : ∀ H2 σ2, Gr K ρ H1 H2 → σ2[1]? = some (some v1) → Er K ρ (tLst (tCons (tC (.int 0)) (tCons (tOp (rCatA K) (tTup (tCons (tC (.int 0)) tNil)) (tOp (rRepAny K) (tTup (tCons (tC (.int 0)) tNil)) (tOp (rIxT K) (tOp (rIxT K) (tVar 1) (tC (.int 1))) (tC (.int 0))))) tNil))) σ2 H2 (PLr ρ.row [nm 0, f0 fs]) := fun H2 σ2 g2 hi => by
      refine (er (P := PL [nm 0, f0 fs]) fun H3 g3 => (el_lst (ds := [nm 0, f0 fs]) (ea_cons ev_int (ea_cons ?_ ea_nil)) (by simp)).ev).imp fun v H' ok' h => plr_of ok' (.inl (by simp)) h
      rw [hf0]
      refine ev_catA (ds := [nm 0]) (es := List.replicate r0 (nm 0)) (ev_tup (ds := [nm 0]) (ea_cons ev_int ea_nil) (by simp)) (ev_rep hr12 (ev_ixN (n := 0) (ev_ix1 (c := nm n) (d := .tup (fs.map nm)) (ds := []) (ev_var (P := PD (mD n fs)) (g3.d (g2.d h11)) hi)) ev_int (by rw [List.getElem?_map, hr0]; rfl))) (by simp; omega)
    have hcmp := er_tupR (K := K) (ρ := ρ) (te := tCall (sp_pick K T) [] E0 (tCons (tVar 0) (tCons (tLst (tCons (tC (.int 0)) (tCons (tOp (rCatA K) (tTup (tCons (tC (.int 0)) tNil)) (tOp (rRepAny K) (tTup (tCons (tC (.int 0)) tNil)) (tOp (rIxT K) (tOp (rIxT K) (tVar 1) (tC (.int 1))) (tC (.int 0))))) tNil))) tNil))) (tt := tYes) (ta := tOp (rIxT K) (tVar 1) (tC (.int 0))) (j := 5) (pr := fun r => r = n) (J := fun r i ds => ds.length = i ∧ ∀ d ∈ ds, d = nm 0 ∨ d = f0 fs) (σ := [some (.ref ρ.row), some v1, none, none, none, none]) (H := H1) (fun r hr => by omega) ((er fun H2 g2 => ev_ix0 (d := nm n) (ev_var (P := PD (mD n fs)) (g2.d h11) rfl)).imp fun v H' _ hv => ⟨n, rfl, hv⟩) (fun r hr => ⟨rfl, fun d hd => by cases hd⟩) (fun x => rfl) (fun r i ds H2 hr hi ⟨j1, j2⟩ g2 Q' q => by
      refine q true H2 g2.ok.refl (fun z => Bool.noConfusion z) fun _ Q2 q2 => ?_
      refine er_pick ((g1.trans g2).tabs hT) rfl (hlst H2 _ g2 rfl) (by simp) (by simp) H2 g2.ok.refl _ fun v H3 g3 ⟨d, hd, hv⟩ => ?_
      refine q2 v H3 d g3 hv ⟨by simp [j1], fun d' hd' => ?_⟩
      rcases List.mem_append.mp hd' with h | h
      · exact j2 d' h
      · rw [List.mem_singleton.mp h]
        simpa using hd)
    refine hcmp H1 g1.ok.refl _ fun hv H2 g2 ⟨r, ds, hr, ⟨j1, j2⟩, hh⟩ => ?_
    exact cont ds hv _ H2 (.inr ⟨by omega, j2⟩) (g1.trans g2) hh { nx := fun _ H' => Q .non H', rt := Q } rfl
theorem ok_wishes {f c : Addr} {k : Nat} (F : Df K "_law_wishes" "_law_wishes" D_law_wishes.st [] f c) (hm : mg "_law_wishes" = some (.ref f)) (B : Bi mg) (F1 : Fc P w K mg base CX0 k "_law_taken" [] (sp_taken K T)) (F2 : Fc P w K mg base CX0 k "_law_tame" [] (sp_law_tame T)) (F3 : Fc P w K mg base CX0 k "_law_program" [] (sp_program K T)) (F4 : Fc P w K mg base CX0 k "_law_ran" [] (sp_law_ran T)) (F5 : Fc P w K mg base CX0 k "_law_pick" [] (sp_pick K T)) : Fc P w K mg base CX0 (k + 1) "_law_wishes" [] (sp_wishes K T) :=
  F.fc hm D_law_wishes.S (spR_len (n := 1) fun _ => rfl) (fun _ _ _ _ _ _ us hl => match us, hl with | [_, _], _ => rfl) fun cdv A outer s H vs Q E hc hr h => ⟨_, PSs.nox (D_law_wishes.d B hr F1 F2 F3 F4 F5), pure_wishes vs H Q E h⟩
end
end LX

set_option maxRecDepth 100000
set_option maxHeartbeats 4000000
namespace LX
open PySem PySem.Spec PyProof.Rows L2 MDict GxR GQ

namespace D_law
abbrev st : Stmt := top 56
abbrev N : List Str := ["_law_script", "_law_row", "_law_machine_here", "_law_wishes_here", "_law_turn", "_law_plain", "_law_soft", "_law_one", "_law_other", "_law_base", "_law_value", "_law_due", "_law_found"]
abbrev ps : List Str := ["_law_script"]
theorem S : FnScope N ps (defScope st) := ⟨rfl, rfl, rfl, by decide +kernel, rfl, by decide +kernel, by decide +kernel⟩
def t (K : PySem.W.Frag) (w : World) (sp_law_machine : Sp) (sp_law_wishes : Sp) (sp_law_parts : Sp) (sp_law_fewest : Sp) (sp_law_alike : Sp) (sp_least_gentle_lines : Sp) (sp_least_lines : Sp) (sp_shortest_gentle : Sp) (sp_shortest : Sp) (sp_law_does : Sp) (sp_law_pick : Sp) (sp_law_taken : Sp) (sp_law_every_line : Sp) (sp_shows_shortest_gentle : Sp) (sp_shows_shortest : Sp) : TS :=
  (tSeq (tAsg (tLst (tCons (tVar 0) (tCons (tC (.int 0)) (tCons (tC (.int 903)) (tCons (tC (.int 0)) tNil))))) (gName 1))
  (tSeq (tAsg (tCall sp_law_machine [] E0 (tCons (tVar 1) tNil)) (gName 2))
  (tSeq (tAsg (tCall sp_law_wishes [] E0 (tCons (tVar 1) (tCons (tVar 2) tNil))) (gName 3))
  (tSeq (tIfS (tTest (tOp rGt (tCB (rLenV K) (tCons (tCall sp_law_parts [] E0 (tCons (tVar 3) tNil)) tNil)) (tC (.int 10)))) (tRet (tC (.bl true))) tNext)
  (tSeq (tPar 5 6 (tCons (tCall sp_law_fewest [] E0 (tCons (tVar 2) (tCons (tVar 3) (tCons (tC (.bl false)) tNil)))) (tCons (tCall sp_law_fewest [] E0 (tCons (tVar 2) (tCons (tVar 3) (tCons (tC (.bl true)) tNil)))) tNil)))
  (tSeq (tIfS (tNot (tB (tCall sp_law_alike [] E0 (tCons (tLst (tCons (tCall sp_least_lines [] E0 (tCons (tVar 2) (tCons (tVar 3) tNil))) (tCons (tCall sp_least_gentle_lines [] E0 (tCons (tVar 2) (tCons (tVar 3) tNil))) tNil))) (tCons (tLst (tCons (tVar 5) (tCons (tVar 6) tNil))) tNil))))) (tRet (tC (.bl false))) tNext)
  (tSeq (tPar 7 8 (tCons (tCall sp_shortest [] E0 (tCons (tVar 2) (tCons (tVar 3) tNil))) (tCons (tCall sp_shortest_gentle [] E0 (tCons (tVar 2) (tCons (tVar 3) tNil))) tNil)))
  (tSeq (tIfS (tOr (tTest (tOp rNe (tIsN (tVar 7)) (tIsN (tVar 5)))) (tTest (tOp rNe (tIsN (tVar 8)) (tIsN (tVar 6))))) (tRet (tC (.bl false))) tNext)
  (tSeq (tIfS (tAnd (tB (tNotN (tVar 7))) (tNot (tB (tCall sp_law_does [] E0 (tCons (tVar 2) (tCons (tVar 7) (tCons (tVar 3) (tCons (tVar 5) (tCons (tC (.bl false)) tNil))))))))) (tRet (tC (.bl false))) tNext)
  (tSeq (tIfS (tAnd (tB (tNotN (tVar 8))) (tNot (tB (tCall sp_law_does [] E0 (tCons (tVar 2) (tCons (tVar 8) (tCons (tVar 3) (tCons (tVar 6) (tCons (tC (.bl true)) tNil))))))))) (tRet (tC (.bl false))) tNext)
  (tSeq (tFor (iRng1 (tCons (tC (.int 6)) tNil)) (gName 4) (tSeq (tAsg (tCB (rListS K) (tCons (tOrT K (tCall sp_law_pick [] E0 (tCons (tVar 1) (tCons (tLst (tCons (tVar 7) (tCons (tVar 8) tNil))) tNil))) (tTup tNil)) tNil)) (gName 9))
  (tSeq (tIfS (tAnd (tTest (tOp (rNeD K) (tVar 9) (tLst tNil))) (tTest (tOp (rEqD K) (tCall sp_law_taken [] E0 (tCons (tVar 1) (tCons (tC (.int 2)) tNil))) (tC (.int 0))))) (tAsg (tCall sp_law_pick [] E0 (tCons (tVar 1) (tCons (tCall sp_law_every_line [] E0 (tCons (tVar 2) tNil)) tNil))) (gSub (tVar 9) (tCall sp_law_taken [] E0 (tCons (tVar 1) (tCons (tCB (rLenV K) (tCons (tVar 9) tNil)) tNil))) rSetL)) tNext)
  (tSeq (tIfS (tTest (tOp (rEqD K) (tCall sp_law_taken [] E0 (tCons (tVar 1) (tCons (tC (.int 4)) tNil))) (tC (.int 0)))) (tDrop (tBM K "list" rAppend (tVar 9) (tCons (tCall sp_law_pick [] E0 (tCons (tVar 1) (tCons (tCall sp_law_every_line [] E0 (tCons (tVar 2) tNil)) tNil))) tNil))) tNext)
  (tSeq (tAsg (tCall sp_law_pick [] E0 (tCons (tVar 1) (tCons (tOp rCat (tOp rRep (tLst (tCons (tThen (tVar 9) (kTup K)) tNil)) (tC (.int 4))) (tLst (tCons (tVar 9) (tCons (tC .non) (tCons (tTup (tCons (tC .non) tNil)) (tCons tDNewK (tCons (tTup (tCons (tTup (tCons (tC (.int 0)) (tCons (tC (.int 0)) tNil))) tNil)) (tCons (tTup (tCons (tTup (tCons (tC (.bl true)) (tCons (tC (.int 0)) (tCons (tTup (tCons (tC (.int 0)) tNil)) tNil)))) tNil)) tNil)))))))) tNil))) (gName 10))
  (tSeq (tAsg (tLst (tCons (tCall sp_law_does [] E0 (tCons (tVar 2) (tCons (tVar 10) (tCons (tVar 3) (tCons (tVar 5) (tCons (tC (.bl false)) tNil)))))) (tCons (tCall sp_law_does [] E0 (tCons (tVar 2) (tCons (tVar 10) (tCons (tVar 3) (tCons (tVar 6) (tCons (tC (.bl true)) tNil)))))) tNil))) (gName 11))
  (tSeq (tIfS (tB (tIsN (tVar 10))) (tAsg (tLst (tCons (tIsN (tVar 5)) (tCons (tIsN (tVar 6)) tNil))) (gName 11)) tNext)
  (tSeq (tAsg (tLst (tCons (tCall sp_shows_shortest [] E0 (tCons (tVar 2) (tCons (tVar 3) (tCons (tVar 10) tNil)))) (tCons (tCall sp_shows_shortest_gentle [] E0 (tCons (tVar 2) (tCons (tVar 3) (tCons (tVar 10) tNil)))) tNil))) (gName 12))
  (tIfS (tNot (tB (tCall sp_law_alike [] E0 (tCons (tVar 12) (tCons (tVar 11) tNil))))) (tRet (tC (.bl false))) tNext)))))))))
  (tRet (tC (.bl true))))))))))))))
theorem d {P : Program} {w : World} {K : PySem.W.Frag} {mg : Str → Option Value} {base : Heap} {f : Addr} {cdv : Value} {A : Around} {outer : List Env} {s : Shared} {H : Hp} {E : XK} {k : Nat} {sp_law_machine : Sp} {sp_law_wishes : Sp} {sp_law_parts : Sp} {sp_law_fewest : Sp} {sp_law_alike : Sp} {sp_least_gentle_lines : Sp} {sp_least_lines : Sp} {sp_shortest_gentle : Sp} {sp_shortest : Sp} {sp_law_does : Sp} {sp_law_pick : Sp} {sp_law_taken : Sp} {sp_law_every_line : Sp} {sp_shows_shortest_gentle : Sp} {sp_shows_shortest : Sp} (B : Bi mg) (hr : Room (k) (A.deeper (envOfC "law" (defScope st) s.heap.objs.size f cdv))) (F_law_machine : Fc P w K mg base CX0 k "_law_machine" [] sp_law_machine) (F_law_wishes : Fc P w K mg base CX0 k "_law_wishes" [] sp_law_wishes) (F_law_parts : Fc P w K mg base CX0 k "_law_parts" [] sp_law_parts) (F_law_fewest : Fc P w K mg base CX0 k "_law_fewest" [] sp_law_fewest) (F_law_alike : Fc P w K mg base CX0 k "_law_alike" [] sp_law_alike) (F_least_gentle_lines : Fc P w K mg base CX0 k "least_gentle_lines" [] sp_least_gentle_lines) (F_least_lines : Fc P w K mg base CX0 k "least_lines" [] sp_least_lines) (F_shortest_gentle : Fc P w K mg base CX0 k "shortest_gentle" [] sp_shortest_gentle) (F_shortest : Fc P w K mg base CX0 k "shortest" [] sp_shortest) (F_law_does : Fc P w K mg base CX0 k "_law_does" [] sp_law_does) (F_law_pick : Fc P w K mg base CX0 k "_law_pick" [] sp_law_pick) (F_law_taken : Fc P w K mg base CX0 k "_law_taken" [] sp_law_taken) (F_law_every_line : Fc P w K mg base CX0 k "_law_every_line" [] sp_law_every_line) (F_shows_shortest_gentle : Fc P w K mg base CX0 k "shows_shortest_gentle" [] sp_shows_shortest_gentle) (F_shows_shortest : Fc P w K mg base CX0 k "shows_shortest" [] sp_shows_shortest) :
    PSs (cxOf CX0 P w K mg base N "law" (defScope st) f cdv A outer s H E).nox (defBody st) (t K w sp_law_machine sp_law_wishes sp_law_parts sp_law_fewest sp_law_alike sp_least_gentle_lines sp_least_lines sp_shortest_gentle sp_shortest sp_law_does sp_law_pick sp_law_taken sp_law_every_line sp_shows_shortest_gentle sp_shows_shortest) :=
  (pss_cons (x_set (i := 1) S.nd (pe_lst (by exact (pa_cons (pv 0) (pa_cons pe_int (pa_cons pe_int (pa_cons pe_int pa_nil)))))))
  (pss_cons (x_set (i := 2) S.nd (x_call F_law_machine (hr.mono (by omega)) (by exact (pa_cons (pv 1) pa_nil))))
  (pss_cons (x_set (i := 3) S.nd (x_call F_law_wishes (hr.mono (by omega)) (by exact (pa_cons (pv 1) (pa_cons (pv 2) pa_nil)))))
  (pss_cons (ps_if (y_gt (x_len B (x_call F_law_parts (hr.mono (by omega)) (by exact (pa_cons (pv 3) pa_nil)))) pe_int) (pss_one (ps_ret x_true)) pss_nil)
  (pss_cons (ps_par (i := 5) (j := 6) rfl S.nd rfl rfl (by decide) rfl rfl (by exact (pa_cons (x_call F_law_fewest (hr.mono (by omega)) (by exact (pa_cons (pv 2) (pa_cons (pv 3) (pa_cons x_false pa_nil))))) (pa_cons (x_call F_law_fewest (hr.mono (by omega)) (by exact (pa_cons (pv 2) (pa_cons (pv 3) (pa_cons x_true pa_nil))))) pa_nil))) (by exact rfl))
  (pss_cons (ps_if (pt_not (pt_val (x_call F_law_alike (hr.mono (by omega)) (by exact (pa_cons (pe_lst (by exact (pa_cons (x_call F_least_lines (hr.mono (by omega)) (by exact (pa_cons (pv 2) (pa_cons (pv 3) pa_nil)))) (pa_cons (x_call F_least_gentle_lines (hr.mono (by omega)) (by exact (pa_cons (pv 2) (pa_cons (pv 3) pa_nil)))) pa_nil)))) (pa_cons (pe_lst (by exact (pa_cons (pv 5) (pa_cons (pv 6) pa_nil)))) pa_nil)))))) (pss_one (ps_ret x_false)) pss_nil)
  (pss_cons (ps_par (i := 7) (j := 8) rfl S.nd rfl rfl (by decide) rfl rfl (by exact (pa_cons (x_call F_shortest (hr.mono (by omega)) (by exact (pa_cons (pv 2) (pa_cons (pv 3) pa_nil)))) (pa_cons (x_call F_shortest_gentle (hr.mono (by omega)) (by exact (pa_cons (pv 2) (pa_cons (pv 3) pa_nil)))) pa_nil))) (by exact rfl))
  (pss_cons (ps_if ((pw_or (y_neB (x_isN (pv 7)) (x_isN (pv 5))) (pw_or1 (y_neB (x_isN (pv 8)) (x_isN (pv 6)))))).pt (pss_one (ps_ret x_false)) pss_nil)
  (pss_cons (ps_if ((pw_and (y_nNon (pv 7)) (pw_and1 (pt_not (pt_val (x_call F_law_does (hr.mono (by omega)) (by exact (pa_cons (pv 2) (pa_cons (pv 7) (pa_cons (pv 3) (pa_cons (pv 5) (pa_cons x_false pa_nil)))))))))))).pt (pss_one (ps_ret x_false)) pss_nil)
  (pss_cons (ps_if ((pw_and (y_nNon (pv 8)) (pw_and1 (pt_not (pt_val (x_call F_law_does (hr.mono (by omega)) (by exact (pa_cons (pv 2) (pa_cons (pv 8) (pa_cons (pv 3) (pa_cons (pv 6) (pa_cons x_true pa_nil)))))))))))).pt (pss_one (ps_ret x_false)) pss_nil)
  (pss_cons (ps_for PassesOwn.never rfl (x_rng B pe_int) (g_nm 4 S.nd) (pss_cons (x_set (i := 9) S.nd (x_list B (pe_orT (x_call F_law_pick (hr.mono (by omega)) (by exact (pa_cons (pv 1) (pa_cons (pe_lst (by exact (pa_cons (pv 7) (pa_cons (pv 8) pa_nil)))) pa_nil)))) (pe_one (pe_tup (by exact pa_nil))))))
  (pss_cons (ps_if ((pw_and (y_neD (u64 hr) (pv 9) (pe_lst (by exact pa_nil))) (pw_and1 (y_eqD (u64 hr) (x_call F_law_taken (hr.mono (by omega)) (by exact (pa_cons (pv 1) (pa_cons pe_int pa_nil)))) pe_int)))).pt (pss_one (ps_asg (x_call F_law_pick (hr.mono (by omega)) (by exact (pa_cons (pv 1) (pa_cons (x_call F_law_every_line (hr.mono (by omega)) (by exact (pa_cons (pv 2) pa_nil))) pa_nil)))) (pg_sub (pv 9) (x_call F_law_taken (hr.mono (by omega)) (by exact (pa_cons (pv 1) (pa_cons (x_len B (pv 9)) pa_nil)))) set_list))) pss_nil)
  (pss_cons (ps_if (y_eqD (u64 hr) (x_call F_law_taken (hr.mono (by omega)) (by exact (pa_cons (pv 1) (pa_cons pe_int pa_nil)))) pe_int) (pss_one (ps_expr (pe_bm PySem.F.plainAttrs_list PySem.F.slot_list_append PySem.F.type_list_append mt_append (pv 9) (by exact (pa_cons (x_call F_law_pick (hr.mono (by omega)) (by exact (pa_cons (pv 1) (pa_cons (x_call F_law_every_line (hr.mono (by omega)) (by exact (pa_cons (pv 2) pa_nil))) pa_nil)))) pa_nil))))) pss_nil)
  (pss_cons (x_set (i := 10) S.nd (x_call F_law_pick (hr.mono (by omega)) (by exact (pa_cons (pv 1) (pa_cons (pe_op op_cat (pe_op op_rep (pe_lst (by exact (pa_cons (x_tup B (pv 9)) pa_nil))) pe_int) (pe_lst (by exact (pa_cons (pv 9) (pa_cons pe_non (pa_cons (pe_tup (by exact (pa_cons pe_non pa_nil))) (pa_cons pe_dnewK (pa_cons (pe_tup (by exact (pa_cons (pe_tup (by exact (pa_cons pe_int (pa_cons pe_int pa_nil)))) pa_nil))) (pa_cons (pe_tup (by exact (pa_cons (pe_tup (by exact (pa_cons x_true (pa_cons pe_int (pa_cons (pe_tup (by exact (pa_cons pe_int pa_nil))) pa_nil))))) pa_nil))) pa_nil))))))))) pa_nil)))))
  (pss_cons (x_set (i := 11) S.nd (pe_lst (by exact (pa_cons (x_call F_law_does (hr.mono (by omega)) (by exact (pa_cons (pv 2) (pa_cons (pv 10) (pa_cons (pv 3) (pa_cons (pv 5) (pa_cons x_false pa_nil))))))) (pa_cons (x_call F_law_does (hr.mono (by omega)) (by exact (pa_cons (pv 2) (pa_cons (pv 10) (pa_cons (pv 3) (pa_cons (pv 6) (pa_cons x_true pa_nil))))))) pa_nil)))))
  (pss_cons (ps_if (y_isN (pv 10)) (pss_one (x_set (i := 11) S.nd (pe_lst (by exact (pa_cons (x_isN (pv 5)) (pa_cons (x_isN (pv 6)) pa_nil)))))) pss_nil)
  (pss_cons (x_set (i := 12) S.nd (pe_lst (by exact (pa_cons (x_call F_shows_shortest (hr.mono (by omega)) (by exact (pa_cons (pv 2) (pa_cons (pv 3) (pa_cons (pv 10) pa_nil))))) (pa_cons (x_call F_shows_shortest_gentle (hr.mono (by omega)) (by exact (pa_cons (pv 2) (pa_cons (pv 3) (pa_cons (pv 10) pa_nil))))) pa_nil)))))
  (pss_one (ps_if (pt_not (pt_val (x_call F_law_alike (hr.mono (by omega)) (by exact (pa_cons (pv 12) (pa_cons (pv 11) pa_nil)))))) (pss_one (ps_ret x_false)) pss_nil))))))))))
  (pss_one (ps_ret x_true)))))))))))))
end D_law

end LX

set_option maxRecDepth 100000
set_option maxHeartbeats 8000000
namespace LX
open PySem PySem.Spec PyProof.Rows L2 MDict GxR GQ
mutual
theorem wfT_wfS {n : Nat} {fs : List Nat} (m : ∀ r ∈ fs, r = 1 ∨ r = 2) : ∀ d : D, wfT n fs d = true → wfS d = true
  | .none, h => by simp [wfT] at h
  | .text _, h => by simp [wfT] at h
  | .num i, _ => rfl
  | .tup ks, h => by
    simp only [wfT, Bool.and_eq_true] at h
    obtain ⟨f, a, r, e, hf⟩ := hdF_shape h.1
    have hr := m _ (List.mem_of_getElem? hf)
    simp only [wfS, Bool.and_eq_true]
    refine ⟨?_, wfTl_wfSs m ks h.1 h.2⟩
    rw [e]
    simp only [hdN, decide_eq_true_eq]
    omega
theorem wfTl_wfSs {n : Nat} {fs : List Nat} (m : ∀ r ∈ fs, r = 1 ∨ r = 2) : ∀ ks : List D, hdF fs ks = true → wfTl n fs ks = true → wfSs ks = true
  | [], h, _ => by simp [hdF] at h
  | k :: ks, h, h2 => by
    obtain ⟨f, a, r, e, hf⟩ := hdF_shape h
    have e1 : k = nm f := by cases e; rfl
    simp only [wfTl] at h2
    simp only [wfSs, Bool.and_eq_true]
    exact ⟨by rw [e1]; rfl, wfTs_wfSs m ks h2⟩
theorem wfTs_wfSs {n : Nat} {fs : List Nat} (m : ∀ r ∈ fs, r = 1 ∨ r = 2) : ∀ ks : List D, wfTs n fs ks = true → wfSs ks = true
  | [], _ => rfl
  | k :: ks, h => by
    simp only [wfTs, Bool.and_eq_true] at h
    simp only [wfSs, Bool.and_eq_true]
    exact ⟨wfT_wfS m k h.1, wfTs_wfSs m ks h.2⟩
end
theorem newT_wfT {n : Nat} {fs : List Nat} (m : ∀ r ∈ fs, r = 1 ∨ r = 2) {held : List D} {l : Ln} (hl : l ∈ allLines n fs) (hn : held.length = n) (hw : ∀ d ∈ held, wfT n fs d = true) : wfT n fs (newT held l) = true := by
  obtain ⟨hc, hs, h⟩ := (mem_allLines m).mp hl
  unfold newT
  rcases h with ⟨f, hf, hfs⟩ | ⟨hf, s, hse, _⟩
  · rw [hf]
    have hlen := m _ (List.mem_of_getElem? hfs)
    simp only [wfT, wfTl, Bool.and_eq_true]
    refine ⟨?_, wfTs_all.mpr fun k hk => ?_⟩
    · cases hls : l.s with
      | nil => rw [hls] at hlen; simp at hlen
      | cons a r =>
        rw [hls] at hfs
        simp only [List.map_cons, hdF, Bool.and_eq_true, decide_eq_true_eq, Int.toNat_natCast]
        refine ⟨by omega, ?_⟩
        rw [hfs]; simp
    · obtain ⟨i, hi, rfl⟩ := List.mem_map.mp hk
      exact hw _ (getD_mem (by rw [hn]; exact hs i hi))
  · rw [hf, hse]
    exact hw _ (getD_mem (by rw [hn]; exact hs s (by rw [hse]; simp)))
theorem fold_wfT {n : Nat} {fs : List Nat} (m : ∀ r ∈ fs, r = 1 ∨ r = 2) : ∀ (ls : List Ln) (held : List D), (∀ l ∈ ls, l ∈ allLines n fs) → held.length = n → (∀ d ∈ held, wfT n fs d = true) → ∀ d ∈ ls.foldl did held, wfT n fs d = true
  | [], _, _, _, h => h
  | l :: ls, held, hl, hn, h => by
    rw [List.foldl_cons]
    refine fold_wfT m ls _ (fun x hx => hl x (List.mem_cons_of_mem _ hx)) (by unfold did; rw [List.length_set]; exact hn) fun d hd => ?_
    unfold did at hd
    rcases List.mem_or_eq_of_mem_set hd with h1 | rfl
    · exact h d h1
    · exact newT_wfT m (hl l List.mem_cons_self) hn h
theorem rg_wfT {n : Nat} {fs : List Nat} : ∀ d ∈ rgD n, wfT n fs d = true := fun d hd => by
  obtain ⟨i, hi, rfl⟩ := List.mem_map.mp hd
  have := List.mem_range.mp hi
  simp only [wfT, Bool.and_eq_true, decide_eq_true_eq]
  omega
theorem src_ok {n : Nat} {fs : List Nat} (m : MOk n fs) {held : List D} (h : Src n fs held) : ∀ d ∈ held, wfT n fs d = true ∧ d.depth ≤ 4 := fun d hd => by
  rcases h with ⟨ls, hl, _, e, hmx⟩ | ⟨hn, h2⟩
  · refine ⟨?_, ?_⟩
    · rw [e] at hd
      exact fold_wfT m.r ls _ hl (rgD_length n) rg_wfT d hd
    · have := le_depths hd
      unfold maxD at hmx; omega
  · have n1 := m.n1; have f1 := m.f1
    have hz : wfT n fs (nm 0) = true := by simp only [wfT, Bool.and_eq_true, decide_eq_true_eq]; omega
    obtain ⟨r0, hr0⟩ : ∃ r, fs[0]? = some r := ⟨fs[0], List.getElem?_eq_getElem (by omega)⟩
    have hr12 := m.r r0 (List.mem_of_getElem? hr0)
    have hf0 : f0 fs = .tup (nm 0 :: List.replicate r0 (nm 0)) := by
      unfold f0
      rw [List.headD_eq_head?_getD, List.head?_eq_getElem?, hr0]
      rfl
    rcases h2 d hd with rfl | rfl
    · exact ⟨hz, Nat.zero_le _⟩
    · rw [hf0]
      refine ⟨?_, ?_⟩
      · simp only [wfT, wfTl, Bool.and_eq_true]
        refine ⟨?_, wfTs_all.mpr fun k hk => by rw [List.eq_of_mem_replicate hk]; exact hz⟩
        rcases hr12 with rfl | rfl
        · show (decide (0 ≤ ((0 : Nat) : Int)) && decide (fs[((0 : Nat) : Int).toNat]? = some (0 + 1))) = true
          rw [Int.toNat_natCast, hr0]; rfl
        · show (decide (0 ≤ ((0 : Nat) : Int)) && decide (fs[((0 : Nat) : Int).toNat]? = some (1 + 1))) = true
          rw [Int.toNat_natCast, hr0]; rfl
      · rcases hr12 with rfl | rfl <;> decide
theorem pw_len : ∀ {ws : List Wish} {n k : Nat}, ws.Pairwise (fun x y => x.1 < y.1) → (∀ y ∈ ws, k ≤ y.1 ∧ y.1 < n) → ws.length ≤ n - k
  | [], _, _, _, _ => Nat.zero_le _
  | x :: ws, n, k, h, hb => by
    obtain ⟨h1, h2⟩ := List.pairwise_cons.mp h
    have hx := hb x List.mem_cons_self
    have := pw_len (n := n) (k := x.1 + 1) h2 fun y hy => ⟨h1 y hy, (hb y (List.mem_cons_of_mem _ hy)).2⟩
    simp only [List.length_cons]
    omega
theorem wg_len {n : Nat} {fs : List Nat} {ws : List Wish} (g : WGood n fs ws) : ws.length ≤ n := pw_len (k := 0) g.up fun y hy => ⟨Nat.zero_le _, g.lt y hy⟩
theorem wg_term {n : Nat} {fs : List Nat} (m : MOk n fs) {ws : List Wish} (g : WGood n fs ws) : ∀ y ∈ ws, wfT n fs y.2 = true ∧ y.2.depth ≤ 4 := fun y hy => by
  obtain ⟨held, hs, hh⟩ := g.src
  exact src_ok m hs _ (List.mem_of_getElem? (hh y hy))
theorem wg_wf {n : Nat} {fs : List Nat} (m : MOk n fs) {ws : List Wish} (g : WGood n fs ws) : WfW ws := ⟨fun y hy => ⟨wfT_wfS m.r _ (wg_term m g y hy).1, by have := (wg_term m g y hy).2; omega⟩, by have := wg_len g; have := m.n3; omega⟩
theorem pw_up : ∀ {ws : List Wish}, ws.Pairwise (fun x y => x.1 < y.1) → ∀ i x y, ws[i]? = some x → ws[i + 1]? = some y → x.1 < y.1
  | [], _, i, x, y, h, _ => by simp at h
  | a :: ws, h, 0, x, y, h1, h2 => by
    cases h1
    exact (List.pairwise_cons.mp h).1 y (List.mem_of_getElem? (i := 0) (by simpa using h2))
  | a :: ws, h, i + 1, x, y, h1, h2 => pw_up (ws := ws) (List.pairwise_cons.mp h).2 i x y (by simpa using h1) (by simpa using h2)
theorem wg_ws {n : Nat} {fs : List Nat} (m : MOk n fs) {ws : List Wish} (g : WGood n fs ws) : WsOk n fs ws := ⟨g.ne, fun y hy => ⟨g.lt y hy, (wg_term m g y hy).1, by have := (wg_term m g y hy).2; omega⟩, pw_up g.up, by have := wg_len g; have := m.n3; omega⟩
theorem wg_gok {n : Nat} {fs : List Nat} (m : MOk n fs) {ws : List Wish} (g : WGood n fs ws) (h : (partsW ws).length ≤ 10) : GOk ⟨n, fs, ws, false⟩ := ⟨⟨m, wg_wf m g, g.lt, h⟩, wg_ws m g⟩
/-- what plain Lean says of the two searches -/
structure MathOk (x : FArg) : Prop where
  len : ∀ q p, LeastL x q → LeastP x p → lenD q = lenD p
  mem : ∀ p, LeastP x (some p) → p.length ≤ 60 ∧ ∀ l ∈ p, l ∈ allLines x.n x.fs
  does : ∀ p, LeastP x (some p) → doesV x (.val (progV p)) (some p.length) = true
  shows : ∀ q p k, LeastL x q → LeastP x p → VkOk x.n x.fs k → k ≠ .val .non → showB x p k = doesV x k (q.map List.length)
end LX

set_option maxRecDepth 100000
set_option maxHeartbeats 8000000
namespace LX
open PySem PySem.Spec PyProof.Rows L2 MDict GxR GQ
/-! ### the rounds of the law -/
structure BaseOk (ρ : Rw) (n : Nat) (fs : List Nat) (b : Nat) (l9 : Addr) (H : Hp) : Prop where
  ex : ∃ (ls : List Ln) (vs : List V), ls.length ≤ b ∧ (∀ l ∈ ls, l ∈ allLines n fs) ∧ H l9 = some (.lst vs) ∧ KeyAll H (ls.map Ln.d) vs
  ne : l9 ≠ ρ.row
theorem ixN_nat {n i : Nat} (h : i < n) : ixN n (i : Int) = some i := by
  unfold ixN
  rw [if_pos (by omega), if_pos (by omega), Int.toNat_natCast]
section
variable {K : PySem.W.Frag} {w : World} {ρ : Rw} {σ : L2.St} {H : Hp} {ta tb te : TE} {P R S : V → Hp → Prop} {T : List Addr} {Dn : Ends} {tz tu : TS} {n : Nat} {fs : List Nat}
theorem q_asgE {i : Nat} (ok : RowOk K ρ H) (h : Er K ρ te σ H P) (k : ∀ v H1, Gr K ρ H H1 → P v H1 → tz Dn (σ.set i (some v)) H1) : tSeq (tAsg te (gName i)) tz Dn σ H := h H ok.refl _ fun v H1 g hv => k v H1 g hv
theorem er_is0 {i m : Nat} {E : XK} (hT : TabsG T H) (hi : σ[i]? = some (some (.ref ρ.row))) (hm : 1 ≤ m ∧ m ≤ 1000000) : ∀ H1, Gr K ρ H H1 → ∀ Q : Bool → Hp → Prop, (∀ b H2, Gr K ρ H1 H2 → Q b H2) → tTest (tOp (rEqD K) (tCall (sp_taken K T) [] E (tCons (tVar i) (tCons (tC (.int (m : Int))) tNil))) (tC (.int 0))) σ H1 Q := fun H1 g Q q =>
  er_taken (m := m) hT hi hm (er_int (i := (m : Int))) H1 g _ fun v H2 g2 ⟨r, hr, hv⟩ => by
    subst hv
    exact ⟨.int (r : Int), .int 0, .int _, .int _, rfl, rfl, _, rfl, q _ H2 g2⟩
/-- base = list(pick(row, [one, other]) or ()) -/
theorem turn_a {p1 p2 : Option (List Ln)} {v7 v8 : V} (ok : RowOk K ρ H) (hT : TabsG T H) (h1 : σ[1]? = some (some (.ref ρ.row))) (h7 : σ[7]? = some (some v7)) (h8 : σ[8]? = some (some v8)) (k7 : KeyH H (pathD p1) v7) (k8 : KeyH H (pathD p2) v8)
    (hp : ∀ p q, p = p1 ∨ p = p2 → p = some q → q.length ≤ 60 ∧ ∀ l ∈ q, l ∈ allLines n fs)
    (k : ∀ l9 H', Gr K ρ H H' → H l9 = none → BaseOk ρ n fs 60 l9 H' → tz Dn (σ.set 9 (some (.ref l9))) H') :
    tSeq (tAsg (tCB (rListS K) (tCons (tOrT K (tCall (sp_pick K T) [] E0 (tCons (tVar 1) (tCons (tLst (tCons (tVar 7) (tCons (tVar 8) tNil))) tNil))) (tTup tNil)) tNil)) (gName 9)) tz Dn σ H := by
  have hl : Er K ρ (tLst (tCons (tVar 7) (tCons (tVar 8) tNil))) σ H (PLr ρ.row [pathD p1, pathD p2]) := (er (P := PL [pathD p1, pathD p2]) fun H1 g => (el_lst (ds := [pathD p1, pathD p2]) (ea_cons (ev_var (P := PD (pathD p1)) (g.d k7) h7) (ea_cons (ev_var (P := PD (pathD p2)) (g.d k8) h8) ea_nil)) (by simp)).ev).imp fun v H' ok' h => plr_of ok' (.inl (by simp)) h
  -- the tuple that becomes the list
  have fin : ∀ (ls : List Ln) (v : V) H1, Gr K ρ H H1 → ls.length ≤ 60 → (∀ l ∈ ls, l ∈ allLines n fs) → KeyH H1 (progD ls) v → rListS K [v] H1 fun x H2 => gName 9 x σ H2 fun σ2 H3 => tz Dn σ2 H3 := fun ls v H1 g hn hls hv => by
    obtain ⟨a, vs, rfl, a1, a2⟩ := hv
    refine ⟨a, vs, rfl, .inr (SqT.of a1), fun l9 h9 => ?_⟩
    have e := Gx.new (o := .lst vs) h9
    refine k l9 _ (g.gx e) (g.gm.dm l9 h9) ⟨⟨ls, vs, hn, hls, upd_same, mono_all e a2⟩, fun z => ?_⟩
    obtain ⟨_, _, _, f1, _⟩ := g.ok
    rw [← z, h9] at f1; cases f1
  unfold tSeq tAsg
  show tOrT _ _ _ _ _ _
  unfold tOrT
  refine er_pick hT h1 hl (by simp) (by simp) H ok.refl _ fun v H1 g ⟨d, hd, hv⟩ => ?_
  have hcase : ∃ p, (p = p1 ∨ p = p2) ∧ d = pathD p := by
    simp only [List.mem_cons, List.not_mem_nil, or_false] at hd
    rcases hd with rfl | rfl
    · exact ⟨p1, .inl rfl, rfl⟩
    · exact ⟨p2, .inr rfl, rfl⟩
  obtain ⟨p, hpp, rfl⟩ := hcase
  have empty : ∀ H1, Gr K ρ H H1 → tTup tNil σ H1 fun x H2 => rListS K [x] H2 fun x H2 => gName 9 x σ H2 fun σ2 H3 => tz Dn σ2 H3 := fun H1 g => ⟨by simp, fun q hq => by
    have e := Gx.new (o := .tup []) hq
    exact fin [] (.ref q) _ (g.gx e) (by simp) (fun _ h => by cases h) ⟨q, [], rfl, upd_same, rfl⟩⟩
  refine ⟨truD (pathD p), tru_of hv, ?_⟩
  cases p with
  | none => exact empty H1 g
  | some q =>
    obtain ⟨hq1, hq2⟩ := hp _ q hpp rfl
    cases q with
    | nil => exact empty H1 g
    | cons l r => exact fin (l :: r) v H1 g hq1 hq2 hv
/-- if base != [] and taken(row, 2) == 0: base[taken(row, len(base))] = pick(row, every_line(machine)) -/
theorem turn_b {Hs : Hp} {l9 : Addr} {v2 : V} {b : Nat} (hb : b ≤ 500) (mo : MOk n fs) (oks : RowOk K ρ Hs) (g : Gr K ρ Hs H) (hT : TabsG T H) (h1 : σ[1]? = some (some (.ref ρ.row))) (h2 : σ[2]? = some (some v2)) (k2 : KeyH H (mD n fs) v2) (h9 : σ[9]? = some (some (.ref l9))) (hn : Hs l9 = none) (B : BaseOk ρ n fs b l9 H)
    (k : ∀ H', Gr K ρ Hs H' → BaseOk ρ n fs b l9 H' → tz Dn σ H') :
    tSeq (tIfS (tAnd (tTest (tOp (rNeD K) (tVar 9) (tLst tNil))) (tTest (tOp (rEqD K) (tCall (sp_taken K T) [] E0 (tCons (tVar 1) (tCons (tC (.int 2)) tNil))) (tC (.int 0))))) (tAsg (tCall (sp_pick K T) [] E0 (tCons (tVar 1) (tCons (tCall (sp_all_lines T) [] E0 (tCons (tVar 2) tNil)) tNil))) (gSub (tVar 9) (tCall (sp_taken K T) [] E0 (tCons (tVar 1) (tCons (tCB (rLenV K) (tCons (tVar 9) tNil)) tNil))) rSetL)) tNext) tz Dn σ H := by
  obtain ⟨⟨ls, vs, hl, hls, ho, hk⟩, hne⟩ := B
  have hdep : ∀ d ∈ ls.map Ln.d, d.depth ≤ 59 := fun d hd => by
    obtain ⟨l, hl, rfl⟩ := List.mem_map.mp hd
    have := (ln_depth mo (List.mem_map.mpr ⟨l, hls l hl, rfl⟩)).1
    omega
  have stay : ∀ H', Gr K ρ H H' → tz Dn σ H' := fun H' g' => k H' (g.trans g') ⟨⟨ls, vs, hl, hls, g'.gm.lst hne ho, g'.gm.tk.all hk⟩, hne⟩
  unfold tSeq tIfS tAnd
  refine et_test (ev_neL (ls := []) (ev_var (P := PL (ls.map Ln.d)) ⟨l9, vs, rfl, ho, hk⟩ h9) (EvL.ev (el_lst (ds := []) ea_nil (by simp))) hdep (fun d hd => by cases hd)) H (Gx.refl H) _ fun H1 e1 => ?_
  have g1 := g.ok.gr e1
  cases hbb : (!decide (ls.map Ln.d = [])) with
  | false => exact stay H1 g1
  | true =>
  have hpos : 1 ≤ ls.length := by
    cases ls with
    | nil => simp at hbb
    | cons _ _ => simp
  rw [if_pos rfl]
  refine er_is0 (m := 2) (g1.tabs hT) h1 (by omega) H1 g1.ok.refl _ fun c H2 g2 => ?_
  have g12 := g1.trans g2
  cases c with
  | false => exact stay H2 g12
  | true =>
  rw [if_pos rfl]
  unfold tAsg gSub
  have hlen : ((allLines n fs).map Ln.d).length ≤ 1000000 := by rw [List.length_map]; have := lines_len mo; omega
  have hnem : 1 ≤ ((allLines n fs).map Ln.d).length := by rw [List.length_map]; exact all_ne mo
  refine er_pick (g12.tabs hT) h1 (er_every (g12.tabs hT) mo (g12.d k2) h2) hnem hlen H2 g12.ok.refl _ fun v H3 g3 ⟨d, hd, hv⟩ => ?_
  obtain ⟨l, hlm, rfl⟩ := List.mem_map.mp hd
  have g13 := g12.trans g3
  have hvl := ka_len hk
  rw [List.length_map] at hvl
  refine ⟨.ref l9, h9, ?_⟩
  have hlenE : Er K ρ (tCB (rLenV K) (tCons (tVar 9) tNil)) σ H3 (PD (nm ls.length)) := er fun H4 g4 => ev_isD (ev_lenL (ks := ls.map Ln.d) (ev_var (P := PL (ls.map Ln.d)) ⟨l9, vs, rfl, (g13.trans g4).gm.lst hne ho, (g13.trans g4).gm.tk.all hk⟩ h9)) (by rw [List.length_map])
  refine er_taken (m := ls.length) (g13.tabs hT) h1 ⟨hpos, by omega⟩ hlenE H3 g13.ok.refl _ fun u H4 g4 ⟨r, hr, hu⟩ => ?_
  subst hu
  have g14 := g13.trans g4
  have ho4 := g14.gm.lst hne ho
  have hk4 := g14.gm.tk.all hk
  refine ⟨l9, vs, (r : Int), r, rfl, rfl, ho4, ixN_nat (by omega), ?_⟩
  have gU := gr_fresh (o := .lst (vs.set r v)) oks hn (g.trans g14)
  refine k _ gU ⟨⟨ls.set r l, vs.set r v, by rw [List.length_set]; exact hl, fun m hm => ?_, upd_same, ?_⟩, hne⟩
  · rcases List.mem_or_eq_of_mem_set hm with h | rfl
    · exact hls m h
    · exact hlm
  · have tk : Tk H4 (upd H4 l9 (.lst (vs.set r v))) := Tk.lst ho4
    have hk5 := tk.all hk4
    have hv5 := tk.d (g4.d hv)
    rw [List.map_set]
    refine ka_of_get (by rw [List.length_set, List.length_set, List.length_map, hvl]) fun i d' v' e1 e2 => ?_
    by_cases hir : r = i
    · subst hir
      rw [List.getElem?_set_self (by rw [List.length_map]; exact hr)] at e1
      rw [List.getElem?_set_self (by omega)] at e2
      cases e1; cases e2
      exact hv5
    · rw [List.getElem?_set_ne hir] at e1 e2
      obtain ⟨d2, f1, f2⟩ := ka_get' hk5 e2
      rw [e1] at f1; cases f1
      exact f2
/-- if taken(row, 4) == 0: base.append(pick(row, every_line(machine))) -/
theorem turn_c {Hs : Hp} {l9 : Addr} {v2 : V} {b : Nat} (hb : b ≤ 500) (mo : MOk n fs) (oks : RowOk K ρ Hs) (g : Gr K ρ Hs H) (hT : TabsG T H) (h1 : σ[1]? = some (some (.ref ρ.row))) (h2 : σ[2]? = some (some v2)) (k2 : KeyH H (mD n fs) v2) (h9 : σ[9]? = some (some (.ref l9))) (hn : Hs l9 = none) (B : BaseOk ρ n fs b l9 H)
    (k : ∀ H', Gr K ρ Hs H' → BaseOk ρ n fs (b + 1) l9 H' → tz Dn σ H') :
    tSeq (tIfS (tTest (tOp (rEqD K) (tCall (sp_taken K T) [] E0 (tCons (tVar 1) (tCons (tC (.int 4)) tNil))) (tC (.int 0)))) (tDrop (tBM K "list" rAppend (tVar 9) (tCons (tCall (sp_pick K T) [] E0 (tCons (tVar 1) (tCons (tCall (sp_all_lines T) [] E0 (tCons (tVar 2) tNil)) tNil))) tNil))) tNext) tz Dn σ H := by
  obtain ⟨⟨ls, vs, hl, hls, ho, hk⟩, hne⟩ := B
  unfold tSeq tIfS
  refine er_is0 (m := 4) hT h1 (by omega) H g.ok.refl _ fun c H1 g1 => ?_
  cases c with
  | false => exact k H1 (g.trans g1) ⟨⟨ls, vs, by omega, hls, g1.gm.lst hne ho, g1.gm.tk.all hk⟩, hne⟩
  | true =>
  rw [if_pos rfl]
  have hlen : ((allLines n fs).map Ln.d).length ≤ 1000000 := by rw [List.length_map]; have := lines_len mo; omega
  have hnem : 1 ≤ ((allLines n fs).map Ln.d).length := by rw [List.length_map]; exact all_ne mo
  have ho1 := g1.gm.lst hne ho
  refine ⟨.ref l9, h9, .inl ⟨rfl, vs, SqL.of ho1⟩, ?_⟩
  refine er_pick (g1.tabs hT) h1 (er_every (g1.tabs hT) mo (g1.d k2) h2) hnem hlen H1 g1.ok.refl _ fun v H2 g2 ⟨d, hd, hv⟩ => ?_
  obtain ⟨l, hlm, rfl⟩ := List.mem_map.mp hd
  have hvl := ka_len hk
  rw [List.length_map] at hvl
  have g12 := g1.trans g2
  have ho2 := g12.gm.lst hne ho
  refine ⟨l9, vs, v, rfl, rfl, ho2, by rw [sizeLine_eq]; omega, ?_⟩
  have tk : Tk H2 (upd H2 l9 (.lst (vs ++ [v]))) := Tk.lst ho2
  refine k _ (gr_fresh (o := .lst (vs ++ [v])) oks hn (g.trans g12)) ⟨⟨ls ++ [l], vs ++ [v], by simp; omega, fun m hm => (List.mem_append.mp hm).elim (hls m) fun z => by rw [List.mem_singleton.mp z]; exact hlm, upd_same, ?_⟩, hne⟩
  rw [List.map_append]
  exact ka_app (tk.all (g12.gm.tk.all hk)) (ka_one (tk.d hv))
end
end LX

set_option maxRecDepth 100000
set_option maxHeartbeats 8000000
namespace LX
open PySem PySem.Spec PyProof.Rows L2 MDict GxR GQ
mutual
def Dv.noL : Dv → Bool
  | .tup xs => Dv.noLs xs
  | .lst _ => false
  | _ => true
def Dv.noLs : List Dv → Bool
  | [] => true
  | x :: xs => x.noL && Dv.noLs xs
end
mutual
theorem Tk.kv {H H' : Hp} (t : Tk H H') : ∀ (x : Dv) (v : V), x.noL = true → KV H x v → KV H' x v
  | .non, _, _, h => h
  | .bl _, _, _, h => h
  | .int _, _, _, h => h
  | .tup xs, _, n, ⟨a, vs, h0, h1, h2⟩ => ⟨a, vs, h0, t a vs h1, Tk.kvs t xs vs (by simpa [Dv.noL] using n) h2⟩
  | .lst xs, _, n, _ => by simp [Dv.noL] at n
theorem Tk.kvs {H H' : Hp} (t : Tk H H') : ∀ (xs : List Dv) (vs : List V), Dv.noLs xs = true → KVs H xs vs → KVs H' xs vs
  | [], _, _, h => h
  | x :: xs, _, n, ⟨v, r, h0, h1, h2⟩ => by
    simp only [Dv.noLs, Bool.and_eq_true] at n
    exact ⟨v, r, h0, Tk.kv t x v n.1 h1, Tk.kvs t xs r n.2 h2⟩
end
mutual
theorem noL_of : ∀ d : D, (ofD d).noL = true
  | .none => rfl
  | .num _ => rfl
  | .text _ => rfl
  | .tup ks => by simp only [ofD, Dv.noL]; exact noLs_of ks
theorem noLs_of : ∀ ks : List D, Dv.noLs (ofDs ks) = true
  | [] => rfl
  | k :: ks => by simp only [ofDs, Dv.noLs, noL_of k, noLs_of ks, Bool.and_self]
end
theorem noLs_all : ∀ {xs : List Dv}, (∀ x ∈ xs, x.noL = true) → Dv.noLs xs = true
  | [], _ => rfl
  | x :: xs, h => by simp only [Dv.noLs, h x List.mem_cons_self, noLs_all fun y hy => h y (List.mem_cons_of_mem _ hy), Bool.and_self]
/-- a value as the rounds make it -/
structure KOk (n : Nat) (fs : List Nat) (k : Vk) : Prop where
  ok : VkOk n fs k
  sh : k = .dict ∨ (∃ x, k = .val x ∧ x.noL = true) ∨ ∃ ls : List Ln, k = .val (.lst (ls.map lnV))
def PVL (ks : List Vk) : V → Hp → Prop := fun v H => ∃ p us, v = .ref p ∧ H p = some (.lst us) ∧ PsA (ks.map PVk) us H
theorem psa_mono {H H' : Hp} (e : Gx H H') : ∀ {ks : List Vk} {us : List V}, PsA (ks.map PVk) us H → PsA (ks.map PVk) us H'
  | [], _, h => h
  | k :: ks, us, ⟨v, r, h0, h1, h2⟩ => ⟨v, r, h0, PVk.mono e h1, psa_mono e h2⟩
instance {ks : List Vk} : Mono (PVL ks) := ⟨fun e ⟨p, us, h0, h1, h2⟩ => ⟨p, us, h0, e.kp p _ h1 (fun _ z => by cases z), psa_mono e h2⟩⟩
theorem psa_len' : ∀ {ks : List Vk} {us : List V} {H : Hp}, PsA (ks.map PVk) us H → us.length = ks.length
  | [], us, H, h => by rw [show us = [] from h]; rfl
  | k :: ks, us, H, ⟨v, r, h0, _, h2⟩ => by rw [h0, List.length_cons, psa_len' h2, List.length_cons]
theorem psa_app : ∀ {ks js : List Vk} {us vs : List V} {H : Hp}, PsA (ks.map PVk) us H → PsA (js.map PVk) vs H → PsA ((ks ++ js).map PVk) (us ++ vs) H
  | [], _, us, vs, H, h, h2 => by rw [show us = [] from h]; exact h2
  | k :: ks, js, us, vs, H, ⟨v, r, h0, h1, h2⟩, h3 => ⟨v, r ++ vs, by rw [h0]; rfl, h1, psa_app h2 h3⟩
theorem psa_get : ∀ {ks : List Vk} {us : List V} {H : Hp} {i : Nat} {v : V}, PsA (ks.map PVk) us H → us[i]? = some v → ∃ k ∈ ks, PVk k v H
  | [], us, H, i, v, h, e => by rw [show us = [] from h] at e; cases e
  | k :: ks, us, H, i, v, ⟨u, r, h0, h1, h2⟩, e => by
    subst h0
    cases i with
    | zero => cases e; exact ⟨k, List.mem_cons_self, h1⟩
    | succ j =>
      obtain ⟨k', a, b⟩ := psa_get (i := j) h2 (by simpa using e)
      exact ⟨k', List.mem_cons_of_mem _ a, b⟩
section
variable {K : PySem.W.Frag} {w : World} {ρ : Rw} {σ : L2.St} {H : Hp} {tb te : TE} {ta : TA} {P R S : V → Hp → Prop} {T : List Addr} {Dn : Ends} {tz tu : TS} {n : Nat} {fs : List Nat}
theorem pvk_gr {H' : Hp} {k : Vk} {v : V} (hk : KOk n fs k) (ok : RowOk K ρ H) (g : Gr K ρ H H') (h : PVk k v H) : PVk k v H' := by
  rcases hk.sh with rfl | ⟨x, rfl, hx⟩ | ⟨ls, rfl⟩
  · obtain ⟨a, h0, h1⟩ := h
    refine ⟨a, h0, g.gm.kp a _ (fun z => ?_) h1 (fun _ z => by cases z)⟩
    obtain ⟨_, _, _, f1, _⟩ := ok
    rw [z, f1] at h1; cases h1
  · exact Tk.kv g.gm.tk x v hx h
  · obtain ⟨a, vs, h0, h1, h2⟩ := h
    refine ⟨a, vs, h0, g.gm.lst (fun z => ?_) h1, Tk.kvs g.gm.tk _ vs (noLs_all fun x hx => ?_) h2⟩
    · obtain ⟨a', b', c', f1, _⟩ := ok
      rw [z, f1] at h1
      cases h1
      obtain ⟨x, g1, g2⟩ := kvs_get' (i := 1) (v := .int a') h2 rfl
      obtain ⟨l, _, rfl⟩ := List.mem_map.mp (List.mem_of_getElem? g1)
      rw [lnV_shape] at g2
      obtain ⟨p, us, e3, _⟩ := g2
      cases e3
    · obtain ⟨l, _, rfl⟩ := List.mem_map.mp hx
      exact noL_of _
theorem ev_lstK {ks : List Vk} (h : EvA ta σ H (ks.map PVk)) (hz : ks.length ≤ 1000) : Ev (tLst ta) σ H (PVL ks) := fun H1 e Q q =>
  h H1 e _ fun vs H2 e2 hv => by
    refine ⟨by rw [psa_len' hv, sizeLine_eq]; omega, fun p hp => ?_⟩
    have g := Gx.new (o := .lst vs) hp
    exact q _ _ (e2.trans g) ⟨p, vs, rfl, upd_same, psa_mono g hv⟩
theorem psa_pk : ∀ {xs : List Dv} {us : List V} {H : Hp}, PsA (xs.map PK) us H → KVs H xs us
  | [], us, H, h => h
  | x :: xs, us, H, ⟨v, r, h0, h1, h2⟩ => ⟨v, r, h0, h1, psa_pk h2⟩
theorem ev_tupV {xs : List Dv} (h : EvA ta σ H (xs.map PK)) (hz : xs.length ≤ 1000) : Ev (tTup ta) σ H (PK (.tup xs)) := fun H1 e Q q =>
  h H1 e _ fun vs H2 e2 hv => by
    have hv := psa_pk hv
    refine ⟨by rw [kvs_len hv, sizeLine_eq]; omega, fun p hp => ?_⟩
    have g := Gx.new (o := .tup vs) hp
    exact q _ _ (e2.trans g) ⟨p, vs, rfl, upd_same, KVs.mono g _ _ hv⟩
theorem ev_rep4 {k : Vk} (h : Ev te σ H (PVL [k])) : Ev (tOp rRep te (tC (.int 4))) σ H (PVL [k, k, k, k]) := fun H1 e Q q => h H1 e _ fun v H2 e2 hv => by
  obtain ⟨p, us, rfl, h1, h2⟩ := hv
  obtain ⟨u, r, rfl, hu, hr⟩ := h2
  have hr : r = [] := hr
  subst hr
  refine ⟨p, 4, [u], rfl, rfl, h1, by decide, by decide, by rw [sizeLine_eq]; simp, fun p2 hp2 => ?_⟩
  have g := Gx.new (o := .lst (List.replicate (4 : Int).toNat [u]).flatten) hp2
  have hu' := PVk.mono g hu
  exact q _ _ (e2.trans g) ⟨p2, [u, u, u, u], rfl, upd_same, u, _, rfl, hu', u, _, rfl, hu', u, _, rfl, hu', u, _, rfl, hu', rfl⟩
theorem ev_catK {ks js : List Vk} (ha : Ev te σ H (PVL ks)) (hb : Ev tb σ H (PVL js)) (hz : ks.length + js.length ≤ 1000) : Ev (tOp rCat te tb) σ H (PVL (ks ++ js)) :=
  ev_op2 ha hb fun x y H1 _ hx hy Q q => by
    obtain ⟨p, us, rfl, h1, h2⟩ := hx
    obtain ⟨p2, vs, rfl, h3, h4⟩ := hy
    refine ⟨p, p2, us, vs, rfl, rfl, h1, h3, by rw [psa_len' h2, psa_len' h4, sizeLine_eq]; omega, fun p3 hp3 => ?_⟩
    have g := Gx.new (o := .lst (us ++ vs)) hp3
    exact q _ _ g ⟨p3, us ++ vs, rfl, upd_same, psa_app (psa_mono g h2) (psa_mono g h4)⟩
theorem ev_dnew : Ev tDNewK σ H (PVk .dict) := fun H1 e Q q p hp => q _ _ (Gx.new hp) ⟨p, rfl, upd_same⟩
/-- value = pick(row, [..]) -/
theorem turn_d {l9 : Addr} {b : Nat} (hb : b ≤ 500) (ok : RowOk K ρ H) (hT : TabsG T H) (h1 : σ[1]? = some (some (.ref ρ.row))) (h9 : σ[9]? = some (some (.ref l9))) (B : BaseOk ρ n fs b l9 H)
    (k : ∀ v kk H', Gr K ρ H H' → KOk n fs kk → PVk kk v H' → tz Dn (σ.set 10 (some v)) H') :
    tSeq (tAsg (tCall (sp_pick K T) [] E0 (tCons (tVar 1) (tCons (tOp rCat (tOp rRep (tLst (tCons (tThen (tVar 9) (kTup K)) tNil)) (tC (.int 4))) (tLst (tCons (tVar 9) (tCons (tC .non) (tCons (tTup (tCons (tC .non) tNil)) (tCons tDNewK (tCons (tTup (tCons (tTup (tCons (tC (.int 0)) (tCons (tC (.int 0)) tNil))) tNil)) (tCons (tTup (tCons (tTup (tCons (tC (.bl true)) (tCons (tC (.int 0)) (tCons (tTup (tCons (tC (.int 0)) tNil)) tNil)))) tNil)) tNil)))))))) tNil))) (gName 10)) tz Dn σ H := by
  obtain ⟨⟨ls, vs, hl, hls, ho, hk⟩, hne⟩ := B
  have hpl : PL (ls.map Ln.d) (.ref l9) H := ⟨l9, vs, rfl, ho, hk⟩
  have eprog : progV ls = ofD (progD ls) := progV_eq ls
  have elst : (ofDs (ls.map Ln.d)) = ls.map lnV := by rw [ofDs_map, List.map_map]; rfl
  let ks : List Vk := [.val (progV ls), .val (progV ls), .val (progV ls), .val (progV ls)] ++ [.val (.lst (ls.map lnV)), .val .non, .val (.tup [.non]), .dict, .val (.tup [badV]), .val (.tup [boolV])]
  have hks : ∀ kk ∈ ks, KOk n fs kk := fun kk hkk => by
    have hp : KOk n fs (.val (progV ls)) := ⟨.inr (.inr ⟨_, rfl, by rw [List.length_map]; omega, fun y hy => by obtain ⟨l, hl, rfl⟩ := List.mem_map.mp hy; exact .inl ⟨l, hls l hl, rfl⟩⟩), .inr (.inl ⟨_, rfl, by rw [eprog]; exact noL_of _⟩)⟩
    simp only [ks, List.cons_append, List.nil_append, List.mem_cons, List.not_mem_nil, or_false] at hkk
    rcases hkk with rfl | rfl | rfl | rfl | rfl | rfl | rfl | rfl | rfl | rfl
    · exact hp
    · exact hp
    · exact hp
    · exact hp
    · exact ⟨.inr (.inl ⟨_, rfl⟩), .inr (.inr ⟨ls, rfl⟩)⟩
    · exact ⟨.inl rfl, .inr (.inl ⟨_, rfl, rfl⟩)⟩
    · exact ⟨.inr (.inr ⟨_, rfl, by simp, fun y hy => by rw [List.mem_singleton.mp hy]; exact .inr (.inl rfl)⟩), .inr (.inl ⟨_, rfl, rfl⟩)⟩
    · exact ⟨trivial, .inl rfl⟩
    · exact ⟨.inr (.inr ⟨_, rfl, by simp, fun y hy => by rw [List.mem_singleton.mp hy]; exact .inr (.inr (.inl rfl))⟩), .inr (.inl ⟨_, rfl, rfl⟩)⟩
    · exact ⟨.inr (.inr ⟨_, rfl, by simp, fun y hy => by rw [List.mem_singleton.mp hy]; exact .inr (.inr (.inr rfl))⟩), .inr (.inl ⟨_, rfl, rfl⟩)⟩
  have hlist : Ev (tOp rCat (tOp rRep (tLst (tCons (tThen (tVar 9) (kTup K)) tNil)) (tC (.int 4))) (tLst (tCons (tVar 9) (tCons (tC .non) (tCons (tTup (tCons (tC .non) tNil)) (tCons tDNewK (tCons (tTup (tCons (tTup (tCons (tC (.int 0)) (tCons (tC (.int 0)) tNil))) tNil)) (tCons (tTup (tCons (tTup (tCons (tC (.bl true)) (tCons (tC (.int 0)) (tCons (tTup (tCons (tC (.int 0)) tNil)) tNil)))) tNil)) tNil)))))))) σ H (PVL ks) := by
    refine ev_catK (ev_rep4 (ev_lstK (ks := [.val (progV ls)]) (ea_cons ?_ ea_nil) (by simp))) (ev_lstK (ks := [.val (.lst (ls.map lnV)), .val .non, .val (.tup [.non]), .dict, .val (.tup [badV]), .val (.tup [boolV])]) (ea_cons ?_ (ea_cons ?_ (ea_cons ?_ (ea_cons ev_dnew (ea_cons ?_ (ea_cons ?_ ea_nil)))))) (by simp)) (by simp)
    · have h := ev_kd (ev_tupOf (K := K) (ks := ls.map Ln.d) (ev_var (P := PL (ls.map Ln.d)) hpl h9))
      have e2 : ofD (.tup (ls.map Ln.d)) = progV ls := eprog.symm
      rw [e2] at h
      exact h
    · have : KV H (.lst (ls.map lnV)) (.ref l9) := ⟨l9, vs, rfl, ho, by rw [← elst]; exact kvs_of _ _ hk⟩
      exact ev_var (P := PVk (.val (.lst (ls.map lnV)))) this h9
    · exact fun H1 e Q q => q _ H1 (Gx.refl _) rfl
    · exact ev_tupV1 (x := .non) fun H1 e Q q => q _ H1 (Gx.refl _) rfl
    · exact ev_tupV1 (x := badV) (ev_tupV (xs := [.int 0, .int 0]) (ea_cons (fun H1 e Q q => q _ H1 (Gx.refl _) rfl) (ea_cons (fun H1 e Q q => q _ H1 (Gx.refl _) rfl) ea_nil)) (by simp))
    · exact ev_tupV1 (x := boolV) (ev_tupV (xs := [.bl true, .int 0, .tup [.int 0]]) (ea_cons (fun H1 e Q q => q _ H1 (Gx.refl _) rfl) (ea_cons (fun H1 e Q q => q _ H1 (Gx.refl _) rfl) (ea_cons (ev_tupV1 (x := .int 0) fun H1 e Q q => q _ H1 (Gx.refl _) rfl) ea_nil))) (by simp))
  unfold tSeq tAsg
  refine ⟨.ref ρ.row, h1, hlist H (Gx.refl _) _ fun v H2 e2 hv => ?_⟩
  obtain ⟨p, us, rfl, hp, hps⟩ := hv
  have hlen := psa_len' hps
  have hlen : us.length = 10 := hlen
  have g2 := ok.gr e2
  have hpr : p ≠ ρ.row := fun z => by
    obtain ⟨_, _, _, f1, _⟩ := g2.ok
    rw [z, f1] at hp
    cases hp
    simp at hlen
  refine ⟨g2.tabs hT, ρ, p, us, g2.ok, rfl, hpr, hp, by omega, by omega, fun i u H3 hi g3 => ?_⟩
  obtain ⟨kk, hkk, hu⟩ := psa_get hps hi
  exact k u kk H3 (g2.trans g3) (hks kk hkk) (pvk_gr (hks kk hkk) g2.ok g3 hu)
end
end LX

set_option maxRecDepth 100000
set_option maxHeartbeats 8000000
namespace LX
open PySem PySem.Spec PyProof.Rows L2 MDict GxR GQ
section
variable {P : Program} {K : PySem.W.Frag} {mg : Str → Option Value} {base : Heap} {w : World} {σ : L2.St} {H : Hp} {ta tb te : TE} {T : List Addr} {Dn : Ends} {tz tu : TS}
def sp_law (K : PySem.W.Frag) (T : List Addr) : Sp := fun vs H Q _ => TabsG T H ∧ ∃ (sc : Addr) (xs : List Int), vs = [.ref sc] ∧ SqL K H sc (xs.map V.int) ∧ ∀ H', Q (.bl true) H'
theorem dueD_len {q : Option (List Ln)} : dueD (q.map List.length) = lenD q := by cases q <;> rfl
/-- two alike lists of two are alike -/
theorem ev_same {x y : Dv} (hT : TabsG T H) (ha : Ev ta σ H (PK (.lst [x, y]))) (hb : Ev tb σ H (PK (.lst [x, y]))) (hx : x.dep = 0 ∧ x.seq = false) (hy : y.dep = 0 ∧ y.seq = false) :
    Ev (tCall (sp_alike T 2) [] E0 (tCons ta (tCons tb tNil))) σ H (PB true) := by
  have h := ev_call (T := T) (pre := fun x : AArg => x.a.dep ≤ 50 ∧ DOk 2 x.b) (A := fun x : AArg => [PK x.a, PK x.b]) (Rr := fun x => PB (decide (x.a = x.b))) (E := E0) (⟨.lst [x, y], .lst [x, y]⟩ : AArg) hT (ea_cons ha (ea_cons hb ea_nil)) ⟨by
    show Nat.max x.dep (Nat.max y.dep 0) + 1 ≤ 50
    rw [hx.1, hy.1]; decide, ⟨by simp, fun z hz => by
    simp only [List.mem_cons, List.not_mem_nil, or_false] at hz
    rcases hz with rfl | rfl
    · cases z <;> first | exact hx.2 | (simp [Dv.seq] at hx)
    · cases z <;> first | exact hy.2 | (simp [Dv.seq] at hy)⟩⟩
  exact h.imp fun v H' hv => by rw [show v = .bl _ from hv]; simp
theorem ev_lst2 {x y : Dv} (ha : Ev ta σ H (PK x)) (hb : Ev tb σ H (PK y)) : Ev (tLst (tCons ta (tCons tb tNil))) σ H (PK (.lst [x, y])) := fun H1 e Q q =>
  ea_cons (P := PK x) ha (ea_cons (P := PK y) hb ea_nil) H1 e _ fun vs H2 e2 ⟨v, _, e1, hv, u, _, e3, hu, e4⟩ => by
    subst e1; subst e3; subst e4
    refine ⟨by rw [sizeLine_eq]; show 2 ≤ _; decide, fun p hp => ?_⟩
    have g := Gx.new (o := .lst [v, u]) hp
    exact q _ _ (e2.trans g) ⟨p, [v, u], rfl, upd_same, v, [u], rfl, KV.mono g _ _ hv, u, [], rfl, KV.mono g _ _ hu, rfl⟩
theorem lenD_dv (q : Option (List Ln)) : (ofD (lenD q)).dep = 0 ∧ (ofD (lenD q)).seq = false := by cases q <;> exact ⟨rfl, rfl⟩
theorem path_none {p : Option (List Ln)} : decide (pathD p = .none) = p.isNone := by cases p <;> rfl
theorem len_none {p : Option (List Ln)} : decide (lenD p = .none) = p.isNone := by cases p <;> rfl
theorem lenD_none {p q : Option (List Ln)} (h : lenD q = lenD p) : q.isNone = p.isNone := by rw [← len_none, ← len_none, h]
theorem lenD_some {p : List Ln} {q : Option (List Ln)} (h : lenD q = lenD (some p)) : q.map List.length = some p.length := by
  cases q with
  | none => simp [lenD] at h
  | some q => simp only [lenD, NestedKey.num.injEq] at h; simp; omega
theorem showB_non {x : FArg} {p : Option (List Ln)} : showB x p (.val .non) = p.isNone := by
  cases p with
  | none => exact decide_eq_true rfl
  | some q => exact if_pos rfl
theorem q_row {sc : Addr} (hσ : σ[0]? = some (some (.ref sc))) (k : ∀ row, H row = none → tz Dn (σ.set 1 (some (.ref row))) (upd H row (.lst [.ref sc, .int 0, .int 903, .int 0]))) :
    tSeq (tAsg (tLst (tCons (tVar 0) (tCons (tC (.int 0)) (tCons (tC (.int 903)) (tCons (tC (.int 0)) tNil))))) (gName 1)) tz Dn σ H :=
  ⟨.ref sc, hσ, by rw [sizeLine_eq]; show 4 ≤ _; decide, fun row hrow => k row hrow⟩
theorem ev_parts_len {ws : List Wish} {v3 : V} {i : Nat} (hT : TabsG T H) (hw : WfW ws) (h : KeyH H (wsD ws) v3) (hi : σ[i]? = some (some v3)) : Ev (tCB (rLenV K) (tCons (tCall (sp_law_parts T) [] E0 (tCons (tVar i) tNil)) tNil)) σ H (PD (nm (partsW ws).length)) := fun H1 e Q q =>
  ev_call ws hT (ea_cons (ev_var (P := PD (wsD ws)) h hi) ea_nil) hw H1 e _ fun v H2 e2 ⟨ps, hps, nd, hm⟩ => by
    obtain ⟨l, us, rfl, a1, a2⟩ := hps
    refine ⟨.ref l, us.length, rfl, .inl ⟨us, SqL.of a1, rfl⟩, q _ H2 e2 ?_⟩
    have h1 : ps.length ≤ (partsW ws).length := Lost.nodup_le nd fun x hx => (hm x).mp hx
    have h2 : (partsW ws).length ≤ ps.length := Lost.nodup_le (partsW_nodup ws) fun x hx => (hm x).mpr hx
    have h3 := ka_len a2
    show V.int _ = V.int _
    congr 1
    omega
/-- the law's body keeps its promise -/
theorem pure_law (MT : ∀ x : FArg, GOk x → WGood x.n x.fs x.ws → MathOk x) : ∀ vs H Q E, sp_law K T vs H Q E → D_law.t K w (sp_machine K T) (sp_wishes K T) (sp_law_parts T) (sp_law_fewest T) (sp_alike T 2) (sp_least true T) (sp_least false T) (sp_short true T) (sp_short false T) (sp_law_does T) (sp_pick K T) (sp_taken K T) (sp_all_lines T) (sp_shows true T) (sp_shows false T) { nx := fun _ H' => Q .non H', rt := Q } (start D_law.N vs) H := by
  rintro vs H Q E ⟨hT, sc, xs, rfl, hs, k⟩
  have ret : ∀ (Dn : Ends) σ2 H2, Dn.rt = Q → tRet (tC (.bl true)) Dn σ2 H2 := fun Dn σ2 H2 hr => by
    show Dn.rt (.bl true) H2
    rw [hr]; exact k H2
  refine q_row rfl fun row hrow => ?_
  -- the row
  let ρ : Rw := ⟨row, sc, xs⟩
  have gx0 : Gx H (upd H row (.lst [.ref sc, .int 0, .int 903, .int 0])) := Gx.new hrow
  have ok1 : RowOk K ρ (upd H row (.lst [.ref sc, .int 0, .int 903, .int 0])) := by
    refine ⟨0, 903, 0, upd_same, gx0.sl hs, by decide, ?_⟩
    rcases hs with (hs | ⟨o, hs⟩) | hs
    · exact .inl fun z => by
        have z : sc = row := z
        rw [z, hrow] at hs; cases hs
    · exact .inl fun z => by
        have z : sc = row := z
        rw [z, hrow] at hs; cases hs
    · exact .inr (.inr hs)
  have hT1 := hT.mono gx0
  generalize upd H row (.lst [.ref sc, .int 0, .int 903, .int 0]) = H1 at ok1 hT1
  clear hT hs gx0 hrow
  -- the machine
  refine q_asgE (ρ := ρ) (K := K) (P := RMach) ok1 (er_call () hT1 rfl era_nil trivial) fun v2 H2 g2 ⟨n, fs, mo, k2⟩ => ?_
  have hT2 := g2.tabs hT1
  -- the wishes
  refine q_asgE (ρ := ρ) (K := K) (P := fun v H => ∃ ws, WGood n fs ws ∧ KeyH H (wsD ws) v) g2.ok (er_call (n, fs) hT2 rfl (era_cons (er fun H' g' => ev_var (P := PD (mD n fs)) (g'.d k2) rfl) era_nil) mo) fun v3 H3 g3 ⟨ws, wg, k3⟩ => ?_
  have hT3 := g3.tabs hT2
  have k23 := g3.d k2
  have hwf := wg_wf mo wg
  refine q_when (b := decide ((10 : Int) < ((partsW ws).length : Int))) (et_test (ev_gt (ev_parts_len hT3 hwf k3 rfl) ev_int)) (fun _ H4 e4 => ret _ _ _ rfl) fun hb H4 e4 => ?_
  have few : (partsW ws).length ≤ 10 := by have := of_decide_eq_false hb; omega
  have gok := wg_gok mo wg few
  let x : FArg := ⟨n, fs, ws, false⟩
  have gokb : ∀ b, GOk (x.wi b) := fun b => ⟨gok.f.wi b, gok.w⟩
  have M : ∀ b, MathOk (x.wi b) := fun b => MT (x.wi b) (gokb b) wg
  have r4 := g3.ok.gr e4
  have k24 := mono_d e4 k23
  have k34 := mono_d e4 k3
  have hT4 := hT3.mono e4
  have ok4 := r4.ok
  have hrowE : ρ.row = row := rfl
  -- the fewest lines
  have hfew : ∀ b, Ev (tCall (sp_law_fewest T) [] E0 (tCons (tVar 2) (tCons (tVar 3) (tCons (tC (.bl b)) tNil)))) [some (.ref sc), some (.ref row), some v2, some v3, none, none, none, none, none, none, none, none, none] H4 (RFew (x.wi b)) := fun b => ev_call (x.wi b) hT4 (ea_cons (ev_var (P := PD (mD n fs)) k24 rfl) (ea_cons (ev_var (P := PD (wsD ws)) k34 rfl) (ea_cons ev_bl ea_nil))) (gokb b).f
  haveI mono_few : ∀ b, Mono (RFew (x.wi b)) := fun b => ⟨fun e ⟨q, a, h⟩ => ⟨q, a, mono_d e h⟩⟩
  refine q_par2 (ea_cons (hfew false) (ea_cons (hfew true) ea_nil)) fun v5 v6 H5 e5 ⟨qf, lqf, k5⟩ ⟨qt, lqt, k6⟩ => ?_
  have k25 := mono_d e5 k24
  have k35 := mono_d e5 k34
  have hT5 := hT4.mono e5
  have ok5 := ok4.gx e5
  -- least_lines, least_gentle_lines
  have hleast : ∀ b q, LeastL (x.wi b) q → Ev (tCall (sp_least b T) [] E0 (tCons (tVar 2) (tCons (tVar 3) tNil))) [some (.ref sc), some (.ref row), some v2, some v3, none, some v5, some v6, none, none, none, none, none, none] H5 (PK (ofD (lenD q))) := fun b q lq => ev_kd ((ev_call (A := fun x : FArg => [PD (mD x.n x.fs), PD (wsD x.ws)]) x hT5 (ea_cons (ev_var (P := PD (mD n fs)) k25 rfl) (ea_cons (ev_var (P := PD (wsD ws)) k35 rfl) ea_nil)) (gokb false)).imp fun v H' ⟨p, lp, hp⟩ => by
    show KeyH H' (lenD q) v
    rw [(M b).len q p lq lp]; exact hp)
  refine q_pass (et_is (et_not (et_B (ev_same hT5 (ev_lst2 (hleast false qf lqf) (hleast true qt lqt)) (ev_lst2 (ev_kd (ev_var (P := PD (lenD qf)) k5 rfl)) (ev_kd (ev_var (P := PD (lenD qt)) k6 rfl))) (lenD_dv qf) (lenD_dv qt)))) rfl) fun H6 e6 => ?_
  have k26 := mono_d e6 k25
  have k36 := mono_d e6 k35
  have hT6 := hT5.mono e6
  -- shortest, shortest_gentle
  have hshort : ∀ b, Ev (tCall (sp_short b T) [] E0 (tCons (tVar 2) (tCons (tVar 3) tNil))) [some (.ref sc), some (.ref row), some v2, some v3, none, some v5, some v6, none, none, none, none, none, none] H6 (RBest (x.wi b)) := fun b => ev_call (A := fun x : FArg => [PD (mD x.n x.fs), PD (wsD x.ws)]) x hT6 (ea_cons (ev_var (P := PD (mD n fs)) k26 rfl) (ea_cons (ev_var (P := PD (wsD ws)) k36 rfl) ea_nil)) (gokb false)
  refine q_par2 (ea_cons (hshort false) (ea_cons (hshort true) ea_nil)) fun v7 v8 H7 e7 ⟨p1, lp1, k7⟩ ⟨p2, lp2, k8⟩ => ?_
  have k27 := mono_d e7 k26
  have k37 := mono_d e7 k36
  have k57 := mono_d (e6.trans e7) k5
  have k67 := mono_d (e6.trans e7) k6
  have hT7 := hT6.mono e7
  have n1 := lenD_none ((M false).len qf p1 lqf lp1)
  have n2 := lenD_none ((M true).len qt p2 lqt lp2)
  refine q_pass (et_is (et_or (et_test (ev_neB (ev_isB (ev_isN (ev_var (P := PD (pathD p1)) k7 rfl)) path_none) (ev_isB (ev_isN (ev_var (P := PD (lenD qf)) k57 rfl)) len_none))) fun _ => et_test (ev_neB (ev_isB (ev_isN (ev_var (P := PD (pathD p2)) k8 rfl)) path_none) (ev_isB (ev_isN (ev_var (P := PD (lenD qt)) k67 rfl)) len_none))) (by rw [n1, n2]; simp)) fun H8 e8 => ?_
  -- both do
  have hdoes : ∀ (b : Bool) (i j : Nat) (p q : Option (List Ln)) (vi vj : V) (σ : L2.St) H', Gx H7 H' → LeastL (x.wi b) q → LeastP (x.wi b) p → σ[i]? = some (some vi) → σ[j]? = some (some vj) → σ[2]? = some (some v2) → σ[3]? = some (some v3) → KeyH H' (pathD p) vi → KeyH H' (lenD q) vj →
      EvT (tAnd (tB (tNotN (tVar i))) (tNot (tB (tCall (sp_law_does T) [] E0 (tCons (tVar 2) (tCons (tVar i) (tCons (tVar 3) (tCons (tVar j) (tCons (tC (.bl b)) tNil))))))))) σ H' false := fun b i j p q vi vj σ H' e lq lp hi hj h2 h3 hp hq => by
    cases p with
    | none => exact et_is (et_and (a := false) (b := false) (et_is (et_B (ev_nNon (ev_var (P := PD (pathD none)) hp hi))) (by simp [pathD])) fun z => Bool.noConfusion z) rfl
    | some p =>
      obtain ⟨m1, m2⟩ := (M b).mem p lp
      have hl := lenD_some ((M b).len q _ lq lp)
      have hk : VkOk n fs (.val (progV p)) := .inr (.inr ⟨_, rfl, by rw [List.length_map]; omega, fun y hy => by obtain ⟨l, hl, rfl⟩ := List.mem_map.mp hy; exact .inl ⟨l, m2 l hl, rfl⟩⟩)
      have hv : PVk (.val (progV p)) vi H' := by
        show KV H' (progV p) vi
        rw [progV_eq]; exact kv_of _ _ hp
      have hd : KeyH H' (dueD (q.map List.length)) vj := by rw [dueD_len]; exact hq
      refine et_is (et_and (et_B (ev_nNon (ev_var (P := PD (pathD (some p))) hp hi))) fun _ => et_not (et_B (ev_call (⟨x.wi b, .val (progV p), q.map List.length⟩ : DArg) (hT7.mono e) (ea_cons (ev_var (P := PD (mD n fs)) (mono_d e k27) h2) (ea_cons (ev_var (P := PVk (.val (progV p))) hv hi) (ea_cons (ev_var (P := PD (wsD ws)) (mono_d e k37) h3) (ea_cons (ev_var (P := PD (dueD (q.map List.length))) hd hj) (ea_cons ev_bl ea_nil))))) ⟨(gokb b).f, hk⟩))) ?_
      rw [hl, (M b).does p lp]
      simp
  refine q_pass (hdoes false 7 5 p1 qf v7 v5 _ H8 e8 lqf lp1 rfl rfl rfl rfl (mono_d e8 k7) (mono_d e8 k57)) fun H9 e9 => ?_
  have e89 := e8.trans e9
  refine q_pass (hdoes true 8 6 p2 qt v8 v6 _ H9 e89 lqt lp2 rfl rfl rfl rfl (mono_d e89 k8) (mono_d e89 k67)) fun H10 e10 => ?_
  have e7a := e89.trans e10
  have okA : RowOk K ρ H10 := ((ok5.gx e6).gx e7).gx e7a
  have hTA := hT7.mono e7a
  have k2A := mono_d e7a k27
  have k3A := mono_d e7a k37
  have k5A := mono_d e7a k57
  have k6A := mono_d e7a k67
  have k7A := mono_d e7a k7
  have k8A := mono_d e7a k8
  have hpaths : ∀ p q, p = p1 ∨ p = p2 → p = some q → q.length ≤ 60 ∧ ∀ l ∈ q, l ∈ allLines n fs := fun p q h e => by
    rcases h with rfl | rfl
    · subst e; exact (M false).mem q lp1
    · subst e; exact (M true).mem q lp2
  -- the rounds
  refine (show tSeq (tFor _ _ _) _ _ _ H10 from s_forR (n := 6) (ev_int (i := 6)) (by omega) (fun i σ' H' => (∃ x4 x9 x10 x11 x12, σ' = [some (.ref sc), some (.ref row), some v2, some v3, x4, some v5, some v6, some v7, some v8, x9, x10, x11, x12]) ∧ Gr K ρ H10 H')
    (fun H11 e11 => ⟨⟨_, _, _, _, _, rfl⟩, okA.gr e11⟩) (fun i σ' Hs hi p => ?_) fun σ' H' p => by have := ret { nx := fun _ H' => Q .non H', rt := Q } σ' H' rfl; exact this)
  obtain ⟨⟨x4, x9, x10, x11, x12, rfl⟩, gs⟩ := p
  have oks := gs.ok
  have hTs := gs.tabs hTA
  refine (show tSeq _ _ _ _ Hs from turn_a (p1 := p1) (p2 := p2) oks hTs rfl rfl rfl (gs.d k7A) (gs.d k8A) hpaths fun l9 Hb gb hn9 Bb => ?_)
  refine turn_b (by omega) mo oks gb (gb.tabs hTs) rfl rfl (gb.d (gs.d k2A)) rfl hn9 Bb fun Hc gc Bc => ?_
  refine turn_c (by omega) mo oks gc (gc.tabs hTs) rfl rfl (gc.d (gs.d k2A)) rfl hn9 Bc fun Hd gd Bd => ?_
  refine turn_d (b := 61) (by omega) gd.ok (gd.tabs hTs) rfl rfl Bd fun v10 kk He ge hkk k10 => ?_
  have gse := gs.trans (gd.trans ge)
  have hTe := gse.tabs hTA
  have k2e := gse.d k2A
  have k3e := gse.d k3A
  have k5e := gse.d k5A
  have k6e := gse.d k6A
  -- due
  have hdue : ∀ (b : Bool) (j : Nat) (q : Option (List Ln)) (vj : V) (σ : L2.St), σ[j]? = some (some vj) → σ[10]? = some (some v10) → σ[2]? = some (some v2) → σ[3]? = some (some v3) → KeyH He (lenD q) vj →
      Ev (tCall (sp_law_does T) [] E0 (tCons (tVar 2) (tCons (tVar 10) (tCons (tVar 3) (tCons (tVar j) (tCons (tC (.bl b)) tNil)))))) σ He (PK (.bl (doesV (x.wi b) kk (q.map List.length)))) := fun b j q vj σ hj h10 h2 h3 hq =>
    ev_call (⟨x.wi b, kk, q.map List.length⟩ : DArg) hTe (ea_cons (ev_var (P := PD (mD n fs)) k2e h2) (ea_cons (ev_var (P := PVk kk) k10 h10) (ea_cons (ev_var (P := PD (wsD ws)) k3e h3) (ea_cons (ev_var (P := PD (dueD (q.map List.length))) (by rw [dueD_len]; exact hq) hj) (ea_cons ev_bl ea_nil))))) ⟨(gokb b).f, hkk.ok⟩
  refine q_asg (P := PK (.lst [.bl (doesV (x.wi false) kk (qf.map List.length)), .bl (doesV (x.wi true) kk (qt.map List.length))])) (ev_lst2 (hdue false 5 qf v5 _ rfl rfl rfl rfl k5e) (hdue true 6 qt v6 _ rfl rfl rfl rfl k6e)) fun v11 Hf ef k11 => ?_
  -- what is due in the end
  let due : Bool → Option (List Ln) → Bool := fun b q => if kk = .val .non then q.isNone else doesV (x.wi b) kk (q.map List.length)
  have k10f := PVk.mono ef k10
  have k2f := mono_d ef k2e
  have k3f := mono_d ef k3e
  have k5f := mono_d ef k5e
  have k6f := mono_d ef k6e
  have hTf := hTe.mono ef
  have cont : ∀ w11 Hg, Gx Hf Hg → KV Hg (.lst [.bl (due false qf), .bl (due true qt)]) w11 → ∀ (Dn : Ends), Dn.rt = Q → (∀ σ' H', (∃ x4 x9 x10 x11 x12, σ' = [some (.ref sc), some (.ref row), some v2, some v3, x4, some v5, some v6, some v7, some v8, x9, x10, x11, x12]) ∧ Gr K ρ H10 H' → Dn.nx σ' H') →
      (tSeq (tAsg (tLst (tCons (tCall (sp_shows false T) [] E0 (tCons (tVar 2) (tCons (tVar 3) (tCons (tVar 10) tNil)))) (tCons (tCall (sp_shows true T) [] E0 (tCons (tVar 2) (tCons (tVar 3) (tCons (tVar 10) tNil)))) tNil))) (gName 12))
        (tIfS (tNot (tB (tCall (sp_alike T 2) [] E0 (tCons (tVar 12) (tCons (tVar 11) tNil))))) (tRet (tC (.bl false))) tNext)) Dn [some (.ref sc), some (.ref row), some v2, some v3, some (.int (i : Int)), some v5, some v6, some v7, some v8, some (.ref l9), some v10, some w11, x12] Hg := fun w11 Hg eg hw Dn hrt hnx => by
    have hsh : ∀ (b : Bool) (q : Option (List Ln)), LeastL (x.wi b) q → Ev (tCall (sp_shows b T) [] E0 (tCons (tVar 2) (tCons (tVar 3) (tCons (tVar 10) tNil)))) [some (.ref sc), some (.ref row), some v2, some v3, some (.int (i : Int)), some v5, some v6, some v7, some v8, some (.ref l9), some v10, some w11, x12] Hg (PK (.bl (due b q))) := fun b q lq =>
      (ev_call (A := fun y : SArg => [PD (mD y.x.n y.x.fs), PD (wsD y.x.ws), PVk y.k]) (⟨x, kk⟩ : SArg) (hTf.mono eg) (ea_cons (ev_var (P := PD (mD n fs)) (mono_d eg k2f) rfl) (ea_cons (ev_var (P := PD (wsD ws)) (mono_d eg k3f) rfl) (ea_cons (ev_var (P := PVk kk) (PVk.mono eg k10f) rfl) ea_nil))) ⟨gokb false, hkk.ok⟩).imp fun v H' ⟨p, lp, hv⟩ => by
        show v = .bl (due b q)
        rw [hv]
        congr 1
        show showB (x.wi b) p kk = if kk = .val .non then q.isNone else doesV (x.wi b) kk (q.map List.length)
        by_cases hnon : kk = .val .non
        · rw [if_pos hnon, hnon, showB_non]
          exact (lenD_none ((M b).len q p lq lp)).symm
        · rw [if_neg hnon]
          exact (M b).shows q p kk lq lp hkk.ok hnon
    refine q_asg (P := PK (.lst [.bl (due false qf), .bl (due true qt)])) (ev_lst2 (hsh false qf lqf) (hsh true qt lqt)) fun v12 Hh eh k12 => ?_
    refine s_pass (et_is (et_not (et_B (ev_same (x := .bl (due false qf)) (y := .bl (due true qt)) ((hTf.mono eg).mono eh) (ev_var (P := PK (.lst [.bl (due false qf), .bl (due true qt)])) k12 rfl) (ev_var (P := PK (.lst [.bl (due false qf), .bl (due true qt)])) (KV.mono eh _ _ hw) rfl) ⟨rfl, rfl⟩ ⟨rfl, rfl⟩))) rfl) fun Hi ei => ?_
    exact hnx _ Hi ⟨⟨_, _, _, _, _, rfl⟩, gse.gx (((ef.trans eg).trans eh).trans ei)⟩
  obtain ⟨bn, pn, hbn⟩ := isn_vk (k := kk) (ev_var (P := PVk kk) (σ := [some (.ref sc), some (.ref row), some v2, some v3, some (.int (i : Int)), some v5, some v6, some v7, some v8, some (.ref l9), some v10, some v11, x12]) (i := 10) k10f rfl)
  refine q_when (et_B hbn) (fun hb2 Hg eg => ?_) fun hb2 Hg eg => ?_
  · have hnon := pn.mp hb2
    refine s_asg (P := PK (.lst [.bl (due false qf), .bl (due true qt)])) (ev_lst2 (x := .bl (due false qf)) (y := .bl (due true qt)) ?_ ?_) fun w11 Hh eh hw => cont w11 Hh (eg.trans eh) hw _ rfl fun σ' H' p => p
    · have : due false qf = qf.isNone := if_pos hnon
      rw [this]
      exact ev_isB (ev_isN (ev_var (P := PD (lenD qf)) (mono_d eg k5f) rfl)) len_none
    · have : due true qt = qt.isNone := if_pos hnon
      rw [this]
      exact ev_isB (ev_isN (ev_var (P := PD (lenD qt)) (mono_d eg k6f) rfl)) len_none
  · have hnon : kk ≠ .val .non := fun z => by rw [pn.mpr z] at hb2; cases hb2
    have e1 : due false qf = doesV (x.wi false) kk (qf.map List.length) := if_neg hnon
    have e2 : due true qt = doesV (x.wi true) kk (qt.map List.length) := if_neg hnon
    exact cont v11 Hg eg (by rw [e1, e2]; exact KV.mono eg _ _ k11) _ rfl fun σ' H' p => p
end
end LX

set_option maxRecDepth 100000
set_option maxHeartbeats 8000000
namespace LX
open PySem PySem.Spec PyProof.Rows L2 MDict GxR GQ
/-! ### what the top has written, told by names -/
def fnH0 : List He.DefD := [⟨("is_number", none), "is_number", "is_number", defArgs D_is_number.st, defBody D_is_number.st, defScope D_is_number.st, [], []⟩,
  ⟨("need_machine", none), "need_machine", "need_machine", defArgs D_need_machine.st, defBody D_need_machine.st, defScope D_need_machine.st, [], []⟩,
  ⟨("is_soft", none), "is_soft", "is_soft", defArgs D_is_soft.st, defBody D_is_soft.st, defScope D_is_soft.st, [], []⟩,
  ⟨("depth", none), "depth", "depth", defArgs D_depth.st, defBody D_depth.st, defScope D_depth.st, [], []⟩,
  ⟨("is_term", none), "is_term", "is_term", defArgs D_is_term.st, defBody D_is_term.st, defScope D_is_term.st, [.int 8], []⟩,
  ⟨("first_terms", none), "first_terms", "first_terms", defArgs D_first_terms.st, defBody D_first_terms.st, defScope D_first_terms.st, [], []⟩,
  ⟨("done", none), "done", "done", defArgs D_done.st, defBody D_done.st, defScope D_done.st, [], []⟩,
  ⟨("behind", none), "behind", "behind", defArgs D_behind.st, defBody D_behind.st, defScope D_behind.st, [], []⟩,
  ⟨("is_wish", none), "is_wish", "is_wish", defArgs D_is_wish.st, defBody D_is_wish.st, defScope D_is_wish.st, [], []⟩,
  ⟨("need_wishes", none), "need_wishes", "need_wishes", defArgs D_need_wishes.st, defBody D_need_wishes.st, defScope D_need_wishes.st, [], []⟩,
  ⟨("fulfilled", none), "fulfilled", "fulfilled", defArgs D_fulfilled.st, defBody D_fulfilled.st, defScope D_fulfilled.st, [], []⟩,
  ⟨("parts_of", none), "parts_of", "parts_of", defArgs D_parts_of.st, defBody D_parts_of.st, defScope D_parts_of.st, [], []⟩,
  ⟨("all_parts", none), "all_parts", "all_parts", defArgs D_all_parts.st, defBody D_all_parts.st, defScope D_all_parts.st, [], []⟩,
  ⟨("all_lines", none), "all_lines", "all_lines", defArgs D_all_lines.st, defBody D_all_lines.st, defScope D_all_lines.st, [], []⟩,
  ⟨("best", none), "best", "best", defArgs D_best.st, defBody D_best.st, defScope D_best.st, [], []⟩]
def fnH1 : List He.DefD := [⟨("need_both", none), "need_both", "need_both", defArgs D_need_both.st, defBody D_need_both.st, defScope D_need_both.st, [], []⟩,
  ⟨("shortest", none), "shortest", "shortest", defArgs D_shortest.st, defBody D_shortest.st, defScope D_shortest.st, [], []⟩,
  ⟨("shortest_gentle", none), "shortest_gentle", "shortest_gentle", defArgs D_shortest_gentle.st, defBody D_shortest_gentle.st, defScope D_shortest_gentle.st, [], []⟩,
  ⟨("least_lines", none), "least_lines", "least_lines", defArgs D_least_lines.st, defBody D_least_lines.st, defScope D_least_lines.st, [], []⟩,
  ⟨("least_gentle_lines", none), "least_gentle_lines", "least_gentle_lines", defArgs D_least_gentle_lines.st, defBody D_least_gentle_lines.st, defScope D_least_gentle_lines.st, [], []⟩,
  ⟨("is_program", none), "is_program", "is_program", defArgs D_is_program.st, defBody D_is_program.st, defScope D_is_program.st, [], []⟩,
  ⟨("is_plain", none), "is_plain", "is_plain", defArgs D_is_plain.st, defBody D_is_plain.st, defScope D_is_plain.st, [], []⟩,
  ⟨("shows_best", none), "shows_best", "shows_best", defArgs D_shows_best.st, defBody D_shows_best.st, defScope D_shows_best.st, [], []⟩,
  ⟨("shows_shortest", none), "shows_shortest", "shows_shortest", defArgs D_shows_shortest.st, defBody D_shows_shortest.st, defScope D_shows_shortest.st, [], []⟩,
  ⟨("shows_shortest_gentle", none), "shows_shortest_gentle", "shows_shortest_gentle", defArgs D_shows_shortest_gentle.st, defBody D_shows_shortest_gentle.st, defScope D_shows_shortest_gentle.st, [], []⟩,
  ⟨("_law_taken", none), "_law_taken", "_law_taken", defArgs D_law_taken.st, defBody D_law_taken.st, defScope D_law_taken.st, [], []⟩,
  ⟨("_law_machine", none), "_law_machine", "_law_machine", defArgs D_law_machine.st, defBody D_law_machine.st, defScope D_law_machine.st, [], []⟩,
  ⟨("_law_did", none), "_law_did", "_law_did", defArgs D_law_did.st, defBody D_law_did.st, defScope D_law_did.st, [], []⟩,
  ⟨("_law_deep", none), "_law_deep", "_law_deep", defArgs D_law_deep.st, defBody D_law_deep.st, defScope D_law_deep.st, [], []⟩,
  ⟨("_law_tame", none), "_law_tame", "_law_tame", defArgs D_law_tame.st, defBody D_law_tame.st, defScope D_law_tame.st, [], []⟩]
def fnH2 : List He.DefD := [⟨("_law_every_line", none), "_law_every_line", "_law_every_line", defArgs D_law_every_line.st, defBody D_law_every_line.st, defScope D_law_every_line.st, [], []⟩,
  ⟨("_law_pick", none), "_law_pick", "_law_pick", defArgs D_law_pick.st, defBody D_law_pick.st, defScope D_law_pick.st, [], []⟩,
  ⟨("_law_program", none), "_law_program", "_law_program", defArgs D_law_program.st, defBody D_law_program.st, defScope D_law_program.st, [], []⟩,
  ⟨("_law_ran", none), "_law_ran", "_law_ran", defArgs D_law_ran.st, defBody D_law_ran.st, defScope D_law_ran.st, [], []⟩,
  ⟨("_law_wishes", none), "_law_wishes", "_law_wishes", defArgs D_law_wishes.st, defBody D_law_wishes.st, defScope D_law_wishes.st, [], []⟩,
  ⟨("_law_parts", none), "_law_parts", "_law_parts", defArgs D_law_parts.st, defBody D_law_parts.st, defScope D_law_parts.st, [], []⟩,
  ⟨("_law_fewest", none), "_law_fewest", "_law_fewest", defArgs D_law_fewest.st, defBody D_law_fewest.st, defScope D_law_fewest.st, [], []⟩,
  ⟨("_law_alike", none), "_law_alike", "_law_alike", defArgs D_law_alike.st, defBody D_law_alike.st, defScope D_law_alike.st, [], []⟩,
  ⟨("_law_does", none), "_law_does", "_law_does", defArgs D_law_does.st, defBody D_law_does.st, defScope D_law_does.st, [], []⟩,
  ⟨("law", none), "law", "law", defArgs D_law.st, defBody D_law.st, defScope D_law.st, [], []⟩,
  ⟨("Search", some "__init__"), "__init__", "Search.__init__", defArgs D_Search_init.st, defBody D_Search_init.st, defScope D_Search_init.st, [], []⟩,
  ⟨("Search", some "behind"), "behind", "Search.behind", defArgs D_Search_behind.st, defBody D_Search_behind.st, defScope D_Search_behind.st, [], []⟩,
  ⟨("Search", some "shortest"), "shortest", "Search.shortest", defArgs D_Search_shortest.st, defBody D_Search_shortest.st, defScope D_Search_shortest.st, [], []⟩,
  ⟨("TooMany", some "__init__"), "__init__", "TooMany.__init__", defArgs D_TM.st, defBody D_TM.st, defScope D_TM.st, [], []⟩]
def fnH : List He.DefD := fnH0 ++ fnH1 ++ fnH2
def faH0 : List He.Fa := [.glo "is_number", .glo "need_machine", .glo "is_soft", .glo "depth", .glo "is_term", .glo "first_terms", .glo "done", .glo "behind", .glo "is_wish", .glo "need_wishes", .glo "fulfilled", .glo "parts_of", .glo "all_parts", .glo "all_lines", .glo "best", .glo "need_both", .glo "shortest", .glo "shortest_gentle", .glo "least_lines", .glo "least_gentle_lines", .glo "is_program", .glo "is_plain", .glo "shows_best", .glo "shows_shortest", .glo "shows_shortest_gentle", .glo "_law_taken", .glo "_law_machine", .glo "_law_did", .glo "_law_deep", .glo "_law_tame"]
def faH1 : List He.Fa := [.glo "_law_every_line", .glo "_law_pick", .glo "_law_program", .glo "_law_ran", .glo "_law_wishes", .glo "_law_parts", .glo "_law_fewest", .glo "_law_alike", .glo "_law_does", .glo "law", .glo "Search", .glo "TooMany", .free "isinstance", .free "len", .free "max", .free "all", .free "any", .free "range", .free "enumerate", .free "int", .free "bool", .free "str", .free "tuple", .free "list", .int "MOST_CELLS" (4), .int "MOST_FUNCTIONS" (3), .int "MOST_READ" (2), .int "MOST_LINES" (60), .int "MOST_DEEP" (8), .int "MOST_PARTS" (16)]
def faH2 : List He.Fa := [.int "NOTHING" (-1), .cls "Search", .noat "Search" "parts", .noat "Search" "terms", .noat "Search" "goal", .noat "Search" "moves", .noat "Search" "start", .meth "Search" "behind", .meth "Search" "shortest", .mkr "Search", .exm "TooMany" "TooMany" true, .noat "TooMany" "most"]
def faH : List He.Fa := faH0 ++ faH1 ++ faH2
def tfH : List He.Defn := [("need_machine", none), ("is_term", none), ("fulfilled", none), ("Search", some "behind"), ("Search", some "shortest"), ("is_program", none), ("is_plain", none), ("shows_best", none)]
/-- the error's class -/
def oexB (K : PySem.W.Frag) (C : Addr) : Bool := match K.lookup C with
  | some ⟨.type "type", _, .cls cd, sl⟩ => (match cd.mro, sl.toList with
    | .ref C' :: bm, [_, _, _, _, some (.builtin n), _] => C' == C && (n == "ValueError.__new__" && (!cd.hasDel && (cd.hasDict && PySem.HandSPX.refsVE bm)))
    | _, _ => false)
  | _ => false
theorem oexB_ok {K : PySem.W.Frag} {C : Addr} (q : oexB K C = true) : ∃ nm q N bs bm sn sub ab col dd k0 k1 k2 k3 k5, K.lookup C = some (excClassObj nm q C N bs bm true sn sub ab col dd k0 k1 k2 k3 k5 "ValueError.__new__") ∧ PySem.HandSPX.refsVE bm = true := by
  unfold oexB at q
  split at q
  · rename_i dd cd sl ho
    split at q
    · rename_i C' bm k0 k1 k2 k3 n k5 hm hs
      simp only [Bool.and_eq_true, beq_iff_eq, Bool.not_eq_true'] at q
      obtain ⟨rfl, rfl, hdel, hdct, hbm⟩ := q
      obtain ⟨nm, bs, mro, ns, qn, hd, sn, sub, ab, col, del⟩ := cd
      dsimp only at hm hdel hdct
      subst hm hdel hdct
      have hsl : sl = #[k0, k1, k2, k3, some (.builtin "ValueError.__new__"), k5] := by
        obtain ⟨l⟩ := sl
        simp only at hs
        rw [hs]
      subst hsl
      exact ⟨nm, qn, ns, bs, bm, sn, sub, ab, col, dd, k0, k1, k2, k3, k5, ho, hbm⟩
    · cases q
  · cases q
def exH (K : PySem.W.Frag) : Bool := oexB K (He.ga K "TooMany") && (decide (PySem.W.findIn K (.ref (He.ga K "TooMany")) "__setattr__" = some (some (.builtin "object.__setattr__"))) && (decide (PySem.W.subIn K (.ref (He.ga K "TooMany")) (.type "BaseException") = some true) && (decide (PySem.W.typeIn K (.ref (He.ga K "TooMany")) = some (.type "type")) && (PySem.W.keepIn K (.ref (He.ga K "TooMany")) &&
  (decide (PySem.W.findIn K (.ref (He.ga K "TooMany")) "__init__" = some (some (.ref (He.ma K (He.ga K "TooMany") "__init__")))) && decide (PySem.W.typeIn K (.ref (He.ma K (He.ga K "TooMany") "__init__")) = some (.type "function")))))))
section
variable {P : Program} {w : World} {K : PySem.W.Frag} {h : Heap} {mg : Str → Option Value} {f : Addr}
theorem FunD_fd {x q : Str} {pa pa' : Arguments} {bo bo' : List Stmt} {sc sc' : Scope} {d d' : List V} {ks ks' : List (Str × V)} {x' q' : Str} {fd fd' : FuncData} (h1 : FunD K x q pa bo sc d ks f fd) (h2 : FunD K x' q' pa' bo' sc' d' ks' f fd') : fd = fd' := by
  obtain ⟨oc, od, dV, kV, doc, pm, an, cdv, ct, osl, e1, l1, _⟩ := h1.ex
  obtain ⟨oc', od', dV', kV', doc', pm', an', cdv', ct', osl', e2, l2, _⟩ := h2.ex
  rw [l1] at l2
  cases l2
  rfl
theorem tabB_of {base : Heap} {c Pt : Addr} (t : LamX.TabB base mg c Pt) : TabB base mg c Pt := ⟨t.code, t.bm, t.gP⟩
theorem law_ok (MT : ∀ x : FArg, GOk x → WGood x.n x.fs x.ws → MathOk x) (X : K.In h) (G : h.Ns mainGlobals mg) (hfa : mg ("law" : Str) = some (.ref f)) (c : He.SaysX faH fnH [] tfH exH w h K) :
    ∃ fd : FuncData, (∀ (s : Shared) (v : Value), BindsTo s fd ⟨[v], []⟩ [("_law_script", v)]) ∧ ∀ base : Heap, K.In base → base.Ns mainGlobals mg → (∀ p ∈ tfH.map (He.cT K), LamX.TabB base mg p.1 p.2) → FnOk P w K mg base CX0 50 f fd ["_law_script"] (sp_law K ((tfH.map (He.cT K)).map (·.2))) := by
  have cd := c.t.d
  have G_is_number := He.glo_ok X G (cd.fact 0 (f := .glo "is_number") rfl)
  have G_need_machine := He.glo_ok X G (cd.fact 1 (f := .glo "need_machine") rfl)
  have G_is_soft := He.glo_ok X G (cd.fact 2 (f := .glo "is_soft") rfl)
  have G_depth := He.glo_ok X G (cd.fact 3 (f := .glo "depth") rfl)
  have G_is_term := He.glo_ok X G (cd.fact 4 (f := .glo "is_term") rfl)
  have G_first_terms := He.glo_ok X G (cd.fact 5 (f := .glo "first_terms") rfl)
  have G_done := He.glo_ok X G (cd.fact 6 (f := .glo "done") rfl)
  have G_behind := He.glo_ok X G (cd.fact 7 (f := .glo "behind") rfl)
  have G_is_wish := He.glo_ok X G (cd.fact 8 (f := .glo "is_wish") rfl)
  have G_need_wishes := He.glo_ok X G (cd.fact 9 (f := .glo "need_wishes") rfl)
  have G_fulfilled := He.glo_ok X G (cd.fact 10 (f := .glo "fulfilled") rfl)
  have G_parts_of := He.glo_ok X G (cd.fact 11 (f := .glo "parts_of") rfl)
  have G_all_parts := He.glo_ok X G (cd.fact 12 (f := .glo "all_parts") rfl)
  have G_all_lines := He.glo_ok X G (cd.fact 13 (f := .glo "all_lines") rfl)
  have G_best := He.glo_ok X G (cd.fact 14 (f := .glo "best") rfl)
  have G_need_both := He.glo_ok X G (cd.fact 15 (f := .glo "need_both") rfl)
  have G_shortest := He.glo_ok X G (cd.fact 16 (f := .glo "shortest") rfl)
  have G_shortest_gentle := He.glo_ok X G (cd.fact 17 (f := .glo "shortest_gentle") rfl)
  have G_least_lines := He.glo_ok X G (cd.fact 18 (f := .glo "least_lines") rfl)
  have G_least_gentle_lines := He.glo_ok X G (cd.fact 19 (f := .glo "least_gentle_lines") rfl)
  have G_is_program := He.glo_ok X G (cd.fact 20 (f := .glo "is_program") rfl)
  have G_is_plain := He.glo_ok X G (cd.fact 21 (f := .glo "is_plain") rfl)
  have G_shows_best := He.glo_ok X G (cd.fact 22 (f := .glo "shows_best") rfl)
  have G_shows_shortest := He.glo_ok X G (cd.fact 23 (f := .glo "shows_shortest") rfl)
  have G_shows_shortest_gentle := He.glo_ok X G (cd.fact 24 (f := .glo "shows_shortest_gentle") rfl)
  have G_law_taken := He.glo_ok X G (cd.fact 25 (f := .glo "_law_taken") rfl)
  have G_law_machine := He.glo_ok X G (cd.fact 26 (f := .glo "_law_machine") rfl)
  have G_law_did := He.glo_ok X G (cd.fact 27 (f := .glo "_law_did") rfl)
  have G_law_deep := He.glo_ok X G (cd.fact 28 (f := .glo "_law_deep") rfl)
  have G_law_tame := He.glo_ok X G (cd.fact 29 (f := .glo "_law_tame") rfl)
  have G_law_every_line := He.glo_ok X G (cd.fact 30 (f := .glo "_law_every_line") rfl)
  have G_law_pick := He.glo_ok X G (cd.fact 31 (f := .glo "_law_pick") rfl)
  have G_law_program := He.glo_ok X G (cd.fact 32 (f := .glo "_law_program") rfl)
  have G_law_ran := He.glo_ok X G (cd.fact 33 (f := .glo "_law_ran") rfl)
  have G_law_wishes := He.glo_ok X G (cd.fact 34 (f := .glo "_law_wishes") rfl)
  have G_law_parts := He.glo_ok X G (cd.fact 35 (f := .glo "_law_parts") rfl)
  have G_law_fewest := He.glo_ok X G (cd.fact 36 (f := .glo "_law_fewest") rfl)
  have G_law_alike := He.glo_ok X G (cd.fact 37 (f := .glo "_law_alike") rfl)
  have G_law_does := He.glo_ok X G (cd.fact 38 (f := .glo "_law_does") rfl)
  have G_law := He.glo_ok X G (cd.fact 39 (f := .glo "law") rfl)
  have G_Search := He.glo_ok X G (cd.fact 40 (f := .glo "Search") rfl)
  have G_TooMany := He.glo_ok X G (cd.fact 41 (f := .glo "TooMany") rfl)
  have B : Bi mg := ⟨He.free_ok X G (cd.fact 42 (f := .free "isinstance") rfl), He.free_ok X G (cd.fact 43 (f := .free "len") rfl), He.free_ok X G (cd.fact 44 (f := .free "max") rfl), He.free_ok X G (cd.fact 45 (f := .free "all") rfl), He.free_ok X G (cd.fact 46 (f := .free "any") rfl), He.free_ok X G (cd.fact 47 (f := .free "range") rfl), He.free_ok X G (cd.fact 48 (f := .free "enumerate") rfl), He.free_ok X G (cd.fact 49 (f := .free "int") rfl), He.free_ok X G (cd.fact 50 (f := .free "bool") rfl), He.free_ok X G (cd.fact 51 (f := .free "str") rfl), He.free_ok X G (cd.fact 52 (f := .free "tuple") rfl), He.free_ok X G (cd.fact 53 (f := .free "list") rfl)⟩
  have I_MOST_CELLS := He.int_ok X G (cd.fact 54 (f := .int "MOST_CELLS" (4)) rfl)
  have I_MOST_FUNCTIONS := He.int_ok X G (cd.fact 55 (f := .int "MOST_FUNCTIONS" (3)) rfl)
  have I_MOST_READ := He.int_ok X G (cd.fact 56 (f := .int "MOST_READ" (2)) rfl)
  have I_MOST_LINES := He.int_ok X G (cd.fact 57 (f := .int "MOST_LINES" (60)) rfl)
  have I_MOST_DEEP := He.int_ok X G (cd.fact 58 (f := .int "MOST_DEEP" (8)) rfl)
  have I_MOST_PARTS := He.int_ok X G (cd.fact 59 (f := .int "MOST_PARTS" (16)) rfl)
  have I_NOTHING := He.int_ok X G (cd.fact 60 (f := .int "NOTHING" (-1)) rfl)
  obtain ⟨fd_is_number, FD_is_number⟩ := cd.def_ 0 (d := ⟨("is_number", none), "is_number", "is_number", defArgs D_is_number.st, defBody D_is_number.st, defScope D_is_number.st, [], []⟩) rfl
  have Df_is_number : Df K "is_number" "is_number" D_is_number.st [] (He.fAd K ("is_number", none)) (He.cT K ("is_number", none)).1 := df_of (p := ("is_number", none)) (x := "is_number") (qual := "is_number") (st := D_is_number.st) (dvs := []) (fd := fd_is_number) FD_is_number
  obtain ⟨fd_need_machine, FD_need_machine⟩ := cd.def_ 1 (d := ⟨("need_machine", none), "need_machine", "need_machine", defArgs D_need_machine.st, defBody D_need_machine.st, defScope D_need_machine.st, [], []⟩) rfl
  have Df_need_machine : Df K "need_machine" "need_machine" D_need_machine.st [] (He.fAd K ("need_machine", none)) (He.cT K ("need_machine", none)).1 := df_of (p := ("need_machine", none)) (x := "need_machine") (qual := "need_machine") (st := D_need_machine.st) (dvs := []) (fd := fd_need_machine) FD_need_machine
  obtain ⟨fd_is_soft, FD_is_soft⟩ := cd.def_ 2 (d := ⟨("is_soft", none), "is_soft", "is_soft", defArgs D_is_soft.st, defBody D_is_soft.st, defScope D_is_soft.st, [], []⟩) rfl
  have Df_is_soft : Df K "is_soft" "is_soft" D_is_soft.st [] (He.fAd K ("is_soft", none)) (He.cT K ("is_soft", none)).1 := df_of (p := ("is_soft", none)) (x := "is_soft") (qual := "is_soft") (st := D_is_soft.st) (dvs := []) (fd := fd_is_soft) FD_is_soft
  obtain ⟨fd_depth, FD_depth⟩ := cd.def_ 3 (d := ⟨("depth", none), "depth", "depth", defArgs D_depth.st, defBody D_depth.st, defScope D_depth.st, [], []⟩) rfl
  have Df_depth : Df K "depth" "depth" D_depth.st [] (He.fAd K ("depth", none)) (He.cT K ("depth", none)).1 := df_of (p := ("depth", none)) (x := "depth") (qual := "depth") (st := D_depth.st) (dvs := []) (fd := fd_depth) FD_depth
  obtain ⟨fd_is_term, FD_is_term⟩ := cd.def_ 4 (d := ⟨("is_term", none), "is_term", "is_term", defArgs D_is_term.st, defBody D_is_term.st, defScope D_is_term.st, [.int 8], []⟩) rfl
  have Df_is_term : Df K "is_term" "is_term" D_is_term.st [.int 8] (He.fAd K ("is_term", none)) (He.cT K ("is_term", none)).1 := df_of (p := ("is_term", none)) (x := "is_term") (qual := "is_term") (st := D_is_term.st) (dvs := [.int 8]) (fd := fd_is_term) FD_is_term
  obtain ⟨fd_first_terms, FD_first_terms⟩ := cd.def_ 5 (d := ⟨("first_terms", none), "first_terms", "first_terms", defArgs D_first_terms.st, defBody D_first_terms.st, defScope D_first_terms.st, [], []⟩) rfl
  have Df_first_terms : Df K "first_terms" "first_terms" D_first_terms.st [] (He.fAd K ("first_terms", none)) (He.cT K ("first_terms", none)).1 := df_of (p := ("first_terms", none)) (x := "first_terms") (qual := "first_terms") (st := D_first_terms.st) (dvs := []) (fd := fd_first_terms) FD_first_terms
  obtain ⟨fd_done, FD_done⟩ := cd.def_ 6 (d := ⟨("done", none), "done", "done", defArgs D_done.st, defBody D_done.st, defScope D_done.st, [], []⟩) rfl
  have Df_done : Df K "done" "done" D_done.st [] (He.fAd K ("done", none)) (He.cT K ("done", none)).1 := df_of (p := ("done", none)) (x := "done") (qual := "done") (st := D_done.st) (dvs := []) (fd := fd_done) FD_done
  obtain ⟨fd_behind, FD_behind⟩ := cd.def_ 7 (d := ⟨("behind", none), "behind", "behind", defArgs D_behind.st, defBody D_behind.st, defScope D_behind.st, [], []⟩) rfl
  have Df_behind : Df K "behind" "behind" D_behind.st [] (He.fAd K ("behind", none)) (He.cT K ("behind", none)).1 := df_of (p := ("behind", none)) (x := "behind") (qual := "behind") (st := D_behind.st) (dvs := []) (fd := fd_behind) FD_behind
  obtain ⟨fd_is_wish, FD_is_wish⟩ := cd.def_ 8 (d := ⟨("is_wish", none), "is_wish", "is_wish", defArgs D_is_wish.st, defBody D_is_wish.st, defScope D_is_wish.st, [], []⟩) rfl
  have Df_is_wish : Df K "is_wish" "is_wish" D_is_wish.st [] (He.fAd K ("is_wish", none)) (He.cT K ("is_wish", none)).1 := df_of (p := ("is_wish", none)) (x := "is_wish") (qual := "is_wish") (st := D_is_wish.st) (dvs := []) (fd := fd_is_wish) FD_is_wish
  obtain ⟨fd_need_wishes, FD_need_wishes⟩ := cd.def_ 9 (d := ⟨("need_wishes", none), "need_wishes", "need_wishes", defArgs D_need_wishes.st, defBody D_need_wishes.st, defScope D_need_wishes.st, [], []⟩) rfl
  have Df_need_wishes : Df K "need_wishes" "need_wishes" D_need_wishes.st [] (He.fAd K ("need_wishes", none)) (He.cT K ("need_wishes", none)).1 := df_of (p := ("need_wishes", none)) (x := "need_wishes") (qual := "need_wishes") (st := D_need_wishes.st) (dvs := []) (fd := fd_need_wishes) FD_need_wishes
  obtain ⟨fd_fulfilled, FD_fulfilled⟩ := cd.def_ 10 (d := ⟨("fulfilled", none), "fulfilled", "fulfilled", defArgs D_fulfilled.st, defBody D_fulfilled.st, defScope D_fulfilled.st, [], []⟩) rfl
  have Df_fulfilled : Df K "fulfilled" "fulfilled" D_fulfilled.st [] (He.fAd K ("fulfilled", none)) (He.cT K ("fulfilled", none)).1 := df_of (p := ("fulfilled", none)) (x := "fulfilled") (qual := "fulfilled") (st := D_fulfilled.st) (dvs := []) (fd := fd_fulfilled) FD_fulfilled
  obtain ⟨fd_parts_of, FD_parts_of⟩ := cd.def_ 11 (d := ⟨("parts_of", none), "parts_of", "parts_of", defArgs D_parts_of.st, defBody D_parts_of.st, defScope D_parts_of.st, [], []⟩) rfl
  have Df_parts_of : Df K "parts_of" "parts_of" D_parts_of.st [] (He.fAd K ("parts_of", none)) (He.cT K ("parts_of", none)).1 := df_of (p := ("parts_of", none)) (x := "parts_of") (qual := "parts_of") (st := D_parts_of.st) (dvs := []) (fd := fd_parts_of) FD_parts_of
  obtain ⟨fd_all_parts, FD_all_parts⟩ := cd.def_ 12 (d := ⟨("all_parts", none), "all_parts", "all_parts", defArgs D_all_parts.st, defBody D_all_parts.st, defScope D_all_parts.st, [], []⟩) rfl
  have Df_all_parts : Df K "all_parts" "all_parts" D_all_parts.st [] (He.fAd K ("all_parts", none)) (He.cT K ("all_parts", none)).1 := df_of (p := ("all_parts", none)) (x := "all_parts") (qual := "all_parts") (st := D_all_parts.st) (dvs := []) (fd := fd_all_parts) FD_all_parts
  obtain ⟨fd_all_lines, FD_all_lines⟩ := cd.def_ 13 (d := ⟨("all_lines", none), "all_lines", "all_lines", defArgs D_all_lines.st, defBody D_all_lines.st, defScope D_all_lines.st, [], []⟩) rfl
  have Df_all_lines : Df K "all_lines" "all_lines" D_all_lines.st [] (He.fAd K ("all_lines", none)) (He.cT K ("all_lines", none)).1 := df_of (p := ("all_lines", none)) (x := "all_lines") (qual := "all_lines") (st := D_all_lines.st) (dvs := []) (fd := fd_all_lines) FD_all_lines
  obtain ⟨fd_best, FD_best⟩ := cd.def_ 14 (d := ⟨("best", none), "best", "best", defArgs D_best.st, defBody D_best.st, defScope D_best.st, [], []⟩) rfl
  have Df_best : Df K "best" "best" D_best.st [] (He.fAd K ("best", none)) (He.cT K ("best", none)).1 := df_of (p := ("best", none)) (x := "best") (qual := "best") (st := D_best.st) (dvs := []) (fd := fd_best) FD_best
  obtain ⟨fd_need_both, FD_need_both⟩ := cd.def_ 15 (d := ⟨("need_both", none), "need_both", "need_both", defArgs D_need_both.st, defBody D_need_both.st, defScope D_need_both.st, [], []⟩) rfl
  have Df_need_both : Df K "need_both" "need_both" D_need_both.st [] (He.fAd K ("need_both", none)) (He.cT K ("need_both", none)).1 := df_of (p := ("need_both", none)) (x := "need_both") (qual := "need_both") (st := D_need_both.st) (dvs := []) (fd := fd_need_both) FD_need_both
  obtain ⟨fd_shortest, FD_shortest⟩ := cd.def_ 16 (d := ⟨("shortest", none), "shortest", "shortest", defArgs D_shortest.st, defBody D_shortest.st, defScope D_shortest.st, [], []⟩) rfl
  have Df_shortest : Df K "shortest" "shortest" D_shortest.st [] (He.fAd K ("shortest", none)) (He.cT K ("shortest", none)).1 := df_of (p := ("shortest", none)) (x := "shortest") (qual := "shortest") (st := D_shortest.st) (dvs := []) (fd := fd_shortest) FD_shortest
  obtain ⟨fd_shortest_gentle, FD_shortest_gentle⟩ := cd.def_ 17 (d := ⟨("shortest_gentle", none), "shortest_gentle", "shortest_gentle", defArgs D_shortest_gentle.st, defBody D_shortest_gentle.st, defScope D_shortest_gentle.st, [], []⟩) rfl
  have Df_shortest_gentle : Df K "shortest_gentle" "shortest_gentle" D_shortest_gentle.st [] (He.fAd K ("shortest_gentle", none)) (He.cT K ("shortest_gentle", none)).1 := df_of (p := ("shortest_gentle", none)) (x := "shortest_gentle") (qual := "shortest_gentle") (st := D_shortest_gentle.st) (dvs := []) (fd := fd_shortest_gentle) FD_shortest_gentle
  obtain ⟨fd_least_lines, FD_least_lines⟩ := cd.def_ 18 (d := ⟨("least_lines", none), "least_lines", "least_lines", defArgs D_least_lines.st, defBody D_least_lines.st, defScope D_least_lines.st, [], []⟩) rfl
  have Df_least_lines : Df K "least_lines" "least_lines" D_least_lines.st [] (He.fAd K ("least_lines", none)) (He.cT K ("least_lines", none)).1 := df_of (p := ("least_lines", none)) (x := "least_lines") (qual := "least_lines") (st := D_least_lines.st) (dvs := []) (fd := fd_least_lines) FD_least_lines
  obtain ⟨fd_least_gentle_lines, FD_least_gentle_lines⟩ := cd.def_ 19 (d := ⟨("least_gentle_lines", none), "least_gentle_lines", "least_gentle_lines", defArgs D_least_gentle_lines.st, defBody D_least_gentle_lines.st, defScope D_least_gentle_lines.st, [], []⟩) rfl
  have Df_least_gentle_lines : Df K "least_gentle_lines" "least_gentle_lines" D_least_gentle_lines.st [] (He.fAd K ("least_gentle_lines", none)) (He.cT K ("least_gentle_lines", none)).1 := df_of (p := ("least_gentle_lines", none)) (x := "least_gentle_lines") (qual := "least_gentle_lines") (st := D_least_gentle_lines.st) (dvs := []) (fd := fd_least_gentle_lines) FD_least_gentle_lines
  obtain ⟨fd_is_program, FD_is_program⟩ := cd.def_ 20 (d := ⟨("is_program", none), "is_program", "is_program", defArgs D_is_program.st, defBody D_is_program.st, defScope D_is_program.st, [], []⟩) rfl
  have Df_is_program : Df K "is_program" "is_program" D_is_program.st [] (He.fAd K ("is_program", none)) (He.cT K ("is_program", none)).1 := df_of (p := ("is_program", none)) (x := "is_program") (qual := "is_program") (st := D_is_program.st) (dvs := []) (fd := fd_is_program) FD_is_program
  obtain ⟨fd_is_plain, FD_is_plain⟩ := cd.def_ 21 (d := ⟨("is_plain", none), "is_plain", "is_plain", defArgs D_is_plain.st, defBody D_is_plain.st, defScope D_is_plain.st, [], []⟩) rfl
  have Df_is_plain : Df K "is_plain" "is_plain" D_is_plain.st [] (He.fAd K ("is_plain", none)) (He.cT K ("is_plain", none)).1 := df_of (p := ("is_plain", none)) (x := "is_plain") (qual := "is_plain") (st := D_is_plain.st) (dvs := []) (fd := fd_is_plain) FD_is_plain
  obtain ⟨fd_shows_best, FD_shows_best⟩ := cd.def_ 22 (d := ⟨("shows_best", none), "shows_best", "shows_best", defArgs D_shows_best.st, defBody D_shows_best.st, defScope D_shows_best.st, [], []⟩) rfl
  have Df_shows_best : Df K "shows_best" "shows_best" D_shows_best.st [] (He.fAd K ("shows_best", none)) (He.cT K ("shows_best", none)).1 := df_of (p := ("shows_best", none)) (x := "shows_best") (qual := "shows_best") (st := D_shows_best.st) (dvs := []) (fd := fd_shows_best) FD_shows_best
  obtain ⟨fd_shows_shortest, FD_shows_shortest⟩ := cd.def_ 23 (d := ⟨("shows_shortest", none), "shows_shortest", "shows_shortest", defArgs D_shows_shortest.st, defBody D_shows_shortest.st, defScope D_shows_shortest.st, [], []⟩) rfl
  have Df_shows_shortest : Df K "shows_shortest" "shows_shortest" D_shows_shortest.st [] (He.fAd K ("shows_shortest", none)) (He.cT K ("shows_shortest", none)).1 := df_of (p := ("shows_shortest", none)) (x := "shows_shortest") (qual := "shows_shortest") (st := D_shows_shortest.st) (dvs := []) (fd := fd_shows_shortest) FD_shows_shortest
  obtain ⟨fd_shows_shortest_gentle, FD_shows_shortest_gentle⟩ := cd.def_ 24 (d := ⟨("shows_shortest_gentle", none), "shows_shortest_gentle", "shows_shortest_gentle", defArgs D_shows_shortest_gentle.st, defBody D_shows_shortest_gentle.st, defScope D_shows_shortest_gentle.st, [], []⟩) rfl
  have Df_shows_shortest_gentle : Df K "shows_shortest_gentle" "shows_shortest_gentle" D_shows_shortest_gentle.st [] (He.fAd K ("shows_shortest_gentle", none)) (He.cT K ("shows_shortest_gentle", none)).1 := df_of (p := ("shows_shortest_gentle", none)) (x := "shows_shortest_gentle") (qual := "shows_shortest_gentle") (st := D_shows_shortest_gentle.st) (dvs := []) (fd := fd_shows_shortest_gentle) FD_shows_shortest_gentle
  obtain ⟨fd_law_taken, FD_law_taken⟩ := cd.def_ 25 (d := ⟨("_law_taken", none), "_law_taken", "_law_taken", defArgs D_law_taken.st, defBody D_law_taken.st, defScope D_law_taken.st, [], []⟩) rfl
  have Df_law_taken : Df K "_law_taken" "_law_taken" D_law_taken.st [] (He.fAd K ("_law_taken", none)) (He.cT K ("_law_taken", none)).1 := df_of (p := ("_law_taken", none)) (x := "_law_taken") (qual := "_law_taken") (st := D_law_taken.st) (dvs := []) (fd := fd_law_taken) FD_law_taken
  obtain ⟨fd_law_machine, FD_law_machine⟩ := cd.def_ 26 (d := ⟨("_law_machine", none), "_law_machine", "_law_machine", defArgs D_law_machine.st, defBody D_law_machine.st, defScope D_law_machine.st, [], []⟩) rfl
  have Df_law_machine : Df K "_law_machine" "_law_machine" D_law_machine.st [] (He.fAd K ("_law_machine", none)) (He.cT K ("_law_machine", none)).1 := df_of (p := ("_law_machine", none)) (x := "_law_machine") (qual := "_law_machine") (st := D_law_machine.st) (dvs := []) (fd := fd_law_machine) FD_law_machine
  obtain ⟨fd_law_did, FD_law_did⟩ := cd.def_ 27 (d := ⟨("_law_did", none), "_law_did", "_law_did", defArgs D_law_did.st, defBody D_law_did.st, defScope D_law_did.st, [], []⟩) rfl
  have Df_law_did : Df K "_law_did" "_law_did" D_law_did.st [] (He.fAd K ("_law_did", none)) (He.cT K ("_law_did", none)).1 := df_of (p := ("_law_did", none)) (x := "_law_did") (qual := "_law_did") (st := D_law_did.st) (dvs := []) (fd := fd_law_did) FD_law_did
  obtain ⟨fd_law_deep, FD_law_deep⟩ := cd.def_ 28 (d := ⟨("_law_deep", none), "_law_deep", "_law_deep", defArgs D_law_deep.st, defBody D_law_deep.st, defScope D_law_deep.st, [], []⟩) rfl
  have Df_law_deep : Df K "_law_deep" "_law_deep" D_law_deep.st [] (He.fAd K ("_law_deep", none)) (He.cT K ("_law_deep", none)).1 := df_of (p := ("_law_deep", none)) (x := "_law_deep") (qual := "_law_deep") (st := D_law_deep.st) (dvs := []) (fd := fd_law_deep) FD_law_deep
  obtain ⟨fd_law_tame, FD_law_tame⟩ := cd.def_ 29 (d := ⟨("_law_tame", none), "_law_tame", "_law_tame", defArgs D_law_tame.st, defBody D_law_tame.st, defScope D_law_tame.st, [], []⟩) rfl
  have Df_law_tame : Df K "_law_tame" "_law_tame" D_law_tame.st [] (He.fAd K ("_law_tame", none)) (He.cT K ("_law_tame", none)).1 := df_of (p := ("_law_tame", none)) (x := "_law_tame") (qual := "_law_tame") (st := D_law_tame.st) (dvs := []) (fd := fd_law_tame) FD_law_tame
  obtain ⟨fd_law_every_line, FD_law_every_line⟩ := cd.def_ 30 (d := ⟨("_law_every_line", none), "_law_every_line", "_law_every_line", defArgs D_law_every_line.st, defBody D_law_every_line.st, defScope D_law_every_line.st, [], []⟩) rfl
  have Df_law_every_line : Df K "_law_every_line" "_law_every_line" D_law_every_line.st [] (He.fAd K ("_law_every_line", none)) (He.cT K ("_law_every_line", none)).1 := df_of (p := ("_law_every_line", none)) (x := "_law_every_line") (qual := "_law_every_line") (st := D_law_every_line.st) (dvs := []) (fd := fd_law_every_line) FD_law_every_line
  obtain ⟨fd_law_pick, FD_law_pick⟩ := cd.def_ 31 (d := ⟨("_law_pick", none), "_law_pick", "_law_pick", defArgs D_law_pick.st, defBody D_law_pick.st, defScope D_law_pick.st, [], []⟩) rfl
  have Df_law_pick : Df K "_law_pick" "_law_pick" D_law_pick.st [] (He.fAd K ("_law_pick", none)) (He.cT K ("_law_pick", none)).1 := df_of (p := ("_law_pick", none)) (x := "_law_pick") (qual := "_law_pick") (st := D_law_pick.st) (dvs := []) (fd := fd_law_pick) FD_law_pick
  obtain ⟨fd_law_program, FD_law_program⟩ := cd.def_ 32 (d := ⟨("_law_program", none), "_law_program", "_law_program", defArgs D_law_program.st, defBody D_law_program.st, defScope D_law_program.st, [], []⟩) rfl
  have Df_law_program : Df K "_law_program" "_law_program" D_law_program.st [] (He.fAd K ("_law_program", none)) (He.cT K ("_law_program", none)).1 := df_of (p := ("_law_program", none)) (x := "_law_program") (qual := "_law_program") (st := D_law_program.st) (dvs := []) (fd := fd_law_program) FD_law_program
  obtain ⟨fd_law_ran, FD_law_ran⟩ := cd.def_ 33 (d := ⟨("_law_ran", none), "_law_ran", "_law_ran", defArgs D_law_ran.st, defBody D_law_ran.st, defScope D_law_ran.st, [], []⟩) rfl
  have Df_law_ran : Df K "_law_ran" "_law_ran" D_law_ran.st [] (He.fAd K ("_law_ran", none)) (He.cT K ("_law_ran", none)).1 := df_of (p := ("_law_ran", none)) (x := "_law_ran") (qual := "_law_ran") (st := D_law_ran.st) (dvs := []) (fd := fd_law_ran) FD_law_ran
  obtain ⟨fd_law_wishes, FD_law_wishes⟩ := cd.def_ 34 (d := ⟨("_law_wishes", none), "_law_wishes", "_law_wishes", defArgs D_law_wishes.st, defBody D_law_wishes.st, defScope D_law_wishes.st, [], []⟩) rfl
  have Df_law_wishes : Df K "_law_wishes" "_law_wishes" D_law_wishes.st [] (He.fAd K ("_law_wishes", none)) (He.cT K ("_law_wishes", none)).1 := df_of (p := ("_law_wishes", none)) (x := "_law_wishes") (qual := "_law_wishes") (st := D_law_wishes.st) (dvs := []) (fd := fd_law_wishes) FD_law_wishes
  obtain ⟨fd_law_parts, FD_law_parts⟩ := cd.def_ 35 (d := ⟨("_law_parts", none), "_law_parts", "_law_parts", defArgs D_law_parts.st, defBody D_law_parts.st, defScope D_law_parts.st, [], []⟩) rfl
  have Df_law_parts : Df K "_law_parts" "_law_parts" D_law_parts.st [] (He.fAd K ("_law_parts", none)) (He.cT K ("_law_parts", none)).1 := df_of (p := ("_law_parts", none)) (x := "_law_parts") (qual := "_law_parts") (st := D_law_parts.st) (dvs := []) (fd := fd_law_parts) FD_law_parts
  obtain ⟨fd_law_fewest, FD_law_fewest⟩ := cd.def_ 36 (d := ⟨("_law_fewest", none), "_law_fewest", "_law_fewest", defArgs D_law_fewest.st, defBody D_law_fewest.st, defScope D_law_fewest.st, [], []⟩) rfl
  have Df_law_fewest : Df K "_law_fewest" "_law_fewest" D_law_fewest.st [] (He.fAd K ("_law_fewest", none)) (He.cT K ("_law_fewest", none)).1 := df_of (p := ("_law_fewest", none)) (x := "_law_fewest") (qual := "_law_fewest") (st := D_law_fewest.st) (dvs := []) (fd := fd_law_fewest) FD_law_fewest
  obtain ⟨fd_law_alike, FD_law_alike⟩ := cd.def_ 37 (d := ⟨("_law_alike", none), "_law_alike", "_law_alike", defArgs D_law_alike.st, defBody D_law_alike.st, defScope D_law_alike.st, [], []⟩) rfl
  have Df_law_alike : Df K "_law_alike" "_law_alike" D_law_alike.st [] (He.fAd K ("_law_alike", none)) (He.cT K ("_law_alike", none)).1 := df_of (p := ("_law_alike", none)) (x := "_law_alike") (qual := "_law_alike") (st := D_law_alike.st) (dvs := []) (fd := fd_law_alike) FD_law_alike
  obtain ⟨fd_law_does, FD_law_does⟩ := cd.def_ 38 (d := ⟨("_law_does", none), "_law_does", "_law_does", defArgs D_law_does.st, defBody D_law_does.st, defScope D_law_does.st, [], []⟩) rfl
  have Df_law_does : Df K "_law_does" "_law_does" D_law_does.st [] (He.fAd K ("_law_does", none)) (He.cT K ("_law_does", none)).1 := df_of (p := ("_law_does", none)) (x := "_law_does") (qual := "_law_does") (st := D_law_does.st) (dvs := []) (fd := fd_law_does) FD_law_does
  obtain ⟨fd_law, FD_law⟩ := cd.def_ 39 (d := ⟨("law", none), "law", "law", defArgs D_law.st, defBody D_law.st, defScope D_law.st, [], []⟩) rfl
  have Df_law : Df K "law" "law" D_law.st [] (He.fAd K ("law", none)) (He.cT K ("law", none)).1 := df_of (p := ("law", none)) (x := "law") (qual := "law") (st := D_law.st) (dvs := []) (fd := fd_law) FD_law
  obtain ⟨fd_Search_init, FD_Search_init⟩ := cd.def_ 40 (d := ⟨("Search", some "__init__"), "__init__", "Search.__init__", defArgs D_Search_init.st, defBody D_Search_init.st, defScope D_Search_init.st, [], []⟩) rfl
  have Df_Search_init : Df K "__init__" "Search.__init__" D_Search_init.st [] (He.fAd K ("Search", some "__init__")) (He.cT K ("Search", some "__init__")).1 := df_of (p := ("Search", some "__init__")) (x := "__init__") (qual := "Search.__init__") (st := D_Search_init.st) (dvs := []) (fd := fd_Search_init) FD_Search_init
  obtain ⟨fd_Search_behind, FD_Search_behind⟩ := cd.def_ 41 (d := ⟨("Search", some "behind"), "behind", "Search.behind", defArgs D_Search_behind.st, defBody D_Search_behind.st, defScope D_Search_behind.st, [], []⟩) rfl
  have Df_Search_behind : Df K "behind" "Search.behind" D_Search_behind.st [] (He.fAd K ("Search", some "behind")) (He.cT K ("Search", some "behind")).1 := df_of (p := ("Search", some "behind")) (x := "behind") (qual := "Search.behind") (st := D_Search_behind.st) (dvs := []) (fd := fd_Search_behind) FD_Search_behind
  obtain ⟨fd_Search_shortest, FD_Search_shortest⟩ := cd.def_ 42 (d := ⟨("Search", some "shortest"), "shortest", "Search.shortest", defArgs D_Search_shortest.st, defBody D_Search_shortest.st, defScope D_Search_shortest.st, [], []⟩) rfl
  have Df_Search_shortest : Df K "shortest" "Search.shortest" D_Search_shortest.st [] (He.fAd K ("Search", some "shortest")) (He.cT K ("Search", some "shortest")).1 := df_of (p := ("Search", some "shortest")) (x := "shortest") (qual := "Search.shortest") (st := D_Search_shortest.st) (dvs := []) (fd := fd_Search_shortest) FD_Search_shortest
  obtain ⟨fd_TooMany_init, FD_TooMany_init⟩ := cd.def_ 43 (d := ⟨("TooMany", some "__init__"), "__init__", "TooMany.__init__", defArgs D_TM.st, defBody D_TM.st, defScope D_TM.st, [], []⟩) rfl
  have Df_TooMany_init : Df K "__init__" "TooMany.__init__" D_TM.st [] (He.fAd K ("TooMany", some "__init__")) (He.cT K ("TooMany", some "__init__")).1 := df_of (p := ("TooMany", some "__init__")) (x := "__init__") (qual := "TooMany.__init__") (st := D_TM.st) (dvs := []) (fd := fd_TooMany_init) FD_TooMany_init
  have S : Sc K (He.ga K "Search") (He.ma K (He.ga K "Search") "__init__") (He.ma K (He.ga K "Search") "behind") (He.ma K (He.ga K "Search") "shortest") := ⟨He.cls_ok (x := "Search") (cd.fact 61 rfl), He.noat_ok (x := "Search") (f := "parts") (cd.fact 62 rfl), He.noat_ok (x := "Search") (f := "terms") (cd.fact 63 rfl), He.noat_ok (x := "Search") (f := "goal") (cd.fact 64 rfl), He.noat_ok (x := "Search") (f := "moves") (cd.fact 65 rfl), He.noat_ok (x := "Search") (f := "start") (cd.fact 66 rfl), He.mkr_ok (x := "Search") (cd.fact 69 rfl), He.meth_ok (x := "Search") (m := "behind") (cd.fact 67 rfl), He.meth_ok (x := "Search") (m := "shortest") (cd.fact 68 rfl)⟩
  have M : Tm K mg (He.ga K "TooMany") (He.ma K (He.ga K "TooMany") "__init__") := by
    obtain ⟨x1, x⟩ := He.ba c.more
    obtain ⟨x2, x⟩ := He.ba x
    obtain ⟨x3, x⟩ := He.ba x
    obtain ⟨x4, x⟩ := He.ba x
    obtain ⟨x5, x⟩ := He.ba x
    obtain ⟨x6, x7⟩ := He.ba x
    exact ⟨G_TooMany, ⟨oexB_ok x1, of_decide_eq_true x2, of_decide_eq_true x3, of_decide_eq_true x4, x5⟩, He.noat_ok (x := "TooMany") (f := "most") (cd.fact 71 rfl), of_decide_eq_true x6, of_decide_eq_true x7, He.exm_ok (x := "TooMany") (y := "TooMany") (cd.fact 70 rfl)⟩
  have e := hfa.symm.trans G_law
  cases e
  have b := FunD.bindsA (ps := ["_law_script"]) FD_law fun _ _ _ _ _ _ us hl => match us, hl with | [_], _ => rfl
  refine ⟨fd_law, fun s v => b s [v] rfl, fun base _ _ TBs => ?_⟩
  have TB : ∀ p ∈ tfH, TabB base mg (He.cT K p).1 (He.cT K p).2 ∧ (He.cT K p).2 ∈ (tfH.map (He.cT K)).map (·.2) := fun p hp => ⟨tabB_of (TBs _ (List.mem_map.mpr ⟨p, hp, rfl⟩)), List.mem_map.mpr ⟨_, List.mem_map.mpr ⟨p, hp, rfl⟩, rfl⟩⟩
  generalize hT : (tfH.map (He.cT K)).map (·.2) = T at TB
  obtain ⟨tb_need_machine, tm_need_machine⟩ := TB ("need_machine", none) (by simp [tfH])
  obtain ⟨tb_is_term, tm_is_term⟩ := TB ("is_term", none) (by simp [tfH])
  obtain ⟨tb_fulfilled, tm_fulfilled⟩ := TB ("fulfilled", none) (by simp [tfH])
  obtain ⟨tb_Search_behind, tm_Search_behind⟩ := TB ("Search", some "behind") (by simp [tfH])
  obtain ⟨tb_Search_shortest, tm_Search_shortest⟩ := TB ("Search", some "shortest") (by simp [tfH])
  obtain ⟨tb_is_program, tm_is_program⟩ := TB ("is_program", none) (by simp [tfH])
  obtain ⟨tb_is_plain, tm_is_plain⟩ := TB ("is_plain", none) (by simp [tfH])
  obtain ⟨tb_shows_best, tm_shows_best⟩ := TB ("shows_best", none) (by simp [tfH])
  have F_is_number := (ok_is_number (P := P) (w := w) (base := base) (T := T) (k := 0) Df_is_number G_is_number B)
  have F_need_machine := (ok_need_machine (P := P) (w := w) (base := base) (T := T) Df_need_machine G_need_machine B tb_need_machine tm_need_machine I_MOST_CELLS I_MOST_FUNCTIONS I_MOST_READ F_is_number).mono (show _ ≤ 20 by omega)
  have F_is_soft := (ok_is_soft (P := P) (w := w) (base := base) (T := T) (k := 0) Df_is_soft G_is_soft B).mono (show _ ≤ 20 by omega)
  have F_depth := (ok_depth (P := P) (w := w) (base := base) (T := T) Df_depth G_depth B 8).mono (show _ ≤ 20 by omega)
  have F_is_term := (ok_is_term (P := P) (w := w) (base := base) (T := T) Df_is_term G_is_term B tb_is_term tm_is_term F_is_number 6).mono (show _ ≤ 20 by omega)
  have F_first_terms := (ok_first_terms (P := P) (w := w) (base := base) (T := T) (k := 0) Df_first_terms G_first_terms B).mono (show _ ≤ 20 by omega)
  have F_is_wish := (ok_is_wish (P := P) (w := w) (base := base) (T := T) Df_is_wish G_is_wish B (F_is_number.mono (show _ ≤ 20 by omega)) F_is_term)
  have F_need_wishes := (ok_need_wishes (P := P) (w := w) (base := base) (T := T) Df_need_wishes G_need_wishes B F_is_wish)
  have F_fulfilled := (ok_fulfilled (P := P) (w := w) (base := base) (T := T) (k := 0) Df_fulfilled G_fulfilled B tb_fulfilled tm_fulfilled).mono (show _ ≤ 30 by omega)
  have F_parts_of := (ok_parts_of (P := P) (w := w) (base := base) (T := T) Df_parts_of G_parts_of B 6).mono (show _ ≤ 19 by omega)
  have F_all_parts := (ok_all_parts (P := P) (w := w) (base := base) (T := T) Df_all_parts G_all_parts B I_MOST_PARTS F_parts_of)
  have F_all_lines := (ok_all_lines (P := P) (w := w) (base := base) (T := T) (k := 19) Df_all_lines G_all_lines B)
  have F_init := (ok_init (P := P) (w := w) (base := base) (T := T) Df_Search_init B S F_all_parts F_all_lines F_is_soft F_first_terms I_NOTHING).mono (show _ ≤ 24 by omega)
  have F_behindS := (ok_behindS (P := P) (w := w) (base := base) (T := T) (k := 18) Df_Search_behind B S tb_Search_behind tm_Search_behind I_NOTHING)
  have F_shortestS := (ok_shortestS (P := P) (w := w) (base := base) (T := T) Df_Search_shortest B S tb_Search_shortest tm_Search_shortest F_behindS).mono (show _ ≤ 24 by omega)
  have F_best := (ok_best (P := P) (w := w) (base := base) (T := T) Df_best G_best S G_Search F_init F_shortestS).mono (show _ ≤ 30 by omega)
  have F_need_both := (ok_need_both (P := P) (w := w) (base := base) (T := T) Df_need_both G_need_both B (F_need_machine.mono (show _ ≤ 22 by omega)) F_need_wishes).mono (show _ ≤ 30 by omega)
  have F_shortest := (ok_shortest (P := P) (w := w) (base := base) (T := T) Df_shortest G_shortest B F_need_both F_best).mono (show _ ≤ 49 by omega)
  have F_shortest_gentle := (ok_shortest_gentle (P := P) (w := w) (base := base) (T := T) Df_shortest_gentle G_shortest_gentle B F_need_both F_best).mono (show _ ≤ 49 by omega)
  have F_least_lines := (ok_least_lines (P := P) (w := w) (base := base) (T := T) Df_least_lines G_least_lines B F_need_both F_best).mono (show _ ≤ 49 by omega)
  have F_least_gentle_lines := (ok_least_gentle_lines (P := P) (w := w) (base := base) (T := T) Df_least_gentle_lines G_least_gentle_lines B F_need_both F_best).mono (show _ ≤ 49 by omega)
  have F_is_plain := (ok_is_plain (P := P) (w := w) (base := base) (T := T) (k := 18) Df_is_plain G_is_plain B tb_is_plain tm_is_plain)
  have F_is_program := (ok_is_program (P := P) (w := w) (base := base) (T := T) Df_is_program G_is_program B tb_is_program tm_is_program I_MOST_LINES F_all_lines F_is_plain).mono (show _ ≤ 30 by omega)
  have F_tm := (ok_tm (P := P) (w := w) (base := base) (k := 19) Df_TooMany_init M)
  have F_done := (ok_done (P := P) (w := w) (base := base) (T := T) Df_done G_done B M F_tm I_MOST_DEEP F_depth)
  have F_behind := (ok_behind (P := P) (w := w) (base := base) (T := T) Df_behind G_behind B F_done).mono (show _ ≤ 30 by omega)
  have F_shows_best := (ok_shows_best (P := P) (w := w) (base := base) (T := T) Df_shows_best G_shows_best B tb_shows_best tm_shows_best M F_behind F_best F_is_program (F_is_soft.mono (show _ ≤ 30 by omega)) (F_first_terms.mono (show _ ≤ 30 by omega)) F_fulfilled)
  have F_shows_shortest := (ok_shows_shortest (P := P) (w := w) (base := base) (T := T) Df_shows_shortest G_shows_shortest B (F_need_both.mono (show _ ≤ 32 by omega)) F_shows_best).mono (show _ ≤ 49 by omega)
  have F_shows_shortest_gentle := (ok_shows_shortest_gentle (P := P) (w := w) (base := base) (T := T) Df_shows_shortest_gentle G_shows_shortest_gentle B (F_need_both.mono (show _ ≤ 32 by omega)) F_shows_best).mono (show _ ≤ 49 by omega)
  have F_taken := (ok_taken (P := P) (w := w) (base := base) (T := T) (k := 19) Df_law_taken G_law_taken B)
  have F_pick := (ok_pick (P := P) (w := w) (base := base) (T := T) Df_law_pick G_law_pick B F_taken).mono (show _ ≤ 30 by omega)
  have F_machine := (ok_machine (P := P) (w := w) (base := base) (T := T) Df_law_machine G_law_machine B F_taken).mono (show _ ≤ 49 by omega)
  have F_did := (ok_law_did (P := P) (w := w) (base := base) (T := T) (k := 19) Df_law_did G_law_did B)
  have F_deep6 := (ok_law_deep (P := P) (w := w) (base := base) (T := T) Df_law_deep G_law_deep B 6).mono (show _ ≤ 20 by omega)
  have F_deep9 := (ok_law_deep (P := P) (w := w) (base := base) (T := T) Df_law_deep G_law_deep B 9).mono (show _ ≤ 20 by omega)
  have F_tame := (ok_law_tame (P := P) (w := w) (base := base) (T := T) Df_law_tame G_law_tame B F_did F_deep6).mono (show _ ≤ 40 by omega)
  have F_every := (ok_every_line (P := P) (w := w) (base := base) (T := T) (k := 19) Df_law_every_line G_law_every_line B)
  have F_ran := (ok_law_ran (P := P) (w := w) (base := base) (T := T) Df_law_ran G_law_ran B F_did F_deep9).mono (show _ ≤ 40 by omega)
  have F_program := (ok_program (P := P) (w := w) (base := base) (T := T) Df_law_program G_law_program B (F_every.mono (show _ ≤ 30 by omega)) (F_taken.mono (show _ ≤ 30 by omega)) F_pick).mono (show _ ≤ 40 by omega)
  have F_wishes := (ok_wishes (P := P) (w := w) (base := base) (T := T) Df_law_wishes G_law_wishes B (F_taken.mono (show _ ≤ 40 by omega)) F_tame F_program F_ran (F_pick.mono (show _ ≤ 40 by omega))).mono (show _ ≤ 49 by omega)
  have F_parts := (ok_law_parts (P := P) (w := w) (base := base) (T := T) (k := 19) Df_law_parts G_law_parts B)
  have F_fewest := (ok_law_fewest (P := P) (w := w) (base := base) (T := T) Df_law_fewest G_law_fewest B F_parts F_every F_did).mono (show _ ≤ 49 by omega)
  have F_alike := (ok_alike (P := P) (w := w) (base := base) (T := T) Df_law_alike G_law_alike B 2).mono (show _ ≤ 40 by omega)
  have F_does := (ok_law_does (P := P) (w := w) (base := base) (T := T) Df_law_does G_law_does B (F_every.mono (show _ ≤ 40 by omega)) F_alike F_ran).mono (show _ ≤ 49 by omega)
  obtain ⟨fd', h1, h2⟩ := Df_law.ok (P := P) (w := w) (mg := mg) (base := base) (CX := CX0) (k := 49) (sp := sp_law K T) (N := D_law.N) (ps := D_law.ps) D_law.S (fun vs H Q E hh => by
    obtain ⟨_, sc, xs, rfl, _⟩ := hh
    rfl) fun cdv A outer s H vs Q E hc hr hh => ⟨_, PSs.nox (D_law.d B hr F_machine F_wishes (F_parts.mono (show _ ≤ 49 by omega)) F_fewest (F_alike.mono (show _ ≤ 49 by omega)) F_least_gentle_lines F_least_lines F_shortest_gentle F_shortest F_does (F_pick.mono (show _ ≤ 49 by omega)) (F_taken.mono (show _ ≤ 49 by omega)) (F_every.mono (show _ ≤ 49 by omega)) F_shows_shortest_gentle F_shows_shortest), pure_law MT vs H Q E hh⟩
  have : fd' = fd_law := FunD_fd h2 FD_law
  rw [← this]
  exact h1
end
end LX

set_option maxRecDepth 100000
set_option maxHeartbeats 0
namespace LX
open PySem PySem.Spec PyProof.Rows L2 MDict GxR GQ
abbrev RH : PySem.W.OpenRow := PySem.W.OpenLaw.row PySem.Challenge.rw_lostlines_k03_whole_searches
abbrev hkH : PySem.W.Hook := He.hookX 4 faH fnH [] tfH exH
def obH (s : PySem.W.SharedT) : He.AlX := He.obsX 4 faH fnH [] tfH exH (HandSHeadRun.getT s)
theorem obH_eq (s : PySem.W.SharedT) : obH s = hkH.obs s.abs := He.obsX_eq (HandSHeadRun.getT_eq s)
def looseH0 : List PySem.Str := ["LinesError", "BadMachine", "BadWishes", "TooMany", "MOST_CELLS", "MOST_FUNCTIONS", "MOST_READ", "MOST_LINES", "MOST_DEEP", "is_number", "need_machine", "is_soft", "depth", "is_term", "first_terms", "done", "behind", "is_wish", "need_wishes", "fulfilled", "MOST_PARTS", "NOTHING", "parts_of", "all_parts", "all_lines", "Search", "best", "need_both", "shortest", "shortest_gentle"]
def looseH1 : List PySem.Str := ["least_lines", "least_gentle_lines", "is_program", "is_plain", "shows_best", "shows_shortest", "shows_shortest_gentle", "_law_taken", "_law_machine", "_law_did", "_law_deep", "_law_tame", "_law_every_line", "_law_pick", "_law_program", "_law_ran", "_law_wishes", "_law_parts", "_law_fewest", "_law_alike", "_law_does"]
abbrev looseH : List PySem.Str := looseH0 ++ looseH1
theorem runH (w : World) : HandSHeadRun.RunEq RH (PySem.W.view RH.prog [56]) hkH obH 3000 looseH w := by
  intro os
  kernel_rfl
end LX

set_option maxRecDepth 100000
set_option maxHeartbeats 8000000
namespace LX
open PySem PySem.Spec PyProof.Rows L2 MDict GxR GQ
/-! ### the two searches -/
mutual
theorem parts_trans : ∀ (d t u : D), t ∈ partsOf d → u ∈ partsOf t → u ∈ partsOf d
  | .none, t, u, h, h2 => by simp only [partsOf, List.mem_singleton] at h; subst h; exact h2
  | .num i, t, u, h, h2 => by simp only [partsOf, List.mem_singleton] at h; subst h; exact h2
  | .text _, t, u, h, h2 => by simp only [partsOf, List.mem_singleton] at h; subst h; exact h2
  | .tup ks, t, u, h, h2 => by
    simp only [partsOf, List.mem_cons] at h
    rcases h with rfl | h
    · exact h2
    · simp only [partsOf, List.mem_cons]
      exact .inr (partsTl_trans ks t u h h2)
theorem partsTl_trans : ∀ (ks : List D) (t u : D), t ∈ partsTl ks → u ∈ partsOf t → u ∈ partsTl ks
  | [], t, u, h, _ => by simp [partsTl] at h
  | _ :: r, t, u, h, h2 => by simp only [partsTl] at h ⊢; exact partsSs_trans r t u h h2
theorem partsSs_trans : ∀ (ks : List D) (t u : D), t ∈ partsSs ks → u ∈ partsOf t → u ∈ partsSs ks
  | [], t, u, h, _ => by simp [partsSs] at h
  | d :: r, t, u, h, h2 => by
    simp only [partsSs, List.mem_append] at h ⊢
    rcases h with h | h
    · exact .inl (parts_trans d t u h h2)
    · exact .inr (partsSs_trans r t u h h2)
end
theorem pl_closed {ws : List Wish} {f : D} {as : List D} (h : NestedKey.tup (f :: as) ∈ partsW ws) : ∀ a ∈ as, a ∈ partsW ws := fun a ha => by
  obtain ⟨y, hy, hp⟩ := partsW_mem.mp h
  refine partsW_mem.mpr ⟨y, hy, parts_trans _ _ _ hp ?_⟩
  simp only [partsOf, partsTl, partsSs_eq, List.mem_cons]
  exact .inr (List.mem_flatMap.mpr ⟨a, ha, self_part a⟩)
theorem pl_wf {ws : List Wish} (w : WfW ws) : ∀ t ∈ partsW ws, wfS t = true := fun t ht => by
  obtain ⟨y, hy, hp⟩ := partsW_mem.mp ht
  exact (parts_wf y.2 t (w.wf y hy).1 hp).1
theorem pl_none {ws : List Wish} (w : WfW ws) : NestedKey.none ∉ partsW ws := fun h => by
  have := pl_wf w _ h
  simp [wfS] at this
section
variable {pl : List D} {n : Nat}
theorem idx_in {d : D} (h : d ∈ pl) : idxI pl d = (pl.idxOf d : Int) := if_pos h
theorem idx_out {d : D} (h : d ∉ pl) : idxI pl d = -1 := if_neg h
theorem idx_get {d : D} (h : d ∈ pl) : getD' pl (idxI pl d).toNat = d := by
  rw [idx_in h, Int.toNat_natCast]
  have hl := List.idxOf_lt_length_of_mem h
  have := getD_get hl
  rw [List.getElem?_eq_getElem hl, List.getElem_idxOf hl] at this
  exact (Option.some.inj this).symm
theorem idx_neg {d : D} : idxI pl d = -1 ↔ d ∉ pl := by
  constructor
  · intro h hm
    rw [idx_in hm] at h
    omega
  · exact idx_out
theorem idx_inj {a b : D} (ha : a ∈ pl) (h : idxI pl a = idxI pl b) : a = b := by
  by_cases hb : b ∈ pl
  · rw [← idx_get ha, ← idx_get hb, h]
  · rw [idx_out hb, idx_neg] at h
    exact absurd ha h
def numL (pl : List D) (s : List D) : List Int := s.map (idxI pl)
theorem num_get {s : List D} {i : Nat} (h : i < s.length) : getI (numL pl s) i = idxI pl (getD' s i) := by
  have h2 : (numL pl s)[i]? = some (getI (numL pl s) i) := getI_get (by unfold numL; rw [List.length_map]; exact h)
  unfold numL at h2 ⊢
  rw [List.getElem?_map, getD_get h] at h2
  exact (Option.some.inj h2).symm
variable (h0 : NestedKey.none ∉ pl)
include h0
theorem src_known {s : List D} (hs : StL pl n s) {i : Nat} (hi : i < n) : getI (numL pl s) i = -1 ↔ getD' s i = .none := by
  rw [num_get (by rw [hs.len]; exact hi), idx_neg]
  have hm := getD_mem (held := s) (i := i) (by rw [hs.len]; exact hi)
  rcases hs.all _ hm with h | h
  · simp [h, h0]
  · constructor
    · intro z; exact absurd h z
    · intro z; rw [z] at h; exact absurd h h0
theorem any_known {s : List D} (hs : StL pl n s) {l : Ln} (hl : LnIn n l) : l.s.any (fun i => decide (getI (numL pl s) i = -1)) = l.s.any (fun i => decide (getD' s i = .none)) := by
  rw [Bool.eq_iff_iff, List.any_eq_true, List.any_eq_true]
  constructor
  · rintro ⟨i, hi, h⟩
    exact ⟨i, hi, decide_eq_true ((src_known h0 hs (hl.s i hi)).mp (of_decide_eq_true h))⟩
  · rintro ⟨i, hi, h⟩
    exact ⟨i, hi, decide_eq_true ((src_known h0 hs (hl.s i hi)).mpr (of_decide_eq_true h))⟩
theorem part_new {s : List D} (hs : StL pl n s) {l : Ln} (hl : LnIn n l) (hk : ∀ i ∈ l.s, getD' s i ≠ .none) : partI pl (numL pl s) l = idxI pl (newT s l) := by
  unfold partI newT
  cases hf : l.f with
  | none =>
    cases hls : l.s with
    | nil => exact absurd hls hl.ne
    | cons a r => exact num_get (by rw [hs.len]; exact hl.s a (by rw [hls]; exact List.mem_cons_self))
  | some f =>
    show idxI pl _ = idxI pl _
    congr 3
    refine List.map_congr_left fun i hi => ?_
    unfold termI
    have hin := hl.s i hi
    rw [num_get (by rw [hs.len]; exact hin)]
    refine idx_get ?_
    exact (hs.all _ (getD_mem (by rw [hs.len]; exact hin))).resolve_left (hk i hi)
theorem any_false {s : List D} {l : Ln} (h : l.s.any (fun i => decide (getD' s i = .none)) = false) : ∀ i ∈ l.s, getD' s i ≠ .none := fun i hi => by simpa using List.any_eq_false.mp h i hi
theorem next_p {s : List D} (hs : StL pl n s) {l : Ln} (hl : LnIn n l) {h : List Int} (e : nextP pl (numL pl s) l = some h) : ∃ a, nextL pl s l = some a ∧ h = numL pl a := by
  unfold nextP at e
  rw [any_known h0 hs hl] at e
  cases ha : l.s.any (fun i => decide (getD' s i = .none)) with
  | true => rw [ha, if_pos rfl] at e; cases e
  | false =>
    rw [ha, if_neg Bool.false_ne_true, part_new h0 hs hl (any_false h0 ha)] at e
    split at e
    · cases e
    · rename_i hn
      have hm : newT s l ∈ pl := Decidable.byContradiction fun z => hn (.inl (idx_out z))
      cases e
      refine ⟨did s l, ?_, ?_⟩
      · unfold nextL
        rw [ha, if_neg Bool.false_ne_true, if_pos hm]
      · unfold numL did
        rw [List.map_set]
theorem next_l {s : List D} (hs : StL pl n s) {l : Ln} (hl : LnIn n l) {a : List D} (e : nextL pl s l = some a) : nextP pl (numL pl s) l = some (numL pl a) ∨ a = s := by
  unfold nextL at e
  cases ha : l.s.any (fun i => decide (getD' s i = .none)) with
  | true => rw [ha, if_pos rfl] at e; cases e
  | false =>
    rw [ha, if_neg Bool.false_ne_true] at e
    split at e
    · rename_i hm
      cases e
      have hc : l.c < s.length := by rw [hs.len]; exact hl.c
      by_cases hsame : newT s l = getD' s l.c
      · right
        unfold did
        rw [hsame]
        refine List.ext_getElem? fun i => ?_
        by_cases hi : l.c = i
        · subst hi
          rw [List.getElem?_set_self hc, getD_get hc]
        · rw [List.getElem?_set_ne hi]
      · left
        unfold nextP
        rw [any_known h0 hs hl, ha, if_neg Bool.false_ne_true, part_new h0 hs hl (any_false h0 ha), if_neg]
        · unfold numL did
          rw [List.map_set]
        · rintro (z | z)
          · exact idx_neg.mp z hm
          · rw [num_get hc] at z
            exact hsame (idx_inj hm z)
    · cases e
theorem path_p {lines : List Ln} (hl : ∀ l ∈ lines, LnIn n l) {s0 : List D} (h1 : StL pl n s0) {p : List Ln} {h : List Int} (hp : Lost.Path (nextP pl) lines (numL pl s0) p h) : ∃ s, Lost.Path (nextL pl) lines s0 p s ∧ StL pl n s ∧ h = numL pl s := by
  induction hp with
  | nil => exact ⟨s0, .nil, h1, rfl⟩
  | snoc _ hm hn ih =>
    obtain ⟨s, a1, a2, rfl⟩ := ih
    obtain ⟨a, b1, rfl⟩ := next_p h0 a2 (hl _ hm) hn
    exact ⟨a, .snoc a1 hm b1, stl_next a2 b1, rfl⟩
theorem path_l {lines : List Ln} (hl : ∀ l ∈ lines, LnIn n l) {s0 : List D} (h1 : StL pl n s0) {p : List Ln} {s : List D} (hp : Lost.Path (nextL pl) lines s0 p s) : StL pl n s ∧ ∃ q, Lost.Path (nextP pl) lines (numL pl s0) q (numL pl s) ∧ q.length ≤ p.length := by
  induction hp with
  | nil => exact ⟨h1, [], .nil, Nat.le_refl _⟩
  | snoc _ hm hn ih =>
    obtain ⟨a1, q, a2, a3⟩ := ih
    refine ⟨stl_next a1 hn, ?_⟩
    rcases next_l h0 a1 (hl _ hm) hn with e | rfl
    · exact ⟨_, .snoc a2 hm e, by simp only [List.length_append, List.length_cons, List.length_nil]; omega⟩
    · exact ⟨q, a2, by simp only [List.length_append, List.length_cons, List.length_nil]; omega⟩
end
theorem num_start (x : FArg) (w : WfW x.ws) : (sdOf x).start = numL (partsW x.ws) (startL (partsW x.ws) x.n) := by
  unfold sdOf numL startL rgD
  rw [List.map_map, List.map_map]
  refine List.map_congr_left fun i _ => ?_
  show idxI _ (nm i) = idxI _ (if nm i ∈ partsW x.ws then nm i else .none)
  by_cases h : nm i ∈ partsW x.ws
  · rw [if_pos h]
  · rw [if_neg h, idx_out h, idx_out (pl_none w)]
theorem num_goal (x : FArg) (w : WfW x.ws) (hc : ∀ y ∈ x.ws, y.1 < x.n) {s : List D} (hs : s.length = x.n) : goalI (sdOf x).goal (numL (partsW x.ws) s) = goalL x.ws s := by
  unfold goalI goalL sdOf
  rw [List.all_map]
  rw [Bool.eq_iff_iff, List.all_eq_true, List.all_eq_true]
  have key : ∀ y ∈ x.ws, (decide (getI (numL (partsW x.ws) s) y.1 = (((partsW x.ws).idxOf y.2 : Nat) : Int)) = true ↔ hit s y = true) := fun y hy => by
    have hl : y.1 < s.length := by rw [hs]; exact hc y hy
    have hm : y.2 ∈ partsW x.ws := partsW_mem.mpr ⟨y, hy, self_part _⟩
    rw [num_get hl, ← idx_in hm]
    unfold hit
    rw [getD_get hl]
    simp only [decide_eq_true_eq, Option.some.injEq]
    exact ⟨fun e => (idx_inj hm e.symm).symm, fun e => by rw [e]⟩
  exact ⟨fun h y hy => (key y hy).mp (h y hy), fun h y hy => (key y hy).mpr (h y hy)⟩
theorem least_len (x : FArg) (ok : GOk x) : ∀ q p, LeastL x q → LeastP x p → lenD q = lenD p := by
  have h0 := pl_none ok.f.w
  have hl : ∀ l ∈ movesOf x.n x.fs x.b, LnIn x.n l := fun l h => lnIn_moves ok.f.m.r h
  have h1 := stl_start (partsW x.ws) x.n
  intro q p lq lp
  unfold LeastP at lp
  unfold LeastL at lq
  rw [num_start x ok.f.w] at lp
  -- from one to the other
  have a : ∀ p' h, Lost.Path (nextP (partsW x.ws)) (movesOf x.n x.fs x.b) (numL (partsW x.ws) (startL (partsW x.ws) x.n)) p' h → goalI (sdOf x).goal h = true → ∃ s, Lost.Path (nextL (partsW x.ws)) (movesOf x.n x.fs x.b) (startL (partsW x.ws) x.n) p' s ∧ goalL x.ws s = true := fun p' h hp hg => by
    obtain ⟨s, a1, a2, rfl⟩ := path_p h0 hl h1 hp
    exact ⟨s, a1, by rw [← num_goal x ok.f.w ok.f.c a2.len]; exact hg⟩
  have b : ∀ q' s, Lost.Path (nextL (partsW x.ws)) (movesOf x.n x.fs x.b) (startL (partsW x.ws) x.n) q' s → goalL x.ws s = true → ∃ p' h, Lost.Path (nextP (partsW x.ws)) (movesOf x.n x.fs x.b) (numL (partsW x.ws) (startL (partsW x.ws) x.n)) p' h ∧ goalI (sdOf x).goal h = true ∧ p'.length ≤ q'.length := fun q' s hq hg => by
    obtain ⟨a1, p', a2, a3⟩ := path_l h0 hl h1 hq
    exact ⟨p', _, a2, by rw [num_goal x ok.f.w ok.f.c a1.len]; exact hg, a3⟩
  cases q with
  | none =>
    cases p with
    | none => rfl
    | some p =>
      obtain ⟨h, c1, c2, _⟩ := lp
      obtain ⟨s, d1, d2⟩ := a p h c1 c2
      have := lq p s d1
      rw [d2] at this; cases this
  | some q =>
    obtain ⟨s, c1, c2, c3⟩ := lq
    obtain ⟨p', h, d1, d2, d3⟩ := b q s c1 c2
    cases p with
    | none =>
      have := lp p' h d1
      rw [d2] at this; cases this
    | some p =>
      obtain ⟨h', e1, e2, e3⟩ := lp
      have f1 := e3 p' h d1 d2
      obtain ⟨s', g1, g2⟩ := a p h' e1 e2
      have f2 := c3 p s' g1 g2
      show nm q.length = nm p.length
      rw [show q.length = p.length by omega]
end LX

set_option maxRecDepth 100000
set_option maxHeartbeats 8000000
namespace LX
open PySem PySem.Spec PyProof.Rows L2 MDict GxR GQ
theorem newT_agree {s h : List D} {l : Ln} (hne : l.s ≠ []) (e : ∀ i ∈ l.s, getD' h i = getD' s i) : newT h l = newT s l := by
  unfold newT
  cases l.f with
  | none =>
    cases hls : l.s with
    | nil => exact absurd hls hne
    | cons a r => exact e a (by rw [hls]; exact List.mem_cons_self)
  | some f =>
    show NestedKey.tup _ = NestedKey.tup _
    congr 2
    exact List.map_congr_left e
theorem set_get {s : List D} {c i : Nat} {t : D} (hc : c < s.length) : getD' (s.set c t) i = if c = i then t else getD' s i := by
  unfold getD'
  rw [List.getD_eq_getElem?_getD, List.getD_eq_getElem?_getD]
  by_cases h : c = i
  · subst h
    rw [List.getElem?_set_self hc, if_pos rfl]
    rfl
  · rw [List.getElem?_set_ne h, if_neg h]
theorem next_known {pl s : List D} {l : Ln} {a : List D} (e : nextL pl s l = some a) : (∀ i ∈ l.s, getD' s i ≠ .none) ∧ newT s l ∈ pl ∧ a = did s l := by
  unfold nextL at e
  cases ha : l.s.any (fun i => decide (getD' s i = .none)) with
  | true => rw [ha, if_pos rfl] at e; cases e
  | false =>
    rw [ha, if_neg Bool.false_ne_true] at e
    split at e
    · rename_i hm
      cases e
      exact ⟨fun i hi => by simpa using List.any_eq_false.mp ha i hi, hm, rfl⟩
    · cases e
theorem next_of {pl s : List D} {l : Ln} (hk : ∀ i ∈ l.s, getD' s i ≠ .none) (hm : newT s l ∈ pl) : nextL pl s l = some (did s l) := by
  unfold nextL
  have : l.s.any (fun i => decide (getD' s i = .none)) = false := by
    rw [List.any_eq_false]
    intro i hi
    simpa using hk i hi
  rw [this, if_neg Bool.false_ne_true, if_pos hm]
theorem start_get {pl : List D} {n i : Nat} (hi : i < n) (h : getD' (startL pl n) i ≠ .none) : getD' (rgD n) i = getD' (startL pl n) i := by
  have h1 : getD' (rgD n) i = nm i := by
    have := getD_get (held := rgD n) (i := i) (by rw [rgD_length]; exact hi)
    rw [rgD_get hi] at this
    exact (Option.some.inj this).symm
  have h2 : getD' (startL pl n) i = if nm i ∈ pl then nm i else .none := by
    have := getD_get (held := startL pl n) (i := i) (by unfold startL; rw [List.length_map, rgD_length]; exact hi)
    unfold startL at this ⊢
    rw [List.getElem?_map, rgD_get hi] at this
    exact (Option.some.inj this).symm
  rw [h2] at h ⊢
  by_cases hm : nm i ∈ pl
  · rw [if_pos hm, h1]
  · rw [if_neg hm] at h; exact absurd rfl h
theorem real_run {pl : List D} {n : Nat} (hd : ∀ t ∈ pl, t.depth ≤ 4) {lines : List Ln} (hl : ∀ l ∈ lines, LnIn n l) {p : List Ln} {s : List D} (hp : Lost.Path (nextL pl) lines (startL pl n) p s) :
    s.length = n ∧ ∃ h, runL (rgD n) p = some h ∧ h.length = n ∧ maxD h ≤ 4 ∧ ∀ i, i < n → getD' s i ≠ .none → getD' h i = getD' s i := by
  induction hp with
  | nil => exact ⟨by unfold startL; rw [List.length_map, rgD_length], rgD n, rfl, rgD_length n, by rw [first_depth]; omega, fun i hi h => start_get hi h⟩
  | @snoc p s a l _ hm hn ih =>
    obtain ⟨hs, h, h1, h2, h3, h4⟩ := ih
    obtain ⟨k1, k2, rfl⟩ := next_known hn
    have hin := hl l hm
    have hnew : newT h l = newT s l := newT_agree hin.ne fun i hi => h4 i (hin.s i hi) (k1 i hi)
    refine ⟨by unfold did; rw [List.length_set]; exact hs, did h l, ?_, by unfold did; rw [List.length_set]; exact h2, ?_, fun i hi hne => ?_⟩
    · have hmx : maxD (did h l) ≤ 4 := depths_le fun k hk => by
        unfold did at hk
        rcases List.mem_or_eq_of_mem_set hk with z | rfl
        · have := le_depths z; unfold maxD at h3; omega
        · rw [hnew]; exact hd _ k2
      rw [runL_snoc, h1]
      show (if maxD (did h l) + 1 > 8 then none else some (did h l)) = _
      rw [if_neg (by omega)]
    · exact depths_le fun k hk => by
        unfold did at hk
        rcases List.mem_or_eq_of_mem_set hk with z | rfl
        · have := le_depths z; unfold maxD at h3; omega
        · rw [hnew]; exact hd _ k2
    · unfold did at hne ⊢
      rw [set_get (s := s) (by rw [hs]; exact hin.c)] at hne
      rw [set_get (s := s) (by rw [hs]; exact hin.c), set_get (s := h) (by rw [h2]; exact hin.c)]
      by_cases hc : l.c = i
      · rw [if_pos hc, if_pos hc, hnew]
      · rw [if_neg hc] at hne ⊢
        rw [if_neg hc]
        exact h4 i hi hne
theorem deep_iff {n : Nat} {held : List D} {l : Ln} (ok : HOk n held) (hl : LnIn n l) (hm : maxD held ≤ 7) : (maxD (did held l) + 1 > 8) ↔ deepB held l = true := by
  constructor
  · intro h
    cases hb : deepB held l with
    | true => rfl
    | false => have := did_mx ok hl hm hb; omega
  · intro h
    unfold deepB at h
    simp only [Bool.and_eq_true, decide_eq_true_eq] at h
    have hmem : newT held l ∈ did held l := by
      unfold did
      exact List.mem_of_getElem? (i := l.c) (List.getElem?_set_self (by rw [ok.len]; exact hl.c))
    have := le_depths hmem
    unfold maxD
    omega
theorem run_same {n : Nat} : ∀ {ls : List Ln} {held : List D}, HOk n held → maxD held ≤ 7 → (∀ l ∈ ls, LnIn n l) → runP held ls = runL held ls
  | [], _, _, _, _ => rfl
  | l :: ls, held, ok, hm, hl => by
    have h1 := hl l List.mem_cons_self
    have hd := deep_iff ok h1 hm
    unfold runP runL
    by_cases hb : deepB held l = true
    · rw [if_pos hb, if_pos (hd.mpr hb)]
    · rw [if_neg hb, if_neg (fun z => hb (hd.mp z))]
      exact run_same (hok_did ok h1) (did_mx ok h1 hm (by simpa using hb)) fun m hm => hl m (List.mem_cons_of_mem _ hm)
theorem hits_same {x : FArg} (ok : GOk x) {ls : List Ln} (hl : ∀ l ∈ ls, l ∈ allLines x.n x.fs) : hitsP x ls ↔ hitsL x ls := by
  unfold hitsP hitsL
  rw [run_same (hok_first x.n) (by rw [first_depth]; omega) fun l h => lnIn_all ok.f.m.r (hl l h)]
theorem pl_depth {x : FArg} (ok : GOk x) (wg : WGood x.n x.fs x.ws) : ∀ t ∈ partsW x.ws, t.depth ≤ 4 := fun t ht => by
  obtain ⟨y, hy, hp⟩ := partsW_mem.mp ht
  have h1 := (parts_wf y.2 t (ok.f.w.wf y hy).1 hp).2
  have h2 := (wg_term ok.f.m wg y hy).2
  omega
theorem path_mem {S L : Type} [DecidableEq S] {next : S → L → Option S} {lines : List L} {s0 : S} {p : List L} {s : S} (h : Lost.Path next lines s0 p s) : ∀ l ∈ p, l ∈ lines := by
  induction h with
  | nil => intro l h; cases h
  | snoc _ hm _ ih => exact fun l h => (List.mem_append.mp h).elim (ih l) fun z => by rw [List.mem_singleton.mp z]; exact hm
theorem goal_hits {x : FArg} (ok : GOk x) (wg : WGood x.n x.fs x.ws) {p : List Ln} {s : List D} (hp : Lost.Path (nextL (partsW x.ws)) (movesOf x.n x.fs x.b) (startL (partsW x.ws) x.n) p s) (hg : goalL x.ws s = true) : hitsL x p := by
  obtain ⟨hs, h, h1, h2, _, h4⟩ := real_run (pl_depth ok wg) (fun l hl => lnIn_moves ok.f.m.r hl) hp
  refine ⟨h, h1, List.all_eq_true.mpr fun y hy => ?_⟩
  have hy1 := List.all_eq_true.mp hg y hy
  have hc := ok.f.c y hy
  unfold hit at hy1 ⊢
  rw [getD_get (by rw [hs]; exact hc)] at hy1
  have e : getD' s y.1 = y.2 := by simpa using hy1
  have hne : getD' s y.1 ≠ .none := fun z => by
    rw [e] at z
    have := (ok.f.w.wf y hy).1
    rw [z] at this
    simp [wfS] at this
  rw [getD_get (by rw [h2]; exact hc), h4 y.1 hc hne, e]
  simp
theorem moves_all {n : Nat} {fs : List Nat} {b : Bool} {l : Ln} (h : l ∈ movesOf n fs b) : l ∈ allLines n fs ∧ (b = true → soft l = true) := by
  obtain ⟨h1, h2⟩ := List.mem_filter.mp h
  exact ⟨h1, fun z => by rw [z] at h2; simpa using h2⟩
theorem lp_path {x : FArg} (ok : GOk x) {p : List Ln} (lp : LeastP x (some p)) : ∃ s, Lost.Path (nextL (partsW x.ws)) (movesOf x.n x.fs x.b) (startL (partsW x.ws) x.n) p s ∧ goalL x.ws s = true := by
  unfold LeastP at lp
  rw [num_start x ok.f.w] at lp
  obtain ⟨h, c1, c2, _⟩ := lp
  obtain ⟨s, a1, a2, rfl⟩ := path_p (pl_none ok.f.w) (fun l h => lnIn_moves ok.f.m.r h) (stl_start (partsW x.ws) x.n) c1
  exact ⟨s, a1, by rw [← num_goal x ok.f.w ok.f.c a2.len]; exact c2⟩
/-- all but the bound -/
theorem math_of (x : FArg) (ok : GOk x) (wg : WGood x.n x.fs x.ws) (bound : ∀ p, LeastP x (some p) → p.length ≤ 60) : MathOk x where
  len := least_len x ok
  mem := fun p lp => ⟨bound p lp, fun l hl => by
    obtain ⟨s, hp, _⟩ := lp_path ok lp
    exact (moves_all (path_mem hp l hl)).1⟩
  does := fun p lp => by
    obtain ⟨s, hp, hg⟩ := lp_path ok lp
    exact doesV_true ⟨p, rfl, fun l hl => (moves_all (path_mem hp l hl)).1, rfl, fun hb l hl => (moves_all (path_mem hp l hl)).2 hb, goal_hits ok wg hp hg⟩
  shows := fun q p k lq lp hk hn => by
    have hlen := least_len x ok q p lq lp
    cases p with
    | none =>
      cases q with
      | some q => simp [lenD] at hlen
      | none =>
        rw [show showB x none k = false from decide_eq_false hn]
        symm
        exact doesV_false fun ls _ _ hd _ _ => by simp at hd
    | some p =>
      cases q with
      | none => simp [lenD] at hlen
      | some q =>
        have hl : q.length = p.length := by
          simp only [lenD, NestedKey.num.injEq] at hlen
          omega
        have hb := bound p lp
        show (if k = .val .non then false else goodV x k p.length) = doesV x k (some q.length)
        rw [if_neg hn, hl]
        cases hg : goodV x k p.length with
        | true =>
          obtain ⟨ls, a, b, _, d, e, f⟩ := goodV_true.mp hg
          exact (doesV_true ⟨ls, a, b, by rw [d], e, (hits_same ok b).mp f⟩).symm
        | false =>
          symm
          refine doesV_false fun ls a b d e f => ?_
          have d := Option.some.inj d
          rw [goodV_true.mpr ⟨ls, a, b, by omega, d, e, (hits_same ok b).mpr f⟩] at hg
          cases hg
end LX

set_option maxRecDepth 100000
set_option maxHeartbeats 8000000
namespace LX
open PySem PySem.Spec PyProof.Rows L2 MDict GxR GQ
/-! ### three cells, gentle lines: kept pairs -/
def ixP (pl : List D) (d : D) : Nat := if d ∈ pl then pl.idxOf d + 1 else 0
def cls (pl : List D) (x y : D) : Nat × Nat := (min (ixP pl x) (ixP pl y), max (ixP pl x) (ixP pl y))
def Kn (pl : List D) (d : D) : Prop := d = .none ∨ d ∈ pl
theorem ix_inj {pl : List D} (h0 : NestedKey.none ∉ pl) {a b : D} (ha : Kn pl a) (hb : Kn pl b) (h : ixP pl a = ixP pl b) : a = b := by
  unfold ixP at h
  rcases ha with rfl | ha
  · rcases hb with rfl | hb
    · rfl
    · rw [if_neg h0, if_pos hb] at h; omega
  · rcases hb with rfl | hb
    · rw [if_neg h0, if_pos ha] at h; omega
    · rw [if_pos ha, if_pos hb] at h
      have e : pl.idxOf a = pl.idxOf b := by omega
      have h1 := List.getElem_idxOf (List.idxOf_lt_length_of_mem ha)
      have h2 := List.getElem_idxOf (List.idxOf_lt_length_of_mem hb)
      rw [← h1, ← h2]
      congr 1
theorem cls_eq {pl : List D} (h0 : NestedKey.none ∉ pl) {x y a b : D} (hx : Kn pl x) (hy : Kn pl y) (ha : Kn pl a) (hb : Kn pl b) (h : cls pl x y = cls pl a b) : (x = a ∧ y = b) ∨ (x = b ∧ y = a) := by
  unfold cls at h
  simp only [Prod.mk.injEq] at h
  obtain ⟨h1, h2⟩ := h
  have : (ixP pl x = ixP pl a ∧ ixP pl y = ixP pl b) ∨ (ixP pl x = ixP pl b ∧ ixP pl y = ixP pl a) := by omega
  rcases this with ⟨e1, e2⟩ | ⟨e1, e2⟩
  · exact .inl ⟨ix_inj h0 hx ha e1, ix_inj h0 hy hb e2⟩
  · exact .inr ⟨ix_inj h0 hx hb e1, ix_inj h0 hy ha e2⟩
def U45 : List (Nat × Nat) := (List.range 9).flatMap fun b => (List.range (b + 1)).map fun a => (a, b)
theorem u45_len : U45.length = 45 := by decide
theorem cls_mem {pl : List D} (h8 : pl.length ≤ 8) (x y : D) : cls pl x y ∈ U45 := by
  have hb : ∀ d, ixP pl d ≤ 8 := fun d => by
    unfold ixP
    split
    · rename_i h; have := List.idxOf_lt_length_of_mem h; omega
    · omega
  have h1 := hb x; have h2 := hb y
  unfold U45 cls
  exact List.mem_flatMap.mpr ⟨max (ixP pl x) (ixP pl y), List.mem_range.mpr (by omega), List.mem_map.mpr ⟨min (ixP pl x) (ixP pl y), List.mem_range.mpr (by omega), rfl⟩⟩
section
variable {pl : List D} {fs : List Nat} {n : Nat}
abbrev Pth (pl : List D) (n : Nat) (fs : List Nat) (q : List Ln) (s : List D) : Prop := Lost.Path (nextL pl) (movesOf n fs true) (startL pl n) q s
theorem mem_moves (m : ∀ r ∈ fs, r = 1 ∨ r = 2) {l : Ln} : l ∈ movesOf n fs true ↔ l ∈ allLines n fs ∧ l.c ∉ l.s := by
  unfold movesOf
  rw [List.mem_filter]
  simp [soft]
theorem pth_len (m : ∀ r ∈ fs, r = 1 ∨ r = 2) {q : List Ln} {s : List D} (h : Pth pl n fs q s) : StL pl n s := by
  induction h with
  | nil => exact stl_start pl n
  | snoc _ hm hn ih => exact stl_next ih hn
theorem stl_kn {s : List D} (h : StL pl n s) {i : Nat} (hi : i < n) : Kn pl (getD' s i) := h.all _ (getD_mem (by rw [h.len]; exact hi))
/-- a copy, or nothing where nothing is known -/
theorem cp (m : ∀ r ∈ fs, r = 1 ∨ r = 2) {q : List Ln} {s : List D} (h : Pth pl n fs q s) {a b : Nat} (ha : a < n) (hb : b < n) (hab : a ≠ b) :
    ∃ q' s', Pth pl n fs q' s' ∧ q'.length ≤ q.length + 1 ∧ (getD' s a ≠ .none → getD' s' b = getD' s a) ∧ ∀ i, i ≠ b → getD' s' i = getD' s i := by
  have st := pth_len m h
  by_cases hn : getD' s a = .none
  · exact ⟨q, s, h, by omega, fun z => absurd hn z, fun _ _ => rfl⟩
  · have hm : (⟨b, none, [a]⟩ : Ln) ∈ movesOf n fs true := (mem_moves m).mpr ⟨(mem_allLines m).mpr ⟨hb, fun x hx => by rw [List.mem_singleton.mp hx]; exact ha, .inr ⟨rfl, a, rfl, hab⟩⟩, fun z => hab (List.mem_singleton.mp z).symm⟩
    have hpl : getD' s a ∈ pl := (stl_kn st ha).resolve_left hn
    have hx : nextL pl s ⟨b, none, [a]⟩ = some (did s ⟨b, none, [a]⟩) := next_of (fun i hi => by rw [List.mem_singleton.mp hi]; exact hn) hpl
    refine ⟨_, _, .snoc h hm hx, by simp, fun _ => ?_, fun i hi => ?_⟩
    · show getD' (s.set b (getD' s a)) b = getD' s a
      rw [set_get (by rw [st.len]; exact hb), if_pos rfl]
    · show getD' (s.set b (getD' s a)) i = getD' s i
      rw [set_get (by rw [st.len]; exact hb), if_neg (fun z => hi z.symm)]
/-- two contents put where they are wanted -/
theorem rearr (m : ∀ r ∈ fs, r = 1 ∨ r = 2) {q : List Ln} {s : List D} (h : Pth pl 3 fs q s) {i1 j1 i j : Nat} (h1 : i1 < 3) (h2 : j1 < 3) (h3 : i1 ≠ j1) (h4 : i < 3) (h5 : j < 3) (h6 : i ≠ j) :
    ∃ q' s', Pth pl 3 fs q' s' ∧ q'.length ≤ q.length + 3 ∧ (getD' s i1 ≠ .none → getD' s' i = getD' s i1) ∧ (getD' s j1 ≠ .none → getD' s' j = getD' s j1) := by
  obtain ⟨r, hr, r1, r2⟩ : ∃ r, r < 3 ∧ r ≠ i1 ∧ r ≠ j1 := ⟨3 - i1 - j1, by omega, by omega, by omega⟩
  by_cases e1 : i = i1
  · subst e1
    by_cases e2 : j = j1
    · subst e2
      exact ⟨q, s, h, by omega, fun _ => rfl, fun _ => rfl⟩
    · have : j = r := by omega
      subst this
      obtain ⟨q', s', p1, p2, p3, p4⟩ := cp m h h2 hr (Ne.symm r2)
      exact ⟨q', s', p1, by omega, fun _ => p4 _ h6, p3⟩
  · by_cases e2 : i = j1
    · subst e2
      by_cases e3 : j = i1
      · subst e3
        -- a swap by way of r
        obtain ⟨qa, sa, a1, a2, a3, a4⟩ := cp m h h1 hr (Ne.symm r1)
        obtain ⟨qb, sb, b1, b2, b3, b4⟩ := cp m a1 h2 h1 (Ne.symm h3)
        obtain ⟨qc, sc, c1, c2, c3, c4⟩ := cp m b1 hr h2 r2
        refine ⟨qc, sc, c1, by omega, fun hx => ?_, fun hy => ?_⟩
        · have e := a3 hx
          have e2 : getD' sb r = getD' s j := by rw [b4 _ r1, e]
          rw [c3 (by rw [e2]; exact hx), e2]
        · have e : getD' sa i = getD' s i := a4 _ (Ne.symm r2)
          have e2 : getD' sb j = getD' s i := by rw [b3 (by rw [e]; exact hy), e]
          rw [c4 _ h3, e2]
      · have : j = r := by omega
        subst this
        obtain ⟨qa, sa, a1, a2, a3, a4⟩ := cp m h h2 hr (Ne.symm r2)
        obtain ⟨qb, sb, b1, b2, b3, b4⟩ := cp m a1 h1 h2 h3
        refine ⟨qb, sb, b1, by omega, fun hx => ?_, fun hy => ?_⟩
        · have e : getD' sa i1 = getD' s i1 := a4 _ (Ne.symm r1)
          rw [b3 (by rw [e]; exact hx), e]
        · rw [b4 _ r2, a3 hy]
    · have : i = r := by omega
      subst this
      by_cases e3 : j = j1
      · subst e3
        obtain ⟨qa, sa, a1, a2, a3, a4⟩ := cp m h h1 hr (Ne.symm r1)
        exact ⟨qa, sa, a1, by omega, a3, fun _ => a4 _ (Ne.symm h6)⟩
      · have : j = i1 := by omega
        subst this
        obtain ⟨qa, sa, a1, a2, a3, a4⟩ := cp m h h1 hr (Ne.symm r1)
        obtain ⟨qb, sb, b1, b2, b3, b4⟩ := cp m a1 h2 h1 (Ne.symm h3)
        refine ⟨qb, sb, b1, by omega, fun hx => ?_, fun hy => ?_⟩
        · rw [b4 _ h6, a3 hx]
        · have e : getD' sa j1 = getD' s j1 := a4 _ (Ne.symm r2)
          rw [b3 (by rw [e]; exact hy), e]
def Av (pl : List D) (fs : List Nat) (k : Nat) (x y : D) : Prop := ∃ q s i j, Pth pl 3 fs q s ∧ q.length ≤ k ∧ i < 3 ∧ j < 3 ∧ i ≠ j ∧ getD' s i = x ∧ getD' s j = y
theorem Av.sym {k : Nat} {x y : D} (h : Av pl fs k x y) : Av pl fs k y x := by
  obtain ⟨q, s, i, j, a, b, c, d, e, f, g⟩ := h
  exact ⟨q, s, j, i, a, b, d, c, Ne.symm e, g, f⟩
theorem Av.mono {k k' : Nat} {x y : D} (h : Av pl fs k x y) (hk : k ≤ k') : Av pl fs k' x y := by
  obtain ⟨q, s, i, j, a, b, c⟩ := h
  exact ⟨q, s, i, j, a, by omega, c⟩
structure InvQ (pl : List D) (fs : List Nat) (s : List D) (seen : List (Nat × Nat)) : Prop where
  nd : seen.Nodup
  inU : ∀ c ∈ seen, c ∈ U45
  av : ∀ i j, i < 3 → j < 3 → i ≠ j → Av pl fs seen.length (getD' s i) (getD' s j)
  old : ∀ x y, Kn pl x → Kn pl y → cls pl x y ∈ seen → ∃ k, k + 1 ≤ seen.length ∧ Av pl fs k x y
  fin : ∃ q' s', Pth pl 3 fs q' s' ∧ q'.length ≤ seen.length + 3 ∧ ∀ i, i < 3 → getD' s i ≠ .none → getD' s' i = getD' s i
theorem newT_map {s s1 : List D} {l : Ln} {r1 : Nat} {σ : Nat → Nat} (hne : l.s ≠ []) (e : ∀ i ∈ l.s, getD' s1 (σ i) = getD' s i) : newT s1 ⟨r1, l.f, l.s.map σ⟩ = newT s l := by
  unfold newT
  cases hf : l.f with
  | none =>
    cases hls : l.s with
    | nil => exact absurd hls hne
    | cons a r => exact e a (by rw [hls]; exact List.mem_cons_self)
  | some f =>
    show NestedKey.tup _ = NestedKey.tup _
    rw [List.map_map]
    congr 2
    exact List.map_congr_left e
theorem inv_path (m : ∀ r ∈ fs, r = 1 ∨ r = 2) (h0 : NestedKey.none ∉ pl) (h8 : pl.length ≤ 8) {q : List Ln} {s : List D} (h : Pth pl 3 fs q s) : ∃ seen, InvQ pl fs s seen := by
  induction h with
  | nil => exact ⟨[], .nil, fun _ h => (by cases h), fun i j hi hj hij => ⟨[], _, i, j, .nil, Nat.le_refl _, hi, hj, hij, rfl, rfl⟩, fun _ _ _ _ h => (by cases h), [], _, .nil, by simp, fun _ _ _ => rfl⟩
  | @snoc q s a l hp hm hn ih =>
    obtain ⟨seen, I⟩ := ih
    have st := pth_len m hp
    obtain ⟨k1, k2, rfl⟩ := next_known hn
    obtain ⟨hla, hsoft⟩ := (mem_moves m).mp hm
    obtain ⟨hc, hsrc, hform⟩ := (mem_allLines m).mp hla
    have hin := lnIn_all m hla
    obtain ⟨i, j, hi, hj, hij, hic, hjc⟩ : ∃ i j, i < 3 ∧ j < 3 ∧ i ≠ j ∧ i ≠ l.c ∧ j ≠ l.c := by
      have : l.c = 0 ∨ l.c = 1 ∨ l.c = 2 := by omega
      rcases this with z | z | z
      · exact ⟨1, 2, by omega, by omega, by omega, by omega, by omega⟩
      · exact ⟨0, 2, by omega, by omega, by omega, by omega, by omega⟩
      · exact ⟨0, 1, by omega, by omega, by omega, by omega, by omega⟩
    have hsij : ∀ k ∈ l.s, k = i ∨ k = j := fun k hk => by
      have h1 := hsrc k hk
      have h2 : k ≠ l.c := fun z => hsoft (z ▸ hk)
      omega
    have kx := stl_kn st hi
    have ky := stl_kn st hj
    -- the pair, within k lines
    obtain ⟨seen', k, hk, hav, hle, hnd, hU, hold⟩ : ∃ (seen' : List (Nat × Nat)) (k : Nat), k + 1 ≤ seen'.length ∧ Av pl fs k (getD' s i) (getD' s j) ∧ seen.length ≤ seen'.length ∧ seen'.Nodup ∧ (∀ c ∈ seen', c ∈ U45) ∧ (∀ c ∈ seen', c ∈ seen ∨ c = cls pl (getD' s i) (getD' s j)) := by
      by_cases hs : cls pl (getD' s i) (getD' s j) ∈ seen
      · obtain ⟨k, a1, a2⟩ := I.old _ _ kx ky hs
        exact ⟨seen, k, a1, a2, Nat.le_refl _, I.nd, I.inU, fun c hc => .inl hc⟩
      · refine ⟨seen ++ [cls pl (getD' s i) (getD' s j)], seen.length, by simp, I.av i j hi hj hij, by simp, Lost.nodup_snoc I.nd hs, fun c hc => ?_, fun c hc => ?_⟩
        · rcases List.mem_append.mp hc with z | z
          · exact I.inU c z
          · rw [List.mem_singleton.mp z]; exact cls_mem h8 _ _
        · rcases List.mem_append.mp hc with z | z
          · exact .inl z
          · exact .inr (List.mem_singleton.mp z)
    have hav0 := hav
    obtain ⟨q1, s1, i1, j1, p1, p2, p3, p4, p5, p6, p7⟩ := hav
    have st1 := pth_len m p1
    obtain ⟨r1, hr, hr1, hr2⟩ : ∃ r, r < 3 ∧ r ≠ i1 ∧ r ≠ j1 := ⟨3 - i1 - j1, by omega, by omega, by omega⟩
    let σ : Nat → Nat := fun z => if z = i then i1 else j1
    have hσ : ∀ z ∈ l.s, getD' s1 (σ z) = getD' s z := fun z hz => by
      rcases hsij z hz with rfl | rfl
      · show getD' s1 (if z = z then i1 else j1) = _
        rw [if_pos rfl, p6]
      · show getD' s1 (if z = i then i1 else j1) = _
        rw [if_neg (Ne.symm hij), p7]
    have hσr : ∀ z, σ z < 3 ∧ σ z ≠ r1 := fun z => by
      show (if z = i then i1 else j1) < 3 ∧ (if z = i then i1 else j1) ≠ r1
      split
      · exact ⟨p3, Ne.symm hr1⟩
      · exact ⟨p4, Ne.symm hr2⟩
    have hm1 : (⟨r1, l.f, l.s.map σ⟩ : Ln) ∈ movesOf 3 fs true := by
      refine (mem_moves m).mpr ⟨(mem_allLines m).mpr ⟨hr, fun x hx => ?_, ?_⟩, fun z => ?_⟩
      · obtain ⟨y, _, rfl⟩ := List.mem_map.mp hx
        exact (hσr y).1
      · rcases hform with ⟨f, a1, a2⟩ | ⟨a1, z, a2, a3⟩
        · exact .inl ⟨f, a1, by show _ = some (l.s.map σ).length; rw [List.length_map]; exact a2⟩
        · exact .inr ⟨a1, σ z, by show l.s.map σ = _; rw [a2]; rfl, (hσr z).2⟩
      · obtain ⟨y, _, e⟩ := List.mem_map.mp z
        exact (hσr y).2 e
    have ht : newT s1 ⟨r1, l.f, l.s.map σ⟩ = newT s l := newT_map hin.ne hσ
    have hx1 : nextL pl s1 ⟨r1, l.f, l.s.map σ⟩ = some (did s1 ⟨r1, l.f, l.s.map σ⟩) := next_of (fun z hz => by
      obtain ⟨y, hy, rfl⟩ := List.mem_map.mp hz
      rw [hσ y hy]; exact k1 y hy) (by rw [ht]; exact k2)
    have pq : Pth pl 3 fs (q1 ++ [⟨r1, l.f, l.s.map σ⟩]) (did s1 ⟨r1, l.f, l.s.map σ⟩) := .snoc p1 hm1 hx1
    have hq1 : (q1 ++ [(⟨r1, l.f, l.s.map σ⟩ : Ln)]).length ≤ seen'.length := by simp; omega
    -- where each cell of the new state is found
    have hτ : ∀ z, z < 3 → ∃ z', z' < 3 ∧ getD' (did s1 ⟨r1, l.f, l.s.map σ⟩) z' = getD' (did s l) z ∧ ((z = l.c ∧ z' = r1) ∨ (z = i ∧ z' = i1) ∨ (z = j ∧ z' = j1)) := fun z hz => by
      have e1 : ∀ y, getD' (did s1 ⟨r1, l.f, l.s.map σ⟩) y = if r1 = y then newT s l else getD' s1 y := fun y => by
        unfold did
        rw [set_get (by rw [st1.len]; exact hr), ht]
      have e2 : ∀ y, getD' (did s l) y = if l.c = y then newT s l else getD' s y := fun y => by
        unfold did
        rw [set_get (by rw [st.len]; exact hc)]
      have : z = l.c ∨ z = i ∨ z = j := by omega
      rcases this with rfl | rfl | rfl
      · exact ⟨r1, hr, by rw [e1, e2, if_pos rfl, if_pos rfl], .inl ⟨rfl, rfl⟩⟩
      · exact ⟨i1, p3, by rw [e1, e2, if_neg hr1, if_neg (Ne.symm hic), p6], .inr (.inl ⟨rfl, rfl⟩)⟩
      · exact ⟨j1, p4, by rw [e1, e2, if_neg hr2, if_neg (Ne.symm hjc), p7], .inr (.inr ⟨rfl, rfl⟩)⟩
    refine ⟨seen', hnd, hU, fun a b ha hb hab => ?_, fun x y hx hy hxy => ?_, ?_⟩
    · obtain ⟨a', a1, a2, a3⟩ := hτ a ha
      obtain ⟨b', b1, b2, b3⟩ := hτ b hb
      exact ⟨_, _, a', b', pq, hq1, a1, b1, by omega, a2, b2⟩
    · rcases hold _ hxy with z | z
      · obtain ⟨k', c1, c2⟩ := I.old x y hx hy z
        exact ⟨k', by omega, c2⟩
      · rcases cls_eq h0 hx hy kx ky z with ⟨rfl, rfl⟩ | ⟨rfl, rfl⟩
        · exact ⟨k, hk, hav0⟩
        · exact ⟨k, hk, hav0.sym⟩
    · obtain ⟨q2, s2, c1, c2, c3, c4⟩ := rearr m p1 p3 p4 p5 hi hj hij
      rw [p6] at c3
      rw [p7] at c4
      have st2 := pth_len m c1
      have hag : ∀ z ∈ l.s, getD' s2 z = getD' s z := fun z hz => by
        have hne := k1 z hz
        rcases hsij z hz with rfl | rfl
        · exact c3 hne
        · exact c4 hne
      have ht2 : newT s2 l = newT s l := newT_agree hin.ne hag
      have hx2 : nextL pl s2 l = some (did s2 l) := next_of (fun z hz => by rw [hag z hz]; exact k1 z hz) (by rw [ht2]; exact k2)
      refine ⟨_, _, .snoc c1 hm hx2, by simp; omega, fun z hz hne => ?_⟩
      unfold did at hne ⊢
      rw [set_get (s := s) (by rw [st.len]; exact hc)] at hne
      rw [set_get (s := s2) (by rw [st2.len]; exact hc), set_get (s := s) (by rw [st.len]; exact hc), ht2]
      by_cases e : l.c = z
      · rw [if_pos e, if_pos e]
      · rw [if_neg e] at hne
        rw [if_neg e, if_neg e]
        have : z = i ∨ z = j := by omega
        rcases this with rfl | rfl
        · exact c3 hne
        · exact c4 hne
end
end LX

set_option maxRecDepth 100000
set_option maxHeartbeats 8000000
namespace LX
open PySem PySem.Spec PyProof.Rows L2 MDict GxR GQ
section
variable {pl : List D} {fs : List Nat} {n : Nat}
/-! ### two cells -/
def Av1 (pl : List D) (fs : List Nat) (k : Nat) (x : D) : Prop := ∃ q s i, Pth pl 2 fs q s ∧ q.length ≤ k ∧ i < 2 ∧ getD' s i = x
structure InvT (pl : List D) (fs : List Nat) (s : List D) (seen : List Nat) : Prop where
  nd : seen.Nodup
  inU : ∀ c ∈ seen, c ∈ List.range 9
  av : ∀ i, i < 2 → Av1 pl fs seen.length (getD' s i)
  old : ∀ x, Kn pl x → ixP pl x ∈ seen → ∃ k, k + 1 ≤ seen.length ∧ Av1 pl fs k x
  fin : ∃ q' s', Pth pl 2 fs q' s' ∧ q'.length ≤ seen.length + 3 ∧ ∀ i, i < 2 → getD' s i ≠ .none → getD' s' i = getD' s i
theorem inv_two (m : ∀ r ∈ fs, r = 1 ∨ r = 2) (h0 : NestedKey.none ∉ pl) (h8 : pl.length ≤ 8) {q : List Ln} {s : List D} (h : Pth pl 2 fs q s) : ∃ seen, InvT pl fs s seen := by
  induction h with
  | nil => exact ⟨[], .nil, fun _ h => (by cases h), fun i hi => ⟨[], _, i, .nil, Nat.le_refl _, hi, rfl⟩, fun _ _ h => (by cases h), [], _, .nil, by simp, fun _ _ _ => rfl⟩
  | @snoc q s a l hp hm hn ih =>
    obtain ⟨seen, I⟩ := ih
    have st := pth_len m hp
    obtain ⟨k1, k2, rfl⟩ := next_known hn
    obtain ⟨hla, hsoft⟩ := (mem_moves m).mp hm
    obtain ⟨hc, hsrc, hform⟩ := (mem_allLines m).mp hla
    have hin := lnIn_all m hla
    obtain ⟨i, hi, hic⟩ : ∃ i, i < 2 ∧ i ≠ l.c := by
      have : l.c = 0 ∨ l.c = 1 := by omega
      rcases this with z | z
      · exact ⟨1, by omega, by omega⟩
      · exact ⟨0, by omega, by omega⟩
    have hsij : ∀ k ∈ l.s, k = i := fun k hk => by
      have h1 := hsrc k hk
      have h2 : k ≠ l.c := fun z => hsoft (z ▸ hk)
      omega
    have kx := stl_kn st hi
    obtain ⟨seen', k, hk, hav, hle, hnd, hU, hold⟩ : ∃ (seen' : List Nat) (k : Nat), k + 1 ≤ seen'.length ∧ Av1 pl fs k (getD' s i) ∧ seen.length ≤ seen'.length ∧ seen'.Nodup ∧ (∀ c ∈ seen', c ∈ List.range 9) ∧ (∀ c ∈ seen', c ∈ seen ∨ c = ixP pl (getD' s i)) := by
      by_cases hs : ixP pl (getD' s i) ∈ seen
      · obtain ⟨k, a1, a2⟩ := I.old _ kx hs
        exact ⟨seen, k, a1, a2, Nat.le_refl _, I.nd, I.inU, fun c hc => .inl hc⟩
      · refine ⟨seen ++ [ixP pl (getD' s i)], seen.length, by simp, I.av i hi, by simp, Lost.nodup_snoc I.nd hs, fun c hc => ?_, fun c hc => ?_⟩
        · rcases List.mem_append.mp hc with z | z
          · exact I.inU c z
          · rw [List.mem_singleton.mp z]
            refine List.mem_range.mpr ?_
            unfold ixP
            split
            · rename_i hx; have := List.idxOf_lt_length_of_mem hx; omega
            · omega
        · rcases List.mem_append.mp hc with z | z
          · exact .inl z
          · exact .inr (List.mem_singleton.mp z)
    have hav0 := hav
    obtain ⟨q1, s1, i1, p1, p2, p3, p6⟩ := hav
    have st1 := pth_len m p1
    obtain ⟨r1, hr, hr1⟩ : ∃ r, r < 2 ∧ r ≠ i1 := ⟨1 - i1, by omega, by omega⟩
    have hσ : ∀ z ∈ l.s, getD' s1 ((fun _ => i1) z) = getD' s z := fun z hz => by rw [hsij z hz]; exact p6
    have hm1 : (⟨r1, l.f, l.s.map fun _ => i1⟩ : Ln) ∈ movesOf 2 fs true := by
      refine (mem_moves m).mpr ⟨(mem_allLines m).mpr ⟨hr, fun x hx => ?_, ?_⟩, fun z => ?_⟩
      · obtain ⟨y, _, rfl⟩ := List.mem_map.mp hx
        exact p3
      · rcases hform with ⟨f, a1, a2⟩ | ⟨a1, z, a2, a3⟩
        · exact .inl ⟨f, a1, by show _ = some (l.s.map fun _ => i1).length; rw [List.length_map]; exact a2⟩
        · exact .inr ⟨a1, i1, by show (l.s.map fun _ => i1) = _; rw [a2]; rfl, Ne.symm hr1⟩
      · obtain ⟨y, _, e⟩ := List.mem_map.mp z
        exact hr1 e.symm
    have ht : newT s1 ⟨r1, l.f, l.s.map fun _ => i1⟩ = newT s l := newT_map hin.ne hσ
    have hx1 : nextL pl s1 ⟨r1, l.f, l.s.map fun _ => i1⟩ = some (did s1 ⟨r1, l.f, l.s.map fun _ => i1⟩) := next_of (fun z hz => by
      obtain ⟨y, hy, rfl⟩ := List.mem_map.mp hz
      rw [hσ y hy]; exact k1 y hy) (by rw [ht]; exact k2)
    have pq : Pth pl 2 fs (q1 ++ [⟨r1, l.f, l.s.map fun _ => i1⟩]) (did s1 ⟨r1, l.f, l.s.map fun _ => i1⟩) := .snoc p1 hm1 hx1
    have hq1 : (q1 ++ [(⟨r1, l.f, l.s.map fun _ => i1⟩ : Ln)]).length ≤ seen'.length := by simp; omega
    have hτ : ∀ z, z < 2 → ∃ z', z' < 2 ∧ getD' (did s1 ⟨r1, l.f, l.s.map fun _ => i1⟩) z' = getD' (did s l) z := fun z hz => by
      have e1 : ∀ y, getD' (did s1 ⟨r1, l.f, l.s.map fun _ => i1⟩) y = if r1 = y then newT s l else getD' s1 y := fun y => by
        unfold did
        rw [set_get (by rw [st1.len]; exact hr), ht]
      have e2 : ∀ y, getD' (did s l) y = if l.c = y then newT s l else getD' s y := fun y => by
        unfold did
        rw [set_get (by rw [st.len]; exact hc)]
      have : z = l.c ∨ z = i := by omega
      rcases this with rfl | rfl
      · exact ⟨r1, hr, by rw [e1, e2, if_pos rfl, if_pos rfl]⟩
      · exact ⟨i1, p3, by rw [e1, e2, if_neg hr1, if_neg (Ne.symm hic), p6]⟩
    refine ⟨seen', hnd, hU, fun a ha => ?_, fun x hx hxy => ?_, ?_⟩
    · obtain ⟨a', a1, a2⟩ := hτ a ha
      exact ⟨_, _, a', pq, hq1, a1, a2⟩
    · rcases hold _ hxy with z | z
      · obtain ⟨k', c1, c2⟩ := I.old x hx z
        exact ⟨k', by omega, c2⟩
      · have := ix_inj h0 hx kx z
        subst this
        exact ⟨k, hk, hav0⟩
    · obtain ⟨q2, s2, c1, c2, c3⟩ : ∃ q2 s2, Pth pl 2 fs q2 s2 ∧ q2.length ≤ q1.length + 1 ∧ (getD' s i ≠ .none → getD' s2 i = getD' s i) := by
        by_cases e : i1 = i
        · subst e; exact ⟨q1, s1, p1, by omega, fun _ => p6⟩
        · obtain ⟨q', s', a1, a2, a3, _⟩ := cp m p1 p3 hi e
          rw [p6] at a3
          exact ⟨q', s', a1, a2, a3⟩
      have st2 := pth_len m c1
      have hag : ∀ z ∈ l.s, getD' s2 z = getD' s z := fun z hz => by
        have hne := k1 z hz
        have e := hsij z hz
        subst e
        exact c3 hne
      have ht2 : newT s2 l = newT s l := newT_agree hin.ne hag
      have hx2 : nextL pl s2 l = some (did s2 l) := next_of (fun z hz => by rw [hag z hz]; exact k1 z hz) (by rw [ht2]; exact k2)
      refine ⟨_, _, .snoc c1 hm hx2, by simp; omega, fun z hz hne => ?_⟩
      unfold did at hne ⊢
      rw [set_get (s := s) (by rw [st.len]; exact hc)] at hne
      rw [set_get (s := s2) (by rw [st2.len]; exact hc), set_get (s := s) (by rw [st.len]; exact hc), ht2]
      by_cases e : l.c = z
      · rw [if_pos e, if_pos e]
      · rw [if_neg e] at hne
        rw [if_neg e, if_neg e]
        have : z = i := by omega
        subst this
        exact c3 hne
end
/-! ### a real program, what is within parts -/
theorem dom {ws : List Wish} {n : Nat} {fs : List Nat} (m : ∀ r ∈ fs, r = 1 ∨ r = 2) (w : WfW ws) {lines : List Ln} : ∀ (ls : List Ln) (h : List D) (q : List Ln) (s : List D), (∀ l ∈ ls, l ∈ lines ∧ l ∈ allLines n fs) → h.length = n → s.length = n →
    Lost.Path (nextL (partsW ws)) lines (startL (partsW ws) n) q s → (∀ i, i < n → getD' h i ∈ partsW ws → getD' s i = getD' h i) →
    ∃ q' s', Lost.Path (nextL (partsW ws)) lines (startL (partsW ws) n) q' s' ∧ q'.length ≤ q.length + ls.length ∧ s'.length = n ∧ ∀ i, i < n → getD' (ls.foldl did h) i ∈ partsW ws → getD' s' i = getD' (ls.foldl did h) i
  | [], h, q, s, _, hh, hs, hp, hd => ⟨q, s, hp, by simp, hs, hd⟩
  | l :: ls, h, q, s, hl, hh, hs, hp, hd => by
    obtain ⟨hl1, hl2⟩ := hl l List.mem_cons_self
    obtain ⟨hc, hsrc, hform⟩ := (mem_allLines m).mp hl2
    have hin := lnIn_all m hl2
    have rest : ∀ l' ∈ ls, l' ∈ lines ∧ l' ∈ allLines n fs := fun l' h' => hl l' (List.mem_cons_of_mem _ h')
    have hlen : (did h l).length = n := by unfold did; rw [List.length_set]; exact hh
    have e1 : ∀ y, getD' (did h l) y = if l.c = y then newT h l else getD' h y := fun y => by
      unfold did
      rw [set_get (by rw [hh]; exact hc)]
    rw [List.foldl_cons]
    by_cases ht : newT h l ∈ partsW ws
    · have hsp : ∀ z ∈ l.s, getD' h z ∈ partsW ws := fun z hz => by
        rcases hform with ⟨f, a1, a2⟩ | ⟨a1, y, a2, a3⟩
        · unfold newT at ht
          rw [a1] at ht
          exact pl_closed ht _ (List.mem_map.mpr ⟨z, hz, rfl⟩)
        · unfold newT at ht
          rw [a1, a2] at ht
          rw [a2, List.mem_singleton] at hz
          rw [hz]
          exact ht
      have hag : ∀ z ∈ l.s, getD' s z = getD' h z := fun z hz => hd z (hsrc z hz) (hsp z hz)
      have hne : ∀ z ∈ l.s, getD' s z ≠ .none := fun z hz e => by
        rw [hag z hz] at e
        have := hsp z hz
        rw [e] at this
        exact pl_none w this
      have hnt : newT s l = newT h l := newT_agree hin.ne hag
      have hx : nextL (partsW ws) s l = some (did s l) := next_of hne (by rw [hnt]; exact ht)
      have e2 : ∀ y, getD' (did s l) y = if l.c = y then newT h l else getD' s y := fun y => by
        unfold did
        rw [set_get (by rw [hs]; exact hc), hnt]
      obtain ⟨q', s', a1, a2, a3, a4⟩ := dom m w ls (did h l) (q ++ [l]) (did s l) rest hlen (by unfold did; rw [List.length_set]; exact hs) (.snoc hp hl1 hx) fun i hi hip => by
        rw [e1] at hip ⊢
        rw [e2]
        by_cases e : l.c = i
        · rw [if_pos e, if_pos e]
        · rw [if_neg e] at hip
          rw [if_neg e, if_neg e]
          exact hd i hi hip
      exact ⟨q', s', a1, by simp only [List.length_append, List.length_cons, List.length_nil] at a2 ⊢; omega, a3, a4⟩
    · obtain ⟨q', s', a1, a2, a3, a4⟩ := dom m w ls (did h l) q s rest hlen hs hp fun i hi hip => by
        rw [e1] at hip ⊢
        by_cases e : l.c = i
        · rw [if_pos e] at hip; exact absurd hip ht
        · rw [if_neg e] at hip
          rw [if_neg e]
          exact hd i hi hip
      exact ⟨q', s', a1, by simp only [List.length_cons]; omega, a3, a4⟩
end LX

set_option maxRecDepth 100000
set_option maxHeartbeats 8000000
namespace LX
open PySem PySem.Spec PyProof.Rows L2 MDict GxR GQ
/-! ### few parts -/
theorem parts_tup {f : D} {as : List D} {u : D} (h : u ∈ partsOf (.tup (f :: as))) : u = .tup (f :: as) ∨ ∃ a ∈ as, u ∈ partsOf a := by
  simp only [partsOf, partsTl, partsSs_eq, List.mem_cons] at h
  rcases h with h | h
  · exact .inl h
  · obtain ⟨a, ha, hu⟩ := List.mem_flatMap.mp h
    exact .inr ⟨a, ha, hu⟩
theorem made_few {n : Nat} {fs : List Nat} (m : ∀ r ∈ fs, r = 1 ∨ r = 2) (A : List D) : ∀ (ls : List Ln) (h C : List D), (∀ l ∈ ls, l ∈ allLines n fs) → h.length = n → (∀ t ∈ h, ∀ u ∈ partsOf t, u ∈ A ++ C) →
    ∃ C', C'.length ≤ C.length + ls.length ∧ ∀ t ∈ ls.foldl did h, ∀ u ∈ partsOf t, u ∈ A ++ C'
  | [], h, C, _, _, hp => ⟨C, by simp, hp⟩
  | l :: ls, h, C, hl, hh, hp => by
    have hl2 := hl l List.mem_cons_self
    obtain ⟨hc, hsrc, hform⟩ := (mem_allLines m).mp hl2
    have hlen : (did h l).length = n := by unfold did; rw [List.length_set]; exact hh
    have rest : ∀ l' ∈ ls, l' ∈ allLines n fs := fun l' h' => hl l' (List.mem_cons_of_mem _ h')
    have hsub : ∀ u, u ∈ A ++ C → u ∈ A ++ (C ++ [newT h l]) := fun u hu => by
      rw [← List.append_assoc]; exact List.mem_append_left _ hu
    have hnew : ∀ t ∈ did h l, ∀ u ∈ partsOf t, u ∈ A ++ (C ++ [newT h l]) := fun t ht u hu => by
      unfold did at ht
      rcases List.mem_or_eq_of_mem_set ht with z | rfl
      · exact hsub u (hp t z u hu)
      · rcases hform with ⟨f, a1, a2⟩ | ⟨a1, y, a2, a3⟩
        · have e : newT h l = .tup (nm f :: l.s.map (getD' h)) := by unfold newT; rw [a1]
          rw [e] at hu
          rcases parts_tup hu with z | ⟨a, ha, hu⟩
          · rw [z, ← e]
            exact List.mem_append_right _ (List.mem_append_right _ (List.mem_singleton.mpr rfl))
          · obtain ⟨i, hi, rfl⟩ := List.mem_map.mp ha
            exact hsub u (hp _ (getD_mem (by rw [hh]; exact hsrc i hi)) u hu)
        · have e : newT h l = getD' h y := by unfold newT; rw [a1, a2]; rfl
          rw [e] at hu
          exact hsub u (hp _ (getD_mem (by rw [hh]; exact hsrc y (by rw [a2]; exact List.mem_singleton.mpr rfl))) u hu)
    obtain ⟨C', c1, c2⟩ := made_few m A ls (did h l) (C ++ [newT h l]) rest hlen hnew
    exact ⟨C', by simp only [List.length_append, List.length_cons, List.length_nil] at c1 ⊢; omega, c2⟩
theorem parts_num {i : Nat} {u : D} (h : u ∈ partsOf (nm i)) : u = nm i := by simpa [partsOf] using h
theorem parts_eight {n : Nat} {fs : List Nat} (mo : MOk n fs) {ws : List Wish} (wg : WGood n fs ws) : (partsW ws).length ≤ 8 := by
  have n3 := mo.n3; have n1 := mo.n1
  have fin : ∀ C : List D, C.length ≤ 5 → (∀ u ∈ partsW ws, u ∈ rgD n ++ C) → (partsW ws).length ≤ 8 := fun C hC hs => by
    have := Lost.nodup_le (partsW_nodup ws) hs
    rw [List.length_append, rgD_length] at this
    omega
  obtain ⟨held, hsrc, hh⟩ := wg.src
  have hpw : ∀ u ∈ partsW ws, ∃ t ∈ held, u ∈ partsOf t := fun u hu => by
    obtain ⟨y, hy, hp⟩ := partsW_mem.mp hu
    exact ⟨y.2, List.mem_of_getElem? (hh y hy), hp⟩
  rcases hsrc with ⟨ls, hl, h5, e, _⟩ | ⟨hn, h2⟩
  · obtain ⟨C, c1, c2⟩ := made_few mo.r (rgD n) ls (rgD n) [] hl (rgD_length n) fun t ht u hu => by
      obtain ⟨i, _, rfl⟩ := List.mem_map.mp ht
      rw [List.append_nil, parts_num hu]
      exact ht
    refine fin C (by simp at c1; omega) fun u hu => ?_
    obtain ⟨t, ht, hp⟩ := hpw u hu
    rw [e] at ht
    exact c2 t ht u hp
  · have h0 : nm 0 ∈ rgD n := List.mem_map.mpr ⟨0, List.mem_range.mpr (by omega), rfl⟩
    refine fin [f0 fs] (by simp) fun u hu => ?_
    obtain ⟨t, ht, hp⟩ := hpw u hu
    rcases h2 t ht with rfl | rfl
    · rw [parts_num hp]; exact List.mem_append_left _ h0
    · unfold f0 at hp
      rcases parts_tup hp with z | ⟨a, ha, hp⟩
      · rw [z]; exact List.mem_append_right _ (List.mem_singleton.mpr rfl)
      · rw [List.eq_of_mem_replicate ha] at hp
        rw [parts_num hp]; exact List.mem_append_left _ h0
/-! ### a program of few lines for each kind of wishes -/
def cpL (c : Nat) : Ln := ⟨c, none, [0]⟩
def fL (r c : Nat) : Ln := ⟨c, some 0, List.replicate r c⟩
def pick2 (r : Nat) (a : Bool) (c : Nat) : List Ln := if a then [fL r c] else []
def val2 (r : Nat) (a : Bool) : D := if a then .tup (nm 0 :: List.replicate r (nm 0)) else nm 0
theorem fold1 : ∀ (r : Bool) (a : Bool), (pick2 (if r then 1 else 2) a 0).foldl did (rgD 1) = [val2 (if r then 1 else 2) a] := by
  intro r a; cases r <;> cases a <;> rfl
theorem fold2 : ∀ (r : Bool) (a b : Bool), ([cpL 1] ++ pick2 (if r then 1 else 2) a 0 ++ pick2 (if r then 1 else 2) b 1).foldl did (rgD 2) = [val2 (if r then 1 else 2) a, val2 (if r then 1 else 2) b] := by
  intro r a b; cases r <;> cases a <;> cases b <;> rfl
theorem fold3 : ∀ (r : Bool) (a b c : Bool), ([cpL 1, cpL 2] ++ pick2 (if r then 1 else 2) a 0 ++ pick2 (if r then 1 else 2) b 1 ++ pick2 (if r then 1 else 2) c 2).foldl did (rgD 3) = [val2 (if r then 1 else 2) a, val2 (if r then 1 else 2) b, val2 (if r then 1 else 2) c] := by
  intro r a b c; cases r <;> cases a <;> cases b <;> cases c <;> rfl
theorem pick2_mem {n : Nat} {fs : List Nat} (mo : MOk n fs) {r c : Nat} {a : Bool} (hr : fs[0]? = some r) (hc : c < n) : ∀ l ∈ pick2 r a c, l ∈ allLines n fs := fun l hl => by
  unfold pick2 at hl
  split at hl
  · rw [List.mem_singleton.mp hl]
    exact (mem_allLines mo.r).mpr ⟨hc, fun x hx => by rw [List.eq_of_mem_replicate hx]; exact hc, .inl ⟨0, rfl, by rw [hr]; show some r = some (List.replicate r c).length; rw [List.length_replicate]⟩⟩
  · cases hl
theorem pick2_len {r c : Nat} {a : Bool} : (pick2 r a c).length ≤ 1 := by unfold pick2; split <;> simp
theorem cpL_mem {n : Nat} {fs : List Nat} (mo : MOk n fs) {c : Nat} (hc : c < n) (h0 : c ≠ 0) : cpL c ∈ allLines n fs := (mem_allLines mo.r).mpr ⟨hc, fun x hx => by
    have hx : x ∈ [0] := hx
    rw [List.mem_singleton.mp hx]; have := mo.n1; omega, .inr ⟨rfl, 0, rfl, Ne.symm h0⟩⟩
theorem src_prog {n : Nat} {fs : List Nat} (mo : MOk n fs) {held : List D} (h : Src n fs held) : ∃ ls : List Ln, (∀ l ∈ ls, l ∈ allLines n fs) ∧ ls.length ≤ 5 ∧ ls.foldl did (rgD n) = held := by
  rcases h with ⟨ls, hl, h5, e, _⟩ | ⟨hn, h2⟩
  · exact ⟨ls, hl, h5, e.symm⟩
  · have n1 := mo.n1; have n3 := mo.n3; have f1 := mo.f1
    obtain ⟨r0, hr0⟩ : ∃ r, fs[0]? = some r := ⟨fs[0], List.getElem?_eq_getElem (by omega)⟩
    have hr12 := mo.r r0 (List.mem_of_getElem? hr0)
    have hf0 : f0 fs = .tup (nm 0 :: List.replicate r0 (nm 0)) := by
      unfold f0
      rw [List.headD_eq_head?_getD, List.head?_eq_getElem?, hr0]
      rfl
    obtain ⟨rb, hrb⟩ : ∃ rb : Bool, r0 = if rb then 1 else 2 := by
      rcases hr12 with e | e
      · exact ⟨true, e⟩
      · exact ⟨false, e⟩
    have hv : ∀ d ∈ held, ∃ a, d = val2 r0 a := fun d hd => by
      rcases h2 d hd with e | e
      · exact ⟨false, e⟩
      · exact ⟨true, by rw [e, hf0]; rfl⟩
    have hpl : ∀ {c : Nat} {a : Bool}, (pick2 r0 a c).length ≤ 1 := fun {c a} => pick2_len
    have : n = 1 ∨ n = 2 ∨ n = 3 := by omega
    rcases this with rfl | rfl | rfl
    · match held, hn, hv with
      | [x], _, hv =>
        obtain ⟨a, rfl⟩ := hv x (by simp)
        exact ⟨pick2 r0 a 0, pick2_mem mo hr0 (by omega), by have := @hpl 0 a; omega, by rw [hrb]; exact fold1 rb a⟩
    · match held, hn, hv with
      | [x, y], _, hv =>
        obtain ⟨a, rfl⟩ := hv x (by simp)
        obtain ⟨b, rfl⟩ := hv y (by simp)
        refine ⟨[cpL 1] ++ pick2 r0 a 0 ++ pick2 r0 b 1, fun l hl => ?_, by have h1 := @hpl 0 a; have h2 := @hpl 1 b; simp only [List.length_append, List.length_cons, List.length_nil]; omega, by rw [hrb]; exact fold2 rb a b⟩
        rcases List.mem_append.mp hl with hl | hl
        · rcases List.mem_append.mp hl with hl | hl
          · rw [List.mem_singleton.mp hl]; exact cpL_mem mo (by omega) (by omega)
          · exact pick2_mem mo hr0 (by omega) l hl
        · exact pick2_mem mo hr0 (by omega) l hl
    · match held, hn, hv with
      | [x, y, z], _, hv =>
        obtain ⟨a, rfl⟩ := hv x (by simp)
        obtain ⟨b, rfl⟩ := hv y (by simp)
        obtain ⟨c, rfl⟩ := hv z (by simp)
        refine ⟨[cpL 1, cpL 2] ++ pick2 r0 a 0 ++ pick2 r0 b 1 ++ pick2 r0 c 2, fun l hl => ?_, by have h1 := @hpl 0 a; have h2 := @hpl 1 b; have h3 := @hpl 2 c; simp only [List.length_append, List.length_cons, List.length_nil]; omega, by rw [hrb]; exact fold3 rb a b c⟩
        rcases List.mem_append.mp hl with hl | hl
        · rcases List.mem_append.mp hl with hl | hl
          · rcases List.mem_append.mp hl with hl | hl
            · simp only [List.mem_cons, List.not_mem_nil, or_false] at hl
              rcases hl with rfl | rfl
              · exact cpL_mem mo (by omega) (by omega)
              · exact cpL_mem mo (by omega) (by omega)
            · exact pick2_mem mo hr0 (by omega) l hl
          · exact pick2_mem mo hr0 (by omega) l hl
        · exact pick2_mem mo hr0 (by omega) l hl
/-! ### the bound -/
theorem bound_of {x : FArg} (ok : GOk x) {q : List Ln} {s : List D} (hp : Lost.Path (nextL (partsW x.ws)) (movesOf x.n x.fs x.b) (startL (partsW x.ws) x.n) q s) (hg : goalL x.ws s = true) (hq : q.length ≤ 60) : ∀ p, LeastP x (some p) → p.length ≤ 60 := fun p lp => by
  unfold LeastP at lp
  rw [num_start x ok.f.w] at lp
  obtain ⟨h, _, _, c3⟩ := lp
  obtain ⟨a1, q', a2, a3⟩ := path_l (pl_none ok.f.w) (fun l h => lnIn_moves ok.f.m.r h) (stl_start (partsW x.ws) x.n) hp
  have := c3 q' _ a2 (by rw [num_goal x ok.f.w ok.f.c a1.len]; exact hg)
  omega
theorem goal_dom {x : FArg} (ok : GOk x) {s s' : List D} (hs : s.length = x.n) (hs' : s'.length = x.n) (hg : goalL x.ws s = true) (h : ∀ i, i < x.n → getD' s i ≠ .none → getD' s' i = getD' s i) : goalL x.ws s' = true := List.all_eq_true.mpr fun y hy => by
  have hy1 := List.all_eq_true.mp hg y hy
  have hc := ok.f.c y hy
  unfold hit at hy1 ⊢
  rw [getD_get (by rw [hs]; exact hc)] at hy1
  have e : getD' s y.1 = y.2 := by simpa using hy1
  have hne : getD' s y.1 ≠ .none := fun z => by
    rw [e] at z
    have := (ok.f.w.wf y hy).1
    rw [z] at this
    simp [wfS] at this
  rw [getD_get (by rw [hs']; exact hc), h y.1 hc hne, e]
  simp
theorem bound (x : FArg) (ok : GOk x) (wg : WGood x.n x.fs x.ws) : ∀ p, LeastP x (some p) → p.length ≤ 60 := fun p lp => by
  have mo := ok.f.m
  have n1 := mo.n1; have n3 := mo.n3
  have h0 := pl_none ok.f.w
  have h8 := parts_eight mo wg
  obtain ⟨s, hp, hg⟩ := lp_path ok lp
  cases hb : x.b with
  | false =>
    obtain ⟨held, hsrc, hh⟩ := wg.src
    obtain ⟨ls, l1, l2, l3⟩ := src_prog mo hsrc
    have hlen := src_len hsrc
    obtain ⟨q', s', a1, a2, a3, a4⟩ := dom (lines := movesOf x.n x.fs x.b) mo.r ok.f.w ls (rgD x.n) [] (startL (partsW x.ws) x.n) (fun l hl => ⟨by
      rw [hb]
      exact List.mem_filter.mpr ⟨l1 l hl, by simp⟩, l1 l hl⟩) (rgD_length _) (stl_start (partsW x.ws) x.n).len .nil (fun i hi hip => by
      have e1 : getD' (rgD x.n) i = nm i := by
        have := getD_get (held := rgD x.n) (i := i) (by rw [rgD_length]; exact hi)
        rw [rgD_get hi] at this
        exact (Option.some.inj this).symm
      rw [e1] at hip ⊢
      have := getD_get (held := startL (partsW x.ws) x.n) (i := i) (by rw [(stl_start (partsW x.ws) x.n).len]; exact hi)
      unfold startL at this ⊢
      rw [List.getElem?_map, rgD_get hi] at this
      have this := Option.some.inj this
      rw [← this]
      exact if_pos hip)
    refine bound_of ok a1 (List.all_eq_true.mpr fun y hy => ?_) (by simp at a2; omega) p lp
    have hc := ok.f.c y hy
    have e : getD' held y.1 = y.2 := by
      have := hh y hy
      rw [getD_get (by rw [hlen]; exact hc)] at this
      exact Option.some.inj this
    unfold hit
    rw [getD_get (by rw [a3]; exact hc)]
    rw [l3] at a4
    rw [a4 y.1 hc (by rw [e]; exact partsW_mem.mpr ⟨y, hy, self_part _⟩), e]
    simp
  | true =>
    rw [hb] at hp
    have st := pth_len (fs := x.fs) mo.r hp
    have : x.n = 1 ∨ x.n = 2 ∨ x.n = 3 := by omega
    rcases this with e | e | e
    · have : p = [] := by
        cases p with
        | nil => rfl
        | cons l r =>
          have hm := path_mem hp l List.mem_cons_self
          obtain ⟨h1, h2⟩ := (mem_moves mo.r).mp hm
          have hin := lnIn_all mo.r h1
          exfalso
          cases hs : l.s with
          | nil => exact hin.ne hs
          | cons a t =>
            have ha := hin.s a (by rw [hs]; exact List.mem_cons_self)
            have hc := hin.c
            exact h2 (by rw [hs, show l.c = a by omega]; exact List.mem_cons_self)
      rw [this]; simp
    · have hp2 : Pth (partsW x.ws) 2 x.fs p s := by rw [← e]; exact hp
      obtain ⟨seen, I⟩ := inv_two mo.r h0 h8 hp2
      have h9 := Lost.nodup_le I.nd I.inU
      rw [List.length_range] at h9
      obtain ⟨q', s', a1, a2, a3⟩ := I.fin
      have st' := pth_len mo.r a1
      exact bound_of (q := q') (s := s') ok (by rw [hb, e]; exact a1) (goal_dom ok (by rw [st.len]) (by rw [st'.len, e]) hg fun i hi hne => a3 i (by omega) hne) (by omega) p lp
    · have hp2 : Pth (partsW x.ws) 3 x.fs p s := by rw [← e]; exact hp
      obtain ⟨seen, I⟩ := inv_path mo.r h0 h8 hp2
      have h9 := Lost.nodup_le I.nd I.inU
      rw [u45_len] at h9
      obtain ⟨q', s', a1, a2, a3⟩ := I.fin
      have st' := pth_len mo.r a1
      exact bound_of (q := q') (s := s') ok (by rw [hb, e]; exact a1) (goal_dom ok (by rw [st.len]) (by rw [st'.len, e]) hg fun i hi hne => a3 i (by omega) hne) (by omega) p lp
theorem math_all : ∀ x : FArg, GOk x → WGood x.n x.fs x.ws → MathOk x := fun x ok wg => math_of x ok wg (bound x ok wg)
end LX

set_option maxRecDepth 100000
set_option maxHeartbeats 0
open PySem PySem.W PySem.Calls PyProof.Rows
theorem PySem.Challenge.cw_lostlines_k03_whole_searches_holds : PySem.Challenge.rw_lostlines_k03_whole_searches.Holds := by
  w_on; o_law
  refine HandSHeadRun.head_any (r := OpenLaw.row PySem.Challenge.rw_lostlines_k03_whole_searches) (q := view (OpenLaw.row PySem.Challenge.rw_lostlines_k03_whole_searches).prog [56]) (H := LX.hkH) (ob := LX.obH) (M := 3000) (loose := LX.looseH) (d := HandSHeadRun.topDef (OpenLaw.row PySem.Challenge.rw_lostlines_k03_whole_searches).prog 56) (kwd := []) LX.obH_eq
    (by kernel_rfl) (fun s => by kernel_rfl) LX.runH (by kernel_rfl) (by kernel_rfl) (by kernel_rfl) (by rfl) (by first | assumption | decide +kernel) (by decide +kernel) ⟨rfl, rfl, rfl, rfl, rfl, by decide +kernel⟩ ?hw ?hc
  case hw => w_witness2
  case hc =>
    refine LamX.walk_ofTsE (l := PySem.Challenge.rw_lostlines_k03_whole_searches) (n := 63) (k := 50) (x := "_law_script") (CX := fun _ => L2.CX0) rfl (by decide) (by kernel_rfl) ⟨rfl, by decide, by decide⟩ ?F (fun _ _ _ _ _ z => z)
    intro w mg fa h Y G hmg0
    obtain ⟨K, KX, c⟩ := Y
    have hmg : mg ("law" : PySem.Str) = some (.ref fa) := by
      have e : (HandSHeadRun.topDef (OpenLaw.row PySem.Challenge.rw_lostlines_k03_whole_searches).prog 56).name = ("law" : PySem.Str) := by kernel_rfl
      rw [← e]
      exact hmg0
    obtain ⟨fd, hb, hF⟩ := LX.law_ok (P := (PySem.Challenge.rw_lostlines_k03_whole_searches).prog) (w := w) LX.math_all KX G hmg c
    refine ⟨K, KX, fd, LX.tfH.map (He.cT K), LX.sp_law K ((LX.tfH.map (He.cT K)).map (·.2)), ?_, ?_, ?_, hb, ?_, hF⟩
    · intro p hp
      obtain ⟨q, hq, rfl⟩ := List.mem_map.mp hp
      exact c.empty q hq
    · intro p hp
      obtain ⟨q, hq, rfl⟩ := List.mem_map.mp hp
      exact c.out q hq
    · intro p hp
      obtain ⟨q, hq, rfl⟩ := List.mem_map.mp hp
      exact codeHd_of_K KX (c.hd q hq)
    · intro H a ns hl _ hT hS
      refine ⟨fun P hP => ?_, a, ns, rfl, hS, fun _ => rfl⟩
      obtain ⟨p, hp, rfl⟩ := List.mem_map.mp hP
      exact ⟨#[], hT p hp, trivial⟩

import PyProof.Rows.All
import Wide.All
import OpenK.AllK
import Wide.FinOn
import Lean
import PySem.Challenge.RW_sa0052_01
set_option Elab.async false
set_option maxRecDepth 100000
set_option linter.unusedVariables false
set_option linter.unusedSectionVars false
set_option genInjectivity false
set_option genSizeOf false
namespace Mine
open PySem PySem.W PySem.Calls PySem.Spec PyProof.Rows

/-! ## the frozen store -/
noncomputable def Sub (g h : Heap) : Prop := ∀ b o, g.get? b = some o → h.get? b = some o
theorem Sub.refl (g : Heap) : Sub g g := fun _ _ e => e
theorem Sub.trans {a b c : Heap} (x : Sub a b) (y : Sub b c) : Sub a c := fun p o e => y p o (x p o e)
theorem Sub.push (h : Heap) (o : Obj) : Sub h (h.push o) := fun _ _ e => Heap.get?_push_of_some o e
theorem Sub.extBut {h h' : Heap} (x : Heap.ExtBut h.objs.size h h') : Sub h h' := fun b o e => x b o (Nat.ne_of_lt (Heap.lt_size e)) e
theorem Sub.sameBut {h h' : Heap} {a : Addr} (x : Heap.SameBut a h h') (ha : h.get? a = none) : Sub h h' :=
  fun b o e => (x.2 b (by rintro rfl; rw [ha] at e; cases e)).trans e

noncomputable def maskH (h : Heap) (k : Addr → Bool) : Heap := ⟨h.objs.mapIdx (fun i o => if k i then o else { cls := .none, data := .freed }), h.life⟩
theorem get?_maskH (h : Heap) (k : Addr → Bool) (a : Addr) : (maskH h k).get? a = if k a then h.get? a else none := by
  unfold maskH Heap.get?
  simp only [Array.getElem?_mapIdx]
  cases hx : h.objs[a]? with
  | none => simp
  | some o =>
    simp only [Option.map_some]
    cases hk : k a <;> simp

theorem grow (h g : Heap) (hk : Sub g h) (N : Addr → Prop) : ∃ g', Sub g g' ∧ Sub g' h ∧ (∀ a o, N a → h.get? a = some o → g'.get? a = some o) ∧
    (∀ b o, g'.get? b = some o → g.get? b = some o ∨ (N b ∧ h.get? b = some o)) := by
  classical
  refine ⟨maskH h fun b => decide ((g.get? b).isSome ∨ N b), ?_, ?_, ?_, ?_⟩
  · intro b o e
    rw [get?_maskH, if_pos (by simp [e])]; exact hk b o e
  · intro b o e
    rw [get?_maskH] at e
    split at e
    · exact e
    · cases e
  · intro a o hN e
    rw [get?_maskH, if_pos (by simp [hN])]; exact e
  · intro b o e
    rw [get?_maskH] at e
    split at e
    · rename_i hc
      rw [decide_eq_true_eq] at hc
      rcases hc with hc | hc
      · obtain ⟨o', ho'⟩ := Option.isSome_iff_exists.mp hc
        have := hk b o' ho'
        rw [e] at this; cases this; exact .inl ho'
      · exact .inr ⟨hc, e⟩
    · cases e

/-! ## what a value holds -/
inductive Rk where
  | dat (d : PyData)
  | val (v : Value)
  | gen (P : Heap → Value → Prop)

noncomputable def Rk.holds (g : Heap) : Rk → Value → Prop
  | .dat d, v => ∃ as, Reads g v d as
  | .val u, v => v = u
  | .gen P, v => ∃ g', Sub g' g ∧ P g' v
theorem Rk.holds.mono {g g' : Heap} (k : Sub g g') {r : Rk} {v : Value} (x : r.holds g v) : r.holds g' v := by
  cases r with
  | dat d => exact let ⟨as, h⟩ := x; ⟨as, PyProof.Rows.Reads.keeps k h⟩
  | val u => exact x
  | gen P => exact let ⟨q, e, h⟩ := x; ⟨q, e.trans k, h⟩

noncomputable def allHold (g : Heap) : List Rk → List Value → Prop
  | [], [] => True
  | r :: rs, v :: vs => r.holds g v ∧ allHold g rs vs
  | _, _ => False
theorem allHold.mono {g g' : Heap} (k : Sub g g') : ∀ {rs : List Rk} {vs : List Value}, allHold g rs vs → allHold g' rs vs
  | [], [], _ => trivial
  | [], _ :: _, x => x.elim
  | _ :: _, [], x => x.elim
  | _ :: _, _ :: _, x => ⟨x.1.mono k, x.2.mono k⟩
theorem allHold.length {g : Heap} : ∀ {rs : List Rk} {vs : List Value}, allHold g rs vs → vs.length = rs.length
  | [], [], _ => rfl
  | [], _ :: _, x => x.elim
  | _ :: _, [], x => x.elim
  | _ :: _, _ :: _, x => by simp [x.2.length]
theorem allHold.append {g : Heap} : ∀ {rs qs : List Rk} {vs ws : List Value}, allHold g rs vs → allHold g qs ws → allHold g (rs ++ qs) (vs ++ ws)
  | [], _, [], _, _, y => y
  | [], _, _ :: _, _, x, _ => x.elim
  | _ :: _, _, [], _, x, _ => x.elim
  | _ :: _, _, _ :: _, _, x, y => ⟨x.1, x.2.append y⟩
theorem allHold.get {g : Heap} : ∀ {rs : List Rk} {vs : List Value}, allHold g rs vs → ∀ {i : Nat} {r : Rk}, rs[i]? = some r → ∃ v, vs[i]? = some v ∧ r.holds g v
  | [], _, _, i, r, e => by simp at e
  | _ :: _, [], x, _, _, _ => x.elim
  | q :: rs, v :: vs, x, 0, r, e => by simp at e; subst e; exact ⟨v, rfl, x.1⟩
  | q :: rs, v :: vs, x, i + 1, r, e => by simpa using x.2.get (i := i) (r := r) (by simpa using e)

inductive Mk where
  | list (rs : List Rk)
  | cell (r : Rk)
  | raw (o : Obj)
  | gen (P : Heap → Obj → Prop)

noncomputable def tagList (vs : List Value) (n : Nat) : Obj := { cls := .type "list", data := .seq vs.toArray n }
noncomputable def Mk.holds (g : Heap) : Mk → Obj → Prop
  | .list rs, o => ∃ vs n, o = tagList vs n ∧ allHold g rs vs
  | .cell r, o => ∃ v, o.data = .cell (some v) ∧ r.holds g v
  | .raw o', o => o = o'
  | .gen P, o => ∃ g', Sub g' g ∧ P g' o
theorem Mk.holds.mono {g g' : Heap} (k : Sub g g') {m : Mk} {o : Obj} (x : m.holds g o) : m.holds g' o := by
  cases m with
  | list rs => exact let ⟨vs, n, e, h⟩ := x; ⟨vs, n, e, h.mono k⟩
  | cell r => exact let ⟨v, e, h⟩ := x; ⟨v, e, h.mono k⟩
  | raw o' => exact x
  | gen P => exact let ⟨q, e, h⟩ := x; ⟨q, e.trans k, h⟩

/-! ## the state -/
structure Lay where
  prog : Program
  w : World
  mg : Str → Option Value
  mb : Str → Option Value
  defs : List DefRec
structure Cx where
  lay : Lay
  A : Around
  env : Env
  h₀ : Heap
  g₀ : Heap
  s₀ : Shared

noncomputable abbrev Vs := List (Str × Rk)
noncomputable abbrev Ms := List (Addr × Mk)
noncomputable abbrev Ts := List (Value × Rk)

structure St (C : Cx) (g : Heap) (m : Str → Option Value) (μ : Ms) (h : Heap) : Prop where
  ns : h.Ns C.env.locals m
  keep : Sub g h
  old : Sub C.h₀ h
  sub0 : Sub C.g₀ g
  back : ∀ b o, g.get? b = some o → (∃ o', C.h₀.get? b = some o') → C.g₀.get? b = some o
  gL : g.get? C.env.locals = none
  oL : C.h₀.get? C.env.locals = none
  mu : ∀ p ∈ μ, (∃ o, h.get? p.1 = some o ∧ p.2.holds g o) ∧ p.1 ≠ C.env.locals ∧ g.get? p.1 = none ∧ C.h₀.get? p.1 = none
  nd : (μ.map (·.1)).Nodup

noncomputable def Same (C : Cx) (s : Shared) : Prop := ∃ h t, s = { C.s₀ with heap := h, toks := t }
theorem Same.next {C : Cx} {s : Shared} (x : Same C s) (h : Heap) (t : Nat) : Same C { s with heap := h, toks := t } := by
  obtain ⟨_, _, rfl⟩ := x; exact ⟨h, t, rfl⟩

noncomputable def VarsOk (g : Heap) (m : Str → Option Value) (ρ : Vs) : Prop := ∀ x r, ρ.lookup x = some r → ∃ v, m x = some v ∧ r.holds g v
noncomputable def TmpOk (g : Heap) (τ : Ts) : Prop := ∀ p ∈ τ, p.2.holds g p.1
theorem VarsOk.mono {g g' : Heap} (k : Sub g g') {m} {ρ : Vs} (x : VarsOk g m ρ) : VarsOk g' m ρ := fun y r e => let ⟨v, a, b⟩ := x y r e; ⟨v, a, b.mono k⟩
theorem TmpOk.mono {g g' : Heap} (k : Sub g g') {τ : Ts} (x : TmpOk g τ) : TmpOk g' τ := fun p hp => (x p hp).mono k
theorem TmpOk.cons {g : Heap} {τ : Ts} {v : Value} {r : Rk} (hr : r.holds g v) (x : TmpOk g τ) : TmpOk g ((v, r) :: τ) := by
  intro p hp
  rcases List.mem_cons.mp hp with rfl | hp
  · exact hr
  · exact x p hp

noncomputable def At (C : Cx) (ρ : Vs) (μ : Ms) (τ : Ts) (s : Shared) : Prop :=
  Same C s ∧ ∃ g m, St C g m μ s.heap ∧ VarsOk g m ρ ∧ TmpOk g τ

section
variable {C : Cx} {ρ ρ' : Vs} {μ μ' : Ms} {τ τ' : Ts} {s : Shared} {g g' h h' : Heap} {m : Str → Option Value}

theorem St.grown (x : St C g m μ h) (k : Sub g g') (kh : Sub g' h) (hb : ∀ b o, g'.get? b = some o → g.get? b = some o ∨ (C.h₀.get? b = none ∧ b ≠ C.env.locals ∧ ∀ p ∈ μ, b ≠ p.1)) : St C g' m μ h where
  ns := x.ns
  keep := kh
  old := x.old
  sub0 := x.sub0.trans k
  back := fun b o e ⟨o', e'⟩ => by
    rcases hb b o e with h1 | h1
    · exact x.back b o h1 ⟨o', e'⟩
    · rw [h1.1] at e'; cases e'
  gL := by
    cases e : g'.get? C.env.locals with
    | none => rfl
    | some o =>
      rcases hb _ o e with h1 | h1
      · rw [x.gL] at h1; cases h1
      · exact absurd rfl h1.2.1
  oL := x.oL
  mu := fun p hp => by
    obtain ⟨⟨o, h1, h2⟩, h3, h4, h5⟩ := x.mu p hp
    refine ⟨⟨o, h1, h2.mono k⟩, h3, ?_, h5⟩
    cases e : g'.get? p.1 with
    | none => rfl
    | some o' =>
      rcases hb _ o' e with q | q
      · rw [h4] at q; cases q
      · exact absurd rfl (q.2.2 p hp)
  nd := x.nd

theorem St.ext (x : St C g m μ h) (k : Sub h h') : St C g m μ h' where
  ns := x.ns.keeps k
  keep := x.keep.trans k
  old := x.old.trans k
  sub0 := x.sub0
  back := x.back
  gL := x.gL
  oL := x.oL
  mu := fun p hp => let ⟨⟨o, h1, h2⟩, r⟩ := x.mu p hp; ⟨⟨o, k _ _ h1, h2⟩, r⟩
  nd := x.nd

/-- garbage may be made -/
theorem At.ext (x : At C ρ μ τ s) (k : Sub s.heap h') (t : Nat) : At C ρ μ τ { s with heap := h', toks := t } := by
  obtain ⟨hs, g, m, S, V, T⟩ := x
  exact ⟨hs.next _ _, g, m, S.ext k, V, T⟩
theorem At.toks (x : At C ρ μ τ s) (t : Nat) : At C ρ μ τ { s with toks := t } := x.ext (Sub.refl _) t

theorem At.sub (x : At C ρ μ τ s) (hρ : ∀ y r, ρ'.lookup y = some r → ρ.lookup y = some r) (hμ : List.Sublist μ' μ) (hτ : ∀ p ∈ τ', p ∈ τ) : At C ρ' μ' τ' s := by
  obtain ⟨hs, g, m, S, V, T⟩ := x
  refine ⟨hs, g, m, { S with mu := fun p hp => S.mu p (hμ.subset hp), nd := S.nd.sublist (hμ.map _) }, fun y r e => V y r (hρ y r e), fun p hp => T p (hτ p hp)⟩
theorem lookup_of_all {ρ ρ' : Vs} (h : ∀ p ∈ ρ', ρ.lookup p.1 = some p.2) : ∀ y r, ρ'.lookup y = some r → ρ.lookup y = some r := by
  intro y r e
  have : (y, r) ∈ ρ' := by
    clear h
    induction ρ' with
    | nil => cases e
    | cons p t ih =>
      obtain ⟨z, q⟩ := p
      rw [List.lookup_cons] at e
      split at e
      · rename_i hb
        cases e; rw [beq_iff_eq.mp hb]; exact .head _
      · exact .tail _ (ih e)
  exact h _ this
theorem At.vars (x : At C ρ μ τ s) (h : ∀ p ∈ ρ', ρ.lookup p.1 = some p.2) : At C ρ' μ τ s := x.sub (lookup_of_all h) (List.Sublist.refl _) fun _ hp => hp
theorem At.drop {p : Value × Rk} (x : At C ρ μ (p :: τ) s) : At C ρ μ τ s := x.sub (fun _ _ e => e) (List.Sublist.refl _) fun _ hp => .tail _ hp
theorem At.tmps (x : At C ρ μ τ s) (h : ∀ p ∈ τ', p ∈ τ) : At C ρ μ τ' s := x.sub (fun _ _ e => e) (List.Sublist.refl _) h
theorem At.perm (x : At C ρ μ τ s) (hp : μ'.Perm μ) : At C ρ μ' τ s := by
  obtain ⟨hs, g, m, S, V, T⟩ := x
  exact ⟨hs, g, m, { S with mu := fun p h => S.mu p (hp.mem_iff.mp h), nd := (hp.map _).nodup_iff.mpr S.nd }, V, T⟩
theorem At.dropM {p : Addr × Mk} (x : At C ρ (p :: μ) τ s) : At C ρ μ τ s := x.sub (fun _ _ e => e) (List.sublist_cons_self _ _) fun _ hp => hp

theorem At.hold (x : At C ρ μ τ s) {v : Value} {r : Rk} (h : (v, r) ∈ τ) : r.holds s.heap v := by
  obtain ⟨_, g, m, S, V, T⟩ := x
  exact (T _ h).mono S.keep
theorem At.top {v : Value} {r : Rk} (x : At C ρ μ ((v, r) :: τ) s) : r.holds s.heap v := x.hold (.head _)
theorem At.top2 {v u : Value} {r q : Rk} (x : At C ρ μ ((v, r) :: (u, q) :: τ) s) : q.holds s.heap u := x.hold (.tail _ (.head _))
theorem At.top3 {v u z : Value} {r q t : Rk} (x : At C ρ μ ((v, r) :: (u, q) :: (z, t) :: τ) s) : t.holds s.heap z := x.hold (.tail _ (.tail _ (.head _)))
theorem At.same (x : At C ρ μ τ s) : Same C s := x.1
theorem At.push {v : Value} {r : Rk} (x : At C ρ μ τ s) (h : ∀ g, Sub g s.heap → TmpOk g τ → r.holds g v) : At C ρ μ ((v, r) :: τ) s := by
  obtain ⟨hs, g, m, S, V, T⟩ := x
  exact ⟨hs, g, m, S, V, T.cons (h g S.keep T)⟩
theorem At.pushD (τd : Ts) {v : Value} {r : Rk} (x : At C ρ μ (τd ++ τ) s) (h : ∀ g, Sub g s.heap → TmpOk g (τd ++ τ) → r.holds g v) : At C ρ μ ((v, r) :: τ) s :=
  (x.push h).tmps fun p hp => by
    rcases List.mem_cons.mp hp with rfl | hp
    · exact .head _
    · exact .tail _ (List.mem_append_right _ hp)
/-- what a member of the mutables holds -/
theorem At.mem {a : Addr} {k : Mk} (x : At C ρ μ τ s) (h : (a, k) ∈ μ) : ∃ g o, Sub g s.heap ∧ TmpOk g τ ∧ s.heap.get? a = some o ∧ k.holds g o := by
  obtain ⟨_, g, m, S, V, T⟩ := x
  obtain ⟨⟨o, h1, h2⟩, _⟩ := S.mu _ h
  exact ⟨g, o, S.keep, T, h1, h2⟩
theorem At.name {x : Str} {r : Rk} (a : At C ρ μ τ s) (hx : ρ.lookup x = some r) : ∃ m v, s.heap.Ns C.env.locals m ∧ m x = some v ∧ At C ρ μ ((v, r) :: τ) s := by
  obtain ⟨hs, g, m, S, V, T⟩ := a
  obtain ⟨v, h1, h2⟩ := V _ _ hx
  exact ⟨m, v, S.ns, h1, hs, g, m, S, V, T.cons h2⟩

/-- an object is made, and frozen at once -/
theorem At.alloc {o : Obj} {r : Rk} (x : At C ρ μ τ s) (hf : o.isFreed = false)
    (hr : ∀ g, Sub g (s.heap.push o) → TmpOk g τ → g.get? s.heap.objs.size = some o → r.holds g (.ref s.heap.objs.size)) : At C ρ μ ((.ref s.heap.objs.size, r) :: τ) { s with heap := s.heap.push o } := by
  obtain ⟨hs, g, m, S, V, T⟩ := x
  have S1 : St C g m μ (s.heap.push o) := S.ext (Sub.push _ _)
  have hnew : ∀ b, b = s.heap.objs.size → s.heap.get? b = none := fun b e => Heap.get?_none_of_le (e ▸ Nat.le_refl _)
  obtain ⟨g', k1, k2, k3, k4⟩ := grow (s.heap.push o) g S1.keep (fun b => b = s.heap.objs.size)
  have hg' : g'.get? s.heap.objs.size = some o := k3 _ _ rfl (Heap.get?_push_size _ hf)
  refine ⟨hs.next _ _, g', m, S1.grown k1 k2 fun b o' e => ?_, V.mono k1, (T.mono k1).cons (hr g' k2 (T.mono k1) hg')⟩
  rcases k4 b o' e with q | ⟨q, _⟩
  · exact .inl q
  · refine .inr ⟨?_, ?_, ?_⟩
    · cases e2 : C.h₀.get? b with
      | none => rfl
      | some o2 => have := S.old _ _ e2; rw [hnew b q] at this; cases this
    · rintro rfl
      obtain ⟨_, _, _, ho, _⟩ := S.ns
      rw [hnew _ q] at ho; cases ho
    · rintro p hp rfl
      obtain ⟨⟨o2, h1, _⟩, _⟩ := S.mu p hp
      rw [hnew _ q] at h1; cases h1

theorem At.allocD (τd : Ts) {o : Obj} {r : Rk} (x : At C ρ μ (τd ++ τ) s) (hf : o.isFreed = false)
    (hr : ∀ g, Sub g (s.heap.push o) → TmpOk g (τd ++ τ) → g.get? s.heap.objs.size = some o → r.holds g (.ref s.heap.objs.size)) : At C ρ μ ((.ref s.heap.objs.size, r) :: τ) { s with heap := s.heap.push o } :=
  (x.alloc hf hr).tmps fun p hp => by
    rcases List.mem_cons.mp hp with rfl | hp
    · exact .head _
    · exact .tail _ (List.mem_append_right _ hp)

/-- an object is made that may still turn -/
theorem At.allocM {o : Obj} {k : Mk} (x : At C ρ μ τ s) (hf : o.isFreed = false) (hk : ∀ g, Sub g (s.heap.push o) → TmpOk g τ → k.holds g o) :
    At C ρ ((s.heap.objs.size, k) :: μ) τ { s with heap := s.heap.push o } := by
  obtain ⟨hs, g, m, S, V, T⟩ := x
  have S1 : St C g m μ (s.heap.push o) := S.ext (Sub.push _ _)
  have hnew : s.heap.get? s.heap.objs.size = none := Heap.get?_none_of_le (Nat.le_refl _)
  have hL : s.heap.objs.size ≠ C.env.locals := by
    intro e
    obtain ⟨_, _, _, ho, _⟩ := S.ns
    rw [← e, hnew] at ho; cases ho
  refine ⟨hs.next _ _, g, m, { S1 with mu := ?_, nd := ?_ }, V, T⟩
  · intro p hp
    rcases List.mem_cons.mp hp with rfl | hp
    · refine ⟨⟨o, Heap.get?_push_size _ hf, hk g S1.keep T⟩, hL, ?_, ?_⟩
      · cases e : g.get? s.heap.objs.size with
        | none => rfl
        | some o2 => have := S.keep _ _ e; rw [hnew] at this; cases this
      · cases e : C.h₀.get? s.heap.objs.size with
        | none => rfl
        | some o2 => have := S.old _ _ e; rw [hnew] at this; cases this
    · exact S1.mu p hp
  · rw [List.map_cons, List.nodup_cons]
    refine ⟨fun hm => ?_, S.nd⟩
    obtain ⟨p, hp, e⟩ := List.mem_map.mp hm
    obtain ⟨⟨o2, h1, _⟩, _⟩ := S.mu p hp
    rw [e, hnew] at h1; cases h1

/-- an object turns -/
theorem At.update {a : Addr} {k k' : Mk} (x : At C ρ ((a, k) :: μ) τ s) (hsb : Heap.SameBut a s.heap h')
    (hk : ∀ g o, TmpOk g τ → s.heap.get? a = some o → k.holds g o → ∃ o', h'.get? a = some o' ∧ k'.holds g o') (t : Nat) : At C ρ ((a, k') :: μ) τ { s with heap := h', toks := t } := by
  obtain ⟨hs, g, m, S, V, T⟩ := x
  obtain ⟨⟨o, ho, hko⟩, hL, hg, h0⟩ := S.mu (a, k) (.head _)
  obtain ⟨o', ho', hk'⟩ := hk g o T ho hko
  have up : ∀ b o, b ≠ a → s.heap.get? b = some o → h'.get? b = some o := fun b o hb e => (hsb.2 b hb).trans e
  refine ⟨hs.next _ _, g, m, ⟨S.ns.at (fun o e => up _ o (Ne.symm hL) e), fun b o e => up b o (by rintro rfl; rw [hg] at e; cases e) (S.keep b o e), fun b o e => up b o (by rintro rfl; rw [h0] at e; cases e) (S.old b o e), S.sub0, S.back, S.gL, S.oL, ?_, S.nd⟩, V, T⟩
  intro p hp
  rcases List.mem_cons.mp hp with rfl | hp
  · exact ⟨⟨o', ho', hk'⟩, hL, hg, h0⟩
  · obtain ⟨⟨o2, h1, h2⟩, r⟩ := S.mu p (.tail _ hp)
    refine ⟨⟨o2, up _ _ ?_ h1, h2⟩, r⟩
    have := S.nd
    rw [List.map_cons, List.nodup_cons] at this
    intro e
    exact this.1 (List.mem_map.mpr ⟨p, hp, e⟩)

/-- what no longer turns is frozen -/
theorem At.freeze {a : Addr} {k : Mk} {r : Rk} (x : At C ρ ((a, k) :: μ) τ s) (hr : ∀ g o, k.holds g o → g.get? a = some o → r.holds g (.ref a)) : At C ρ μ ((.ref a, r) :: τ) s := by
  obtain ⟨hs, g, m, S, V, T⟩ := x
  obtain ⟨⟨o, ho, hko⟩, hL, hg, h0⟩ := S.mu (a, k) (.head _)
  have nd := S.nd
  rw [List.map_cons, List.nodup_cons] at nd
  have S1 : St C g m μ s.heap := { S with mu := fun p hp => S.mu p (.tail _ hp), nd := nd.2 }
  obtain ⟨g', k1, k2, k3, k4⟩ := grow s.heap g S.keep (fun b => b = a)
  refine ⟨hs, g', m, S1.grown k1 k2 fun b o' e => ?_, V.mono k1, (T.mono k1).cons (hr g' o (hko.mono k1) (k3 a o rfl ho))⟩
  rcases k4 b o' e with q | ⟨rfl, _⟩
  · exact .inl q
  · exact .inr ⟨h0, hL, fun p hp e => nd.1 (List.mem_map.mpr ⟨p, hp, e.symm⟩)⟩

theorem lookup_set {ρ : Vs} {x y : Str} {r q : Rk} (e : List.lookup y ((x, r) :: ρ) = some q) : (y = x ∧ q = r) ∨ (y ≠ x ∧ ρ.lookup y = some q) := by
  rw [List.lookup_cons] at e
  split at e
  · rename_i hb
    cases e; exact .inl ⟨beq_iff_eq.mp hb, rfl⟩
  · rename_i hb
    exact .inr ⟨fun q => by subst q; simp at hb, e⟩

/-- a name's value, known better -/
theorem At.retype {x : Str} {v : Value} {r : Rk} (a : At C ρ μ ((v, r) :: τ) s) (hx : ρ.lookup x = some (.val v)) : At C ((x, r) :: ρ) μ ((v, r) :: τ) s := by
  obtain ⟨hs, g, m, S, V, T⟩ := a
  refine ⟨hs, g, m, S, fun y q e => ?_, T⟩
  rcases lookup_set e with ⟨rfl, rfl⟩ | ⟨_, e⟩
  · obtain ⟨u, hu, hv⟩ := V _ _ hx
    have hv' : u = v := hv
    subst hv'
    exact ⟨u, hu, T _ (.head _)⟩
  · exact V y q e

theorem At.storeNs {x : Str} {v : Value} {r : Rk} (a : At C ρ μ ((v, r) :: τ) s) (hk : C.env.kindOf x = some .local) (hs : C.env.scope.kind = .function) {Q : Unit → Shared → Prop} {E : Value → Shared → Prop}
    {M : Model} {A : Around} (h : ∀ s', At C ((x, r) :: ρ) μ τ s' → Q () s') : wpAny M A (storeName C.env x v) Q E s := by
  obtain ⟨hsm, g, m, S, V, T⟩ := a
  refine wpAny_storeName_local hk S.ns (fun h' hn hsb => h _ ?_) (by rw [hs]; rfl)
  have up : ∀ b o, b ≠ C.env.locals → s.heap.get? b = some o → h'.get? b = some o := fun b o hb e => (hsb.2 b hb).trans e
  refine ⟨hsm.next _ _, g, _, ⟨hn, fun b o e => up b o (by rintro rfl; rw [S.gL] at e; cases e) (S.keep b o e), fun b o e => up b o (by rintro rfl; rw [S.oL] at e; cases e) (S.old b o e), S.sub0, S.back, S.gL, S.oL, fun p hp => ?_, S.nd⟩, fun y q e => ?_, fun p hp => T p (.tail _ hp)⟩
  · obtain ⟨⟨o, h1, h2⟩, h3, r⟩ := S.mu p hp
    exact ⟨⟨o, up _ _ h3 h1, h2⟩, h3, r⟩
  · rcases lookup_set e with ⟨rfl, rfl⟩ | ⟨hne, e⟩
    · exact ⟨v, by simp, T _ (.head _)⟩
    · obtain ⟨u, hu, hr⟩ := V y q e
      exact ⟨u, by simp [hne, hu], hr⟩
end
end Mine
namespace Mine
open PySem PySem.W PySem.Calls PySem.Spec PyProof.Rows PySem.SeqAt

noncomputable abbrev MC (C : Cx) : Model := model C.lay.prog C.lay.w
/-- the built-in names that the program uses -/
noncomputable def bnames : List (Str × Value) := [("sorted", .builtin "sorted"), ("len", .builtin "len"), ("min", .builtin "min"), ("abs", .builtin "abs"), ("zip", .type "zip"), ("range", .type "range"), ("str", .type "str"), ("int", .type "int"), ("dict", .type "dict")]
structure TopH (Y : Lay) (h : Heap) : Prop where
  g : h.Ns mainGlobals Y.mg
  b : h.Ns builtinsNs Y.mb
  nolimit : h.NoLimit
  digits : ∃ mc, h.Ns cStatics mc ∧ mc "sys.int_max_str_digits" = none
  bn : ∀ p ∈ bnames, Y.mg p.1 = none ∧ Y.mb p.1 = some p.2
  sm : ∃ o, h.get? sysModules = some o
  most : ∃ t, Y.mg "MOST_ROUND" = some (.int 8 t)
  fn : ∀ d ∈ Y.defs, ∃ a o pm cd doc, Y.mg d.name = some (.ref a) ∧ h.get? a = some o ∧ o.data = .func (docDef d.name d.params d.body d.scope pm cd doc) ∧ h.CodeRec cd d.name
theorem TopH.mono {Y : Lay} {h h' : Heap} (x : TopH Y h) (k : Sub h h') : TopH Y h' :=
  ⟨x.g.keeps k, x.b.keeps k, x.nolimit.keeps k, let ⟨mc, a, b⟩ := x.digits; ⟨mc, a.keeps k, b⟩, x.bn, let ⟨o, q⟩ := x.sm; ⟨o, k _ _ q⟩, x.most, fun d hd => let ⟨a, o, pm, cd, doc, h1, h2, h3, h4⟩ := x.fn d hd; ⟨a, o, pm, cd, doc, h1, k _ _ h2, h3, h4.keeps k⟩⟩
structure Ok (C : Cx) : Prop where
  top : TopH C.lay C.h₀
  gl : C.env.globals = mainGlobals
  bl : C.env.builtins = builtinsNs
  hh : C.A.handled = none
  un : C.A.units + 100 < cLine
  dep : C.A.depth + 20 < recursionLimit
  fn : C.env.scope.kind = .function

noncomputable def PE (C : Cx) (ρ : Vs) (μ : Ms) (e : Expr) (r : Rk) : Prop :=
  ∀ τ s (Q E : Value → Shared → Prop), At C ρ μ τ s → (∀ v s', At C ρ μ ((v, r) :: τ) s' → Q v s') → wpAny (MC C) C.A (eval e C.env) Q E s
noncomputable def PT (C : Cx) (ρ : Vs) (μ : Ms) (e : Expr) (b : Bool) : Prop :=
  ∀ τ s (Q : Bool → Shared → Prop) (E : Value → Shared → Prop), At C ρ μ τ s → (∀ s', At C ρ μ τ s' → Q b s') → wpAny (MC C) C.A (isTrue e C.env (eval e C.env)) Q E s

noncomputable abbrev dInt (i : Int) : Rk := .dat (.int i)
noncomputable abbrev dBool (b : Bool) : Rk := .dat (.bool b)
noncomputable abbrev dStr (x : Str) : Rk := .dat (.str x)
noncomputable abbrev dList (ds : List PyData) : Rk := .dat (.list ds)
noncomputable abbrev dTup (ds : List PyData) : Rk := .dat (.tuple ds)

section
variable {g : Heap} {v : Value}
theorem holds_int {i : Int} (h : (dInt i).holds g v) : ∃ t, v = .int i t := by obtain ⟨as, h⟩ := h; cases h; exact ⟨_, rfl⟩
theorem holds_bool {b : Bool} (h : (dBool b).holds g v) : v = .bool b := by obtain ⟨as, h⟩ := h; cases h; rfl
theorem holds_str {x : Str} (h : (dStr x).holds g v) : ∃ t, v = .str x t := by obtain ⟨as, h⟩ := h; cases h; exact ⟨_, rfl⟩
theorem int_holds (i : Int) (t : Tok) : (dInt i).holds g (.int i t) := ⟨[], .int i t⟩
theorem bool_holds (b : Bool) : (dBool b).holds g (.bool b) := ⟨[], .bool b⟩
theorem str_holds (x : Str) (t : Tok) : (dStr x).holds g (.str x t) := ⟨[], .str x t⟩

theorem all_of_reads : ∀ {vs : List Value} {ds : List PyData} {as : List Addr}, ReadsAll g vs ds as → allHold g (ds.map .dat) vs
  | _, _, _, .nil => trivial
  | _, _, _, .cons h r => ⟨⟨_, h⟩, all_of_reads r⟩
theorem reads_of_all : ∀ {ds : List PyData} {vs : List Value}, allHold g (ds.map .dat) vs → ∃ as, ReadsAll g vs ds as
  | [], [], _ => ⟨_, .nil⟩
  | [], _ :: _, h => h.elim
  | _ :: _, [], h => h.elim
  | _ :: ds, _ :: vs, h => by
    obtain ⟨as, h1⟩ := h.1
    obtain ⟨bs, h2⟩ := reads_of_all (ds := ds) (vs := vs) h.2
    exact ⟨_, .cons h1 h2⟩

theorem holds_list {ds : List PyData} (h : (dList ds).holds g v) : ∃ a vs, v = .ref a ∧ g.IsList a vs.toArray ∧ allHold g (ds.map .dat) vs := by
  obtain ⟨as, h⟩ := h
  cases h with
  | @list a o vs n _ as h1 h2 h3 h4 => exact ⟨a, vs.toList, rfl, ⟨o, h1, h2, n, by simpa using h3⟩, all_of_reads h4⟩
theorem list_holds {ds : List PyData} {a : Addr} {vs : List Value} (h1 : g.IsList a vs.toArray) (h2 : allHold g (ds.map .dat) vs) : (dList ds).holds g (.ref a) := by
  obtain ⟨o, ho, hc, n, hd⟩ := h1
  obtain ⟨as, h⟩ := reads_of_all h2
  exact ⟨a :: as, .list ho hc hd (by simpa using h)⟩
theorem holds_tup {ds : List PyData} (h : (dTup ds).holds g v) : ∃ a vs, v = .ref a ∧ IsTup g a vs.toArray ∧ allHold g (ds.map .dat) vs := by
  obtain ⟨as, h⟩ := h
  cases h with
  | @tuple a o vs n _ as h1 h2 h3 h4 => exact ⟨a, vs.toList, rfl, ⟨o, h1, h2, n, by simpa using h3⟩, all_of_reads h4⟩
theorem tup_holds {ds : List PyData} {a : Addr} {vs : List Value} (h1 : IsTup g a vs.toArray) (h2 : allHold g (ds.map .dat) vs) : (dTup ds).holds g (.ref a) := by
  obtain ⟨o, ho, hc, n, hd⟩ := h1
  obtain ⟨as, h⟩ := reads_of_all h2
  exact ⟨as, .tuple ho hc hd (by simpa using h)⟩
theorem isList_mono {g h : Heap} {a : Addr} {xs : Array Value} (k : Sub g h) (x : g.IsList a xs) : h.IsList a xs := let ⟨o, ho, r⟩ := x; ⟨o, k _ _ ho, r⟩
theorem isTup_mono {g h : Heap} {a : Addr} {xs : Array Value} (k : Sub g h) (x : IsTup g a xs) : IsTup h a xs := let ⟨o, ho, r⟩ := x; ⟨o, k _ _ ho, r⟩
theorem isList_eq {h : Heap} {a : Addr} {xs ys : Array Value} (x : h.IsList a xs) (y : h.IsList a ys) : xs = ys := by
  obtain ⟨o, ho, _, n, hd⟩ := x
  obtain ⟨o', ho', _, n', hd'⟩ := y
  rw [ho] at ho'; cases ho'; rw [hd] at hd'; injection hd'
theorem isTup_eq {h : Heap} {a : Addr} {xs ys : Array Value} (x : IsTup h a xs) (y : IsTup h a ys) : xs = ys := by
  obtain ⟨o, ho, _, n, hd⟩ := x
  obtain ⟨o', ho', _, n', hd'⟩ := y
  rw [ho] at ho'; cases ho'; rw [hd] at hd'; injection hd'
/-- what a list holds in the frozen store, its items known in the heap -/
theorem items_of {h : Heap} {ds : List PyData} {a : Addr} {vs : List Value} (k : Sub g h) (x : (dList ds).holds g (.ref a)) (y : h.IsList a vs.toArray) : allHold g (ds.map .dat) vs := by
  obtain ⟨b, ws, e, h1, h2⟩ := holds_list x
  cases e
  have := isList_eq (isList_mono k h1) y
  have e : ws = vs := by simpa using this
  exact e ▸ h2
theorem titems_of {h : Heap} {ds : List PyData} {a : Addr} {vs : List Value} (k : Sub g h) (x : (dTup ds).holds g (.ref a)) (y : IsTup h a vs.toArray) : allHold g (ds.map .dat) vs := by
  obtain ⟨b, ws, e, h1, h2⟩ := holds_tup x
  cases e
  have := isTup_eq (isTup_mono k h1) y
  have e : ws = vs := by simpa using this
  exact e ▸ h2

theorem allHold.take : ∀ {rs : List Rk} {vs : List Value}, allHold g rs vs → ∀ k, allHold g (rs.take k) (vs.take k)
  | [], [], _, k => by simp [allHold]
  | [], _ :: _, h, _ => h.elim
  | _ :: _, [], h, _ => h.elim
  | _ :: _, _ :: _, _, 0 => trivial
  | _ :: _, _ :: _, h, k + 1 => ⟨h.1, h.2.take k⟩
theorem allHold.drop : ∀ {rs : List Rk} {vs : List Value}, allHold g rs vs → ∀ k, allHold g (rs.drop k) (vs.drop k)
  | [], [], _, k => by simp [allHold]
  | [], _ :: _, h, _ => h.elim
  | _ :: _, [], h, _ => h.elim
  | _ :: _, _ :: _, h, 0 => h
  | _ :: _, _ :: _, h, k + 1 => h.2.drop k
theorem allHold.reverse : ∀ {rs : List Rk} {vs : List Value}, allHold g rs vs → allHold g rs.reverse vs.reverse
  | [], [], _ => trivial
  | [], _ :: _, h => h.elim
  | _ :: _, [], h => h.elim
  | _ :: _, _ :: _, h => by rw [List.reverse_cons, List.reverse_cons]; exact h.2.reverse.append ⟨h.1, trivial⟩
theorem allHold.rep {rs : List Rk} {vs : List Value} (h : allHold g rs vs) : ∀ n, allHold g (List.replicate n rs).flatten (List.replicate n vs).flatten
  | 0 => trivial
  | n + 1 => by rw [List.replicate_succ, List.replicate_succ, List.flatten_cons, List.flatten_cons]; exact h.append (h.rep n)
end

section
variable {C : Cx} {ρ : Vs} {μ : Ms} {e e1 e2 e3 : Expr} {r q : Rk} {pos : Pos}

theorem PE.int (i : Int) (k : Nat) : PE C ρ μ (.Constant (.int i) k pos) (dInt i) := fun τ s Q E a h =>
  wpAny_Constant_int (h _ _ ((a.toks _).push fun _ _ _ => int_holds _ _))
theorem PE.str (x : Str) (k : Nat) : PE C ρ μ (.Constant (.str x) k pos) (dStr x) := fun τ s Q E a h =>
  Constant_str (h _ _ ((a.toks _).push fun _ _ _ => str_holds _ _))
theorem PE.bool (b : Bool) (k : Nat) : PE C ρ μ (.Constant (.bool b) k pos) (dBool b) := fun τ s Q E a h =>
  wpAny_pure (h _ _ (a.push fun _ _ _ => bool_holds _))
theorem PE.name {x : Str} (O : Ok C) (hx : ρ.lookup x = some r) (hk : C.env.kindOf x = some .local) (hd : (x == ("__debug__" : Str)) = false) : PE C ρ μ (.Name x pos) r := fun τ s Q E a h => by
  obtain ⟨m, v, hn, hm, a'⟩ := a.name hx
  exact wpAny_Name (wpAny_loadName_local O.fn hk hn hm (h v s a')) hd
theorem PE.binop {op : Operator} {r : Rk} (p1 : PE C ρ μ e1 r) (p2 : PE C ρ μ e2 q) {t : Rk}
    (h : ∀ τ s (Q E : Value → Shared → Prop) a b, At C ρ μ ((b, q) :: (a, r) :: τ) s → (∀ v s', At C ρ μ ((v, t) :: τ) s' → Q v s') → wpAny (MC C) C.A (binaryOp op a b) Q E s) :
    PE C ρ μ (.BinOp e1 op e2 pos) t := fun τ s Q E a k =>
  wpAny_BinOp (p1 τ s _ E a fun v s1 a1 => p2 _ s1 _ E a1 fun u s2 a2 => h τ s2 Q E v u a2 k)
theorem PE.add {i j : Int} (p1 : PE C ρ μ e1 (dInt i)) (p2 : PE C ρ μ e2 (dInt j)) : PE C ρ μ (.BinOp e1 .Add e2 pos) (dInt (i + j)) :=
  p1.binop p2 fun τ s Q E a b x k => by
    obtain ⟨t, rfl⟩ := holds_int x.top2; obtain ⟨u, rfl⟩ := holds_int x.top
    exact add_int (k _ _ ((x.drop.drop.toks _).push fun _ _ _ => int_holds _ _))
theorem PE.sub {i j : Int} (p1 : PE C ρ μ e1 (dInt i)) (p2 : PE C ρ μ e2 (dInt j)) : PE C ρ μ (.BinOp e1 .Sub e2 pos) (dInt (i - j)) :=
  p1.binop p2 fun τ s Q E a b x k => by
    obtain ⟨t, rfl⟩ := holds_int x.top2; obtain ⟨u, rfl⟩ := holds_int x.top
    exact sub_int (k _ _ ((x.drop.drop.toks _).push fun _ _ _ => int_holds _ _))
theorem PE.mod {i j : Int} (p1 : PE C ρ μ e1 (dInt i)) (p2 : PE C ρ μ e2 (dInt j)) (hj : j ≠ 0) : PE C ρ μ (.BinOp e1 .Mod e2 pos) (dInt (i.fmod j)) :=
  p1.binop p2 fun τ s Q E a b x k => by
    obtain ⟨t, rfl⟩ := holds_int x.top2; obtain ⟨u, rfl⟩ := holds_int x.top
    exact mod_int hj (k _ _ ((x.drop.drop.toks _).push fun _ _ _ => int_holds _ _))
theorem PE.mul {i j : Int} (p1 : PE C ρ μ e1 (dInt i)) (p2 : PE C ρ μ e2 (dInt j)) (hm : IntMulOk i j) : PE C ρ μ (.BinOp e1 .Mult e2 pos) (dInt (i * j)) :=
  p1.binop p2 fun τ s Q E a b x k => by
    obtain ⟨t, rfl⟩ := holds_int x.top2; obtain ⟨u, rfl⟩ := holds_int x.top
    exact PyProof.Rows.mul_int (hm := hm) (k _ _ ((x.drop.drop.toks _).push fun _ _ _ => int_holds _ _))
theorem PE.fdiv {i j : Int} (p1 : PE C ρ μ e1 (dInt i)) (p2 : PE C ρ μ e2 (dInt j)) (hj : j ≠ 0) (hp : Builtin.divisionGoesByPylong i j = false) : PE C ρ μ (.BinOp e1 .FloorDiv e2 pos) (dInt (i.fdiv j)) :=
  p1.binop p2 fun τ s Q E a b x k => by
    obtain ⟨t, rfl⟩ := holds_int x.top2; obtain ⟨u, rfl⟩ := holds_int x.top
    exact floordiv_int hj (k _ _ ((x.drop.drop.toks _).push fun _ _ _ => int_holds _ _)) (.inl hp)

theorem PE.cmp {op : CmpOp} {b : Bool} (p1 : PE C ρ μ e1 r) (p2 : PE C ρ μ e2 q)
    (h : ∀ τ s (Q E : Value → Shared → Prop) a c, At C ρ μ ((c, q) :: (a, r) :: τ) s → (∀ s', At C ρ μ τ s' → Q (.bool b) s') → wpAny (MC C) C.A (compareOp op a c) Q E s)
    (hm : behindInMarks op e2 = false := by rfl) : PE C ρ μ (.Compare e1 [op] [e2] pos) (dBool b) := fun τ s Q E a k =>
  wpAny_Compare1 (hm := hm) (p1 τ s _ E a fun v s1 a1 => p2 _ s1 _ E a1 fun u s2 a2 => h τ s2 _ E v u a2 fun s3 a3 => k _ _ (a3.push fun _ _ _ => bool_holds _))
theorem PT.cmp {op : CmpOp} {b : Bool} (p1 : PE C ρ μ e1 r) (p2 : PE C ρ μ e2 q)
    (h : ∀ τ s (Q E : Value → Shared → Prop) a c, At C ρ μ ((c, q) :: (a, r) :: τ) s → (∀ s', At C ρ μ τ s' → Q (.bool b) s') → wpAny (MC C) C.A (compareOp op a c) Q E s)
    (hm : behindInMarks op e2 = false := by rfl) : PT C ρ μ (.Compare e1 [op] [e2] pos) b := fun τ s Q E a k =>
  wpAny_isTrue_Compare1 (hm := hm) (p1 τ s _ E a fun v s1 a1 => p2 _ s1 _ E a1 fun u s2 a2 => h τ s2 _ E v u a2 fun s3 a3 => wpAny_truthy_bool (k _ a3))

noncomputable def CmpR (C : Cx) (ρ : Vs) (μ : Ms) (op : CmpOp) (r q : Rk) (b : Bool) : Prop :=
  ∀ τ s (Q E : Value → Shared → Prop) a c, At C ρ μ ((c, q) :: (a, r) :: τ) s → (∀ s', At C ρ μ τ s' → Q (.bool b) s') → wpAny (MC C) C.A (compareOp op a c) Q E s
theorem CmpR.lt (i j : Int) : CmpR C ρ μ .Lt (dInt i) (dInt j) (decide (i < j)) := fun τ s Q E a c x k => by
  obtain ⟨t, rfl⟩ := holds_int x.top2; obtain ⟨u, rfl⟩ := holds_int x.top
  exact PyProof.Rows.lt_int (k _ x.drop.drop)
theorem CmpR.gt (i j : Int) : CmpR C ρ μ .Gt (dInt i) (dInt j) (decide (j < i)) := fun τ s Q E a c x k => by
  obtain ⟨t, rfl⟩ := holds_int x.top2; obtain ⟨u, rfl⟩ := holds_int x.top
  exact PyProof.Rows.gt_int (k _ x.drop.drop)
theorem CmpR.eq (O : Ok C) {d1 d2 : PyData} (h1 : d1.canLay0 = true) (h2 : d2.canLay0 = true) (hd : min d1.depth d2.depth ≤ 50) : CmpR C ρ μ .Eq (.dat d1) (.dat d2) (PyData.eqv d1 d2) := fun τ s Q E a c x k => by
  obtain ⟨as, r1⟩ := x.top2
  obtain ⟨bs, r2⟩ := x.top
  exact compareEq_reads r1 r2 h1 h2 (by have := O.un; (first | decide | assumption | omega)) (k _ x.drop.drop)
theorem CmpR.ne (O : Ok C) {d1 d2 : PyData} (h1 : d1.canLay0 = true) (h2 : d2.canLay0 = true) (hd : min d1.depth d2.depth ≤ 50) : CmpR C ρ μ .NotEq (.dat d1) (.dat d2) (!PyData.eqv d1 d2) := fun τ s Q E a c x k => by
  obtain ⟨as, r1⟩ := x.top2
  obtain ⟨bs, r2⟩ := x.top
  exact compareNe_reads r1 r2 h1 h2 (by have := O.un; (first | decide | assumption | omega)) (k _ x.drop.drop)

theorem PT.not {b : Bool} (p : PT C ρ μ e b) : PT C ρ μ (.UnaryOp .Not e pos) (!b) := fun τ s Q E a k => isTrue_not (p τ s _ E a fun s' a' => k s' a')
theorem PT.and2 {b c : Bool} (p1 : PT C ρ μ e1 b) (p2 : b = true → PT C ρ μ e2 c) : PT C ρ μ (.BoolOp .And [e1, e2] pos) (b && c) := fun τ s Q E a k => by
  refine isTrue_and (p1 τ s _ E a fun s' a' => ?_)
  cases b with
  | false => simpa using k s' a'
  | true =>
    simp only [if_true]
    refine isTrue_and (p2 rfl τ s' _ E a' fun s2 a2 => ?_)
    cases c with
    | false => simpa using k s2 a2
    | true => simp only [if_true]; exact isTrue_and_nil (k s2 a2)
theorem PT.or2 {b c : Bool} (p1 : PT C ρ μ e1 b) (p2 : b = false → PT C ρ μ e2 c) : PT C ρ μ (.BoolOp .Or [e1, e2] pos) (b || c) := fun τ s Q E a k => by
  refine isTrue_or (p1 τ s _ E a fun s' a' => ?_)
  cases b with
  | true => simpa using k s' a'
  | false =>
    simp only [Bool.false_eq_true, if_false]
    refine isTrue_or (p2 rfl τ s' _ E a' fun s2 a2 => ?_)
    cases c with
    | true => simpa using k s2 a2
    | false => simp only [Bool.false_eq_true, if_false]; exact isTrue_or_nil (k s2 a2)
theorem PT.val {b : Bool} (p : PE C ρ μ e (dBool b)) (he : isTrue e C.env (eval e C.env) = (do let v ← eval e C.env; standAt e.pos; holding [v] (truthy v)) := by rfl) : PT C ρ μ e b := fun τ s Q E a k =>
  isTrue_plain (he := he) (p τ s _ E a fun v s' a' => by
    have := holds_bool a'.top
    subst this
    exact wpAny_truthy_bool (k _ a'.drop))
theorem PE.ite {b : Bool} (p : PT C ρ μ e1 b) (p1 : b = true → PE C ρ μ e2 r) (p2 : b = false → PE C ρ μ e3 r) : PE C ρ μ (.IfExp e1 e2 e3 pos) r := fun τ s Q E a k =>
  IfExp_ (p τ s _ E a fun s' a' => by
    cases b with
    | true => simp only [if_true]; exact p1 rfl τ s' Q E a' k
    | false => simp only [Bool.false_eq_true, if_false]; exact p2 rfl τ s' Q E a' k)

/-! ## arguments, displays -/
inductive PA (C : Cx) (ρ : Vs) (μ : Ms) : List Expr → List Rk → Prop
  | nil : PA C ρ μ [] []
  | cons {e es r rs} : PE C ρ μ e r → PA C ρ μ es rs → PA C ρ μ (e :: es) (r :: rs)

theorem PA.run {es : List Expr} {rs : List Rk} (p : PA C ρ μ es rs) : ∀ τ s (Q : List Value → Shared → Prop) (E : Value → Shared → Prop), At C ρ μ τ s →
    (∀ vs s', vs.length = rs.length → At C ρ μ (vs.zip rs ++ τ) s' → Q vs s') → wpAny (MC C) C.A (spliced (es.map fun e => (false, eval e C.env))) Q E s := by
  induction p with
  | nil => exact fun τ s Q E a k => spliced_nil (k [] s rfl a)
  | @cons e es r rs h _ ih =>
    intro τ s Q E a k
    refine spliced_cons (h τ s _ E a fun v s1 a1 => ih _ s1 _ E a1 fun vs s2 hl a2 => k (v :: vs) s2 (by simp [hl]) (a2.tmps fun p hp => ?_))
    simp only [List.zip_cons_cons, List.cons_append, List.mem_cons, List.mem_append] at hp ⊢
    rcases hp with h | h | h
    · exact .inr (.inl h)
    · exact .inl h
    · exact .inr (.inr h)
theorem zip_hold {g : Heap} : ∀ {vs : List Value} {rs : List Rk}, vs.length = rs.length → TmpOk g (vs.zip rs ++ τ) → allHold g rs vs
  | [], [], _, _ => trivial
  | [], _ :: _, h, _ => by simp at h
  | _ :: _, [], h, _ => by simp at h
  | v :: vs, r :: rs, h, t => ⟨t (v, r) (by simp), zip_hold (by simpa using h) fun p hp => t p (by simp only [List.zip_cons_cons, List.cons_append]; exact .tail _ hp)⟩

theorem PE.tuple {es : List Expr} {ds : List PyData} (k : Nat) (p : PA C ρ μ es (ds.map .dat)) (hs : backTo pos (starEach es C.env) = es.map (fun e => (false, eval e C.env)) := by rfl) (hn : ds.length ≤ 1000 := by simp) :
    PE C ρ μ (.Tuple es k pos) (dTup ds) := fun τ s Q E a h => Tuple_ (by
  rw [hs]
  refine p.run τ s _ E a fun vs s1 hl a1 => wpAny_newTuple (h _ _ ?_) (by rw [hl, List.length_map, sizeLine_eq]; (first | decide | assumption | omega))
  exact (a1.alloc rfl fun g sg tm hg => tup_holds ⟨_, hg, rfl, 0, rfl⟩ (zip_hold hl tm)).tmps fun p hp => by
    rcases List.mem_cons.mp hp with rfl | hp
    · exact .head _
    · exact .tail _ (List.mem_append_right _ hp))
theorem PE.listD {es : List Expr} {ds : List PyData} (p : PA C ρ μ es (ds.map .dat)) (hs : backTo pos (starEach es C.env) = es.map (fun e => (false, eval e C.env)) := by rfl) (hn : ds.length ≤ 1000 := by simp) :
    PE C ρ μ (.List es pos) (dList ds) := fun τ s Q E a h => List_ (by
  rw [hs]
  refine p.run τ s _ E a fun vs s1 hl a1 => wpAny_newList (h _ _ ?_) (by rw [hl, List.length_map, sizeLine_eq]; (first | decide | assumption | omega))
  exact (a1.alloc rfl fun g sg tm hg => list_holds ⟨_, hg, rfl, 0, rfl⟩ (zip_hold hl tm)).tmps fun p hp => by
    rcases List.mem_cons.mp hp with rfl | hp
    · exact .head _
    · exact .tail _ (List.mem_append_right _ hp))
/-- a list display that is to turn -/
theorem listM {es : List Expr} {rs : List Rk} {τ : Ts} {s : Shared} {Q E : Value → Shared → Prop} (p : PA C ρ μ es rs) (a : At C ρ μ τ s)
    (h : ∀ l s', At C ρ ((l, .list rs) :: μ) τ s' → Q (.ref l) s') (hs : backTo pos (starEach es C.env) = es.map (fun e => (false, eval e C.env)) := by rfl) (hn : rs.length ≤ 1000 := by simp) :
    wpAny (MC C) C.A (eval (.List es pos) C.env) Q E s := List_ (by
  rw [hs]
  refine p.run τ s _ E a fun vs s1 hl a1 => wpAny_newList (h _ _ ?_) (by rw [hl, sizeLine_eq]; (first | decide | assumption | omega))
  exact (a1.allocM (k := .list rs) rfl fun g sg tm => ⟨vs, 0, rfl, zip_hold hl tm⟩).tmps fun p hp => List.mem_append_right _ hp)

/-! ## lists -/
theorem PE.addL {ds es : List PyData} (p1 : PE C ρ μ e1 (dList ds)) (p2 : PE C ρ μ e2 (dList es)) (hn : ds.length + es.length ≤ 1000000) : PE C ρ μ (.BinOp e1 .Add e2 pos) (dList (ds ++ es)) :=
  p1.binop p2 fun τ s Q E a b x k => by
    obtain ⟨l, vs, rfl, h1, h2⟩ := holds_list x.top2
    obtain ⟨l', ws, rfl, h3, h4⟩ := holds_list x.top
    have hl1 := h2.length; have hl2 := h4.length
    rw [List.length_map] at hl1 hl2
    have hsz : vs.length + ws.length ≤ sizeLine := by rw [sizeLine_eq, hl1, hl2]; (first | decide | assumption | omega)
    obtain ⟨⟨c, d, dt, sl⟩, ho, hc, n, hd⟩ := id h1
    obtain ⟨⟨c', d', dt', sl'⟩, ho', hc', n', hd'⟩ := id h3
    simp only at hc hd hc' hd'
    subst hc hd hc' hd'
    refine concat_meets ⟨_, ho, rfl⟩ ⟨_, ho', rfl⟩ noFill_list_add seq_list_add PySem.F.slot_list_add PySem.F.entry_list_add (PySem.F.args_list_add_2 _ _)
      (list_addW l l' vs.toArray ws.toArray n n' d d' sl sl' (by simpa using hsz)) ⟨ho, ho', ?_⟩
    refine k _ _ (At.allocD (r := dList (ds ++ es)) [_, _] x rfl fun g sg tm hg => ?_)
    refine list_holds (vs := vs ++ ws) ⟨_, hg, rfl, 0, by simp⟩ ?_
    rw [List.map_append]
    exact (items_of sg (tm _ (.tail _ (.head _))) (h1.push _)).append (items_of sg (tm _ (.head _)) (h3.push _))
end
end Mine
namespace Mine
open PySem PySem.W PySem.Calls PySem.Spec PyProof.Rows PySem.SeqAt

/-! ## the kit's frames and ledgers, over this state -/
noncomputable def Kp (C : Cx) (h h' : Heap) : Prop := (∀ b o, b ≠ C.env.locals → h.get? b = some o → h'.get? b = some o) ∧ ∀ m, h.Ns C.env.locals m → h'.Ns C.env.locals m
theorem Kp.of_sub {C : Cx} {h h' : Heap} (k : Sub h h') : Kp C h h' := ⟨fun b o _ e => k b o e, fun m n => n.keeps k⟩
theorem Kp.trans {C : Cx} {a b c : Heap} (x : Kp C a b) (y : Kp C b c) : Kp C a c := ⟨fun p o h e => y.1 p o h (x.1 p o h e), fun m n => y.2 m (x.2 m n)⟩

section
variable {C : Cx} {ρ : Vs} {μ : Ms} {τ : Ts} {s : Shared} {g h h' : Heap} {m : Str → Option Value}
theorem St.kp (x : St C g m μ h) (k : Kp C h h') : St C g m μ h' where
  ns := k.2 _ x.ns
  keep := fun b o e => k.1 b o (by rintro rfl; rw [x.gL] at e; cases e) (x.keep b o e)
  old := fun b o e => k.1 b o (by rintro rfl; rw [x.oL] at e; cases e) (x.old b o e)
  sub0 := x.sub0
  back := x.back
  gL := x.gL
  oL := x.oL
  mu := fun p hp => let ⟨⟨o, h1, h2⟩, h3, r⟩ := x.mu p hp; ⟨⟨o, k.1 _ _ h3 h1, h2⟩, h3, r⟩
  nd := x.nd
theorem At.kp (x : At C ρ μ τ s) (k : Kp C s.heap h') (t : Nat) : At C ρ μ τ { s with heap := h', toks := t } := by
  obtain ⟨hs, g, m, S, V, T⟩ := x
  exact ⟨hs.next _ _, g, m, S.kp k, V, T⟩

/-- a new object, however it came, is frozen -/
theorem At.kpNew (τd : Ts) {a : Addr} {o : Obj} {r : Rk} (x : At C ρ μ (τd ++ τ) s) (k : Kp C s.heap h') (t : Nat) (hn : s.heap.get? a = none) (ho : h'.get? a = some o)
    (hr : ∀ g, Sub g h' → TmpOk g (τd ++ τ) → g.get? a = some o → r.holds g (.ref a)) : At C ρ μ ((.ref a, r) :: τ) { s with heap := h', toks := t } := by
  obtain ⟨hs, g, m, S, V, T⟩ := x
  have S1 := S.kp k
  obtain ⟨g', k1, k2, k3, k4⟩ := grow h' g S1.keep (fun b => b = a)
  refine ⟨hs.next _ _, g', m, S1.grown k1 k2 fun b o' e => ?_, V.mono k1, ?_⟩
  · rcases k4 b o' e with q | ⟨rfl, _⟩
    · exact .inl q
    · refine .inr ⟨?_, ?_, ?_⟩
      · cases e2 : C.h₀.get? b with
        | none => rfl
        | some o2 => have := S.old _ _ e2; rw [hn] at this; cases this
      · rintro rfl
        obtain ⟨_, _, _, ho, _⟩ := S.ns
        rw [hn] at ho; cases ho
      · rintro p hp rfl
        obtain ⟨⟨o2, h1, _⟩, _⟩ := S.mu p hp
        rw [hn] at h1; cases h1
  · exact TmpOk.cons (hr g' k2 (T.mono k1) (k3 a o rfl ho)) fun p hp => (T.mono k1) p (List.mem_append_right _ hp)
theorem At.kpNewM {a : Addr} {o : Obj} {q : Mk} (x : At C ρ μ τ s) (k : Kp C s.heap h') (t : Nat) (hn : s.heap.get? a = none) (ho : h'.get? a = some o)
    (hk : ∀ g, Sub g h' → TmpOk g τ → q.holds g o) : At C ρ ((a, q) :: μ) τ { s with heap := h', toks := t } := by
  obtain ⟨hs, g, m, S, V, T⟩ := x
  have S1 := S.kp k
  have hL : a ≠ C.env.locals := by
    rintro rfl
    obtain ⟨_, _, _, ho, _⟩ := S.ns
    rw [hn] at ho; cases ho
  refine ⟨hs.next _ _, g, m, { S1 with mu := ?_, nd := ?_ }, V, T⟩
  · intro p hp
    rcases List.mem_cons.mp hp with rfl | hp
    · refine ⟨⟨o, ho, hk g S1.keep T⟩, hL, ?_, ?_⟩
      · cases e : g.get? a with
        | none => rfl
        | some o2 => have := S.keep _ _ e; rw [hn] at this; cases this
      · cases e : C.h₀.get? a with
        | none => rfl
        | some o2 => have := S.old _ _ e; rw [hn] at this; cases this
    · exact S1.mu p hp
  · rw [List.map_cons, List.nodup_cons]
    refine ⟨fun hm => ?_, S.nd⟩
    obtain ⟨p, hp, e⟩ := List.mem_map.mp hm
    obtain ⟨⟨o2, h1, _⟩, _⟩ := S.mu p hp
    rw [e, hn] at h1; cases h1

noncomputable def noHeap : Heap := ⟨#[], {}⟩
theorem noHeap_get (a : Addr) : noHeap.get? a = none := by simp [noHeap, Heap.get?]
/-- all that the heap holds, as a ledger -/
theorem At.viaFr (x : At C ρ μ τ s) : ∃ m news, Fr noHeap C.env.locals s.heap m ∧ News noHeap C.env.locals s.heap news ∧
    (∀ h', Fr noHeap C.env.locals h' m → News noHeap C.env.locals h' news → Kp C s.heap h') ∧ (∀ a, (∀ p ∈ news, p.1 < a) → a ≠ C.env.locals → s.heap.get? a = none) := by
  obtain ⟨hs, g, m, S, V, T⟩ := x
  refine ⟨m, ((List.range s.heap.objs.size).filter (fun a => a ≠ C.env.locals)).filterMap (fun a => (s.heap.get? a).map fun o => (a, o)), ⟨S.ns, fun b o e => (by rw [noHeap_get] at e; cases e), Nat.zero_le _⟩, ?_, ?_, ?_⟩
  · intro p hp
    obtain ⟨a, ha, e⟩ := List.mem_filterMap.mp hp
    cases ho : s.heap.get? a with
    | none => rw [ho] at e; cases e
    | some o =>
      rw [ho] at e
      cases e
      exact ⟨ho, by simpa using (List.mem_filter.mp ha).2, noHeap_get _⟩
  · intro h' F N
    have mem : ∀ b o, b ≠ C.env.locals → s.heap.get? b = some o → (b, o) ∈ ((List.range s.heap.objs.size).filter (fun a => a ≠ C.env.locals)).filterMap (fun a => (s.heap.get? a).map fun o => (a, o)) :=
      fun b o hb e => List.mem_filterMap.mpr ⟨b, List.mem_filter.mpr ⟨List.mem_range.mpr (Heap.lt_size e), by simpa using hb⟩, by rw [e]; rfl⟩
    refine ⟨fun b o hb e => (N _ (mem b o hb e)).1, fun m' n' => ?_⟩
    have : m = m' := funext fun y => S.ns.agree n' y
    exact this ▸ F.ns
  · intro a ha hL
    cases e : s.heap.get? a with
    | none => rfl
    | some o =>
      have := ha (a, o) (List.mem_filterMap.mpr ⟨a, List.mem_filter.mpr ⟨List.mem_range.mpr (Heap.lt_size e), by simpa using hL⟩, by rw [e]; rfl⟩)
      exact absurd this (Nat.lt_irrefl _)
end

/-! ## names that stand at the top -/
noncomputable def AOk (n : Nat) (A : Around) : Prop := A.handled = none ∧ A.units + 150 * (n + 1) < cLine ∧ A.depth + 30 * (n + 1) < recursionLimit

/-- what a call hands back -/
noncomputable def Back (s : Shared) (g : Heap) (res : Rk) (r : Result) (s' : Shared) : Prop :=
  ∃ v g' h' t', r = .ok (.ret v) ∧ s' = { s with heap := h', toks := t' } ∧ Sub s.heap h' ∧ Sub g g' ∧ Sub g' h' ∧
    (∀ b o, g'.get? b = some o → (∃ o', s.heap.get? b = some o') → g.get? b = some o) ∧ res.holds g' v
noncomputable def Spec (Y : Lay) (n : Nat) (name : Str) (args : List Rk) (res : Rk) : Prop :=
  ∀ (A : Around) (s : Shared) (g : Heap) (vs : List Value) (f : Addr), AOk n A → TopH Y s.heap → Y.mg name = some (.ref f) → Sub g s.heap → allHold g args vs →
    codeAny (model Y.prog Y.w) A (.call (.ref f) ⟨vs, []⟩) (Back s g res) s

section
variable {C : Cx} {ρ : Vs} {μ : Ms} {e e1 e2 e3 : Expr} {r q : Rk} {pos np : Pos} {x : Str} {es : List Expr} {rs : List Rk}
theorem At.heap0 {τ : Ts} {s : Shared} (a : At C ρ μ τ s) : Sub C.h₀ s.heap := by obtain ⟨_, _, _, S, _⟩ := a; exact S.old

/-- a built-in's name -/
theorem nameB (O : Ok C) (hk : C.env.kindOf x = some .globalImplicit) {v : Value} (hb : (x, v) ∈ bnames) (hd : (x == ("__debug__" : Str)) = false) {τ : Ts} {s : Shared} {Q E : Value → Shared → Prop} (a : At C ρ μ τ s) (h : Q v s) :
    wpAny (MC C) C.A (eval (.Name x np) C.env) Q E s := by
  have T := O.top.mono a.heap0
  refine Name_function_global O.fn hk (loadGlobal_builtin (mg := C.lay.mg) (mb := C.lay.mb) ?_ (T.bn _ hb).1 ?_ (T.bn _ hb).2 h) hd
  · rw [O.gl]; exact T.g
  · rw [O.bl]; exact T.b
theorem nameG (O : Ok C) (hk : C.env.kindOf x = some .globalImplicit) {v : Value} (hg : C.lay.mg x = some v) (hd : (x == ("__debug__" : Str)) = false) {τ : Ts} {s : Shared} {Q E : Value → Shared → Prop} (a : At C ρ μ τ s) (h : Q v s) :
    wpAny (MC C) C.A (eval (.Name x np) C.env) Q E s := by
  have T := O.top.mono a.heap0
  refine Name_function_global O.fn hk (loadGlobal_global (mg := C.lay.mg) ?_ hg h) hd
  rw [O.gl]; exact T.g
theorem PE.most (O : Ok C) (hk : C.env.kindOf "MOST_ROUND" = some .globalImplicit) : PE C ρ μ (.Name "MOST_ROUND" np) (dInt 8) := fun τ s Q E a h => by
  obtain ⟨t, ht⟩ := O.top.most
  exact nameG O hk ht (by decide) a (h _ _ (a.push fun _ _ _ => int_holds _ _))

noncomputable abbrev trees (es : List Expr) (env : Env) : List (Bool × Sem Value) := es.map fun e => (false, eval e env)
theorem trees_plain (es : List Expr) (env : Env) : (trees es env).any (·.1) = false := by
  induction es with
  | nil => rfl
  | cons e es ih => simp

theorem args_run (p : PA C ρ μ es rs) (hne : es ≠ []) {f : Value} {τ : Ts} {s : Shared} {Q : Args → Shared → Prop} {E : Value → Shared → Prop} (a : At C ρ μ τ s)
    (h : ∀ vs s', vs.length = rs.length → At C ρ μ (vs.zip rs ++ τ) s' → Q ⟨vs, []⟩ s') : wpAny (MC C) C.A (evalArgs f true (trees es C.env) []) Q E s := by
  cases es with
  | nil => exact absurd rfl hne
  | cons e es => exact evalArgs_plain (p.run τ s _ E a h)

theorem callB (O : Ok C) {id : String} (hk : C.env.kindOf x = some .globalImplicit) (hb : (x, Value.builtin id) ∈ bnames) (hd : (x == ("__debug__" : Str)) = false) (p : PA C ρ μ es rs) (hne : es ≠ [])
    (hs : backTo pos (starEach es C.env) = trees es C.env) {τ : Ts} {s : Shared} {Q E : Value → Shared → Prop} (a : At C ρ μ τ s)
    (h : ∀ vs s', vs.length = rs.length → At C ρ μ (vs.zip rs ++ τ) s' → wpAny (MC C) C.A (call (.builtin id) vs) Q E s') :
    wpAny (MC C) C.A (eval (.Call (.Name x np) es [] pos) C.env) Q E s := by
  refine wpAny_Call_NameR (nameB O hk hb hd a ?_)
  rw [hs]
  exact callWith_builtin (trees_plain _ _) (args_run p hne a fun vs s' hl a' => by rw [List.nil_append]; exact h vs s' hl a')
theorem callT (O : Ok C) {T : String} (hk : C.env.kindOf x = some .globalImplicit) (hb : (x, Value.type T) ∈ bnames) (hd : (x == ("__debug__" : Str)) = false) (p : PA C ρ μ es rs) (hne : es ≠ [])
    (hs : backTo pos (starEach es C.env) = trees es C.env) {τ : Ts} {s : Shared} {Q E : Value → Shared → Prop} (a : At C ρ μ τ s)
    (h : ∀ vs s', vs.length = rs.length → At C ρ μ (vs.zip rs ++ τ) s' → wpAny (MC C) C.A (call (.type T) vs) Q E s') :
    wpAny (MC C) C.A (eval (.Call (.Name x np) es [] pos) C.env) Q E s := by
  refine wpAny_Call_NameR (nameB O hk hb hd a ?_)
  rw [hs]
  exact PyProof.Rows.callWith_type (trees_plain _ _) (args_run p hne a fun vs s' hl a' => by rw [List.nil_append]; exact h vs s' hl a')

/-- a def of the text's -/
theorem callF (O : Ok C) {n : Nat} {ds : List Rk} {res : Rk} (hk : C.env.kindOf x = some .globalImplicit) {d : DefRec} (hdf : d ∈ C.lay.defs) (hn : d.name = x) (sp : Spec C.lay n x ds res) (hA : AOk n C.A)
    (hd : (x == ("__debug__" : Str)) = false) (p : PA C ρ μ es ds) (hne : es ≠ [])
    (hs : backTo pos (starEach es C.env) = trees es C.env) : PE C ρ μ (.Call (.Name x np) es [] pos) res := fun τ s Q E a h => by
  obtain ⟨f, o, pm, cd, doc, h1, h2, h3, h4⟩ := (O.top.mono a.heap0).fn d hdf
  rw [hn] at h1
  refine wpAny_Call_NameR (nameG O hk h1 hd a ?_)
  rw [hs]
  refine callWith_function (args_run p hne a fun vs s1 hl a1 => ⟨⟨?_, h3⟩, ?_⟩) (o := o)
  · obtain ⟨f', o', pm', cd', doc', k1, k2, k3, k4⟩ := (O.top).fn d hdf
    rw [hn] at k1
    have : f' = f := by rw [k1] at h1; cases h1; rfl
    subst this
    have e1 := a.heap0 _ _ k2
    rw [h2] at e1; cases e1
    exact a1.heap0 _ _ k2
  · rw [List.nil_append]
    obtain ⟨hsm, g, m, S, V, T⟩ := a1
    have T1 := O.top.mono S.old
    refine wpAny_call (codeAny_mono (sp C.A s1 g vs f hA T1 h1 S.keep (zip_hold hl T)) fun r s' b => ?_)
    obtain ⟨v, g', h', t', rfl, rfl, k1, k2, k3, k4, k5⟩ := b
    refine h v _ ⟨hsm.next _ _, g', m, (S.ext k1).grown k2 k3 fun b o e => ?_, V.mono k2, TmpOk.cons k5 fun p hp => (T.mono k2) p (List.mem_append_right _ hp)⟩
    cases e2 : s1.heap.get? b with
    | some o' => exact .inl (k4 b o e ⟨o', e2⟩)
    | none =>
      refine .inr ⟨?_, ?_, ?_⟩
      · cases e3 : C.h₀.get? b with
        | none => rfl
        | some o3 => have := S.old _ _ e3; rw [e2] at this; cases this
      · rintro rfl
        obtain ⟨_, _, _, ho, _⟩ := S.ns
        rw [e2] at ho; cases ho
      · rintro p hp rfl
        obtain ⟨⟨o2, q1, _⟩, _⟩ := S.mu p hp
        rw [e2] at q1; cases q1
end
end Mine
namespace Mine
open PySem PySem.W PySem.Calls PySem.Spec PyProof.Rows PySem.SeqAt

noncomputable abbrev zs (ns : List Int) : List PyData := ns.map PyData.int
noncomputable abbrev dInts (ns : List Int) : Rk := dList (zs ns)

section
variable {C : Cx} {ρ : Vs} {μ : Ms} {e e1 e2 e3 : Expr} {r q : Rk} {pos np : Pos} {x : Str} {es : List Expr} {rs : List Rk}

theorem carried_of {g : Heap} : ∀ {ns : List Int} {vs : List Value}, allHold g ((zs ns).map .dat) vs → CarriedAll vs (zs ns)
  | [], [], _ => .nil
  | [], _ :: _, h => h.elim
  | _ :: _, [], h => h.elim
  | n :: ns, v :: vs, h => by
    obtain ⟨t, rfl⟩ := holds_int h.1
    exact .cons (.int _ _) (carried_of h.2)
theorem intsAre_of {g : Heap} : ∀ {ns : List Int} {vs : List Value}, allHold g ((zs ns).map .dat) vs → IntsAre vs ns
  | [], [], _ => .nil
  | [], _ :: _, h => h.elim
  | _ :: _, [], h => h.elim
  | n :: ns, v :: vs, h => by
    obtain ⟨t, rfl⟩ := holds_int h.1
    exact .cons _ _ (intsAre_of h.2)

theorem PE.mulL {ns : List Int} {k : Int} (p1 : PE C ρ μ e1 (dInts ns)) (p2 : PE C ρ μ e2 (dInt k)) (hlo : -(2 ^ 63 : Int) ≤ k) (hhi : k < 2 ^ 63) (hsz : ns.length * k.toNat ≤ 2 ^ 20) :
    PE C ρ μ (.BinOp e1 .Mult e2 pos) (dInts (List.replicate k.toNat ns).flatten) :=
  p1.binop p2 fun τ s Q E a b y h => by
    obtain ⟨l, vs, rfl, h1, h2⟩ := holds_list y.top2
    obtain ⟨t, rfl⟩ := holds_int y.top
    obtain ⟨m, news, F, N, kk, fr⟩ := y.viaFr
    have hl := h2.length
    simp only [List.length_map] at hl
    refine mul_list_is F N h1 (carried_of h2) hlo hhi (by rw [hl]; (first | decide | assumption | omega)) fun h' F' N' _ hL _ => h _ _ ?_
    have hL' := hL
    obtain ⟨o, ho, hc, n, hd⟩ := hL
    refine At.kpNew [_, _] y (kk h' F' N') _ (Heap.get?_none_of_le (Nat.le_refl _)) ho fun g sg tm hg => ?_
    refine list_holds ⟨o, hg, hc, n, hd⟩ ?_
    have e : (zs (List.replicate k.toNat ns).flatten).map Rk.dat = (List.replicate k.toNat ((zs ns).map Rk.dat)).flatten := by
      rw [List.map_map, List.map_map, List.map_flatten, List.map_replicate]
    rw [e]
    have t2 := tm (Value.ref l, dInts ns) (.tail _ (.head _))
    obtain ⟨l', ws, e', q1, q2⟩ := holds_list t2
    cases e'
    have sl : h'.IsList l ws.toArray := isList_mono sg q1
    have s2 : h'.IsList l vs.toArray := by
      obtain ⟨o2, z1, z2⟩ := h1
      exact ⟨o2, (kk h' F' N').1 _ _ (by rintro rfl; obtain ⟨oL, _, _, zo, zd, _⟩ := F.ns; rw [z1] at zo; cases zo; obtain ⟨_, _, zd2⟩ := z2; rw [zd] at zd2; cases zd2) z1, z2⟩
    have := isList_eq sl s2
    have e3 : ws = vs := by simpa using this
    subst e3
    exact q2.rep _

theorem PE.addT {ds es : List PyData} (p1 : PE C ρ μ e1 (dTup ds)) (p2 : PE C ρ μ e2 (dTup es)) (h0 : ds ≠ []) (h00 : es ≠ []) (hn : ds.length + es.length ≤ 1000) : PE C ρ μ (.BinOp e1 .Add e2 pos) (dTup (ds ++ es)) :=
  p1.binop p2 fun τ s Q E a b x k => by
    obtain ⟨l, vs, rfl, h1, h2⟩ := holds_tup x.top2
    obtain ⟨l', ws, rfl, h3, h4⟩ := holds_tup x.top
    have hl1 := h2.length; have hl2 := h4.length
    rw [List.length_map] at hl1 hl2
    obtain ⟨⟨c, d, dt, sl⟩, ho, hc, n, hd⟩ := id h1
    obtain ⟨⟨c', d', dt', sl'⟩, ho', hc', n', hd'⟩ := id h3
    simp only at hc hd hc' hd'
    subst hc hd hc' hd'
    have v0 : vs ≠ [] := by intro e; rw [e] at hl1; exact h0 (List.length_eq_zero_iff.mp hl1.symm)
    have w0 : ws ≠ [] := by intro e; rw [e] at hl2; exact h00 (List.length_eq_zero_iff.mp hl2.symm)
    refine concat_meets ⟨_, ho, rfl⟩ ⟨_, ho', rfl⟩ noFill_tuple_add seq_tuple_add PySem.F.slot_tuple_add PySem.F.entry_tuple_add (PySem.F.args_tuple_add_2 _ _)
      (tuple_addW2 l l' vs.toArray ws.toArray n n' d d' sl sl' (by simpa using v0) (by simpa using w0) (by simp only [List.size_toArray, hl1, hl2, sizeLine_eq]; (first | decide | assumption | omega))) ⟨ho, ho', ?_⟩
    refine k _ _ (At.allocD (r := dTup (ds ++ es)) [_, _] x rfl fun g sg tm hg => ?_)
    refine tup_holds (vs := vs ++ ws) ⟨_, hg, rfl, 0, by simp⟩ ?_
    rw [List.map_append]
    exact (titems_of sg (tm _ (.tail _ (.head _))) (isTup_mono (Sub.push _ _) h1)).append (titems_of sg (tm _ (.head _)) (isTup_mono (Sub.push _ _) h3))

theorem PE.len (O : Ok C) {ds : List PyData} (p : PE C ρ μ e (dList ds)) (hk : C.env.kindOf "len" = some .globalImplicit) (hn : ds.length < 2 ^ 62) (hs : backTo pos (starEach [e] C.env) = trees [e] C.env := by rfl) :
    PE C ρ μ (.Call (.Name "len" np) [e] [] pos) (dInt ds.length) := fun τ s Q E a h =>
  callB (id := "len") O hk (by decide) (by decide) (.cons p .nil) (by simp) hs a fun vs s' hl a' => by
    obtain ⟨v, rfl⟩ : ∃ v, vs = [v] := List.length_eq_one_iff.mp hl
    obtain ⟨l, vs, rfl, h1, h2⟩ := holds_list a'.top
    have hl1 := h2.length
    rw [List.length_map] at hl1
    refine call_len_list h1 (by simp [hl1]; (first | decide | assumption | omega)) (h _ _ ?_)
    rw [List.size_toArray, hl1]
    exact (a'.drop.toks _).push fun _ _ _ => int_holds _ _

theorem PE.item {ds : List PyData} {i : Int} {d : PyData} (p1 : PE C ρ μ e1 (dList ds)) (p2 : PE C ρ μ e2 (dInt i)) (h0 : 0 ≤ i) (hhi : i < 2 ^ 62) (hd : ds[i.toNat]? = some d)
    (hs : ∀ o i, subscripted e2 false o i = operate [o, i] (getItem o i) := by intros; rfl) : PE C ρ μ (.Subscript e1 e2 pos) (.dat d) := fun τ s Q E a h =>
  Subscript_ (p1 τ s _ E a fun v s1 a1 => p2 _ s1 _ E a1 fun u s2 a2 => by
    obtain ⟨l, vs, rfl, h1, h2⟩ := holds_list a2.top2
    obtain ⟨t, rfl⟩ := holds_int a2.top
    obtain ⟨w, hw, hr⟩ := h2.get (i := i.toNat) (r := .dat d) (by simp [hd])
    refine tail_any h1.typeIs list_getitem_lookup (wpAny_getItem_list h1 h0 (by (first | decide | assumption | omega)) (by simpa using hw) (h w s2 ?_)) (hs _ _)
    refine At.pushD [_, _] a2 fun g sg tm => ?_
    · have := items_of sg (tm (Value.ref l, dList ds) (.tail _ (.head _))) h1
      obtain ⟨w', hw', hr'⟩ := this.get (i := i.toNat) (r := .dat d) (by simp [hd])
      rw [hw] at hw'; cases hw'; exact hr'
  )
theorem PE.itemT {ds : List PyData} {i : Int} {d : PyData} (p1 : PE C ρ μ e1 (dTup ds)) (p2 : PE C ρ μ e2 (dInt i)) (h0 : 0 ≤ i) (hhi : i < 2 ^ 62) (hd : ds[i.toNat]? = some d)
    (hs : ∀ o i, subscripted e2 false o i = operate [o, i] (getItem o i) := by intros; rfl) : PE C ρ μ (.Subscript e1 e2 pos) (.dat d) := fun τ s Q E a h =>
  Subscript_ (p1 τ s _ E a fun v s1 a1 => p2 _ s1 _ E a1 fun u s2 a2 => by
    obtain ⟨l, vs, rfl, h1, h2⟩ := holds_tup a2.top2
    obtain ⟨t, rfl⟩ := holds_int a2.top
    obtain ⟨w, hw, hr⟩ := h2.get (i := i.toNat) (r := .dat d) (by simp [hd])
    have hlt : i.toNat < vs.length := (List.getElem?_eq_some_iff.mp hw).1
    refine tail_any h1.typeIs PyProof.Rows.slot_tuple_getitem.lookup (getItem_tuple h1 (by (first | decide | assumption | omega)) (by (first | decide | assumption | omega)) (seqIndex_of h0 (by simp; (first | decide | assumption | omega))) (by simpa using hw) (h w s2 ?_)) (hs _ _)
    refine At.pushD [_, _] a2 fun g sg tm => ?_
    · have := titems_of sg (tm (Value.ref l, dTup ds) (.tail _ (.head _))) h1
      obtain ⟨w', hw', hr'⟩ := this.get (i := i.toNat) (r := .dat d) (by simp [hd])
      rw [hw] at hw'; cases hw'; exact hr'
  )

/-! ## slices -/
inductive PP (C : Cx) (ρ : Vs) (μ : Ms) : Option Expr → Option Int → Prop
  | none : PP C ρ μ none none
  | some {e i} : PE C ρ μ e (dInt i) → PP C ρ μ (some e) (some i)
noncomputable def partOk (s : Option Int) (v : Value) : Prop := IsPart v s
theorem PP.run {lo : Option Expr} {i : Option Int} (p : PP C ρ μ lo i) : ∀ τ s (Q E : Value → Shared → Prop), At C ρ μ τ s → (∀ v s', IsPart v i → At C ρ μ τ s' → Q v s') → wpAny (MC C) C.A (evalPart lo C.env) Q E s := by
  cases p with
  | none => exact fun τ s Q E a h => evalPart_none_step (h _ _ .none a)
  | some p => exact fun τ s Q E a h => evalPart_some_step (p τ s _ E a fun v s' a' => by obtain ⟨t, rfl⟩ := holds_int a'.top; exact h _ _ (.int _ _) a'.drop)

theorem pick_all {g : Heap} {ds : List PyData} {vs : List Value} (h : allHold g (ds.map .dat) vs) (lo hi st : Option Int) :
    allHold g (((sliceRange (sliceBounds lo hi st ds.length).1 (sliceBounds lo hi st ds.length).2.1 (sliceBounds lo hi st ds.length).2.2).filterMap (ds[·]?)).map .dat) (slicePick vs.toArray lo hi st).toList := by
  have hl := h.length
  rw [List.length_map] at hl
  unfold slicePick
  rw [List.size_toArray, hl]
  generalize sliceRange _ _ _ = js
  show allHold g _ (js.filterMap fun j => vs.toArray[j]?)
  induction js with
  | nil => exact trivial
  | cons j js ih =>
    simp only [List.filterMap_cons, List.getElem?_toArray]
    cases hd : ds[j]? with
    | none =>
      have : vs[j]? = none := by
        rw [List.getElem?_eq_none_iff] at hd ⊢; (first | decide | assumption | omega)
      rw [this]
      simpa using ih
    | some d =>
      obtain ⟨w, hw, hr⟩ := h.get (i := j) (r := .dat d) (by simp [hd])
      rw [hw]
      simp only [List.map_cons]
      exact ⟨hr, by simpa using ih⟩
noncomputable def pickL {α : Type} (ds : List α) (lo hi st : Option Int) : List α := (sliceRange (sliceBounds lo hi st ds.length).1 (sliceBounds lo hi st ds.length).2.1 (sliceBounds lo hi st ds.length).2.2).filterMap (ds[·]?)

theorem PE.slice {ds : List PyData} {lo hi st : Option Expr} {i j k : Option Int} {sp : Pos} (p : PE C ρ μ e (dList ds)) (p1 : PP C ρ μ lo i) (p2 : PP C ρ μ hi j) (p3 : PP C ρ μ st k) (hk : k ≠ some 0) (hn : ds.length ≤ 1000000)
    (hs : ∀ o i, ∃ ops, subscripted (.Slice lo hi st sp) false o i = operate ops (getItem o i) := by intros; exact ⟨_, rfl⟩) :
    PE C ρ μ (.Subscript e (.Slice lo hi st sp) pos) (dList (pickL ds i j k)) := fun τ s Q E a h =>
  Subscript_ (p τ s _ E a fun v s0 a0 => wpAny_Slice (p1.run _ s0 _ E a0 fun vl s1 q1 a1 => p2.run _ s1 _ E a1 fun vu s2 q2 a2 => p3.run _ s2 _ E a2 fun vk s3 q3 a3 => by
    obtain ⟨l, vs, rfl, h1, h2⟩ := holds_list a3.top
    have hl1 := h2.length
    rw [List.length_map] at hl1
    have a4 := a3.ext (Sub.push s3.heap { cls := .type "slice", data := .fields #[vl, vu, vk] }) s3.toks
    have h1' := h1.push { cls := .type "slice", data := .fields #[vl, vu, vk] }
    obtain ⟨ops, hops⟩ := hs (.ref l) (.ref s3.heap.objs.size)
    refine tail_any (Heap.IsList.typeIs (s := { s3 with heap := s3.heap.push { cls := .type "slice", data := .fields #[vl, vu, vk] } }) h1') list_getitem_lookup
      (wpAny_getItem_list_slice h1' (Heap.IsSliceOf.new ..) q1 q2 q3 hk (h _ _ (At.allocD (r := dList (pickL ds i j k)) [_] a4 rfl fun g sg tm hg => ?_)) (by rw [List.size_toArray, hl1, sizeLine_eq]; (first | decide | assumption | omega))) hops
    refine list_holds (vs := (slicePick vs.toArray i j k).toList) ⟨_, hg, rfl, 0, by simp⟩ ?_
    exact pick_all (items_of sg (tm _ (.head _)) (h1'.push _)) i j k))

theorem pick_run' {α : Type} (ds : List α) : ∀ (n a : Nat), a + n ≤ ds.length → ((List.range n).map (a + ·)).filterMap (ds[·]?) = (ds.drop a).take n
  | 0, a, _ => by simp
  | n + 1, a, h => by
    rw [List.range_succ, List.map_append, List.filterMap_append, pick_run' ds n a (by (first | decide | assumption | omega)), List.take_add_one]
    simp only [List.map_cons, List.map_nil, List.filterMap_cons, List.filterMap_nil, List.getElem?_drop]
    cases ds[a + n]? <;> simp
theorem pickL_plain {α : Type} (ds : List α) (lo hi : Option Int) :
    pickL ds lo hi none = (ds.drop (lo.elim 0 (clipAt ds.length))).take (hi.elim ds.length (clipAt ds.length) - lo.elim 0 (clipAt ds.length)) := by
  unfold pickL
  rw [sliceBounds_plain]
  simp only [sliceRange_one]
  by_cases h : lo.elim 0 (clipAt ds.length) ≤ hi.elim ds.length (clipAt ds.length)
  · refine pick_run' ds _ _ ?_
    have : hi.elim ds.length (clipAt ds.length) ≤ ds.length := by
      cases hi with
      | none => exact Nat.le_refl _
      | some i => simp only [Option.elim, clipAt]; (first | decide | assumption | omega)
    (first | decide | assumption | omega)
  · rw [show hi.elim ds.length (clipAt ds.length) - lo.elim 0 (clipAt ds.length) = 0 by (first | decide | assumption | omega)]
    simp
theorem pickL_run {α : Type} (ds : List α) (a b : Nat) : pickL ds (some a) (some b) none = (ds.drop a).take (b - a) := by
  rw [pickL_plain]
  simp only [Option.elim, clipAt_nat]
  apply List.ext_getElem?
  intro i
  simp only [List.getElem?_take, List.getElem?_drop]
  by_cases h1 : i < b - a
  · rw [if_pos h1]
    by_cases h2 : a ≤ ds.length
    · by_cases h3 : b ≤ ds.length
      · rw [Nat.min_eq_left h2, Nat.min_eq_left h3, if_pos h1]
      · rw [Nat.min_eq_left h2, Nat.min_eq_right (by (first | decide | assumption | omega))]
        split
        · rfl
        · rw [List.getElem?_eq_none (by (first | decide | assumption | omega))]
    · rw [List.getElem?_eq_none (l := ds) (i := a + i) (by (first | decide | assumption | omega))]
      split
      · rw [List.getElem?_eq_none (by (first | decide | assumption | omega))]
      · rfl
  · rw [if_neg h1]
    split
    · rw [List.getElem?_eq_none (by (first | decide | assumption | omega))]
    · rfl
theorem pickL_from {α : Type} (ds : List α) (a : Nat) : pickL ds (some a) none none = ds.drop a := by
  rw [pickL_plain]
  simp only [Option.elim, clipAt_nat]
  by_cases h : a ≤ ds.length
  · rw [Nat.min_eq_left h, List.take_of_length_le (by simp)]
  · rw [Nat.min_eq_right (by (first | decide | assumption | omega))]
    simp [List.drop_eq_nil_of_le (show ds.length ≤ a by (first | decide | assumption | omega))]
theorem pickL_upto {α : Type} (ds : List α) (b : Nat) : pickL ds none (some b) none = ds.take b := by
  rw [pickL_plain]
  simp only [Option.elim, clipAt_nat, Nat.sub_zero, List.drop_zero]
  by_cases h : b ≤ ds.length
  · rw [Nat.min_eq_left h]
  · rw [Nat.min_eq_right (by (first | decide | assumption | omega)), List.take_of_length_le (by (first | decide | assumption | omega)), List.take_of_length_le (by (first | decide | assumption | omega))]
theorem pickL_rev {α : Type} (ds : List α) : pickL ds none none (some (-1)) = ds.reverse := by
  unfold pickL
  have e : sliceBounds none none (some (-1)) ds.length = ((ds.length : Int) - 1, -1, -1) := by
    simp [sliceBounds]
  rw [e]
  show (sliceRange ((ds.length : Int) - 1) (-1) (-1)).filterMap (ds[·]?) = _
  unfold sliceRange
  have hc : (if (-1 : Int) > 0 then (if ((ds.length : Int) - 1) < -1 then (-1 - ((ds.length : Int) - 1) + -1 - 1) / -1 else 0) else (if ((ds.length : Int) - 1) > -1 then (((ds.length : Int) - 1) - -1 - -1 - 1) / (- -1) else 0)) = (ds.length : Int) := by
    rw [if_neg (by decide)]
    split
    · simp
    · (first | decide | assumption | omega)
  simp only [hc]
  apply List.ext_getElem?
  intro i
  have key : ∀ n, n ≤ ds.length → ((List.range n).map fun (k : Nat) => ((ds.length : Int) - 1 + -1 * (k : Int)).toNat).filterMap (ds[·]?) = (ds.reverse).take n := by
    intro n
    induction n with
    | zero => simp
    | succ n ih =>
      intro hn
      rw [List.range_succ, List.map_append, List.filterMap_append, ih (by (first | decide | assumption | omega)), List.take_add_one]
      congr 1
      simp only [List.map_cons, List.map_nil, List.filterMap_cons, List.filterMap_nil]
      rw [List.getElem?_reverse (by (first | decide | assumption | omega))]
      have : ((ds.length : Int) - 1 + -1 * (n : Int)).toNat = ds.length - 1 - n := by (first | decide | assumption | omega)
      rw [this]
      cases ds[ds.length - 1 - n]? <;> simp
  have := key ds.length (Nat.le_refl _)
  rw [show (ds.length : Int).toNat = ds.length by (first | decide | assumption | omega)]
  rw [this, List.take_of_length_le (by simp)]
end
end Mine
namespace Mine
open PySem PySem.W PySem.Calls PySem.Spec PyProof.Rows PySem.SeqAt

theorem two_of {α : Type} : ∀ {l : List α}, l.length = 2 → ∃ a b, l = [a, b]
  | [a, b], _ => ⟨a, b, rfl⟩
section
variable {C : Cx} {ρ : Vs} {μ : Ms} {e e1 e2 e3 : Expr} {r q : Rk} {pos np apos : Pos} {x y : Str} {es : List Expr} {rs : List Rk}

/-- the shape of a method call on a plain road -/
noncomputable def MethShape (o : Expr) (name : Str) (apos : Pos) (args : List Expr) (pos : Pos) (env : Env) (pl : Sem Bool) : Prop :=
  eval (.Call (.Attribute o name apos) args [] pos) env = (do
    let ov ← eval o env
    standAt apos.atName
    let (f, first) ← holding [ov] (getMethod ov name pl)
    callWith pos f first (backTo pos (starEach args env)) [])

theorem callM {o : Expr} {name : Str} {id T : String} {r0 : Rk} {pl : Sem Bool} (he : MethShape o name apos es pos C.env pl) (p0 : PE C ρ μ o r0)
    (hT : ∀ τ s v, At C ρ μ ((v, r0) :: τ) s → s.TypeIs v T ∧ ∀ a, v = .ref a → ∃ ob, s.heap.get? a = some ob ∧ ob.dict = none)
    (pa : PlainAttrs T) (slot : Slot T name id) (hty : typeOf (.builtin id) = pure (.type "method_descriptor")) (p : PA C ρ μ es rs) (hs : backTo pos (starEach es C.env) = trees es C.env)
    {τ : Ts} {s : Shared} {Q E : Value → Shared → Prop} (a : At C ρ μ τ s)
    (h : ∀ v vs s', vs.length = rs.length → At C ρ μ (vs.zip rs ++ (v, r0) :: τ) s' → wpAny (MC C) C.A (call (.builtin id) (v :: vs)) Q E s') :
    wpAny (MC C) C.A (eval (.Call (.Attribute o name apos) es [] pos) C.env) Q E s :=
  MethodCall_ (he := he) (p0 τ s _ E a fun v s1 a1 => by
    obtain ⟨h1, h2⟩ := hT _ _ _ a1
    refine getMethod_builtin h1 pa slot hty h2 ?_
    dsimp only
    rw [hs]
    cases es with
    | nil =>
      cases p
      exact PyProof.Rows.callWith_method0 (env := C.env) (h v [] s1 rfl a1)
    | cons e es =>
      exact callWith_builtin (trees_plain _ _) (args_run p (by simp) a1 fun vs s' hl a' => h v vs s' hl a'))

theorem typeIs_str {s : Shared} {g : Heap} {v : Value} (h : (dStr x).holds g v) : s.TypeIs v "str" ∧ ∀ a, v = .ref a → ∃ ob, s.heap.get? a = some ob ∧ ob.dict = none := by
  obtain ⟨t, rfl⟩ := holds_str h
  exact ⟨rfl, fun a e => by cases e⟩

theorem PE.addS (p1 : PE C ρ μ e1 (dStr x)) (p2 : PE C ρ μ e2 (dStr y)) (hn : x.length + y.length ≤ 1000000) : PE C ρ μ (.BinOp e1 .Add e2 pos) (dStr (x ++ y)) :=
  p1.binop p2 fun τ s Q E a b z k => by
    obtain ⟨t, rfl⟩ := holds_str z.top2; obtain ⟨u, rfl⟩ := holds_str z.top
    exact PyProof.Rows.add_str (fun t' tk => k _ _ ((z.drop.drop.toks _).push fun _ _ _ => str_holds _ _)) (by rw [sizeLine_eq]; (first | decide | assumption | omega))

theorem PE.strOf (O : Ok C) {i : Int} (p : PE C ρ μ e (dInt i)) (hk : C.env.kindOf "str" = some .globalImplicit) (hi : i.natAbs.log2 < 1920) (hs : backTo pos (starEach [e] C.env) = trees [e] C.env := by rfl) :
    PE C ρ μ (.Call (.Name "str" np) [e] [] pos) (dStr (Str.ofString (toString i))) := fun τ s Q E a h =>
  callT (T := "str") O hk (by decide) (by decide) (.cons p .nil) (by simp) hs a fun vs s' hl a' => by
    obtain ⟨v, rfl⟩ : ∃ v, vs = [v] := List.length_eq_one_iff.mp hl
    obtain ⟨t, rfl⟩ := holds_int a'.top
    exact PySem.P.str_of_int hi (h _ _ ((a'.drop.toks _).push fun _ _ _ => str_holds _ _))
theorem PE.intOf (O : Ok C) {i : Int} (p : PE C ρ μ e (dStr x)) (hk : C.env.kindOf "int" = some .globalImplicit) (hi : PySem.intText? x = some i) (hl0 : x.length ≤ 640) (hs : backTo pos (starEach [e] C.env) = trees [e] C.env := by rfl) :
    PE C ρ μ (.Call (.Name "int" np) [e] [] pos) (dInt i) := fun τ s Q E a h =>
  callT (T := "int") O hk (by decide) (by decide) (.cons p .nil) (by simp) hs a fun vs s' hl a' => by
    obtain ⟨v, rfl⟩ : ∃ v, vs = [v] := List.length_eq_one_iff.mp hl
    obtain ⟨t, rfl⟩ := holds_str a'.top
    exact PySem.W.KIN.call_text hi hl0 (h _ _ ((a'.drop.toks _).push fun _ _ _ => int_holds _ _))
theorem PE.absI (O : Ok C) {i : Int} (p : PE C ρ μ e (dInt i)) (hk : C.env.kindOf "abs" = some .globalImplicit) (hs : backTo pos (starEach [e] C.env) = trees [e] C.env := by rfl) :
    PE C ρ μ (.Call (.Name "abs" np) [e] [] pos) (dInt (if i < 0 then -i else i)) := fun τ s Q E a h =>
  callB (id := "abs") O hk (by decide) (by decide) (.cons p .nil) (by simp) hs a fun vs s' hl a' => by
    obtain ⟨v, rfl⟩ : ∃ v, vs = [v] := List.length_eq_one_iff.mp hl
    obtain ⟨t, rfl⟩ := holds_int a'.top
    exact PyProof.Rows.call_abs_int fun u tk => h _ _ ((a'.drop.toks _).push fun _ _ _ => int_holds _ _)
theorem PE.min2 (O : Ok C) {i j : Int} (p1 : PE C ρ μ e1 (dInt i)) (p2 : PE C ρ μ e2 (dInt j)) (hk : C.env.kindOf "min" = some .globalImplicit) (hs : backTo pos (starEach [e1, e2] C.env) = trees [e1, e2] C.env := by rfl) :
    PE C ρ μ (.Call (.Name "min" np) [e1, e2] [] pos) (dInt (if j < i then j else i)) := fun τ s Q E a h =>
  callB (id := "min") O hk (by decide) (by decide) (.cons p1 (.cons p2 .nil)) (by simp) hs a fun vs s' hl a' => by
    obtain ⟨v, u, rfl⟩ : ∃ v u, vs = [v, u] := two_of hl
    obtain ⟨t, rfl⟩ := holds_int a'.top
    obtain ⟨t2, rfl⟩ := holds_int a'.top2
    obtain ⟨m, news, F, N, kk, fr⟩ := a'.viaFr
    exact min_two_N O.hh F N fun h' tk F' N' => h _ _ (((a'.kp (kk h' F' N') tk).drop.drop).push fun _ _ _ => int_holds _ _)

theorem PE.sliceTo {i : Int} {sp : Pos} (p : PE C ρ μ e (dStr x)) (p2 : PE C ρ μ e2 (dInt i)) (hx : x.length ≤ 1000000)
    (hs : ∀ o i, subscripted (.Slice none (some e2) none sp) false o i = operate [i, o] (getItem o i) := by intros; rfl) (ht : ∀ t r, letTemporaryGo e (.str x t) r = pure () := by intro _ _; rfl) :
    PE C ρ μ (.Subscript e (.Slice none (some e2) none sp) pos) (dStr (Txt.slice x none (some i))) := fun τ s Q E a h =>
  Subscript_ (p τ s _ E a fun v s0 a0 => wpAny_Slice (evalPart_none_step (evalPart_some_step (p2 _ s0 _ E a0 fun u s1 a1 => evalPart_none_step (by
    obtain ⟨t, rfl⟩ := holds_str a1.top2
    obtain ⟨t2, rfl⟩ := holds_int a1.top
    obtain ⟨m, news, F, N, kk, fr⟩ := a1.viaFr
    exact slice_strN_ns F N (fun h' t' k F' N' => h _ _ (((a1.kp (kk h' F' N') k).drop.drop).push fun _ _ _ => str_holds _ _)) (hs _ _) (ht _) (by rw [sizeLine_eq]; (first | decide | assumption | omega)))))))
theorem PE.sliceFromS {i : Int} {sp : Pos} (p : PE C ρ μ e (dStr x)) (p2 : PE C ρ μ e2 (dInt i)) (hx : x.length ≤ 1000000)
    (hs : ∀ o i, subscripted (.Slice (some e2) none none sp) false o i = operate [i, o] (getItem o i) := by intros; rfl) (ht : ∀ t r, letTemporaryGo e (.str x t) r = pure () := by intro _ _; rfl) :
    PE C ρ μ (.Subscript e (.Slice (some e2) none none sp) pos) (dStr (Txt.slice x (some i) none)) := fun τ s Q E a h =>
  Subscript_ (p τ s _ E a fun v s0 a0 => wpAny_Slice (evalPart_some_step (p2 _ s0 _ E a0 fun u s1 a1 => evalPart_none_step (evalPart_none_step (by
    obtain ⟨t, rfl⟩ := holds_str a1.top2
    obtain ⟨t2, rfl⟩ := holds_int a1.top
    obtain ⟨m, news, F, N, kk, fr⟩ := a1.viaFr
    exact slice_strN_sn F N (fun h' t' k F' N' => h _ _ (((a1.kp (kk h' F' N') k).drop.drop).push fun _ _ _ => str_holds _ _)) (hs _ _) (ht _) (by rw [sizeLine_eq]; (first | decide | assumption | omega)))))))

noncomputable def occIn (y x : Str) : Bool := !(Builtin.Str.occurrences x y 0 x.length 1).isEmpty
theorem CmpR.inS : CmpR C ρ μ .In (dStr y) (dStr x) (occIn y x) := fun τ s Q E a c z k => by
  obtain ⟨t, rfl⟩ := holds_str z.top2; obtain ⟨u, rfl⟩ := holds_str z.top
  exact PyProof.Rows.in_str (k _ z.drop.drop)

noncomputable abbrev txts (ws : List Str) : List PyData := ws.map PyData.str
theorem strs_of {g : Heap} : ∀ {ws : List Str} {vs : List Value}, allHold g ((txts ws).map .dat) vs → ∃ l : List (Str × Tok), vs = strValues l ∧ l.map (·.1) = ws
  | [], [], _ => ⟨[], rfl, rfl⟩
  | [], _ :: _, h => h.elim
  | _ :: _, [], h => h.elim
  | w :: ws, v :: vs, h => by
    obtain ⟨t, rfl⟩ := holds_str h.1
    obtain ⟨l, rfl, rfl⟩ := strs_of h.2
    exact ⟨(w, t) :: l, rfl, rfl⟩
theorem of_strs {g : Heap} : ∀ (l : List (Str × Tok)), allHold g ((txts (l.map (·.1))).map .dat) (strValues l)
  | [] => trivial
  | (w, t) :: l => ⟨str_holds _ _, of_strs l⟩

theorem PE.join {sep : Str} {ws : List Str} {o : Expr} {pl : Sem Bool} (he : MethShape o "join" apos [e] pos C.env pl) (p0 : PE C ρ μ o (dStr sep)) (p : PE C ρ μ e (dList (txts ws))) (hok : JoinOk sep ws = true)
    (hs : backTo pos (starEach [e] C.env) = trees [e] C.env := by rfl) : PE C ρ μ (.Call (.Attribute o "join" apos) [e] [] pos) (dStr (Txt.join sep ws)) := fun τ s Q E a h =>
  callM (id := "str.join") (T := "str") he p0 (fun τ s v a => typeIs_str a.top) PySem.F.plainAttrs_str PySem.F.slot_str_join PySem.F.type_str_join (.cons p .nil) hs a fun v vs s' hl a' => by
    obtain ⟨u, rfl⟩ : ∃ u, vs = [u] := List.length_eq_one_iff.mp hl
    obtain ⟨l, us, rfl, h1, h2⟩ := holds_list a'.top
    obtain ⟨t, rfl⟩ := holds_str (show (dStr sep).holds s'.heap v from a'.hold (by simp))
    obtain ⟨ls, rfl, hm⟩ := strs_of h2
    exact SC.join h1 hm hok fun t' k => h _ _ (((a'.toks k).tmps (τ' := τ) (fun p hp => by simp [hp])).push fun _ _ _ => str_holds _ _)

theorem PE.split {ws : Str} {o : Expr} {pl : Sem Bool} (he : MethShape o "split" apos [e] pos C.env pl) (p0 : PE C ρ μ o (dStr x)) (p : PE C ρ μ e (dStr y)) (hy : (y.length == 0) = false) (hx : x.length ≤ 1000000)
    (hs : backTo pos (starEach [e] C.env) = trees [e] C.env := by rfl) : PE C ρ μ (.Call (.Attribute o "split" apos) [e] [] pos) (dList (txts (Txt.split x y))) := fun τ s Q E a h =>
  callM (id := "str.split") (T := "str") he p0 (fun τ s v a => typeIs_str a.top) PySem.F.plainAttrs_str PySem.F.slot_str_split PySem.F.type_str_split (.cons p .nil) hs a fun v vs s' hl a' => by
    obtain ⟨u, rfl⟩ : ∃ u, vs = [u] := List.length_eq_one_iff.mp hl
    obtain ⟨t2, rfl⟩ := holds_str a'.top
    obtain ⟨t, rfl⟩ := holds_str (show (dStr x).holds s'.heap v from a'.hold (by simp))
    obtain ⟨m, news, F, N, kk, fr⟩ := a'.viaFr
    refine splitN1 F N hy (fun l h' k hl' F' N' => h _ _ ?_) (by rw [sizeLine_eq]; (first | decide | assumption | omega))
    have N1 := N' _ (.head _)
    refine At.kpNew (τ := τ) [_, _] a' (kk h' F' fun p hp => N' p (.tail _ hp)) k (Heap.get?_none_of_le (Nat.le_refl _)) N1.1 fun g sg tm hg => ?_
    rw [← hl']
    exact list_holds ⟨_, hg, rfl, 0, rfl⟩ (of_strs l)
end
end Mine
namespace Mine
open PySem PySem.W PySem.Calls PySem.Spec PyProof.Rows PySem.SeqAt

noncomputable abbrev Post := Flow → Vs → Ms → Ts → Prop
noncomputable def Tr (C : Cx) (ρ : Vs) (μ : Ms) (ss : List Stmt) (P : Post) : Prop :=
  ∀ τ s (E : Value → Shared → Prop), At C ρ μ τ s → wpAny (MC C) C.A (execs ss C.env) (fun f s' => ∃ ρ' μ' τ', At C ρ' μ' (τ' ++ τ) s' ∧ P f ρ' μ' τ') E s
/-- one statement, and what follows -/
noncomputable def Tx (C : Cx) (ρ : Vs) (μ : Ms) (st : Stmt) (P : Post) : Prop :=
  ∀ τ s (E : Value → Shared → Prop), At C ρ μ τ s → wpAny (MC C) C.A (exec st C.env) (fun f s' => ∃ ρ' μ' τ', At C ρ' μ' (τ' ++ τ) s' ∧ P f ρ' μ' τ') E s
noncomputable def Then (C : Cx) (rest : List Stmt) (P : Post) : Post := fun f ρ μ τ => match f with | .next => Tr C ρ μ rest P | f => P f ρ μ τ
noncomputable def Rets (res : Rk) : Post := fun f _ _ τ => ∃ v, f = .ret v ∧ (v, res) ∈ τ

section
variable {C : Cx} {ρ ρ' : Vs} {μ μ' : Ms} {e e1 e2 e3 : Expr} {r q : Rk} {pos np apos xp : Pos} {x y : Str} {es : List Expr} {rs : List Rk} {st : Stmt} {rest body orelse : List Stmt} {P : Post}

theorem Tr.cons (h : Tx C ρ μ st (Then C rest P)) : Tr C ρ μ (st :: rest) P := fun τ s E a =>
  wpAny_execs_cons (wpAny_mono (h τ s E a) (fun f s' ⟨ρ', μ', τ', a', p⟩ => by
    cases f with
    | next =>
      refine wpAny_mono (p τ s' E (a'.tmps fun q hq => List.mem_append_right _ hq)) (fun f s2 h2 => h2) fun _ _ x => x
    | ret v => exact ⟨ρ', μ', τ', a', p⟩
    | brk => exact ⟨ρ', μ', τ', a', p⟩
    | cont => exact ⟨ρ', μ', τ', a', p⟩) fun _ _ x => x)
theorem Tr.nil (h : P .next ρ μ []) : Tr C ρ μ [] P := fun τ s E a => wpAny_execs_nil ⟨ρ, μ, [], a, h⟩
theorem Tr.mono {Q : Post} (h : Tr C ρ μ body P) (k : ∀ f ρ' μ' τ', P f ρ' μ' τ' → Q f ρ' μ' τ') : Tr C ρ μ body Q := fun τ s E a =>
  wpAny_mono (h τ s E a) (fun f s' ⟨ρ', μ', τ', a', p⟩ => ⟨ρ', μ', τ', a', k _ _ _ _ p⟩) fun _ _ x => x
theorem Tx.mono {Q : Post} (h : Tx C ρ μ st P) (k : ∀ f ρ' μ' τ', P f ρ' μ' τ' → Q f ρ' μ' τ') : Tx C ρ μ st Q := fun τ s E a =>
  wpAny_mono (h τ s E a) (fun f s' ⟨ρ', μ', τ', a', p⟩ => ⟨ρ', μ', τ', a', k _ _ _ _ p⟩) fun _ _ x => x
theorem Tr.vars (hv : ∀ p ∈ ρ', ρ.lookup p.1 = some p.2) (h : Tr C ρ' μ body P) : Tr C ρ μ body P := fun τ s E a => h τ s E (a.vars hv)
theorem Tr.perm (hp : μ'.Perm μ) (h : Tr C ρ μ' body P) : Tr C ρ μ body P := fun τ s E a => h τ s E (a.perm hp)
theorem Tx.assign (O : Ok C) (p : PE C ρ μ e r) (hk : C.env.kindOf x = some .local) (h : P .next ((x, r) :: ρ) μ [])
    (hs : swapsWith e (some (.Name x xp)) pos.line C.env = pure false := by rfl) : Tx C ρ μ (.Assign [.Name x xp] e pos) P := fun τ s E a =>
  wpAny_Assign_Name (hs := hs) (p τ s _ E a fun v s1 a1 => a1.storeNs hk O.fn fun s2 a2 => ⟨_, _, [], a2, h⟩)
theorem Tx.ret (p : PE C ρ μ e r) (h : ∀ v, P (.ret v) ρ μ [(v, r)]) : Tx C ρ μ (.Return (some e) pos) P := fun τ s E a =>
  wpAny_Return_some (p τ s _ E a fun v s1 a1 => ⟨_, _, [(v, r)], a1, h v⟩)
theorem Tx.aug {i j : Int} (O : Ok C) (hx : ρ.lookup x = some (dInt i)) (hk : C.env.kindOf x = some .local) (p : PE C ρ μ e (dInt j)) (h : P .next ((x, dInt (i + j)) :: ρ) μ []) :
    Tx C ρ μ (.AugAssign (.Name x xp) .Add e pos) P := fun τ s E a => by
  obtain ⟨m, v, hn, hm, a0⟩ := a.name hx
  refine wpAny_AugAssign_Name (wpAny_loadName_local O.fn hk hn hm (p _ s _ E a0 fun u s1 a1 => ?_))
  obtain ⟨t, rfl⟩ := holds_int a1.top2
  obtain ⟨t2, rfl⟩ := holds_int a1.top
  exact wpAny_iadd_int ((((a1.drop.drop).toks _).push fun _ _ _ => int_holds _ _).storeNs hk O.fn fun s2 a2 => ⟨_, _, [], a2, h⟩)
theorem Tx.ite {b : Bool} (p : PT C ρ μ e b) (h1 : b = true → Tr C ρ μ body P) (h2 : b = false → Tr C ρ μ orelse P) : Tx C ρ μ (.If e body orelse pos) P := fun τ s E a =>
  wpAny_If (p τ s _ E a fun s1 a1 => by
    cases b with
    | true => simp only [if_true]; exact h1 rfl τ s1 E a1
    | false => simp only [Bool.false_eq_true, if_false]; exact h2 rfl τ s1 E a1)

/-! ## taking a tuple apart -/
theorem assign_name (O : Ok C) {v : Value} {τ : Ts} {s : Shared} {Q : Unit → Shared → Prop} {E : Value → Shared → Prop} (hk : C.env.kindOf x = some .local) (a : At C ρ μ ((v, r) :: τ) s)
    (h : ∀ s', At C ((x, r) :: ρ) μ τ s' → Q () s') : wpAny (MC C) C.A (assign (.Name x xp) C.env v) Q E s :=
  wpAny_assign_Name (a.storeNs hk O.fn h)
theorem items_push {g : Heap} : ∀ {ds : List PyData} {vs : List Value}, allHold g (ds.map .dat) vs → TmpOk g (vs.zip (ds.map .dat))
  | [], _, _ => by intro p hp; simp at hp
  | _ :: _, [], h => h.elim
  | d :: ds, v :: vs, h => by
    intro p hp
    simp only [List.map_cons, List.zip_cons_cons, List.mem_cons] at hp
    rcases hp with rfl | hp
    · exact h.1
    · exact items_push h.2 p hp
theorem At.pushAll {τ : Ts} {s : Shared} (τd τn : Ts) (x : At C ρ μ (τd ++ τ) s) (h : ∀ g, Sub g s.heap → TmpOk g (τd ++ τ) → TmpOk g τn) : At C ρ μ (τn ++ τ) s := by
  obtain ⟨hs, g, m, S, V, T⟩ := x
  exact ⟨hs, g, m, S, V, fun p hp => (List.mem_append.mp hp).elim (h g S.keep T p) fun hp => T p (List.mem_append_right _ hp)⟩

theorem unpack_tup (O : Ok C) {ds : List PyData} {v : Value} {τ : Ts} {s : Shared} {Q : List Value → Shared → Prop} {E : Value → Shared → Prop} (a : At C ρ μ ((v, dTup ds) :: τ) s)
    (h : ∀ vs s', vs.length = ds.length → At C ρ μ (vs.zip (ds.map .dat) ++ τ) s' → Q vs s') : wpAny (MC C) C.A (unpackItems v ds.length none) Q E s := by
  obtain ⟨l, vs, rfl, h1, h2⟩ := holds_tup a.top
  have hl := h2.length
  rw [List.length_map] at hl
  have hl' : ds.length = vs.toArray.size := by simp [hl]
  rw [hl']
  refine wpAny_unpackItems_tuple O.hh h1 fun h' ext => ?_
  have a2 := a.ext (Sub.extBut ext) s.toks
  refine h _ _ (by simpa using hl) (At.pushAll [_] _ a2 fun g sg tm => ?_)
  refine items_push ?_
  simpa using titems_of sg (tm _ (.head _)) (isTup_mono (Sub.extBut ext) h1)

/-- names in their order -/
noncomputable def bindAll : List (Str × PyData) → Vs → Vs
  | [], ρ => ρ
  | (x, d) :: r, ρ => bindAll r ((x, .dat d) :: ρ)
theorem assign_order (O : Ok C) {E : Value → Shared → Prop} : ∀ (xs : List (Str × Pos)) (ds : List PyData) (vs : List Value) (ρ : Vs) (τ : Ts) (s : Shared) (Q : Unit → Shared → Prop), xs.length = ds.length → vs.length = ds.length → (∀ p ∈ xs, C.env.kindOf p.1 = some .local) →
    At C ρ μ (vs.zip (ds.map .dat) ++ τ) s → (∀ s', At C (bindAll ((xs.map (·.1)).zip ds) ρ) μ τ s' → Q () s') →
    wpAny (MC C) C.A (assignInOrder (xs.map fun p => assign (.Name p.1 p.2) C.env) vs) Q E s
  | [], [], [], ρ, τ, s, Q, _, _, _, a, h => wpAny_pure (h s a)
  | [], _ :: _, _, _, _, _, _, h, _, _, _, _ => by simp at h
  | _ :: _, [], _, _, _, _, _, h, _, _, _, _ => by simp at h
  | _, [], _ :: _, _, _, _, _, _, h, _, _, _ => by simp at h
  | _, _ :: _, [], _, _, _, _, _, h, _, _, _ => by simp at h
  | p :: xs, d :: ds, v :: vs, ρ, τ, s, Q, h1, h2, hk, a, h => by
    show wpAny _ _ (holding vs (assign (.Name p.1 p.2) C.env v) >>= fun _ => assignInOrder _ vs) _ _ _
    refine wpAny_bind (wpAny_holding (assign_name (τ := vs.zip (ds.map .dat) ++ τ) O (hk p (.head _)) a fun s1 a1 => ?_))
    exact assign_order O xs ds vs _ τ s1 Q (by simpa using h1) (by simpa using h2) (fun q hq => hk q (.tail _ hq)) a1 h

/-- the targets of a tuple of names -/
noncomputable abbrev nameEs (xs : List (Str × Pos)) : List Expr := xs.map fun p => .Name p.1 p.2
theorem assignEach_names (xs : List (Str × Pos)) (env : Env) : assignEach (nameEs xs) env = xs.map fun p => (false, assign (.Name p.1 p.2) env) := by
  induction xs with
  | nil => rfl
  | cons p xs ih => show assignEach (.Name p.1 p.2 :: nameEs xs) env = _; rw [assignEach]; · rw [ih]; rfl
                    · intro t pos e; cases e
theorem assign_tup (O : Ok C) {ds : List PyData} {v : Value} {τ : Ts} {s : Shared} {Q : Unit → Shared → Prop} {E : Value → Shared → Prop} {k : Nat} (xs : List (Str × Pos)) (hl : xs.length = ds.length) (hk : ∀ p ∈ xs, C.env.kindOf p.1 = some .local)
    (a : At C ρ μ ((v, dTup ds) :: τ) s) (h : ∀ s', At C (bindAll ((xs.map (·.1)).zip ds) ρ) μ τ s' → Q () s') : wpAny (MC C) C.A (assign (.Tuple (nameEs xs) k xp) C.env v) Q E s := by
  show wpAny _ _ (standAt xp >>= fun _ => unpack v (assignEach (nameEs xs) C.env)) _ _ _
  refine wpAny_bind (wpAny_standAt ?_)
  unfold unpack
  rw [assignEach_names]
  have e1 : (xs.map fun p => (false, assign (.Name p.1 p.2) C.env)).length = ds.length := by simp [hl]
  have e2 : (xs.map fun p => (false, assign (.Name p.1 p.2) C.env)).findIdx? (·.1) = none := by
    rw [List.findIdx?_eq_none_iff]; simp
  rw [e1, e2]
  refine wpAny_bind (wpAny_holding (unpack_tup O a fun vs s1 hv a1 => ?_))
  rw [List.map_map]
  exact assign_order O xs ds vs ρ τ s1 Q hl hv hk a1 h

theorem Tx.assignT (O : Ok C) {ds : List PyData} {k : Nat} (xs : List (Str × Pos)) (p : PE C ρ μ e (dTup ds)) (hl : xs.length = ds.length) (hk : ∀ p ∈ xs, C.env.kindOf p.1 = some .local) (h : P .next (bindAll ((xs.map (·.1)).zip ds) ρ) μ [])
    (hs : swapsWithSole [.Tuple (nameEs xs) k xp] e pos.line C.env = pure false := by rfl) (hw : swappedStores [.Tuple (nameEs xs) k xp] e C.env = pure none := by rfl) : Tx C ρ μ (.Assign [.Tuple (nameEs xs) k xp] e pos) P := fun τ s E a =>
  Assign_Tuple (hs := hs) (hw := hw) (p τ s _ E a fun v s1 a1 => assign_tup O xs hl hk a1 fun s2 a2 => ⟨_, _, [], a2, h⟩)
/-- where CPython exchanges the stores -/
theorem Tx.assign2 (O : Ok C) {d1 d2 : PyData} {x1 x2 : Str} {p1 p2 : Pos} {k : Nat} (p : PE C ρ μ e (dTup [d1, d2])) (hk1 : C.env.kindOf x1 = some .local) (hk2 : C.env.kindOf x2 = some .local) (h : P .next ((x1, .dat d1) :: (x2, .dat d2) :: ρ) μ [])
    (hs : swapsWithSole [.Tuple [.Name x1 p1, .Name x2 p2] k xp] e pos.line C.env = pure false := by rfl) (hw : swappedStores [.Tuple [.Name x1 p1, .Name x2 p2] k xp] e C.env = pure (some [x1, x2]) := by rfl) : Tx C ρ μ (.Assign [.Tuple [.Name x1 p1, .Name x2 p2] k xp] e pos) P := fun τ s E a => by
  rw [exec_Assign_arm, hs]
  refine wpAny_bind (wpAny_standAt (wpAny_bind (wpAny_pure ?_)))
  simp only [Bool.false_eq_true, if_false]
  refine wpAny_bind (p τ s _ E a fun v s1 a1 => ?_)
  rw [hw]
  refine wpAny_bind (wpAny_pure ?_)
  unfold assignStores
  refine wpAny_bind (wpAny_rule (wpAny_bind ?_))
  refine unpack_tup (ds := [d1, d2]) O a1 fun vs s2 hv a2 => ?_
  obtain ⟨u1, u2, rfl⟩ := two_of hv
  show wpAny _ _ (assignInOrder [bindName C.env x2, bindName C.env x1] [u2, u1] >>= fun _ => (pure Flow.next : Sem Flow)) _ _ _
  refine wpAny_bind ?_
  show wpAny _ _ (holding [u1] (bindName C.env x2 u2) >>= fun _ => assignInOrder [bindName C.env x1] [u1]) _ _ _
  refine wpAny_bind (wpAny_holding (wpAny_bindName ?_))
  have a3 : At C ρ μ ((u2, .dat d2) :: (u1, .dat d1) :: τ) s2 := a2.tmps fun p hp => by simp at hp ⊢; rcases hp with h | h | h <;> simp [h]
  refine a3.storeNs hk2 O.fn fun s4 a4 => ?_
  show wpAny _ _ (holding [] (bindName C.env x1 u1) >>= fun _ => assignInOrder [] []) _ _ _
  exact wpAny_bind (wpAny_holding (wpAny_bindName (a4.storeNs hk1 O.fn fun s5 a5 => wpAny_pure (wpAny_pure ⟨_, _, [], a5, h⟩))))

/-! ## lists that turn -/
theorem typeIs_tag {s : Shared} {l : Addr} {vs : List Value} {n : Nat} (h : s.heap.get? l = some (tagList vs n)) : s.TypeIs (.ref l) "list" ∧ ∀ a, Value.ref l = .ref a → ∃ ob, s.heap.get? a = some ob ∧ ob.dict = none :=
  ⟨⟨_, h, rfl⟩, fun a e => by cases e; exact ⟨_, h, rfl⟩⟩
theorem Tx.append {l : Addr} {pl : Sem Bool} {epos : Pos} (O : Ok C) (hx : ρ.lookup x = some (.val (.ref l))) (hk : C.env.kindOf x = some .local) (hd : (x == ("__debug__" : Str)) = false) (p : PE C ρ ((l, .list rs) :: μ) e r)
    (he : MethShape (.Name x xp) "append" apos [e] pos C.env pl) (hn : rs.length ≤ 100000) (h : P .next ρ ((l, .list (rs ++ [r])) :: μ) [])
    (hs : backTo pos (starEach [e] C.env) = trees [e] C.env := by rfl) (hi : interactive C.env = false := by rfl) (hsw : swapsWith (.Call (.Attribute (.Name x xp) "append" apos) [e] [] pos) none epos.line C.env = pure false := by rfl) :
    Tx C ρ ((l, .list rs) :: μ) (.Expr (.Call (.Attribute (.Name x xp) "append" apos) [e] [] pos) epos) P := fun τ s E a =>
  wpAny_Expr (hi := hi) (hs := hsw) (callM (id := "list.append") (T := "list") (r0 := .val (.ref l)) he (PE.name O hx hk hd) (fun τ s v a => by
      have : v = .ref l := a.top
      subst this
      obtain ⟨g, o, _, _, ho, vs, n, rfl, _⟩ := a.mem (.head _)
      exact typeIs_tag ho) PySem.F.plainAttrs_list PySem.F.slot_list_append PySem.F.type_list_append (.cons p .nil) hs a fun v vs s1 hl a1 => by
    obtain ⟨u, rfl⟩ : ∃ u, vs = [u] := List.length_eq_one_iff.mp hl
    have : v = .ref l := a1.top2
    subst this
    obtain ⟨g, o, sg, tm, ho, ws, n, rfl, hw⟩ := a1.mem (.head _)
    have hwl := hw.length
    refine wpAny_list_append_plain (items := ws.toArray) (hsz := by rw [List.size_toArray, sizeLine_eq]; (first | decide | assumption | omega)) ⟨n, ho⟩ fun h' hp hsb => ?_
    refine ⟨_, _, [], At.tmps (a1.update (k' := .list (rs ++ [r])) hsb (fun g o tm ho2 hk2 => ?_) s1.toks) (fun p hp => by simp [List.zip] ; exact .inr (.inr hp)), h⟩
    obtain ⟨n', hp⟩ := hp
    obtain ⟨ws', n2, rfl, hw'⟩ := hk2
    rw [ho] at ho2
    have e : ws = ws' := by
      have e2 := Option.some.inj ho2
      unfold tagList at e2
      injection e2 with _ _ e3 _
      injection e3 with e4 _
      simpa using e4
    subst e
    exact ⟨_, hp, ws ++ [u], n', by simp [tagList], hw'.append ⟨tm (u, r) (.head _), trivial⟩⟩)
end
end Mine
namespace Mine
open PySem PySem.W PySem.Calls PySem.Spec PyProof.Rows PySem.SeqAt

/-! ## what an expression leaves -/
noncomputable def EV (C : Cx) (ρ : Vs) (μ : Ms) (e : Expr) (μ' : Ms) (r : Rk) : Prop :=
  ∀ τ s (Q E : Value → Shared → Prop), At C ρ μ τ s → (∀ v s', At C ρ μ' ((v, r) :: τ) s' → Q v s') → wpAny (MC C) C.A (eval e C.env) Q E s
theorem PE.ev {C : Cx} {ρ : Vs} {μ : Ms} {e : Expr} {r : Rk} (p : PE C ρ μ e r) : EV C ρ μ e μ r := p

section
variable {C : Cx} {ρ ρ' : Vs} {μ μ' : Ms} {τ τ' : Ts} {s : Shared} {e e1 e2 e3 : Expr} {r q : Rk} {pos np apos xp : Pos} {x y : Str} {es : List Expr} {rs : List Rk} {st : Stmt} {rest body orelse : List Stmt} {P : Post}

theorem At.forget {a : Addr} {k : Mk} {h' : Heap} (x : At C ρ ((a, k) :: μ) τ s) (hk : ∀ b o, b ≠ a → s.heap.get? b = some o → h'.get? b = some o) (t : Nat) : At C ρ μ τ { s with heap := h', toks := t } := by
  obtain ⟨hs, g, m, S, V, T⟩ := x
  obtain ⟨_, hL, hg, h0⟩ := S.mu (a, k) (.head _)
  have nd := S.nd
  rw [List.map_cons, List.nodup_cons] at nd
  refine ⟨hs.next _ _, g, m, ⟨S.ns.at fun o e => hk _ o (Ne.symm hL) e, fun b o e => hk b o (by rintro rfl; rw [hg] at e; cases e) (S.keep b o e), fun b o e => hk b o (by rintro rfl; rw [h0] at e; cases e) (S.old b o e), S.sub0, S.back, S.gL, S.oL, fun p hp => ?_, nd.2⟩, V, T⟩
  obtain ⟨⟨o, h1, h2⟩, r⟩ := S.mu p (.tail _ hp)
  exact ⟨⟨o, hk _ _ (fun e => nd.1 (List.mem_map.mpr ⟨p, hp, e⟩)) h1, h2⟩, r⟩

/-! ## from frame to frame -/
noncomputable def NsObj (o : Obj) (m : Str → Option Value) : Prop := ∃ es ep, o.data = .dict es ep ∧ StrKeys es ∧ ∀ name, nsFind es name = m name
theorem ns_obj {h : Heap} {a : Addr} {m : Str → Option Value} : h.Ns a m ↔ ∃ o, h.get? a = some o ∧ NsObj o m :=
  ⟨fun ⟨o, es, ep, h1, h2, h3, h4⟩ => ⟨o, h1, es, ep, h2, h3, h4⟩, fun ⟨o, h1, es, ep, h2, h3, h4⟩ => ⟨o, es, ep, h1, h2, h3, h4⟩⟩
noncomputable def Held (ρ : Vs) (m : Str → Option Value) (τ : Ts) : Prop := ∀ x r, ρ.lookup x = some r → ∃ v, m x = some v ∧ (v, r) ∈ τ
theorem lookup_mem {ρ : Vs} {x : Str} {r : Rk} (h : ρ.lookup x = some r) : (x, r) ∈ ρ := by
  induction ρ with
  | nil => cases h
  | cons p t ih =>
    obtain ⟨z, q⟩ := p
    rw [List.lookup_cons] at h
    split at h
    · rename_i hb
      cases h; rw [beq_iff_eq.mp hb]; exact .head _
    · exact .tail _ (ih h)
theorem held_of {g : Heap} {m : Str → Option Value} (V : VarsOk g m ρ) : ∃ τ, Held ρ m τ ∧ TmpOk g τ := by
  classical
  refine ⟨ρ.filterMap fun p => if ρ.lookup p.1 = some p.2 then (m p.1).map fun v => (v, p.2) else none, fun x r h => ?_, fun p hp => ?_⟩
  · obtain ⟨v, hv, hr⟩ := V x r h
    exact ⟨v, hv, List.mem_filterMap.mpr ⟨(x, r), lookup_mem h, by simp [h, hv]⟩⟩
  · obtain ⟨⟨x, r⟩, _, e⟩ := List.mem_filterMap.mp hp
    split at e
    · rename_i hl
      obtain ⟨v, hv, hr⟩ := V x r hl
      simp only [hv, Option.map_some, Option.some.injEq] at e
      subst e; exact hr
    · cases e

structure SameCx (C D : Cx) : Prop where
  lay : D.lay = C.lay
  A : D.A = C.A
  h₀ : D.h₀ = C.h₀
  g₀ : D.g₀ = C.g₀
  s₀ : D.s₀ = C.s₀
theorem At.swap {D : Cx} {ρ2 : Vs} {τ2 : Ts} {o2 : Obj} {m2 : Str → Option Value} (hc : SameCx C D) (a : At C ρ ((D.env.locals, .raw o2) :: μ) (τ2 ++ τ) s) (n2 : NsObj o2 m2) (hd : Held ρ2 m2 τ2) :
    ∃ o1 m1 τ1, NsObj o1 m1 ∧ Held ρ m1 τ1 ∧ At D ρ2 ((C.env.locals, .raw o1) :: μ) (τ1 ++ (τ2 ++ τ)) s := by
  obtain ⟨hs, g, m, S, V, T⟩ := a
  obtain ⟨o1, h1, n1⟩ := ns_obj.mp S.ns
  obtain ⟨τ1, H1, T1⟩ := held_of V
  obtain ⟨⟨o, ho, e⟩, hL, hg, h0⟩ := S.mu (D.env.locals, .raw o2) (.head _)
  have e' : o = o2 := e
  subst e'
  have nd := S.nd
  rw [List.map_cons, List.nodup_cons] at nd
  have hs' : Same D s := by obtain ⟨h, t, rfl⟩ := hs; exact ⟨h, t, by rw [hc.s₀]⟩
  refine ⟨o1, m, τ1, n1, H1, hs', g, m2, ⟨ns_obj.mpr ⟨o, ho, n2⟩, S.keep, by rw [hc.h₀]; exact S.old, by rw [hc.g₀]; exact S.sub0, by rw [hc.g₀, hc.h₀]; exact S.back, hg, by rw [hc.h₀]; exact h0, fun p hp => ?_, ?_⟩, fun x r h => ?_, fun p hp => ?_⟩
  · rcases List.mem_cons.mp hp with rfl | hp
    · exact ⟨⟨o1, h1, rfl⟩, Ne.symm hL, S.gL, by rw [hc.h₀]; exact S.oL⟩
    · obtain ⟨q1, q2, q3, q4⟩ := S.mu p (.tail _ hp)
      exact ⟨q1, fun e => nd.1 (List.mem_map.mpr ⟨p, hp, e⟩), q3, by rw [hc.h₀]; exact q4⟩
  · rw [List.map_cons, List.nodup_cons]
    refine ⟨fun hm => ?_, nd.2⟩
    obtain ⟨p, hp, e⟩ := List.mem_map.mp hm
    exact (S.mu p (.tail _ hp)).2.1 e
  · obtain ⟨v, hv, hm⟩ := hd x r h
    exact ⟨v, hv, T _ (List.mem_append_left _ hm)⟩
  · rcases List.mem_append.mp hp with hp | hp
    · exact T1 p hp
    · exact T p hp

theorem PE.cell {c : Addr} (O : Ok C) (hk : C.env.kindOf x = some .cell) (hc : C.env.cells.lookup x = some c) (hm : (c, .cell r) ∈ μ) (hd : (x == ("__debug__" : Str)) = false) : PE C ρ μ (.Name x np) r := fun τ s Q E a h => by
  obtain ⟨hs, g, m, S, V, T⟩ := a
  obtain ⟨⟨o, h1, v, h2, h3⟩, _⟩ := S.mu _ hm
  refine wpAny_Name ?_ hd
  unfold loadName
  simp only [Env.blockKind, O.fn, hk, ScopeKind.isAnnotationScope, Bool.false_and, Bool.false_eq_true, if_false]
  unfold cellOf
  rw [hc]
  refine wpAny_bind (wpAny_pure ?_)
  unfold cellGet
  refine wpAny_bind (wpAny_bind (wpAny_load h1 ?_))
  rw [h2]
  exact wpAny_pure (wpAny_pure (h v s ⟨hs, g, m, S, V, T.cons h3⟩))

/-! ## what a loop draws from -/
structure Src (C : Cx) (tgt : Expr) (I : Addr) (own : Nat → Ms) (τs : Ts) (n : Nat) (D : Nat → Rk) : Prop where
  item : ∀ (i : Nat) (ρ : Vs) (μ : Ms) (τ : Ts) (s : Shared) (Q : Value → Shared → Prop) (E : Value → Shared → Prop), i < n → At C ρ (μ ++ own i) (τs ++ τ) s →
    (∀ v s', At C ρ (μ ++ own (i + 1)) ((v, D i) :: (τs ++ τ)) s' → Q v s') →
    wpAny (MC C) C.A (pyNext (.ref I)) (fun r s1 => ∃ v, r = some v ∧ wpAny (MC C) C.A (letOwnedTupleGo tgt (.ref I) v) (fun _ s' => Q v s') E s1) E s
  done : ∀ (ρ : Vs) (μ : Ms) (τ : Ts) (s : Shared) (Q : Option Value → Shared → Prop) (E : Value → Shared → Prop), At C ρ (μ ++ own n) (τs ++ τ) s → (∀ s', At C ρ μ τ s' → Q none s') → wpAny (MC C) C.A (pyNext (.ref I)) Q E s
  self : ∀ (i : Nat) (ρ : Vs) (μ : Ms) (τ : Ts) (s : Shared) (Q : Value → Shared → Prop) (E : Value → Shared → Prop), At C ρ (μ ++ own i) (τs ++ τ) s → Q (.ref I) s → wpAny (MC C) C.A (pyIter (.ref I)) Q E s
noncomputable def Srcs (C : Cx) (ρ : Vs) (μ : Ms) (e tgt : Expr) (μ' : Ms) (n : Nat) (D : Nat → Rk) : Prop :=
  ∀ τ s (Q : Value → Shared → Prop) (E : Value → Shared → Prop), At C ρ μ τ s →
    (∀ I own τs s', (∀ C', Ok C' → C'.lay = C.lay → C'.A = C.A → Src C' tgt I own τs n D) → At C ρ (μ' ++ own 0) (τs ++ τ) s' → Q (.ref I) s') →
    wpAny (MC C) C.A (eval e C.env) (fun x s1 => wpAny (MC C) C.A (pyIter x) Q E s1) E s
/-- what a target binds -/
noncomputable def Asg (C : Cx) (ρ : Vs) (tgt : Expr) (r : Rk) (ρ' : Vs) : Prop :=
  ∀ μ τ v s (Q : Unit → Shared → Prop) (E : Value → Shared → Prop), At C ρ μ ((v, r) :: τ) s → (∀ s', At C ρ' μ τ s' → Q () s') → wpAny (MC C) C.A (assign tgt C.env v) Q E s
theorem Asg.name (O : Ok C) (hk : C.env.kindOf x = some .local) : Asg C ρ (.Name x xp) r ((x, r) :: ρ) := fun μ τ v s Q E a h => assign_name O hk a h
theorem Asg.tup (O : Ok C) {ds : List PyData} {k : Nat} (xs : List (Str × Pos)) (hl : xs.length = ds.length) (hk : ∀ p ∈ xs, C.env.kindOf p.1 = some .local) : Asg C ρ (.Tuple (nameEs xs) k xp) (dTup ds) (bindAll ((xs.map (·.1)).zip ds) ρ) :=
  fun μ τ v s Q E a h => assign_tup O xs hl hk a h

theorem Tx.for_ {tgt iter : Expr} {n : Nat} {D : Nat → Rk} (O : Ok C) (ρf ρa : Nat → Vs) (μf : Nat → Ms) (sr : Srcs C ρ μ iter tgt (μf 0) n D) (h0 : ∀ p ∈ ρf 0, ρ.lookup p.1 = some p.2)
    (asg : ∀ i, i < n → Asg C (ρf i) tgt (D i) (ρa i))
    (turn : ∀ i, i < n → ∀ ν : Ms, Tr C (ρa i) (μf i ++ ν) body (fun f ρ' μ' τ' => f = .next ∧ (∀ p ∈ ρf (i + 1), ρ'.lookup p.1 = some p.2) ∧ μ' = μf (i + 1) ++ ν))
    (fin : P .next (ρf n) (μf n) []) (hs : ∀ v, foldedSetIterable iter C.env v = pure v := by intro _; rfl) : Tx C ρ μ (.For tgt iter body [] pos) P := fun τ s E a => by
  refine wpAny_For (hs := hs) (sr τ s _ E a fun I own τs s1 src a1 => ?_)
  have src := src C O rfl rfl
  refine codeAny_forLoop_any (fun k s' => ∃ i, i ≤ n ∧ k = n - i ∧ At C (ρf i) (μf i ++ own i) (τs ++ τ) s') ?_ n ⟨0, Nat.zero_le _, rfl, a1.vars h0⟩
  rintro k s' ⟨i, hi, rfl, a'⟩
  by_cases hlt : i < n
  · refine wpAny_mono (src.item i _ _ τ s' (fun v s2 => At C (ρf i) (μf i ++ own (i + 1)) ((v, D i) :: (τs ++ τ)) s2) (fun _ _ => False) hlt a' fun v s2 a2 => a2) (fun r s2 h2 => ?_) fun _ _ f => f.elim
    obtain ⟨v, rfl, h2⟩ := h2
    refine wpAny_mono h2 (fun _ s3 a3 => ?_) fun _ _ f => f.elim
    refine wpAny_mono (asg i hlt _ (τs ++ τ) v s3 (fun _ s4 => At C (ρa i) (μf i ++ own (i + 1)) (τs ++ τ) s4) (fun _ _ => False) a3 fun s4 a4 => a4) (fun _ s4 a4 => ?_) fun _ _ f => f.elim
    refine wpAny_mono (turn i hlt (own (i + 1)) (τs ++ τ) s4 (fun _ _ => False) a4) (fun f s5 h5 => ?_) fun _ _ f => f.elim
    obtain ⟨ρ', μ', τ', a5, rfl, hv, rfl⟩ := h5
    exact ⟨n - (i + 1), by (first | decide | assumption | omega), i + 1, hlt, rfl, (a5.vars hv).tmps fun p hp => List.mem_append_right _ hp⟩
  · have : i = n := by (first | decide | assumption | omega)
    subst this
    refine src.done _ _ τ s' _ _ a' fun s2 a2 => wpAny_execs_nil ⟨_, _, [], a2, fin⟩

theorem Tx.while_ {α : Type} (O : Ok C) (Inv : α → Prop) (S : α → Vs) (M : α → Ms) (ms : α → Nat) (b : α → Bool) (a₀ : α) (hi : Inv a₀) (h0 : ∀ p ∈ S a₀, ρ.lookup p.1 = some p.2) (hμ : M a₀ = μ)
    (test : ∀ a, Inv a → PT C (S a) (M a) e (b a))
    (turn : ∀ a, Inv a → b a = true → Tr C (S a) (M a) body (fun f ρ' μ' τ' => f = .next ∧ ∃ a', Inv a' ∧ ms a' < ms a ∧ (∀ p ∈ S a', ρ'.lookup p.1 = some p.2) ∧ μ' = M a'))
    (fin : ∀ a, Inv a → b a = false → P .next (S a) (M a) []) : Tx C ρ μ (.While e body [] pos) P := fun τ s E a => by
  subst hμ
  refine wpAny_While (codeAny_whileLoop (fun k s' => ∃ a, Inv a ∧ k = ms a ∧ At C (S a) (M a) τ s') ?_ (ms a₀) ⟨a₀, hi, rfl, a.vars h0⟩)
  rintro k s' ⟨a, ha, rfl, a'⟩
  refine test a ha τ s' _ _ a' fun s2 a2 => ?_
  cases hb : b a with
  | true =>
    simp only [if_true]
    refine wpAny_mono (turn a ha hb τ s2 (fun _ _ => False) a2) (fun f s3 h3 => ?_) fun _ _ f => f.elim
    obtain ⟨ρ', μ', τ', a3, rfl, a', ha', hlt, hv, rfl⟩ := h3
    exact ⟨ms a', hlt, a', ha', rfl, (a3.vars hv).tmps fun p hp => List.mem_append_right _ hp⟩
  | false =>
    simp only [Bool.false_eq_true, if_false]
    exact wpAny_execs_nil ⟨_, _, [], a2, fin a ha hb⟩
end
end Mine
namespace Mine
open PySem PySem.W PySem.Calls PySem.Spec PyProof.Rows PySem.SeqAt

/-! ## comprehensions -/
noncomputable abbrev Cx.comp (C : Cx) (scope : Scope) (cl : List (Str × Addr)) (L : Addr) : Cx := { C with env := compEnvC scope cl L C.env }

section
variable {C : Cx} {ρ ρ' : Vs} {μ μ' : Ms} {τ τ' : Ts} {s : Shared} {e e1 e2 e3 elt iter tgt : Expr} {r q : Rk} {pos np apos xp : Pos} {x y : Str} {scope : Scope} {cl : List (Str × Addr)} {P : Post}

theorem Ok.comp (O : Ok C) (hk : scope.kind = .function) (L : Addr) : Ok (C.comp scope cl L) := ⟨O.top, O.gl, O.bl, O.hh, O.un, O.dep, hk⟩

/-- a list that is grown by one -/
theorem list_push {l : Addr} {rs : List Rk} {v : Value} {Q : Value → Shared → Prop} {E : Value → Shared → Prop} (a : At C ρ ((l, .list rs) :: μ) ((v, r) :: τ) s) (hn : rs.length ≤ 100000)
    (h : ∀ s', At C ρ ((l, .list (rs ++ [r])) :: μ) τ s' → Q .none s') : wpAny (MC C) C.A (call (.builtin "list.append") [.ref l, v]) Q E s := by
  obtain ⟨g, o, sg, tm, ho, ws, n, rfl, hw⟩ := a.mem (.head _)
  have hwl := hw.length
  refine wpAny_list_append_plain (items := ws.toArray) (hsz := by rw [List.size_toArray, sizeLine_eq]; (first | decide | assumption | omega)) ⟨n, ho⟩ fun h' hp hsb => h _ ?_
  refine (a.update (k' := .list (rs ++ [r])) hsb (fun g o tm ho2 hk2 => ?_) s.toks).drop
  obtain ⟨n', hp⟩ := hp
  obtain ⟨ws', n2, rfl, hw'⟩ := hk2
  rw [ho] at ho2
  have e : ws = ws' := by
    have e2 := Option.some.inj ho2
    unfold tagList at e2
    injection e2 with _ _ e3 _
    injection e3 with e4 _
    simpa using e4
  subst e
  exact ⟨_, hp, ws ++ [v], n', by simp [tagList], hw'.append ⟨tm (v, r) (.head _), trivial⟩⟩

/-- the inner loop of a comprehension with one clause -/
theorem comp_loop (O : Ok C) {I D : Addr} {own : Nat → Ms} {τs : Ts} {n : Nat} {Dr : Nat → Rk} (src : Src C tgt I own τs n Dr) (ρf : Nat → Vs) (ρa : Nat → Vs) (μf : Nat → Ms) (ds : List PyData) (fs : Nat → PyData)
    (asg : ∀ i, i < n → Asg C (ρf i) tgt (Dr i) (ρa i)) (hρ : ∀ i, i < n → ∀ p ∈ ρf (i + 1), (ρa i).lookup p.1 = some p.2)
    (turn : ∀ i, i < n → ∀ ν, EV C (ρa i) (μf i ++ ν) elt (μf (i + 1) ++ ν) (.dat (fs i))) (hn : ds.length + n ≤ 100000)
    {R : Result → Shared → Prop} (a : At C (ρf 0) ((D, .list (ds.map .dat)) :: μf 0 ++ own 0) (τs ++ τ) s)
    (h : ∀ s', At C (ρf n) ((D, .list ((ds ++ (List.range n).map fs).map .dat)) :: μf n) τ s' → R (.ok .next) s') :
    codeAny (MC C) C.A (.compLoop (.ListComp elt [⟨tgt, iter, [], 0⟩] scope pos) 0 (.ref I) (.ref D) C.env) R s := by
  refine kcp_loop (fun k s' => ∃ i, i ≤ n ∧ k = n - i ∧ At C (ρf i) ((D, .list ((ds ++ (List.range i).map fs).map .dat)) :: μf i ++ own i) (τs ++ τ) s') ?_ n ⟨0, Nat.zero_le _, rfl, by simpa using a⟩
  rintro k s' ⟨i, hi, rfl, a'⟩
  by_cases hlt : i < n
  · refine wpAny_mono (src.item i _ _ τ s' (fun v s2 => At C (ρf i) ((D, .list ((ds ++ (List.range i).map fs).map .dat)) :: μf i ++ own (i + 1)) ((v, Dr i) :: (τs ++ τ)) s2) (fun _ _ => False) hlt a' fun v s2 a2 => a2) (fun r s2 h2 => ?_) fun _ _ f => f.elim
    obtain ⟨v, rfl, h2⟩ := h2
    refine wpAny_mono h2 (fun _ s3 a3 => ?_) fun _ _ f => f.elim
    refine wpAny_mono (asg i hlt _ (τs ++ τ) v s3 (fun _ s4 => At C (ρa i) ((D, .list ((ds ++ (List.range i).map fs).map .dat)) :: μf i ++ own (i + 1)) (τs ++ τ) s4) (fun _ _ => False) a3 fun s4 a4 => a4) (fun _ s4 a4 => ?_) fun _ _ f => f.elim
    have a5 := a4.perm (μ' := μf i ++ ((D, .list ((ds ++ (List.range i).map fs).map .dat)) :: own (i + 1))) (by simpa using List.perm_middle)
    refine wpAny_mono (turn i hlt _ (τs ++ τ) s4 (fun v s5 => At C (ρa i) (μf (i + 1) ++ ((D, .list ((ds ++ (List.range i).map fs).map .dat)) :: own (i + 1))) ((v, .dat (fs i)) :: (τs ++ τ)) s5) (fun _ _ => False) a5 fun v s5 a6 => a6) (fun v s5 a6 => ?_) fun _ _ f => f.elim
    have a7 := a6.perm (μ' := (D, .list ((ds ++ (List.range i).map fs).map .dat)) :: (μf (i + 1) ++ own (i + 1))) (by simpa using List.perm_middle.symm)
    refine wpAny_mono (list_push (Q := fun _ s6 => At C (ρa i) ((D, .list ((ds ++ (List.range i).map fs).map .dat ++ [.dat (fs i)])) :: (μf (i + 1) ++ own (i + 1))) (τs ++ τ) s6) (E := fun _ _ => False) a7 (by simp; (first | decide | assumption | omega)) fun s6 a8 => a8) (fun _ s6 a8 => ?_) fun _ _ f => f.elim
    refine ⟨n - (i + 1), by (first | decide | assumption | omega), i + 1, hlt, rfl, (a8.vars (hρ i hlt)).perm ?_⟩
    rw [List.range_succ]
    simp
  · have : i = n := by (first | decide | assumption | omega)
    subst this
    exact src.done _ _ τ s' _ _ a' fun s2 a2 => h s2 a2

/-- a comprehension's frame is laid -/
theorem comp_enter (O : Ok C) (hk : scope.kind = .function) (hcell : ∀ x ∈ scope.names, x.2 ≠ .cell) (a : At C ρ μ τ s) {Q : Env → Shared → Prop} {E : Value → Shared → Prop}
    (h : ∀ L s' o1 m1 τ1, NsObj o1 m1 → Held ρ m1 τ1 → At (C.comp scope cl L) [] ((C.env.locals, .raw o1) :: μ) (τ1 ++ τ) s' → ∀ cenv : Env, { cenv with scope := relabel scope C.env } = compEnvC scope cl L C.env → cenv.locals = L → Q cenv s') :
    wpAny (MC C) C.A (newFunctionEnv scope C.env.globals cl [] C.env.qual none .none (some C.env)) Q E s := by
  refine wpAny_newFunctionEnv hcell (by intro x hx; cases hx) (fun h' hn hsb => ?_) hk
  obtain ⟨o2, ho2, n2⟩ := ns_obj.mp hn
  have kp : Kp C s.heap h' := Kp.of_sub fun b o e => by
    have := Heap.get?_push_of_some { cls := .type (if (some C.env).isSome then "dict" else "frame"), data := .dict #[] } e
    rw [hsb.2 b (Nat.ne_of_lt (Heap.lt_size e))]; exact this
  have a1 := a.kpNewM (q := .raw o2) kp (s.toks + 0) (Heap.get?_none_of_le (Nat.le_refl _)) ho2 (fun _ _ _ => rfl)
  obtain ⟨o1, m1, τ1, q1, q2, q3⟩ := At.swap (C := C) (D := C.comp scope cl s.heap.objs.size) (ρ2 := []) (τ2 := []) (τ := τ) ⟨rfl, rfl, rfl, rfl, rfl⟩ a1 n2 (fun x r h => by cases h)
  exact h _ _ o1 m1 τ1 q1 q2 q3 _ rfl rfl
/-- and left -/
theorem comp_leave {L : Addr} {o1 : Obj} {m1 : Str → Option Value} {τ1 : Ts} (n1 : NsObj o1 m1) (hd : Held ρ m1 τ1) (a : At (C.comp scope cl L) ρ' ((C.env.locals, .raw o1) :: μ) (τ1 ++ τ) s) :
    ∃ o m, NsObj o m ∧ At C ρ ((L, .raw o) :: μ) τ s := by
  obtain ⟨o2, m2, τ2, q1, q2, q3⟩ := At.swap (C := C.comp scope cl L) (D := C) ⟨rfl, rfl, rfl, rfl, rfl⟩ a n1 hd
  exact ⟨o2, m2, q1, q3.tmps fun p hp => List.mem_append_right _ (List.mem_append_right _ hp)⟩

theorem EV.comp {n : Nat} {Dr : Nat → Rk} {μ0 : Ms} (O : Ok C) (hk : scope.kind = .function) (hcell : ∀ x ∈ scope.names, x.2 ≠ .cell) (hnames : ∀ x ∈ scope.names, x.2 = .local → scope.names.lookup x.1 = some .local)
    (hclos : closureFor scope C.env = pure cl) (μf : Nat → Ms) (sr : Srcs C ρ μ iter tgt (μf 0) n Dr) (ρf : Nat → Vs) (ρa : Nat → Vs) (fs : Nat → PyData) (hf0 : ρf 0 = [])
    (asg : ∀ L i, i < n → Asg (C.comp scope cl L) (ρf i) tgt (Dr i) (ρa i)) (hρ : ∀ i, i < n → ∀ p ∈ ρf (i + 1), (ρa i).lookup p.1 = some p.2)
    (turn : ∀ L i, i < n → ∀ ν, EV (C.comp scope cl L) (ρa i) (μf i ++ ν) elt (μf (i + 1) ++ ν) (.dat (fs i))) (hn : n ≤ 1000)
    (hs : ∀ x, foldedSetIterable iter C.env x = pure x := by intro _; rfl) :
    EV C ρ μ (.ListComp elt [⟨tgt, iter, [], 0⟩] scope pos) (μf n) (dList ((List.range n).map fs)) := fun τ s Q E a h => by
  rw [eval_ListComp]
  refine wpAny_comprehension_free (use := none) rfl hs hclos hk hnames (sr τ s _ E a fun I own τs s1 src a1 => ?_)
  refine wpAny_newList ?_ (Nat.zero_le _)
  have a2 := a1.allocM (o := { cls := .type "list", data := .seq ([] : List Value).toArray }) (k := .list []) rfl (fun g _ _ => ⟨[], 0, rfl, trivial⟩)
  refine comp_enter (cl := cl) O hk hcell a2 fun L s2 o1 m1 τ1 n1 hd a3 cenv hce hcl => ?_
  rw [hce, hcl]
  have O2 := O.comp (cl := cl) hk L
  have src2 := src (C.comp scope cl L) O2 rfl rfl
  have key : ∀ s3, At (C.comp scope cl L) (ρf 0) ((s1.heap.objs.size, .list (([] : List PyData).map .dat)) :: (μf 0 ++ [(C.env.locals, .raw o1)]) ++ own 0) (τs ++ (τ1 ++ τ)) s3 →
      codeAny (MC C) C.A (.compLoop (.ListComp elt [⟨tgt, iter, [], 0⟩] scope pos) 0 (.ref I) (.ref s1.heap.objs.size) (compEnvC scope cl L C.env)) (compPost (MC C) C.A E none Q (.ref s1.heap.objs.size) L) s3 := fun s3 a4 => by
    refine comp_loop (C := C.comp scope cl L) (τ := τ1 ++ τ) O2 src2 ρf ρa (fun i => μf i ++ [(C.env.locals, .raw o1)]) [] fs (asg L) hρ (fun i hi ν => ?_) (by simp; (first | decide | assumption | omega)) a4 fun s4 a5 => ?_
    · have := turn L i hi ((C.env.locals, .raw o1) :: ν)
      simpa using this
    · have a6 := a5.perm (μ' := (C.env.locals, .raw o1) :: (s1.heap.objs.size, .list (((List.range n).map fs).map .dat)) :: μf n) (by
        simp only [List.nil_append]
        refine List.Perm.trans (List.Perm.swap _ _ _) (List.Perm.cons _ ?_)
        exact (List.perm_append_comm (l₁ := μf n) (l₂ := [(C.env.locals, .raw o1)])).symm.trans (by simp) |>.trans (List.Perm.refl _) )
      obtain ⟨o, m, nO, a7⟩ := comp_leave n1 hd a6
      refine ⟨m, ?_, fun h' hsb => ?_⟩
      · obtain ⟨g, o', _, _, ho, e⟩ := a7.mem (.head _)
        have e' : o' = o := e
        subst e'
        exact ns_obj.mpr ⟨_, ho, nO⟩
      · have a8 := a7.forget (fun b o hb e => (hsb.2 b hb).trans e) s4.toks
        exact h _ _ (a8.freeze fun g o hko hg => by
          obtain ⟨vs, n', rfl, hv⟩ := hko
          exact list_holds ⟨_, hg, rfl, n', rfl⟩ hv)
  have a4 : At (C.comp scope cl L) (ρf 0) ((s1.heap.objs.size, .list (([] : List PyData).map .dat)) :: (μf 0 ++ [(C.env.locals, .raw o1)]) ++ own 0) (τs ++ (τ1 ++ τ)) s2 := by
    rw [hf0]
    refine (a3.perm ?_).tmps fun p hp => ?_
    · simp only [List.map_nil, List.cons_append, List.append_assoc, List.nil_append]
      exact (List.Perm.cons _ List.perm_middle).trans (List.Perm.swap _ _ _)
    · simp only [List.mem_append] at hp ⊢
      rcases hp with h | h | h
      · exact .inr (.inl h)
      · exact .inl h
      · exact .inr (.inr h)
  refine codeAny_compStart_list (key _ a4) ?_
  exact src2.self 0 _ _ (τ1 ++ τ) s2 _ _ a4 (key _ a4)

theorem Tx.assignComp {spos yp : Pos} {n : Nat} {Dr : Nat → Rk} {μ0 : Ms} (O : Ok C) (hk : scope.kind = .function) (hcell : ∀ x ∈ scope.names, x.2 ≠ .cell) (hnames : ∀ x ∈ scope.names, x.2 = .local → scope.names.lookup x.1 = some .local)
    (hclos : closureFor scope C.env = pure cl) (μf : Nat → Ms) (sr : Srcs C ρ μ iter tgt (μf 0) n Dr) (ρf : Nat → Vs) (ρa : Nat → Vs) (fs : Nat → PyData) (hf0 : ρf 0 = [])
    (asg : ∀ L i, i < n → Asg (C.comp scope cl L) (ρf i) tgt (Dr i) (ρa i)) (hρ : ∀ i, i < n → ∀ p ∈ ρf (i + 1), (ρa i).lookup p.1 = some p.2)
    (turn : ∀ L i, i < n → ∀ ν, EV (C.comp scope cl L) (ρa i) (μf i ++ ν) elt (μf (i + 1) ++ ν) (.dat (fs i))) (hn : n ≤ 1000)
    (hy : C.env.kindOf y = some .local) (hP : P .next ((y, dList ((List.range n).map fs)) :: ρ) (μf n) [])
    (hsw : swapsWith (.ListComp elt [⟨tgt, iter, [], 0⟩] scope pos) (some (.Name y yp)) spos.line C.env = pure true := by rfl)
    (hs : ∀ x, foldedSetIterable iter C.env x = pure x := by intro _; rfl) :
    Tx C ρ μ (.Assign [.Name y yp] (.ListComp elt [⟨tgt, iter, [], 0⟩] scope pos) spos) P := fun τ s E a => by
  rw [exec_Assign_Name_used _ _ _ _ hsw]
  refine wpAny_bind (wpAny_standAt (wpAny_bind ?_))
  show wpAny _ _ (do let _ ← comprehension (.ListComp elt [⟨tgt, iter, [], 0⟩] scope pos) scope C.env _ (newList []) false (eval iter C.env) (some (PySem.assign (.Name y yp) C.env))) _ _ s
  refine wpAny_bind (wpAny_mono (wpAny_comprehension_free (use := some (PySem.assign (.Name y yp) C.env)) (Q := fun _ s' => ∃ ρ' μ' τ', At C ρ' μ' (τ' ++ τ) s' ∧ P .next ρ' μ' τ') rfl hs hclos hk hnames (sr τ s _ E a fun I own τs s1 src a1 => ?_)) (fun _ s' hq => wpAny_pure (wpAny_pure hq)) fun _ _ e => e)
  refine wpAny_newList ?_ (Nat.zero_le _)
  have a2 := a1.allocM (o := { cls := .type "list", data := .seq ([] : List Value).toArray }) (k := .list []) rfl (fun g _ _ => ⟨[], 0, rfl, trivial⟩)
  refine comp_enter (cl := cl) O hk hcell a2 fun L s2 o1 m1 τ1 n1 hd a3 cenv hce hcl => ?_
  rw [hce, hcl]
  have O2 := O.comp (cl := cl) hk L
  have src2 := src (C.comp scope cl L) O2 rfl rfl
  have key : ∀ s3, At (C.comp scope cl L) (ρf 0) ((s1.heap.objs.size, .list (([] : List PyData).map .dat)) :: (μf 0 ++ [(C.env.locals, .raw o1)]) ++ own 0) (τs ++ (τ1 ++ τ)) s3 →
      codeAny (MC C) C.A (.compLoop (.ListComp elt [⟨tgt, iter, [], 0⟩] scope pos) 0 (.ref I) (.ref s1.heap.objs.size) (compEnvC scope cl L C.env)) (compPost (MC C) C.A E (some (PySem.assign (.Name y yp) C.env)) (fun _ s' => ∃ ρ' μ' τ', At C ρ' μ' (τ' ++ τ) s' ∧ P .next ρ' μ' τ') (.ref s1.heap.objs.size) L) s3 := fun s3 a4 => by
    refine comp_loop (C := C.comp scope cl L) (τ := τ1 ++ τ) O2 src2 ρf ρa (fun i => μf i ++ [(C.env.locals, .raw o1)]) [] fs (asg L) hρ (fun i hi ν => ?_) (by simp; (first | decide | assumption | omega)) a4 fun s4 a5 => ?_
    · have := turn L i hi ((C.env.locals, .raw o1) :: ν)
      simpa using this
    · have a6 := a5.perm (μ' := (C.env.locals, .raw o1) :: (s1.heap.objs.size, .list (((List.range n).map fs).map .dat)) :: μf n) (by
        simp only [List.nil_append]
        refine List.Perm.trans (List.Perm.swap _ _ _) (List.Perm.cons _ ?_)
        exact (List.perm_append_comm (l₁ := μf n) (l₂ := [(C.env.locals, .raw o1)])).symm.trans (by simp) |>.trans (List.Perm.refl _) )
      obtain ⟨o, m, nO, a7⟩ := comp_leave n1 hd a6
      show wpAny _ _ (PySem.assign (.Name y yp) C.env (.ref s1.heap.objs.size)) _ _ _
      have a8 := (a7.perm (List.Perm.swap _ _ _)).freeze (r := dList ((List.range n).map fs)) fun g o hko hg => by
          obtain ⟨vs, n', rfl, hv⟩ := hko
          exact list_holds ⟨_, hg, rfl, n', rfl⟩ hv
      refine assign_name O hy a8 fun s5 a9 => ⟨m, ?_, fun h' hsb => ?_⟩
      · obtain ⟨g, o', _, _, ho, e⟩ := a9.mem (.head _)
        have e' : o' = o := e
        subst e'
        exact ns_obj.mpr ⟨_, ho, nO⟩
      · exact ⟨_, _, [], a9.forget (fun b o hb e => (hsb.2 b hb).trans e) s5.toks, hP⟩
  have a4 : At (C.comp scope cl L) (ρf 0) ((s1.heap.objs.size, .list (([] : List PyData).map .dat)) :: (μf 0 ++ [(C.env.locals, .raw o1)]) ++ own 0) (τs ++ (τ1 ++ τ)) s2 := by
    rw [hf0]
    refine (a3.perm ?_).tmps fun p hp => ?_
    · simp only [List.map_nil, List.cons_append, List.append_assoc, List.nil_append]
      exact (List.Perm.cons _ List.perm_middle).trans (List.Perm.swap _ _ _)
    · simp only [List.mem_append] at hp ⊢
      rcases hp with h | h | h
      · exact .inr (.inl h)
      · exact .inl h
      · exact .inr (.inr h)
  refine codeAny_compStart_list (key _ a4) ?_
  exact src2.self 0 _ _ (τ1 ++ τ) s2 _ _ a4 (key _ a4)
end
end Mine
namespace Mine
open PySem PySem.W PySem.Calls PySem.Spec PyProof.Rows PySem.SeqAt

section
variable {C : Cx} {ρ ρ' : Vs} {μ μ' : Ms} {τ τ' : Ts} {s : Shared} {e e1 e2 e3 elt iter tgt : Expr} {r q : Rk} {pos np apos xp : Pos} {x y : Str}

theorem nodup_app {μ own : Ms} (h : ((μ ++ own).map (·.1)).Nodup) : ∀ p ∈ μ, ∀ q ∈ own, p.1 ≠ q.1 := by
  rw [List.map_append, List.nodup_append] at h
  exact fun p hp q hq => h.2.2 _ (List.mem_map.mpr ⟨p, hp, rfl⟩) _ (List.mem_map.mpr ⟨q, hq, rfl⟩)
theorem At.updMany {own own' : Ms} {h' : Heap} (x : At C ρ (μ ++ own) τ s) (ha : own'.map (·.1) = own.map (·.1)) (hk : ∀ b o, (∀ p ∈ own, b ≠ p.1) → s.heap.get? b = some o → h'.get? b = some o)
    (hn : ∀ p ∈ own', ∃ o, h'.get? p.1 = some o ∧ ∀ g, p.2.holds g o) (t : Nat) : At C ρ (μ ++ own') τ { s with heap := h', toks := t } := by
  obtain ⟨hs, g, m, S, V, T⟩ := x
  have nd := nodup_app S.nd
  have own_no : ∀ q ∈ own, q.1 ≠ C.env.locals ∧ g.get? q.1 = none ∧ C.h₀.get? q.1 = none := fun q hq => (S.mu q (List.mem_append_right _ hq)).2
  refine ⟨hs.next _ _, g, m, ⟨S.ns.at fun o e => hk _ o (fun q hq e => (own_no q hq).1 e.symm) e, fun b o e => hk b o (fun q hq e2 => by rw [e2, (own_no q hq).2.1] at e; cases e) (S.keep b o e),
    fun b o e => hk b o (fun q hq e2 => by rw [e2, (own_no q hq).2.2] at e; cases e) (S.old b o e), S.sub0, S.back, S.gL, S.oL, fun p hp => ?_, ?_⟩, V, T⟩
  · rcases List.mem_append.mp hp with hp | hp
    · obtain ⟨⟨o, h1, h2⟩, r⟩ := S.mu p (List.mem_append_left _ hp)
      exact ⟨⟨o, hk _ _ (fun q hq => nd p hp q hq) h1, h2⟩, r⟩
    · obtain ⟨o, h1, h2⟩ := hn p hp
      have : p.1 ∈ own.map (·.1) := ha ▸ List.mem_map.mpr ⟨p, hp, rfl⟩
      obtain ⟨q, hq, e⟩ := List.mem_map.mp this
      exact ⟨⟨o, h1, h2 g⟩, e ▸ own_no q hq⟩
  · rw [List.map_append, ha, ← List.map_append]; exact S.nd
theorem At.updManyNew (τd : Ts) {own own' : Ms} {h' : Heap} {a : Addr} {o : Obj} {r : Rk} (x : At C ρ (μ ++ own) (τd ++ τ) s) (ha : own'.map (·.1) = own.map (·.1)) (hk : ∀ b o, (∀ p ∈ own, b ≠ p.1) → s.heap.get? b = some o → h'.get? b = some o)
    (hn : ∀ p ∈ own', ∃ o, h'.get? p.1 = some o ∧ ∀ g, p.2.holds g o) (t : Nat) (h0 : s.heap.get? a = none) (ho : h'.get? a = some o)
    (hr : ∀ g, Sub g h' → TmpOk g (τd ++ τ) → g.get? a = some o → r.holds g (.ref a)) : At C ρ (μ ++ own') ((.ref a, r) :: τ) { s with heap := h', toks := t } := by
  obtain ⟨hs, g, m, S, V, T⟩ := x
  have nd := nodup_app S.nd
  have own_no : ∀ q ∈ own, q.1 ≠ C.env.locals ∧ g.get? q.1 = none ∧ C.h₀.get? q.1 = none := fun q hq => (S.mu q (List.mem_append_right _ hq)).2
  have S1 : St C g m (μ ++ own') h' := by
    refine ⟨S.ns.at fun o e => hk _ o (fun q hq e => (own_no q hq).1 e.symm) e, fun b o e => hk b o (fun q hq e2 => by rw [e2, (own_no q hq).2.1] at e; cases e) (S.keep b o e),
      fun b o e => hk b o (fun q hq e2 => by rw [e2, (own_no q hq).2.2] at e; cases e) (S.old b o e), S.sub0, S.back, S.gL, S.oL, fun p hp => ?_, ?_⟩
    · rcases List.mem_append.mp hp with hp | hp
      · obtain ⟨⟨o, h1, h2⟩, r⟩ := S.mu p (List.mem_append_left _ hp)
        exact ⟨⟨o, hk _ _ (fun q hq => nd p hp q hq) h1, h2⟩, r⟩
      · obtain ⟨o, h1, h2⟩ := hn p hp
        have : p.1 ∈ own.map (·.1) := ha ▸ List.mem_map.mpr ⟨p, hp, rfl⟩
        obtain ⟨q, hq, e⟩ := List.mem_map.mp this
        exact ⟨⟨o, h1, h2 g⟩, e ▸ own_no q hq⟩
    · rw [List.map_append, ha, ← List.map_append]; exact S.nd
  have addr : ∀ p ∈ μ ++ own', a ≠ p.1 := by
    rintro p hp rfl
    rcases List.mem_append.mp hp with hp | hp
    · obtain ⟨⟨o, h1, _⟩, _⟩ := S.mu p (List.mem_append_left _ hp)
      rw [h0] at h1; cases h1
    · have : p.1 ∈ own.map (·.1) := ha ▸ List.mem_map.mpr ⟨p, hp, rfl⟩
      obtain ⟨q, hq, e⟩ := List.mem_map.mp this
      obtain ⟨⟨o, h1, _⟩, _⟩ := S.mu q (List.mem_append_right _ hq)
      have e' : q.1 = p.1 := e
      rw [e', h0] at h1; cases h1
  obtain ⟨g', k1, k2, k3, k4⟩ := grow h' g S1.keep (fun b => b = a)
  refine ⟨hs.next _ _, g', m, S1.grown k1 k2 fun b o' e => ?_, V.mono k1, ?_⟩
  · rcases k4 b o' e with q | ⟨rfl, _⟩
    · exact .inl q
    · refine .inr ⟨?_, ?_, addr⟩
      · cases e2 : C.h₀.get? b with
        | none => rfl
        | some o2 => have := S.old _ _ e2; rw [h0] at this; cases this
      · rintro rfl
        obtain ⟨_, _, _, ho, _⟩ := S.ns
        rw [h0] at ho; cases ho
  · exact TmpOk.cons (hr g' k2 (T.mono k1) (k3 a o rfl ho)) fun p hp => (T.mono k1) p (List.mem_append_right _ hp)
theorem At.dropMany {own : Ms} {h' : Heap} (x : At C ρ (μ ++ own) τ s) (hk : ∀ b o, (∀ p ∈ own, b ≠ p.1) → s.heap.get? b = some o → h'.get? b = some o) (t : Nat) : At C ρ μ τ { s with heap := h', toks := t } := by
  obtain ⟨hs, g, m, S, V, T⟩ := x
  have nd := nodup_app S.nd
  have own_no : ∀ q ∈ own, q.1 ≠ C.env.locals ∧ g.get? q.1 = none ∧ C.h₀.get? q.1 = none := fun q hq => (S.mu q (List.mem_append_right _ hq)).2
  refine ⟨hs.next _ _, g, m, ⟨S.ns.at fun o e => hk _ o (fun q hq e => (own_no q hq).1 e.symm) e, fun b o e => hk b o (fun q hq e2 => by rw [e2, (own_no q hq).2.1] at e; cases e) (S.keep b o e),
    fun b o e => hk b o (fun q hq e2 => by rw [e2, (own_no q hq).2.2] at e; cases e) (S.old b o e), S.sub0, S.back, S.gL, S.oL, fun p hp => ?_, ?_⟩, V, T⟩
  · obtain ⟨⟨o, h1, h2⟩, r⟩ := S.mu p (List.mem_append_left _ hp)
    exact ⟨⟨o, hk _ _ (fun q hq => nd p hp q hq) h1, h2⟩, r⟩
  · exact S.nd.sublist ((List.sublist_append_left _ _).map _)
theorem At.newMany {own : Ms} {h' : Heap} (x : At C ρ μ τ s) (kp : Kp C s.heap h') (hn : ∀ p ∈ own, s.heap.get? p.1 = none ∧ ∃ o, h'.get? p.1 = some o ∧ ∀ g, p.2.holds g o) (hnd : (own.map (·.1)).Nodup) (t : Nat) :
    At C ρ (μ ++ own) τ { s with heap := h', toks := t } := by
  obtain ⟨hs, g, m, S, V, T⟩ := x
  have S1 := S.kp kp
  refine ⟨hs.next _ _, g, m, { S1 with mu := fun p hp => ?_, nd := ?_ }, V, T⟩
  · rcases List.mem_append.mp hp with hp | hp
    · exact S1.mu p hp
    · obtain ⟨h0, o, h1, h2⟩ := hn p hp
      refine ⟨⟨o, h1, h2 g⟩, ?_, ?_, ?_⟩
      · rintro e
        obtain ⟨_, _, _, ho, _⟩ := S.ns
        rw [← e, h0] at ho; cases ho
      · cases e : g.get? p.1 with
        | none => rfl
        | some o2 => have := S.keep _ _ e; rw [h0] at this; cases this
      · cases e : C.h₀.get? p.1 with
        | none => rfl
        | some o2 => have := S.old _ _ e; rw [h0] at this; cases this
  · rw [List.map_append, List.nodup_append]
    refine ⟨S.nd, hnd, fun a ha b hb e => ?_⟩
    obtain ⟨p, hp, rfl⟩ := List.mem_map.mp ha
    obtain ⟨q, hq, rfl⟩ := List.mem_map.mp hb
    obtain ⟨⟨o, h1, _⟩, _⟩ := S.mu p hp
    rw [e, (hn q hq).1] at h1; cases h1

theorem letGo_no {M : Model} {A : Around} {I : Addr} {T : String} {o : Obj} {v : Value} {Q : Unit → Shared → Prop} {E : Value → Shared → Prop} (ho : s.heap.get? I = some o) (hc : o.cls = .type T)
    (hT : ["enumerate", "zip", "dict_itemiterator", "dict_reverseitemiterator", "odict_iterator", "itertools.zip_longest", "itertools.pairwise"].contains T = false) (h : Q () s) : wpAny M A (letOwnedTupleGo tgt (.ref I) v) Q E s := by
  unfold letOwnedTupleGo
  split
  · split
    · rename_i r a heq
      cases heq
      refine wpAny_bind (wpAny_load ho ?_)
      rw [hc]
      split
      · rename_i h1 h2
        cases h1
        rw [hT]
        simp only [Bool.false_and, Bool.false_eq_true, if_false]
        exact wpAny_pure h
      · exact wpAny_pure h
    · exact wpAny_pure h
  · split
    · rename_i r a heq
      cases heq
      refine wpAny_bind (wpAny_load ho ?_)
      rw [hc]
      split
      · rename_i h1 h2
        cases h1
        rw [hT]
        simp only [Bool.false_and, Bool.false_eq_true, if_false]
        exact wpAny_pure h
      · exact wpAny_pure h
    · exact wpAny_pure h
  · exact wpAny_pure h

/-! ### a list -/
noncomputable def ListIt (ax : Addr) (i : Nat) : Mk := .gen fun _ o => o.cls = .type "list_iterator" ∧ o.data = .fields #[.ref ax, .int i 0]
theorem listIt_is {h g : Heap} {I ax : Addr} {i : Nat} (x : ∃ o, h.get? I = some o ∧ (ListIt ax i).holds g o) : h.IsListIter I ax i := by
  obtain ⟨o, ho, g', _, h1, h2⟩ := x
  exact ⟨o, ho, h1, h2⟩
theorem src_list (O : Ok C) (I ax : Addr) (ds : List PyData) : Src C tgt I (fun i => [(I, ListIt ax i)]) [(.ref ax, dList ds)] ds.length (fun i => .dat (ds.getD i .none)) where
  item := fun i ρ μ τ s Q E hi a h => by
    obtain ⟨g, o, sg, tm, ho, hk⟩ := a.mem (a := I) (k := ListIt ax i) (by simp)
    have hit := listIt_is ⟨o, ho, hk⟩
    obtain ⟨l, vs, e, h1, h2⟩ := holds_list (a.hold (v := .ref ax) (r := dList ds) (by simp))
    cases e
    obtain ⟨v, hv, hr⟩ := h2.get (i := i) (r := .dat (ds.getD i .none)) (by simp [List.getElem?_eq_getElem hi, List.getD])
    refine wpAny_pyNext_list_item hit h1 (by simpa using hv) fun h' hit' hsb => ⟨v, rfl, ?_⟩
    obtain ⟨o', ho', hc', hd'⟩ := hit'
    refine letGo_no ho' hc' (by decide) (h v _ ?_)
    have a2 := At.updMany (own' := [(I, ListIt ax (i + 1))]) a rfl (fun b o hb e => (hsb.2 b (hb (I, ListIt ax i) (.head _))).trans e) (fun p hp => by
      rw [List.mem_singleton.mp hp]; exact ⟨o', ho', fun g => ⟨g, Sub.refl _, hc', hd'⟩⟩) s.toks
    refine a2.push fun g sg tm => ?_
    have hl : h'.IsList ax vs.toArray := by
      obtain ⟨ob, z1, z2, z3⟩ := h1
      refine ⟨ob, (hsb.2 ax ?_).trans z1, z2, z3⟩
      rintro rfl
      obtain ⟨oi, y1, y2, y3⟩ := hit
      rw [z1] at y1; cases y1; rw [z2] at y2; exact absurd y2 (by decide)
    have := items_of sg (tm (.ref ax, dList ds) (by simp)) hl
    obtain ⟨v', hv', hr'⟩ := this.get (i := i) (r := .dat (ds.getD i .none)) (by simp [List.getElem?_eq_getElem hi, List.getD])
    rw [hv] at hv'; cases hv'; exact hr'
  done := fun ρ μ τ s Q E a h => by
    obtain ⟨g, o, sg, tm, ho, hk⟩ := a.mem (a := I) (k := ListIt ax ds.length) (by simp)
    have hit := listIt_is ⟨o, ho, hk⟩
    obtain ⟨l, vs, e, h1, h2⟩ := holds_list (a.hold (v := .ref ax) (r := dList ds) (by simp))
    cases e
    have hl := h2.length
    rw [List.length_map] at hl
    refine wpAny_pyNext_list_end O.hh hit h1 (by simp [hl]) fun h' ext => h _ ((a.dropMany (fun b o hb e => ext b o (hb (I, ListIt ax ds.length) (.head _)) e) s.toks).tmps fun p hp => by simp [hp])
  self := fun i ρ μ τ s Q E a h => by
    obtain ⟨g, o, sg, tm, ho, hk⟩ := a.mem (a := I) (k := ListIt ax i) (by simp)
    exact wpAny_pyIter_listiter (listIt_is ⟨o, ho, hk⟩) h
theorem srcs_list {ds : List PyData} (p : EV C ρ μ e μ' (dList ds)) : Srcs C ρ μ e tgt μ' ds.length (fun i => .dat (ds.getD i .none)) := fun τ s Q E a h =>
  p τ s _ E a fun v s1 a1 => by
    obtain ⟨l, vs, rfl, h1, h2⟩ := holds_list a1.top
    refine wpAny_pyIter_list h1 (h _ _ _ _ (fun C' O' hl hA => src_list O' s1.heap.objs.size l ds) ?_)
    have a2 := a1.newMany (own := [(s1.heap.objs.size, ListIt l 0)]) (Kp.of_sub (Sub.push s1.heap { cls := .type "list_iterator", data := .fields #[.ref l, .int 0 0] })) (fun p hp => by
      rw [List.mem_singleton.mp hp]
      exact ⟨Heap.get?_none_of_le (Nat.le_refl _), _, Heap.get?_push_size _ rfl, fun g => ⟨g, Sub.refl _, rfl, rfl⟩⟩) (by simp) s1.toks
    exact a2

/-! ### a range -/
noncomputable def RangeIt (x left : Int) : Mk := .raw { cls := .type "range_iterator", dict := none, data := .fields #[rawInt x, rawInt left, rawInt 1], slots := #[] }
theorem src_range (O : Ok C) (I : Addr) (a0 : Int) (n : Nat) : Src C tgt I (fun i => [(I, RangeIt (a0 + i) ((n : Int) - i))]) [] n (fun i => dInt (a0 + i)) where
  item := fun i ρ μ τ s Q E hi a h => by
    obtain ⟨g, o, sg, tm, ho, hk⟩ := a.mem (a := I) (k := RangeIt (a0 + i) ((n : Int) - i)) (by simp)
    have hk' : o = _ := hk
    subst hk'
    refine wpAny_pyNext_range_item ho (by (first | decide | assumption | omega)) fun h' hit' hsb => ⟨_, rfl, ?_⟩
    refine letGo_no hit' rfl (by decide) (h _ _ ?_)
    have a2 := At.updMany (own' := [(I, RangeIt (a0 + (i + 1 : Nat)) ((n : Int) - (i + 1 : Nat)))]) a rfl (fun b o hb e => (hsb.2 b (hb (I, _) (.head _))).trans e) (fun p hp => by
      rw [List.mem_singleton.mp hp]
      refine ⟨_, hit', fun g => ?_⟩
      show _ = _
      have e1 : a0 + (i : Int) + 1 = a0 + ((i + 1 : Nat) : Int) := by (first | decide | assumption | omega)
      have e2 : (n : Int) - (i : Int) - 1 = (n : Int) - ((i + 1 : Nat) : Int) := by (first | decide | assumption | omega)
      rw [e1, e2]) (s.toks + 1)
    exact a2.push fun g sg tm => int_holds _ _
  done := fun ρ μ τ s Q E a h => by
    obtain ⟨g, o, sg, tm, ho, hk⟩ := a.mem (a := I) (k := RangeIt (a0 + n) ((n : Int) - n)) (by simp)
    have hk' : o = _ := hk
    subst hk'
    exact wpAny_pyNext_range_end O.hh ho (by (first | decide | assumption | omega)) fun h' ext => h _ ((a.dropMany (fun b o hb e => ext b o (hb (I, _) (.head _)) e) s.toks))
  self := fun i ρ μ τ s Q E a h => by
    obtain ⟨g, o, sg, tm, ho, hk⟩ := a.mem (a := I) (k := RangeIt (a0 + i) ((n : Int) - i)) (by simp)
    have hk' : o = _ := hk
    subst hk'
    exact wpAny_pyIter_rangeiter ho h

theorem size_range (a0 b0 : Int) : Builtin.Range.rangeSize a0 b0 1 = ((b0 - a0).toNat : Int) := by
  unfold Builtin.Range.rangeSize
  rw [if_pos (by decide)]
  split
  · rw [Int.ediv_one]; (first | decide | assumption | omega)
  · (first | decide | assumption | omega)
theorem small_range {a0 b0 : Int} (h1 : -100000 ≤ a0) (h2 : a0 ≤ 100000) (h3 : -100000 ≤ b0) (h4 : b0 ≤ 100000) : Builtin.Range.small a0 b0 1 = true := by
  unfold Builtin.Range.small
  rw [size_range]
  simp [Builtin.Range.rangeFitsLong]
  (first | decide | assumption | omega)
theorem pyIter_range1 {rr : Addr} {a0 b0 : Int} {t u v : Tok} (hr : IsRange s.heap rr a0 b0 1 t u v) (h1 : -100000 ≤ a0) (h2 : a0 ≤ 100000) (h3 : -100000 ≤ b0) (h4 : b0 ≤ 100000) (a : At C ρ μ τ s) {Q : Value → Shared → Prop} {E : Value → Shared → Prop}
    (h : ∀ I own τs s', (∀ C', Ok C' → C'.lay = C.lay → C'.A = C.A → Src C' tgt I own τs (b0 - a0).toNat fun i => dInt (a0 + i)) → At C ρ (μ ++ own 0) (τs ++ τ) s' → Q (.ref I) s') : wpAny (MC C) C.A (pyIter (.ref rr)) Q E s := by
  refine wpAny_pyIter_range hr (small_range h1 h2 h3 h4) (h _ _ _ _ (fun C' O' hl hA => src_range O' s.heap.objs.size a0 (b0 - a0).toNat) ?_)
  refine a.newMany (own := [(s.heap.objs.size, RangeIt (a0 + (0 : Nat)) (((b0 - a0).toNat : Int) - (0 : Nat)))]) (Kp.of_sub (Sub.push _ _)) (fun p hp => ?_) (by simp) s.toks
  rw [List.mem_singleton.mp hp]
  refine ⟨Heap.get?_none_of_le (Nat.le_refl _), _, Heap.get?_push_size _ rfl, fun g => ?_⟩
  show _ = _
  rw [size_range]
  simp
theorem srcs_range2 {a0 b0 : Int} (O : Ok C) (p1 : PE C ρ μ e1 (dInt a0)) (p2 : PE C ρ μ e2 (dInt b0)) (hk : C.env.kindOf "range" = some .globalImplicit) (h1 : -100000 ≤ a0) (h2 : a0 ≤ 100000) (h3 : -100000 ≤ b0) (h4 : b0 ≤ 100000)
    (hs : backTo pos (starEach [e1, e2] C.env) = trees [e1, e2] C.env := by rfl) : Srcs C ρ μ (.Call (.Name "range" np) [e1, e2] [] pos) tgt μ (b0 - a0).toNat (fun i => dInt (a0 + i)) := fun τ s Q E a h =>
  callT (T := "range") O hk (by decide) (by decide) (.cons p1 (.cons p2 .nil)) (by simp) hs a fun vs s' hl a' => by
    obtain ⟨v, u, rfl⟩ : ∃ v u, vs = [v, u] := two_of hl
    obtain ⟨t, rfl⟩ := holds_int a'.top
    obtain ⟨t2, rfl⟩ := holds_int a'.top2
    refine PySem.call_range_2 ?_
    have a2 := (a'.ext (Sub.push s'.heap { cls := .type "range", data := .fields #[.int a0 t, .int b0 t2, .int 1 s'.toks] }) (s'.toks + 1)).tmps (τ' := τ) (fun p hp => by simp [hp])
    exact pyIter_range1 (s := { s' with heap := s'.heap.push { cls := .type "range", data := .fields #[.int a0 t, .int b0 t2, .int 1 s'.toks] }, toks := s'.toks + 1 }) (Heap.get?_push_size _ rfl) h1 h2 h3 h4 a2 h

/-! ### two lists abreast -/
noncomputable def ZipObj (TI TO : Addr) : Mk := .raw { cls := .type "zip", dict := none, data := .fields #[.none, .bool false, .bool false, .ref TI, .ref TO], slots := #[] }
noncomputable def PairM : Mk := .gen fun _ o => ∃ a b : Value, o = { cls := .type "tuple", data := .seq #[a, b] }
noncomputable abbrev zipOwn (z TI TO i1 i2 l1 l2 : Addr) (i : Nat) : Ms :=
  [(z, ZipObj TI TO), (TI, .raw { cls := .type "tuple", data := .seq #[.ref i1, .ref i2] }), (TO, PairM), (i1, ListIt l1 i), (i2, ListIt l2 i)]
theorem src_zip (O : Ok C) (z TI TO i1 i2 l1 l2 : Addr) (ds es : List PyData) {tg : List Expr} {k : Nat} : Src C (.Tuple tg k xp) z (zipOwn z TI TO i1 i2 l1 l2) [(.ref l1, dList ds), (.ref l2, dList es)] (min ds.length es.length)
    (fun i => dTup [ds.getD i .none, es.getD i .none]) where
  item := fun i ρ μ τ s Q E hi a h => by
    have i_ds : i < ds.length := by (first | decide | assumption | omega)
    have i_es : i < es.length := by (first | decide | assumption | omega)
    obtain ⟨g1, oz, _, _, hz, kz⟩ := a.mem (a := z) (k := ZipObj TI TO) (by simp)
    obtain ⟨g2, oI, _, _, hTI, kTI⟩ := a.mem (a := TI) (k := .raw { cls := .type "tuple", data := .seq #[.ref i1, .ref i2] }) (by simp)
    obtain ⟨g3, oT, _, _, hTO, g3', _, pa, pb, rfl⟩ := a.mem (a := TO) (k := PairM) (by simp)
    obtain ⟨g4, o4, _, _, ho4, k4⟩ := a.mem (a := i1) (k := ListIt l1 i) (by simp)
    obtain ⟨g5, o5, _, _, ho5, k5⟩ := a.mem (a := i2) (k := ListIt l2 i) (by simp)
    have kz' : oz = _ := kz
    have kTI' : oI = _ := kTI
    subst kz' kTI'
    have it1 := listIt_is ⟨o4, ho4, k4⟩
    have it2 := listIt_is ⟨o5, ho5, k5⟩
    obtain ⟨q1, vs, e1, hl1, h1⟩ := holds_list (a.hold (v := .ref l1) (r := dList ds) (by simp))
    cases e1
    obtain ⟨q2, ws, e2, hl2, h2⟩ := holds_list (a.hold (v := .ref l2) (r := dList es) (by simp))
    cases e2
    have nd : ([z, TI, TO, i1, i2] : List Addr).Nodup := by
      obtain ⟨_, g, m, S, _⟩ := a
      have := S.nd
      rw [List.map_append, List.nodup_append] at this
      exact this.2.1
    simp only [List.nodup_cons, List.mem_cons, List.not_mem_nil, or_false, not_or, List.nodup_nil, and_true] at nd
    obtain ⟨⟨n1, n2, n3, n4⟩, ⟨n5, n6, n7⟩, ⟨n8, n9⟩, n10, _⟩ := nd
    have listne : ∀ l c : Addr, ∀ o, s.heap.get? c = some o → (∃ xs : Array Value, s.heap.IsList l xs) → o.cls ≠ .type "list" → l ≠ c := by
      rintro l c o ho ⟨xs, ol, z1, z2, _⟩ hc rfl
      rw [z1] at ho; cases ho; exact hc z2
    obtain ⟨p4, y4, y4c, _⟩ := it1
    obtain ⟨p5, y5, y5c, _⟩ := it2
    have D : ZipApart z TI TO i1 i2 l1 l2 := ⟨fun e => n1 e.symm, fun e => n2 e.symm, fun e => n3 e.symm, fun e => n4 e.symm, n5, n6, n7, n8, n9, n10,
      listne _ _ _ hz ⟨_, hl1⟩ (by simp), listne _ _ _ hTO ⟨_, hl1⟩ (by simp), listne _ _ _ y4 ⟨_, hl1⟩ (by rw [y4c]; decide), listne _ _ _ y5 ⟨_, hl1⟩ (by rw [y5c]; decide),
      listne _ _ _ hz ⟨_, hl2⟩ (by simp), listne _ _ _ hTO ⟨_, hl2⟩ (by simp), listne _ _ _ y4 ⟨_, hl2⟩ (by rw [y4c]; decide), listne _ _ _ y5 ⟨_, hl2⟩ (by rw [y5c]; decide)⟩
    have it1 := listIt_is ⟨o4, ho4, k4⟩
    have it2 := listIt_is ⟨o5, ho5, k5⟩
    obtain ⟨v, hv, hr⟩ := h1.get (i := i) (r := .dat (ds.getD i .none)) (by simp [List.getElem?_eq_getElem i_ds, List.getD])
    obtain ⟨u, hu, hq⟩ := h2.get (i := i) (r := .dat (es.getD i .none)) (by simp [List.getElem?_eq_getElem i_es, List.getD])
    refine wpAny_pyNext_zip_item D hz hTI hTO it1 it2 hl1 hl2 (x := v) (y := u) (by simpa using hv) (by simpa using hu) fun h' z1 z2 z3 z4 z5 z6 z7 => ⟨_, rfl, ?_⟩
    refine wpAny_letOwnedTupleGo_zip z1 fun h2' y1 hsb => h _ _ ?_
    have nT : ∀ c o, s.heap.get? c = some o → c ≠ s.heap.objs.size := fun c o e => Nat.ne_of_lt (Heap.lt_size e)
    have keep : ∀ c o, c ≠ z → c ≠ TO → c ≠ i1 → c ≠ i2 → s.heap.get? c = some o → h2'.get? c = some o := fun c o a1 a2 a3 a4 e => (hsb.2 c a1).trans (z7 c o a1 a2 a3 a4 e)
    have zT : s.heap.objs.size ≠ z := fun e => nT z _ hz e.symm
    obtain ⟨b4, w4, w4c, w4d⟩ := z3
    obtain ⟨b5, w5, w5c, w5d⟩ := z4
    have hpair : h2'.get? s.heap.objs.size = some { cls := .type "tuple", data := .seq #[v, u] } := (hsb.2 _ zT).trans z5
    refine At.updManyNew [] (own' := zipOwn z TI TO i1 i2 l1 l2 (i + 1)) (h' := h2') a rfl (fun b o hb e => keep b o (hb (z, ZipObj TI TO) (by simp)) (hb (TO, PairM) (by simp)) (hb (i1, ListIt l1 i) (by simp)) (hb (i2, ListIt l2 i) (by simp)) e) (fun p hp => by
      simp only [List.mem_cons, List.not_mem_nil, or_false] at hp
      rcases hp with rfl | rfl | rfl | rfl | rfl
      · exact ⟨_, y1, fun _ => rfl⟩
      · exact ⟨_, keep TI _ (fun e => n1 e.symm) n5 n6 n7 hTI, fun _ => rfl⟩
      · exact ⟨_, (hsb.2 TO (fun e => n2 e.symm)).trans z2, fun g => ⟨g, Sub.refl _, _, _, rfl⟩⟩
      · exact ⟨_, (hsb.2 i1 (fun e => n3 e.symm)).trans w4, fun g => ⟨g, Sub.refl _, w4c, w4d⟩⟩
      · exact ⟨_, (hsb.2 i2 (fun e => n4 e.symm)).trans w5, fun g => ⟨g, Sub.refl _, w5c, w5d⟩⟩) s.toks (Heap.get?_none_of_le (Nat.le_refl _)) hpair fun g sg tm hg => ?_
    have liveL : ∀ l (xs : Array Value), s.heap.IsList l xs → l ≠ z → l ≠ TO → l ≠ i1 → l ≠ i2 → h2'.IsList l xs := fun l xs ⟨o, q1, q2⟩ a1 a2 a3 a4 => ⟨o, keep l o a1 a2 a3 a4 q1, q2⟩
    have f1 := items_of sg (tm (.ref l1, dList ds) (by simp)) (liveL l1 _ hl1 D.l1z D.l1TO D.l1i1 D.l1i2)
    have f2 := items_of sg (tm (.ref l2, dList es) (by simp)) (liveL l2 _ hl2 D.l2z D.l2TO D.l2i1 D.l2i2)
    obtain ⟨v', hv', hr'⟩ := f1.get (i := i) (r := .dat (ds.getD i .none)) (by simp [List.getElem?_eq_getElem i_ds, List.getD])
    obtain ⟨u', hu', hq'⟩ := f2.get (i := i) (r := .dat (es.getD i .none)) (by simp [List.getElem?_eq_getElem i_es, List.getD])
    rw [hv] at hv'; cases hv'
    rw [hu] at hu'; cases hu'
    exact tup_holds (vs := [v, u]) ⟨_, hg, rfl, 0, rfl⟩ ⟨hr', hq', trivial⟩
  done := fun ρ μ τ s Q E a h => by
    obtain ⟨g1, oz, _, _, hz, kz⟩ := a.mem (a := z) (k := ZipObj TI TO) (by simp)
    obtain ⟨g2, oI, _, _, hTI, kTI⟩ := a.mem (a := TI) (k := .raw { cls := .type "tuple", data := .seq #[.ref i1, .ref i2] }) (by simp)
    obtain ⟨g3, oT, _, _, hTO, g3', _, pa, pb, rfl⟩ := a.mem (a := TO) (k := PairM) (by simp)
    obtain ⟨g4, o4, _, _, ho4, k4⟩ := a.mem (a := i1) (k := ListIt l1 (min ds.length es.length)) (by simp)
    obtain ⟨g5, o5, _, _, ho5, k5⟩ := a.mem (a := i2) (k := ListIt l2 (min ds.length es.length)) (by simp)
    have kz' : oz = _ := kz
    have kTI' : oI = _ := kTI
    subst kz' kTI'
    have it1 := listIt_is ⟨o4, ho4, k4⟩
    have it2 := listIt_is ⟨o5, ho5, k5⟩
    obtain ⟨q1, vs, e1, hl1, h1⟩ := holds_list (a.hold (v := .ref l1) (r := dList ds) (by simp))
    cases e1
    obtain ⟨q2, ws, e2, hl2, h2⟩ := holds_list (a.hold (v := .ref l2) (r := dList es) (by simp))
    cases e2
    have nd : ([z, TI, TO, i1, i2] : List Addr).Nodup := by
      obtain ⟨_, g, m, S, _⟩ := a
      have := S.nd
      rw [List.map_append, List.nodup_append] at this
      exact this.2.1
    simp only [List.nodup_cons, List.mem_cons, List.not_mem_nil, or_false, not_or, List.nodup_nil, and_true] at nd
    obtain ⟨⟨n1, n2, n3, n4⟩, ⟨n5, n6, n7⟩, ⟨n8, n9⟩, n10, _⟩ := nd
    have listne : ∀ l c : Addr, ∀ o, s.heap.get? c = some o → (∃ xs : Array Value, s.heap.IsList l xs) → o.cls ≠ .type "list" → l ≠ c := by
      rintro l c o ho ⟨xs, ol, z1, z2, _⟩ hc rfl
      rw [z1] at ho; cases ho; exact hc z2
    obtain ⟨p4, y4, y4c, _⟩ := it1
    obtain ⟨p5, y5, y5c, _⟩ := it2
    have D : ZipApart z TI TO i1 i2 l1 l2 := ⟨fun e => n1 e.symm, fun e => n2 e.symm, fun e => n3 e.symm, fun e => n4 e.symm, n5, n6, n7, n8, n9, n10,
      listne _ _ _ hz ⟨_, hl1⟩ (by simp), listne _ _ _ hTO ⟨_, hl1⟩ (by simp), listne _ _ _ y4 ⟨_, hl1⟩ (by rw [y4c]; decide), listne _ _ _ y5 ⟨_, hl1⟩ (by rw [y5c]; decide),
      listne _ _ _ hz ⟨_, hl2⟩ (by simp), listne _ _ _ hTO ⟨_, hl2⟩ (by simp), listne _ _ _ y4 ⟨_, hl2⟩ (by rw [y4c]; decide), listne _ _ _ y5 ⟨_, hl2⟩ (by rw [y5c]; decide)⟩
    have e1 := h1.length
    have e2 := h2.length
    rw [List.length_map] at e1 e2
    refine wpAny_pyNext_zip_end O.hh D hz hTI hTO (listIt_is ⟨o4, ho4, k4⟩) (listIt_is ⟨o5, ho5, k5⟩) hl1 hl2 ?_ fun h' hk => h _ ((a.dropMany (fun b o hb e => hk b o (hb (z, ZipObj TI TO) (by simp)) (hb (TO, PairM) (by simp)) (hb (i1, ListIt l1 (min ds.length es.length)) (by simp)) (hb (i2, ListIt l2 (min ds.length es.length)) (by simp)) e) s.toks).tmps fun p hp => by simp [hp])
    simp only [List.getElem?_toArray, List.getElem?_eq_none_iff, e1, e2]
    (first | decide | assumption | omega)
  self := fun i ρ μ τ s Q E a h => by
    obtain ⟨g1, oz, _, _, hz, kz⟩ := a.mem (a := z) (k := ZipObj TI TO) (by simp)
    have kz' : oz = _ := kz
    subst kz'
    exact wpAny_pyIter_zip hz h
theorem srcs_zip {ds es : List PyData} {tg : List Expr} {k : Nat} (O : Ok C) (p1 : PE C ρ μ e1 (dList ds)) (p2 : PE C ρ μ e2 (dList es)) (hk : C.env.kindOf "zip" = some .globalImplicit)
    (hs : backTo pos (starEach [e1, e2] C.env) = trees [e1, e2] C.env := by rfl) : Srcs C ρ μ (.Call (.Name "zip" np) [e1, e2] [] pos) (.Tuple tg k xp) μ (min ds.length es.length) (fun i => dTup [ds.getD i .none, es.getD i .none]) := fun τ s Q E a h =>
  callT (T := "zip") O hk (by decide) (by decide) (.cons p1 (.cons p2 .nil)) (by simp) hs a fun vs s' hl a' => by
    obtain ⟨v, u, rfl⟩ : ∃ v u, vs = [v, u] := two_of hl
    obtain ⟨l1, ws1, rfl, h1, _⟩ := holds_list a'.top
    obtain ⟨l2, ws2, rfl, h2, _⟩ := holds_list a'.top2
    refine call_zip_2 h1 h2 fun h' z1 z2 z3 z4 z5 z6 z7 => wpAny_pyIter_zip z1 (h _ _ _ _ (fun C' O' _ _ => src_zip O' (s'.heap.objs.size + 4) (s'.heap.objs.size + 2) (s'.heap.objs.size + 3) s'.heap.objs.size (s'.heap.objs.size + 1) l1 l2 ds es) ?_)
    obtain ⟨b4, w4, w4c, w4d⟩ := z4
    obtain ⟨b5, w5, w5c, w5d⟩ := z5
    refine (a'.newMany (own := zipOwn (s'.heap.objs.size + 4) (s'.heap.objs.size + 2) (s'.heap.objs.size + 3) s'.heap.objs.size (s'.heap.objs.size + 1) l1 l2 0) (Kp.of_sub z7) (fun p hp => ?_) (by simp) s'.toks)
    have fresh : ∀ k : Nat, s'.heap.get? (s'.heap.objs.size + k) = none := fun k => Heap.get?_none_of_le (Nat.le_add_right _ _)
    simp only [List.mem_cons, List.not_mem_nil, or_false] at hp
    rcases hp with rfl | rfl | rfl | rfl | rfl
    · exact ⟨fresh 4, _, z1, fun _ => rfl⟩
    · exact ⟨fresh 2, _, z2, fun _ => rfl⟩
    · exact ⟨fresh 3, _, z3, fun g => ⟨g, Sub.refl _, _, _, rfl⟩⟩
    · exact ⟨fresh 0, _, w4, fun g => ⟨g, Sub.refl _, w4c, w4d⟩⟩
    · exact ⟨fresh 1, _, w5, fun g => ⟨g, Sub.refl _, w5c, w5d⟩⟩
end
end Mine
namespace Mine
open PySem PySem.W PySem.Calls PySem.Spec PyProof.Rows PySem.SeqAt

/-! ## a dict's rounds, whatever its keys are -/
noncomputable abbrev ItOut (h : Heap) (it d : Addr) (i n ep : Nat) (ok ov : Value) (a : Value) : Prop :=
  h.get? it = some { cls := .type "dict_itemiterator", dict := none, data := .fields #[a, .bool false, .ref d, .int i 0, .int n 0, .int ep 0, ok, ov], slots := #[] }
noncomputable abbrev KeyOut (h : Heap) (it d : Addr) (i n ep : Nat) : Prop :=
  h.get? it = some { cls := .type "dict_keyiterator", dict := none, data := .fields #[.ref d, .int i 0, .int n 0, .int ep 0], slots := #[] }
section
variable {prog : Program} {w : World} {A : Around} {E : Value → Shared → Prop} {s : Shared} {it d : Addr} {i ep : Nat} {es : Array DictEntry} {od : Obj} {ok ov : Value}

theorem raw_items_call (hod : s.heap.get? d = some od) (hx : od.ExactDict) (hd : (d == sysModules) = false) {Q : Value → Shared → Prop}
    (h : Q (.ref s.heap.objs.size) { s with heap := s.heap.push { cls := .type "dict_items", data := .fields #[.ref d] } }) : wpAny (model prog w) A (call (.builtin "dict.items") [.ref d]) Q E s := by
  have hT : s.TypeIs (.ref d) "dict" := ⟨od, hod, hx.1⟩
  refine wpAny_call_entry PySem.F.slot_dict_items hT PySem.F.entry_dict_items ?_ (PySem.F.args_dict_items_1 _)
  unfold Builtin.«dict.items»
  refine wpAny_bind ?_
  unfold Builtin.Dict.noArgs
  refine wpAny_bind (wpAny_notOrdered_dict hT ?_)
  show wpAny _ _ (pure d) _ _ s
  refine wpAny_pure ?_
  show wpAny _ _ (Builtin.Dict.showsAll d >>= _) _ _ s
  unfold Builtin.Dict.showsAll
  rw [if_neg (by rw [hd]; exact Bool.false_ne_true)]
  refine wpAny_bind (wpAny_pure ?_)
  exact wpAny_bind (wpAny_newObj_type (wpAny_pure ⟨_, rfl, h⟩))

theorem raw_iter_items {v : Addr} {Q : Value → Shared → Prop} (hv : s.heap.IsItemsView v d) (hod : s.heap.get? d = some od) (hdd : od.data = .dict es ep)
    (hQ : Q (.ref s.heap.objs.size) { s with heap := s.heap.push { cls := .type "dict_itemiterator", data := .fields #[.none, .bool false, .ref d, .int 0 0, .int es.size 0, .int ep 0, .none, .none] } }) :
    wpAny (model prog w) A (pyIter (.ref v)) Q E s := by
  obtain ⟨ov, hov, hcv, hdv⟩ := id hv
  refine wpAny_pyIter_slot hv.typeIs PySem.F.slot_dict_items_iter (wpAny_call_entry PySem.F.slot_dict_items_iter hv.typeIs PySem.F.entry_dict_items_iter ?_ (PySem.F.args_dict_items_iter_1 _))
  unfold Builtin.«dict_items.__iter__»
  refine wpAny_bind (wpAny_pure ?_)
  refine wpAny_bind ?_
  unfold Builtin.Dict_items.dictOf
  refine wpAny_bind (wpAny_field hov hdv (x := .ref d) rfl (wpAny_pure ?_))
  refine wpAny_bind ?_
  unfold Builtin.Dict_items.newIterator
  refine wpAny_bind (wpAny_dictEntries hod hdd ?_)
  refine wpAny_bind (wpAny_dictEpoch hod hdd ?_)
  have hown : Builtin.Dict_items.ownsTuple "dict_itemiterator" = true := by decide
  simp only [hown, if_true]
  refine wpAny_newObj_type (wpAny_pure ⟨_, rfl, "dict_itemiterator", _, ⟨_, Heap.get?_push_size _ rfl, rfl⟩, PySem.F.slot_dict_itemiterator_next.lookup, ?_⟩)
    (by simp only [sizeOk, Builtin.Dict_items.ownedTupleFields, List.size_toArray, List.length_append, List.length_cons, List.length_nil, sizeLine_eq]; (first | decide | assumption | omega))
  simpa [rawInt, Builtin.Dict_items.ownedTupleFields] using hQ

theorem raw_iter_keys (hod : s.heap.get? d = some od) (hx : od.ExactDict) (hdd : od.data = .dict es ep) (hd : (d == sysModules) = false) {Q : Value → Shared → Prop}
    (hQ : Q (.ref s.heap.objs.size) { s with heap := s.heap.push { cls := .type "dict_keyiterator", data := .fields #[.ref d, .int 0 0, .int es.size 0, .int ep 0] } }) :
    wpAny (model prog w) A (pyIter (.ref d)) Q E s := by
  have hT : s.TypeIs (.ref d) "dict" := ⟨od, hod, hx.1⟩
  refine wpAny_pyIter_slot hT PySem.F.slot_dict_iter (wpAny_call_entry PySem.F.slot_dict_iter hT PySem.F.entry_dict_iter ?_ (PySem.F.args_dict_iter_1 _))
  unfold Builtin.«dict.__iter__»
  refine wpAny_bind ?_
  unfold Builtin.Dict.dictSlotNone
  refine wpAny_bind (wpAny_notOrdered_dict hT ?_)
  show wpAny _ _ (pure (Value.ref d)) _ _ s
  refine wpAny_pure ?_
  show wpAny _ _ (Builtin.Dict.showsAll d >>= _) _ _ s
  unfold Builtin.Dict.showsAll
  rw [if_neg (by rw [hd]; exact Bool.false_ne_true)]
  refine wpAny_bind (wpAny_pure ?_)
  refine wpAny_bind (wpAny_dictEntries hod hdd ?_)
  refine wpAny_bind (wpAny_dictEpoch hod hdd ?_)
  refine wpAny_bind (wpAny_newObj_type (wpAny_pure ⟨_, rfl, "dict_keyiterator", _, ⟨_, Heap.get?_push_size _ rfl, rfl⟩, PySem.F.slot_dict_keyiterator_next.lookup, ?_⟩))
  simpa [rawInt] using hQ

theorem raw_next_item {e : DictEntry} {Q : Option Value → Shared → Prop} (hit : ItOut s.heap it d i es.size ep ok ov .none)
    (hod : s.heap.get? d = some od) (hdd : od.data = .dict es ep) (he : es[i]? = some e)
    (hQ : ∀ h', ItOut h' it d (i + 1) es.size ep e.key e.val (rawInt s.heap.objs.size) →
      h'.get? s.heap.objs.size = some { cls := .type "tuple", data := .seq #[e.key, e.val] } →
      (∀ b o, b ≠ it → s.heap.get? b = some o → h'.get? b = some o) → Q (some (.ref s.heap.objs.size)) { s with heap := h' }) :
    wpAny (model prog w) A (pyNext (.ref it)) Q E s := by
  obtain ⟨hp, g, dr, tk, os⟩ := s
  have hT : Shared.TypeIs ⟨hp, g, dr, tk, os⟩ (.ref it) "dict_itemiterator" := ⟨_, hit, rfl⟩
  unfold pyNext
  refine wpAny_bind (wpAny_attempt (wpAny_callSpecial?_slot (name := Str.ofString "__next__") hT PySem.F.slot_dict_itemiterator_next
    (wpAny_call_entry PySem.F.slot_dict_itemiterator_next hT PySem.F.entry_dict_itemiterator_next ?_ (PySem.F.args_dict_itemiterator_next_1 _))))
  refine wpAny_bind (wpAny_pure ?_)
  refine wpAny_bind ?_
  refine wpAny_bind ?_
  refine wpAny_bind (wpAny_typeNameOfWhole_itemiter hT (wpAny_pure ?_))
  refine wpAny_bind (wpAny_fieldsOf hit rfl ?_)
  have hown : Builtin.Dict_items.ownsTuple "dict_itemiterator" = true := by decide
  simp only [hown, if_true]
  show wpAny _ _ (if (Value.ref d == Value.none) = true then _ else _) _ _ _
  rw [if_neg (show ¬ ((Value.ref d == Value.none) = true) from Bool.false_ne_true)]
  refine wpAny_bind (wpAny_pure ?_)
  refine wpAny_bind (wpAny_dictEntries hod hdd ?_)
  rw [if_neg (by simp)]
  refine wpAny_bind (wpAny_pure ?_)
  refine wpAny_bind (wpAny_dictEpoch hod hdd ?_)
  rw [if_neg (by simp)]
  refine wpAny_pure ?_
  simp only [show ¬ ((i : Int) < 0) from by (first | decide | assumption | omega), if_false, Int.toNat_natCast, he]
  refine wpAny_bind ?_
  refine wpAny_bind (wpAny_typeNameOfWhole_itemiter hT (wpAny_pure ?_))
  refine wpAny_bind (wpAny_isOneOf_itemiter hT ?_)
  show wpAny _ _ (setField (.ref it) 3 (rawInt ((i : Int) + 1)) >>= _) _ _ ⟨hp, g, dr, tk, os⟩
  refine wpAny_bind (wpAny_setField_rec hit (by simp) fun h₁ he₁ hs₁ => ?_)
  replace hs₁ : Heap.SameBut it hp h₁ := hs₁
  replace he₁ : ItOut h₁ it d (i + 1) es.size ep ok ov .none := by
    have e : ((i + 1 : Nat) : Int) = (i : Int) + 1 := by (first | decide | assumption | omega)
    unfold ItOut; rw [e]; simpa [rawInt] using he₁
  have hT₁ : Shared.TypeIs ⟨h₁, g, dr, tk, os⟩ (.ref it) "dict_itemiterator" := ⟨_, he₁, rfl⟩
  refine wpAny_bind (wpAny_holding ?_)
  refine wpAny_bind (wpAny_isOneOf_itemiter hT₁ ?_)
  refine wpAny_bind (wpAny_isOneOf_itemiter hT₁ ?_)
  show wpAny _ _ (Builtin.Dict_items.pairFromOwner (.ref it) 6 e.key e.val) _ _ ⟨h₁, g, dr, tk, os⟩
  unfold Builtin.Dict_items.pairFromOwner
  refine wpAny_bind (wpAny_newTuple ?_)
  have he₂ : ItOut (h₁.push { cls := .type "tuple", data := .seq #[e.key, e.val] }) it d (i + 1) es.size ep ok ov .none := Heap.get?_push_of_some _ he₁
  generalize hh₂ : h₁.push { cls := .type "tuple", data := .seq #[e.key, e.val] } = h₂ at he₂
  have hz₁ : h₁.objs.size = hp.objs.size := hs₁.1
  have hil : it < hp.objs.size := Heap.lt_size hit
  have ht₂ : h₂.get? hp.objs.size = some { cls := .type "tuple", data := .seq #[e.key, e.val] } := by rw [← hh₂, ← hz₁]; exact Heap.get?_push_size _ rfl
  have hk₂ : ∀ b o, b ≠ it → hp.get? b = some o → h₂.get? b = some o := fun b o hb e => by rw [← hh₂]; exact Heap.get?_push_of_some _ (hs₁.extBut b o hb e)
  show wpAny _ _ (Builtin.Dict_items.ownedTupleIsFree (.ref it) >>= _) _ _ ⟨h₂, g, dr, tk, os⟩
  rw [hz₁]
  clear hh₂ he₁ hs₁ hT₁ hz₁ h₁
  refine wpAny_bind ?_
  unfold Builtin.Dict_items.ownedTupleIsFree
  refine wpAny_bind (wpAny_field he₂ rfl (x := .none) rfl (wpAny_pure ?_))
  simp only [if_true]
  refine wpAny_bind (wpAny_field he₂ rfl (x := ok) rfl ?_)
  refine wpAny_bind (wpAny_field he₂ rfl (x := ov) rfl ?_)
  refine wpAny_bind (wpAny_setField_rec he₂ (by simp) fun h₃ he₃ hs₃ => ?_)
  replace hs₃ : Heap.SameBut it h₂ h₃ := hs₃
  replace he₃ : ItOut h₃ it d (i + 1) es.size ep e.key ov .none := he₃
  refine wpAny_bind (wpAny_setField_rec he₃ (by simp) fun h₄ he₄ hs₄ => ?_)
  replace hs₄ : Heap.SameBut it h₃ h₄ := hs₄
  replace he₄ : ItOut h₄ it d (i + 1) es.size ep e.key e.val .none := he₄
  refine wpAny_bind (wpAny_setField_rec he₄ (by simp) fun h₅ he₅ hs₅ => ?_)
  replace hs₅ : Heap.SameBut it h₄ h₅ := hs₅
  replace he₅ : ItOut h₅ it d (i + 1) es.size ep e.key e.val (rawInt hp.objs.size) := he₅
  refine wpAny_bind (wpAny_setField_rec he₅ (by simp) fun h₆ he₆ hs₆ => ?_)
  replace hs₆ : Heap.SameBut it h₅ h₆ := hs₆
  replace he₆ : ItOut h₆ it d (i + 1) es.size ep e.key e.val (rawInt hp.objs.size) := he₆
  refine wpAny_bind (wpAny_letGo (wpAny_pure (wpAny_pure ⟨_, rfl, wpAny_pure (hQ h₆ he₆ ?_ ?_)⟩)))
  · exact hs₆.extBut _ _ (Nat.ne_of_gt hil) (hs₅.extBut _ _ (Nat.ne_of_gt hil) (hs₄.extBut _ _ (Nat.ne_of_gt hil) (hs₃.extBut _ _ (Nat.ne_of_gt hil) ht₂)))
  · exact fun b o hb e => hs₆.extBut b o hb (hs₅.extBut b o hb (hs₄.extBut b o hb (hs₃.extBut b o hb (hk₂ b o hb e))))

theorem raw_next_items_end {Q : Option Value → Shared → Prop} (hh : A.handled = none) (hit : ItOut s.heap it d es.size es.size ep ok ov .none)
    (hod : s.heap.get? d = some od) (hdd : od.data = .dict es ep)
    (hQ : ∀ h', Heap.ExtBut it s.heap h' → Q none { s with heap := h' }) : wpAny (model prog w) A (pyNext (.ref it)) Q E s := by
  have hT : s.TypeIs (.ref it) "dict_itemiterator" := ⟨_, hit, rfl⟩
  unfold pyNext
  refine wpAny_bind (wpAny_attempt (wpAny_callSpecial?_slot (name := Str.ofString "__next__") hT PySem.F.slot_dict_itemiterator_next
    (wpAny_call_entry PySem.F.slot_dict_itemiterator_next hT PySem.F.entry_dict_itemiterator_next ?_ (PySem.F.args_dict_itemiterator_next_1 _))))
  refine wpAny_bind (wpAny_pure ?_)
  refine wpAny_bind ?_
  refine wpAny_bind ?_
  refine wpAny_bind (wpAny_typeNameOfWhole_itemiter hT (wpAny_pure ?_))
  refine wpAny_bind (wpAny_fieldsOf hit rfl ?_)
  have hown : Builtin.Dict_items.ownsTuple "dict_itemiterator" = true := by decide
  simp only [hown, if_true]
  show wpAny _ _ (if (Value.ref d == Value.none) = true then _ else _) _ _ s
  rw [if_neg (show ¬ ((Value.ref d == Value.none) = true) from Bool.false_ne_true)]
  refine wpAny_bind (wpAny_pure ?_)
  refine wpAny_bind (wpAny_dictEntries hod hdd ?_)
  rw [if_neg (by simp)]
  refine wpAny_bind (wpAny_pure ?_)
  refine wpAny_bind (wpAny_dictEpoch hod hdd ?_)
  rw [if_neg (by simp)]
  refine wpAny_pure ?_
  simp only [show ¬ ((es.size : Int) < 0) from by (first | decide | assumption | omega), if_false, Int.toNat_natCast, Array.getElem?_eq_none (Nat.le_refl es.size)]
  refine wpAny_bind ?_
  refine wpAny_bind (wpAny_typeNameOfWhole_itemiter hT (wpAny_pure ?_))
  show wpAny _ _ (setField (.ref it) 2 .none >>= _) _ _ s
  refine wpAny_bind (wpAny_setField hit rfl (by simp) ?_)
  show wpAny _ _ (newExc (.type "StopIteration") [] >>= _) _ _ _
  refine wpAny_bind ?_
  simp only [newExc, newTuple]
  refine wpAny_bind (wpAny_newObj_type ?_ (by size_fits))
  refine wpAny_bind (m := firstArgMember _ _) (wpAny_of_eq (a := Value.none) (by first | rfl | (simp only [firstArgMember]; rfl)) ?_)
  refine wpAny_newObj_type ?_ (by size_fits)
  simp only [raiseNew]
  refine wpAny_bind (wpAny_handled ?_)
  rw [show A.in1.handled = none from hh]
  refine wpAny_bind (wpAny_pure (wpAny_throw ?_))
  refine wpAny_bind (wpAny_isInstance (T := "StopIteration") (b := true) ⟨_, Heap.get?_push_size _ rfl, rfl⟩ isSubtype_stop ?_)
  exact wpAny_pure (hQ _ (((Heap.SameBut.update ..).extBut.push _).push _))

theorem raw_next_key {e : DictEntry} {Q : Option Value → Shared → Prop} (hit : KeyOut s.heap it d i es.size ep)
    (hod : s.heap.get? d = some od) (hdd : od.data = .dict es ep) (he : es[i]? = some e)
    (hQ : ∀ h', KeyOut h' it d (i + 1) es.size ep → Heap.SameBut it s.heap h' → Q (some e.key) { s with heap := h' }) :
    wpAny (model prog w) A (pyNext (.ref it)) Q E s := by
  have hT : s.TypeIs (.ref it) "dict_keyiterator" := ⟨_, hit, rfl⟩
  unfold pyNext
  refine wpAny_bind (wpAny_attempt (wpAny_callSpecial?_slot (name := Str.ofString "__next__") hT PySem.F.slot_dict_keyiterator_next
    (wpAny_call_entry PySem.F.slot_dict_keyiterator_next hT PySem.F.entry_dict_keyiterator_next ?_ (PySem.F.args_dict_keyiterator_next_1 _))))
  refine wpAny_bind (wpAny_pure ?_)
  refine wpAny_bind ?_
  refine wpAny_bind ?_
  refine wpAny_bind (wpAny_typeNameOfWhole_keyiter hT (wpAny_pure ?_))
  refine wpAny_bind (wpAny_fieldsOf hit rfl ?_)
  have hown : Builtin.Dict_items.ownsTuple "dict_keyiterator" = false := by decide
  simp only [hown, Bool.false_eq_true, if_false]
  show wpAny _ _ (if (Value.ref d == Value.none) = true then _ else _) _ _ s
  rw [if_neg (show ¬ ((Value.ref d == Value.none) = true) from Bool.false_ne_true)]
  refine wpAny_bind (wpAny_pure ?_)
  refine wpAny_bind (wpAny_dictEntries hod hdd ?_)
  rw [if_neg (by simp)]
  refine wpAny_bind (wpAny_pure ?_)
  refine wpAny_bind (wpAny_dictEpoch hod hdd ?_)
  rw [if_neg (by simp)]
  refine wpAny_pure ?_
  simp only [show ¬ ((i : Int) < 0) from by (first | decide | assumption | omega), if_false, Int.toNat_natCast, he]
  refine wpAny_bind ?_
  refine wpAny_bind (wpAny_typeNameOfWhole_keyiter hT (wpAny_pure ?_))
  refine wpAny_bind (wpAny_isOneOf_keyiter hT ?_)
  show wpAny _ _ (setField (.ref it) 1 (rawInt ((i : Int) + 1)) >>= _) _ _ s
  refine wpAny_bind (wpAny_setField_rec hit (by simp) fun h₁ he₁ hs₁ => ?_)
  replace he₁ : KeyOut h₁ it d (i + 1) es.size ep := by
    have e : ((i + 1 : Nat) : Int) = (i : Int) + 1 := by (first | decide | assumption | omega)
    unfold KeyOut; rw [e]; simpa [rawInt] using he₁
  have hT₁ : Shared.TypeIs { s with heap := h₁ } (.ref it) "dict_keyiterator" := ⟨_, he₁, rfl⟩
  refine wpAny_bind (wpAny_holding ?_)
  refine wpAny_bind (wpAny_isOneOf_keyiter hT₁ ?_)
  show wpAny _ _ (pure e.key) _ _ _
  exact wpAny_pure (wpAny_pure ⟨_, rfl, wpAny_pure (hQ _ he₁ hs₁)⟩)

theorem raw_next_keys_end {Q : Option Value → Shared → Prop} (hh : A.handled = none) (hit : KeyOut s.heap it d es.size es.size ep)
    (hod : s.heap.get? d = some od) (hdd : od.data = .dict es ep)
    (hQ : ∀ h', Heap.ExtBut it s.heap h' → Q none { s with heap := h' }) : wpAny (model prog w) A (pyNext (.ref it)) Q E s := by
  have hT : s.TypeIs (.ref it) "dict_keyiterator" := ⟨_, hit, rfl⟩
  unfold pyNext
  refine wpAny_bind (wpAny_attempt (wpAny_callSpecial?_slot (name := Str.ofString "__next__") hT PySem.F.slot_dict_keyiterator_next
    (wpAny_call_entry PySem.F.slot_dict_keyiterator_next hT PySem.F.entry_dict_keyiterator_next ?_ (PySem.F.args_dict_keyiterator_next_1 _))))
  refine wpAny_bind (wpAny_pure ?_)
  refine wpAny_bind ?_
  refine wpAny_bind ?_
  refine wpAny_bind (wpAny_typeNameOfWhole_keyiter hT (wpAny_pure ?_))
  refine wpAny_bind (wpAny_fieldsOf hit rfl ?_)
  have hown : Builtin.Dict_items.ownsTuple "dict_keyiterator" = false := by decide
  simp only [hown, Bool.false_eq_true, if_false]
  show wpAny _ _ (if (Value.ref d == Value.none) = true then _ else _) _ _ s
  rw [if_neg (show ¬ ((Value.ref d == Value.none) = true) from Bool.false_ne_true)]
  refine wpAny_bind (wpAny_pure ?_)
  refine wpAny_bind (wpAny_dictEntries hod hdd ?_)
  rw [if_neg (by simp)]
  refine wpAny_bind (wpAny_pure ?_)
  refine wpAny_bind (wpAny_dictEpoch hod hdd ?_)
  rw [if_neg (by simp)]
  refine wpAny_pure ?_
  simp only [show ¬ ((es.size : Int) < 0) from by (first | decide | assumption | omega), if_false, Int.toNat_natCast, Array.getElem?_eq_none (Nat.le_refl es.size)]
  refine wpAny_bind ?_
  refine wpAny_bind (wpAny_typeNameOfWhole_keyiter hT (wpAny_pure ?_))
  show wpAny _ _ (setField (.ref it) 0 .none >>= _) _ _ s
  refine wpAny_bind (wpAny_setField hit rfl (by simp) ?_)
  show wpAny _ _ (newExc (.type "StopIteration") [] >>= _) _ _ _
  refine wpAny_bind ?_
  simp only [newExc, newTuple]
  refine wpAny_bind (wpAny_newObj_type ?_ (by size_fits))
  refine wpAny_bind (m := firstArgMember _ _) (wpAny_of_eq (a := Value.none) (by first | rfl | (simp only [firstArgMember]; rfl)) ?_)
  refine wpAny_newObj_type ?_ (by size_fits)
  simp only [raiseNew]
  refine wpAny_bind (wpAny_handled ?_)
  rw [show A.in1.handled = none from hh]
  refine wpAny_bind (wpAny_pure (wpAny_throw ?_))
  refine wpAny_bind (wpAny_isInstance (T := "StopIteration") (b := true) ⟨_, Heap.get?_push_size _ rfl, rfl⟩ isSubtype_stop ?_)
  exact wpAny_pure (hQ _ (((Heap.SameBut.update ..).extBut.push _).push _))

/-- a pair that its owner may have back -/
theorem raw_letGo {elts : List Expr} {x1} {pos : Pos} {a : Addr} {n : Nat} {Q : Unit → Shared → Prop} (he : ItOut s.heap it d i n ep ok ov (rawInt a))
    (hQ : ∀ h', ItOut h' it d i n ep ok ov .none → Heap.SameBut it s.heap h' → Q () { s with heap := h' }) :
    wpAny (model prog w) A (letOwnedTupleGo (.Tuple elts x1 pos) (.ref it) (.ref a)) Q E s :=
  wpAny_letOwnedTupleGo_items (ok := ok) (ov := ov) (d := d) (i := i) (n := n) (ep := ep) he hQ
end
end Mine
namespace Mine
open PySem PySem.W PySem.Calls PySem.Spec PyProof.Rows PySem.SeqAt

/-! ## dicts -/
structure DK (prog : Program) (w : World) (K : Type) [DecidableEq K] where
  enc : K → PyData
  obj : Heap → Obj → List (K × Value) → Prop
  mono : ∀ {g h : Heap} {o : Obj} {xs : List (K × Value)}, Sub g h → obj g o xs → obj h o xs
  ents : ∀ {g : Heap} {o : Obj} {xs : List (K × Value)}, obj g o xs → o.ExactDict ∧ ∃ es ep, o.data = .dict es ep ∧ es.size = xs.length ∧ ∀ (i : Nat) (k : K) (v : Value), xs[i]? = some (k, v) → ∃ e, es[i]? = some e ∧ e.val = v ∧ (Rk.dat (enc k)).holds g e.key
  new : ∀ g, obj g { cls := .type "dict", data := .dict #[] } []
  get : ∀ {A : Around} {E : Value → Shared → Prop} {s : Shared} {d : Addr} {o : Obj} {xs : List (K × Value)} {k : K} {key dflt : Value} {Q : Value → Shared → Prop}, A.units + 10 < cLine → s.heap.get? d = some o → (d == sysModules) = false → obj s.heap o xs →
    (Rk.dat (enc k)).holds s.heap key → (∀ t, Q ((valueAt xs k).getD dflt) { s with toks := t }) → wpAny (model prog w) A (call (.builtin "dict.get") [.ref d, key, dflt]) Q E s
  item : ∀ {A : Around} {E : Value → Shared → Prop} {s : Shared} {d : Addr} {o : Obj} {xs : List (K × Value)} {k : K} {key v : Value} {Q : Value → Shared → Prop}, A.units + 10 < cLine → s.heap.get? d = some o → obj s.heap o xs →
    (Rk.dat (enc k)).holds s.heap key → valueAt xs k = some v → (∀ t, Q v { s with toks := t }) → wpAny (model prog w) A (getItem (.ref d) key) Q E s
  set : ∀ {A : Around} {E : Value → Shared → Prop} {s : Shared} {d : Addr} {o : Obj} {xs : List (K × Value)} {k : K} {key v : Value} {Q : Unit → Shared → Prop}, A.units + 10 < cLine → s.heap.get? d = some o → obj s.heap o xs →
    (Rk.dat (enc k)).holds s.heap key → xs.length ≤ 100000 → (∀ h' t o', h'.get? d = some o' → Heap.SameBut d s.heap h' → (∀ g, Sub g s.heap → obj g o xs → (Rk.dat (enc k)).holds g key → obj g o' (stored xs k v)) → Q () { s with heap := h', toks := t }) →
    wpAny (model prog w) A (setItem (.ref d) key v) Q E s

section
variable {prog : Program} {w : World}
theorem pairs_at {es : List DictEntry} {kvs : List (Int × Value)} (h : Pairs (intKind prog w) es kvs) : ∀ (i : Nat) (k : Int) (v : Value), kvs[i]? = some (k, v) → ∃ e, es[i]? = some e ∧ e.val = v ∧ ∃ t, e.key = .int k t := by
  induction h with
  | nil => intro i k v h; simp at h
  | cons h1 h2 _ ih =>
    intro i k v hx
    cases i with
    | zero =>
      simp only [List.getElem?_cons_zero, Option.some.injEq] at hx
      subst hx
      exact ⟨_, rfl, h2, Value.isInt_shape h1⟩
    | succ j => exact ih j k v (by simpa using hx)

noncomputable def intK (prog : Program) (w : World) : DK prog w Int where
  enc := PyData.int
  obj := fun _ o xs => o.IsDictOf (intKind prog w) xs
  mono := fun _ h => h
  ents := fun {g o xs} h => by
    obtain ⟨es, ep, hc, hd, hk, hp, hn⟩ := h
    refine ⟨hc, es, ep, hd, by rw [← hp.length]; simp, fun i k v hx => ?_⟩
    obtain ⟨e, he, hv, t, ht⟩ := pairs_at hp i k v hx
    exact ⟨e, by simpa using he, hv, by rw [ht]; exact int_holds k t⟩
  new := fun g => ⟨#[], 0, ⟨rfl, rfl, rfl⟩, rfl, fun _ he => by simp at he, .nil, List.nodup_nil⟩
  get := fun {A E s d o xs k key dflt Q} hu ho hd hx hk h => by
    obtain ⟨t, rfl⟩ := holds_int hk
    have hm : s.heap.MapOf (intKind prog w) d (valueAt xs) := (Heap.dictOf_iff.mpr ⟨o, ho, hx⟩).mapOf
    exact call_meetsIn PySem.F.slot_dict_get hm.typeIs PySem.F.entry_dict_get (PySem.F.args_dict_get_3 _ _ _) (meets_dict_get_default (knd := intKind prog w) (d := d) (hkey := intKind_is prog w k t) (hd := hd) (dflt := dflt)) ⟨_, hm, h _⟩
  item := fun {A E s d o xs k key v Q} hu ho hx hk hv h => by
    obtain ⟨t, rfl⟩ := holds_int hk
    have hm : s.heap.MapOf (intKind prog w) d (valueAt xs) := (Heap.dictOf_iff.mpr ⟨o, ho, hx⟩).mapOf
    exact wpAny_getItem_of (intKind_is prog w k t) hm hv (h _)
  set := fun {A E s d o xs k key v Q} hu ho hx hk hsz h => by
    obtain ⟨t, rfl⟩ := holds_int hk
    have hm : s.heap.DictOf (intKind prog w) d xs := Heap.dictOf_iff.mpr ⟨o, ho, hx⟩
    refine wpAny_setItem_pairs (intKind_is prog w k t) hm (fun h' hm' hsb => ?_) (by rw [sizeLine_eq]; (first | decide | assumption | omega))
    obtain ⟨o', ho', hx'⟩ := Heap.dictOf_iff.mp hm'
    exact h _ _ o' ho' hsb fun _ _ _ _ => hx'

theorem items_are {g : Heap} : ∀ {ks : List Int} {vs : List Value}, allHold g ((zs ks).map .dat) vs → ItemsAre (intKind prog w) ks vs
  | [], [], _ => .nil
  | [], _ :: _, h => h.elim
  | _ :: _, [], h => h.elim
  | k :: ks, v :: vs, h => by
    obtain ⟨t, rfl⟩ := holds_int h.1
    exact .cons (intKind_is prog w k t) (items_are h.2)
theorem tup_key {g : Heap} {ks : List Int} {v : Value} (h : (dTup (zs ks)).holds g v) : ∃ a, v = .ref a ∧ IsTupleKey (intKind prog w) g ks a := by
  obtain ⟨a, vs, rfl, ⟨o, ho, hc, n, hd⟩, h2⟩ := holds_tup h
  exact ⟨a, rfl, o, vs.toArray, n, ho, hc, hd, by simpa using items_are h2⟩

noncomputable def tupObj (prog : Program) (w : World) (g : Heap) (o : Obj) (xs : List (List Int × Value)) : Prop :=
  ∃ hs : List (List Int × Addr × Value), xs = hs.map (fun x => (x.1, x.2.2)) ∧ o.ExactDict ∧ (∃ es ep, o.data = .dict es ep ∧ es.toList = hs.map (entryOfKey (tupleKind (intKind prog w)))) ∧
    (∀ x ∈ hs, (dTup (zs x.1)).holds g (.ref x.2.1)) ∧ (hs.map (·.1)).Nodup
theorem tupObj.dictOfH {h : Heap} {d : Addr} {o : Obj} {xs : List (List Int × Value)} (ho : h.get? d = some o) (x : tupObj prog w h o xs) : ∃ hs : List (List Int × Addr × Value), xs = hs.map (fun x => (x.1, x.2.2)) ∧ h.DictOfH (tupleKind (intKind prog w)) d hs := by
  obtain ⟨hs, e, hc, ⟨es, ep, hd, he⟩, hh, hn⟩ := x
  refine ⟨hs, e, o, es, ep, ho, hc, hd, he, fun x hx => ?_, hn⟩
  obtain ⟨a, ea, hk⟩ := tup_key (prog := prog) (w := w) (hh x hx)
  cases ea; exact hk
theorem atKey_value (hs : List (List Int × Addr × Value)) (k : List Int) : (atKey hs k).map (·.2) = valueAt (hs.map fun x => (x.1, x.2.2)) k := by
  unfold atKey valueAt
  rw [List.find?_map]
  simp only [Option.map_map]
  rfl
theorem storedH_value (hs : List (List Int × Addr × Value)) (k : List Int) (a : Addr) (v : Value) : (storedH hs k a v).map (fun x => (x.1, x.2.2)) = stored (hs.map fun x => (x.1, x.2.2)) k v := by
  cases h : atKey hs k with
  | none =>
    rw [storedH_new h]
    unfold stored
    have : ((hs.map fun x => (x.1, x.2.2)).any fun kv => decide (kv.1 = k)) = false := by
      rw [List.any_eq_false]
      intro p hp
      obtain ⟨x, hx, rfl⟩ := List.mem_map.mp hp
      unfold atKey at h
      rw [Option.map_eq_none_iff] at h
      have := List.find?_eq_none.mp h x hx
      simpa using this
    rw [this]
    simp
  | some p =>
    rw [storedH_old h]
    unfold stored
    have : ((hs.map fun x => (x.1, x.2.2)).any fun kv => decide (kv.1 = k)) = true := by
      rw [List.any_eq_true]
      unfold atKey at h
      obtain ⟨x, hx, hp⟩ := Option.map_eq_some_iff.mp h
      exact ⟨(x.1, x.2.2), List.mem_map.mpr ⟨x, List.mem_of_find?_eq_some hx, rfl⟩, by simpa using List.find?_some hx⟩
    rw [this]
    simp only [if_true, List.map_map]
    apply List.map_congr_left
    intro x _
    simp only [Function.comp, putAt]
    split <;> rfl
theorem hs_eq : ∀ {hs hs' : List (List Int × Addr × Value)}, hs.map (fun x => (x.1, x.2.2)) = hs'.map (fun x => (x.1, x.2.2)) → hs.map (entryOfKey (tupleKind (intKind prog w))) = hs'.map (entryOfKey (tupleKind (intKind prog w))) → hs = hs'
  | [], [], _, _ => rfl
  | [], _ :: _, h, _ => by simp at h
  | _ :: _, [], h, _ => by simp at h
  | x :: hs, y :: hs', h1, h2 => by
    simp only [List.map_cons, List.cons.injEq] at h1 h2
    rw [hs_eq h1.2 h2.2]
    obtain ⟨k, a, v⟩ := x
    obtain ⟨k', a', v'⟩ := y
    have e1 := h1.1
    have e2 := h2.1
    simp only [entryOfKey, Prod.mk.injEq, DictEntry.mk.injEq, Value.ref.injEq] at e1 e2
    obtain ⟨rfl, rfl⟩ := e1
    rw [e2.2.1]
theorem mem_storedH {hs : List (List Int × Addr × Value)} {k : List Int} {a : Addr} {v : Value} {x : List Int × Addr × Value} (h : x ∈ storedH hs k a v) : (x.1 = k ∧ x.2.1 = a) ∨ ∃ y ∈ hs, y.1 = x.1 ∧ y.2.1 = x.2.1 := by
  cases hk : atKey hs k with
  | none =>
    rw [storedH_new hk] at h
    rcases List.mem_append.mp h with h | h
    · exact .inr ⟨x, h, rfl, rfl⟩
    · simp only [List.mem_singleton] at h; subst h; exact .inl ⟨rfl, rfl⟩
  | some p =>
    rw [storedH_old hk] at h
    obtain ⟨y, hy, rfl⟩ := List.mem_map.mp h
    refine .inr ⟨y, hy, ?_⟩
    unfold putAt; split <;> exact ⟨rfl, rfl⟩

noncomputable def tupK (prog : Program) (w : World) : DK prog w (List Int) where
  enc := fun ks => .tuple (zs ks)
  obj := tupObj prog w
  mono := fun k ⟨hs, e, hc, hd, hh, hn⟩ => ⟨hs, e, hc, hd, fun x hx => (hh x hx).mono k, hn⟩
  ents := fun {g o xs} ⟨hs, e, hc, ⟨es, ep, hd, he⟩, hh, hn⟩ => by
    refine ⟨hc, es, ep, hd, by rw [e, size_of_entries he, List.length_map], fun i k v hx => ?_⟩
    subst e
    rw [List.getElem?_map] at hx
    obtain ⟨x, hx2, e⟩ := Option.map_eq_some_iff.mp hx
    cases e
    exact ⟨entryOfKey (tupleKind (intKind prog w)) x, by rw [entry_at he, hx2]; rfl, rfl, hh x (List.mem_of_getElem? hx2)⟩
  new := fun g => ⟨[], rfl, ⟨rfl, rfl, rfl⟩, ⟨#[], 0, rfl, rfl⟩, fun _ h => by simp at h, List.nodup_nil⟩
  get := fun {A E s d o xs k key dflt Q} hu ho hd hx hk h => by
    obtain ⟨hs, rfl, hm⟩ := hx.dictOfH ho
    obtain ⟨a, rfl, hkk⟩ := tup_key (prog := prog) (w := w) hk
    refine call_meetsIn PySem.F.slot_dict_get hm.typeIs PySem.F.entry_dict_get (PySem.F.args_dict_get_3 _ _ _) (meetsH_dict_get_default (tupleKind (intKind prog w)) d a hd dflt) ⟨tupleKind_room_in1 (by (first | decide | assumption | omega)), k, hs, hkk, hm, ?_⟩
    rw [atKey_value]
    exact h _
  item := fun {A E s d o xs k key v Q} hu ho hx hk hv h => by
    obtain ⟨hs, rfl, hm⟩ := hx.dictOfH ho
    obtain ⟨a, rfl, hkk⟩ := tup_key (prog := prog) (w := w) hk
    rw [← atKey_value] at hv
    obtain ⟨p, hp, rfl⟩ := Option.map_eq_some_iff.mp hv
    exact wpAny_getItem_heap (tupleKind_room_in1 (by (first | decide | assumption | omega))) hkk hm hp (h _)
  set := fun {A E s d o xs k key v Q} hu ho hx hk hsz h => by
    obtain ⟨hs, e0, hm⟩ := hx.dictOfH ho
    subst e0
    obtain ⟨a, rfl, hkk⟩ := tup_key (prog := prog) (w := w) hk
    refine wpAny_setItem_heap (tupleKind_room_in1 (by (first | decide | assumption | omega))) hkk hm (fun h' hm' hsb => ?_) (by rw [List.length_map] at hsz; rw [sizeLine_eq]; (first | decide | assumption | omega))
    obtain ⟨o', es', ep', ho', hc', hd', he', his', hn'⟩ := hm'
    refine h h' _ o' ho' hsb fun g sg hg hkg => ?_
    obtain ⟨hs2, e2, _, ⟨es2, ep2, hd2, he2⟩, hh2, _⟩ := hg
    obtain ⟨o3, es3, ep3, ho3, _, hd3, he3, _, _⟩ := hm
    rw [ho] at ho3; cases ho3
    rw [hd2] at hd3
    injection hd3 with q1 q2
    subst q1
    have : hs = hs2 := hs_eq (prog := prog) (w := w) e2 (by rw [← he3, ← he2])
    subst this
    refine ⟨storedH hs k a v, (storedH_value hs k a v).symm, hc', ⟨es', ep', hd', he'⟩, fun x hx => ?_, hn'⟩
    rcases mem_storedH hx with ⟨e1, e2⟩ | ⟨y, hy, e1, e2⟩
    · rw [e1, e2]; exact hkg
    · rw [← e1, ← e2]; exact hh2 y hy
end

/-! ### what a dict holds -/
section
variable {K : Type} [DecidableEq K]
noncomputable def kvHold (g : Heap) : List (K × Rk) → List (K × Value) → Prop
  | [], [] => True
  | x :: xs, y :: ys => x.1 = y.1 ∧ x.2.holds g y.2 ∧ kvHold g xs ys
  | _, _ => False
theorem kvHold.mono {g g' : Heap} (k : Sub g g') : ∀ {xs : List (K × Rk)} {ys : List (K × Value)}, kvHold g xs ys → kvHold g' xs ys
  | [], [], _ => trivial
  | [], _ :: _, h => h.elim
  | _ :: _, [], h => h.elim
  | _ :: _, _ :: _, h => ⟨h.1, h.2.1.mono k, h.2.2.mono k⟩
theorem kvHold.length {g : Heap} : ∀ {xs : List (K × Rk)} {ys : List (K × Value)}, kvHold g xs ys → ys.length = xs.length
  | [], [], _ => rfl
  | [], _ :: _, h => h.elim
  | _ :: _, [], h => h.elim
  | _ :: _, _ :: _, h => by simp [h.2.2.length]
theorem kvHold.get {g : Heap} : ∀ {xs : List (K × Rk)} {ys : List (K × Value)}, kvHold g xs ys → ∀ {i : Nat} {k : K} {r : Rk}, xs[i]? = some (k, r) → ∃ v, ys[i]? = some (k, v) ∧ r.holds g v
  | [], _, _, i, k, r, e => by simp at e
  | _ :: _, [], h, _, _, _, _ => h.elim
  | x :: _, y :: _, h, 0, k, r, e => by
    simp at e; subst e
    obtain ⟨k', v⟩ := y
    have := h.1
    simp only at this
    subst this
    exact ⟨v, rfl, h.2.1⟩
  | _ :: _, _ :: _, h, i + 1, k, r, e => by simpa using h.2.2.get (i := i) (k := k) (r := r) (by simpa using e)

noncomputable def lookR (xs : List (K × Rk)) (k : K) : Option Rk := (xs.find? fun x => x.1 = k).map (·.2)
noncomputable def putR (xs : List (K × Rk)) (k : K) (r : Rk) : List (K × Rk) := if xs.any (fun x => x.1 = k) then xs.map (fun x => if x.1 = k then (x.1, r) else x) else xs ++ [(k, r)]
theorem kvHold.look {g : Heap} (k : K) : ∀ {xs : List (K × Rk)} {ys : List (K × Value)}, kvHold g xs ys → (∀ r, lookR xs k = some r → ∃ v, valueAt ys k = some v ∧ r.holds g v) ∧ (lookR xs k = none → valueAt ys k = none)
  | [], [], _ => ⟨fun r h => by simp [lookR] at h, fun _ => rfl⟩
  | [], _ :: _, h => h.elim
  | _ :: _, [], h => h.elim
  | x :: xs, y :: ys, h => by
    unfold lookR valueAt
    rw [List.find?_cons, List.find?_cons, h.1]
    by_cases e : y.1 = k
    · simp only [e, decide_true, Option.map_some]
      exact ⟨fun r hr => by cases hr; exact ⟨_, rfl, h.2.1⟩, fun hr => by cases hr⟩
    · simp only [e, decide_false]
      exact kvHold.look k h.2.2
theorem kvHold.any {g : Heap} (k : K) : ∀ {xs : List (K × Rk)} {ys : List (K × Value)}, kvHold g xs ys → (xs.any fun x => x.1 = k) = (ys.any fun y => y.1 = k)
  | [], [], _ => rfl
  | [], _ :: _, h => h.elim
  | _ :: _, [], h => h.elim
  | x :: xs, y :: ys, h => by rw [List.any_cons, List.any_cons, h.1, kvHold.any k h.2.2]
theorem kvHold.append {g : Heap} : ∀ {xs as : List (K × Rk)} {ys bs : List (K × Value)}, kvHold g xs ys → kvHold g as bs → kvHold g (xs ++ as) (ys ++ bs)
  | [], _, [], _, _, b => b
  | [], _, _ :: _, _, h, _ => h.elim
  | _ :: _, _, [], _, h, _ => h.elim
  | _ :: _, _, _ :: _, _, h, b => ⟨h.1, h.2.1, h.2.2.append b⟩
theorem kvHold.setAll {g : Heap} (k : K) {r : Rk} {v : Value} (hr : r.holds g v) : ∀ {xs : List (K × Rk)} {ys : List (K × Value)}, kvHold g xs ys → kvHold g (xs.map fun x => if x.1 = k then (x.1, r) else x) (ys.map fun y => if y.1 = k then (y.1, v) else y)
  | [], [], _ => trivial
  | [], _ :: _, h => h.elim
  | _ :: _, [], h => h.elim
  | x :: xs, y :: ys, h => by
    simp only [List.map_cons]
    refine ⟨?_, ?_, kvHold.setAll k hr h.2.2⟩
    · rw [h.1]; split <;> simp [h.1]
    · rw [h.1]; split
      · exact hr
      · exact h.2.1
theorem kvHold.put {g : Heap} {k : K} {r : Rk} {v : Value} (hr : r.holds g v) {xs : List (K × Rk)} {ys : List (K × Value)} (h : kvHold g xs ys) : kvHold g (putR xs k r) (stored ys k v) := by
  unfold putR stored
  rw [h.any k]
  split
  · exact h.setAll k hr
  · exact h.append ⟨rfl, hr, trivial⟩
end

noncomputable abbrev DKC (C : Cx) (K : Type) [DecidableEq K] := DK C.lay.prog C.lay.w K
section
variable {K : Type} [DecidableEq K] {prog : Program} {w : World}
noncomputable def dictM (δ : DK prog w K) (kvs : List (K × Rk)) : Mk := .gen fun g o => ∃ xs, kvHold g kvs xs ∧ δ.obj g o xs
noncomputable def dictR (δ : DK prog w K) (kvs : List (K × Rk)) : Rk := .gen fun g v => ∃ d o xs, v = .ref d ∧ (d == sysModules) = false ∧ g.get? d = some o ∧ kvHold g kvs xs ∧ δ.obj g o xs
end
section
variable {C : Cx} {ρ : Vs} {μ : Ms} {e e1 e2 e3 : Expr} {r r0 q : Rk} {pos np apos xp tp : Pos} {x y : Str} {es : List Expr} {rs : List Rk} {P : Post} {K : Type} [DecidableEq K] {δ : DKC C K} {kvs : List (K × Rk)} {k : K}

theorem St.update {g h h' : Heap} {m : Str → Option Value} {a : Addr} {k k' : Mk} (S : St C g m ((a, k) :: μ) h) (hsb : Heap.SameBut a h h') {o' : Obj} (ho' : h'.get? a = some o') (hk' : k'.holds g o') : St C g m ((a, k') :: μ) h' := by
  obtain ⟨⟨o, ho, hko⟩, hL, hg, h0⟩ := S.mu (a, k) (.head _)
  have up : ∀ b o, b ≠ a → h.get? b = some o → h'.get? b = some o := fun b o hb e => (hsb.2 b hb).trans e
  refine ⟨S.ns.at (fun o e => up _ o (Ne.symm hL) e), fun b o e => up b o (by rintro rfl; rw [hg] at e; cases e) (S.keep b o e), fun b o e => up b o (by rintro rfl; rw [h0] at e; cases e) (S.old b o e), S.sub0, S.back, S.gL, S.oL, ?_, S.nd⟩
  intro p hp
  rcases List.mem_cons.mp hp with rfl | hp
  · exact ⟨⟨o', ho', hk'⟩, hL, hg, h0⟩
  · obtain ⟨⟨o2, h1, h2⟩, r⟩ := S.mu p (.tail _ hp)
    refine ⟨⟨o2, up _ _ ?_ h1, h2⟩, r⟩
    have := S.nd
    rw [List.map_cons, List.nodup_cons] at this
    intro e
    exact this.1 (List.mem_map.mpr ⟨p, hp, e⟩)

/-- a value that is a dict, turning or not -/
noncomputable def DictV (C : Cx) (μ : Ms) {K : Type} [DecidableEq K] (δ : DKC C K) (r : Rk) (kvs : List (K × Rk)) : Prop := r = dictR δ kvs ∨ ∃ d, r = .val (.ref d) ∧ (d, dictM δ kvs) ∈ μ
theorem At.dictAt {τ : Ts} {s : Shared} {v : Value} (O : Ok C) (D : DictV C μ δ r kvs) (a : At C ρ μ τ s) (hv : (v, r) ∈ τ) : ∃ d o xs, v = .ref d ∧ s.heap.get? d = some o ∧ (d == sysModules) = false ∧ δ.obj s.heap o xs ∧ kvHold s.heap kvs xs ∧
    ∀ τn, (∀ g, kvHold g kvs xs → δ.obj g o xs → TmpOk g τ → TmpOk g τn) → At C ρ μ (τn ++ τ) s := by
  obtain ⟨hs, g, m, S, V, T⟩ := a
  rcases D with rfl | ⟨d, rfl, hd⟩
  · obtain ⟨g', sg, d, o, xs, rfl, h1, h2, h3, h4⟩ := T _ hv
    exact ⟨d, o, xs, rfl, S.keep _ _ (sg _ _ h2), h1, δ.mono (sg.trans S.keep) h4, h3.mono (sg.trans S.keep), fun τn h => ⟨hs, g, m, S, V, fun p hp => (List.mem_append.mp hp).elim (h g (h3.mono sg) (δ.mono sg h4) T p) (T p)⟩⟩
  · obtain ⟨⟨o, ho, g', sg, xs, h3, h4⟩, hL, hg, h0⟩ := S.mu _ hd
    have e : v = .ref d := T _ hv
    refine ⟨d, o, xs, e, ho, ?_, δ.mono (sg.trans S.keep) h4, h3.mono (sg.trans S.keep), fun τn h => ⟨hs, g, m, S, V, fun p hp => (List.mem_append.mp hp).elim (h g (h3.mono sg) (δ.mono sg h4) T p) (T p)⟩⟩
    cases hb : (d == sysModules) with
    | false => rfl
    | true =>
      rw [beq_iff_eq.mp hb] at h0
      obtain ⟨o', ho'⟩ := O.top.sm
      rw [h0] at ho'; cases ho'

theorem units (O : Ok C) : C.A.units + 10 < cLine := by have := O.un; (first | decide | assumption | omega)

/-- get with a default -/
theorem PE.get {pl : Sem Bool} {o : Expr} (O : Ok C) (p0 : PE C ρ μ o r) (D : DictV C μ δ r kvs) (p1 : PE C ρ μ e1 (.dat (δ.enc k))) (p2 : PE C ρ μ e2 r0) (he : MethShape o "get" apos [e1, e2] pos C.env pl)
    (hs : backTo pos (starEach [e1, e2] C.env) = trees [e1, e2] C.env := by rfl) : PE C ρ μ (.Call (.Attribute o "get" apos) [e1, e2] [] pos) ((lookR kvs k).getD r0) := fun τ s Q E a h =>
  callM (id := "dict.get") (T := "dict") he p0 (fun τ s v a => by
      obtain ⟨d, o, xs, rfl, ho, _, hx, _⟩ := a.dictAt O D (.head _)
      have hc := (δ.ents hx).1
      exact ⟨⟨o, ho, hc.1⟩, fun b e => by cases e; exact ⟨o, ho, hc.2.1⟩⟩) PySem.F.plainAttrs_dict PySem.F.slot_dict_get PySem.F.type_dict_get (.cons p1 (.cons p2 .nil)) hs a fun v vs s1 hl a1 => by
    obtain ⟨key, df, rfl⟩ := two_of hl
    obtain ⟨d, o, xs, rfl, ho, hd, hx, hk, up⟩ := a1.dictAt (v := v) O D (by simp)
    refine δ.get (units O) ho hd hx (a1.hold (v := key) (r := .dat (δ.enc k)) (by simp)) fun t => h _ _ ?_
    have := up [((valueAt xs k).getD df, (lookR kvs k).getD r0)] fun g hg _ T p hp => by
      rw [List.mem_singleton.mp hp]
      obtain ⟨l1, l2⟩ := hg.look k
      cases hr : lookR kvs k with
      | none => rw [l2 hr]; exact T (df, r0) (by simp)
      | some r' => obtain ⟨v', e1, e2⟩ := l1 r' hr; rw [e1]; exact e2
    exact (this.toks t).tmps fun p hp => by
      rcases List.mem_cons.mp hp with rfl | hp
      · simp
      · simp [hp]
theorem PE.dictItem {o : Expr} (O : Ok C) (p0 : PE C ρ μ o r) (D : DictV C μ δ r kvs) (p1 : PE C ρ μ e2 (.dat (δ.enc k))) (hk : lookR kvs k = some q)
    (hs : ∀ o i, subscripted e2 false o i = operate [o, i] (getItem o i) := by intros; rfl) : PE C ρ μ (.Subscript o e2 pos) q := fun τ s Q E a h =>
  Subscript_ (p0 τ s _ E a fun v s1 a1 => p1 _ s1 _ E a1 fun u s2 a2 => by
    obtain ⟨d, o, xs, rfl, ho, hd, hx, hkv, up⟩ := a2.dictAt (v := v) O D (by simp)
    obtain ⟨v', e1, _⟩ := (hkv.look k).1 q hk
    refine tail_any (T := "dict") ⟨o, ho, (δ.ents hx).1.1⟩ PySem.F.slot_dict_getitem.lookup (δ.item (units O) ho hx a2.top e1 fun t => h v' _ ?_) (hs _ _)
    have := up [(v', q)] fun g hg _ T p hp => by
      rw [List.mem_singleton.mp hp]
      obtain ⟨v2, e2, e3⟩ := (hg.look k).1 q hk
      rw [e1] at e2; cases e2; exact e3
    exact (this.toks t).tmps fun p hp => by
      rcases List.mem_cons.mp hp with rfl | hp
      · simp
      · simp [hp])

/-- a dict is begun -/
theorem Tx.dict0 (O : Ok C) (hk : C.env.kindOf x = some .local) (h : ∀ d, P .next ((x, .val (.ref d)) :: ρ) ((d, dictM δ []) :: μ) [])
    (hs : swapsWith (.Dict [] [] np) (some (.Name x xp)) pos.line C.env = pure false := by rfl) : Tx C ρ μ (.Assign [.Name x xp] (.Dict [] [] np) pos) P := fun τ s E a =>
  wpAny_Assign_Name (hs := hs) (wpAny_Dict_empty (by
    have a1 : At C ρ ((s.heap.objs.size, dictM δ []) :: μ) τ _ := a.allocM (k := dictM δ []) (o := { cls := .type "dict", data := .dict #[] }) rfl fun g _ _ => ⟨g, Sub.refl _, [], trivial, δ.new g⟩
    exact (a1.push (v := .ref s.heap.objs.size) (r := .val (.ref s.heap.objs.size)) fun _ _ _ => rfl).storeNs hk O.fn fun s2 a2 => ⟨_, _, [], a2, h _⟩))

/-- a place in a dict is filled -/
theorem Tx.dictSet {d : Addr} {i v : Expr} {tpos : Pos} (O : Ok C) (hx : ρ.lookup x = some (.val (.ref d))) (hk : C.env.kindOf x = some .local) (hd : (x == ("__debug__" : Str)) = false) (p : PE C ρ ((d, dictM δ kvs) :: μ) v r) (pi : PE C ρ ((d, dictM δ kvs) :: μ) i (.dat (δ.enc k)))
    (hn : kvs.length ≤ 100000) (h : P .next ρ ((d, dictM δ (putR kvs k r)) :: μ) []) (hs : swapsWith v (some (.Subscript (.Name x xp) i tpos)) pos.line C.env = pure false := by rfl) :
    Tx C ρ ((d, dictM δ kvs) :: μ) (.Assign [.Subscript (.Name x xp) i tpos] v pos) P := fun τ s E a =>
  wpAny_Assign_Subscript (hs := hs) (p τ s _ E a fun vv s1 a1 => (PE.name O hx hk hd) _ s1 _ E a1 fun dv s2 a2 => pi _ s2 _ E a2 fun iv s3 a3 => by
    have e : dv = .ref d := a3.hold (v := dv) (r := .val (.ref d)) (by simp)
    subst e
    obtain ⟨hsm, g, m, S, V, T⟩ := a3
    obtain ⟨⟨o, ho, g', sg, xs, h3, h4⟩, _⟩ := S.mu _ (.head _)
    have h4 := δ.mono sg h4
    have h3 := h3.mono sg
    have ki := T _ (.head _)
    have kv := T (vv, r) (by simp)
    refine δ.set (units O) ho (δ.mono S.keep h4) (ki.mono S.keep) (by rw [h3.length]; exact hn) fun h' t o' ho' hsb ok => ⟨_, _, [], ⟨hsm.next _ _, g, m, S.update hsb ho' (k' := dictM δ (putR kvs k r)) ⟨g, Sub.refl _, _, h3.put kv, ok g S.keep h4 ki⟩, V, fun p hp => T p (by simp [show p ∈ τ from hp])⟩, h⟩)
end
end Mine
namespace Mine
open PySem PySem.W PySem.Calls PySem.Spec PyProof.Rows PySem.SeqAt

/-! ## the sort's questions, answered by an order -/
section
variable {n : Nat} {lt : Nat → Nat → Bool}
noncomputable def okT (n : Nat) (lt : Nat → Nat → Bool) {α : Type} : KasT α → (α → Prop) → Prop
  | .ret a, P => P a
  | .ask i j k, P => i < n ∧ j < n ∧ okT n lt (k (lt i j)) P
theorem okT.bind {α β : Type} {f : α → KasT β} {P : β → Prop} : ∀ {t : KasT α}, okT n lt t (fun a => okT n lt (f a) P) → okT n lt (t.bind f) P
  | .ret a, h => h
  | .ask i j k, h => ⟨h.1, h.2.1, okT.bind (t := k (lt i j)) h.2.2⟩
theorem okT.mono {α : Type} {P Q : α → Prop} (hq : ∀ a, P a → Q a) : ∀ {t : KasT α}, okT n lt t P → okT n lt t Q
  | .ret a, h => hq a h
  | .ask i j k, h => ⟨h.1, h.2.1, okT.mono hq (t := k (lt i j)) h.2.2⟩
theorem okT.wp {α : Type} {cmp : Nat → Nat → (Bool → Shared → Prop) → Shared → Prop} {I : Shared → Prop} {Q : α → Shared → Prop}
    (hc : ∀ i j C s, i < n → j < n → I s → (∀ s', I s' → C (lt i j) s') → cmp i j C s) : ∀ {t : KasT α} {P : α → Prop} {s : Shared}, okT n lt t P → I s → (∀ a s', P a → I s' → Q a s') → t.kasWp cmp Q s
  | .ret a, _, s, h, hs, hq => hq a s h hs
  | .ask i j k, _, s, h, hs, hq => hc i j _ s h.1 h.2.1 hs fun s' hs' => okT.wp hc (t := k (lt i j)) h.2.2 hs' hq

structure LtOk (n : Nat) (lt : Nat → Nat → Bool) : Prop where
  tr : ∀ a b c, lt a b = true → lt b c = true → lt a c = true
  tot : ∀ a b, a < n → b < n → a ≠ b → lt a b = false → lt b a = true
  asy : ∀ a b, lt a b = true → lt b a = false
noncomputable def PermN (n : Nat) (p : Array Nat) : Prop := p.toList.Perm (List.range n)
theorem PermN.size {p : Array Nat} (h : PermN n p) : p.size = n := by have := h.length_eq; simpa using this
theorem PermN.bd {p : Array Nat} (h : PermN n p) {i : Nat} (hi : i < n) : p.getD i 0 < n := by
  have hs := h.size
  have : p[i]'(by (first | decide | assumption | omega)) ∈ p.toList := by simp
  have := h.mem_iff.mp this
  simp only [List.mem_range] at this
  simpa [Array.getD, hs, hi] using this
theorem PermN.inj {p : Array Nat} (h : PermN n p) {i j : Nat} (hi : i < n) (hj : j < n) (hij : i ≠ j) : p.getD i 0 ≠ p.getD j 0 := by
  have hs := h.size
  have nd : p.toList.Nodup := h.nodup_iff.mpr List.nodup_range
  intro e
  have e2 : p.toList[i]'(by simp; (first | decide | assumption | omega)) = p.toList[j]'(by simp; (first | decide | assumption | omega)) := by
    simpa [Array.getD, hs, hi, hj] using e
  exact hij ((List.getElem_inj nd).mp e2)
noncomputable def SortedTo (lt : Nat → Nat → Bool) (p : Array Nat) (k : Nat) : Prop := ∀ i j, i < j → j < k → lt (p.getD i 0) (p.getD j 0) = true
noncomputable def DescTo (lt : Nat → Nat → Bool) (p : Array Nat) (k : Nat) : Prop := ∀ i j, i < j → j < k → lt (p.getD j 0) (p.getD i 0) = true
theorem SortedTo.step (O : LtOk n lt) {p : Array Nat} {k : Nat} (hk : 1 ≤ k) (h : SortedTo lt p k) (e : lt (p.getD (k - 1) 0) (p.getD k 0) = true) : SortedTo lt p (k + 1) := by
  intro i j hij hj
  by_cases hjk : j < k
  · exact h i j hij hjk
  · have : j = k := by (first | decide | assumption | omega)
    subst this
    by_cases hik : i = j - 1
    · subst hik; exact e
    · exact O.tr _ _ _ (h i (j - 1) (by (first | decide | assumption | omega)) (by (first | decide | assumption | omega))) e
theorem DescTo.step (O : LtOk n lt) {p : Array Nat} {k : Nat} (hk : 1 ≤ k) (h : DescTo lt p k) (e : lt (p.getD k 0) (p.getD (k - 1) 0) = true) : DescTo lt p (k + 1) := by
  intro i j hij hj
  by_cases hjk : j < k
  · exact h i j hij hjk
  · have : j = k := by (first | decide | assumption | omega)
    subst this
    by_cases hik : i = j - 1
    · subst hik; exact e
    · exact O.tr _ _ _ e (h i (j - 1) (by (first | decide | assumption | omega)) (by (first | decide | assumption | omega)))

theorem ok_asc (O : LtOk n lt) {p : Array Nat} (hp : PermN n p) : ∀ (f a : Nat), 1 ≤ a → a + f ≤ n → SortedTo lt p a → okT n lt (kas_asc p f a) fun m => a ≤ m ∧ m ≤ a + f ∧ SortedTo lt p m ∧ (m = a + f ∨ lt (p.getD m 0) (p.getD (m - 1) 0) = true)
  | 0, a, h1, hn, h => ⟨Nat.le_refl _, Nat.le_refl _, h, .inl rfl⟩
  | f + 1, a, h1, hn, h => by
    refine ⟨hp.bd (by (first | decide | assumption | omega)), hp.bd (by (first | decide | assumption | omega)), ?_⟩
    cases e : lt (p.getD a 0) (p.getD (a - 1) 0) with
    | true => simp only [if_true]; exact ⟨Nat.le_refl _, by (first | decide | assumption | omega), h, .inr e⟩
    | false =>
      simp only [Bool.false_eq_true, if_false]
      refine (ok_asc O hp f (a + 1) (by (first | decide | assumption | omega)) (by (first | decide | assumption | omega)) (h.step O h1 (O.tot _ _ (hp.bd (by (first | decide | assumption | omega))) (hp.bd (by (first | decide | assumption | omega))) (hp.inj (by (first | decide | assumption | omega)) (by (first | decide | assumption | omega)) (by (first | decide | assumption | omega))) e))).mono fun m hm => ⟨by (first | decide | assumption | omega), by (first | decide | assumption | omega), hm.2.2.1, hm.2.2.2.imp (fun e => by (first | decide | assumption | omega)) id⟩
theorem ok_desc (O : LtOk n lt) {p : Array Nat} (hp : PermN n p) : ∀ (f a : Nat), 1 ≤ a → a + f ≤ n → DescTo lt p a → okT n lt (kas_desc f p a 0) fun r => r.1 = p ∧ r.2.2 = 0 ∧ a ≤ r.2.1 ∧ r.2.1 ≤ a + f ∧ DescTo lt p r.2.1
  | 0, a, h1, hn, h => ⟨rfl, rfl, Nat.le_refl _, Nat.le_refl _, h⟩
  | f + 1, a, h1, hn, h => by
    refine ⟨hp.bd (by (first | decide | assumption | omega)), hp.bd (by (first | decide | assumption | omega)), ?_⟩
    cases e : lt (p.getD a 0) (p.getD (a - 1) 0) with
    | true =>
      simp only [if_true, Nat.lt_irrefl, gt_iff_lt, if_false]
      exact (ok_desc O hp f (a + 1) (by (first | decide | assumption | omega)) (by (first | decide | assumption | omega)) (h.step O h1 e)).mono fun r hr => ⟨hr.1, hr.2.1, by (first | decide | assumption | omega), by (first | decide | assumption | omega), hr.2.2.2.2⟩
    | false =>
      simp only [Bool.false_eq_true, if_false]
      refine ⟨hp.bd (by (first | decide | assumption | omega)), hp.bd (by (first | decide | assumption | omega)), ?_⟩
      rw [O.tot _ _ (hp.bd (by (first | decide | assumption | omega))) (hp.bd (by (first | decide | assumption | omega))) (hp.inj (by (first | decide | assumption | omega)) (by (first | decide | assumption | omega)) (by (first | decide | assumption | omega))) e]
      simp only [if_true]
      exact ⟨rfl, rfl, Nat.le_refl _, by show a ≤ a + (f + 1); (first | decide | assumption | omega), h⟩
theorem rev_perm {p : Array Nat} (hp : PermN n p) (i j : Nat) : PermN n (kas_rev p i j) :=
  (Array.perm_iff_toList_perm.mp (mirror_perm p i j _)).trans hp
theorem bubble_permN {p : Array Nat} (hp : PermN n p) (k d : Nat) : PermN n (bubble p k d) :=
  (Array.perm_iff_toList_perm.mp (bubble_perm p k d)).trans hp
theorem getD_eq {p : Array Nat} {i : Nat} : p.getD i 0 = (p[i]?).getD 0 := by simp
theorem ok_descPart (O : LtOk n lt) {p : Array Nat} (hp : PermN n p) (h2 : 2 ≤ n) (e : lt (p.getD 1 0) (p.getD 0 0) = true) : okT n lt (kas_descPart 1 n p) fun r => PermN n r.2 ∧ 1 ≤ r.1 ∧ r.1 ≤ n ∧ SortedTo lt r.2 r.1 := by
  have h0 : DescTo lt p 2 := by
    intro i j hij hj
    have : i = 0 := by (first | decide | assumption | omega)
    have : j = 1 := by (first | decide | assumption | omega)
    subst i j; exact e
  unfold kas_descPart
  refine okT.bind ((ok_desc O hp (n - 2) 2 (by (first | decide | assumption | omega)) (by (first | decide | assumption | omega)) h0).mono fun r hr => ?_)
  obtain ⟨q, m, z⟩ := r
  obtain ⟨e1, e2, e3, e4, e5⟩ := hr
  simp only at e1 e2 e3 e4 e5
  subst e1 e2
  simp only [gt_iff_lt, Nat.lt_irrefl, if_false]
  unfold kas_tail3
  have hq := rev_perm hp 0 m
  have hsz := hp.size
  have hs : SortedTo lt (kas_rev q 0 m) m := by
    intro i j hij hj
    have key : ∀ k, k < m → (kas_rev q 0 m).getD k 0 = q.getD (m - 1 - k) 0 := by
      intro k hk
      rw [getD_eq, getD_eq]
      unfold kas_rev
      rw [getElem?_mirror_all (by (first | decide | assumption | omega)), if_pos (by (first | decide | assumption | omega))]
      simp
    rw [key i (by (first | decide | assumption | omega)), key j hj]
    exact e5 _ _ (by (first | decide | assumption | omega)) (by (first | decide | assumption | omega))
  refine okT.bind ((ok_asc O hq (n - m) m (by (first | decide | assumption | omega)) (by (first | decide | assumption | omega)) hs).mono fun k hk => ?_)
  exact ⟨hq, by show 1 ≤ k; (first | decide | assumption | omega), by show k ≤ n; (first | decide | assumption | omega), hk.2.2.1⟩
theorem ok_count (O : LtOk n lt) {p : Array Nat} (hp : PermN n p) (h1 : 1 ≤ n) : okT n lt (kas_count n p) fun r => PermN n r.2 ∧ 1 ≤ r.1 ∧ r.1 ≤ n ∧ SortedTo lt r.2 r.1 := by
  unfold kas_count
  refine okT.bind ((ok_asc O hp (n - 1) 1 (by (first | decide | assumption | omega)) (by (first | decide | assumption | omega)) (fun i j _ _ => by (first | decide | assumption | omega))).mono fun m hm => ?_)
  obtain ⟨m1, m2, m3, m4⟩ := hm
  split
  · exact ⟨hp, m1, by show m ≤ n; (first | decide | assumption | omega), m3⟩
  · rename_i hne
    have hne' : m ≠ n := by simpa using hne
    split
    · rename_i hm1
      refine ⟨hp.bd (by (first | decide | assumption | omega)), hp.bd (by (first | decide | assumption | omega)), ?_⟩
      rw [m3 0 (m - 1) (by (first | decide | assumption | omega)) (by (first | decide | assumption | omega))]
      simp only [if_true]
      exact ⟨hp, m1, by show m ≤ n; (first | decide | assumption | omega), m3⟩
    · rename_i hm1
      have : m = 1 := by (first | decide | assumption | omega)
      subst this
      exact ok_descPart O hp (by (first | decide | assumption | omega)) (m4.resolve_left (by (first | decide | assumption | omega)))
theorem ok_place (O : LtOk n lt) {p : Array Nat} (hp : PermN n p) {k : Nat} (hk : k < n) (hs : SortedTo lt p k) : ∀ (f l r : Nat), l ≤ r → r ≤ k → r - l ≤ f → (∀ i, i < l → lt (p.getD i 0) (p.getD k 0) = true) → (∀ i, r ≤ i → i < k → lt (p.getD k 0) (p.getD i 0) = true) →
    okT n lt (kas_place p k f l r) fun x => x ≤ k ∧ (∀ i, i < x → lt (p.getD i 0) (p.getD k 0) = true) ∧ ∀ i, x ≤ i → i < k → lt (p.getD k 0) (p.getD i 0) = true
  | 0, l, r, hlr, hr, hf, h1, h2 => ⟨by (first | decide | assumption | omega), h1, fun i hi hik => h2 i (by (first | decide | assumption | omega)) hik⟩
  | f + 1, l, r, hlr, hr, hf, h1, h2 => by
    unfold kas_place
    split
    · exact ⟨by (first | decide | assumption | omega), h1, fun i hi hik => h2 i (by (first | decide | assumption | omega)) hik⟩
    · refine ⟨hp.bd hk, hp.bd (by (first | decide | assumption | omega)), ?_⟩
      cases e : lt (p.getD k 0) (p.getD ((l + r) / 2) 0) with
      | true =>
        simp only [if_true]
        refine ok_place O hp hk hs f l ((l + r) / 2) (by (first | decide | assumption | omega)) (by (first | decide | assumption | omega)) (by (first | decide | assumption | omega)) h1 fun i hi hik => ?_
        by_cases hm : i = (l + r) / 2
        · subst hm; exact e
        · exact O.tr _ _ _ e (hs _ _ (by (first | decide | assumption | omega)) hik)
      | false =>
        simp only [Bool.false_eq_true, if_false]
        have e' := O.tot _ _ (hp.bd hk) (hp.bd (by (first | decide | assumption | omega))) (hp.inj hk (by (first | decide | assumption | omega)) (by (first | decide | assumption | omega))) e
        refine ok_place O hp hk hs f ((l + r) / 2 + 1) r (by (first | decide | assumption | omega)) hr (by (first | decide | assumption | omega)) (fun i hi => ?_) h2
        by_cases hm : i = (l + r) / 2
        · subst hm; exact e'
        · exact O.tr _ _ _ (hs _ _ (by (first | decide | assumption | omega)) (by (first | decide | assumption | omega))) e'
theorem ok_bin (O : LtOk n lt) : ∀ (f : Nat) (p : Array Nat) (k : Nat), PermN n p → f + k = n → SortedTo lt p k → okT n lt (kas_bin f p k) fun q => PermN n q ∧ SortedTo lt q n
  | 0, p, k, hp, hk, hs => ⟨hp, by have : k = n := by (first | decide | assumption | omega)
                                   exact this ▸ hs⟩
  | f + 1, p, k, hp, hk, hs => by
    unfold kas_bin
    refine okT.bind ((ok_place O hp (by (first | decide | assumption | omega)) hs k 0 k (by (first | decide | assumption | omega)) (by (first | decide | assumption | omega)) (by (first | decide | assumption | omega)) (fun i hi => by (first | decide | assumption | omega)) fun i hi hik => by (first | decide | assumption | omega)).mono fun x hx => ?_)
    obtain ⟨x1, x2, x3⟩ := hx
    have hsz := hp.size
    have key : ∀ i, (bubble p k (k - x)).getD i 0 = if i = x then p.getD k 0 else if x < i ∧ i ≤ k then p.getD (i - 1) 0 else p.getD i 0 := by
      intro i
      rw [getD_eq, getElem?_bubble (by (first | decide | assumption | omega)) (k - x) (by (first | decide | assumption | omega))]
      have : k - (k - x) = x := by (first | decide | assumption | omega)
      rw [this]
      split
      · simp
      · split <;> simp
    refine ok_bin O f _ (k + 1) (bubble_permN hp _ _) (by (first | decide | assumption | omega)) fun i j hij hj => ?_
    rw [key, key]
    by_cases hi : i = x
    · subst hi
      rw [if_pos rfl, if_neg (by (first | decide | assumption | omega)), if_pos (by (first | decide | assumption | omega))]
      exact x3 _ (by (first | decide | assumption | omega)) (by (first | decide | assumption | omega))
    · rw [if_neg hi]
      by_cases hj2 : j = x
      · subst hj2
        rw [if_pos rfl, if_neg (by (first | decide | assumption | omega))]
        exact x2 _ (by (first | decide | assumption | omega))
      · rw [if_neg hj2]
        by_cases a1 : x < i ∧ i ≤ k
        · rw [if_pos a1, if_pos (by (first | decide | assumption | omega))]
          exact hs _ _ (by (first | decide | assumption | omega)) (by (first | decide | assumption | omega))
        · rw [if_neg a1]
          by_cases a2 : x < j ∧ j ≤ k
          · rw [if_pos a2]
            by_cases a3 : i = j - 1
            · (first | decide | assumption | omega)
            · exact hs _ _ (by (first | decide | assumption | omega)) (by (first | decide | assumption | omega))
          · rw [if_neg a2]
            exact hs _ _ hij (by (first | decide | assumption | omega))
theorem ok_sort (O : LtOk n lt) (h1 : 1 ≤ n) : okT n lt (kas_sort n) fun q => PermN n q ∧ SortedTo lt q n := by
  unfold kas_sort
  refine okT.bind ((ok_count O (p := (List.range n).toArray) (List.Perm.refl _) h1).mono fun r hr => ?_)
  obtain ⟨r1, r2, r3, r4⟩ := hr
  have hm : max r.1 1 = r.1 := by (first | decide | assumption | omega)
  split
  · rw [hm]; exact ok_bin O _ _ _ r1 (by (first | decide | assumption | omega)) r4
  · exact ⟨r1, by have : r.1 = n := by (first | decide | assumption | omega)
                  exact this ▸ r4⟩
end
end Mine
namespace Mine
open PySem PySem.W PySem.Calls PySem.Spec PyProof.Rows PySem.SeqAt

/-! ## tuples of numbers in their order -/
noncomputable def lexB : List Int → List Int → Bool
  | [], [] => false
  | [], _ :: _ => true
  | _ :: _, [] => false
  | a :: x, b :: y => if a = b then lexB x y else decide (a < b)
theorem lexB_irr : ∀ x, lexB x x = false
  | [] => rfl
  | a :: x => by simp [lexB, lexB_irr x]
theorem lexB_tr : ∀ x y z, lexB x y = true → lexB y z = true → lexB x z = true
  | [], [], _, h, _ => by simp [lexB] at h
  | [], _ :: _, [], _, h => by simp [lexB] at h
  | [], _ :: _, _ :: _, _, _ => rfl
  | _ :: _, [], _, h, _ => by simp [lexB] at h
  | _ :: _, _ :: _, [], _, h => by simp [lexB] at h
  | a :: x, b :: y, c :: z, h1, h2 => by
    simp only [lexB] at h1 h2 ⊢
    split at h1
    · rename_i e; subst e
      split at h2
      · rename_i e; subst e; simp only [if_true]; exact lexB_tr x y z h1 h2
      · rename_i e; rw [if_neg e]; exact h2
    · rename_i e1
      split at h2
      · rename_i e; subst e; rw [if_neg e1]; exact h1
      · rename_i e2
        have q1 := of_decide_eq_true h1
        have q2 := of_decide_eq_true h2
        rw [if_neg (by (first | decide | assumption | omega))]
        exact decide_eq_true (by (first | decide | assumption | omega))
theorem lexB_tot : ∀ x y, x ≠ y → lexB x y = false → lexB y x = true
  | [], [], h, _ => absurd rfl h
  | [], _ :: _, _, h => by simp [lexB] at h
  | _ :: _, [], _, _ => rfl
  | a :: x, b :: y, h, e => by
    simp only [lexB] at e ⊢
    split at e
    · rename_i q; subst q; simp only [if_true]; exact lexB_tot x y (fun q => h (by rw [q])) e
    · rename_i q
      rw [if_neg (Ne.symm q)]
      have := of_decide_eq_false e
      exact decide_eq_true (by (first | decide | assumption | omega))
theorem lexB_asy (x y : List Int) (h : lexB x y = true) : lexB y x = false := by
  cases e : lexB y x with
  | false => rfl
  | true => have := lexB_tr x y x h e; rw [lexB_irr] at this; cases this
noncomputable def lexLe (x y : List Int) : Bool := !lexB y x
noncomputable def sortT (ts : List (List Int)) : List (List Int) := ts.mergeSort lexLe
theorem lexLe_tr (a b c : List Int) (h1 : lexLe a b = true) (h2 : lexLe b c = true) : lexLe a c = true := by
  simp only [lexLe, Bool.not_eq_true'] at *
  cases e : lexB c a with
  | false => rfl
  | true =>
    by_cases hab : a = b
    · subst hab; rw [h2] at e; cases e
    · have := lexB_tot b a (Ne.symm hab) h1
      have := lexB_tr _ _ _ e this
      rw [h2] at this; cases this
theorem lexLe_tot (a b : List Int) : (lexLe a b || lexLe b a) = true := by
  simp only [lexLe]
  cases e : lexB b a with
  | false => rfl
  | true => simp [lexB_asy _ _ e]
theorem sortT_perm (ts : List (List Int)) : (sortT ts).Perm ts := List.mergeSort_perm ..
theorem lexLe_anti (a b : List Int) (h1 : lexLe a b = true) (h2 : lexLe b a = true) : a = b := by
  simp only [lexLe, Bool.not_eq_true'] at *
  by_cases h : a = b
  · exact h
  · have := lexB_tot b a (Ne.symm h) h1
    rw [h2] at this; cases this
theorem sorted_unique {xs ys : List (List Int)} (hp : xs.Perm ys) (h1 : xs.Pairwise fun a b => lexLe a b = true) (h2 : ys.Pairwise fun a b => lexLe a b = true) : xs = ys :=
  hp.eq_of_pairwise (fun a b _ _ h1 h2 => lexLe_anti a b h1 h2) h1 h2
theorem sortT_pair (ts : List (List Int)) : (sortT ts).Pairwise fun a b => lexLe a b = true := List.pairwise_mergeSort (le := lexLe) lexLe_tr lexLe_tot ts
theorem sortT_eq {xs ys : List (List Int)} (hp : ys.Perm xs) (h : ys.Pairwise fun a b => lexLe a b = true) : sortT xs = ys :=
  sorted_unique ((sortT_perm xs).trans hp.symm) (sortT_pair xs) h
theorem sortT_congr {xs ys : List (List Int)} (hp : xs.Perm ys) : sortT xs = sortT ys :=
  sorted_unique ((sortT_perm xs).trans (hp.trans (sortT_perm ys).symm)) (sortT_pair xs) (sortT_pair ys)
noncomputable abbrev tups (ts : List (List Int)) : List PyData := ts.map fun t => .tuple (zs t)

section
variable {prog : Program} {w : World} {A : Around} {E : Value → Shared → Prop} {s : Shared} {Q : Bool → Shared → Prop}
noncomputable def lexF (fin : Bool) : List Int → List Int → Bool
  | [], _ => fin
  | _, [] => fin
  | a :: x, b :: y => if a = b then lexF fin x y else decide (a < b)
theorem lexF_eq : ∀ x y, lexF (decide (x.length < y.length)) x y = lexB x y
  | [], [] => rfl
  | [], _ :: _ => by simp [lexF, lexB]
  | _ :: _, [] => by simp [lexF, lexB]
  | a :: x, b :: y => by
    simp only [lexF, lexB, List.length_cons, Nat.add_lt_add_iff_right]
    split
    · exact lexF_eq x y
    · rfl
theorem lex_run {fin : Bool} : ∀ {vs us : List Value} {xs ys : List Int} (i : Nat), IntsAre vs xs → IntsAre us ys → Q (lexF fin xs ys) s → KatLex prog w A true fin Q (vs.zip us) i s
  | _, _, _, _, i, .nil, hb, h => by simp only [List.zip_nil_left]; exact h
  | _, _, _, _, i, .cons _ _ _, .nil, h => h
  | _, _, _, _, i, .cons a t hx, .cons b u hy, h => by
    rw [List.zip_cons_cons]
    refine kat_cons (wpAny_eqBool_int ?_)
    simp only [lexF] at h
    by_cases e : a = b
    · rw [if_pos e] at h
      rw [show (a == b) = true by simp [e]]
      exact kat_yes (lex_run (i + 1) hx hy h)
    · rw [if_neg e] at h
      rw [show (a == b) = false by simp [e]]
      refine kat_no ?_
      cases i with
      | zero => exact oneLt_int h
      | succ j =>
        show wpAny _ _ (oneLt' false _ _) _ _ _
        exact kat_one _ _ (PyProof.Rows.lt_int h)
noncomputable def TupAt (h : Heap) (v : Value) (t : List Int) : Prop := ∃ a o items k, v = .ref a ∧ h.get? a = some o ∧ o.cls = .type "tuple" ∧ o.data = .seq items k ∧ IntsAre items.toList t
theorem intsAre_len {vs : List Value} {ns : List Int} (h : IntsAre vs ns) : vs.length = ns.length := by
  induction h with
  | nil => rfl
  | cons _ _ _ ih => simp [ih]
theorem ask_run {vs : List Value} {i j : Nat} {C : Bool → Shared → Prop} {x y : List Int} (hi : TupAt s.heap (vs.getD i .none) x) (hj : TupAt s.heap (vs.getD j .none) y) (h : C (lexB x y) s) : kas_ask prog w A (tuples' true) vs i j C s := by
  obtain ⟨a, o, xs, k, e1, ho, hc, hd, hx⟩ := hi
  obtain ⟨b, o2, ys, k2, e2, ho2, hc2, hd2, hy⟩ := hj
  unfold kas_ask
  rw [e1, e2]
  refine kat_lt ho hd ho2 hd2 (lex_run 0 hx hy ?_)
  have l1 := intsAre_len hx
  have l2 := intsAre_len hy
  rw [← lexF_eq] at h
  simpa [← l1, ← l2] using h

theorem list_sort_small {a : Addr} {vs : List Value} {n : Nat} {P : PySem.Fin → Shared → Prop} (ho : s.heap.get? a = some (seqObj "list" vs.toArray n)) (h2 : vs.length < 2)
    (h : P (.done (.ret .none)) { s with heap := sortedHeap s.heap a vs vs.toArray }) : wpAny (model prog w) A (Builtin.«list.sort» ⟨[.ref a], []⟩) P E s := by
  rw [list_sort_plain]
  have ha : a < s.heap.objs.size := Heap.lt_size ho
  refine wpAny_bind (listItems_at ho rfl ?_)
  refine wpAny_bind (listUpdate_at ho rfl ?_ (by rw [List.size_toArray, sizeLine_eq]; (first | decide | assumption | omega)) (Nat.zero_le _))
  obtain ⟨e1, ho1⟩ : ∃ e1, (s.heap.update a (Obj.mapSeq fun _ => #[])).get? a = some (seqObj "list" #[] e1) := ⟨_, get?_update_seq ho (fun _ => #[])⟩
  refine wpAny_bind (seqEpoch_at ho1 rfl ?_)
  refine wpAny_bind (wpAny_newTuple ?_ (by show vs.length ≤ _; rw [sizeLine_eq]; (first | decide | assumption | omega)))
  refine wpAny_bind (wpAny_newList ?_ (Nat.zero_le _))
  refine wpAny_holding ?_
  have ho6 : (((s.heap.update a (Obj.mapSeq fun _ => #[])).push (seqObj "tuple" vs.toArray 0)).push (seqObj "list" #[] 0)).get? a = some (seqObj "list" #[] e1) := by
    rw [Heap.get?_push_ne _ _ _ (by rw [size_push', Heap.size_update]; exact Nat.ne_of_lt (Nat.lt_succ_of_lt ha)), Heap.get?_push_ne _ _ _ (by rw [Heap.size_update]; exact Nat.ne_of_lt ha)]
    exact ho1
  show wpAny (model prog w) A _ P E { s with heap := ((s.heap.update a (Obj.mapSeq fun _ => #[])).push (seqObj "tuple" vs.toArray 0)).push (seqObj "list" #[] 0) }
  dsimp only
  have hlt : vs.toArray.size < 2 := by simpa using h2
  rw [if_pos hlt, if_pos hlt]
  refine wpAny_bind (wpAny_pure ?_)
  rw [StateT.run_pure]
  refine wpAny_bind (wpAny_pure ?_)
  dsimp only
  have hout : (arrOf (SortSt.mk' general' (vs.toArray.zip vs.toArray) #[] 7 none)).map (·.2) = vs.toArray := by
    show (vs.toArray.zip vs.toArray).map (·.2) = _
    apply Array.toList_inj.mp
    simp [Array.toList_map, Array.toList_zip, List.map_snd_zip]
  refine wpAny_bind (seqEpoch_at ho6 rfl ?_)
  refine wpAny_bind (listUpdate_at ho6 rfl ?_ (hsz2 := by rw [hout, List.size_toArray, sizeLine_eq]; (first | decide | assumption | omega)))
  rw [hout]
  simp only [bne_self_eq_false, Bool.false_eq_true, if_false]
  exact wpAny_pure h
end

section
variable {C : Cx} {ρ : Vs} {μ : Ms} {e : Expr} {pos np : Pos} {τ : Ts} {s : Shared} {ts : List (List Int)}
theorem tup_at {g h : Heap} (k : Sub g h) {v : Value} {t : List Int} (x : (dTup (zs t)).holds g v) : TupAt h v t := by
  obtain ⟨a, vs, rfl, ⟨o, ho, hc, n, hd⟩, h2⟩ := holds_tup x
  exact ⟨a, o, vs.toArray, n, rfl, k _ _ ho, hc, hd, by simpa using intsAre_of h2⟩
theorem zip_at {g : Heap} {vs : List Value} (hl : vs.length = ts.length) (T : TmpOk g (vs.zip ((tups ts).map .dat))) {i : Nat} (hi : i < ts.length) : (dTup (zs (ts.getD i []))).holds g (vs.getD i .none) := by
  refine T (vs.getD i .none, dTup (zs (ts.getD i []))) ?_
  rw [List.mem_iff_getElem]
  refine ⟨i, by simp [hl, hi], ?_⟩
  simp [hi, hl]
theorem firsts_of {h : Heap} : ∀ {vs : List Value} {ts : List (List Int)}, vs.length = ts.length → (∀ t ∈ ts, t ≠ []) → (∀ i, i < ts.length → TupAt h (vs.getD i .none) (ts.getD i [])) → ∃ fs, KatTups h vs fs ∧ fs.length = ts.length ∧ ∀ v ∈ fs, ∃ n t, v = .int n t
  | [], [], _, _, _ => ⟨[], trivial, rfl, fun v hv => by simp at hv⟩
  | [], _ :: _, h, _, _ => by simp at h
  | _ :: _, [], h, _, _ => by simp at h
  | v :: vs, t :: ts, hl, hne, hT => by
    obtain ⟨fs, h1, h2, h3⟩ := firsts_of (vs := vs) (ts := ts) (by simpa using hl) (fun x hx => hne x (.tail _ hx)) fun i hi => by simpa using hT (i + 1) (by simpa using hi)
    obtain ⟨a, o, items, k, e, ho, hc, hd, hI⟩ := hT 0 (by simp)
    have e' : v = .ref a := by simpa using e
    subst e'
    obtain ⟨x, t', rfl⟩ : ∃ x t', t = x :: t' := by
      cases t with
      | nil => exact absurd rfl (hne [] (.head _))
      | cons x t' => exact ⟨x, t', rfl⟩
    have hI' : IntsAre items.toList (x :: t') := hI
    obtain ⟨f, rest, e2, tk, e3⟩ : ∃ f rest, items.toList = f :: rest ∧ ∃ tk, f = .int x tk := by
      generalize items.toList = l at hI'
      cases hI' with
      | cons _ tk r => exact ⟨_, _, rfl, tk, rfl⟩
    refine ⟨f :: fs, ⟨⟨a, o, items, k, rfl, ho, hc, hd, by rw [← Array.getElem?_toList, e2]; rfl⟩, h1⟩, by simp [h2], fun v hv => ?_⟩
    rcases List.mem_cons.mp hv with rfl | hv
    · exact ⟨x, tk, e3⟩
    · exact h3 v hv

theorem sort_result {p : Array Nat} {n : Nat} (hn : n = ts.length) (hp : PermN n p) (hs : SortedTo (fun i j => lexB (ts.getD i []) (ts.getD j [])) p n) : p.toList.map (fun i => ts.getD i []) = sortT ts := by
  subst hn
  refine (sortT_eq ?_ ?_).symm
  · have h1 := hp.map (fun i => ts.getD i [])
    refine h1.trans ?_
    have : (List.range ts.length).map (fun i => ts.getD i []) = ts := by
      apply List.ext_getElem
      · simp
      · intro i h1 h2
        have : i < ts.length := by simpa using h1
        simp [this]
    rw [this]
  · rw [List.pairwise_iff_getElem]
    intro i j hi hj hij
    have hsz := hp.size
    simp only [List.length_map, Array.length_toList] at hi hj
    have := hs i j hij (by (first | decide | assumption | omega))
    simp only [List.getElem_map, Array.getElem_toList]
    simp only [Array.getD, hi, hj, dif_pos] at this
    simp only [lexLe, Bool.not_eq_true']
    exact lexB_asy _ _ (by simpa using this)

theorem lexT_ok (hnd : ts.Nodup) : LtOk ts.length (fun i j => lexB (ts.getD i []) (ts.getD j [])) where
  tr := fun a b c h1 h2 => lexB_tr _ _ _ h1 h2
  asy := fun a b h => lexB_asy _ _ h
  tot := fun a b ha hb hab h => lexB_tot _ _ (fun e => hab ((List.getElem_inj hnd).mp (by simpa [ha, hb] using e))) h

theorem hold_of_zip {g : Heap} {vs : List Value} {out : List Nat} (hl : vs.length = ts.length) (T : ∀ i, i < ts.length → (dTup (zs (ts.getD i []))).holds g (vs.getD i .none)) : (∀ i ∈ out, i < ts.length) → allHold g ((tups (out.map fun i => ts.getD i [])).map .dat) (out.map fun i => vs.getD i .none) := by
  induction out with
  | nil => intro _; exact trivial
  | cons i out ih => intro h; exact ⟨T i (h i (.head _)), ih fun j hj => h j (.tail _ hj)⟩

/-- sorted, once its argument is collected -/
theorem call_sorted (O : Ok C) {v : Value} (hne : ∀ t ∈ ts, t ≠ []) (hnd : ts.Nodup) (h64 : ts.length < 64) {Q E : Value → Shared → Prop}
    (hc : wpAny (MC C) C.A.in1 (collect v) (fun vs s1 => vs.length = ts.length ∧ At C ρ μ (vs.zip ((tups ts).map .dat) ++ τ) s1) E s)
    (h : ∀ l s', At C ρ μ ((.ref l, dList (tups (sortT ts))) :: τ) s' → Q (.ref l) s') : wpAny (MC C) C.A (call (.builtin "sorted") [v]) Q E s := by
  refine Calls.call_function_entry kind_sorted plain_sorted entry_sorted (args_sorted1 _) ?_
  unfold Builtin.«sorted»
  refine wpAny_bind (m := checkCount "sorted" 1 1 _) (wpAny_pure ?_)
  refine wpAny_bind (wpAny_mono hc (fun vs s1 ⟨hl, a1⟩ => ?_) fun _ _ x => x)
  refine wpAny_bind (wpAny_newList ?_ (by show vs.length ≤ _; rw [sizeLine_eq]; (first | decide | assumption | omega)))
  have hD : (s1.heap.push (seqObj "list" vs.toArray 0)).get? s1.heap.objs.size = some (seqObj "list" vs.toArray 0) := Heap.get?_push_size _ rfl
  have hfresh : s1.heap.get? s1.heap.objs.size = none := Heap.get?_none_of_le (Nat.le_refl _)
  refine wpAny_bind (wpAny_holding (wpAny_call_entry (s := { s1 with heap := s1.heap.push (seqObj "list" vs.toArray 0) }) slot_list_sort ⟨_, hD, rfl⟩ entry_list_sort ?body (args_list_sort _)))
  case body =>
    by_cases h2 : vs.length < 2
    · refine list_sort_small hD h2 ⟨_, rfl, wpAny_pure ⟨_, rfl, ?_⟩⟩
      have keep : Sub s1.heap (sortedHeap (s1.heap.push (seqObj "list" vs.toArray 0)) s1.heap.objs.size vs vs.toArray) := fun b o e => by
        rw [sortedHeap_old (Nat.ne_of_lt (Heap.lt_size e)) (by rw [size_push']; exact Nat.lt_succ_of_lt (Heap.lt_size e))]
        exact Heap.get?_push_of_some _ e
      obtain ⟨e, he⟩ := sortedHeap_at (out := vs.toArray) hD
      refine h _ _ (At.kpNew _ a1 (Kp.of_sub keep) s1.toks hfresh he fun g sg tm hg => ?_)
      have e1 : sortT ts = ts := by
        refine sortT_eq (List.Perm.refl _) ?_
        match ts, hl, h2 with
        | [], _, _ => exact .nil
        | [t], _, _ => exact List.pairwise_singleton _ _
        | _ :: _ :: _, hl, h2 => simp at hl; (first | decide | assumption | omega)
      rw [e1]
      refine list_holds (vs := vs) ⟨_, hg, rfl, _, rfl⟩ ?_
      have := zip_hold (rs := (tups ts).map .dat) (by simpa using hl) tm
      exact this
    · obtain ⟨m, news, F, N, kk, fr⟩ := a1.viaFr
      have hL : C.env.locals < s1.heap.objs.size := F.ns.lt
      refine kat_list_sort (h₀ := noHeap) (L := C.env.locals) (s := { s1 with heap := s1.heap.push (seqObj "list" vs.toArray 0) }) (F.kept fun b o e => Heap.get?_push_of_some _ e) (N.grown fun b o e => Heap.get?_push_of_some _ e) hD (Nat.ne_of_gt hL) (noHeap_get _)
        (fun p hp => Nat.ne_of_lt (Heap.lt_size (N p hp).1)) (by (first | decide | assumption | omega)) (by (first | decide | assumption | omega)) fun e1 h' F' N' => ?_
      have N2 : News noHeap C.env.locals h' news := fun p hp => N' p (.tail _ hp)
      have K1 := kk h' F' N2
      obtain ⟨g, hgT, hgS⟩ : ∃ g, TmpOk g (vs.zip ((tups ts).map .dat)) ∧ Sub g h' := by
        have a2 := a1.kp K1 s1.toks
        obtain ⟨_, g, m', S, V, T⟩ := a2
        exact ⟨g, fun p hp => T p (List.mem_append_left _ hp), S.keep⟩
      have hat : ∀ i, i < ts.length → TupAt h' (vs.getD i .none) (ts.getD i []) := fun i hi => tup_at hgS (zip_at hl hgT hi)
      obtain ⟨fs, k1, k2, k3⟩ := firsts_of hl hne hat
      refine kat_kind (T := .type "int") k1 (by (first | decide | assumption | omega)) (fun v hv => by obtain ⟨n, t, rfl⟩ := k3 v hv; exact Looks.now) (by decide) ?_
      rw [hl]
      refine okT.wp (n := ts.length) (lt := fun i j => lexB (ts.getD i []) (ts.getD j [])) (I := fun s' => s' = { s1 with heap := h' }) (fun i j Cc s' hi hj hs' hcc => ?_) (ok_sort (lexT_ok hnd) (by (first | decide | assumption | omega))) rfl ?_
      · subst hs'
        exact ask_run (hat i hi) (hat j hj) (hcc _ rfl)
      · rintro p s' ⟨hp, hs⟩ rfl
        refine KasFin.intro F' N' (UpdF.head fun q hq => Nat.ne_of_lt (Heap.lt_size (N q hq).1)) fun h2 c F2 N3 => ⟨_, rfl, wpAny_pure ⟨_, rfl, ?_⟩⟩
        have hl2 := (N3 _ (.head _)).1
        refine h _ _ (At.kpNew _ a1 (kk h2 F2 fun q hq => N3 q (.tail _ hq)) s1.toks hfresh hl2 fun g sg tm hg => ?_)
        rw [← sort_result rfl hp hs]
        refine list_holds (vs := p.toList.map fun i => vs.getD i .none) ⟨_, hg, rfl, _, rfl⟩ ?_
        refine hold_of_zip hl (fun i hi => zip_at hl (fun p hp => tm p (List.mem_append_left _ hp)) hi) fun i hi => ?_
        have := hp.mem_iff.mp hi
        simpa using this

theorem PE.sorted (O : Ok C) (p : PE C ρ μ e (dList (tups ts))) (hk : C.env.kindOf "sorted" = some .globalImplicit) (hne : ∀ t ∈ ts, t ≠ []) (hnd : ts.Nodup) (h64 : ts.length < 64) (hs : backTo pos (starEach [e] C.env) = trees [e] C.env := by rfl) :
    PE C ρ μ (.Call (.Name "sorted" np) [e] [] pos) (dList (tups (sortT ts))) := fun τ s Q E a h =>
  callB (id := "sorted") O hk (by decide) (by decide) (.cons p .nil) (by simp) hs a fun vs s' hl a' => by
    obtain ⟨v, rfl⟩ : ∃ v, vs = [v] := List.length_eq_one_iff.mp hl
    obtain ⟨l, us, rfl, h1, h2⟩ := holds_list a'.top
    have hl1 := h2.length
    rw [List.length_map, List.length_map] at hl1
    refine call_sorted (ts := ts) O hne hnd h64 (collect_list h1 ⟨hl1, ?_⟩ (by rw [sizeLine_eq]; (first | decide | assumption | omega))) (fun l s' a => h _ _ a)
    have keep : Sub s'.heap ((s'.heap.push (seqObj "list" #[] 0)).update s'.heap.objs.size (Obj.mapSeq (· ++ us.toArray))) := fun b o e => by
      rw [Heap.get?_update_ne _ _ _ _ (Nat.ne_of_lt (Heap.lt_size e))]
      exact Heap.get?_push_of_some _ e
    have a2 := a'.ext keep s'.toks
    refine At.pushAll [_] _ a2 fun g sg tm => ?_
    refine items_push ?_
    exact items_of sg (tm _ (.head _)) (isList_mono keep h1)
end
end Mine
namespace Mine
open PySem PySem.W PySem.Calls PySem.Spec PyProof.Rows PySem.SeqAt

/-! ## going through a dict -/
noncomputable def kvd {K : Type} (ds : List (K × PyData)) : List (K × Rk) := ds.map fun p => (p.1, .dat p.2)
section
variable {C : Cx} {ρ ρ' : Vs} {μ μ' : Ms} {τ τ' : Ts} {s : Shared} {e e1 e2 e3 o tgt : Expr} {r q : Rk} {pos np apos xp : Pos} {x y : Str} {es : List Expr} {rs : List Rk} {P : Post} {K : Type} [DecidableEq K] {δ : DKC C K} {kvs : List (K × Rk)} {k : K}

/-- what no longer turns is frozen, and its name is known to hold it -/
theorem Tr.freeze {d : Addr} {body : List Stmt} (O : Ok C) (hx : ρ.lookup x = some (.val (.ref d))) (h : Tr C ((x, dictR δ kvs) :: ρ) μ body P) : Tr C ρ ((d, dictM δ kvs) :: μ) body P := fun τ s E a => by
  have hne : (d == sysModules) = false := by
    obtain ⟨_, g, m, S, V, T⟩ := a
    obtain ⟨_, _, _, h0⟩ := S.mu _ (.head _)
    cases hb : (d == sysModules) with
    | false => rfl
    | true =>
      rw [show d = sysModules from beq_iff_eq.mp hb] at h0
      obtain ⟨o', ho'⟩ := O.top.sm
      rw [h0] at ho'; cases ho'
  have a2 := a.freeze (r := dictR δ kvs) fun g o ⟨g', sg, xs, h1, h2⟩ hg => ⟨g, Sub.refl _, d, o, xs, rfl, hne, hg, h1.mono sg, δ.mono sg h2⟩
  exact h τ s E (a2.retype hx).drop
theorem Tr.freezeL {l : Addr} {ds : List PyData} {body : List Stmt} (hx : ρ.lookup x = some (.val (.ref l))) (h : Tr C ((x, dList ds) :: ρ) μ body P) : Tr C ρ ((l, .list (ds.map .dat)) :: μ) body P := fun τ s E a => by
  have a2 := a.freeze (r := dList ds) fun g o ⟨vs, n, e, hv⟩ hg => list_holds ⟨o, hg, by rw [e]; rfl, n, by rw [e]; rfl⟩ hv
  exact h τ s E (a2.retype hx).drop

noncomputable def ItM (d : Addr) (i n ep : Nat) : Mk := .gen fun _ o => ∃ ok ov, o = { cls := .type "dict_itemiterator", dict := none, data := .fields #[.none, .bool false, .ref d, .int i 0, .int n 0, .int ep 0, ok, ov], slots := #[] }
noncomputable def KeyM (d : Addr) (i n ep : Nat) : Mk := .raw { cls := .type "dict_keyiterator", dict := none, data := .fields #[.ref d, .int i 0, .int n 0, .int ep 0], slots := #[] }
noncomputable def esR (d : Addr) (es : Array DictEntry) (ep : Nat) : Rk := .gen fun g v => ∃ o, g.get? d = some o ∧ o.data = .dict es ep
theorem At.dictEs {d : Addr} {es : Array DictEntry} {ep : Nat} (a : At C ρ μ τ s) (h1 : (.ref d, dictR δ kvs) ∈ τ) (h2 : (.ref d, esR d es ep) ∈ τ) : ∃ od, s.heap.get? d = some od ∧ od.ExactDict ∧ od.data = .dict es ep ∧ es.size = kvs.length := by
  obtain ⟨g1, s1, d', o, xs, e, hd, hg, hkv, hx⟩ := a.hold h1
  cases e
  obtain ⟨g2, s2, o2, hg2, hd2⟩ := a.hold h2
  have e1 := s1 _ _ hg
  have e2 := s2 _ _ hg2
  rw [e1] at e2; cases e2
  obtain ⟨hc, es', ep', hd', hz, _⟩ := δ.ents hx
  rw [hd2] at hd'
  injection hd' with q1 q2
  subst q1
  exact ⟨o, e1, hc, hd2, by rw [hz, hkv.length]⟩
/-- the entry at a place -/
theorem entry_of {g : Heap} {d : Addr} {es : Array DictEntry} {ep i : Nat} {k : K} {r : Rk} (h1 : (dictR δ kvs).holds g (.ref d)) {od : Obj} (ho : g.get? d = some od) (hd : od.data = .dict es ep) (hi : kvs[i]? = some (k, r)) :
    ∃ e, es[i]? = some e ∧ (Rk.dat (δ.enc k)).holds g e.key ∧ r.holds g e.val := by
  obtain ⟨g1, s1, d', o, xs, e, _, hg, hkv, hx⟩ := h1
  cases e
  have := s1 _ _ hg
  rw [ho] at this; cases this
  obtain ⟨v, hv, hr⟩ := hkv.get hi
  obtain ⟨hc, es', ep', hd', hz, hen⟩ := δ.ents hx
  rw [hd] at hd'
  injection hd' with q1 q2
  subst q1
  obtain ⟨e, he, hev, hek⟩ := hen i k v hv
  exact ⟨e, he, hek.mono s1, by rw [hev]; exact hr.mono s1⟩

theorem src_items (O : Ok C) (δ : DKC C K) (ds : List (K × PyData)) (I d : Addr) (es : Array DictEntry) (ep : Nat) {tg : List Expr} {kk : Nat} (dk : K × PyData) : Src C (.Tuple tg kk xp) I (fun i => [(I, ItM d i ds.length ep)]) [(.ref d, dictR δ (kvd ds)), (.ref d, esR d es ep)] ds.length
    (fun i => dTup [δ.enc (ds.getD i dk).1, (ds.getD i dk).2]) where
  item := fun i ρ μ τ s Q E hi a h => by
    obtain ⟨g, o, sg, tm, ho, g', _, ok, ov, rfl⟩ := a.mem (a := I) (k := ItM d i ds.length ep) (by simp)
    obtain ⟨od, hod, hc, hd, hz⟩ := a.dictEs (δ := δ) (kvs := kvd ds) (d := d) (es := es) (ep := ep) (by simp) (by simp)
    have hz' : es.size = ds.length := by rw [hz]; simp [kvd]
    have hkv : (kvd ds)[i]? = some ((ds.getD i dk).1, .dat (ds.getD i dk).2) := by simp [kvd, List.getElem?_eq_getElem hi, List.getD]
    have hdI : d ≠ I := by rintro rfl; rw [hod] at ho; cases ho; cases hd
    obtain ⟨e, he, _, _⟩ := entry_of (a.hold (v := .ref d) (r := dictR δ (kvd ds)) (by simp)) hod hd hkv
    rw [← hz'] at ho
    refine raw_next_item ho hod hd he fun h' it1 ht hk => ⟨_, rfl, ?_⟩
    refine raw_letGo it1 fun h2 it2 hsb => h _ _ ?_
    have keep : ∀ b ob, b ≠ I → s.heap.get? b = some ob → h2.get? b = some ob := fun b ob hb e => (hsb.2 b hb).trans (hk b ob hb e)
    have nI : s.heap.objs.size ≠ I := fun e => Nat.ne_of_lt (Heap.lt_size ho) e.symm
    refine At.updManyNew [] (own' := [(I, ItM d (i + 1) ds.length ep)]) (h' := h2) a rfl (fun b ob hb e => keep b ob (hb (I, _) (.head _)) e) (fun p hp => by
      rw [List.mem_singleton.mp hp]
      exact ⟨_, it2, fun g => ⟨g, Sub.refl _, _, _, by rw [hz']⟩⟩) s.toks (Heap.get?_none_of_le (Nat.le_refl _)) ((hsb.2 _ nI).trans ht) fun g sg tm hg => ?_
    have hR := tm (.ref d, dictR δ (kvd ds)) (by simp)
    have hod2 : g.get? d = some od := by
      obtain ⟨g1, s1, d', o2, xs, e, _, hg1, _⟩ := id hR
      cases e
      have q := sg _ _ (s1 _ _ hg1)
      rw [keep d od hdI hod] at q
      cases q; exact s1 _ _ hg1
    obtain ⟨e2, he2, hk2, hv2⟩ := entry_of hR hod2 hd hkv
    rw [he] at he2; cases he2
    exact tup_holds (vs := [e.key, e.val]) ⟨_, hg, rfl, 0, rfl⟩ ⟨hk2, hv2, trivial⟩
  done := fun ρ μ τ s Q E a h => by
    obtain ⟨g, o, sg, tm, ho, g', _, ok, ov, rfl⟩ := a.mem (a := I) (k := ItM d ds.length ds.length ep) (by simp)
    obtain ⟨od, hod, hc, hd, hz⟩ := a.dictEs (δ := δ) (kvs := kvd ds) (d := d) (es := es) (ep := ep) (by simp) (by simp)
    have hz' : es.size = ds.length := by rw [hz]; simp [kvd]
    rw [← hz'] at ho
    exact raw_next_items_end O.hh ho hod hd fun h' ext => h _ ((a.dropMany (fun b o hb e => ext b o (hb (I, _) (.head _)) e) s.toks).tmps fun p hp => by simp [hp])
  self := fun i ρ μ τ s Q E a h => by
    obtain ⟨g, o, sg, tm, ho, g', _, ok, ov, rfl⟩ := a.mem (a := I) (k := ItM d i ds.length ep) (by simp)
    exact kcp_self ho h
theorem src_keys (O : Ok C) (δ : DKC C K) (ds : List (K × PyData)) (I d : Addr) (es : Array DictEntry) (ep : Nat) (dk : K × PyData) : Src C tgt I (fun i => [(I, KeyM d i ds.length ep)]) [(.ref d, dictR δ (kvd ds)), (.ref d, esR d es ep)] ds.length
    (fun i => .dat (δ.enc (ds.getD i dk).1)) where
  item := fun i ρ μ τ s Q E hi a h => by
    obtain ⟨g, o, sg, tm, ho, hk⟩ := a.mem (a := I) (k := KeyM d i ds.length ep) (by simp)
    have hk' : o = _ := hk
    subst hk'
    obtain ⟨od, hod, hc, hd, hz⟩ := a.dictEs (δ := δ) (kvs := kvd ds) (d := d) (es := es) (ep := ep) (by simp) (by simp)
    have hz' : es.size = ds.length := by rw [hz]; simp [kvd]
    have hkv : (kvd ds)[i]? = some ((ds.getD i dk).1, .dat (ds.getD i dk).2) := by simp [kvd, List.getElem?_eq_getElem hi, List.getD]
    have hdI : d ≠ I := by rintro rfl; rw [hod] at ho; cases ho; cases hd
    obtain ⟨e, he, _, _⟩ := entry_of (a.hold (v := .ref d) (r := dictR δ (kvd ds)) (by simp)) hod hd hkv
    rw [← hz'] at ho
    refine raw_next_key ho hod hd he fun h' it1 hsb => ⟨_, rfl, ?_⟩
    refine letGo_no it1 rfl (by decide) (h _ _ ?_)
    have a2 := At.updMany (own' := [(I, KeyM d (i + 1) ds.length ep)]) a rfl (fun b o hb e => (hsb.2 b (hb (I, _) (.head _))).trans e) (fun p hp => by
      rw [List.mem_singleton.mp hp]
      exact ⟨_, it1, fun g => by show _ = _; rw [hz']⟩) s.toks
    refine a2.push fun g sg tm => ?_
    have hR := tm (.ref d, dictR δ (kvd ds)) (by simp)
    have hod2 : g.get? d = some od := by
      obtain ⟨g1, s1, d', o2, xs, e, _, hg1, _⟩ := id hR
      cases e
      have q := sg _ _ (s1 _ _ hg1)
      have q2 : h'.get? d = some od := (hsb.2 d hdI).trans hod
      rw [show (({ s with heap := h', toks := s.toks } : Shared).heap) = h' from rfl, q2] at q
      cases q; exact s1 _ _ hg1
    obtain ⟨e2, he2, hk2, hv2⟩ := entry_of hR hod2 hd hkv
    rw [he] at he2; cases he2
    exact hk2
  done := fun ρ μ τ s Q E a h => by
    obtain ⟨g, o, sg, tm, ho, hk⟩ := a.mem (a := I) (k := KeyM d ds.length ds.length ep) (by simp)
    have hk' : o = _ := hk
    subst hk'
    obtain ⟨od, hod, hc, hd, hz⟩ := a.dictEs (δ := δ) (kvs := kvd ds) (d := d) (es := es) (ep := ep) (by simp) (by simp)
    have hz' : es.size = ds.length := by rw [hz]; simp [kvd]
    rw [← hz'] at ho
    exact raw_next_keys_end O.hh ho hod hd fun h' ext => h _ ((a.dropMany (fun b o hb e => ext b o (hb (I, _) (.head _)) e) s.toks).tmps fun p hp => by simp [hp])
  self := fun i ρ μ τ s Q E a h => by
    obtain ⟨g, o, sg, tm, ho, hk⟩ := a.mem (a := I) (k := KeyM d i ds.length ep) (by simp)
    have hk' : o = _ := hk
    subst hk'
    exact wpAny_pyIter_slot (T := "dict_keyiterator") ⟨_, ho, rfl⟩ PySem.F.slot_dict_keyiterator_iter (wpAny_call_entry PySem.F.slot_dict_keyiterator_iter ⟨_, ho, rfl⟩ PySem.F.entry_dict_keyiterator_iter (wpAny_pure ⟨_, rfl, "dict_keyiterator", _, ⟨_, ho, rfl⟩, PySem.F.slot_dict_keyiterator_next.lookup, h⟩) (PySem.F.args_dict_keyiterator_iter_1 _))

theorem enter_dict (O : Ok C) {v : Value} (D : DictV C μ δ (dictR δ kvs) kvs) (a : At C ρ μ ((v, dictR δ kvs) :: τ) s) : ∃ d od es ep, v = .ref d ∧ s.heap.get? d = some od ∧ od.ExactDict ∧ (d == sysModules) = false ∧ od.data = .dict es ep ∧ es.size = kvs.length ∧
    At C ρ μ ((.ref d, esR d es ep) :: (.ref d, dictR δ kvs) :: τ) s := by
  obtain ⟨hs, g, m, S, V, T⟩ := a
  obtain ⟨g1, s1, d, o, xs, rfl, hd, hg, hkv, hx⟩ := T _ (.head _)
  obtain ⟨hc, es, ep, hd', hz, _⟩ := δ.ents hx
  exact ⟨d, o, es, ep, rfl, S.keep _ _ (s1 _ _ hg), hc, hd, hd', by rw [hz, hkv.length], hs, g, m, S, V, T.cons ⟨g1, s1, o, hg, hd'⟩⟩
theorem kvd_len (ds : List (K × PyData)) : (kvd ds).length = ds.length := by simp [kvd]

theorem srcs_items {ds : List (K × PyData)} {tg : List Expr} {kk : Nat} {pl : Sem Bool} (O : Ok C) (δ : DKC C K) (dk : K × PyData) (he : MethShape o "items" apos [] pos C.env pl) (p : PE C ρ μ o (dictR δ (kvd ds))) (hn : ds.length ≤ 100000)
    (hs : backTo pos (starEach [] C.env) = trees [] C.env := by rfl) : Srcs C ρ μ (.Call (.Attribute o "items" apos) [] [] pos) (.Tuple tg kk xp) μ ds.length (fun i => dTup [δ.enc (ds.getD i dk).1, (ds.getD i dk).2]) := fun τ s Q E a h =>
  callM (id := "dict.items") (T := "dict") he p (fun τ s v a => by
      obtain ⟨d, od, es, ep, rfl, ho, hc, _⟩ := enter_dict O (.inl rfl) a
      exact ⟨⟨od, ho, hc.1⟩, fun b e => by cases e; exact ⟨od, ho, hc.2.1⟩⟩) PySem.F.plainAttrs_dict PySem.F.slot_dict_items PySem.F.type_dict_items .nil hs a fun v vs s1 hl a1 => by
    have e : vs = [] := List.length_eq_zero_iff.mp hl
    subst e
    obtain ⟨d, od, es, ep, rfl, ho, hc, hd, hdd, hz, a2⟩ := enter_dict O (.inl rfl) a1
    rw [kvd_len] at hz
    refine raw_items_call ho hc hd ?_
    have ho2 : (s1.heap.push { cls := .type "dict_items", data := .fields #[.ref d] }).get? d = some od := Heap.get?_push_of_some _ ho
    refine raw_iter_items (s := { s1 with heap := s1.heap.push { cls := .type "dict_items", data := .fields #[.ref d] } }) ⟨_, Heap.get?_push_size _ rfl, rfl, rfl⟩ ho2 hdd ?_
    refine h _ (fun i => [((s1.heap.push { cls := .type "dict_items", data := .fields #[.ref d] }).objs.size, ItM d i ds.length ep)]) [(.ref d, dictR δ (kvd ds)), (.ref d, esR d es ep)] _ (fun C' O' hl hA => ?_) ?_
    · obtain ⟨l', A', e', h', g', s'⟩ := C'
      have hl' : l' = C.lay := hl
      subst hl'
      exact src_items O' δ ds (s1.heap.push { cls := .type "dict_items", data := .fields #[.ref d] }).objs.size d es ep dk
    · have a3 := a2.ext (Sub.push s1.heap { cls := .type "dict_items", data := .fields #[.ref d] }) s1.toks
      have a4 := a3.newMany (own := [((s1.heap.push { cls := .type "dict_items", data := .fields #[.ref d] }).objs.size, ItM d 0 ds.length ep)]) (Kp.of_sub (Sub.push _ { cls := .type "dict_itemiterator", data := .fields #[.none, .bool false, .ref d, .int 0 0, .int es.size 0, .int ep 0, .none, .none] })) (fun p hp => by
        rw [List.mem_singleton.mp hp]
        exact ⟨Heap.get?_none_of_le (Nat.le_refl _), _, Heap.get?_push_size _ rfl, fun g => ⟨g, Sub.refl _, .none, .none, by rw [hz]; rfl⟩⟩) (by simp) s1.toks
      refine a4.tmps fun p hp => ?_
      simp only [List.cons_append, List.nil_append, List.mem_cons] at hp ⊢
      rcases hp with h | h | h
      · exact .inr (.inl h)
      · exact .inl h
      · exact .inr (.inr h)
theorem srcs_keys {ds : List (K × PyData)} (O : Ok C) (δ : DKC C K) (dk : K × PyData) (p : PE C ρ μ e (dictR δ (kvd ds))) : Srcs C ρ μ e tgt μ ds.length (fun i => .dat (δ.enc (ds.getD i dk).1)) := fun τ s Q E a h =>
  p τ s _ E a fun v s1 a1 => by
    obtain ⟨d, od, es, ep, rfl, ho, hc, hd, hdd, hz, a2⟩ := enter_dict O (.inl rfl) a1
    rw [kvd_len] at hz
    refine raw_iter_keys ho hc hdd hd ?_
    refine h _ (fun i => [(s1.heap.objs.size, KeyM d i ds.length ep)]) [(.ref d, dictR δ (kvd ds)), (.ref d, esR d es ep)] _ (fun C' O' hl hA => ?_) ?_
    · obtain ⟨l', A', e', h', g', s'⟩ := C'
      have hl' : l' = C.lay := hl
      subst hl'
      exact src_keys O' δ ds s1.heap.objs.size d es ep dk
    · have a4 := a2.newMany (own := [(s1.heap.objs.size, KeyM d 0 ds.length ep)]) (Kp.of_sub (Sub.push _ { cls := .type "dict_keyiterator", data := .fields #[.ref d, .int 0 0, .int es.size 0, .int ep 0] })) (fun p hp => by
        rw [List.mem_singleton.mp hp]
        exact ⟨Heap.get?_none_of_le (Nat.le_refl _), _, Heap.get?_push_size _ rfl, fun g => by show _ = _; rw [hz]; rfl⟩) (by simp) s1.toks
      refine a4.tmps fun p hp => ?_
      simp only [List.cons_append, List.nil_append, List.mem_cons] at hp ⊢
      rcases hp with h | h | h
      · exact .inr (.inl h)
      · exact .inl h
      · exact .inr (.inr h)
end
end Mine
namespace Mine
open PySem PySem.W PySem.Calls PySem.Spec PyProof.Rows PySem.SeqAt

section
variable {C : Cx} {ρ ρ' : Vs} {μ μ' : Ms} {τ τ' : Ts} {s : Shared} {e e1 e2 e3 o tgt : Expr} {r q : Rk} {pos np apos xp : Pos} {x y : Str} {es : List Expr} {rs : List Rk} {P : Post} {K : Type} [DecidableEq K] {δ : DKC C K} {kvs : List (K × Rk)} {k : K}

theorem At.newsAll {h' : Heap} (x : At C ρ μ τ s) (k : Sub s.heap h') (t : Nat) (as : List Addr) (rs : List Rk) (hnew : ∀ a ∈ as, s.heap.get? a = none)
    (hr : ∀ g, Sub g h' → TmpOk g τ → (∀ a ∈ as, ∀ o, h'.get? a = some o → g.get? a = some o) → allHold g rs (as.map .ref)) : At C ρ μ ((as.map Value.ref).zip rs ++ τ) { s with heap := h', toks := t } := by
  obtain ⟨hs, g, m, S, V, T⟩ := x
  have S1 := S.ext k
  obtain ⟨g', k1, k2, k3, k4⟩ := grow h' g S1.keep (fun b => b ∈ as)
  have hall := hr g' k2 (T.mono k1) fun a ha o ho => k3 a o ha ho
  have hz : ∀ {vs : List Value} {rs : List Rk}, allHold g' rs vs → TmpOk g' (vs.zip rs) := by
    intro vs
    induction vs with
    | nil => intro rs _ p hp; simp at hp
    | cons v vs ih =>
      intro rs h
      cases rs with
      | nil => exact h.elim
      | cons r rs =>
        intro p hp
        rcases List.mem_cons.mp hp with rfl | hp
        · exact h.1
        · exact ih h.2 p hp
  refine ⟨hs.next _ _, g', m, S1.grown k1 k2 fun b o' e => ?_, V.mono k1, fun p hp => (List.mem_append.mp hp).elim (hz hall p) (T.mono k1 p)⟩
  rcases k4 b o' e with q | ⟨q, _⟩
  · exact .inl q
  · have hb := hnew b q
    refine .inr ⟨?_, ?_, ?_⟩
    · cases e2 : C.h₀.get? b with
      | none => rfl
      | some o2 => have := S.old _ _ e2; rw [hb] at this; cases this
    · rintro rfl
      obtain ⟨_, _, _, ho, _⟩ := S.ns
      rw [hb] at ho; cases ho
    · rintro p hp rfl
      obtain ⟨⟨o2, h1, _⟩, _⟩ := S.mu p hp
      rw [hb] at h1; cases h1

/-! ## the sorted pairs of a dict -/
noncomputable def viewR (δ : DKC C K) (kvs : List (K × Rk)) : Rk := .gen fun g v => ∃ a d, v = .ref a ∧ g.IsItemsView a d ∧ (dictR δ kvs).holds g (.ref d)
theorem isView_mono {g h : Heap} {a d : Addr} (k : Sub g h) (x : g.IsItemsView a d) : h.IsItemsView a d := let ⟨o, ho, r⟩ := x; ⟨o, k _ _ ho, r⟩
theorem PE.items {pl : Sem Bool} (O : Ok C) (he : MethShape o "items" apos [] pos C.env pl) (p : PE C ρ μ o (dictR δ kvs)) (hs : backTo pos (starEach [] C.env) = trees [] C.env := by rfl) :
    PE C ρ μ (.Call (.Attribute o "items" apos) [] [] pos) (viewR δ kvs) := fun τ s Q E a h =>
  callM (id := "dict.items") (T := "dict") he p (fun τ s v a => by
      obtain ⟨d, od, es, ep, rfl, ho, hc, _⟩ := enter_dict O (.inl rfl) a
      exact ⟨⟨od, ho, hc.1⟩, fun b e => by cases e; exact ⟨od, ho, hc.2.1⟩⟩) PySem.F.plainAttrs_dict PySem.F.slot_dict_items PySem.F.type_dict_items .nil hs a fun v vs s1 hl a1 => by
    have e : vs = [] := List.length_eq_zero_iff.mp hl
    subst e
    obtain ⟨d, od, es, ep, rfl, ho, hc, hd, hdd, hz, a2⟩ := enter_dict O (.inl rfl) a1
    refine raw_items_call ho hc hd (h _ _ ?_)
    refine At.allocD (τ := τ) [(.ref d, dictR δ kvs)] (r := viewR δ kvs) a1 rfl fun g sg tm hg => ⟨g, Sub.refl _, _, d, rfl, ⟨_, hg, rfl, rfl⟩, tm _ (.head _)⟩

theorem PE.sortedItems {ns : List (Int × Int)} (O : Ok C) (p : PE C ρ μ e (viewR (C := C) (intK C.lay.prog C.lay.w) (kvd (ns.map fun p => (p.1, .int p.2))))) (hk : C.env.kindOf "sorted" = some .globalImplicit) (hnd : (ns.map (·.1)).Nodup) (h64 : ns.length < 64)
    (hs : backTo pos (starEach [e] C.env) = trees [e] C.env := by rfl) : PE C ρ μ (.Call (.Name "sorted" np) [e] [] pos) (dList (tups (sortT (ns.map fun p => [p.1, p.2])))) := fun τ s Q E a h =>
  callB (id := "sorted") O hk (by decide) (by decide) (.cons p .nil) (by simp) hs a fun vs s' hl a' => by
    obtain ⟨v, rfl⟩ : ∃ v, vs = [v] := List.length_eq_one_iff.mp hl
    obtain ⟨g1, s1, ax, d, rfl, hv, hd⟩ := a'.top
    obtain ⟨g2, s2, d', od, xs, e, hsm, hg, hkv, hx⟩ := hd
    cases e
    have sg := s2.trans s1
    have hview := isView_mono s1 hv
    obtain ⟨ep, hat⟩ : ∃ ep, s'.heap.DictAt (intKind C.lay.prog C.lay.w) d xs ep := by
      obtain ⟨es, ep, h1, h2, h3, h4, h5⟩ := hx
      exact ⟨ep, od, es, sg _ _ hg, h1, h2, h3, h4, h5⟩
    have hlen : xs.length = ns.length := by rw [hkv.length]; simp [kvd]
    have hts : (ns.map fun p => [p.1, p.2]).Nodup := by
      rw [List.nodup_iff_pairwise_ne, List.pairwise_map] at hnd ⊢
      exact hnd.imp fun h e => h (by simpa using (List.cons.inj e).1)
    refine call_sorted (ts := ns.map fun p => [p.1, p.2]) O (fun t ht => by obtain ⟨p, _, rfl⟩ := List.mem_map.mp ht; simp) hts (by simpa using h64) (kdx_collect (show C.A.in1.handled = none from O.hh) hview hat (by rw [hlen, sizeLine_eq]; (first | decide | assumption | omega)) fun h' tk as keep hl G => ⟨by simp [hl, hlen], ?_⟩) (fun l s' a => h _ _ a)
    have a2 : At C ρ μ τ s' := a'.tmps fun p hp => by simp [hp]
    refine a2.newsAll keep tk as _ (fun b hb => Heap.get?_none_of_le (Nat.le_of_lt (G.above b hb))) fun g sgh tm hsame => ?_
    have hkv' := hkv.mono (g' := s'.heap) sg
    have key : ∀ (j : Nat) (b : Addr) (p : Int × Int), as[j]? = some b → ns[j]? = some p → (dTup (zs [p.1, p.2])).holds g (.ref b) := by
      intro j b p hb hp
      obtain ⟨ky, k, x, e1, e2, e3⟩ := G.pairs j b hb
      obtain ⟨v, e4, e5⟩ := hkv'.get (i := j) (k := p.1) (r := dInt p.2) (by simp [kvd, hp])
      rw [e1] at e4; cases e4
      obtain ⟨t, rfl⟩ := holds_int e5
      obtain ⟨u, rfl⟩ := Value.isInt_shape e2
      have hgb := hsame b (List.mem_of_getElem? hb) _ e3
      exact tup_holds (vs := [.int p.1 u, .int p.2 t]) ⟨_, hgb, rfl, 0, rfl⟩ ⟨int_holds _ _, int_holds _ _, trivial⟩
    have fin : ∀ (as : List Addr) (ns : List (Int × Int)), as.length = ns.length → (∀ (j : Nat) (b : Addr) (p : Int × Int), as[j]? = some b → ns[j]? = some p → (dTup (zs [p.1, p.2])).holds g (.ref b)) →
        allHold g ((tups (ns.map fun p => [p.1, p.2])).map .dat) (as.map .ref) := by
      intro as
      induction as with
      | nil => intro ns hl _; cases ns with
        | nil => exact trivial
        | cons _ _ => simp at hl
      | cons b as ih => intro ns hl hk; cases ns with
        | nil => simp at hl
        | cons p ns => exact ⟨hk 0 b p rfl rfl, ih ns (by simpa using hl) fun j b p h1 h2 => hk (j + 1) b p h1 h2⟩
    exact fin as ns (by rw [hl, hlen]) key
end
end Mine
namespace Mine
open PySem PySem.W PySem.Calls PySem.Spec PyProof.Rows PySem.SeqAt

/-! ## the text's functions, each under a name -/
/-- the k-th def of the text, its parts read off by unification -/
noncomputable abbrev pk (k : Nat) {n : Str} {ps : Arguments} {b : List Stmt} {sc : Scope} {pos : Pos} (_h : ((recsOf PySem.Challenge.pw_sa0052_01).drop k).head? = some ⟨n, ps, b, sc, pos⟩) : DefRec := ⟨n, ps, b, sc, pos⟩
noncomputable def D_counts_of : DefRec := pk 0 rfl
noncomputable def D_steps_between : DefRec := pk 1 rfl
noncomputable def D_rounds_at : DefRec := pk 2 rfl
noncomputable def D_best_round : DefRec := pk 3 rfl
noncomputable def D_rounds_of : DefRec := pk 4 rfl
noncomputable def D_shown_path : DefRec := pk 5 rfl
noncomputable def D__law_take : DefRec := pk 6 rfl
noncomputable def D__law_summed : DefRec := pk 7 rfl
noncomputable def D__law_way : DefRec := pk 8 rfl
noncomputable def D__law_ways_right : DefRec := pk 9 rfl
noncomputable def D__law_cut_right : DefRec := pk 10 rfl
noncomputable def D__law_read : DefRec := pk 11 rfl
noncomputable def D__law_rounds_right : DefRec := pk 12 rfl
noncomputable def D__law_round_right : DefRec := pk 13 rfl
noncomputable def D_law : DefRec := pk 14 rfl
noncomputable abbrev allDefs : List DefRec := [D_counts_of, D_steps_between, D_rounds_at, D_best_round, D_rounds_of, D_shown_path, D__law_take, D__law_summed, D__law_way, D__law_ways_right, D__law_cut_right, D__law_read, D__law_rounds_right, D__law_round_right, D_law]

end Mine
namespace Mine
open PySem PySem.W PySem.Calls PySem.Spec PyProof.Rows PySem.SeqAt

/-! ## a function's contract from its walk -/
theorem bindL_out {k : Str → Option NameKind} : ∀ {bs : List (Str × Value)} {m : Str → Option Value} {x : Str}, x ∉ bs.map (·.1) → bindL k bs m x = m x
  | [], _, _, _ => rfl
  | (n, v) :: r, m, x, h => by
    simp only [List.map_cons, List.mem_cons, not_or] at h
    rw [bindL, bindL_out h.2]
    split
    · simp [h.1]
    · rfl
theorem bindL_in {k : Str → Option NameKind} : ∀ {bs : List (Str × Value)} {m : Str → Option Value} {x : Str} {v : Value}, (bs.map (·.1)).Nodup → (x, v) ∈ bs → k x = some .local → bindL k bs m x = some v
  | [], _, _, _, _, h, _ => by simp at h
  | (n, u) :: r, m, x, v, hn, h, hk => by
    rw [List.map_cons, List.nodup_cons] at hn
    rw [bindL]
    rcases List.mem_cons.mp h with e | h
    · cases e
      rw [bindL_out hn.1, if_pos hk]
      simp
    · exact bindL_in hn.2 h hk
theorem bindC_out {k : Str → Option NameKind} : ∀ {bs : List (Str × Value)} {m : Str → Option Value} {x : Str}, x ∉ bs.map (·.1) → bindC k bs m x = m x
  | [], _, _, _ => rfl
  | (n, v) :: r, m, x, h => by
    simp only [List.map_cons, List.mem_cons, not_or] at h
    rw [bindC, bindC_out h.2]
    split
    · rfl
    · simp [h.1]
theorem bindC_in {k : Str → Option NameKind} : ∀ {bs : List (Str × Value)} {m : Str → Option Value} {x : Str} {v : Value}, (bs.map (·.1)).Nodup → (x, v) ∈ bs → k x ≠ some .local → bindC k bs m x = some v
  | [], _, _, _, _, h, _ => by simp at h
  | (n, u) :: r, m, x, v, hn, h, hk => by
    rw [List.map_cons, List.nodup_cons] at hn
    rw [bindC]
    rcases List.mem_cons.mp h with e | h
    · cases e
      rw [bindC_out hn.1, if_neg hk]
      simp
    · exact bindC_in hn.2 h hk

noncomputable def cellN : Mk := .gen fun _ o => o.data = .cell none
noncomputable def cellMk (bs : Vs) (p : Str × Addr) : Addr × Mk := (p.2, match bs.lookup p.1 with | some r => .cell r | none => cellN)

theorem zip_lookup {g : Heap} : ∀ {xs : List Str} {rs : List Rk} {vs : List Value}, allHold g rs vs → xs.length = rs.length → ∀ {x : Str} {r : Rk}, (xs.zip rs).lookup x = some r → ∃ v, (x, v) ∈ xs.zip vs ∧ r.holds g v
  | [], _, _, _, _, x, r, e => by simp at e
  | _ :: _, [], _, _, h, _, _, _ => by simp at h
  | _ :: _, _ :: _, [], h, _, _, _, _ => h.elim
  | y :: xs, q :: rs, v :: vs, h, hl, x, r, e => by
    simp only [List.zip_cons_cons] at e ⊢
    rcases lookup_set e with ⟨rfl, rfl⟩ | ⟨_, e⟩
    · exact ⟨v, .head _, h.1⟩
    · obtain ⟨u, h1, h2⟩ := zip_lookup h.2 (by simpa using hl) e
      exact ⟨u, .tail _ h1, h2⟩
theorem zip_lookup_none : ∀ {xs : List Str} {rs : List Rk} {x : Str}, xs.length = rs.length → (xs.zip rs).lookup x = none → x ∉ xs
  | [], _, _, _, _ => by simp
  | _ :: _, [], _, h, _ => by simp at h
  | y :: xs, q :: rs, x, hl, h => by
    simp only [List.zip_cons_cons, List.lookup_cons] at h
    split at h
    · cases h
    · rename_i hb
      simp only [List.mem_cons, not_or]
      exact ⟨fun e => by subst e; simp at hb, zip_lookup_none (by simpa using hl) h⟩
theorem zip_fst {xs : List Str} {vs : List Value} (h : xs.length = vs.length) : (xs.zip vs).map (·.1) = xs := List.map_fst_zip (by (first | decide | assumption | omega))

theorem cellsAre_mem {cm : Str → Option Value} {cs : List (Str × Addr)} {cells : List (Addr × Obj)} (h : CellsAre cm cs cells) : ∀ p ∈ cs, ∃ o, (p.2, o) ∈ cells ∧ o.data = .cell (cm p.1) := by
  induction h with
  | nil => intro p hp; simp at hp
  | cons h1 _ ih =>
    intro p hp
    rcases List.mem_cons.mp hp with rfl | hp
    · exact ⟨_, .head _, h1⟩
    · obtain ⟨o, h2, h3⟩ := ih p hp
      exact ⟨o, .tail _ h2, h3⟩

theorem spec_fn {Y : Lay} {n : Nat} (d : DefRec) (hd : d ∈ Y.defs) {args : List Rk} {res : Rk} (xs : List Str) (ρ0 : Vs) (μ0 : Addr → Ms)
    (hbind : ∀ vs pm cd doc, vs.length = args.length → bindArgs (docDef d.name d.params d.body d.scope pm cd doc) ⟨vs, []⟩ = pure (xs.zip vs))
    (hxs : xs.length = args.length) (hnd : xs.Nodup)
    (hkind : ∀ x ∈ xs, d.scope.names.lookup x = some .local ∨ (d.scope.names.lookup x = some .cell ∧ ∀ L, ((cellsFrom (L + 1) d.scope.names []).lookup x).isSome = true))
    (hcn : ((cellsFrom 0 d.scope.names []).map (·.1)).Nodup) (hap : ∀ L, ((cellsFrom (L + 1) d.scope.names []).map (·.2)).Nodup) (hcc : ∀ L, ∀ p ∈ cellsFrom (L + 1) d.scope.names [], d.scope.names.lookup p.1 ≠ some .local)
    (hρ : ∀ p ∈ ρ0, (xs.zip args).lookup p.1 = some p.2 ∧ d.scope.names.lookup p.1 = some .local)
    (hμ : ∀ L, μ0 L = (cellsFrom (L + 1) d.scope.names []).map (cellMk (xs.zip args)))
    (hco : d.scope.isCoroutine = false) (hgen : d.scope.isGenerator = false) (hk : d.scope.kind = .function)
    (walk : ∀ (C : Cx) (L a : Addr) (cd : Value), C.lay = Y → Ok C → (∀ m, m < n → AOk m C.A) → C.env = envOfC d.name d.scope L a cd → Tr C ρ0 (μ0 L) d.body (Rets res)) :
    Spec Y n d.name args res := fun A s g vs f hA T hf sg hh => by
  obtain ⟨f', o, pm, cd, doc, h1, h2, h3, h4⟩ := T.fn d hd
  rw [h1] at hf
  cases hf
  have hl := hh.length
  have hz : (xs.zip vs).map (·.1) = xs := zip_fst (by (first | decide | assumption | omega))
  refine call_cellsN_ret (by have := hA.2.2; (first | decide | assumption | omega)) h2 h3 T.nolimit h4 (hbind vs pm cd doc hl) (fun p hp => ?_) hcn (fun h₁ tk cells F N X => ?_) hco hgen hk
  · have : p.1 ∈ xs := hz ▸ List.mem_map.mpr ⟨p, hp, rfl⟩
    exact (hkind _ this).imp id fun h => ⟨h.1, h.2 _⟩
  · let C : Cx := { lay := Y, A := A.deeper (envOfC d.name d.scope s.heap.objs.size f cd), env := envOfC d.name d.scope s.heap.objs.size f cd, h₀ := s.heap, g₀ := g, s₀ := s }
    have O : Ok C := ⟨T, rfl, rfl, hA.1, by have := hA.2.1; show A.units + 3 + 100 < cLine; (first | decide | assumption | omega), by have := hA.2.2; show A.depth + 1 + 20 < recursionLimit; (first | decide | assumption | omega), hk⟩
    have hA' : ∀ m, m < n → AOk m C.A := fun m hm => ⟨hA.1, by have := hA.2.1; show A.units + 3 + 150 * (m + 1) < cLine; (first | decide | assumption | omega), by have := hA.2.2; show A.depth + 1 + 30 * (m + 1) < recursionLimit; (first | decide | assumption | omega)⟩
    have w := walk C s.heap.objs.size f cd rfl O hA' rfl
    have kp : Sub s.heap h₁ := fun b o e => F.keep b o e
    have fresh : s.heap.get? s.heap.objs.size = none := Heap.get?_none_of_le (Nat.le_refl _)
    have at0 : At C ρ0 (μ0 s.heap.objs.size) [] { s with heap := h₁, toks := tk } := by
      refine ⟨⟨_, _, rfl⟩, g, _, ⟨F.ns, sg.trans kp, kp, Sub.refl _, fun b o e _ => e, ?_, fresh, fun p hp => ?_, ?_⟩, fun x r e => ?_, fun p hp => by simp at hp⟩
      · cases e : g.get? s.heap.objs.size with
        | none => exact e
        | some o => have := sg _ _ e; rw [fresh] at this; cases this
      · rw [hμ] at hp
        obtain ⟨q, hq, rfl⟩ := List.mem_map.mp hp
        obtain ⟨o, ho, hd⟩ := cellsAre_mem X q hq
        obtain ⟨n1, n2, n3⟩ := N _ ho
        refine ⟨⟨o, n1, ?_⟩, n2, ?_, n3⟩
        · have hkq := hcc s.heap.objs.size q hq
          unfold cellMk
          cases e : (xs.zip args).lookup q.1 with
          | none =>
            have := zip_lookup_none hxs e
            rw [bindC_out (by rw [hz]; exact this)] at hd
            exact ⟨g, Sub.refl _, hd⟩
          | some r =>
            obtain ⟨v, hv, hr⟩ := zip_lookup hh hxs e
            rw [bindC_in (by rw [hz]; exact hnd) hv hkq] at hd
            exact ⟨v, hd, hr⟩
        · cases e : g.get? q.2 with
          | none => exact e
          | some o => have := sg _ _ e; rw [show s.heap.get? q.2 = none from n3] at this; cases this
      · rw [hμ, List.map_map]
        exact hap _
      · obtain ⟨h1, h2⟩ := hρ (x, r) (lookup_mem e)
        obtain ⟨v, hv, hr⟩ := zip_lookup hh hxs h1
        exact ⟨v, bindL_in (by rw [hz]; exact hnd) hv h2, hr⟩
    refine wpAny_mono (w [] _ (fun _ _ => False) at0) (fun fl s' h' => ?_) fun _ _ x => x
    obtain ⟨ρ', μ', τ', a', v, rfl, hv⟩ := h'
    obtain ⟨⟨h', t', e⟩, g', m', S, V, T'⟩ := a'
    subst e
    exact ⟨v, g', h', t', rfl, rfl, S.old, S.sub0, S.keep, S.back, T' _ (List.mem_append_left _ hv)⟩
end Mine
namespace Mine
open PySem PySem.W PySem.Calls PySem.Spec PyProof.Rows PySem.SeqAt

/-! ## dicts of numbers -/
section
variable {K : Type} [DecidableEq K]
noncomputable def lookP {β : Type} (f : List (K × β)) (k : K) : Option β := (f.find? fun x => x.1 = k).map (·.2)
noncomputable def putP {β : Type} (f : List (K × β)) (k : K) (n : β) : List (K × β) := if f.any (fun x => x.1 = k) then f.map (fun x => if x.1 = k then (x.1, n) else x) else f ++ [(k, n)]
noncomputable def bumpP (f : List (K × Int)) (k : K) (n : Int) : List (K × Int) := putP f k ((lookP f k).getD 0 + n)
noncomputable def sumF (ps : List (K × Int)) : List (K × Int) := ps.foldl (fun f p => bumpP f p.1 p.2) []
noncomputable abbrev kvi (f : List (K × Int)) : List (K × Rk) := kvd (f.map fun p => (p.1, PyData.int p.2))
theorem kvi_eq (f : List (K × Int)) : kvi f = f.map fun p => (p.1, dInt p.2) := by simp [kvi, kvd]
theorem lookR_kvi (f : List (K × Int)) (k : K) : lookR (kvi f) k = (lookP f k).map dInt := by
  rw [kvi_eq]
  unfold lookR lookP
  rw [List.find?_map]
  simp only [Option.map_map]
  rfl
theorem putR_kvi (f : List (K × Int)) (k : K) (n : Int) : putR (kvi f) k (dInt n) = kvi (putP f k n) := by
  rw [kvi_eq, kvi_eq]
  unfold putR putP
  rw [List.any_map]
  simp only [Function.comp_def]
  split
  · rw [List.map_map, List.map_map]
    apply List.map_congr_left
    intro x _
    simp only [Function.comp]
    split <;> rfl
  · simp
theorem putP_keys (f : List (K × Int)) (k : K) (n : Int) : (putP f k n).map (·.1) = if k ∈ f.map (·.1) then f.map (·.1) else f.map (·.1) ++ [k] := by
  unfold putP
  by_cases h : k ∈ f.map (·.1)
  · rw [if_pos h, if_pos]
    · rw [List.map_map]
      apply List.map_congr_left
      intro x _
      simp only [Function.comp]
      split <;> rfl
    · obtain ⟨p, hp, rfl⟩ := List.mem_map.mp h
      exact List.any_eq_true.mpr ⟨p, hp, by simp⟩
  · rw [if_neg h, if_neg]
    · simp
    · intro h2
      obtain ⟨p, hp, e⟩ := List.any_eq_true.mp h2
      exact h (List.mem_map.mpr ⟨p, hp, by simpa using e⟩)
theorem putP_nodup {f : List (K × Int)} (h : (f.map (·.1)).Nodup) (k : K) (n : Int) : ((putP f k n).map (·.1)).Nodup := by
  rw [putP_keys]
  split
  · exact h
  · rename_i hk
    rw [List.nodup_append]
    exact ⟨h, by simp, fun a ha b hb e => by simp at hb; subst hb e; exact hk ha⟩
theorem bumps_nodup (ps : List (K × Int)) : ∀ (f : List (K × Int)), (f.map (·.1)).Nodup → ((ps.foldl (fun f p => bumpP f p.1 p.2) f).map (·.1)).Nodup := by
  induction ps with
  | nil => intro f h; exact h
  | cons p ps ih => intro f h; exact ih _ (putP_nodup h _ _)
theorem sumF_nodup (ps : List (K × Int)) : ((sumF ps).map (·.1)).Nodup := bumps_nodup ps [] (by simp)
theorem putP_len (f : List (K × Int)) (k : K) (n : Int) : (putP f k n).length ≤ f.length + 1 := by
  unfold putP; split <;> simp
theorem bumps_len (ps : List (K × Int)) : ∀ (f : List (K × Int)), (ps.foldl (fun f p => bumpP f p.1 p.2) f).length ≤ f.length + ps.length := by
  induction ps with
  | nil => intro f; simp
  | cons p ps ih =>
    intro f
    have h1 := ih (bumpP f p.1 p.2)
    have h2 := putP_len f p.1 ((lookP f p.1).getD 0 + p.2)
    simp only [List.foldl_cons, List.length_cons]
    unfold bumpP at h1 ⊢
    (first | decide | assumption | omega)
theorem sumF_len (ps : List (K × Int)) : (sumF ps).length ≤ ps.length := by
  have := bumps_len ps ([] : List (K × Int))
  simp only [List.length_nil, Nat.zero_add] at this
  exact this
theorem sumF_snoc (ps : List (K × Int)) (p : K × Int) : sumF (ps ++ [p]) = bumpP (sumF ps) p.1 p.2 := by simp [sumF]
end

section
variable {C : Cx} {ρ : Vs} {μ : Ms} {e e1 e2 : Expr} {r : Rk} {pos np apos xp : Pos} {x : Str} {P : Post} {K : Type} [DecidableEq K] {δ : DKC C K} {f : List (K × Int)} {k : K}
theorem PE.getI {pl : Sem Bool} {o : Expr} {n : Int} (O : Ok C) (p0 : PE C ρ μ o r) (D : DictV C μ δ r (kvi f)) (p1 : PE C ρ μ e1 (.dat (δ.enc k))) (p2 : PE C ρ μ e2 (dInt n)) (he : MethShape o "get" apos [e1, e2] pos C.env pl)
    (hs : backTo pos (starEach [e1, e2] C.env) = trees [e1, e2] C.env := by rfl) : PE C ρ μ (.Call (.Attribute o "get" apos) [e1, e2] [] pos) (dInt ((lookP f k).getD n)) := by
  have h := PE.get O p0 D p1 p2 he hs
  rw [lookR_kvi] at h
  cases hl : lookP f k with
  | none => rw [hl] at h; exact h
  | some m => rw [hl] at h; exact h
end
theorem rets_ok {res : Rk} {v : Value} {ρ : Vs} {μ : Ms} : Rets res (.ret v) ρ μ [(v, res)] := ⟨v, rfl, .head _⟩

section
variable {C : Cx} {ρ : Vs} {μ μ' : Ms} {e tgt : Expr} {n : Nat} {D D' : Nat → Rk}
theorem Src.congr {I : Addr} {own : Nat → Ms} {τs : Ts} (h : ∀ i, i < n → D i = D' i) (x : Src C tgt I own τs n D) : Src C tgt I own τs n D' where
  item := fun i ρ μ τ s Q E hi a k => x.item i ρ μ τ s Q E hi a (h i hi ▸ k)
  done := x.done
  self := x.self
theorem Srcs.congr (h : ∀ i, i < n → D i = D' i) (x : Srcs C ρ μ e tgt μ' n D) : Srcs C ρ μ e tgt μ' n D' := fun τ s Q E a k =>
  x τ s Q E a fun I own τs s' src a' => k I own τs s' (fun C' O hl hA => (src C' O hl hA).congr h) a'
theorem srcs_ints {ns : List Int} (p : EV C ρ μ e μ' (dInts ns)) : Srcs C ρ μ e tgt μ' ns.length (fun i => dInt (ns.getD i 0)) := by
  have := srcs_list (tgt := tgt) p
  rw [show (zs ns).length = ns.length by simp] at this
  exact this.congr fun i hi => by simp [zs, List.getD, List.getElem?_eq_getElem hi]
theorem srcs_tups {ts : List (List Int)} (p : EV C ρ μ e μ' (dList (tups ts))) : Srcs C ρ μ e tgt μ' ts.length (fun i => dTup (zs (ts.getD i []))) := by
  have := srcs_list (tgt := tgt) p
  rw [show (tups ts).length = ts.length by simp] at this
  exact this.congr fun i hi => by simp [tups, List.getD, List.getElem?_eq_getElem hi]
end
theorem len2 {α : Type} {l : List α} (h : l.length = 2) : ∃ a b, l = [a, b] := by
  match l, h with
  | [a, b], _ => exact ⟨a, b, rfl⟩
theorem len3 {α : Type} {l : List α} (h : l.length = 3) : ∃ a b c, l = [a, b, c] := by
  match l, h with
  | [a, b, c], _ => exact ⟨a, b, c, rfl⟩
theorem take_succ_getD {α : Type} (l : List α) (d : α) {i : Nat} (hi : i < l.length) : l.take (i + 1) = l.take i ++ [l.getD i d] := by
  rw [List.take_add_one, List.getElem?_eq_getElem hi]
  simp [List.getD, List.getElem?_eq_getElem hi]

noncomputable def countF (ns : List Int) : List (Int × Int) := sumF (ns.map fun n => (n, 1))
noncomputable def countsL (ns : List Int) : List (List Int) := sortT ((countF ns).map fun p => [p.1, p.2])

theorem spec_counts {Y : Lay} (hY : Y.defs = allDefs) (ns : List Int) (hn : ns.length < 64) : Spec Y 0 "counts_of" [dInts ns] (dList (tups (countsL ns))) := by
  refine spec_fn D_counts_of (by rw [hY]; unfold allDefs; simp) ["lines"] [("lines", dInts ns)] (fun _ => []) ?_ rfl ?_ ?_ ?_ ?_ ?_ ?_ ?_ rfl rfl rfl ?_
  · intro vs pm cd doc hl
    obtain ⟨v, rfl⟩ : ∃ v, vs = [v] := List.length_eq_one_iff.mp hl
    rfl
  · simp
  · intro x hx; simp at hx; subst hx; exact .inl (by (first | rfl | kernel_rfl))
  · exact List.nodup_nil
  · intro L; exact List.nodup_nil
  · intro L p hp; exact absurd hp (by intro h; cases h)
  · intro p hp; simp at hp; subst hp; exact ⟨by (first | rfl | kernel_rfl), by (first | rfl | kernel_rfl)⟩
  · intro L; rfl
  · rintro ⟨lay, A, env, h0, g0, s0⟩ L a cd hlay O hA henv
    subst henv
    refine Tr.cons (Tx.dict0 (δ := intK lay.prog lay.w) O (by (first | rfl | kernel_rfl)) fun d => ?_)
    refine Tr.cons (Tx.for_ O (n := ns.length) (D := fun i => dInt (ns.getD i 0)) (fun i => [("found", .val (.ref d)), ("lines", dInts ns)]) (fun i => [("line", dInt (ns.getD i 0)), ("found", .val (.ref d)), ("lines", dInts ns)])
      (fun i => [(d, dictM (intK lay.prog lay.w) (kvi (countF (ns.take i))))]) (srcs_ints (PE.name O (by (first | rfl | kernel_rfl)) (by (first | rfl | kernel_rfl)) (by (first | rfl | kernel_rfl))).ev) (fun p hp => ?_) (fun i hi => Asg.name O (by (first | rfl | kernel_rfl))) (fun i hi ν => ?_) ?_)
    · revert p; (repeat' (first | exact List.forall_mem_nil _ | refine List.forall_mem_cons.mpr ⟨by (first | rfl | kernel_rfl), ?_⟩))
    · refine Tr.cons (Tx.dictSet (k := ns.getD i 0) O (by (first | rfl | kernel_rfl)) (by (first | rfl | kernel_rfl)) (by (first | rfl | kernel_rfl)) (PE.add (PE.getI O (PE.name O (by (first | rfl | kernel_rfl)) (by (first | rfl | kernel_rfl)) (by (first | rfl | kernel_rfl))) (.inr ⟨d, rfl, .head _⟩) (PE.name O (by (first | rfl | kernel_rfl)) (by (first | rfl | kernel_rfl)) (by (first | rfl | kernel_rfl))) (PE.int _ _) rfl) (PE.int _ _)) (PE.name O (by (first | rfl | kernel_rfl)) (by (first | rfl | kernel_rfl)) (by (first | rfl | kernel_rfl))) ?_ ?_)
      · rw [kvd_len, List.length_map]; have := sumF_len ((ns.take i).map fun n => (n, (1 : Int))); have h2 : ((ns.take i).map fun n => (n, (1 : Int))).length ≤ ns.length := by simp; (first | decide | assumption | omega)
        show (sumF _).length ≤ _
        (first | decide | assumption | omega)
      · refine Tr.nil ⟨rfl, fun p hp => ?_, ?_⟩
        · revert p; (repeat' (first | exact List.forall_mem_nil _ | refine List.forall_mem_cons.mpr ⟨by (first | rfl | kernel_rfl), ?_⟩))
        · rw [putR_kvi, take_succ_getD ns 0 hi]
          simp [countF, sumF, bumpP]
    · simp only [List.take_length]
      refine Tr.freeze (δ := intK lay.prog lay.w) (x := "found") O (by (first | rfl | kernel_rfl)) ?_
      refine Tr.cons (Tx.ret (PE.sortedItems (ns := countF ns) O (PE.items O rfl (PE.name O (by (first | rfl | kernel_rfl)) (by (first | rfl | kernel_rfl)) (by (first | rfl | kernel_rfl)))) (by (first | rfl | kernel_rfl)) (sumF_nodup _) ?_) (fun v => (show ∃ u, Flow.ret v = Flow.ret u ∧ (u, _) ∈ [(v, _)] from ⟨v, rfl, List.Mem.head _⟩)))
      show (sumF _).length < _
      have := sumF_len (ns.map fun n => (n, (1 : Int)))
      simp only [List.length_map] at this
      (first | decide | assumption | omega)
end Mine
namespace Mine
open PySem PySem.W PySem.Calls PySem.Spec PyProof.Rows PySem.SeqAt

theorem pickL_map {α β : Type} (f : α → β) (l : List α) (i j k : Option Int) : pickL (l.map f) i j k = (pickL l i j k).map f := by
  unfold pickL
  rw [List.length_map]
  generalize sliceRange _ _ _ = js
  induction js with
  | nil => rfl
  | cons j js ih =>
    simp only [List.filterMap_cons, List.getElem?_map]
    cases l[j]? with
    | none => simpa using ih
    | some x => simpa using ih
theorem range_map_getD {α β : Type} (l : List α) (d : α) (g : α → β) : (List.range l.length).map (fun i => g (l.getD i d)) = l.map g := by
  apply List.ext_getElem
  · simp
  · intro i h1 h2
    have : i < l.length := by simpa using h1
    simp [List.getD, List.getElem?_eq_getElem this]
section
variable {C : Cx} {ρ : Vs} {μ : Ms} {e e1 e2 : Expr} {r : Rk} {pos np apos xp sp : Pos} {x : Str} {P : Post}
theorem PE.sliceI {ns ms : List Int} {lo hi st : Option Expr} {i j k : Option Int} (p : PE C ρ μ e (dInts ns)) (p1 : PP C ρ μ lo i) (p2 : PP C ρ μ hi j) (p3 : PP C ρ μ st k) (hk : k ≠ some 0) (hn : ns.length ≤ 1000000) (hm : pickL ns i j k = ms)
    (hs : ∀ o i, ∃ ops, subscripted (.Slice lo hi st sp) false o i = operate ops (getItem o i) := by intros; exact ⟨_, rfl⟩) : PE C ρ μ (.Subscript e (.Slice lo hi st sp) pos) (dInts ms) := by
  subst hm
  have := PE.slice (pos := pos) (sp := sp) p p1 p2 p3 hk (by simpa using hn) hs
  rw [pickL_map] at this
  exact this
theorem srcs_zipI {ns ms : List Int} {tg : List Expr} {k : Nat} (O : Ok C) (p1 : PE C ρ μ e1 (dInts ns)) (p2 : PE C ρ μ e2 (dInts ms)) (hk : C.env.kindOf "zip" = some .globalImplicit)
    (hs : backTo pos (starEach [e1, e2] C.env) = trees [e1, e2] C.env := by rfl) : Srcs C ρ μ (.Call (.Name "zip" np) [e1, e2] [] pos) (.Tuple tg k xp) μ (ns.zip ms).length (fun i => dTup [.int ((ns.zip ms).getD i (0, 0)).1, .int ((ns.zip ms).getD i (0, 0)).2]) := by
  have h := srcs_zip (tg := tg) (k := k) (xp := xp) (np := np) O p1 p2 hk hs
  rw [show min (zs ns).length (zs ms).length = (ns.zip ms).length by simp] at h
  refine h.congr fun i hi => ?_
  have h1 : i < ns.length := by simp at hi; (first | decide | assumption | omega)
  have h2 : i < ms.length := by simp at hi; (first | decide | assumption | omega)
  simp [zs, List.getD, List.getElem?_eq_getElem h1, List.getElem?_eq_getElem h2, List.getElem?_eq_getElem hi]
end

noncomputable abbrev tK (C : Cx) : DKC C (List Int) := tupK C.lay.prog C.lay.w
noncomputable abbrev iK (C : Cx) : DKC C Int := intK C.lay.prog C.lay.w
section
variable {C : Cx} {ρ : Vs} {μ : Ms} {e e1 e2 o : Expr} {r : Rk} {pos np apos xp sp tp : Pos} {x : Str} {P : Post} {k : List Int} {n : Int}
theorem PE.getT {f : List (List Int × Int)} {pl : Sem Bool} (O : Ok C) (p0 : PE C ρ μ o r) (D : DictV C μ (tK C) r (kvi f)) (p1 : PE C ρ μ e1 (dTup (zs k))) (p2 : PE C ρ μ e2 (dInt n)) (he : MethShape o "get" apos [e1, e2] pos C.env pl)
    (hs : backTo pos (starEach [e1, e2] C.env) = trees [e1, e2] C.env := by rfl) : PE C ρ μ (.Call (.Attribute o "get" apos) [e1, e2] [] pos) (dInt ((lookP f k).getD n)) := PE.getI (δ := tK C) O p0 D p1 p2 he hs
theorem PE.getN {f : List (Int × Int)} {k : Int} {pl : Sem Bool} (O : Ok C) (p0 : PE C ρ μ o r) (D : DictV C μ (iK C) r (kvi f)) (p1 : PE C ρ μ e1 (dInt k)) (p2 : PE C ρ μ e2 (dInt n)) (he : MethShape o "get" apos [e1, e2] pos C.env pl)
    (hs : backTo pos (starEach [e1, e2] C.env) = trees [e1, e2] C.env := by rfl) : PE C ρ μ (.Call (.Attribute o "get" apos) [e1, e2] [] pos) (dInt ((lookP f k).getD n)) := PE.getI (δ := iK C) O p0 D p1 p2 he hs
theorem Tx.setT {f : List (List Int × Int)} {d : Addr} {i v : Expr} (O : Ok C) (hx : ρ.lookup x = some (.val (.ref d))) (hk : C.env.kindOf x = some .local) (hd : (x == ("__debug__" : Str)) = false) (p : PE C ρ ((d, dictM (tK C) (kvi f)) :: μ) v (dInt n)) (pi : PE C ρ ((d, dictM (tK C) (kvi f)) :: μ) i (dTup (zs k)))
    (hn : f.length ≤ 1000) (h : P .next ρ ((d, dictM (tK C) (kvi (putP f k n))) :: μ) []) (hs : swapsWith v (some (.Subscript (.Name x xp) i tp)) pos.line C.env = pure false := by rfl) :
    Tx C ρ ((d, dictM (tK C) (kvi f)) :: μ) (.Assign [.Subscript (.Name x xp) i tp] v pos) P :=
  Tx.dictSet (δ := tK C) O hx hk hd p pi (by rw [kvd_len, List.length_map]; (first | decide | assumption | omega)) (by rw [putR_kvi]; exact h) hs
theorem Tx.setN {f : List (Int × Int)} {k : Int} {d : Addr} {i v : Expr} (O : Ok C) (hx : ρ.lookup x = some (.val (.ref d))) (hk : C.env.kindOf x = some .local) (hd : (x == ("__debug__" : Str)) = false) (p : PE C ρ ((d, dictM (iK C) (kvi f)) :: μ) v (dInt n)) (pi : PE C ρ ((d, dictM (iK C) (kvi f)) :: μ) i (dInt k))
    (hn : f.length ≤ 1000) (h : P .next ρ ((d, dictM (iK C) (kvi (putP f k n))) :: μ) []) (hs : swapsWith v (some (.Subscript (.Name x xp) i tp)) pos.line C.env = pure false := by rfl) :
    Tx C ρ ((d, dictM (iK C) (kvi f)) :: μ) (.Assign [.Subscript (.Name x xp) i tp] v pos) P :=
  Tx.dictSet (δ := iK C) O hx hk hd p pi (by rw [kvd_len, List.length_map]; (first | decide | assumption | omega)) (by rw [putR_kvi]; exact h) hs
theorem srcs_itemsT {f : List (List Int × Int)} {tg : List Expr} {kk : Nat} {pl : Sem Bool} (O : Ok C) (he : MethShape o "items" apos [] pos C.env pl) (p : PE C ρ μ o (dictR (tK C) (kvi f))) (hn : f.length ≤ 1000)
    (hs : backTo pos (starEach [] C.env) = trees [] C.env := by rfl) : Srcs C ρ μ (.Call (.Attribute o "items" apos) [] [] pos) (.Tuple tg kk xp) μ f.length (fun i => dTup [.tuple (zs (f.getD i ([], 0)).1), .int (f.getD i ([], 0)).2]) := by
  have h := srcs_items (tg := tg) (kk := kk) (xp := xp) O (tK C) ([], .none) he p (by rw [List.length_map]; (first | decide | assumption | omega)) hs
  rw [List.length_map] at h
  refine h.congr fun i hi => ?_
  simp only [List.getD, List.getElem?_map, List.getElem?_eq_getElem hi, Option.map_some, Option.getD_some]
  rfl
theorem srcs_keysT {f : List (List Int × Int)} {tgt : Expr} (O : Ok C) (p : PE C ρ μ e (dictR (tK C) (kvi f))) : Srcs C ρ μ e tgt μ f.length (fun i => dTup (zs (f.getD i ([], 0)).1)) := by
  have h := srcs_keys (tgt := tgt) O (tK C) ([], .none) p
  rw [List.length_map] at h
  refine h.congr fun i hi => ?_
  simp only [List.getD, List.getElem?_map, List.getElem?_eq_getElem hi, Option.map_some, Option.getD_some]
  rfl
theorem srcs_keysN {f : List (Int × Int)} {tgt : Expr} (O : Ok C) (p : PE C ρ μ e (dictR (iK C) (kvi f))) : Srcs C ρ μ e tgt μ f.length (fun i => dInt (f.getD i (0, 0)).1) := by
  have h := srcs_keys (tgt := tgt) O (iK C) (0, .none) p
  rw [List.length_map] at h
  refine h.congr fun i hi => ?_
  simp only [List.getD, List.getElem?_map, List.getElem?_eq_getElem hi, Option.map_some, Option.getD_some]
  rfl
end

/-- a comprehension with one clause, whose turns leave nothing -/
theorem PE.comp {C : Cx} {ρ : Vs} {μ : Ms} {elt iter tgt : Expr} {pos : Pos} {scope : Scope} {cl : List (Str × Addr)} {n : Nat} {Dr : Nat → Rk} (ds : List PyData) (O : Ok C) (ρa : Nat → Vs) (fs : Nat → PyData) (sr : Srcs C ρ μ iter tgt μ n Dr)
    (asg : ∀ L i, i < n → Asg (C.comp scope cl L) [] tgt (Dr i) (ρa i))
    (turn : ∀ L, Ok (C.comp scope cl L) → ∀ i, i < n → ∀ ν, PE (C.comp scope cl L) (ρa i) (μ ++ ν) elt (.dat (fs i))) (hn : n ≤ 1000) (hds : (List.range n).map fs = ds)
    (hclos : closureFor scope C.env = pure cl := by rfl)
    (hk : scope.kind = .function := by rfl) (hcell : ∀ x ∈ scope.names, x.2 ≠ .cell := by decide) (hnames : ∀ x ∈ scope.names, x.2 = .local → scope.names.lookup x.1 = some .local := by decide)
    (hs : ∀ x, foldedSetIterable iter C.env x = pure x := by intro _; rfl) :
    PE C ρ μ (.ListComp elt [⟨tgt, iter, [], 0⟩] scope pos) (dList ds) := by
  have h := EV.comp (pos := pos) (μ0 := μ) O hk hcell hnames hclos (fun _ => μ) sr (fun _ => []) ρa fs rfl asg (fun i hi p hp => by simp at hp) (fun L i hi ν => turn L (O.comp hk L) i hi ν) hn hs
  rw [hds] at h
  exact h

noncomputable def pairsOf (ns : List Int) : List (List Int) := (ns.zip (ns.drop 1)).map fun p => [p.1, p.2]
noncomputable def stepsF (ns : List Int) : List (List Int × Int) := sumF ((pairsOf ns).map fun k => (k, 1))
noncomputable def stepT (p : List Int × Int) : List Int := [p.1.getD 0 0, p.1.getD 1 0, p.2]
noncomputable def stepsL (ns : List Int) : List (List Int) := sortT ((stepsF ns).map stepT)
theorem putP_mem {K : Type} [DecidableEq K] {f : List (K × Int)} {k : K} {n : Int} {p : K × Int} (h : p ∈ putP f k n) : p.1 = k ∨ p.1 ∈ f.map (·.1) := by
  have : p.1 ∈ (putP f k n).map (·.1) := List.mem_map.mpr ⟨p, h, rfl⟩
  rw [putP_keys] at this
  split at this
  · exact .inr this
  · rcases List.mem_append.mp this with h | h
    · exact .inr h
    · exact .inl (by simpa using h)
theorem bumps_keys {K : Type} [DecidableEq K] (ps : List (K × Int)) : ∀ (f : List (K × Int)), ∀ p ∈ ps.foldl (fun f p => bumpP f p.1 p.2) f, p.1 ∈ f.map (·.1) ∨ p.1 ∈ ps.map (·.1) := by
  induction ps with
  | nil => intro f p hp; exact .inl (List.mem_map.mpr ⟨p, hp, rfl⟩)
  | cons q ps ih =>
    intro f p hp
    rcases ih _ p hp with h | h
    · obtain ⟨x, hx, e⟩ := List.mem_map.mp h
      rcases putP_mem hx with e2 | e2
      · exact .inr (by rw [← e, e2]; simp)
      · exact .inl (e ▸ e2)
    · exact .inr (by simp [h])
theorem sumF_keys {K : Type} [DecidableEq K] (ps : List (K × Int)) : ∀ p ∈ sumF ps, p.1 ∈ ps.map (·.1) := fun p hp => (bumps_keys ps [] p hp).resolve_left (by simp)
theorem stepsF_two {ns : List Int} {p : List Int × Int} (h : p ∈ stepsF ns) : ∃ a b, p.1 = [a, b] := by
  have := sumF_keys _ p h
  rw [List.map_map] at this
  obtain ⟨k, hk, e⟩ := List.mem_map.mp this
  obtain ⟨q, _, rfl⟩ := List.mem_map.mp hk
  exact ⟨q.1, q.2, e.symm⟩
theorem stepT_nodup {f : List (List Int × Int)} (h2 : ∀ p ∈ f, ∃ a b, p.1 = [a, b]) (hn : (f.map (·.1)).Nodup) : (f.map stepT).Nodup := by
  induction f with
  | nil => simp
  | cons p f ih =>
    rw [List.map_cons, List.nodup_cons] at hn ⊢
    refine ⟨fun hm => hn.1 ?_, ih (fun q hq => h2 q (.tail _ hq)) hn.2⟩
    obtain ⟨q, hq, e⟩ := List.mem_map.mp hm
    obtain ⟨a, b, e1⟩ := h2 p (.head _)
    obtain ⟨c, d, e2⟩ := h2 q (.tail _ hq)
    simp only [stepT, e1, e2, List.getD_cons_zero, List.getD_cons_succ, List.cons.injEq] at e
    exact List.mem_map.mpr ⟨q, hq, by rw [e1, e2, e.1, e.2.1]⟩
theorem stepsF_len (ns : List Int) : (stepsF ns).length ≤ ns.length := by
  have := sumF_len ((pairsOf ns).map fun k => (k, (1 : Int)))
  simp only [List.length_map, pairsOf, List.length_zip, List.length_drop] at this
  unfold stepsF pairsOf
  (first | decide | assumption | omega)

theorem spec_steps {Y : Lay} (hY : Y.defs = allDefs) (ns : List Int) (hn : ns.length < 64) : Spec Y 0 "steps_between" [dInts ns] (dList (tups (stepsL ns))) := by
  refine spec_fn D_steps_between (by rw [hY]; unfold allDefs; simp) ["lines"] [("lines", dInts ns)] (fun _ => []) ?_ rfl ?_ ?_ ?_ ?_ ?_ ?_ ?_ rfl rfl rfl ?_
  · intro vs pm cd doc hl
    obtain ⟨v, rfl⟩ : ∃ v, vs = [v] := List.length_eq_one_iff.mp hl
    rfl
  · simp
  · intro x hx; simp at hx; subst hx; exact .inl (by (first | rfl | kernel_rfl))
  · exact List.nodup_nil
  · intro L; exact List.nodup_nil
  · intro L p hp; exact absurd hp (by intro h; cases h)
  · intro p hp; simp at hp; subst hp; exact ⟨by (first | rfl | kernel_rfl), by (first | rfl | kernel_rfl)⟩
  · intro L; rfl
  · rintro ⟨lay, A, env, h0, g0, s0⟩ L a cd hlay O hA henv
    subst henv
    refine Tr.cons (Tx.dict0 (δ := tupK lay.prog lay.w) O (by (first | rfl | kernel_rfl)) fun d => ?_)
    have zl : (ns.zip (ns.drop 1)).length ≤ ns.length := by simp
    refine Tr.cons (Tx.for_ O (n := (ns.zip (ns.drop 1)).length) (D := fun i => dTup [.int ((ns.zip (ns.drop 1)).getD i (0, 0)).1, .int ((ns.zip (ns.drop 1)).getD i (0, 0)).2]) (fun i => [("found", .val (.ref d)), ("lines", dInts ns)])
      (fun i => [("there", dInt ((ns.zip (ns.drop 1)).getD i (0, 0)).2), ("here", dInt ((ns.zip (ns.drop 1)).getD i (0, 0)).1), ("found", .val (.ref d)), ("lines", dInts ns)])
      (fun i => [(d, dictM (tK ⟨lay, A, envOfC D_steps_between.name D_steps_between.scope L a cd, h0, g0, s0⟩) (kvi (sumF (((pairsOf ns).take i).map fun k => (k, 1)))))])
      (srcs_zipI O (PE.name O (by (first | rfl | kernel_rfl)) (by (first | rfl | kernel_rfl)) (by (first | rfl | kernel_rfl))) (PE.sliceI (PE.name O (by (first | rfl | kernel_rfl)) (by (first | rfl | kernel_rfl)) (by (first | rfl | kernel_rfl))) (.some (PE.int 1 _)) .none .none (by simp) (by (first | decide | assumption | omega)) (pickL_from ns 1)) (by (first | rfl | kernel_rfl))) (fun p hp => ?_) (fun i hi => Asg.tup O [("here", _), ("there", _)] rfl (by (repeat' (first | exact List.forall_mem_nil _ | refine List.forall_mem_cons.mpr ⟨by (first | rfl | kernel_rfl), ?_⟩)))) (fun i hi ν => ?_) ?_)
    · revert p; (repeat' (first | exact List.forall_mem_nil _ | refine List.forall_mem_cons.mpr ⟨by (first | rfl | kernel_rfl), ?_⟩))
    · refine Tr.cons ?_
      refine Tx.setT (k := [((ns.zip (ns.drop 1)).getD i (0, 0)).1, ((ns.zip (ns.drop 1)).getD i (0, 0)).2]) O (by (first | rfl | kernel_rfl)) (by (first | rfl | kernel_rfl)) (by (first | rfl | kernel_rfl))
        (PE.add (PE.getT (k := [((ns.zip (ns.drop 1)).getD i (0, 0)).1, ((ns.zip (ns.drop 1)).getD i (0, 0)).2]) O (PE.name O (by (first | rfl | kernel_rfl)) (by (first | rfl | kernel_rfl)) (by (first | rfl | kernel_rfl))) (.inr ⟨d, rfl, .head _⟩) (PE.tuple (ds := [.int ((ns.zip (ns.drop 1)).getD i (0, 0)).1, .int ((ns.zip (ns.drop 1)).getD i (0, 0)).2]) _ (.cons (PE.name O (by (first | rfl | kernel_rfl)) (by (first | rfl | kernel_rfl)) (by (first | rfl | kernel_rfl))) (.cons (PE.name O (by (first | rfl | kernel_rfl)) (by (first | rfl | kernel_rfl)) (by (first | rfl | kernel_rfl))) .nil))) (PE.int _ _) rfl) (PE.int _ _))
        (PE.tuple (ds := [.int ((ns.zip (ns.drop 1)).getD i (0, 0)).1, .int ((ns.zip (ns.drop 1)).getD i (0, 0)).2]) _ (.cons (PE.name O (by (first | rfl | kernel_rfl)) (by (first | rfl | kernel_rfl)) (by (first | rfl | kernel_rfl))) (.cons (PE.name O (by (first | rfl | kernel_rfl)) (by (first | rfl | kernel_rfl)) (by (first | rfl | kernel_rfl))) .nil))) ?_ ?_
      · have := sumF_len (((pairsOf ns).take i).map fun n => (n, (1 : Int)))
        have h2 : (((pairsOf ns).take i).map fun n => (n, (1 : Int))).length ≤ ns.length := by simp [pairsOf]; (first | decide | assumption | omega)
        (first | decide | assumption | omega)
      · refine Tr.nil ⟨rfl, fun p hp => ?_, ?_⟩
        · revert p; (repeat' (first | exact List.forall_mem_nil _ | refine List.forall_mem_cons.mpr ⟨by (first | rfl | kernel_rfl), ?_⟩))
        · have hp : i < (pairsOf ns).length := by simpa [pairsOf] using hi
          rw [take_succ_getD (pairsOf ns) [] hp]
          have e : (pairsOf ns).getD i [] = [((ns.zip (ns.drop 1)).getD i (0, 0)).1, ((ns.zip (ns.drop 1)).getD i (0, 0)).2] := by
            simp only [pairsOf, List.getD, List.getElem?_map, List.getElem?_eq_getElem hi]
            rfl
          rw [e, List.map_append]
          show _ = [(d, dictM _ (kvi (sumF (_ ++ [(_, 1)]))))] ++ ν
          rw [sumF_snoc]
          rfl
    · have e : (pairsOf ns).take (ns.zip (ns.drop 1)).length = pairsOf ns := List.take_of_length_le (by simp [pairsOf])
      simp only [e]
      refine Tr.freeze (δ := tupK lay.prog lay.w) (x := "found") O (by (first | rfl | kernel_rfl)) ?_
      have hl : ((stepsF ns).map fun p => (p.1, PyData.int p.2)).length = (stepsF ns).length := List.length_map ..
      have hlen := stepsF_len ns
      refine Tr.cons (Tx.ret (PE.sorted (ts := (stepsF ns).map stepT) O ?_ (by (first | rfl | kernel_rfl)) (fun t ht => by obtain ⟨p, _, rfl⟩ := List.mem_map.mp ht; simp [stepT]) (stepT_nodup (fun p hp => stepsF_two hp) (sumF_nodup _)) (by simpa using by (first | decide | assumption | omega))) (fun v => (show ∃ u, Flow.ret v = Flow.ret u ∧ (u, _) ∈ [(v, _)] from ⟨v, rfl, List.Mem.head _⟩)))
      have hl2 : (stepsF ns).length ≤ 1000 := by (first | decide | assumption | omega)
      refine PE.comp _ O (fun i => [("many", dInt ((stepsF ns).getD i ([], 0)).2), ("pair", dTup (zs ((stepsF ns).getD i ([], 0)).1))]) (fun i => .tuple (zs (stepT ((stepsF ns).getD i ([], 0)))))
        (srcs_itemsT (f := stepsF ns) O rfl (PE.name O (by (first | rfl | kernel_rfl)) (by (first | rfl | kernel_rfl)) (by (first | rfl | kernel_rfl))) hl2) (fun L i hi => ?_) (fun L O2 i hi ν => ?_) hl2 ?_
      · exact Asg.tup (ds := [.tuple (zs ((stepsF ns).getD i ([], 0)).1), .int ((stepsF ns).getD i ([], 0)).2]) (O.comp rfl L) [("pair", _), ("many", _)] rfl (by (repeat' (first | exact List.forall_mem_nil _ | refine List.forall_mem_cons.mpr ⟨by (first | rfl | kernel_rfl), ?_⟩)))
      · have hm : (stepsF ns).getD i ([], 0) ∈ stepsF ns := by simp [List.getD, List.getElem?_eq_getElem hi]
        obtain ⟨a1, b1, e1⟩ := stepsF_two hm
        exact PE.tuple (ds := [.int (((stepsF ns).getD i ([], 0)).1.getD 0 0), .int (((stepsF ns).getD i ([], 0)).1.getD 1 0), .int ((stepsF ns).getD i ([], 0)).2]) _
          (.cons (PE.itemT (PE.name O2 (by (first | rfl | kernel_rfl)) (by (first | rfl | kernel_rfl)) (by (first | rfl | kernel_rfl))) (PE.int 0 _) (by decide) (by decide) (by rw [e1]; rfl)) (.cons (PE.itemT (PE.name O2 (by (first | rfl | kernel_rfl)) (by (first | rfl | kernel_rfl)) (by (first | rfl | kernel_rfl))) (PE.int 1 _) (by decide) (by decide) (by rw [e1]; rfl)) (.cons (PE.name O2 (by (first | rfl | kernel_rfl)) (by (first | rfl | kernel_rfl)) (by (first | rfl | kernel_rfl))) .nil)))
      · exact (range_map_getD (stepsF ns) ([], 0) fun p => PyData.tuple (zs (stepT p))).trans (by rw [tups, List.map_map]; rfl)
end Mine
namespace Mine
open PySem PySem.W PySem.Calls PySem.Spec PyProof.Rows PySem.SeqAt

/-! ## when data are equal -/
structure EncOk {α : Type} [DecidableEq α] (enc : α → PyData) (k : Nat) : Prop where
  eqv : ∀ x y, PyData.eqv (enc x) (enc y) = decide (x = y)
  lay : ∀ x, (enc x).canLay0 = true
  dep : ∀ x, (enc x).depth ≤ k
theorem eqvAll_map {α : Type} [DecidableEq α] {enc : α → PyData} {k : Nat} (h : EncOk enc k) : ∀ xs ys : List α, PyData.eqvAll (xs.map enc) (ys.map enc) = decide (xs = ys)
  | [], [] => by simp [PyData.eqvAll]
  | [], _ :: _ => by simp [PyData.eqvAll]
  | _ :: _, [] => by simp [PyData.eqvAll]
  | x :: xs, y :: ys => by
    simp only [List.map_cons, PyData.eqvAll, eqvAll_map h xs ys, h.eqv, List.cons.injEq, Bool.decide_and]
theorem layAll_map {α : Type} [DecidableEq α] {enc : α → PyData} {k : Nat} (h : EncOk enc k) : ∀ xs : List α, PyData.canLayAll0 (xs.map enc) = true
  | [] => rfl
  | x :: xs => by simp [PyData.canLayAll0, h.lay, layAll_map h xs]
theorem depAll_map {α : Type} [DecidableEq α] {enc : α → PyData} {k : Nat} (h : EncOk enc k) : ∀ xs : List α, PyData.depthAll (xs.map enc) ≤ k
  | [] => Nat.zero_le _
  | x :: xs => by simp only [List.map_cons, PyData.depthAll]; exact Nat.max_le.mpr ⟨h.dep x, depAll_map h xs⟩
theorem EncOk.int : EncOk PyData.int 0 where
  eqv := fun x y => by simp only [PyData.eqv]; cases h : x == y <;> simp_all
  lay := fun _ => by simp [PyData.canLay0]
  dep := fun _ => by simp [PyData.depth]
theorem EncOk.list {α : Type} [DecidableEq α] {enc : α → PyData} {k : Nat} (h : EncOk enc k) : EncOk (fun xs : List α => PyData.list (xs.map enc)) (k + 1) where
  eqv := fun x y => by simp only [PyData.eqv]; exact eqvAll_map h x y
  lay := fun x => by simp only [PyData.canLay0]; exact layAll_map h x
  dep := fun x => by simp only [PyData.depth]; exact Nat.succ_le_succ (depAll_map h x)
theorem EncOk.tuple {α : Type} [DecidableEq α] {enc : α → PyData} {k : Nat} (h : EncOk enc k) : EncOk (fun xs : List α => PyData.tuple (xs.map enc)) (k + 1) where
  eqv := fun x y => by simp only [PyData.eqv]; exact eqvAll_map h x y
  lay := fun x => by simp only [PyData.canLay0]; exact layAll_map h x
  dep := fun x => by simp only [PyData.depth]; exact Nat.succ_le_succ (depAll_map h x)
theorem EncOk.pair {α β : Type} [DecidableEq α] [DecidableEq β] {e1 : α → PyData} {e2 : β → PyData} {k : Nat} (h1 : EncOk e1 k) (h2 : EncOk e2 k) : EncOk (fun p : α × β => PyData.tuple [e1 p.1, e2 p.2]) (k + 1) where
  eqv := fun x y => by simp only [PyData.eqv, PyData.eqvAll, h1.eqv, h2.eqv, Bool.and_true, Prod.ext_iff, Bool.decide_and]
  lay := fun x => by simp [PyData.canLay0, PyData.canLayAll0, h1.lay, h2.lay]
  dep := fun x => by
    simp only [PyData.depth, PyData.depthAll]
    have := h1.dep x.1; have := h2.dep x.2
    (first | decide | assumption | omega)
theorem EncOk.up {α : Type} [DecidableEq α] {enc : α → PyData} {k j : Nat} (h : EncOk enc k) (hj : k ≤ j) : EncOk enc j := ⟨h.eqv, h.lay, fun x => Nat.le_trans (h.dep x) hj⟩
/-- rounds, as data -/
noncomputable abbrev rnds (rs : List (List Int × Int)) : List PyData := rs.map fun p => .tuple [.list (zs p.1), .int p.2]

section
variable {C : Cx} {ρ : Vs} {μ : Ms}
theorem CmpR.eqE {α : Type} [DecidableEq α] {enc : α → PyData} {k : Nat} (h : EncOk enc k) (hk : k ≤ 50) (O : Ok C) (x y : α) : CmpR C ρ μ .Eq (.dat (enc x)) (.dat (enc y)) (decide (x = y)) := by
  rw [← h.eqv]
  exact CmpR.eq O (h.lay x) (h.lay y) (by have := h.dep x; (first | decide | assumption | omega))
theorem CmpR.neE {α : Type} [DecidableEq α] {enc : α → PyData} {k : Nat} (h : EncOk enc k) (hk : k ≤ 50) (O : Ok C) (x y : α) : CmpR C ρ μ .NotEq (.dat (enc x)) (.dat (enc y)) (!decide (x = y)) := by
  rw [← h.eqv]
  exact CmpR.ne O (h.lay x) (h.lay y) (by have := h.dep x; (first | decide | assumption | omega))
theorem CmpR.eqN (O : Ok C) (x y : Int) : CmpR C ρ μ .Eq (dInt x) (dInt y) (decide (x = y)) := CmpR.eqE EncOk.int (by (first | decide | assumption | omega)) O x y
theorem CmpR.neN (O : Ok C) (x y : Int) : CmpR C ρ μ .NotEq (dInt x) (dInt y) (!decide (x = y)) := CmpR.neE EncOk.int (by (first | decide | assumption | omega)) O x y
theorem CmpR.eqI (O : Ok C) (x y : List Int) : CmpR C ρ μ .Eq (dInts x) (dInts y) (decide (x = y)) := CmpR.eqE EncOk.int.list (by (first | decide | assumption | omega)) O x y
theorem CmpR.neI (O : Ok C) (x y : List Int) : CmpR C ρ μ .NotEq (dInts x) (dInts y) (!decide (x = y)) := CmpR.neE EncOk.int.list (by (first | decide | assumption | omega)) O x y
theorem CmpR.eqT (O : Ok C) (x y : List (List Int)) : CmpR C ρ μ .Eq (dList (tups x)) (dList (tups y)) (decide (x = y)) := CmpR.eqE EncOk.int.tuple.list (by (first | decide | assumption | omega)) O x y
theorem CmpR.neT (O : Ok C) (x y : List (List Int)) : CmpR C ρ μ .NotEq (dList (tups x)) (dList (tups y)) (!decide (x = y)) := CmpR.neE EncOk.int.tuple.list (by (first | decide | assumption | omega)) O x y
theorem CmpR.eqR (O : Ok C) (x y : List (List Int × Int)) : CmpR C ρ μ .Eq (dList (rnds x)) (dList (rnds y)) (decide (x = y)) := CmpR.eqE (EncOk.int.list.pair (EncOk.int.up (Nat.zero_le 1))).list (by (first | decide | assumption | omega)) O x y
end

section
variable {C : Cx} {ρ : Vs} {μ : Ms} {e1 e2 : Expr} {pos : Pos} {i j k : Int}
theorem PE.addE (p1 : PE C ρ μ e1 (dInt i)) (p2 : PE C ρ μ e2 (dInt j)) (h : i + j = k := by (first | decide | assumption | omega)) : PE C ρ μ (.BinOp e1 .Add e2 pos) (dInt k) := h ▸ PE.add p1 p2
theorem PE.subE (p1 : PE C ρ μ e1 (dInt i)) (p2 : PE C ρ μ e2 (dInt j)) (h : i - j = k := by (first | decide | assumption | omega)) : PE C ρ μ (.BinOp e1 .Sub e2 pos) (dInt k) := h ▸ PE.sub p1 p2
theorem PE.mulE (p1 : PE C ρ μ e1 (dInt i)) (p2 : PE C ρ μ e2 (dInt j)) (hm : IntMulOk i j) (h : i * j = k) : PE C ρ μ (.BinOp e1 .Mult e2 pos) (dInt k) := h ▸ PE.mul p1 p2 hm
end

/-! ## rounds_at -/
noncomputable def rAt (ns : List Int) (a sz : Nat) : Nat → Nat → Nat
  | 0, m => m
  | f + 1, m => if (ns.drop (a + m * sz)).take sz = (ns.drop a).take sz then rAt ns a sz f (m + 1) else m
noncomputable def roundsAt (ns : List Int) (a sz : Nat) : Nat := rAt ns a sz (ns.length - 1) 1
theorem rAt_stop {ns : List Int} {a sz m : Nat} (h : ¬ (ns.drop (a + m * sz)).take sz = (ns.drop a).take sz) : ∀ f, rAt ns a sz f m = m
  | 0 => rfl
  | f + 1 => by rw [rAt, if_neg h]

theorem spec_rounds_at {Y : Lay} (hY : Y.defs = allDefs) (ns : List Int) (a sz : Nat) (hn : ns.length < 64) (hs : 1 ≤ sz) (ha : a + sz ≤ ns.length) : Spec Y 0 "rounds_at" [dInts ns, dInt a, dInt sz] (dInt (roundsAt ns a sz)) := by
  refine spec_fn D_rounds_at (by rw [hY]; unfold allDefs; simp) ["lines", "at", "size"] [("lines", dInts ns), ("at", dInt a), ("size", dInt sz)] (fun _ => []) ?_ rfl ?_ ?_ ?_ ?_ ?_ ?_ ?_ rfl rfl rfl ?_
  · intro vs pm cd doc hl
    obtain ⟨_, _, _, rfl⟩ := len3 hl
    rfl
  · decide
  · repeat' (first | exact List.forall_mem_nil _ | refine List.forall_mem_cons.mpr ⟨.inl (by (first | rfl | kernel_rfl)), ?_⟩)
  · exact List.nodup_nil
  · intro L; exact List.nodup_nil
  · intro L p hp; exact absurd hp (by intro h; cases h)
  · repeat' (first | exact List.forall_mem_nil _ | refine List.forall_mem_cons.mpr ⟨⟨by (first | rfl | kernel_rfl), by (first | rfl | kernel_rfl)⟩, ?_⟩)
  · intro L; rfl
  · rintro ⟨lay, A, env, h0, g0, s0⟩ L fa cd hlay O hA henv
    subst henv
    have hlen : ns.length ≤ 1000000 := by (first | decide | assumption | omega)
    refine Tr.cons (Tx.assign2 O (d1 := .int 1) (d2 := .int (a + sz : Nat)) (PE.tuple (ds := [.int 1, .int (a + sz : Nat)]) _ (.cons (PE.int _ _) (.cons (PE.addE (PE.name O (by (first | rfl | kernel_rfl)) (by (first | rfl | kernel_rfl)) (by (first | rfl | kernel_rfl))) (PE.name O (by (first | rfl | kernel_rfl)) (by (first | rfl | kernel_rfl)) (by (first | rfl | kernel_rfl)))) .nil))) (by (first | rfl | kernel_rfl)) (by (first | rfl | kernel_rfl)) ?_)
    refine Tr.cons (Tx.while_ O (fun m : Nat => 1 ≤ m ∧ a + m * sz ≤ ns.length ∧ rAt ns a sz (ns.length - m) m = roundsAt ns a sz) (fun m => [("many", dInt m), ("end", dInt (a + m * sz : Nat)), ("lines", dInts ns), ("at", dInt a), ("size", dInt sz)]) (fun _ => [])
      (fun m => ns.length - m) (fun m => decide ((ns.drop (a + m * sz)).take sz = (ns.drop a).take sz)) 1 ?_ (fun p hp => ?_) rfl (fun m hm => ?_) (fun m hm hb => ?_) (fun m hm hb => ?_))
    · exact ⟨Nat.le_refl _, by (first | decide | assumption | omega), rfl⟩
    · simp at hp; rcases hp with rfl | rfl | rfl | rfl | rfl <;> first | rfl | (rw [Nat.one_mul]; (first | rfl | kernel_rfl))
    · exact PT.cmp (PE.sliceI (PE.name O (by (first | rfl | kernel_rfl)) (by (first | rfl | kernel_rfl)) (by (first | rfl | kernel_rfl))) (.some (PE.name O (by (first | rfl | kernel_rfl)) (by (first | rfl | kernel_rfl)) (by (first | rfl | kernel_rfl)))) (.some (PE.addE (k := (a + m * sz + sz : Nat)) (PE.name O (by (first | rfl | kernel_rfl)) (by (first | rfl | kernel_rfl)) (by (first | rfl | kernel_rfl))) (PE.name O (by (first | rfl | kernel_rfl)) (by (first | rfl | kernel_rfl)) (by (first | rfl | kernel_rfl))))) .none (by simp) hlen (by rw [pickL_run, Nat.add_sub_cancel_left]))
        (PE.sliceI (PE.name O (by (first | rfl | kernel_rfl)) (by (first | rfl | kernel_rfl)) (by (first | rfl | kernel_rfl))) (.some (PE.name O (by (first | rfl | kernel_rfl)) (by (first | rfl | kernel_rfl)) (by (first | rfl | kernel_rfl)))) (.some (PE.addE (k := (a + sz : Nat)) (PE.name O (by (first | rfl | kernel_rfl)) (by (first | rfl | kernel_rfl)) (by (first | rfl | kernel_rfl))) (PE.name O (by (first | rfl | kernel_rfl)) (by (first | rfl | kernel_rfl)) (by (first | rfl | kernel_rfl))))) .none (by simp) hlen (by rw [pickL_run, Nat.add_sub_cancel_left])) (CmpR.eqI O _ _)
    · have hb' := of_decide_eq_true hb
      obtain ⟨m1, m2, m3⟩ := hm
      have h5 := congrArg List.length hb'
      simp only [List.length_take, List.length_drop] at h5
      have h6 : a + (m + 1) * sz ≤ ns.length := by rw [Nat.add_mul]; (first | decide | assumption | omega)
      have h7 : m + 1 ≤ ns.length := Nat.le_trans (Nat.le_mul_of_pos_right (m + 1) hs) (by (first | decide | assumption | omega))
      refine Tr.cons (Tx.assign2 O (d1 := .int (m + 1 : Nat)) (d2 := .int (a + (m + 1) * sz : Nat)) (PE.tuple (ds := [.int (m + 1 : Nat), .int (a + (m + 1) * sz : Nat)]) _ (.cons (PE.addE (PE.name O (by (first | rfl | kernel_rfl)) (by (first | rfl | kernel_rfl)) (by (first | rfl | kernel_rfl))) (PE.int _ _)) (.cons (PE.addE (PE.name O (by (first | rfl | kernel_rfl)) (by (first | rfl | kernel_rfl)) (by (first | rfl | kernel_rfl))) (PE.name O (by (first | rfl | kernel_rfl)) (by (first | rfl | kernel_rfl)) (by (first | rfl | kernel_rfl))) (by rw [Nat.add_mul]; (first | decide | assumption | omega))) .nil))) (by (first | rfl | kernel_rfl)) (by (first | rfl | kernel_rfl)) ?_)
      refine Tr.nil ⟨rfl, m + 1, ⟨by (first | decide | assumption | omega), h6, ?_⟩, by (first | decide | assumption | omega), fun p hp => ?_, rfl⟩
      · rw [← m3, show ns.length - m = (ns.length - (m + 1)) + 1 by (first | decide | assumption | omega), rAt, if_pos hb']
      · revert p; (repeat' (first | exact List.forall_mem_nil _ | refine List.forall_mem_cons.mpr ⟨by (first | rfl | kernel_rfl), ?_⟩))
    · obtain ⟨m1, m2, m3⟩ := hm
      have e : m = roundsAt ns a sz := by rw [← m3, rAt_stop (of_decide_eq_false hb)]
      refine Tr.cons (Tx.ret (r := dInt (roundsAt ns a sz)) ?_ (fun v => (show ∃ u, Flow.ret v = Flow.ret u ∧ (u, _) ∈ [(v, _)] from ⟨v, rfl, List.Mem.head _⟩)))
      rw [← e]
      exact PE.name O (by (first | rfl | kernel_rfl)) (by (first | rfl | kernel_rfl)) (by (first | rfl | kernel_rfl))
end Mine
namespace Mine
open PySem PySem.W PySem.Calls PySem.Spec PyProof.Rows PySem.SeqAt

theorem log_small {n : Nat} (h : n ≤ 1000000) : n.log2 ≤ 20 := by
  rcases Nat.eq_zero_or_pos n with rfl | hp
  · decide
  · have := (Nat.log2_lt (n := n) (k := 21) (by (first | decide | assumption | omega))).mpr (by (first | decide | assumption | omega))
    (first | decide | assumption | omega)
theorem mulOk_small {i j : Int} (h : i.natAbs ≤ 1000000) : IntMulOk i j := IntMulOk.of_left (by
  unfold Builtin.Int.intBits
  have := log_small h
  split <;> (first | decide | assumption | omega))
theorem div_small {i j : Int} (h : j.natAbs ≤ 1000000) : Builtin.divisionGoesByPylong i j = false := by
  unfold Builtin.divisionGoesByPylong
  have := log_small h
  simp only [Bool.and_eq_false_imp, decide_eq_true_eq]
  intro h2
  exfalso
  split at h2 <;> (first | decide | assumption | omega)
section
variable {C : Cx} {ρ : Vs} {μ : Ms} {e1 e2 : Expr} {pos : Pos}
theorem PE.mulN {a b c : Nat} (p1 : PE C ρ μ e1 (dInt a)) (p2 : PE C ρ μ e2 (dInt b)) (ha : a ≤ 1000000) (hc : a * b = c := by rfl) : PE C ρ μ (.BinOp e1 .Mult e2 pos) (dInt c) := PE.mulE p1 p2 (mulOk_small (by (first | decide | assumption | omega))) (by rw [← hc]; simp)
end

section
variable {C : Cx} {ρ : Vs} {μ : Ms} {e e1 e2 tgt : Expr} {pos np : Pos}
theorem PE.lenI {ns : List Int} (O : Ok C) (p : PE C ρ μ e (dInts ns)) (hk : C.env.kindOf "len" = some .globalImplicit) (hn : ns.length ≤ 1000000) (hs : backTo pos (starEach [e] C.env) = trees [e] C.env := by rfl) :
    PE C ρ μ (.Call (.Name "len" np) [e] [] pos) (dInt ns.length) := by
  have := PE.len (np := np) (pos := pos) O p hk (by simp; (first | decide | assumption | omega)) hs
  rwa [show (zs ns).length = ns.length by simp] at this
theorem srcs_rangeN {a n : Nat} {b : Int} (O : Ok C) (p1 : PE C ρ μ e1 (dInt a)) (p2 : PE C ρ μ e2 (dInt b)) (hb : b = (a + n : Nat)) (hk : C.env.kindOf "range" = some .globalImplicit) (h1 : a ≤ 50000) (h2 : n ≤ 50000)
    (hs : backTo pos (starEach [e1, e2] C.env) = trees [e1, e2] C.env := by rfl) : Srcs C ρ μ (.Call (.Name "range" np) [e1, e2] [] pos) tgt μ n (fun k => dInt (a + k : Nat)) := by
  have h := srcs_range2 (tgt := tgt) (np := np) (pos := pos) O p1 p2 hk (by (first | decide | assumption | omega)) (by (first | decide | assumption | omega)) (by (first | decide | assumption | omega)) (by (first | decide | assumption | omega)) hs
  rw [show (b - (a : Int)).toNat = n by (first | decide | assumption | omega)] at h
  exact h.congr fun i hi => by simp
theorem srcs_range1 {n : Nat} (O : Ok C) (p1 : PE C ρ μ e1 (dInt n)) (hk : C.env.kindOf "range" = some .globalImplicit) (h2 : n ≤ 50000)
    (hs : backTo pos (starEach [e1] C.env) = trees [e1] C.env := by rfl) : Srcs C ρ μ (.Call (.Name "range" np) [e1] [] pos) tgt μ n (fun k => dInt (k : Nat)) := fun τ s Q E a h =>
  callT (T := "range") O hk (by decide) (by decide) (.cons p1 .nil) (by simp) hs a fun vs s' hl a' => by
    obtain ⟨v, rfl⟩ : ∃ v, vs = [v] := List.length_eq_one_iff.mp hl
    obtain ⟨t, rfl⟩ := holds_int a'.top
    refine PySem.call_range_1 ?_
    have a2 := (a'.ext (Sub.push s'.heap { cls := .type "range", data := .fields #[.int 0 s'.toks, .int n t, .int 1 (s'.toks + 1)] }) (s'.toks + 1 + 1)).tmps (τ' := τ) (fun p hp => by simp [hp])
    refine pyIter_range1 (tgt := tgt) (a0 := 0) (b0 := n) (s := { s' with heap := s'.heap.push { cls := .type "range", data := .fields #[.int 0 s'.toks, .int n t, .int 1 (s'.toks + 1)] }, toks := s'.toks + 1 + 1 }) (Heap.get?_push_size _ rfl) (by (first | decide | assumption | omega)) (by (first | decide | assumption | omega)) (by (first | decide | assumption | omega)) (by (first | decide | assumption | omega)) a2 fun I own τs s2 src a3 => h I own τs s2 (fun C' O' hl hA => ?_) a3
    have hs := src C' O' hl hA
    rw [show ((n : Int) - 0).toNat = n by (first | decide | assumption | omega)] at hs
    exact hs.congr fun i hi => by simp
end
section
variable {C : Cx} {ρ : Vs} {μ : Ms}
theorem CmpR.gtE {i j : Int} {b : Bool} (h : b = true ↔ j < i) : CmpR C ρ μ .Gt (dInt i) (dInt j) b := by
  have : b = decide (j < i) := by rw [Bool.eq_iff_iff, h, decide_eq_true_iff]
  rw [this]; exact CmpR.gt i j
theorem CmpR.ltE {i j : Int} {b : Bool} (h : b = true ↔ i < j) : CmpR C ρ μ .Lt (dInt i) (dInt j) b := by
  have : b = decide (i < j) := by rw [Bool.eq_iff_iff, h, decide_eq_true_iff]
  rw [this]; exact CmpR.lt i j
theorem CmpR.eqNE (O : Ok C) {i j : Int} {b : Bool} (h : b = true ↔ i = j) : CmpR C ρ μ .Eq (dInt i) (dInt j) b := by
  have : b = decide (i = j) := by rw [Bool.eq_iff_iff, h, decide_eq_true_iff]
  rw [this]; exact CmpR.eqN O i j
end

/-! ## best_round -/
noncomputable def bestGo (ns : List Int) (a : Nat) : Nat → (Nat × Nat) × Nat
  | 0 => ((1, 1), 1)
  | k + 1 => if 1 < roundsAt ns a (k + 1) ∧ (bestGo ns a k).2 < roundsAt ns a (k + 1) * (k + 1) then ((k + 1, roundsAt ns a (k + 1)), roundsAt ns a (k + 1) * (k + 1)) else bestGo ns a k
noncomputable def bestR (ns : List Int) (a : Nat) : Nat × Nat := (bestGo ns a (min 8 (ns.length - a))).1
theorem rAt_le (ns : List Int) (a sz : Nat) : ∀ f m, m ≤ rAt ns a sz f m ∧ rAt ns a sz f m ≤ m + f
  | 0, m => ⟨Nat.le_refl _, Nat.le_refl _⟩
  | f + 1, m => by
    rw [rAt]
    split
    · have := rAt_le ns a sz f (m + 1); (first | decide | assumption | omega)
    · (first | decide | assumption | omega)
theorem roundsAt_le (ns : List Int) (a sz : Nat) : 1 ≤ roundsAt ns a sz ∧ roundsAt ns a sz ≤ ns.length + 1 := by
  have := rAt_le ns a sz (ns.length - 1) 1
  unfold roundsAt; (first | decide | assumption | omega)

theorem spec_best_round {Y : Lay} (hY : Y.defs = allDefs) (ns : List Int) (a : Nat) (hn : ns.length < 64) (ha : a ≤ ns.length) : Spec Y 1 "best_round" [dInts ns, dInt a] (dTup [.int (bestR ns a).1, .int (bestR ns a).2]) := by
  refine spec_fn D_best_round (by rw [hY]; unfold allDefs; simp) ["lines", "at"] [("lines", dInts ns), ("at", dInt a)] (fun _ => []) ?_ rfl ?_ ?_ ?_ ?_ ?_ ?_ ?_ rfl rfl rfl ?_
  · intro vs pm cd doc hl
    obtain ⟨_, _, rfl⟩ := len2 hl
    rfl
  · decide
  · repeat' (first | exact List.forall_mem_nil _ | refine List.forall_mem_cons.mpr ⟨.inl (by (first | rfl | kernel_rfl)), ?_⟩)
  · (first | exact List.nodup_nil | (intro L; exact List.nodup_nil) | (intro L p hp; exact absurd hp (by intro h; cases h)) | (intro L; rfl))
  · (first | exact List.nodup_nil | (intro L; exact List.nodup_nil) | (intro L p hp; exact absurd hp (by intro h; cases h)) | (intro L; rfl))
  · (first | exact List.nodup_nil | (intro L; exact List.nodup_nil) | (intro L p hp; exact absurd hp (by intro h; cases h)) | (intro L; rfl))
  · repeat' (first | exact List.forall_mem_nil _ | refine List.forall_mem_cons.mpr ⟨⟨by (first | rfl | kernel_rfl), by (first | rfl | kernel_rfl)⟩, ?_⟩)
  · (first | exact List.nodup_nil | (intro L; exact List.nodup_nil) | (intro L p hp; exact absurd hp (by intro h; cases h)) | (intro L; rfl))
  · rintro ⟨lay, A, env, h0, g0, s0⟩ L fa cd hlay O hA henv
    subst henv
    cases hlay
    refine Tr.cons (Tx.assignT O (ds := [.tuple [.int 1, .int 1], .int 1]) [("found", _), ("covered", _)] (PE.tuple (ds := [.tuple [.int 1, .int 1], .int 1]) _ (.cons (PE.tuple (ds := [.int 1, .int 1]) _ (.cons (PE.int _ _) (.cons (PE.int _ _) .nil))) (.cons (PE.int _ _) .nil))) rfl (by (repeat' (first | exact List.forall_mem_nil _ | refine List.forall_mem_cons.mpr ⟨by (first | rfl | kernel_rfl), ?_⟩))) ?_)
    refine Tr.cons (Tx.for_ O (n := min 8 (ns.length - a)) (D := fun k => dInt (k + 1 : Nat)) (fun k => [("found", dTup [.int (bestGo ns a k).1.1, .int (bestGo ns a k).1.2]), ("covered", dInt (bestGo ns a k).2), ("lines", dInts ns), ("at", dInt a)])
      (fun k => [("size", dInt (k + 1 : Nat)), ("found", dTup [.int (bestGo ns a k).1.1, .int (bestGo ns a k).1.2]), ("covered", dInt (bestGo ns a k).2), ("lines", dInts ns), ("at", dInt a)]) (fun _ => []) ?_ (fun p hp => ?_) (fun k hk => Asg.name O (by (first | rfl | kernel_rfl))) (fun k hk ν => ?_) ?_)
    · exact (srcs_rangeN (a := 1) O (PE.int 1 _) (PE.addE (k := (min 8 (ns.length - a) + 1 : Nat)) (PE.min2 (i := 8) (j := (ns.length - a : Nat)) O (PE.most O (by (first | rfl | kernel_rfl))) (PE.subE (PE.lenI O (PE.name O (by (first | rfl | kernel_rfl)) (by (first | rfl | kernel_rfl)) (by (first | rfl | kernel_rfl))) (by (first | rfl | kernel_rfl)) (by (first | decide | assumption | omega))) (PE.name O (by (first | rfl | kernel_rfl)) (by (first | rfl | kernel_rfl)) (by (first | rfl | kernel_rfl))) (by (first | decide | assumption | omega))) (by (first | rfl | kernel_rfl))) (PE.int 1 _) (by split <;> (first | decide | assumption | omega))) (by (first | decide | assumption | omega)) (by (first | rfl | kernel_rfl)) (by (first | decide | assumption | omega)) (by (first | decide | assumption | omega))).congr fun k hk => by rw [Nat.add_comm]
    · revert p; (repeat' (first | exact List.forall_mem_nil _ | refine List.forall_mem_cons.mpr ⟨by (first | rfl | kernel_rfl), ?_⟩))
    · have hr := roundsAt_le ns a (k + 1)
      refine Tr.cons (Tx.assign O (r := dInt (roundsAt ns a (k + 1))) (callF O (by (first | rfl | kernel_rfl)) (d := D_rounds_at) (by rw [show (Cx.lay _).defs = _ from hY]; unfold allDefs; simp) rfl (spec_rounds_at hY ns a (k + 1) hn (by (first | decide | assumption | omega)) (by (first | decide | assumption | omega))) (hA 0 (by (first | decide | assumption | omega))) (by (first | rfl | kernel_rfl)) (.cons (PE.name O (by (first | rfl | kernel_rfl)) (by (first | rfl | kernel_rfl)) (by (first | rfl | kernel_rfl))) (.cons (PE.name O (by (first | rfl | kernel_rfl)) (by (first | rfl | kernel_rfl)) (by (first | rfl | kernel_rfl))) (.cons (PE.name O (by (first | rfl | kernel_rfl)) (by (first | rfl | kernel_rfl)) (by (first | rfl | kernel_rfl))) .nil))) (by simp) rfl) (by (first | rfl | kernel_rfl)) ?_)
      refine Tr.cons (Tx.ite (b := decide (1 < roundsAt ns a (k + 1)) && decide ((bestGo ns a k).2 < roundsAt ns a (k + 1) * (k + 1))) ?_ (fun hb => ?_) (fun hb => ?_))
      · exact PT.and2 (PT.cmp (PE.name O (by (first | rfl | kernel_rfl)) (by (first | rfl | kernel_rfl)) (by (first | rfl | kernel_rfl))) (PE.int 1 _) (CmpR.gtE (by rw [decide_eq_true_iff]; (first | decide | assumption | omega)))) (fun _ => PT.cmp (PE.mulN (PE.name O (by (first | rfl | kernel_rfl)) (by (first | rfl | kernel_rfl)) (by (first | rfl | kernel_rfl))) (PE.name O (by (first | rfl | kernel_rfl)) (by (first | rfl | kernel_rfl)) (by (first | rfl | kernel_rfl))) (by (first | decide | assumption | omega))) (PE.name O (by (first | rfl | kernel_rfl)) (by (first | rfl | kernel_rfl)) (by (first | rfl | kernel_rfl))) (CmpR.gtE (by rw [decide_eq_true_iff]; (first | decide | assumption | omega))))
      · rw [Bool.and_eq_true, decide_eq_true_iff, decide_eq_true_iff] at hb
        refine Tr.cons (Tx.assign2 O (d1 := .tuple [.int (k + 1 : Nat), .int (roundsAt ns a (k + 1))]) (d2 := .int (roundsAt ns a (k + 1) * (k + 1) : Nat)) (PE.tuple (ds := [.tuple [.int (k + 1 : Nat), .int (roundsAt ns a (k + 1))], .int (roundsAt ns a (k + 1) * (k + 1) : Nat)]) _ (.cons (PE.tuple (ds := [.int (k + 1 : Nat), .int (roundsAt ns a (k + 1))]) _ (.cons (PE.name O (by (first | rfl | kernel_rfl)) (by (first | rfl | kernel_rfl)) (by (first | rfl | kernel_rfl))) (.cons (PE.name O (by (first | rfl | kernel_rfl)) (by (first | rfl | kernel_rfl)) (by (first | rfl | kernel_rfl))) .nil))) (.cons (PE.mulN (PE.name O (by (first | rfl | kernel_rfl)) (by (first | rfl | kernel_rfl)) (by (first | rfl | kernel_rfl))) (PE.name O (by (first | rfl | kernel_rfl)) (by (first | rfl | kernel_rfl)) (by (first | rfl | kernel_rfl))) (by (first | decide | assumption | omega))) .nil))) (by (first | rfl | kernel_rfl)) (by (first | rfl | kernel_rfl)) ?_)
        refine Tr.nil ?_
        refine Tr.nil ⟨rfl, fun p hp => ?_, rfl⟩
        simp only [bestGo, if_pos hb] at hp
        revert p; (repeat' (first | exact List.forall_mem_nil _ | refine List.forall_mem_cons.mpr ⟨by (first | rfl | kernel_rfl), ?_⟩))
      · rw [Bool.and_eq_false_iff, decide_eq_false_iff_not, decide_eq_false_iff_not] at hb
        refine Tr.nil ?_
        refine Tr.nil ⟨rfl, fun p hp => ?_, rfl⟩
        simp only [bestGo] at hp
        rw [if_neg (by (first | decide | assumption | omega))] at hp
        revert p; (repeat' (first | exact List.forall_mem_nil _ | refine List.forall_mem_cons.mpr ⟨by (first | rfl | kernel_rfl), ?_⟩))
    · exact Tr.cons (Tx.ret (PE.name O (by (first | rfl | kernel_rfl)) (by (first | rfl | kernel_rfl)) (by (first | rfl | kernel_rfl))) (fun v => (show ∃ u, Flow.ret v = Flow.ret u ∧ (u, _) ∈ [(v, _)] from ⟨v, rfl, List.Mem.head _⟩)))
end Mine
namespace Mine
open PySem PySem.W PySem.Calls PySem.Spec PyProof.Rows PySem.SeqAt

section
variable {prog : Program} {w : World} {A : Around} {E : Value → Shared → Prop}
theorem draw_list {it t : Addr} {items : Array Value} (hne : t ≠ it) : ∀ (n i : Nat) (s : Shared) (Q : List Value → Shared → Prop), s.heap.IsListIter it t i → s.heap.IsList t items → i + n ≤ items.size →
    (∀ h', h'.IsListIter it t (i + n) → Heap.SameBut it s.heap h' → Q ((items.toList.drop i).take n) { s with heap := h' }) → wpAny (model prog w) A (draw (.ref it) n) Q E s
  | 0, i, s, Q, hit, _, _, hQ => by
    show wpAny _ _ (pure []) Q E s
    exact wpAny_pure (by simpa using hQ s.heap hit (Heap.SameBut.refl ..))
  | n + 1, i, s, Q, hit, ht, hle, hQ => by
    have hlt : i < items.size := by (first | decide | assumption | omega)
    show wpAny _ _ (pyNext (.ref it) >>= _) Q E s
    refine wpAny_bind (wpAny_pyNext_list_item hit ht (x := items[i]) (by simp [hlt]) fun h₁ hit₁ hs₁ => ?_)
    refine wpAny_bind (wpAny_holding (draw_list hne n (i + 1) _ _ hit₁ (let ⟨o, ho, r⟩ := ht; ⟨o, (hs₁.2 _ hne).trans ho, r⟩) (by (first | decide | assumption | omega)) fun h₂ hit₂ hs₂ => wpAny_pure ?_))
    have hd : items.toList.drop i = items[i] :: items.toList.drop (i + 1) := by simp [List.drop_eq_getElem_cons, hlt]
    have := hQ h₂ (by rw [show i + (n + 1) = i + 1 + n by (first | decide | assumption | omega)]; exact hit₂) (hs₁.trans hs₂)
    rw [hd, List.take_succ_cons] at this
    exact this
theorem unpackItems_list {s : Shared} {t : Addr} {items : Array Value} {Q : List Value → Shared → Prop} (hh : A.handled = none) (ht : s.heap.IsList t items)
    (hQ : ∀ h', Heap.ExtBut s.heap.objs.size s.heap h' → Q items.toList { s with heap := h' }) : wpAny (model prog w) A (unpackItems (.ref t) items.size none) Q E s := by
  have hlt : t ≠ s.heap.objs.size := by obtain ⟨o, ho, _⟩ := ht; exact Nat.ne_of_lt (Heap.lt_size ho)
  unfold unpackItems
  refine wpAny_bind ?_
  · unfold notIterableAtAll
    refine wpAny_bind (wpAny_specialOf ht.typeIs PySem.F.slot_list_iter.lookup ?_)
    refine wpAny_pure ?_
    simp only [Bool.false_eq_true, if_false]
    refine wpAny_bind (wpAny_holding (wpAny_pyIter_list ht ?_))
    have ht0 := ht.push { cls := .type "list_iterator", data := .fields #[.ref t, .int 0 0] }
    refine wpAny_bind (wpAny_holding (draw_list hlt items.size 0 _ _ ⟨_, Heap.get?_push_size _ rfl, rfl, rfl⟩ ht0 (by (first | decide | assumption | omega)) fun h₁ hit₁ hs₁ => ?_))
    have hall : List.take items.size (List.drop 0 items.toList) = items.toList := by
      rw [List.drop_zero]; exact List.take_of_length_le (by simp)
    rw [hall]
    rw [if_neg (by simp)]
    have ht₁ : h₁.IsList t items := let ⟨o, ho, r⟩ := ht0; ⟨o, (hs₁.2 _ hlt).trans ho, r⟩
    refine wpAny_bind (wpAny_holding (wpAny_pyNext_list_end hh hit₁ ht₁ (by simp) fun h₂ he₂ => ?_))
    simp only [Option.isSome_none, Bool.false_eq_true, if_false]
    refine wpAny_pure (hQ h₂ fun b o hb e => he₂ b o hb (hs₁.extBut b o hb (Heap.get?_push_of_some _ e)))
end

/-! ## expressions that make what turns -/
noncomputable def EX (C : Cx) (ρ : Vs) (μ : Ms) (e : Expr) (Φ : Rk → Ms → Prop) : Prop :=
  ∀ τ s (Q E : Value → Shared → Prop), At C ρ μ τ s → (∀ v s' r μ', Φ r μ' → At C ρ μ' ((v, r) :: τ) s' → Q v s') → wpAny (MC C) C.A (eval e C.env) Q E s
noncomputable def EXs (C : Cx) (ρ : Vs) (μ : Ms) (es : List Expr) (K : List Rk → Ms → Prop) : Prop :=
  ∀ τ s (Q : List Value → Shared → Prop) (E : Value → Shared → Prop), At C ρ μ τ s → (∀ vs s' rs μ', vs.length = rs.length → K rs μ' → At C ρ μ' (vs.zip rs ++ τ) s' → Q vs s') → wpAny (MC C) C.A (spliced (es.map fun e => (false, eval e C.env))) Q E s
/-- a tuple of whatever -/
noncomputable def tupG (rs : List Rk) : Rk := .gen fun g v => ∃ a vs, v = .ref a ∧ IsTup g a vs.toArray ∧ allHold g rs vs
/-- a list, turning or not -/
noncomputable def ListV (μ : Ms) (r : Rk) (rs : List Rk) : Prop := (∃ ds : List PyData, r = dList ds ∧ rs = ds.map .dat) ∨ ∃ l, r = .val (.ref l) ∧ (l, .list rs) ∈ μ

section
variable {C : Cx} {ρ : Vs} {μ : Ms} {e e1 e2 e3 o : Expr} {es : List Expr} {r r1 r2 : Rk} {rs rs1 rs2 : List Rk} {pos np apos xp sp tp : Pos} {x y : Str} {P : Post} {Φ Ψ : Rk → Ms → Prop} {K : List Rk → Ms → Prop} {τ : Ts} {s : Shared}
theorem EX.mono (h : EX C ρ μ e Φ) (k : ∀ r μ', Φ r μ' → Ψ r μ') : EX C ρ μ e Ψ := fun τ s Q E a q => h τ s Q E a fun v s' r μ' hr a' => q v s' r μ' (k r μ' hr) a'
theorem PE.ex (p : PE C ρ μ e r) (h : Φ r μ) : EX C ρ μ e Φ := fun τ s Q E a k => p τ s Q E a fun v s' a' => k v s' r μ h a'
theorem EXs.nil (h : K [] μ) : EXs C ρ μ [] K := fun τ s Q E a k => spliced_nil (k [] s [] μ rfl h a)
theorem EXs.cons (h : EX C ρ μ e fun r μ' => EXs C ρ μ' es fun rs μ'' => K (r :: rs) μ'') : EXs C ρ μ (e :: es) K := fun τ s Q E a k =>
  spliced_cons (h τ s _ E a fun v s1 r μ1 h1 a1 => h1 _ s1 _ E a1 fun vs s2 rs μ2 hl hk a2 => k (v :: vs) s2 (r :: rs) μ2 (by simp [hl]) hk (a2.tmps fun p hp => by
    simp only [List.zip_cons_cons, List.cons_append, List.mem_cons, List.mem_append] at hp ⊢
    rcases hp with h | h | h
    · exact .inr (.inl h)
    · exact .inl h
    · exact .inr (.inr h)))
theorem EX.list (p : PA C ρ μ es rs) (h : ∀ l, Φ (.val (.ref l)) ((l, .list rs) :: μ)) (hs : backTo pos (starEach es C.env) = es.map (fun e => (false, eval e C.env)) := by rfl) (hn : rs.length ≤ 1000 := by simp) : EX C ρ μ (.List es pos) Φ := fun τ s Q E a k =>
  listM (hs := hs) (hn := hn) p a fun l s' a' => k _ _ _ _ (h l) (a'.push fun _ _ _ => rfl)
theorem EX.dict0 {K : Type} [DecidableEq K] (δ : DKC C K) (h : ∀ d, Φ (.val (.ref d)) ((d, dictM δ []) :: μ)) : EX C ρ μ (.Dict [] [] pos) Φ := fun τ s Q E a k =>
  wpAny_Dict_empty (k _ _ _ _ (h s.heap.objs.size) (At.push (v := .ref s.heap.objs.size) (r := .val (.ref s.heap.objs.size)) (a.allocM (k := dictM δ []) (o := { cls := .type "dict", data := .dict #[] }) rfl fun g _ _ => ⟨g, Sub.refl _, [], trivial, δ.new g⟩) fun _ _ _ => rfl))
theorem EX.tuple {n : Nat} (p : EXs C ρ μ es fun rs μ' => rs.length ≤ 1000 ∧ Φ (tupG rs) μ') (hs : backTo pos (starEach es C.env) = es.map (fun e => (false, eval e C.env)) := by rfl) : EX C ρ μ (.Tuple es n pos) Φ := fun τ s Q E a h => Tuple_ (by
  rw [hs]
  refine p τ s _ E a fun vs s1 rs μ1 hl hk a1 => wpAny_newTuple (h _ _ (tupG rs) _ hk.2 ?_) (by rw [hl, sizeLine_eq]; (first | decide | assumption | omega))
  exact (a1.alloc (r := tupG rs) rfl fun g sg tm hg => ⟨g, Sub.refl _, _, vs, rfl, ⟨_, hg, rfl, 0, rfl⟩, zip_hold hl tm⟩).tmps fun p hp => by
    rcases List.mem_cons.mp hp with rfl | hp
    · exact .head _
    · exact .tail _ (List.mem_append_right _ hp))

theorem all_push {g : Heap} : ∀ {rs : List Rk} {vs : List Value}, allHold g rs vs → TmpOk g (vs.zip rs)
  | [], _, _ => by intro p hp; simp at hp
  | _ :: _, [], h => h.elim
  | r :: rs, v :: vs, h => by
    intro p hp
    simp only [List.zip_cons_cons, List.mem_cons] at hp
    rcases hp with rfl | hp
    · exact h.1
    · exact all_push h.2 p hp
theorem unpack_g (O : Ok C) {v : Value} {Q : List Value → Shared → Prop} {E : Value → Shared → Prop} (a : At C ρ μ ((v, tupG rs) :: τ) s)
    (h : ∀ vs s', vs.length = rs.length → At C ρ μ (vs.zip rs ++ τ) s' → Q vs s') : wpAny (MC C) C.A (unpackItems v rs.length none) Q E s := by
  obtain ⟨g0, s0, l, vs, rfl, h1, h2⟩ := a.top
  have hl := h2.length
  have hl' : rs.length = vs.toArray.size := by simp [hl]
  have h1' := isTup_mono s0 h1
  rw [hl']
  refine wpAny_unpackItems_tuple O.hh h1' fun h' ext => ?_
  have a2 := a.ext (Sub.extBut ext) s.toks
  refine h _ _ (by simpa using hl) (At.pushAll [_] _ a2 fun g sg tm => ?_)
  refine all_push ?_
  obtain ⟨g1, s1, l1, vs1, e, q1, q2⟩ := tm _ (.head _)
  cases e
  have := isTup_eq (isTup_mono (s1.trans sg) q1) (isTup_mono (Sub.extBut ext) h1')
  have e : vs1 = vs := by simpa using this
  subst e
  exact q2.mono s1

noncomputable def bindR : List (Str × Rk) → Vs → Vs
  | [], ρ => ρ
  | p :: r, ρ => bindR r (p :: ρ)
theorem assign_orderR (O : Ok C) {E : Value → Shared → Prop} : ∀ (xs : List (Str × Pos)) (rs : List Rk) (vs : List Value) (ρ : Vs) (τ : Ts) (s : Shared) (Q : Unit → Shared → Prop), xs.length = rs.length → vs.length = rs.length → (∀ p ∈ xs, C.env.kindOf p.1 = some .local) →
    At C ρ μ (vs.zip rs ++ τ) s → (∀ s', At C (bindR ((xs.map (·.1)).zip rs) ρ) μ τ s' → Q () s') →
    wpAny (MC C) C.A (assignInOrder (xs.map fun p => PySem.assign (.Name p.1 p.2) C.env) vs) Q E s
  | [], [], [], ρ, τ, s, Q, _, _, _, a, h => wpAny_pure (h s a)
  | [], _ :: _, _, _, _, _, _, h, _, _, _, _ => by simp at h
  | _ :: _, [], _, _, _, _, _, h, _, _, _, _ => by simp at h
  | _, [], _ :: _, _, _, _, _, _, h, _, _, _ => by simp at h
  | _, _ :: _, [], _, _, _, _, _, h, _, _, _ => by simp at h
  | p :: xs, d :: ds, v :: vs, ρ, τ, s, Q, h1, h2, hk, a, h => by
    show wpAny _ _ (holding vs (PySem.assign (.Name p.1 p.2) C.env v) >>= fun _ => assignInOrder _ vs) _ _ _
    refine wpAny_bind (wpAny_holding (assign_name (τ := vs.zip ds ++ τ) O (hk p (.head _)) a fun s1 a1 => ?_))
    exact assign_orderR O xs ds vs _ τ s1 Q (by simpa using h1) (by simpa using h2) (fun q hq => hk q (.tail _ hq)) a1 h

theorem Tx.assignX (O : Ok C) (hk : C.env.kindOf x = some .local) (p : EX C ρ μ e fun r μ' => P .next ((x, r) :: ρ) μ' []) (hs : swapsWith e (some (.Name x xp)) pos.line C.env = pure false := by rfl) : Tx C ρ μ (.Assign [.Name x xp] e pos) P := fun τ s E a =>
  wpAny_Assign_Name (hs := hs) (p τ s _ E a fun v s1 r μ1 h a1 => a1.storeNs hk O.fn fun s2 a2 => ⟨_, _, [], a2, h⟩)
/-- a tuple display, taken apart in order -/
theorem Tx.assignTX (O : Ok C) {k n : Nat} {tpos : Pos} (xs : List (Str × Pos)) (hk : ∀ p ∈ xs, C.env.kindOf p.1 = some .local) (p : EXs C ρ μ es fun rs μ' => rs.length = xs.length ∧ rs.length ≤ 1000 ∧ P .next (bindR ((xs.map (·.1)).zip rs) ρ) μ' [])
    (hst : backTo tpos (starEach es C.env) = es.map (fun e => (false, eval e C.env)) := by rfl)
    (hs : swapsWithSole [.Tuple (nameEs xs) k xp] (.Tuple es n tpos) pos.line C.env = pure false := by rfl) (hw : swappedStores [.Tuple (nameEs xs) k xp] (.Tuple es n tpos) C.env = pure none := by rfl) : Tx C ρ μ (.Assign [.Tuple (nameEs xs) k xp] (.Tuple es n tpos) pos) P := fun τ s E a =>
  Assign_Tuple (hs := hs) (hw := hw) (EX.tuple (Φ := fun r μ' => ∃ rs, r = tupG rs ∧ rs.length = xs.length ∧ P .next (bindR ((xs.map (·.1)).zip rs) ρ) μ' []) (fun τ s Q E a q => p τ s Q E a fun vs s' rs μ' hl hk a' => q vs s' rs μ' hl ⟨hk.2.1, rs, rfl, hk.1, hk.2.2⟩ a') hst τ s _ E a fun v s1 r μ1 ⟨rs, hr, hl, h⟩ a1 => by
    subst hr
    show wpAny _ _ (standAt xp >>= fun _ => unpack v (assignEach (nameEs xs) C.env)) _ _ _
    refine wpAny_bind (wpAny_standAt ?_)
    unfold unpack
    rw [assignEach_names]
    have e1 : (xs.map fun p => (false, PySem.assign (.Name p.1 p.2) C.env)).length = rs.length := by simp [hl]
    have e2 : (xs.map fun p => (false, PySem.assign (.Name p.1 p.2) C.env)).findIdx? (·.1) = none := by
      rw [List.findIdx?_eq_none_iff]; simp
    rw [e1, e2]
    refine wpAny_bind (wpAny_holding (unpack_g O a1 fun vs s1 hv a1 => ?_))
    rw [List.map_map]
    exact assign_orderR O xs rs vs ρ τ s1 _ hl.symm hv hk a1 fun s2 a2 => ⟨_, _, [], a2, h⟩)
/-- two stores exchanged -/
theorem Tx.assign2X (O : Ok C) {x1 x2 : Str} {p1 p2 tpos : Pos} {k n : Nat} (hk1 : C.env.kindOf x1 = some .local) (hk2 : C.env.kindOf x2 = some .local) (p : EXs C ρ μ es fun rs μ' => ∃ r1 r2, rs = [r1, r2] ∧ P .next ((x1, r1) :: (x2, r2) :: ρ) μ' [])
    (hst : backTo tpos (starEach es C.env) = es.map (fun e => (false, eval e C.env)) := by rfl)
    (hs : swapsWithSole [.Tuple [.Name x1 p1, .Name x2 p2] k xp] (.Tuple es n tpos) pos.line C.env = pure false := by rfl) (hw : swappedStores [.Tuple [.Name x1 p1, .Name x2 p2] k xp] (.Tuple es n tpos) C.env = pure (some [x1, x2]) := by rfl) : Tx C ρ μ (.Assign [.Tuple [.Name x1 p1, .Name x2 p2] k xp] (.Tuple es n tpos) pos) P := fun τ s E a => by
  rw [exec_Assign_arm, hs]
  refine wpAny_bind (wpAny_standAt (wpAny_bind (wpAny_pure ?_)))
  simp only [Bool.false_eq_true, if_false]
  refine wpAny_bind (EX.tuple (Φ := fun r μ' => ∃ r1 r2, r = tupG [r1, r2] ∧ P .next ((x1, r1) :: (x2, r2) :: ρ) μ' []) (fun τ s Q E a q => p τ s Q E a fun vs s' rs μ' hl ⟨r1, r2, hr, hk⟩ a' => q vs s' rs μ' hl ⟨by rw [hr]; simp, r1, r2, by rw [hr], hk⟩ a') hst τ s _ E a fun v s1 r μ1 ⟨r1, r2, hr, h⟩ a1 => ?_)
  subst hr
  rw [hw]
  refine wpAny_bind (wpAny_pure ?_)
  unfold assignStores
  refine wpAny_bind (wpAny_rule (wpAny_bind ?_))
  refine unpack_g (rs := [r1, r2]) O a1 fun vs s2 hv a2 => ?_
  obtain ⟨u1, u2, rfl⟩ := two_of hv
  show wpAny _ _ (assignInOrder [bindName C.env x2, bindName C.env x1] [u2, u1] >>= fun _ => (pure Flow.next : Sem Flow)) _ _ _
  refine wpAny_bind ?_
  show wpAny _ _ (holding [u1] (bindName C.env x2 u2) >>= fun _ => assignInOrder [bindName C.env x1] [u1]) _ _ _
  refine wpAny_bind (wpAny_holding (wpAny_bindName ?_))
  have a3 : At C ρ μ1 ((u2, r2) :: (u1, r1) :: τ) s2 := a2.tmps fun p hp => by simp at hp ⊢; rcases hp with h | h | h <;> simp [h]
  refine a3.storeNs hk2 O.fn fun s4 a4 => ?_
  show wpAny _ _ (holding [] (bindName C.env x1 u1) >>= fun _ => assignInOrder [] []) _ _ _
  exact wpAny_bind (wpAny_holding (wpAny_bindName (a4.storeNs hk1 O.fn fun s5 a5 => wpAny_pure (wpAny_pure ⟨_, _, [], a5, h⟩))))

/-! ## lists, turning or not -/
theorem At.listAt {v : Value} (D : ListV μ r rs) (a : At C ρ μ τ s) (hv : (v, r) ∈ τ) : ∃ l vs, v = .ref l ∧ (∃ n d sl, s.heap.get? l = some { cls := .type "list", dict := d, data := .seq vs.toArray n, slots := sl }) ∧ allHold s.heap rs vs ∧
    ∀ τn, (∀ g, allHold g rs vs → TmpOk g τ → TmpOk g τn) → At C ρ μ (τn ++ τ) s := by
  obtain ⟨hs, g, m, S, V, T⟩ := a
  rcases D with ⟨ds, rfl, rfl⟩ | ⟨l, rfl, hl⟩
  · obtain ⟨l, vs, rfl, ⟨⟨c, d, dt, sl⟩, ho, hc, n, hd⟩, h2⟩ := holds_list (T _ hv)
    simp only at hc hd
    subst hc hd
    exact ⟨l, vs, rfl, ⟨n, d, sl, S.keep _ _ ho⟩, h2.mono S.keep, fun τn h => ⟨hs, g, m, S, V, fun p hp => (List.mem_append.mp hp).elim (h g h2 T p) (T p)⟩⟩
  · obtain ⟨⟨o, ho, vs, n, rfl, h2⟩, _⟩ := S.mu _ hl
    have e : v = .ref l := T _ hv
    exact ⟨l, vs, e, ⟨n, none, #[], ho⟩, h2.mono S.keep, fun τn h => ⟨hs, g, m, S, V, fun p hp => (List.mem_append.mp hp).elim (h g h2 T p) (T p)⟩⟩
theorem isList_raw {h : Heap} {l : Addr} {vs : List Value} (x : ∃ n d sl, h.get? l = some { cls := .type "list", dict := d, data := .seq vs.toArray n, slots := sl }) : h.IsList l vs.toArray := let ⟨n, d, sl, ho⟩ := x; ⟨_, ho, rfl, n, rfl⟩

theorem PE.lenV (O : Ok C) (p : PE C ρ μ e r) (D : ListV μ r rs) (hk : C.env.kindOf "len" = some .globalImplicit) (hn : rs.length ≤ 1000000) (hs : backTo pos (starEach [e] C.env) = trees [e] C.env := by rfl) :
    PE C ρ μ (.Call (.Name "len" np) [e] [] pos) (dInt rs.length) := fun τ s Q E a h =>
  callB (id := "len") O hk (by decide) (by decide) (.cons p .nil) (by simp) hs a fun vs s' hl a' => by
    obtain ⟨v, rfl⟩ : ∃ v, vs = [v] := List.length_eq_one_iff.mp hl
    obtain ⟨l, vs, rfl, h1, h2, _⟩ := a'.listAt (v := v) D (by simp)
    have hl1 := h2.length
    refine call_len_list (isList_raw h1) (by simp [hl1]; (first | decide | assumption | omega)) (h _ _ ?_)
    rw [List.size_toArray, hl1]
    exact (a'.drop.toks _).push fun _ _ _ => int_holds _ _
theorem PE.itemV {i : Int} {q : Rk} (p1 : PE C ρ μ e1 r) (D : ListV μ r rs) (p2 : PE C ρ μ e2 (dInt i)) (h0 : 0 ≤ i) (hhi : i < 2 ^ 62) (hd : rs[i.toNat]? = some q)
    (hs : ∀ o i, subscripted e2 false o i = operate [o, i] (getItem o i) := by intros; rfl) : PE C ρ μ (.Subscript e1 e2 pos) q := fun τ s Q E a h =>
  Subscript_ (p1 τ s _ E a fun v s1 a1 => p2 _ s1 _ E a1 fun u s2 a2 => by
    obtain ⟨t, rfl⟩ := holds_int a2.top
    obtain ⟨l, vs, rfl, h1, h2, up⟩ := a2.listAt (v := v) D (by simp)
    obtain ⟨w, hw, hr⟩ := h2.get hd
    have h1 := isList_raw h1
    refine tail_any h1.typeIs list_getitem_lookup (wpAny_getItem_list h1 h0 (by (first | decide | assumption | omega)) (by simpa using hw) (h w s2 ?_)) (hs _ _)
    have := up [(w, q)] fun g hg _ p hp => by
      rw [List.mem_singleton.mp hp]
      obtain ⟨w', hw', hr'⟩ := hg.get hd
      rw [hw] at hw'; cases hw'; exact hr'
    exact this.tmps fun p hp => by
      rcases List.mem_cons.mp hp with rfl | hp
      · simp
      · simp [hp])
theorem EX.addM (p1 : PE C ρ μ e1 r1) (p2 : PE C ρ μ e2 r2) (D1 : ListV μ r1 rs1) (D2 : ListV μ r2 rs2) (hn : rs1.length + rs2.length ≤ 1000000) (h : ∀ l, Φ (.val (.ref l)) ((l, .list (rs1 ++ rs2)) :: μ)) : EX C ρ μ (.BinOp e1 .Add e2 pos) Φ := fun τ s Q E a k =>
  wpAny_BinOp (p1 τ s _ E a fun v s1 a1 => p2 _ s1 _ E a1 fun u s2 a2 => by
    obtain ⟨l, vs, rfl, ⟨n, d, sl, ho⟩, h2, up⟩ := a2.listAt (v := v) D1 (by simp)
    obtain ⟨l', ws, rfl, ⟨n', d', sl', ho'⟩, h4, up'⟩ := a2.listAt (v := u) D2 (by simp)
    have hl1 := h2.length; have hl2 := h4.length
    have hsz : vs.length + ws.length ≤ sizeLine := by rw [sizeLine_eq, hl1, hl2]; (first | decide | assumption | omega)
    refine concat_meets ⟨_, ho, rfl⟩ ⟨_, ho', rfl⟩ noFill_list_add seq_list_add PySem.F.slot_list_add PySem.F.entry_list_add (PySem.F.args_list_add_2 _ _)
      (list_addW l l' vs.toArray ws.toArray n n' d d' sl sl' (by simpa using hsz)) ⟨ho, ho', ?_⟩
    have a3 := up (vs.zip rs1) fun g hg _ => all_push hg
    obtain ⟨_, _, e, _, _, up2⟩ := a3.listAt (v := .ref l') D2 (by simp)
    have a4 : At C ρ μ (ws.zip rs2 ++ (vs.zip rs1 ++ ((.ref l', r2) :: (.ref l, r1) :: τ))) s2 := by
      have hu := a3
      obtain ⟨hs, g, m, S, V, T⟩ := hu
      obtain ⟨l2, ws2, e2, ⟨n2, d2, sl2, ho2⟩, hh, up3⟩ := a3.listAt (v := .ref l') D2 (by simp)
      cases e2
      rw [ho'] at ho2
      have ew : ws = ws2 := by
        have := Option.some.inj ho2
        injection this with _ _ e3 _
        injection e3 with e4 _
        simpa using e4
      subst ew
      exact up3 _ fun g hg _ => all_push hg
    have a5 := a4.allocM (o := { cls := .type "list", data := .seq (vs.toArray ++ ws.toArray) }) (k := .list (rs1 ++ rs2)) rfl fun g sg tm => ⟨vs ++ ws, 0, by simp [tagList], (zip_hold hl1 (τ := (.ref l', r2) :: (.ref l, r1) :: τ) fun p hp => tm p (List.mem_append_right _ hp)).append (zip_hold hl2 tm)⟩
    exact k _ _ _ _ (h _) ((a5.tmps (τ' := τ) fun p hp => by simp [hp]).push fun _ _ _ => rfl))
/-- the last of a list is taken off -/
theorem EX.pop {l : Addr} {pl : Sem Bool} (p0 : PE C ρ ((l, .list (rs ++ [r])) :: μ) o (.val (.ref l))) (he : MethShape o "pop" apos [] pos C.env pl) (hn : rs.length ≤ 100000) (h : Φ r ((l, .list rs) :: μ))
    (hs : backTo pos (starEach [] C.env) = trees [] C.env := by rfl) : EX C ρ ((l, .list (rs ++ [r])) :: μ) (.Call (.Attribute o "pop" apos) [] [] pos) Φ := fun τ s Q E a k =>
  callM (id := "list.pop") (T := "list") (r0 := .val (.ref l)) he p0 (fun τ s v a => by
      have : v = .ref l := a.top
      subst this
      obtain ⟨g, o, _, _, ho, vs, n, rfl, _⟩ := a.mem (.head _)
      exact typeIs_tag ho) PySem.F.plainAttrs_list PySem.F.slot_list_pop PySem.F.type_list_pop .nil hs a fun v vs s1 hl a1 => by
    have e : vs = [] := List.length_eq_zero_iff.mp hl
    subst e
    have : v = .ref l := a1.top
    subst this
    obtain ⟨hsm, g, m, S, V, T⟩ := a1
    obtain ⟨⟨o, ho, ws, n, rfl, hw⟩, _⟩ := S.mu _ (.head _)
    have hwl := hw.length
    simp only [List.length_append, List.length_cons, List.length_nil, Nat.zero_add] at hwl
    obtain ⟨us, y, rfl⟩ : ∃ us y, ws = us ++ [y] := ⟨ws.dropLast, ws.getLast (by intro e; simp [e] at hwl), (List.dropLast_concat_getLast _).symm⟩
    have hy : (us ++ [y]).toArray[(us ++ [y]).toArray.size - 1]? = some y := by simp
    have hsplit : allHold g rs us ∧ r.holds g y := by
      have h1 := hw.take rs.length
      have h2 := hw.drop rs.length
      have hul : us.length = rs.length := by simpa using hwl
      rw [List.take_left, ← hul, List.take_left] at h1
      rw [List.drop_left, ← hul, List.drop_left] at h2
      exact ⟨h1, h2.1⟩
    refine Copied.pop_at (its := (us ++ [y]).toArray) (n := n) ho hy (fun h' hsb ho' => k y _ r _ h ⟨hsm.next _ _, g, m, S.update hsb ho' (k' := .list rs) ⟨us, n + 1, by simp [tagList], hsplit.1⟩, V, TmpOk.cons hsplit.2 fun p hp => T p (by simp [show p ∈ τ from hp])⟩) (by simp at hwl ⊢; rw [sizeLine_eq]; (first | decide | assumption | omega))
end
end Mine
namespace Mine
open PySem PySem.W PySem.Calls PySem.Spec PyProof.Rows PySem.SeqAt

/-! ## rounds_of -/
noncomputable def rGo (ns : List Int) : Nat → Nat → List (List Int × Int)
  | 0, _ => []
  | f + 1, a => if a < ns.length then ((ns.drop a).take (bestR ns a).1, ((bestR ns a).2 : Int)) :: rGo ns f (a + (bestR ns a).1 * (bestR ns a).2) else []
noncomputable def roundsL (ns : List Int) : List (List Int × Int) := rGo ns ns.length 0
theorem rGo_stop {ns : List Int} {a : Nat} (h : ¬ a < ns.length) : ∀ f, rGo ns f a = []
  | 0 => rfl
  | f + 1 => by rw [rGo, if_neg h]
theorem bestGo_le (ns : List Int) (a : Nat) : ∀ k, 1 ≤ (bestGo ns a k).1.1 ∧ (bestGo ns a k).1.1 ≤ k + 1 ∧ 1 ≤ (bestGo ns a k).1.2 ∧ (bestGo ns a k).1.2 ≤ ns.length + 1
  | 0 => by simp [bestGo]
  | k + 1 => by
    have ih := bestGo_le ns a k
    have := roundsAt_le ns a (k + 1)
    simp only [bestGo]
    split
    · simp only; (first | decide | assumption | omega)
    · (first | decide | assumption | omega)
theorem bestR_le (ns : List Int) (a : Nat) : 1 ≤ (bestR ns a).1 ∧ (bestR ns a).1 ≤ 9 ∧ 1 ≤ (bestR ns a).2 ∧ (bestR ns a).2 ≤ ns.length + 1 := by
  have := bestGo_le ns a (min 8 (ns.length - a))
  unfold bestR; (first | decide | assumption | omega)
theorem rnds_snoc (xs : List (List Int × Int)) (p : List Int × Int) : (rnds xs).map Rk.dat ++ [Rk.dat (.tuple [.list (zs p.1), .int p.2])] = (rnds (xs ++ [p])).map Rk.dat := by simp [rnds]

theorem spec_rounds_of {Y : Lay} (hY : Y.defs = allDefs) (ns : List Int) (hn : ns.length < 64) : Spec Y 2 "rounds_of" [dInts ns] (dList (rnds (roundsL ns))) := by
  refine spec_fn D_rounds_of (by rw [hY]; unfold allDefs; simp) ["lines"] [("lines", dInts ns)] (fun _ => []) ?_ rfl ?_ ?_ ?_ ?_ ?_ ?_ ?_ rfl rfl rfl ?_
  · intro vs pm cd doc hl
    obtain ⟨_, rfl⟩ := List.length_eq_one_iff.mp hl
    rfl
  · decide
  · repeat' (first | exact List.forall_mem_nil _ | refine List.forall_mem_cons.mpr ⟨.inl (by (first | rfl | kernel_rfl)), ?_⟩)
  · (first | exact List.nodup_nil | (intro L; exact List.nodup_nil) | (intro L p hp; exact absurd hp (by intro h; cases h)) | (intro L; rfl))
  · (first | exact List.nodup_nil | (intro L; exact List.nodup_nil) | (intro L p hp; exact absurd hp (by intro h; cases h)) | (intro L; rfl))
  · (first | exact List.nodup_nil | (intro L; exact List.nodup_nil) | (intro L p hp; exact absurd hp (by intro h; cases h)) | (intro L; rfl))
  · repeat' (first | exact List.forall_mem_nil _ | refine List.forall_mem_cons.mpr ⟨⟨by (first | rfl | kernel_rfl), by (first | rfl | kernel_rfl)⟩, ?_⟩)
  · (first | exact List.nodup_nil | (intro L; exact List.nodup_nil) | (intro L p hp; exact absurd hp (by intro h; cases h)) | (intro L; rfl))
  · rintro ⟨lay, A, env, h0, g0, s0⟩ L fa cd hlay O hA henv
    subst henv
    cases hlay
    refine Tr.cons ?_
    refine Tx.assign2X O (by (first | rfl | kernel_rfl)) (by (first | rfl | kernel_rfl)) (EXs.cons (EX.list .nil fun l => EXs.cons ((PE.int 0 _).ex (EXs.nil ⟨_, _, rfl, ?_⟩))))
    refine Tr.cons (Tx.while_ O (fun st : Nat × List (List Int × Int) => st.2.length ≤ st.1 ∧ ∃ f, ns.length - st.1 ≤ f ∧ st.2 ++ rGo ns f st.1 = roundsL ns) (fun st => [("found", .val (.ref l)), ("at", dInt st.1), ("lines", dInts ns)]) (fun st => [(l, .list ((rnds st.2).map .dat))])
      (fun st => ns.length - st.1) (fun st => decide (st.1 < ns.length)) (0, []) ?_ (fun p hp => ?_) rfl (fun st hi => ?_) (fun st hi hb => ?_) (fun st hi hb => ?_))
    · exact ⟨Nat.le_refl _, ns.length, by simp, rfl⟩
    · revert p; (repeat' (first | exact List.forall_mem_nil _ | refine List.forall_mem_cons.mpr ⟨by (first | rfl | kernel_rfl), ?_⟩))
    · exact PT.cmp (PE.name O (by (first | rfl | kernel_rfl)) (by (first | rfl | kernel_rfl)) (by (first | rfl | kernel_rfl))) (PE.lenI O (PE.name O (by (first | rfl | kernel_rfl)) (by (first | rfl | kernel_rfl)) (by (first | rfl | kernel_rfl))) (by (first | rfl | kernel_rfl)) (by (first | decide | assumption | omega))) (CmpR.ltE (by rw [decide_eq_true_iff]; (first | decide | assumption | omega)))
    · have hb' := of_decide_eq_true hb
      obtain ⟨a, acc⟩ := st
      obtain ⟨i1, f, i2, i3⟩ := hi
      simp only at hb' i1 i2 i3
      have hr := bestR_le ns a
      refine Tr.cons (Tx.assignT O (ds := [.int (bestR ns a).1, .int (bestR ns a).2]) [("size", _), ("many", _)] (callF O (by (first | rfl | kernel_rfl)) (d := D_best_round) (by rw [show (Cx.lay _).defs = _ from hY]; unfold allDefs; simp) rfl (spec_best_round hY ns a hn (by (first | decide | assumption | omega))) (hA 1 (by (first | decide | assumption | omega))) (by (first | rfl | kernel_rfl)) (.cons (PE.name O (by (first | rfl | kernel_rfl)) (by (first | rfl | kernel_rfl)) (by (first | rfl | kernel_rfl))) (.cons (PE.name O (by (first | rfl | kernel_rfl)) (by (first | rfl | kernel_rfl)) (by (first | rfl | kernel_rfl))) .nil)) (by simp) rfl) rfl (by (repeat' (first | exact List.forall_mem_nil _ | refine List.forall_mem_cons.mpr ⟨by (first | rfl | kernel_rfl), ?_⟩))) ?_)
      refine Tr.cons ?_
      refine Tx.append (r := .dat (.tuple [.list (zs ((ns.drop a).take (bestR ns a).1)), .int (bestR ns a).2])) O (by (first | rfl | kernel_rfl)) (by (first | rfl | kernel_rfl)) (by (first | rfl | kernel_rfl)) (PE.tuple (ds := [.list (zs ((ns.drop a).take (bestR ns a).1)), .int (bestR ns a).2]) _ (.cons (PE.sliceI (PE.name O (by (first | rfl | kernel_rfl)) (by (first | rfl | kernel_rfl)) (by (first | rfl | kernel_rfl))) (.some (PE.name O (by (first | rfl | kernel_rfl)) (by (first | rfl | kernel_rfl)) (by (first | rfl | kernel_rfl)))) (.some (PE.addE (k := (a + (bestR ns a).1 : Nat)) (PE.name O (by (first | rfl | kernel_rfl)) (by (first | rfl | kernel_rfl)) (by (first | rfl | kernel_rfl))) (PE.name O (by (first | rfl | kernel_rfl)) (by (first | rfl | kernel_rfl)) (by (first | rfl | kernel_rfl))))) .none (by simp) (by (first | decide | assumption | omega)) (by rw [pickL_run, Nat.add_sub_cancel_left])) (.cons (PE.name O (by (first | rfl | kernel_rfl)) (by (first | rfl | kernel_rfl)) (by (first | rfl | kernel_rfl))) .nil))) rfl (by simp; (first | decide | assumption | omega)) ?_
      refine Tr.cons ?_
      refine Tx.aug (i := a) (j := ((bestR ns a).1 * (bestR ns a).2 : Nat)) O (by (first | rfl | kernel_rfl)) (by (first | rfl | kernel_rfl)) (PE.mulN (PE.name O (by (first | rfl | kernel_rfl)) (by (first | rfl | kernel_rfl)) (by (first | rfl | kernel_rfl))) (PE.name O (by (first | rfl | kernel_rfl)) (by (first | rfl | kernel_rfl)) (by (first | rfl | kernel_rfl))) (by (first | decide | assumption | omega))) ?_
      have hpos : 1 ≤ (bestR ns a).1 * (bestR ns a).2 := Nat.mul_pos hr.1 hr.2.2.1
      refine Tr.nil ⟨rfl, (a + (bestR ns a).1 * (bestR ns a).2, acc ++ [((ns.drop a).take (bestR ns a).1, ((bestR ns a).2 : Int))]), ⟨by simp only [List.length_append, List.length_cons, List.length_nil]; (first | decide | assumption | omega), f - 1, by simp only; (first | decide | assumption | omega), ?_⟩, by simp only; (first | decide | assumption | omega), fun p hp => ?_, ?_⟩
      · obtain ⟨f, rfl⟩ : ∃ f', f = f' + 1 := ⟨f - 1, by (first | decide | assumption | omega)⟩
        rw [rGo, if_pos hb'] at i3
        rw [← i3]
        simp
      · revert p; (repeat' (first | exact List.forall_mem_nil _ | refine List.forall_mem_cons.mpr ⟨by (first | rfl | kernel_rfl), ?_⟩))
      · simp only [← rnds_snoc]
    · obtain ⟨a, acc⟩ := st
      obtain ⟨i1, f, i2, i3⟩ := hi
      simp only at i3
      rw [rGo_stop (of_decide_eq_false hb), List.append_nil] at i3
      simp only [i3]
      refine Tr.freezeL (x := "found") (by (first | rfl | kernel_rfl)) ?_
      exact Tr.cons (Tx.ret (PE.name O (by (first | rfl | kernel_rfl)) (by (first | rfl | kernel_rfl)) (by (first | rfl | kernel_rfl))) (fun v => (show ∃ u, Flow.ret v = Flow.ret u ∧ (u, _) ∈ [(v, _)] from ⟨v, rfl, List.Mem.head _⟩)))
end Mine
namespace Mine
open PySem PySem.W PySem.Calls PySem.Spec PyProof.Rows PySem.SeqAt

/-! ## shown_path -/
noncomputable def strI (i : Int) : Str := Str.ofString (toString i)
noncomputable def sp : Str := Str.ofString " "
noncomputable def textOf (ns : List Int) : Str := Txt.join sp (ns.map strI)
noncomputable def segT (p : List Int × Int) : Str := if p.2 = 1 then textOf p.1 else Str.ofString "(" ++ textOf p.1 ++ Str.ofString ")*" ++ strI p.2
noncomputable def shownT (ns : List Int) : Str := Txt.join sp ((roundsL ns).map segT)
/-- the lines that the law's path is made of -/
noncomputable def five : List Int := [10, 20, 30, 40, 50]

theorem rGo_mem (ns : List Int) : ∀ f a, ∀ p ∈ rGo ns f a, (∀ x ∈ p.1, x ∈ ns) ∧ p.1.length ≤ 9 ∧ 1 ≤ p.2 ∧ p.2 ≤ ns.length + 1
  | 0, a, p, h => by simp [rGo] at h
  | f + 1, a, p, h => by
    rw [rGo] at h
    split at h
    · rcases List.mem_cons.mp h with rfl | h
      · have := bestR_le ns a
        refine ⟨fun x hx => List.mem_of_mem_drop (List.mem_of_mem_take hx), ?_, ?_, ?_⟩
        · simp only [List.length_take]; (first | decide | assumption | omega)
        · simp only; (first | decide | assumption | omega)
        · simp only; (first | decide | assumption | omega)
      · exact rGo_mem ns f _ p h
    · simp at h
theorem rGo_len (ns : List Int) : ∀ f a, (rGo ns f a).length ≤ ns.length - a
  | 0, a => by simp [rGo]
  | f + 1, a => by
    rw [rGo]
    split
    · have h1 := rGo_len ns f (a + (bestR ns a).1 * (bestR ns a).2)
      have := bestR_le ns a
      have hpos : 1 ≤ (bestR ns a).1 * (bestR ns a).2 := Nat.mul_pos this.1 this.2.2.1
      simp only [List.length_cons]
      (first | decide | assumption | omega)
    · simp
theorem roundsL_mem {ns : List Int} {p : List Int × Int} (h : p ∈ roundsL ns) : (∀ x ∈ p.1, x ∈ ns) ∧ p.1.length ≤ 9 ∧ 1 ≤ p.2 ∧ p.2 ≤ ns.length + 1 := rGo_mem ns _ _ p h
theorem roundsL_len (ns : List Int) : (roundsL ns).length ≤ ns.length := by have := rGo_len ns ns.length 0; unfold roundsL; (first | decide | assumption | omega)
theorem five_len : ∀ x ∈ five, (strI x).length = 2 := by decide +kernel
theorem many_len : ∀ m : Fin 100, (strI (m : Int)).length ≤ 2 := by decide +kernel
theorem join_len (sep : Str) {ws : List Str} {B : Nat} (hB : ∀ w ∈ ws, w.length ≤ B) : (Txt.join sep ws).length ≤ ws.length * B + ws.length * sep.length := by
  show (Builtin.Str.glued sep ws).length ≤ _
  rw [StrLaws.glued_eq_join]
  have h1 := StrLaws.join_length_le sep ws
  have h2 := StrLaws.sumLen_le ws hB
  (first | decide | assumption | omega)
theorem join_ok (sep : Str) {ws : List Str} {B : Nat} (hB : ∀ w ∈ ws, w.length ≤ B) (h : ws.length * B + ws.length * sep.length ≤ 1000000) : JoinOk sep ws = true := by
  have := StrLaws.joinFits (sep := sep) hB (by (first | decide | assumption | omega))
  unfold JoinOk
  rw [Bool.not_eq_true']
  exact this
theorem sp_len : sp.length = 1 := by decide +kernel
theorem text_len {ns : List Int} (h : ∀ x ∈ ns, x ∈ five) : (textOf ns).length ≤ ns.length * 2 + ns.length * 1 := by
  have := join_len sp (ws := ns.map strI) (B := 2) (fun w hw => by obtain ⟨x, hx, rfl⟩ := List.mem_map.mp hw; exact Nat.le_of_eq (five_len x (h x hx)))
  rw [sp_len, List.length_map] at this
  exact this
theorem str_small {m : Int} (h0 : 0 ≤ m) (h : m < 100) : (strI m).length ≤ 2 := by
  have := many_len ⟨m.toNat, by (first | decide | assumption | omega)⟩
  rwa [show ((⟨m.toNat, by (first | decide | assumption | omega)⟩ : Fin 100) : Int) = m by simp; (first | decide | assumption | omega)] at this
theorem len_app (a b : Str) : (a ++ b).length = a.length + b.length := Str.length_append a b
theorem seg_len {p : List Int × Int} (h : ∀ x ∈ p.1, x ∈ five) (hl : p.1.length ≤ 9) (h0 : 1 ≤ p.2) (h1 : p.2 < 100) : (segT p).length ≤ 40 := by
  have h2 := text_len h
  have h3 := str_small (m := p.2) (by (first | decide | assumption | omega)) h1
  unfold segT
  split
  · (first | decide | assumption | omega)
  · simp only [len_app]
    have e1 : (Str.ofString "(").length = 1 := by decide +kernel
    have e2 : (Str.ofString ")*").length = 2 := by decide +kernel
    (first | decide | assumption | omega)
section
variable {C : Cx} {ρ : Vs} {μ μ' : Ms} {e tgt : Expr}
theorem srcs_rnds {rs : List (List Int × Int)} (p : EV C ρ μ e μ' (dList (rnds rs))) : Srcs C ρ μ e tgt μ' rs.length (fun i => dTup [.list (zs (rs.getD i ([], 0)).1), .int (rs.getD i ([], 0)).2]) := by
  have := srcs_list (tgt := tgt) p
  rw [show (rnds rs).length = rs.length by simp] at this
  exact this.congr fun i hi => by simp [rnds, List.getD, List.getElem?_eq_getElem hi]
end

theorem spec_shown {Y : Lay} (hY : Y.defs = allDefs) (ns : List Int) (hn : ns.length < 64) (h5 : ∀ x ∈ ns, x ∈ five) : Spec Y 3 "shown_path" [dInts ns] (dStr (shownT ns)) := by
  refine spec_fn D_shown_path (by rw [hY]; unfold allDefs; simp) ["lines"] [("lines", dInts ns)] (fun _ => []) ?_ rfl ?_ ?_ ?_ ?_ ?_ ?_ ?_ rfl rfl rfl ?_
  · intro vs pm cd doc hl
    obtain ⟨_, rfl⟩ := List.length_eq_one_iff.mp hl
    rfl
  · decide
  · repeat' (first | exact List.forall_mem_nil _ | refine List.forall_mem_cons.mpr ⟨.inl (by (first | rfl | kernel_rfl)), ?_⟩)
  · (first | exact List.nodup_nil | (intro L; exact List.nodup_nil) | (intro L p hp; exact absurd hp (by intro h; cases h)) | (intro L; rfl))
  · (first | exact List.nodup_nil | (intro L; exact List.nodup_nil) | (intro L p hp; exact absurd hp (by intro h; cases h)) | (intro L; rfl))
  · (first | exact List.nodup_nil | (intro L; exact List.nodup_nil) | (intro L p hp; exact absurd hp (by intro h; cases h)) | (intro L; rfl))
  · repeat' (first | exact List.forall_mem_nil _ | refine List.forall_mem_cons.mpr ⟨⟨by (first | rfl | kernel_rfl), by (first | rfl | kernel_rfl)⟩, ?_⟩)
  · (first | exact List.nodup_nil | (intro L; exact List.nodup_nil) | (intro L p hp; exact absurd hp (by intro h; cases h)) | (intro L; rfl))
  · rintro ⟨lay, A, env, h0, g0, s0⟩ L fa cd hlay O hA henv
    subst henv
    cases hlay
    have hlen := roundsL_len ns
    have hsegs : ∀ w ∈ (roundsL ns).map segT, w.length ≤ 40 := fun w hw => by
      obtain ⟨p, hp, rfl⟩ := List.mem_map.mp hw
      obtain ⟨q1, q2, q3, q4⟩ := roundsL_mem hp
      exact seg_len (fun x hx => h5 x (q1 x hx)) q2 q3 (by (first | decide | assumption | omega))
    refine Tr.cons ?_
    refine Tx.assignX O (by (first | rfl | kernel_rfl)) (EX.list .nil fun l => ?_)
    refine Tr.cons (Tx.for_ O (n := (roundsL ns).length) (D := fun i => dTup [.list (zs ((roundsL ns).getD i ([], 0)).1), .int ((roundsL ns).getD i ([], 0)).2]) (fun i => [("some", .val (.ref l)), ("lines", dInts ns)])
      (fun i => [("many", dInt ((roundsL ns).getD i ([], 0)).2), ("here", dInts ((roundsL ns).getD i ([], 0)).1), ("some", .val (.ref l)), ("lines", dInts ns)]) (fun i => [(l, .list ((txts (((roundsL ns).map segT).take i)).map .dat))])
      (srcs_rnds (callF O (by (first | rfl | kernel_rfl)) (d := D_rounds_of) (by rw [show (Cx.lay _).defs = _ from hY]; unfold allDefs; simp) rfl (spec_rounds_of hY ns hn) (hA 2 (by (first | decide | assumption | omega))) (by (first | rfl | kernel_rfl)) (.cons (PE.name O (by (first | rfl | kernel_rfl)) (by (first | rfl | kernel_rfl)) (by (first | rfl | kernel_rfl))) .nil) (by simp) rfl).ev) (fun p hp => ?_) (fun i hi => Asg.tup (ds := [.list (zs ((roundsL ns).getD i ([], 0)).1), .int ((roundsL ns).getD i ([], 0)).2]) O [("here", _), ("many", _)] rfl (by (repeat' (first | exact List.forall_mem_nil _ | refine List.forall_mem_cons.mpr ⟨by (first | rfl | kernel_rfl), ?_⟩)))) (fun i hi ν => ?_) ?_)
    · revert p; (repeat' (first | exact List.forall_mem_nil _ | refine List.forall_mem_cons.mpr ⟨by (first | rfl | kernel_rfl), ?_⟩))
    · have hm : (roundsL ns).getD i ([], 0) ∈ roundsL ns := by simp [List.getD, List.getElem?_eq_getElem hi]
      obtain ⟨q1, q2, q3, q4⟩ := roundsL_mem hm
      have hs1 := hsegs (segT ((roundsL ns).getD i ([], 0))) (List.mem_map.mpr ⟨_, hm, rfl⟩)
      have ht := text_len (fun x hx => h5 x (q1 x hx))
      have e0 : (((roundsL ns).map segT).take i).length ≤ 64 := by simp; (first | decide | assumption | omega)
      have e1 : ((roundsL ns).map segT).getD i ⟨#[]⟩ = segT ((roundsL ns).getD i ([], 0)) := by simp [List.getD, List.getElem?_eq_getElem hi]
      have e2 := take_succ_getD ((roundsL ns).map segT) ⟨#[]⟩ (i := i) (by simpa using hi)
      rw [e1] at e2
      generalize (roundsL ns).getD i ([], 0) = p at *
      refine Tr.cons (Tx.assign O (r := dStr (textOf p.1)) (PE.join (ws := p.1.map strI) rfl (PE.str _ _) ?_ ?_) (by (first | rfl | kernel_rfl)) ?_)
      · refine PE.comp _ O (fun j => [("line", dInt (p.1.getD j 0))]) (fun j => .str (strI (p.1.getD j 0))) (srcs_ints (PE.name O (by (first | rfl | kernel_rfl)) (by (first | rfl | kernel_rfl)) (by (first | rfl | kernel_rfl)))) (fun L j hj => Asg.name (O.comp rfl L) (by (first | rfl | kernel_rfl))) (fun L O2 j hj ν => PE.strOf O2 (PE.name O2 (by (first | rfl | kernel_rfl)) (by (first | rfl | kernel_rfl)) (by (first | rfl | kernel_rfl))) (by (first | rfl | kernel_rfl)) ?_) (by (first | decide | assumption | omega)) ?_
        · have hm : p.1.getD j 0 ∈ five := h5 _ (q1 _ (by simp [List.getD, List.getElem?_eq_getElem hj]))
          generalize p.1.getD j 0 = x at hm
          revert x; decide
        · rw [txts, List.map_map]; exact range_map_getD p.1 0 fun x => PyData.str (strI x)
      · exact join_ok sp (B := 2) (fun w hw => by obtain ⟨x, hx, rfl⟩ := List.mem_map.mp hw; exact Nat.le_of_eq (five_len x (h5 x (q1 x hx)))) (by rw [sp_len, List.length_map]; (first | decide | assumption | omega))
      · refine Tr.cons ?_
        refine Tx.append (r := dStr (segT p)) O (by (first | rfl | kernel_rfl)) (by (first | rfl | kernel_rfl)) (by (first | rfl | kernel_rfl)) ?_ rfl (by simp; (first | decide | assumption | omega)) (Tr.nil ⟨rfl, fun q hq => ?_, ?_⟩)
        · refine PE.ite (b := decide (p.2 = 1)) (PT.cmp (PE.name O (by (first | rfl | kernel_rfl)) (by (first | rfl | kernel_rfl)) (by (first | rfl | kernel_rfl))) (PE.int 1 _) (CmpR.eqN O _ _)) (fun hb => ?_) (fun hb => ?_)
          · rw [segT, if_pos (of_decide_eq_true hb)]
            exact PE.name O (by (first | rfl | kernel_rfl)) (by (first | rfl | kernel_rfl)) (by (first | rfl | kernel_rfl))
          · rw [segT, if_neg (of_decide_eq_false hb)] at hs1 ⊢
            simp only [len_app] at hs1
            exact PE.addS (PE.addS (PE.addS (PE.str _ _) (PE.name O (by (first | rfl | kernel_rfl)) (by (first | rfl | kernel_rfl)) (by (first | rfl | kernel_rfl))) (by (first | decide | assumption | omega))) (PE.str _ _) (by rw [len_app]; (first | decide | assumption | omega))) (PE.strOf O (PE.name O (by (first | rfl | kernel_rfl)) (by (first | rfl | kernel_rfl)) (by (first | rfl | kernel_rfl))) (by (first | rfl | kernel_rfl)) (by have := log_small (n := p.2.natAbs) (by (first | decide | assumption | omega)); (first | decide | assumption | omega))) (by rw [len_app, len_app]; (first | decide | assumption | omega))
        · revert q; (repeat' (first | exact List.forall_mem_nil _ | refine List.forall_mem_cons.mpr ⟨by (first | rfl | kernel_rfl), ?_⟩))
        · simp only [e2, txts, List.map_append]; rfl
    · simp only [List.take_of_length_le (l := (roundsL ns).map segT) (i := (roundsL ns).length) (by simp)]
      refine Tr.freezeL (x := "some") (by (first | rfl | kernel_rfl)) ?_
      refine Tr.cons (Tx.ret (PE.join (ws := (roundsL ns).map segT) rfl (PE.str _ _) (PE.name O (by (first | rfl | kernel_rfl)) (by (first | rfl | kernel_rfl)) (by (first | rfl | kernel_rfl))) ?_) (fun v => (show ∃ u, Flow.ret v = Flow.ret u ∧ (u, _) ∈ [(v, _)] from ⟨v, rfl, List.Mem.head _⟩)))
      exact join_ok _ hsegs (by rw [List.length_map, show (Str.ofString " ").length = 1 from sp_len]; (first | decide | assumption | omega))
end Mine
namespace Mine
open PySem PySem.W PySem.Calls PySem.Spec PyProof.Rows PySem.SeqAt

/-! ## _law_summed -/
noncomputable abbrev prN (ps : List (Int × Int)) : List PyData := ps.map fun p => .tuple [.int p.1, .int p.2]
noncomputable abbrev prT (ps : List (List Int × Int)) : List PyData := ps.map fun p => .tuple [.tuple (zs p.1), .int p.2]
section
variable {C : Cx} {ρ : Vs} {μ μ' : Ms} {e tgt : Expr}
theorem srcs_prN {rs : List (Int × Int)} (p : EV C ρ μ e μ' (dList (prN rs))) : Srcs C ρ μ e tgt μ' rs.length (fun i => dTup [.int (rs.getD i (0, 0)).1, .int (rs.getD i (0, 0)).2]) := by
  have := srcs_list (tgt := tgt) p
  rw [show (prN rs).length = rs.length by simp] at this
  exact this.congr fun i hi => by simp [prN, List.getD, List.getElem?_eq_getElem hi]
theorem srcs_prT {rs : List (List Int × Int)} (p : EV C ρ μ e μ' (dList (prT rs))) : Srcs C ρ μ e tgt μ' rs.length (fun i => dTup [.tuple (zs (rs.getD i ([], 0)).1), .int (rs.getD i ([], 0)).2]) := by
  have := srcs_list (tgt := tgt) p
  rw [show (prT rs).length = rs.length by simp] at this
  exact this.congr fun i hi => by simp [prT, List.getD, List.getElem?_eq_getElem hi]
end
theorem sumF_take {K : Type} [DecidableEq K] (ps : List (K × Int)) (d : K × Int) {i : Nat} (hi : i < ps.length) : sumF (ps.take (i + 1)) = putP (sumF (ps.take i)) (ps.getD i d).1 ((lookP (sumF (ps.take i)) (ps.getD i d).1).getD 0 + (ps.getD i d).2) := by
  rw [take_succ_getD ps d hi, sumF_snoc]; rfl

theorem spec_summedN {Y : Lay} (hY : Y.defs = allDefs) (ps : List (Int × Int)) (hn : ps.length ≤ 500) : Spec Y 0 "_law_summed" [dList (prN ps)] (dictR (intK Y.prog Y.w) (kvi (sumF ps))) := by
  refine spec_fn D__law_summed (by rw [hY]; unfold allDefs; simp) ["pairs"] [("pairs", dList (prN ps))] (fun _ => []) ?_ rfl ?_ ?_ ?_ ?_ ?_ ?_ ?_ rfl rfl rfl ?_
  · intro vs pm cd doc hl
    obtain ⟨_, rfl⟩ := List.length_eq_one_iff.mp hl
    rfl
  · decide
  · repeat' (first | exact List.forall_mem_nil _ | refine List.forall_mem_cons.mpr ⟨.inl (by (first | rfl | kernel_rfl)), ?_⟩)
  · (first | exact List.nodup_nil | (intro L; exact List.nodup_nil) | (intro L p hp; exact absurd hp (by intro h; cases h)) | (intro L; rfl))
  · (first | exact List.nodup_nil | (intro L; exact List.nodup_nil) | (intro L p hp; exact absurd hp (by intro h; cases h)) | (intro L; rfl))
  · (first | exact List.nodup_nil | (intro L; exact List.nodup_nil) | (intro L p hp; exact absurd hp (by intro h; cases h)) | (intro L; rfl))
  · repeat' (first | exact List.forall_mem_nil _ | refine List.forall_mem_cons.mpr ⟨⟨by (first | rfl | kernel_rfl), by (first | rfl | kernel_rfl)⟩, ?_⟩)
  · (first | exact List.nodup_nil | (intro L; exact List.nodup_nil) | (intro L p hp; exact absurd hp (by intro h; cases h)) | (intro L; rfl))
  · rintro ⟨lay, A, env, h0, g0, s0⟩ L fa cd hlay O hA henv
    subst henv
    cases hlay
    refine Tr.cons (Tx.dict0 (δ := intK lay.prog lay.w) O (by (first | rfl | kernel_rfl)) fun d => ?_)
    refine Tr.cons (Tx.for_ O (n := ps.length) (D := fun i => dTup [.int (ps.getD i (0, 0)).1, .int (ps.getD i (0, 0)).2]) (fun i => [("found", .val (.ref d)), ("pairs", dList (prN ps))])
      (fun i => [("many", dInt (ps.getD i (0, 0)).2), ("key", dInt (ps.getD i (0, 0)).1), ("found", .val (.ref d)), ("pairs", dList (prN ps))]) (fun i => [(d, dictM (intK lay.prog lay.w) (kvi (sumF (ps.take i))))])
      (srcs_prN (PE.ev (PE.name O (by (first | rfl | kernel_rfl)) (by (first | rfl | kernel_rfl)) (by (first | rfl | kernel_rfl))))) (fun p hp => ?_) (fun i hi => Asg.tup (ds := [.int (ps.getD i (0, 0)).1, .int (ps.getD i (0, 0)).2]) O [("key", _), ("many", _)] rfl (by (repeat' (first | exact List.forall_mem_nil _ | refine List.forall_mem_cons.mpr ⟨by (first | rfl | kernel_rfl), ?_⟩)))) (fun i hi ν => ?_) ?_)
    · revert p; (repeat' (first | exact List.forall_mem_nil _ | refine List.forall_mem_cons.mpr ⟨by (first | rfl | kernel_rfl), ?_⟩))
    · have hl := sumF_len (ps.take i)
      refine Tr.cons ?_
      refine Tx.setN O (by (first | rfl | kernel_rfl)) (by (first | rfl | kernel_rfl)) (by (first | rfl | kernel_rfl)) (PE.add (PE.getN O (PE.name O (by (first | rfl | kernel_rfl)) (by (first | rfl | kernel_rfl)) (by (first | rfl | kernel_rfl))) (.inr ⟨d, rfl, .head _⟩) (PE.name O (by (first | rfl | kernel_rfl)) (by (first | rfl | kernel_rfl)) (by (first | rfl | kernel_rfl))) (PE.int 0 _) rfl) (PE.name O (by (first | rfl | kernel_rfl)) (by (first | rfl | kernel_rfl)) (by (first | rfl | kernel_rfl)))) (PE.name O (by (first | rfl | kernel_rfl)) (by (first | rfl | kernel_rfl)) (by (first | rfl | kernel_rfl))) (by simp at hl; (first | decide | assumption | omega)) (Tr.nil ⟨rfl, fun q hq => ?_, ?_⟩)
      · revert q; (repeat' (first | exact List.forall_mem_nil _ | refine List.forall_mem_cons.mpr ⟨by (first | rfl | kernel_rfl), ?_⟩))
      · rw [sumF_take ps (0, 0) hi]; rfl
    · simp only [List.take_length]
      refine Tr.freeze (δ := intK lay.prog lay.w) (x := "found") O (by (first | rfl | kernel_rfl)) ?_
      exact Tr.cons (Tx.ret (PE.name O (by (first | rfl | kernel_rfl)) (by (first | rfl | kernel_rfl)) (by (first | rfl | kernel_rfl))) (fun v => (show ∃ u, Flow.ret v = Flow.ret u ∧ (u, _) ∈ [(v, _)] from ⟨v, rfl, List.Mem.head _⟩)))

theorem spec_summedT {Y : Lay} (hY : Y.defs = allDefs) (ps : List (List Int × Int)) (hn : ps.length ≤ 500) : Spec Y 0 "_law_summed" [dList (prT ps)] (dictR (tupK Y.prog Y.w) (kvi (sumF ps))) := by
  refine spec_fn D__law_summed (by rw [hY]; unfold allDefs; simp) ["pairs"] [("pairs", dList (prT ps))] (fun _ => []) ?_ rfl ?_ ?_ ?_ ?_ ?_ ?_ ?_ rfl rfl rfl ?_
  · intro vs pm cd doc hl
    obtain ⟨_, rfl⟩ := List.length_eq_one_iff.mp hl
    rfl
  · decide
  · repeat' (first | exact List.forall_mem_nil _ | refine List.forall_mem_cons.mpr ⟨.inl (by (first | rfl | kernel_rfl)), ?_⟩)
  · (first | exact List.nodup_nil | (intro L; exact List.nodup_nil) | (intro L p hp; exact absurd hp (by intro h; cases h)) | (intro L; rfl))
  · (first | exact List.nodup_nil | (intro L; exact List.nodup_nil) | (intro L p hp; exact absurd hp (by intro h; cases h)) | (intro L; rfl))
  · (first | exact List.nodup_nil | (intro L; exact List.nodup_nil) | (intro L p hp; exact absurd hp (by intro h; cases h)) | (intro L; rfl))
  · repeat' (first | exact List.forall_mem_nil _ | refine List.forall_mem_cons.mpr ⟨⟨by (first | rfl | kernel_rfl), by (first | rfl | kernel_rfl)⟩, ?_⟩)
  · (first | exact List.nodup_nil | (intro L; exact List.nodup_nil) | (intro L p hp; exact absurd hp (by intro h; cases h)) | (intro L; rfl))
  · rintro ⟨lay, A, env, h0, g0, s0⟩ L fa cd hlay O hA henv
    subst henv
    cases hlay
    refine Tr.cons (Tx.dict0 (δ := tupK lay.prog lay.w) O (by (first | rfl | kernel_rfl)) fun d => ?_)
    refine Tr.cons (Tx.for_ O (n := ps.length) (D := fun i => dTup [.tuple (zs (ps.getD i ([], 0)).1), .int (ps.getD i ([], 0)).2]) (fun i => [("found", .val (.ref d)), ("pairs", dList (prT ps))])
      (fun i => [("many", dInt (ps.getD i ([], 0)).2), ("key", dTup (zs (ps.getD i ([], 0)).1)), ("found", .val (.ref d)), ("pairs", dList (prT ps))]) (fun i => [(d, dictM (tupK lay.prog lay.w) (kvi (sumF (ps.take i))))])
      (srcs_prT (PE.ev (PE.name O (by (first | rfl | kernel_rfl)) (by (first | rfl | kernel_rfl)) (by (first | rfl | kernel_rfl))))) (fun p hp => ?_) (fun i hi => Asg.tup (ds := [.tuple (zs (ps.getD i ([], 0)).1), .int (ps.getD i ([], 0)).2]) O [("key", _), ("many", _)] rfl (by (repeat' (first | exact List.forall_mem_nil _ | refine List.forall_mem_cons.mpr ⟨by (first | rfl | kernel_rfl), ?_⟩)))) (fun i hi ν => ?_) ?_)
    · revert p; (repeat' (first | exact List.forall_mem_nil _ | refine List.forall_mem_cons.mpr ⟨by (first | rfl | kernel_rfl), ?_⟩))
    · have hl := sumF_len (ps.take i)
      refine Tr.cons ?_
      refine Tx.setT (k := (ps.getD i ([], 0)).1) O (by (first | rfl | kernel_rfl)) (by (first | rfl | kernel_rfl)) (by (first | rfl | kernel_rfl)) (PE.add (PE.getT (k := (ps.getD i ([], 0)).1) O (PE.name O (by (first | rfl | kernel_rfl)) (by (first | rfl | kernel_rfl)) (by (first | rfl | kernel_rfl))) (.inr ⟨d, rfl, .head _⟩) (PE.name O (by (first | rfl | kernel_rfl)) (by (first | rfl | kernel_rfl)) (by (first | rfl | kernel_rfl))) (PE.int 0 _) rfl) (PE.name O (by (first | rfl | kernel_rfl)) (by (first | rfl | kernel_rfl)) (by (first | rfl | kernel_rfl)))) (PE.name O (by (first | rfl | kernel_rfl)) (by (first | rfl | kernel_rfl)) (by (first | rfl | kernel_rfl))) (by simp at hl; (first | decide | assumption | omega)) (Tr.nil ⟨rfl, fun q hq => ?_, ?_⟩)
      · revert q; (repeat' (first | exact List.forall_mem_nil _ | refine List.forall_mem_cons.mpr ⟨by (first | rfl | kernel_rfl), ?_⟩))
      · rw [sumF_take ps ([], 0) hi]; rfl
    · simp only [List.take_length]
      refine Tr.freeze (δ := tupK lay.prog lay.w) (x := "found") O (by (first | rfl | kernel_rfl)) ?_
      exact Tr.cons (Tx.ret (PE.name O (by (first | rfl | kernel_rfl)) (by (first | rfl | kernel_rfl)) (by (first | rfl | kernel_rfl))) (fun v => (show ∃ u, Flow.ret v = Flow.ret u ∧ (u, _) ∈ [(v, _)] from ⟨v, rfl, List.Mem.head _⟩)))
end Mine
namespace Mine
open PySem PySem.W PySem.Calls PySem.Spec PyProof.Rows PySem.SeqAt

section
variable {C : Cx} {ρ ρ' : Vs} {μ μ' : Ms} {e e1 e2 e3 o : Expr} {es : List Expr} {r r1 r2 : Rk} {rs rs1 rs2 : List Rk} {pos np apos xp tp : Pos} {x y : Str} {P : Post} {Φ Ψ : Rk → Ms → Prop} {K : List Rk → Ms → Prop} {τ : Ts} {s : Shared} {body : List Stmt}

theorem Tr.sub (h : List.Sublist μ' μ) (t : Tr C ρ μ' body P) : Tr C ρ μ body P := fun τ s E a => t τ s E (a.sub (fun _ _ e => e) h fun _ hp => hp)
/-- a loop whose state is found as it goes -/
theorem Tx.forI {tgt iter : Expr} {n : Nat} {D : Nat → Rk} (O : Ok C) (Inv : Nat → Vs → Ms → Prop) {ρ0 : Vs} {μ0 : Ms} (sr : Srcs C ρ μ iter tgt μ0 n D) (h0 : ∀ p ∈ ρ0, ρ.lookup p.1 = some p.2) (hi : Inv 0 ρ0 μ0)
    (turn : ∀ i, i < n → ∀ ρ1 μ1, Inv i ρ1 μ1 → ∃ ρa, Asg C ρ1 tgt (D i) ρa ∧ ∀ ν : Ms, Tr C ρa (μ1 ++ ν) body (fun f ρ' μ' _ => f = .next ∧ ∃ ρ2 μ2, Inv (i + 1) ρ2 μ2 ∧ (∀ p ∈ ρ2, ρ'.lookup p.1 = some p.2) ∧ μ' = μ2 ++ ν))
    (fin : ∀ ρ1 μ1, Inv n ρ1 μ1 → P .next ρ1 μ1 []) (hs : ∀ v, foldedSetIterable iter C.env v = pure v := by intro _; rfl) : Tx C ρ μ (.For tgt iter body [] pos) P := fun τ s E a => by
  refine wpAny_For (hs := hs) (sr τ s _ E a fun I own τs s1 src a1 => ?_)
  have src := src C O rfl rfl
  refine codeAny_forLoop_any (fun k s' => ∃ i ρ1 μ1, Inv i ρ1 μ1 ∧ i ≤ n ∧ k = n - i ∧ At C ρ1 (μ1 ++ own i) (τs ++ τ) s') ?_ n ⟨0, ρ0, μ0, hi, Nat.zero_le _, rfl, a1.vars h0⟩
  rintro k s' ⟨i, ρ1, μ1, hI, hi, rfl, a'⟩
  by_cases hlt : i < n
  · obtain ⟨ρa, asg, turn⟩ := turn i hlt ρ1 μ1 hI
    refine wpAny_mono (src.item i _ _ τ s' (fun v s2 => At C ρ1 (μ1 ++ own (i + 1)) ((v, D i) :: (τs ++ τ)) s2) (fun _ _ => False) hlt a' fun v s2 a2 => a2) (fun r s2 h2 => ?_) fun _ _ f => f.elim
    obtain ⟨v, rfl, h2⟩ := h2
    refine wpAny_mono h2 (fun _ s3 a3 => ?_) fun _ _ f => f.elim
    refine wpAny_mono (asg _ (τs ++ τ) v s3 (fun _ s4 => At C ρa (μ1 ++ own (i + 1)) (τs ++ τ) s4) (fun _ _ => False) a3 fun s4 a4 => a4) (fun _ s4 a4 => ?_) fun _ _ f => f.elim
    refine wpAny_mono (turn (own (i + 1)) (τs ++ τ) s4 (fun _ _ => False) a4) (fun f s5 h5 => ?_) fun _ _ f => f.elim
    obtain ⟨ρ', μ', τ', a5, rfl, ρ2, μ2, hI2, hv, rfl⟩ := h5
    exact ⟨n - (i + 1), by (first | decide | assumption | omega), i + 1, ρ2, μ2, hI2, hlt, rfl, (a5.vars hv).tmps fun p hp => List.mem_append_right _ hp⟩
  · have : i = n := by (first | decide | assumption | omega)
    subst this
    refine src.done _ _ τ s' _ _ a' fun s2 a2 => wpAny_execs_nil ⟨_, _, [], a2, fin _ _ hI⟩

/-- two lists as one, that no longer turns -/
theorem PE.addV {ds es : List PyData} (p1 : PE C ρ μ e1 r1) (p2 : PE C ρ μ e2 r2) (D1 : ListV μ r1 (ds.map .dat)) (D2 : ListV μ r2 (es.map .dat)) (hn : ds.length + es.length ≤ 1000000) : PE C ρ μ (.BinOp e1 .Add e2 pos) (dList (ds ++ es)) := fun τ s Q E a k =>
  EX.addM (Φ := fun r μ' => ∃ l, r = .val (.ref l) ∧ μ' = (l, .list ((ds ++ es).map .dat)) :: μ) p1 p2 D1 D2 (by simpa using hn) (fun l => ⟨l, rfl, by rw [List.map_append]⟩) τ s Q E a fun v s' r μ' hr a' => by
    obtain ⟨l, rfl, rfl⟩ := hr
    have e : v = .ref l := a'.top
    subst e
    exact k _ _ (a'.drop.freeze (r := dList (ds ++ es)) fun g o ⟨vs, n, e, hv⟩ hg => list_holds ⟨o, hg, by rw [e]; rfl, n, by rw [e]; rfl⟩ hv)
theorem three_of {α : Type} : ∀ {l : List α}, l.length = 3 → ∃ a b c, l = [a, b, c]
  | [a, b, c], _ => ⟨a, b, c, rfl⟩
/-- three stores turned round -/
theorem Tx.assign3X (O : Ok C) {x1 x2 x3 : Str} {p1 p2 p3 tpos : Pos} {k n : Nat} (hk1 : C.env.kindOf x1 = some .local) (hk2 : C.env.kindOf x2 = some .local) (hk3 : C.env.kindOf x3 = some .local) (p : EXs C ρ μ es fun rs μ' => ∃ r1 r2 r3, rs = [r1, r2, r3] ∧ P .next ((x1, r1) :: (x2, r2) :: (x3, r3) :: ρ) μ' [])
    (hst : backTo tpos (starEach es C.env) = es.map (fun e => (false, eval e C.env)) := by rfl)
    (hs : swapsWithSole [.Tuple [.Name x1 p1, .Name x2 p2, .Name x3 p3] k xp] (.Tuple es n tpos) pos.line C.env = pure false := by rfl) (hw : swappedStores [.Tuple [.Name x1 p1, .Name x2 p2, .Name x3 p3] k xp] (.Tuple es n tpos) C.env = pure (some [x1, x2, x3]) := by rfl) : Tx C ρ μ (.Assign [.Tuple [.Name x1 p1, .Name x2 p2, .Name x3 p3] k xp] (.Tuple es n tpos) pos) P := fun τ s E a => by
  rw [exec_Assign_arm, hs]
  refine wpAny_bind (wpAny_standAt (wpAny_bind (wpAny_pure ?_)))
  simp only [Bool.false_eq_true, if_false]
  refine wpAny_bind (EX.tuple (Φ := fun r μ' => ∃ r1 r2 r3, r = tupG [r1, r2, r3] ∧ P .next ((x1, r1) :: (x2, r2) :: (x3, r3) :: ρ) μ' []) (fun τ s Q E a q => p τ s Q E a fun vs s' rs μ' hl ⟨r1, r2, r3, hr, hk⟩ a' => q vs s' rs μ' hl ⟨by rw [hr]; simp, r1, r2, r3, by rw [hr], hk⟩ a') hst τ s _ E a fun v s1 r μ1 ⟨r1, r2, r3, hr, h⟩ a1 => ?_)
  subst hr
  rw [hw]
  refine wpAny_bind (wpAny_pure ?_)
  unfold assignStores
  refine wpAny_bind (wpAny_rule (wpAny_bind ?_))
  refine unpack_g (rs := [r1, r2, r3]) O a1 fun vs s2 hv a2 => ?_
  obtain ⟨u1, u2, u3, rfl⟩ := three_of hv
  show wpAny _ _ (assignInOrder [bindName C.env x3, bindName C.env x2, bindName C.env x1] [u3, u2, u1] >>= fun _ => (pure Flow.next : Sem Flow)) _ _ _
  refine wpAny_bind ?_
  show wpAny _ _ (holding [u2, u1] (bindName C.env x3 u3) >>= fun _ => assignInOrder [bindName C.env x2, bindName C.env x1] [u2, u1]) _ _ _
  refine wpAny_bind (wpAny_holding (wpAny_bindName ?_))
  have a3 : At C ρ μ1 ((u3, r3) :: (u2, r2) :: (u1, r1) :: τ) s2 := a2.tmps fun p hp => by simp at hp ⊢; rcases hp with h | h | h | h <;> simp [h]
  refine a3.storeNs hk3 O.fn fun s4 a4 => ?_
  show wpAny _ _ (holding [u1] (bindName C.env x2 u2) >>= fun _ => assignInOrder [bindName C.env x1] [u1]) _ _ _
  refine wpAny_bind (wpAny_holding (wpAny_bindName ?_))
  refine a4.storeNs hk2 O.fn fun s5 a5 => ?_
  show wpAny _ _ (holding [] (bindName C.env x1 u1) >>= fun _ => assignInOrder [] []) _ _ _
  exact wpAny_bind (wpAny_holding (wpAny_bindName (a5.storeNs hk1 O.fn fun s6 a6 => wpAny_pure (wpAny_pure ⟨_, _, [], a6, h⟩))))
theorem unpack_l (O : Ok C) {ds : List PyData} {v : Value} {Q : List Value → Shared → Prop} {E : Value → Shared → Prop} (a : At C ρ μ ((v, dList ds) :: τ) s)
    (h : ∀ vs s', vs.length = ds.length → At C ρ μ (vs.zip (ds.map .dat) ++ τ) s' → Q vs s') : wpAny (MC C) C.A (unpackItems v ds.length none) Q E s := by
  obtain ⟨l, vs, rfl, h1, h2⟩ := holds_list a.top
  have hl := h2.length
  rw [List.length_map] at hl
  have hl' : ds.length = vs.toArray.size := by simp [hl]
  rw [hl']
  refine unpackItems_list O.hh h1 fun h' ext => ?_
  have a2 := a.ext (Sub.extBut ext) s.toks
  refine h _ _ (by simpa using hl) (At.pushAll [_] _ a2 fun g sg tm => ?_)
  refine items_push ?_
  simpa using items_of sg (tm _ (.head _)) (isList_mono (Sub.extBut ext) h1)
/-- a list, taken apart -/
theorem Tx.assignL (O : Ok C) {ds : List PyData} {k : Nat} (xs : List (Str × Pos)) (p : PE C ρ μ e (dList ds)) (hl : xs.length = ds.length) (hk : ∀ p ∈ xs, C.env.kindOf p.1 = some .local) (h : P .next (bindAll ((xs.map (·.1)).zip ds) ρ) μ [])
    (hs : swapsWithSole [.Tuple (nameEs xs) k xp] e pos.line C.env = pure false := by rfl) (hw : swappedStores [.Tuple (nameEs xs) k xp] e C.env = pure none := by rfl) : Tx C ρ μ (.Assign [.Tuple (nameEs xs) k xp] e pos) P := fun τ s E a =>
  Assign_Tuple (hs := hs) (hw := hw) (p τ s _ E a fun v s1 a1 => by
    show wpAny _ _ (standAt xp >>= fun _ => unpack v (assignEach (nameEs xs) C.env)) _ _ _
    refine wpAny_bind (wpAny_standAt ?_)
    unfold unpack
    rw [assignEach_names]
    have e1 : (xs.map fun p => (false, PySem.assign (.Name p.1 p.2) C.env)).length = ds.length := by simp [hl]
    have e2 : (xs.map fun p => (false, PySem.assign (.Name p.1 p.2) C.env)).findIdx? (·.1) = none := by
      rw [List.findIdx?_eq_none_iff]; simp
    rw [e1, e2]
    refine wpAny_bind (wpAny_holding (unpack_l O a1 fun vs s1 hv a1 => ?_))
    rw [List.map_map]
    exact assign_order O xs ds vs ρ τ s1 _ hl hv hk a1 fun s2 a2 => ⟨_, _, [], a2, h⟩)
end

/-! ## the words of a shown path -/
noncomputable abbrev Wd := Bool × Int × Option Int
noncomputable def render (w : Wd) : Str := (if w.1 then Str.ofString "(" else ⟨#[]⟩) ++ strI w.2.1 ++ (match w.2.2 with | none => ⟨#[]⟩ | some m => Str.ofString ")*" ++ strI m)
noncomputable def restOf (w : Wd) : Str := render (false, w.2)
noncomputable def goodW (w : Wd) : Bool := five.contains w.2.1 && (match w.2.2 with | none => true | some m => decide (2 ≤ m) && decide (m ≤ 15))
noncomputable def allW : List Wd := [false, true].flatMap fun o => five.flatMap fun n => (none :: ((List.range 14).map fun (m : Nat) => some ((m : Int) + 2))).map fun m => (o, n, m)
theorem good_mem {w : Wd} (h : goodW w = true) : w ∈ allW := by
  obtain ⟨o, n, m⟩ := w
  simp only [goodW, Bool.and_eq_true, List.contains_iff_mem] at h
  unfold allW
  rw [List.mem_flatMap]
  refine ⟨o, by cases o <;> simp, ?_⟩
  rw [List.mem_flatMap]
  refine ⟨n, h.1, ?_⟩
  rw [List.mem_map]
  refine ⟨m, ?_, rfl⟩
  cases m with
  | none => simp
  | some m =>
    have := h.2
    simp only [Bool.and_eq_true, decide_eq_true_eq] at this
    refine .tail _ (List.mem_map.mpr ⟨(m - 2).toNat, ?_, ?_⟩)
    · rw [List.mem_range]; (first | decide | assumption | omega)
    · congr 1; (first | decide | assumption | omega)
noncomputable def wordFacts (w : Wd) : Bool :=
  ((Txt.slice (render w) none (some 1) == Str.ofString "(") == w.1) && (if w.1 then Txt.slice (render w) (some 1) none == restOf w else render w == restOf w) && (occIn (Str.ofString ")*") (restOf w) == w.2.2.isSome) &&
  (match w.2.2 with
    | none => decide (PySem.intText? (restOf w) = some w.2.1)
    | some m => (Txt.split (restOf w) (Str.ofString ")*") == [strI w.2.1, strI m]) && decide (PySem.intText? (strI w.2.1) = some w.2.1) && decide (PySem.intText? (strI m) = some m) && decide ((strI m).length ≤ 10)) && decide ((render w).length ≤ 30) && decide ((restOf w).length ≤ 30) && decide ((strI w.2.1).length ≤ 10)
noncomputable def rowW (o : Bool) (n : Int) : List Wd := (none :: ((List.range 14).map fun (m : Nat) => some ((m : Int) + 2))).map fun m => (o, n, m)
theorem facts_false10 : (rowW false 10).all wordFacts = true := by decide +kernel
theorem facts_false20 : (rowW false 20).all wordFacts = true := by decide +kernel
theorem facts_false30 : (rowW false 30).all wordFacts = true := by decide +kernel
theorem facts_false40 : (rowW false 40).all wordFacts = true := by decide +kernel
theorem facts_false50 : (rowW false 50).all wordFacts = true := by decide +kernel
theorem facts_true10 : (rowW true 10).all wordFacts = true := by decide +kernel
theorem facts_true20 : (rowW true 20).all wordFacts = true := by decide +kernel
theorem facts_true30 : (rowW true 30).all wordFacts = true := by decide +kernel
theorem facts_true40 : (rowW true 40).all wordFacts = true := by decide +kernel
theorem facts_true50 : (rowW true 50).all wordFacts = true := by decide +kernel
theorem allW_rows : allW = [false, true].flatMap fun o => five.flatMap fun n => rowW o n := rfl
theorem facts_all : allW.all wordFacts = true := by
  rw [allW_rows]
  simp only [five, List.flatMap_cons, List.flatMap_nil, List.all_append, List.all_nil, facts_false10, facts_false20, facts_false30, facts_false40, facts_false50, facts_true10, facts_true20, facts_true30, facts_true40, facts_true50, Bool.and_true]
end Mine
namespace Mine
open PySem PySem.W PySem.Calls PySem.Spec PyProof.Rows PySem.SeqAt

/-! ## _law_read -/
noncomputable abbrev RdS := List Int × List Int × Bool
noncomputable def rdW (st : RdS) (w : Wd) : RdS :=
  let g := if w.1 then [] else st.2.1
  let wi := if w.1 then true else st.2.2
  match w.2.2 with
  | some m => (st.1 ++ (List.replicate m.toNat (g ++ [w.2.1])).flatten, g, false)
  | none => if wi then (st.1, g ++ [w.2.1], wi) else (st.1 ++ [w.2.1], g, wi)
noncomputable def readW (ws : List Wd) : List Int := (ws.foldl rdW ([], [], false)).1
theorem rdW_grow (st : RdS) (w : Wd) (hw : goodW w = true) {i : Nat} (hi : i < 100) (h1 : st.2.1.length ≤ i) (h2 : st.1.length ≤ i * 1520) : (rdW st w).2.1.length ≤ i + 1 ∧ (rdW st w).1.length ≤ (i + 1) * 1520 := by
  obtain ⟨o, n, m⟩ := w
  simp only [goodW, Bool.and_eq_true] at hw
  have hg : (if o = true then ([] : List Int) else st.2.1).length ≤ i := by split <;> simp [h1]
  cases m with
  | none =>
    have key : ∀ (g : List Int) (b : Bool), g.length ≤ i → (if b = true then (st.1, g ++ [n], b) else (st.1 ++ [n], g, b)).2.1.length ≤ i + 1 ∧ (if b = true then (st.1, g ++ [n], b) else (st.1 ++ [n], g, b)).1.length ≤ (i + 1) * 1520 := by
      intro g b hg
      cases b <;> simp <;> (first | decide | assumption | omega)
    exact key _ _ hg
  | some m =>
    have hm := hw.2
    simp only [Bool.and_eq_true, decide_eq_true_eq] at hm
    simp only [rdW, List.length_append, List.length_flatten, List.map_replicate, List.sum_replicate_nat, List.length_cons, List.length_nil]
    refine ⟨by (first | decide | assumption | omega), ?_⟩
    have : m.toNat * ((if o = true then ([] : List Int) else st.2.1).length + (0 + 1)) ≤ 15 * 101 := Nat.mul_le_mul (by (first | decide | assumption | omega)) (by (first | decide | assumption | omega))
    (first | decide | assumption | omega)
theorem fold_grow : ∀ (ws : List Wd) (st : RdS) (i : Nat), (∀ w ∈ ws, goodW w = true) → i + ws.length ≤ 100 → st.2.1.length ≤ i → st.1.length ≤ i * 1520 → (ws.foldl rdW st).2.1.length ≤ i + ws.length ∧ (ws.foldl rdW st).1.length ≤ (i + ws.length) * 1520
  | [], st, i, _, _, h1, h2 => ⟨h1, h2⟩
  | w :: ws, st, i, hw, hi, h1, h2 => by
    simp only [List.length_cons] at hi
    have := rdW_grow st w (hw w (.head _)) (i := i) (by (first | decide | assumption | omega)) h1 h2
    have := fold_grow ws (rdW st w) (i + 1) (fun v hv => hw v (.tail _ hv)) (by (first | decide | assumption | omega)) this.1 this.2
    simp only [List.foldl_cons, List.length_cons]
    rw [show i + (ws.length + 1) = i + 1 + ws.length by (first | decide | assumption | omega)]
    exact this
theorem word_facts {w : Wd} (h : goodW w = true) : wordFacts w = true := List.all_eq_true.mp facts_all w (good_mem h)

section
variable {C : Cx} {ρ : Vs} {μ μ' : Ms} {e tgt : Expr} {st : Stmt} {rest : List Stmt} {P : Post}
theorem Tr.seq (M : Vs → Ms → Prop) (h : Tx C ρ μ st (fun f ρ' μ' _ => f = .next ∧ M ρ' μ')) (k : ∀ ρ' μ', M ρ' μ' → Tr C ρ' μ' rest P) : Tr C ρ μ (st :: rest) P := Tr.cons (Tx.mono h fun f ρ' μ' τ' ⟨e, m⟩ => by subst e; exact k _ _ m)
theorem CmpR.eqS (x y : Str) : CmpR C ρ μ .Eq (dStr x) (dStr y) (x == y) := fun τ s Q E a c z k => by
  obtain ⟨t, rfl⟩ := holds_str z.top2; obtain ⟨u, rfl⟩ := holds_str z.top
  exact PyProof.Rows.eq_str (k _ z.drop.drop)
theorem CmpR.eqSE {x y : Str} {b : Bool} (h : (x == y) = b) : CmpR C ρ μ .Eq (dStr x) (dStr y) b := by subst h; exact CmpR.eqS x y
theorem CmpR.inSE {x y : Str} {b : Bool} (h : occIn y x = b) : CmpR C ρ μ .In (dStr y) (dStr x) b := by subst h; exact CmpR.inS
theorem srcs_txts {rs : List Str} (p : EV C ρ μ e μ' (dList (txts rs))) : Srcs C ρ μ e tgt μ' rs.length (fun i => dStr (rs.getD i ⟨#[]⟩)) := by
  have := srcs_list (tgt := tgt) p
  rw [show (txts rs).length = rs.length by simp] at this
  exact this.congr fun i hi => by simp [txts, List.getD, List.getElem?_eq_getElem hi]
end
theorem srcs_wds {C : Cx} {ρ : Vs} {μ μ' : Ms} {e tgt : Expr} {rs : List Str} {ws : List Wd} (p : EV C ρ μ e μ' (dList (txts rs))) (h : rs = ws.map render) : Srcs C ρ μ e tgt μ' ws.length (fun i => dStr (render (ws.getD i (false, 0, none)))) := by
  subst h
  have := srcs_txts (tgt := tgt) p
  rw [List.length_map] at this
  exact this.congr fun i hi => by simp [List.getD, List.getElem?_eq_getElem hi]
theorem PE.splitE {C : Cx} {ρ : Vs} {μ : Ms} {e o : Expr} {pos apos : Pos} {x y : Str} {ws : List Str} {pl : Sem Bool} (he : MethShape o "split" apos [e] pos C.env pl) (p0 : PE C ρ μ o (dStr x)) (p : PE C ρ μ e (dStr y)) (h : Txt.split x y = ws) (hy : (y.length == 0) = false) (hx : x.length ≤ 1000000)
    (hs : backTo pos (starEach [e] C.env) = trees [e] C.env := by rfl) : PE C ρ μ (.Call (.Attribute o "split" apos) [e] [] pos) (dList (txts ws)) := h ▸ PE.split (ws := y) he p0 p hy hx hs
theorem zs_snoc (ns : List Int) (n : Int) : (zs ns).map Rk.dat ++ [dInt n] = (zs (ns ++ [n])).map Rk.dat := by simp [zs]
theorem spec_read {Y : Lay} (hY : Y.defs = allDefs) (text : Str) (ws : List Wd) (hs : Txt.split text sp = ws.map render) (hg : ∀ w ∈ ws, goodW w = true) (hn : ws.length ≤ 64) (ht : text.length ≤ 100000) : Spec Y 0 "_law_read" [dStr text] (dInts (readW ws)) := by
  refine spec_fn D__law_read (by rw [hY]; unfold allDefs; simp) ["text"] [("text", dStr text)] (fun _ => []) ?_ rfl ?_ ?_ ?_ ?_ ?_ ?_ ?_ rfl rfl rfl ?_
  · intro vs pm cd doc hl
    obtain ⟨_, rfl⟩ := List.length_eq_one_iff.mp hl
    rfl
  · decide
  · repeat' (first | exact List.forall_mem_nil _ | refine List.forall_mem_cons.mpr ⟨.inl (by (first | rfl | kernel_rfl)), ?_⟩)
  · (first | exact List.nodup_nil | (intro L; exact List.nodup_nil) | (intro L p hp; exact absurd hp (by intro h; cases h)) | (intro L; rfl))
  · (first | exact List.nodup_nil | (intro L; exact List.nodup_nil) | (intro L p hp; exact absurd hp (by intro h; cases h)) | (intro L; rfl))
  · (first | exact List.nodup_nil | (intro L; exact List.nodup_nil) | (intro L p hp; exact absurd hp (by intro h; cases h)) | (intro L; rfl))
  · repeat' (first | exact List.forall_mem_nil _ | refine List.forall_mem_cons.mpr ⟨⟨by (first | rfl | kernel_rfl), by (first | rfl | kernel_rfl)⟩, ?_⟩)
  · (first | exact List.nodup_nil | (intro L; exact List.nodup_nil) | (intro L p hp; exact absurd hp (by intro h; cases h)) | (intro L; rfl))
  · rintro ⟨lay, A, env, h0, g0, s0⟩ L fa cd hlay O hA henv
    subst henv
    cases hlay
    refine Tr.cons ?_
    refine Tx.assign3X O (by (first | rfl | kernel_rfl)) (by (first | rfl | kernel_rfl)) (by (first | rfl | kernel_rfl)) (EXs.cons (EX.list .nil fun lf => EXs.cons (EX.list .nil fun lg => EXs.cons ((PE.bool false _).ex (EXs.nil ⟨_, _, _, rfl, ?_⟩)))))
    refine Tr.cons ?_
    refine Tx.forI O (n := ws.length) (D := fun i => dStr (render (ws.getD i (false, 0, none)))) (fun i ρ μ => ∃ lf lg, ρ = ([("found", .val (.ref lf)), ("group", .val (.ref lg)), ("is_within", dBool ((ws.take i).foldl rdW ([], [], false)).2.2)] : Vs) ∧
      μ = [(lg, .list ((zs ((ws.take i).foldl rdW ([], [], false)).2.1).map .dat)), (lf, .list ((zs ((ws.take i).foldl rdW ([], [], false)).1).map .dat))])
      (ρ0 := [("found", .val (.ref lf)), ("group", .val (.ref lg)), ("is_within", dBool false)]) (μ0 := [(lg, .list []), (lf, .list [])]) ?_ (fun p hp => ?_) ?_ (fun i hi ρ1 μ1 hI => ?_) (fun ρ1 μ1 hI => ?_)
    · exact srcs_wds (PE.ev (PE.splitE rfl (PE.name O (by (first | rfl | kernel_rfl)) (by (first | rfl | kernel_rfl)) (by (first | rfl | kernel_rfl))) (PE.str _ _) hs (by decide +kernel) (by (first | decide | assumption | omega)))) rfl
    · revert p; (repeat' (first | exact List.forall_mem_nil _ | refine List.forall_mem_cons.mpr ⟨by (first | rfl | kernel_rfl), ?_⟩))
    · exact ⟨lf, lg, rfl, rfl⟩
    · obtain ⟨lf, lg, rfl, rfl⟩ := hI
      have hw : goodW (ws.getD i (false, 0, none)) = true := hg _ (by simp [List.getD, List.getElem?_eq_getElem hi])
      have hgr := fold_grow (ws.take i) ([], [], false) 0 (fun w hw => hg w (List.mem_of_mem_take hw)) (by simp; (first | decide | assumption | omega)) (by simp) (by simp)
      have e0 : (ws.take (i + 1)).foldl rdW ([], [], false) = rdW ((ws.take i).foldl rdW ([], [], false)) (ws.getD i (false, 0, none)) := by
        rw [take_succ_getD ws (false, 0, none) hi, List.foldl_append]; rfl
      rw [e0]
      have hln : (ws.take i).length ≤ 64 := by simp; (first | decide | assumption | omega)
      generalize (ws.take i).foldl rdW ([], [], false) = st at *
      have F := word_facts hw
      generalize ws.getD i (false, 0, none) = w at *
      obtain ⟨f, g, wi⟩ := st
      obtain ⟨o, n, m⟩ := w
      simp only at hgr ⊢
      simp only [wordFacts, Bool.and_eq_true, beq_iff_eq, decide_eq_true_eq] at F
      obtain ⟨⟨⟨⟨⟨⟨F1, F2⟩, F3⟩, F4⟩, F5⟩, F6⟩, F7⟩ := F
      refine ⟨_, Asg.name O (by (first | rfl | kernel_rfl)), fun ν => ?_⟩
      refine Tr.seq (fun ρ' μ' => ∃ lg', (∀ p ∈ ([("found", .val (.ref lf)), ("group", .val (.ref lg')), ("is_within", dBool (if o then true else wi)), ("word", dStr (restOf (o, n, m)))] : Vs), ρ'.lookup p.1 = some p.2) ∧
        μ' = [(lg', .list ((zs (if o then [] else g)).map .dat)), (lf, .list ((zs f).map .dat))] ++ ν) ?_ (fun ρ' μ' hM => ?_)
      · refine Tx.ite (b := o) (PT.cmp (PE.sliceTo (PE.name O (by (first | rfl | kernel_rfl)) (by (first | rfl | kernel_rfl)) (by (first | rfl | kernel_rfl))) (PE.int 1 _) (by (first | decide | assumption | omega))) (PE.str _ _) ?_) (fun hb => ?_) (fun hb => ?_)
        · exact CmpR.eqSE F1
        · subst hb
          simp only [if_true] at F2
          refine Tr.cons ?_
          refine Tx.assign3X O (by (first | rfl | kernel_rfl)) (by (first | rfl | kernel_rfl)) (by (first | rfl | kernel_rfl)) (EXs.cons (EX.list .nil fun lg' => EXs.cons ((PE.bool true _).ex (EXs.cons ((PE.sliceFromS (PE.name O (by (first | rfl | kernel_rfl)) (by (first | rfl | kernel_rfl)) (by (first | rfl | kernel_rfl))) (PE.int 1 _) (by (first | decide | assumption | omega))).ex (EXs.nil ⟨_, _, _, rfl, ?_⟩))))))
          refine Tr.sub (μ' := (lg', .list []) :: (lf, .list ((zs f).map .dat)) :: ν) (.cons_cons _ (.cons _ (List.Sublist.refl _))) (Tr.nil ⟨rfl, lg', ?_, rfl⟩)
          rw [← beq_iff_eq.mp F2]
          (repeat' (first | exact List.forall_mem_nil _ | refine List.forall_mem_cons.mpr ⟨by (first | rfl | kernel_rfl), ?_⟩))
        · subst hb
          exact Tr.nil ⟨rfl, lg, by (repeat' (first | exact List.forall_mem_nil _ | refine List.forall_mem_cons.mpr ⟨by (first | rfl | kernel_rfl), ?_⟩)), rfl⟩
      · obtain ⟨lg', hv, rfl⟩ := hM
        refine Tr.vars hv ?_
        refine Tr.cons (Tx.ite (b := m.isSome) ?_ (fun hb => ?_) (fun hb => ?_))
        · exact PT.cmp (PE.str _ _) (PE.name O (by (first | rfl | kernel_rfl)) (by (first | rfl | kernel_rfl)) (by (first | rfl | kernel_rfl))) (CmpR.inSE F3)
        · obtain ⟨k, rfl⟩ := Option.isSome_iff_exists.mp hb
          simp only [Bool.and_eq_true, beq_iff_eq, decide_eq_true_eq] at F4
          obtain ⟨⟨⟨F41, F42⟩, F43⟩, F44⟩ := F4
          have hk := hw
          simp only [goodW, Bool.and_eq_true, decide_eq_true_eq] at hk
          have hgl : (if o = true then ([] : List Int) else g).length ≤ 64 := by
            split
            · simp
            · (first | decide | assumption | omega)
          have er : rdW (f, g, wi) (o, n, some k) = (f ++ (List.replicate k.toNat ((if o = true then [] else g) ++ [n])).flatten, (if o = true then [] else g), false) := rfl
          rw [er]
          generalize (if o = true then [] else g) = g' at *
          have hrep : ((List.replicate k.toNat (g' ++ [n])).flatten).length ≤ 15 * 65 := by
            simp only [List.length_flatten, List.map_replicate, List.sum_replicate_nat, List.length_append, List.length_cons, List.length_nil]
            exact Nat.mul_le_mul (by (first | decide | assumption | omega)) (by (first | decide | assumption | omega))
          have hsz : (g' ++ [n]).length * k.toNat ≤ 2 ^ 20 := by
            simp only [List.length_append, List.length_cons, List.length_nil]
            exact Nat.le_trans (Nat.mul_le_mul (show _ ≤ 65 by (first | decide | assumption | omega)) (show _ ≤ 15 by (first | decide | assumption | omega))) (by decide)
          refine Tr.cons ?_
          refine Tx.assignL O (ds := [.str (strI n), .str (strI k)]) [("last", _), ("many", _)] ?_ rfl (by (repeat' (first | exact List.forall_mem_nil _ | refine List.forall_mem_cons.mpr ⟨by (first | rfl | kernel_rfl), ?_⟩))) ?_
          · exact PE.splitE (ws := [strI n, strI k]) rfl (PE.name O (by (first | rfl | kernel_rfl)) (by (first | rfl | kernel_rfl)) (by (first | rfl | kernel_rfl))) (PE.str _ _) F41 (by decide +kernel) (by (first | decide | assumption | omega))
          refine Tr.cons ?_
          refine Tx.assign2X O (by (first | rfl | kernel_rfl)) (by (first | rfl | kernel_rfl)) (EXs.cons (EX.addM (rs1 := (zs f).map .dat) (rs2 := (zs (List.replicate k.toNat (g' ++ [n])).flatten).map .dat) (PE.name O (by (first | rfl | kernel_rfl)) (by (first | rfl | kernel_rfl)) (by (first | rfl | kernel_rfl)))
            (PE.mulL (ns := g' ++ [n]) (k := k) (e1 := .BinOp _ _ _ _) ?_ (PE.intOf O (PE.name O (by (first | rfl | kernel_rfl)) (by (first | rfl | kernel_rfl)) (by (first | rfl | kernel_rfl))) (by (first | rfl | kernel_rfl)) F43 (by (first | decide | assumption | omega))) (by (first | decide | assumption | omega)) (by (first | decide | assumption | omega)) hsz) (.inr ⟨lf, rfl, .tail _ (.head _)⟩) (.inl ⟨_, rfl, rfl⟩) (by simp only [List.length_map] at hgr ⊢; (first | decide | assumption | omega)) fun l' => EXs.cons ((PE.bool false _).ex (EXs.nil ⟨_, _, rfl, ?_⟩))))
          · show PE _ _ _ _ (dList (zs (g' ++ [n])))
            rw [show zs (g' ++ [n]) = zs g' ++ zs [n] by simp [zs]]
            exact PE.addV (ds := zs g') (es := zs [n]) (PE.name O (by (first | rfl | kernel_rfl)) (by (first | rfl | kernel_rfl)) (by (first | rfl | kernel_rfl))) (PE.listD (ds := [.int n]) (.cons (PE.intOf O (PE.name O (by (first | rfl | kernel_rfl)) (by (first | rfl | kernel_rfl)) (by (first | rfl | kernel_rfl))) (by (first | rfl | kernel_rfl)) F42 (by (first | decide | assumption | omega))) .nil)) (.inr ⟨lg', rfl, .head _⟩) (.inl ⟨_, rfl, rfl⟩) (by simp; (first | decide | assumption | omega))
          · refine Tr.sub (μ' := (l', .list ((zs (f ++ (List.replicate k.toNat (g' ++ [n])).flatten)).map .dat)) :: (lg', .list ((zs g').map .dat)) :: ν) ?_ (Tr.perm (List.Perm.swap ..) ?_)
            · rw [show (zs (f ++ (List.replicate k.toNat (g' ++ [n])).flatten)).map Rk.dat = (zs f).map Rk.dat ++ (zs (List.replicate k.toNat (g' ++ [n])).flatten).map Rk.dat by simp only [zs, List.map_append]]
              exact .cons_cons _ (.cons_cons _ (.cons _ (List.Sublist.refl _)))
            · exact Tr.nil (Tr.nil ⟨rfl, _, _, ⟨l', lg', rfl, rfl⟩, by (repeat' (first | exact List.forall_mem_nil _ | refine List.forall_mem_cons.mpr ⟨by (first | rfl | kernel_rfl), ?_⟩)), rfl⟩)
        · cases m with
          | some k => cases hb
          | none =>
          simp only [decide_eq_true_eq] at F4
          have er : rdW (f, g, wi) (o, n, none) = if (if o = true then true else wi) = true then (f, (if o = true then [] else g) ++ [n], (if o = true then true else wi)) else (f ++ [n], (if o = true then [] else g), (if o = true then true else wi)) := rfl
          rw [er]
          have hgl : (if o = true then ([] : List Int) else g).length ≤ 64 := by
            split
            · simp
            · (first | decide | assumption | omega)
          generalize (if o = true then [] else g) = g' at *
          generalize (if o = true then true else wi) = w' at *
          refine Tr.cons (Tx.ite (b := w') (PT.val (PE.name O (by (first | rfl | kernel_rfl)) (by (first | rfl | kernel_rfl)) (by (first | rfl | kernel_rfl)))) (fun hb => ?_) (fun hb => ?_))
          · subst hb
            refine Tr.cons ?_
            refine Tx.append (r := dInt n) O (by (first | rfl | kernel_rfl)) (by (first | rfl | kernel_rfl)) (by (first | rfl | kernel_rfl)) (PE.intOf O (PE.name O (by (first | rfl | kernel_rfl)) (by (first | rfl | kernel_rfl)) (by (first | rfl | kernel_rfl))) (by (first | rfl | kernel_rfl)) F4 (by (first | decide | assumption | omega))) rfl (by simp; (first | decide | assumption | omega)) ?_
            refine Tr.nil (Tr.nil (Tr.nil ⟨rfl, _, _, ⟨lf, lg', rfl, rfl⟩, by (repeat' (first | exact List.forall_mem_nil _ | refine List.forall_mem_cons.mpr ⟨by (first | rfl | kernel_rfl), ?_⟩)), ?_⟩))
            rw [zs_snoc]; rfl
          · subst hb
            refine Tr.perm (List.Perm.swap ..) ?_
            refine Tr.cons ?_
            refine Tx.append (r := dInt n) O (by (first | rfl | kernel_rfl)) (by (first | rfl | kernel_rfl)) (by (first | rfl | kernel_rfl)) (PE.intOf O (PE.name O (by (first | rfl | kernel_rfl)) (by (first | rfl | kernel_rfl)) (by (first | rfl | kernel_rfl))) (by (first | rfl | kernel_rfl)) F4 (by (first | decide | assumption | omega))) rfl (by simp; (first | decide | assumption | omega)) ?_
            refine Tr.perm (List.Perm.swap ..) ?_
            refine Tr.nil (Tr.nil (Tr.nil ⟨rfl, _, _, ⟨lf, lg', rfl, rfl⟩, by (repeat' (first | exact List.forall_mem_nil _ | refine List.forall_mem_cons.mpr ⟨by (first | rfl | kernel_rfl), ?_⟩)), ?_⟩))
            rw [zs_snoc]; rfl
    · obtain ⟨lf, lg, rfl, rfl⟩ := hI
      rw [List.take_length]
      refine Tr.sub (μ' := [(lf, .list ((zs (ws.foldl rdW ([], [], false)).1).map .dat))]) (by simp) ?_
      refine Tr.freezeL (x := "found") (by (first | rfl | kernel_rfl)) ?_
      exact Tr.cons (Tx.ret (PE.name O (by (first | rfl | kernel_rfl)) (by (first | rfl | kernel_rfl)) (by (first | rfl | kernel_rfl))) (fun v => (show ∃ u, Flow.ret v = Flow.ret u ∧ (u, _) ∈ [(v, _)] from ⟨v, rfl, List.Mem.head _⟩)))
end Mine
namespace Mine
open PySem PySem.W PySem.Calls PySem.Spec PyProof.Rows PySem.SeqAt

/-! ## _law_round_right -/
noncomputable def repL (n : Nat) (xs : List Int) : List Int := (List.replicate n xs).flatten
theorem repL_len (n : Nat) (xs : List Int) : (repL n xs).length = n * xs.length := by simp [repL]
noncomputable def goneRound (word : List Int) (many t : Nat) : List Int := word.drop t ++ repL (many - 1) word ++ word.take t
noncomputable def perOk (path : List Int) (s : Nat) : Bool := decide (path.length % s = 0) && decide (repL (path.length / s) (path.take s) = path)
noncomputable def perGo (path : List Int) : Nat → Nat → Nat
  | 0, s => s
  | f + 1, s => if perOk path s then s else perGo path f (s + 1)
noncomputable def perL (path : List Int) : Nat := perGo path path.length 1
noncomputable def roundRight (path : List Int) : Bool := decide (roundsL path = [(path.take (perL path), ((path.length / perL path : Nat) : Int))])
theorem perOk_all {path : List Int} (h : path ≠ []) : perOk path path.length = true := by
  have : 0 < path.length := List.length_pos_iff.mpr h
  simp [perOk, Nat.div_self this, repL]
theorem fmod_nat (a b : Nat) : ((a : Int).fmod (b : Int)) = ((a % b : Nat) : Int) := by
  rw [Int.fmod_eq_emod_of_nonneg _ (by (first | decide | assumption | omega))]; simp
theorem fdiv_nat (a b : Nat) : ((a : Int).fdiv (b : Int)) = ((a / b : Nat) : Int) := by
  rw [Int.fdiv_eq_ediv_of_nonneg _ (by (first | decide | assumption | omega))]; simp
section
variable {C : Cx} {ρ : Vs} {μ : Ms} {e1 e2 : Expr} {pos : Pos} {i j : Nat}
theorem PE.modN (p1 : PE C ρ μ e1 (dInt i)) (p2 : PE C ρ μ e2 (dInt j)) (hj : 1 ≤ j) : PE C ρ μ (.BinOp e1 .Mod e2 pos) (dInt (i % j : Nat)) := by
  have := PE.mod (pos := pos) p1 p2 (by (first | decide | assumption | omega))
  rwa [fmod_nat] at this
theorem PE.divN (p1 : PE C ρ μ e1 (dInt i)) (p2 : PE C ρ μ e2 (dInt j)) (hj : 1 ≤ j) (hj2 : j ≤ 1000000) : PE C ρ μ (.BinOp e1 .FloorDiv e2 pos) (dInt (i / j : Nat)) := by
  have := PE.fdiv (pos := pos) p1 p2 (by (first | decide | assumption | omega)) (div_small (by (first | decide | assumption | omega)))
  rwa [fdiv_nat] at this
theorem PE.repN {ns : List Int} {k : Int} {n : Nat} (p1 : PE C ρ μ e1 (dInts ns)) (p2 : PE C ρ μ e2 (dInt k)) (hk : k = n) (h1 : n ≤ 1000) (h2 : ns.length ≤ 1000) : PE C ρ μ (.BinOp e1 .Mult e2 pos) (dInts (repL n ns)) := by
  subst hk
  exact PE.mulL (k := n) p1 p2 (by (first | decide | assumption | omega)) (by (first | decide | assumption | omega)) (Nat.le_trans (Nat.mul_le_mul h2 (show (n : Int).toNat ≤ 1000 by (first | decide | assumption | omega))) (by decide))
theorem PE.addI {ns ms : List Int} (p1 : PE C ρ μ e1 (dInts ns)) (p2 : PE C ρ μ e2 (dInts ms)) (hn : ns.length + ms.length ≤ 1000000) : PE C ρ μ (.BinOp e1 .Add e2 pos) (dInts (ns ++ ms)) := by
  have := PE.addL (pos := pos) p1 p2 (by simpa using hn)
  rw [show zs ns ++ zs ms = zs (ns ++ ms) by simp [zs]] at this
  exact this
end

theorem spec_round_right {Y : Lay} (hY : Y.defs = allDefs) (word : List Int) (many t : Nat) (hw : 1 ≤ word.length) (hw2 : word.length ≤ 4) (hm : 2 ≤ many) (hm2 : many ≤ 4) (ht : t ≤ word.length) :
    Spec Y 3 "_law_round_right" [dInts word, dInt many, dInt t] (dBool (roundRight (goneRound word many t))) := by
  refine spec_fn D__law_round_right (by rw [hY]; unfold allDefs; simp) ["word", "many", "turn"] [("word", dInts word), ("many", dInt many), ("turn", dInt t)] (fun _ => []) ?_ rfl ?_ ?_ ?_ ?_ ?_ ?_ ?_ rfl rfl rfl ?_
  · intro vs pm cd doc hl
    obtain ⟨_, _, _, rfl⟩ := len3 hl
    rfl
  · decide
  · repeat' (first | exact List.forall_mem_nil _ | refine List.forall_mem_cons.mpr ⟨.inl (by (first | rfl | kernel_rfl)), ?_⟩)
  · (first | exact List.nodup_nil | (intro L; exact List.nodup_nil) | (intro L p hp; exact absurd hp (by intro h; cases h)) | (intro L; rfl))
  · (first | exact List.nodup_nil | (intro L; exact List.nodup_nil) | (intro L p hp; exact absurd hp (by intro h; cases h)) | (intro L; rfl))
  · (first | exact List.nodup_nil | (intro L; exact List.nodup_nil) | (intro L p hp; exact absurd hp (by intro h; cases h)) | (intro L; rfl))
  · repeat' (first | exact List.forall_mem_nil _ | refine List.forall_mem_cons.mpr ⟨⟨by (first | rfl | kernel_rfl), by (first | rfl | kernel_rfl)⟩, ?_⟩)
  · (first | exact List.nodup_nil | (intro L; exact List.nodup_nil) | (intro L p hp; exact absurd hp (by intro h; cases h)) | (intro L; rfl))
  · rintro ⟨lay, A, env, h0, g0, s0⟩ L fa cd hlay O hA henv
    subst henv
    cases hlay
    have hlen : (goneRound word many t).length = many * word.length := by
      simp only [goneRound, List.length_append, List.length_drop, List.length_take, repL_len]
      have : many * word.length = (many - 1) * word.length + word.length := by
        obtain ⟨k, rfl⟩ : ∃ k, many = k + 1 := ⟨many - 1, by (first | decide | assumption | omega)⟩
        rw [Nat.add_mul]; simp
      (first | decide | assumption | omega)
    have hmul : (many - 1) * word.length ≤ 3 * 4 := Nat.mul_le_mul (by (first | decide | assumption | omega)) hw2
    have hmul2 : many * word.length ≤ 4 * 4 := Nat.mul_le_mul hm2 hw2
    have hpos : 1 ≤ many * word.length := Nat.mul_pos (by (first | decide | assumption | omega)) hw
    refine Tr.cons (Tx.assign O (r := dInts (goneRound word many t)) (PE.addI (PE.addI (PE.sliceI (PE.name O (by (first | rfl | kernel_rfl)) (by (first | rfl | kernel_rfl)) (by (first | rfl | kernel_rfl))) (.some (PE.name O (by (first | rfl | kernel_rfl)) (by (first | rfl | kernel_rfl)) (by (first | rfl | kernel_rfl)))) .none .none (by simp) (by (first | decide | assumption | omega)) (pickL_from word t)) (PE.repN (n := many - 1) (PE.name O (by (first | rfl | kernel_rfl)) (by (first | rfl | kernel_rfl)) (by (first | rfl | kernel_rfl))) (PE.sub (PE.name O (by (first | rfl | kernel_rfl)) (by (first | rfl | kernel_rfl)) (by (first | rfl | kernel_rfl))) (PE.int 1 _)) (by (first | decide | assumption | omega)) (by (first | decide | assumption | omega)) (by (first | decide | assumption | omega))) (by rw [repL_len]; simp; (first | decide | assumption | omega))) (PE.sliceI (PE.name O (by (first | rfl | kernel_rfl)) (by (first | rfl | kernel_rfl)) (by (first | rfl | kernel_rfl))) .none (.some (PE.name O (by (first | rfl | kernel_rfl)) (by (first | rfl | kernel_rfl)) (by (first | rfl | kernel_rfl)))) .none (by simp) (by (first | decide | assumption | omega)) (pickL_upto word t)) (by simp only [List.length_append, repL_len, List.length_drop, List.length_take]; (first | decide | assumption | omega))) (by (first | rfl | kernel_rfl)) ?_)
    generalize goneRound word many t = path at *
    have hp16 : path.length ≤ 16 := by (first | decide | assumption | omega)
    have hne : path ≠ [] := by intro e; rw [e] at hlen; simp at hlen; (first | decide | assumption | omega)
    refine Tr.cons (Tx.assign O (PE.int 1 _) (by (first | rfl | kernel_rfl)) ?_)
    refine Tr.cons (Tx.while_ O (fun s : Nat => 1 ≤ s ∧ s ≤ path.length ∧ ∃ f, path.length - s + 1 ≤ f ∧ perGo path f s = perL path) (fun s => [("size", dInt s), ("path", dInts path)]) (fun _ => [])
      (fun s => path.length - s) (fun s => !perOk path s) 1 ?_ (by (repeat' (first | exact List.forall_mem_nil _ | refine List.forall_mem_cons.mpr ⟨by (first | rfl | kernel_rfl), ?_⟩))) rfl (fun s hs => ?_) (fun s hs hb => ?_) (fun s hs hb => ?_))
    · exact ⟨Nat.le_refl _, by (first | decide | assumption | omega), path.length, by (first | decide | assumption | omega), rfl⟩
    · obtain ⟨s1, s2, _⟩ := hs
      have hdiv : path.length / s ≤ 16 := Nat.le_trans (Nat.div_le_self _ _) hp16
      have e : (!perOk path s) = (decide (0 < path.length % s) || !decide (repL (path.length / s) (path.take s) = path)) := by
        simp only [perOk, Bool.not_and]
        congr 1
        rw [Bool.eq_iff_iff]; simp; (first | decide | assumption | omega)
      rw [e]
      exact PT.or2 (PT.cmp (PE.modN (PE.lenI O (PE.name O (by (first | rfl | kernel_rfl)) (by (first | rfl | kernel_rfl)) (by (first | rfl | kernel_rfl))) (by (first | rfl | kernel_rfl)) (by (first | decide | assumption | omega))) (PE.name O (by (first | rfl | kernel_rfl)) (by (first | rfl | kernel_rfl)) (by (first | rfl | kernel_rfl))) s1) (PE.int 0 _) (CmpR.gtE (by rw [decide_eq_true_iff]; (first | decide | assumption | omega))))
        (fun _ => PT.cmp (PE.repN (n := path.length / s) (PE.sliceI (PE.name O (by (first | rfl | kernel_rfl)) (by (first | rfl | kernel_rfl)) (by (first | rfl | kernel_rfl))) .none (.some (PE.name O (by (first | rfl | kernel_rfl)) (by (first | rfl | kernel_rfl)) (by (first | rfl | kernel_rfl)))) .none (by simp) (by (first | decide | assumption | omega)) (pickL_upto path s)) (PE.divN (PE.lenI O (PE.name O (by (first | rfl | kernel_rfl)) (by (first | rfl | kernel_rfl)) (by (first | rfl | kernel_rfl))) (by (first | rfl | kernel_rfl)) (by (first | decide | assumption | omega))) (PE.name O (by (first | rfl | kernel_rfl)) (by (first | rfl | kernel_rfl)) (by (first | rfl | kernel_rfl))) s1 (by (first | decide | assumption | omega))) rfl (by (first | decide | assumption | omega)) (by simp; (first | decide | assumption | omega))) (PE.name O (by (first | rfl | kernel_rfl)) (by (first | rfl | kernel_rfl)) (by (first | rfl | kernel_rfl))) (CmpR.neI O _ _))
    · obtain ⟨s1, s2, f, s3, s4⟩ := hs
      have hb' : perOk path s = false := by simpa using hb
      have hne2 : s ≠ path.length := by rintro rfl; rw [perOk_all hne] at hb'; cases hb'
      refine Tr.cons (Tx.assign O (r := dInt (s + 1 : Nat)) (PE.addE (PE.name O (by (first | rfl | kernel_rfl)) (by (first | rfl | kernel_rfl)) (by (first | rfl | kernel_rfl))) (PE.int 1 _)) (by (first | rfl | kernel_rfl)) ?_)
      refine Tr.nil ⟨rfl, s + 1, ⟨by (first | decide | assumption | omega), by (first | decide | assumption | omega), f - 1, by (first | decide | assumption | omega), ?_⟩, by (first | decide | assumption | omega), by (repeat' (first | exact List.forall_mem_nil _ | refine List.forall_mem_cons.mpr ⟨by (first | rfl | kernel_rfl), ?_⟩)), rfl⟩
      obtain ⟨f, rfl⟩ : ∃ f', f = f' + 1 := ⟨f - 1, by (first | decide | assumption | omega)⟩
      rw [perGo, hb'] at s4
      exact s4
    · obtain ⟨s1, s2, f, s3, s4⟩ := hs
      have hb' : perOk path s = true := by simpa using hb
      have es : s = perL path := by
        obtain ⟨f, rfl⟩ : ∃ f', f = f' + 1 := ⟨f - 1, by (first | decide | assumption | omega)⟩
        rw [perGo, hb'] at s4
        exact s4
      refine Tr.cons (Tx.ret (r := dBool (roundRight path)) ?_ (fun v => (show ∃ u, Flow.ret v = Flow.ret u ∧ (u, _) ∈ [(v, _)] from ⟨v, rfl, List.Mem.head _⟩)))
      unfold roundRight
      rw [← es]
      exact PE.cmp (callF O (by (first | rfl | kernel_rfl)) (d := D_rounds_of) (by rw [show (Cx.lay _).defs = _ from hY]; unfold allDefs; simp) rfl (spec_rounds_of hY path (by (first | decide | assumption | omega))) (hA 2 (by (first | decide | assumption | omega))) (by (first | rfl | kernel_rfl)) (.cons (PE.name O (by (first | rfl | kernel_rfl)) (by (first | rfl | kernel_rfl)) (by (first | rfl | kernel_rfl))) .nil) (by simp) rfl)
        (PE.listD (ds := rnds [(path.take s, ((path.length / s : Nat) : Int))]) (.cons (PE.tuple (ds := [.list (zs (path.take s)), .int (path.length / s : Nat)]) _ (.cons (PE.sliceI (PE.name O (by (first | rfl | kernel_rfl)) (by (first | rfl | kernel_rfl)) (by (first | rfl | kernel_rfl))) .none (.some (PE.name O (by (first | rfl | kernel_rfl)) (by (first | rfl | kernel_rfl)) (by (first | rfl | kernel_rfl)))) .none (by simp) (by (first | decide | assumption | omega)) (pickL_upto path s)) (.cons (PE.divN (PE.lenI O (PE.name O (by (first | rfl | kernel_rfl)) (by (first | rfl | kernel_rfl)) (by (first | rfl | kernel_rfl))) (by (first | rfl | kernel_rfl)) (by (first | decide | assumption | omega))) (PE.name O (by (first | rfl | kernel_rfl)) (by (first | rfl | kernel_rfl)) (by (first | rfl | kernel_rfl))) s1 (by (first | decide | assumption | omega))) .nil))) .nil))
        (CmpR.eqR O (roundsL path) [(path.take s, ((path.length / s : Nat) : Int))])
end Mine
namespace Mine
open PySem PySem.W PySem.Calls PySem.Spec PyProof.Rows PySem.SeqAt

section
variable {K β : Type} [DecidableEq K]
theorem lookP_none {f : List (K × β)} {k : K} (h : k ∉ f.map (·.1)) : lookP f k = none := by
  unfold lookP
  rw [Option.map_eq_none_iff, List.find?_eq_none]
  intro x hx
  simp only [decide_eq_true_eq]
  exact fun e => h (List.mem_map.mpr ⟨x, hx, e⟩)
theorem lookP_mid {f1 f2 : List (K × β)} {k : K} {v : β} (h : k ∉ f1.map (·.1)) : lookP (f1 ++ (k, v) :: f2) k = some v := by
  unfold lookP
  rw [List.find?_append]
  have : f1.find? (fun x => decide (x.1 = k)) = none := by
    rw [List.find?_eq_none]
    intro x hx
    simp only [decide_eq_true_eq]
    exact fun e => h (List.mem_map.mpr ⟨x, hx, e⟩)
  rw [this]
  simp
theorem map_out {f : List (K × β)} {k : K} {n : β} (h : k ∉ f.map (·.1)) : f.map (fun x => if x.1 = k then (x.1, n) else x) = f := by
  conv => rhs; rw [← List.map_id f]
  apply List.map_congr_left
  intro x hx
  rw [if_neg]; rfl
  exact fun e => h (List.mem_map.mpr ⟨x, hx, e⟩)
theorem putP_none {f : List (K × β)} {k : K} {n : β} (h : k ∉ f.map (·.1)) : putP f k n = f ++ [(k, n)] := by
  unfold putP
  rw [if_neg]
  intro h2
  obtain ⟨x, hx, e⟩ := List.any_eq_true.mp h2
  exact h (List.mem_map.mpr ⟨x, hx, by simpa using e⟩)
theorem putP_mid {f1 f2 : List (K × β)} {k : K} {v n : β} (h1 : k ∉ f1.map (·.1)) (h2 : k ∉ f2.map (·.1)) : putP (f1 ++ (k, v) :: f2) k n = f1 ++ (k, n) :: f2 := by
  unfold putP
  rw [if_pos (List.any_eq_true.mpr ⟨(k, v), by simp, by simp⟩), List.map_append, List.map_cons, map_out h1, map_out h2]
  simp
theorem key_split {f : List (K × β)} (hn : (f.map (·.1)).Nodup) {k : K} (h : k ∈ f.map (·.1)) : ∃ f1 v f2, f = f1 ++ (k, v) :: f2 ∧ k ∉ f1.map (·.1) ∧ k ∉ f2.map (·.1) := by
  obtain ⟨⟨k', v⟩, hx, rfl⟩ := List.mem_map.mp h
  obtain ⟨f1, f2, rfl⟩ := List.append_of_mem hx
  rw [List.map_append, List.map_cons, List.nodup_append, List.nodup_cons] at hn
  exact ⟨f1, v, f2, rfl, fun hm => hn.2.2 _ hm _ (.head _) rfl, hn.2.1.1⟩
theorem lookR_eq (f : List (K × Rk)) (k : K) : lookR f k = lookP f k := rfl
theorem putR_eq (f : List (K × Rk)) (k : K) (r : Rk) : putR f k r = putP f k r := rfl
end
section
variable {C : Cx} {ρ : Vs} {μ : Ms} {e e1 e2 o : Expr} {r q : Rk} {pos np apos xp sp tp : Pos} {x : Str} {P : Post} {K : Type} [DecidableEq K] {δ : DKC C K} {kvs : List (K × Rk)} {k : K}
theorem PE.neg (i : Int) {kk : Nat} {p1 p2 : Pos} : PE C ρ μ (.UnaryOp .USub (.Constant (.int i) kk p1) p2) (dInt (-i)) := fun τ s Q E a h =>
  lit_neg Q fun v tk hv => h _ _ (At.push (s := { s with toks := tk }) (a.toks tk) fun g _ _ => ⟨[], hv g⟩)
theorem Tx.setX {d : Addr} {i v : Expr} (O : Ok C) (hx : ρ.lookup x = some (.val (.ref d))) (hk : C.env.kindOf x = some .local) (hd : (x == ("__debug__" : Str)) = false) (hn : kvs.length ≤ 100000)
    (p : EX C ρ μ v fun r μ' => ∃ μ1, ((d, dictM δ kvs) :: μ1).Perm μ' ∧ PE C ρ ((d, dictM δ kvs) :: μ1) i (.dat (δ.enc k)) ∧ P .next ρ ((d, dictM δ (putR kvs k r)) :: μ1) [])
    (hs : swapsWith v (some (.Subscript (.Name x xp) i tp)) pos.line C.env = pure false := by rfl) :
    Tx C ρ μ (.Assign [.Subscript (.Name x xp) i tp] v pos) P := fun τ s E a =>
  wpAny_Assign_Subscript (hs := hs) (p τ s _ E a fun vv s1 r μ' ⟨μ1, hp, pi, h⟩ a1 => (PE.name O hx hk hd) _ s1 _ E (a1.perm hp) fun dv s2 a2 => pi _ s2 _ E a2 fun iv s3 a3 => by
    have e : dv = .ref d := a3.hold (v := dv) (r := .val (.ref d)) (by simp)
    subst e
    obtain ⟨hsm, g, m, S, V, T⟩ := a3
    obtain ⟨⟨o, ho, g', sg, xs, h3, h4⟩, _⟩ := S.mu _ (.head _)
    have h4 := δ.mono sg h4
    have h3 := h3.mono sg
    have ki := T _ (.head _)
    have kv := T (vv, r) (by simp)
    refine δ.set (units O) ho (δ.mono S.keep h4) (ki.mono S.keep) (by rw [h3.length]; exact hn) fun h' t o' ho' hsb ok => ⟨_, _, [], ⟨hsm.next _ _, g, m, S.update hsb ho' (k' := dictM δ (putR kvs k r)) ⟨g, Sub.refl _, _, h3.put kv, ok g S.keep h4 ki⟩, V, fun p hp => T p (by simp [show p ∈ τ from hp])⟩, h⟩)
theorem EX.perm {μ' : Ms} {Φ : Rk → Ms → Prop} (hp : μ'.Perm μ) (h : EX C ρ μ' e Φ) : EX C ρ μ e Φ := fun τ s Q E a k => h τ s Q E (a.perm hp) k
end

/-! ## _law_way -/
noncomputable abbrev Lf := List (Int × List Int)
noncomputable def leftStep (f : Lf) (t : List Int) : Lf := putP f (t.getD 0 0) ((lookP f (t.getD 0 0)).getD [] ++ List.replicate (t.getD 2 0).toNat (t.getD 1 0))
noncomputable def leftF (ts : List (List Int)) : Lf := ts.foldl leftStep []
noncomputable def wayGo : Nat → Lf → List Int → List Int → List Int
  | 0, _, _, found => found
  | f + 1, left, pile, found => match pile.getLast? with
    | none => found
    | some top => match ((lookP left top).getD []).getLast? with
      | some g => wayGo f (putP left top ((lookP left top).getD []).dropLast) (pile ++ [g]) found
      | none => wayGo f left pile.dropLast (found ++ [top])
noncomputable def goalsN (f : Lf) : Nat := (f.map fun p => p.2.length).sum
noncomputable def wayF (ts : List (List Int)) (b : Int) : List Int := wayGo (2 * goalsN (leftF ts) + 1) (leftF ts) [b] []
noncomputable def wayL (ts : List (List Int)) (b : Int) : List Int := (wayF ts b).reverse
/-- the goals with their places -/
noncomputable abbrev Qs := List (Int × Addr × List Int)
noncomputable def kvq (q : Qs) : List (Int × Rk) := q.map fun x => (x.1, .val (.ref x.2.1))
noncomputable def muq (q : Qs) : Ms := q.map fun x => (x.2.1, .list ((zs x.2.2).map .dat))
noncomputable def erQ (q : Qs) : Lf := q.map fun x => (x.1, x.2.2)
theorem keys_kvq (q : Qs) : (kvq q).map (·.1) = q.map (·.1) := by simp [kvq]
theorem keys_erQ (q : Qs) : (erQ q).map (·.1) = q.map (·.1) := by simp [erQ]
theorem kvq_app (a b : Qs) : kvq (a ++ b) = kvq a ++ kvq b := by simp [kvq]
theorem muq_app (a b : Qs) : muq (a ++ b) = muq a ++ muq b := by simp [muq]
theorem erQ_app (a b : Qs) : erQ (a ++ b) = erQ a ++ erQ b := by simp [erQ]
/-- a key is there, in one place, or not at all -/
theorem q_cases (q : Qs) (hn : (q.map (·.1)).Nodup) (k : Int) : (∃ q1 a g q2, q = q1 ++ (k, a, g) :: q2 ∧ k ∉ q1.map (·.1) ∧ k ∉ q2.map (·.1)) ∨ k ∉ q.map (·.1) := by
  by_cases h : k ∈ q.map (·.1)
  · obtain ⟨q1, ⟨a, g⟩, q2, e, h1, h2⟩ := key_split hn h
    exact .inl ⟨q1, a, g, q2, e, h1, h2⟩
  · exact .inr h
theorem goalsN_app (a b : Lf) : goalsN (a ++ b) = goalsN a + goalsN b := by simp [goalsN]
theorem goalsN_cons (p : Int × List Int) (b : Lf) : goalsN (p :: b) = p.2.length + goalsN b := by simp [goalsN]
end Mine
namespace Mine
open PySem PySem.W PySem.Calls PySem.Spec PyProof.Rows PySem.SeqAt

theorem leftF_take {ts : List (List Int)} {i : Nat} (hi : i < ts.length) : leftF (ts.take (i + 1)) = leftStep (leftF (ts.take i)) (ts.getD i []) := by
  rw [take_succ_getD ts [] hi]
  simp [leftF]
noncomputable def rowOk (t : List Int) : Prop := ∃ h g m : Int, t = [h, g, m] ∧ 0 ≤ m ∧ m ≤ 20
theorem leftStep_goals (f : Lf) (hn : (f.map (·.1)).Nodup) (t : List Int) (ht : rowOk t) : goalsN (leftStep f t) ≤ goalsN f + 20 ∧ ((leftStep f t).map (·.1)).Nodup ∧ (leftStep f t).length ≤ f.length + 1 := by
  obtain ⟨h, g, m, rfl, m0, m1⟩ := ht
  unfold leftStep
  simp only [List.getD_cons_zero, List.getD_cons_succ]
  by_cases hk : h ∈ f.map (·.1)
  · obtain ⟨f1, v, f2, rfl, h1, h2⟩ := key_split hn hk
    rw [lookP_mid h1, putP_mid h1 h2]
    refine ⟨?_, ?_, by simp⟩
    · simp only [goalsN_app, goalsN_cons, Option.getD_some, List.length_append, List.length_replicate]; (first | decide | assumption | omega)
    · simpa using hn
  · rw [lookP_none hk, putP_none hk]
    refine ⟨?_, ?_, by simp⟩
    · simp [goalsN]; (first | decide | assumption | omega)
    · rw [List.map_append, List.nodup_append]
      exact ⟨hn, by simp, fun a ha b hb e => by simp at hb; subst hb e; exact hk ha⟩
theorem leftF_facts : ∀ (ts : List (List Int)) (f : Lf), (∀ t ∈ ts, rowOk t) → (f.map (·.1)).Nodup → goalsN (ts.foldl leftStep f) ≤ goalsN f + 20 * ts.length ∧ ((ts.foldl leftStep f).map (·.1)).Nodup ∧ (ts.foldl leftStep f).length ≤ f.length + ts.length
  | [], f, _, hn => ⟨by simp, hn, by simp⟩
  | t :: ts, f, h, hn => by
    obtain ⟨h1, h2, h3⟩ := leftStep_goals f hn t (h t (.head _))
    obtain ⟨h4, h5, h6⟩ := leftF_facts ts (leftStep f t) (fun x hx => h x (.tail _ hx)) h2
    simp only [List.foldl_cons, List.length_cons]
    exact ⟨by (first | decide | assumption | omega), h5, by (first | decide | assumption | omega)⟩
theorem zs_app (a b : List Int) : (zs a).map Rk.dat ++ (zs b).map Rk.dat = (zs (a ++ b)).map Rk.dat := by simp [zs]

section
variable {C : Cx} {ρ : Vs} {μ : Ms} {e1 e2 o : Expr} {r r0 q : Rk} {pos apos : Pos} {K : Type} [DecidableEq K] {δ : DKC C K} {kvs : List (K × Rk)} {k : K}
theorem PE.getAt {pl : Sem Bool} (O : Ok C) (p0 : PE C ρ μ o r) (D : DictV C μ δ r kvs) (hk : lookR kvs k = some q) (p1 : PE C ρ μ e1 (.dat (δ.enc k))) (p2 : PE C ρ μ e2 r0) (he : MethShape o "get" apos [e1, e2] pos C.env pl)
    (hs : backTo pos (starEach [e1, e2] C.env) = trees [e1, e2] C.env := by rfl) : PE C ρ μ (.Call (.Attribute o "get" apos) [e1, e2] [] pos) q := by
  have h := PE.get O p0 D p1 p2 he hs
  rw [hk] at h; exact h
theorem PE.getNo {pl : Sem Bool} (O : Ok C) (p0 : PE C ρ μ o r) (D : DictV C μ δ r kvs) (hk : lookR kvs k = none) (p1 : PE C ρ μ e1 (.dat (δ.enc k))) (p2 : PE C ρ μ e2 r0) (he : MethShape o "get" apos [e1, e2] pos C.env pl)
    (hs : backTo pos (starEach [e1, e2] C.env) = trees [e1, e2] C.env := by rfl) : PE C ρ μ (.Call (.Attribute o "get" apos) [e1, e2] [] pos) r0 := by
  have h := PE.get O p0 D p1 p2 he hs
  rw [hk] at h; exact h
end
theorem perm22 {α : Type} (a b c d : α) (R : List α) : (a :: b :: c :: d :: R).Perm (c :: d :: a :: b :: R) := (List.perm_append_comm (l₁ := [a, b]) (l₂ := [c, d])).append_right R
theorem kvq_look {q1 q2 : Qs} {k : Int} {a : Addr} {g : List Int} (h : k ∉ q1.map (·.1)) : lookR (kvq (q1 ++ (k, a, g) :: q2)) k = some (.val (.ref a)) := by
  rw [kvq_app]; exact lookP_mid (by rw [keys_kvq]; exact h)
theorem kvq_no {q : Qs} {k : Int} (h : k ∉ q.map (·.1)) : lookR (kvq q) k = none := lookP_none (by rw [keys_kvq]; exact h)
theorem kvq_put {q1 q2 : Qs} {k : Int} {a a' : Addr} {g g' : List Int} (h1 : k ∉ q1.map (·.1)) (h2 : k ∉ q2.map (·.1)) : putR (kvq (q1 ++ (k, a, g) :: q2)) k (.val (.ref a')) = kvq (q1 ++ (k, a', g') :: q2) := by
  rw [kvq_app, kvq_app]; exact putP_mid (by rw [keys_kvq]; exact h1) (show k ∉ (kvq q2).map (·.1) by rw [keys_kvq]; exact h2)
theorem kvq_new {q : Qs} {k : Int} {a' : Addr} {g' : List Int} (h : k ∉ q.map (·.1)) : putR (kvq q) k (.val (.ref a')) = kvq (q ++ [(k, a', g')]) := by
  rw [kvq_app]; exact putP_none (by rw [keys_kvq]; exact h)
theorem erQ_look {q1 q2 : Qs} {k : Int} {a : Addr} {g : List Int} (h : k ∉ q1.map (·.1)) : lookP (erQ (q1 ++ (k, a, g) :: q2)) k = some g := by
  rw [erQ_app]; exact lookP_mid (by rw [keys_erQ]; exact h)
theorem erQ_no {q : Qs} {k : Int} (h : k ∉ q.map (·.1)) : lookP (erQ q) k = none := lookP_none (by rw [keys_erQ]; exact h)
theorem erQ_put {q1 q2 : Qs} {k : Int} {a a' : Addr} {g g' : List Int} (h1 : k ∉ q1.map (·.1)) (h2 : k ∉ q2.map (·.1)) : putP (erQ (q1 ++ (k, a, g) :: q2)) k g' = erQ (q1 ++ (k, a', g') :: q2) := by
  rw [erQ_app, erQ_app]; exact putP_mid (by rw [keys_erQ]; exact h1) (show k ∉ (erQ q2).map (·.1) by rw [keys_erQ]; exact h2)
theorem erQ_new {q : Qs} {k : Int} {a' : Addr} {g' : List Int} (h : k ∉ q.map (·.1)) : putP (erQ q) k g' = erQ (q ++ [(k, a', g')]) := by
  rw [erQ_app]; exact putP_none (by rw [keys_erQ]; exact h)
theorem flat_one (n : Nat) (g : Int) : (List.replicate n [g]).flatten = List.replicate n g := by
  induction n with
  | zero => rfl
  | succ n ih => rw [List.replicate_succ, List.replicate_succ, List.flatten_cons, ih]; rfl

theorem spec_way {Y : Lay} (hY : Y.defs = allDefs) (ts : List (List Int)) (b : Int) (hts : ∀ t ∈ ts, rowOk t) (hn : ts.length ≤ 20) : Spec Y 0 "_law_way" [dList (tups ts), dInt b] (dInts (wayL ts b)) := by
  refine spec_fn D__law_way (by rw [hY]; unfold allDefs; simp) ["steps", "begin"] [("steps", dList (tups ts)), ("begin", dInt b)] (fun _ => []) ?_ rfl ?_ ?_ ?_ ?_ ?_ ?_ ?_ rfl rfl rfl ?_
  · intro vs pm cd doc hl
    obtain ⟨_, _, rfl⟩ := len2 hl
    rfl
  · decide
  · repeat' (first | exact List.forall_mem_nil _ | refine List.forall_mem_cons.mpr ⟨.inl (by (first | rfl | kernel_rfl)), ?_⟩)
  · (first | exact List.nodup_nil | (intro L; exact List.nodup_nil) | (intro L p hp; exact absurd hp (by intro h; cases h)) | (intro L; rfl))
  · (first | exact List.nodup_nil | (intro L; exact List.nodup_nil) | (intro L p hp; exact absurd hp (by intro h; cases h)) | (intro L; rfl))
  · (first | exact List.nodup_nil | (intro L; exact List.nodup_nil) | (intro L p hp; exact absurd hp (by intro h; cases h)) | (intro L; rfl))
  · repeat' (first | exact List.forall_mem_nil _ | refine List.forall_mem_cons.mpr ⟨⟨by (first | rfl | kernel_rfl), by (first | rfl | kernel_rfl)⟩, ?_⟩)
  · (first | exact List.nodup_nil | (intro L; exact List.nodup_nil) | (intro L p hp; exact absurd hp (by intro h; cases h)) | (intro L; rfl))
  · rintro ⟨lay, A, env, h0, g0, s0⟩ L fa cd hlay O hA henv
    subst henv
    cases hlay
    refine Tr.cons ?_
    refine Tx.assign3X O (by (first | rfl | kernel_rfl)) (by (first | rfl | kernel_rfl)) (by (first | rfl | kernel_rfl)) (EXs.cons (EX.dict0 (intK lay.prog lay.w) fun d => EXs.cons (EX.list (.cons (PE.name O (by (first | rfl | kernel_rfl)) (by (first | rfl | kernel_rfl)) (by (first | rfl | kernel_rfl))) .nil) fun lp => EXs.cons (EX.list .nil fun lf => EXs.nil ⟨_, _, _, rfl, ?_⟩))))
    refine Tr.cons ?_
    refine Tx.forI O (n := ts.length) (D := fun i => dTup (zs (ts.getD i []))) (fun i ρ μ => ∃ q : Qs, (q.map (·.1)).Nodup ∧ erQ q = leftF (ts.take i) ∧ ρ = ([("left", .val (.ref d)), ("pile", .val (.ref lp)), ("found", .val (.ref lf)), ("begin", dInt b)] : Vs) ∧
      μ = (lf, .list []) :: (lp, .list [dInt b]) :: (d, dictM (intK lay.prog lay.w) (kvq q)) :: muq q)
      (ρ0 := [("left", .val (.ref d)), ("pile", .val (.ref lp)), ("found", .val (.ref lf)), ("begin", dInt b)]) (μ0 := [(lf, .list []), (lp, .list [dInt b]), (d, dictM (intK lay.prog lay.w) [])]) (srcs_tups (PE.ev (PE.name O (by (first | rfl | kernel_rfl)) (by (first | rfl | kernel_rfl)) (by (first | rfl | kernel_rfl))))) (by (repeat' (first | exact List.forall_mem_nil _ | refine List.forall_mem_cons.mpr ⟨by (first | rfl | kernel_rfl), ?_⟩))) ⟨[], by simp, rfl, rfl, rfl⟩ (fun i hi ρ1 μ1 hI => ?_) (fun ρ1 μ1 hI => ?_)
    · obtain ⟨q, qn, qe, rfl, rfl⟩ := hI
      obtain ⟨h, g, m, ht, m0, m1⟩ := hts (ts.getD i []) (by simp [List.getD, List.getElem?_eq_getElem hi])
      have hf := leftF_facts (ts.take i) [] (fun t h => hts t (List.mem_of_mem_take h)) (by simp)
      have hql : q.length ≤ 20 := by
        have h1 := hf.2.2
        have : (erQ q).length = q.length := by simp [erQ]
        rw [qe] at this
        simp only [leftF] at this
        simp at h1
        (first | decide | assumption | omega)
      rw [leftF_take hi, ← qe, ht]
      refine ⟨_, Asg.tup (ds := [.int h, .int g, .int m]) O [("here", _), ("there", _), ("many", _)] rfl (by (repeat' (first | exact List.forall_mem_nil _ | refine List.forall_mem_cons.mpr ⟨by (first | rfl | kernel_rfl), ?_⟩))), fun ν => ?_⟩
      rcases q_cases q qn h with ⟨q1, a, gs, q2, rfl, n1, n2⟩ | hno
      · have hg : gs.length ≤ 1000 := by
          have h1 := hf.1
          rw [← leftF, ← qe, erQ_app, goalsN_app, show erQ ((h, a, gs) :: q2) = (h, gs) :: erQ q2 from rfl, goalsN_cons] at h1
          have : (ts.take i).length ≤ 20 := by simp; (first | decide | assumption | omega)
          simp [goalsN] at h1
          (first | decide | assumption | omega)
        refine Tr.cons ?_
        refine Tx.setX (δ := intK lay.prog lay.w) (kvs := kvq (q1 ++ (h, a, gs) :: q2)) (k := h) O (by (first | rfl | kernel_rfl)) (by (first | rfl | kernel_rfl)) (by (first | rfl | kernel_rfl)) (by simp [kvq] at hql ⊢; (first | decide | assumption | omega)) ?_
        refine EX.addM (rs1 := (zs gs).map .dat) (rs2 := (zs (List.replicate m.toNat [g]).flatten).map .dat) (r1 := .val (.ref a))
          (PE.getAt (δ := intK lay.prog lay.w) O (PE.name O (by (first | rfl | kernel_rfl)) (by (first | rfl | kernel_rfl)) (by (first | rfl | kernel_rfl))) (.inr ⟨d, rfl, .tail _ (.tail _ (.head _))⟩) (kvq_look n1) (PE.name O (by (first | rfl | kernel_rfl)) (by (first | rfl | kernel_rfl)) (by (first | rfl | kernel_rfl))) (PE.listD (ds := []) .nil) rfl)
          (PE.mulL (ns := [g]) (PE.listD (ds := [.int g]) (.cons (PE.name O (by (first | rfl | kernel_rfl)) (by (first | rfl | kernel_rfl)) (by (first | rfl | kernel_rfl))) .nil)) (PE.name O (by (first | rfl | kernel_rfl)) (by (first | rfl | kernel_rfl)) (by (first | rfl | kernel_rfl))) (by (first | decide | assumption | omega)) (by (first | decide | assumption | omega)) (by simp; (first | decide | assumption | omega))) (.inr ⟨a, rfl, by simp [muq]⟩) (.inl ⟨_, rfl, rfl⟩) (by simp; (first | decide | assumption | omega)) fun l' => ?_
        refine ⟨(l', .list ((zs gs).map .dat ++ (zs (List.replicate m.toNat [g]).flatten).map .dat)) :: (lf, .list []) :: (lp, .list [dInt b]) :: (muq (q1 ++ (h, a, gs) :: q2) ++ ν), ?_, PE.name O (by (first | rfl | kernel_rfl)) (by (first | rfl | kernel_rfl)) (by (first | rfl | kernel_rfl)), ?_⟩
        · exact (List.perm_middle (l₁ := [(l', _), (lf, _), (lp, _)])).symm
        · rw [kvq_put (g' := gs ++ List.replicate m.toNat g) n1 n2, zs_app, flat_one, muq_app, show muq ((h, a, gs) :: q2) = (a, .list ((zs gs).map .dat)) :: muq q2 from rfl]
          refine Tr.sub (μ' := (d, dictM (intK lay.prog lay.w) (kvq (q1 ++ (h, l', gs ++ List.replicate m.toNat g) :: q2))) :: (l', .list ((zs (gs ++ List.replicate m.toNat g)).map .dat)) :: (lf, .list []) :: (lp, .list [dInt b]) :: (muq q1 ++ muq q2 ++ ν)) ?_ ?_
          · refine .cons_cons _ (.cons_cons _ (.cons_cons _ (.cons_cons _ ?_)))
            rw [List.append_assoc, List.append_assoc]
            exact List.Sublist.append (List.Sublist.refl _) (.cons _ (List.Sublist.refl _))
          refine Tr.perm (μ' := ((lf, .list []) :: (lp, .list [dInt b]) :: (d, dictM (intK lay.prog lay.w) (kvq (q1 ++ (h, l', gs ++ List.replicate m.toNat g) :: q2))) :: muq (q1 ++ (h, l', gs ++ List.replicate m.toNat g) :: q2)) ++ ν) ?_ ?_
          · refine List.Perm.trans ?_ (perm22 _ _ _ _ _)
            refine List.Perm.cons _ (List.Perm.cons _ (List.Perm.cons _ ?_))
            show (muq (q1 ++ (h, l', gs ++ List.replicate m.toNat g) :: q2) ++ ν).Perm _
            rw [muq_app, List.append_assoc, List.append_assoc]
            exact List.perm_middle
          · refine Tr.nil ⟨rfl, _, _, ⟨q1 ++ (h, l', gs ++ List.replicate m.toNat g) :: q2, by simpa using qn, ?_, rfl, rfl⟩, by (repeat' (first | exact List.forall_mem_nil _ | refine List.forall_mem_cons.mpr ⟨by (first | rfl | kernel_rfl), ?_⟩)), rfl⟩
            simp only [leftStep, List.getD_cons_zero, List.getD_cons_succ]
            rw [erQ_look n1, Option.getD_some, erQ_put n1 n2]
      · refine Tr.cons ?_
        refine Tx.setX (δ := intK lay.prog lay.w) (kvs := kvq q) (k := h) O (by (first | rfl | kernel_rfl)) (by (first | rfl | kernel_rfl)) (by (first | rfl | kernel_rfl)) (by simp [kvq] at hql ⊢; (first | decide | assumption | omega)) ?_
        refine EX.addM (rs1 := []) (rs2 := (zs (List.replicate m.toNat [g]).flatten).map .dat) (r1 := dList [])
          (PE.getNo (δ := intK lay.prog lay.w) O (PE.name O (by (first | rfl | kernel_rfl)) (by (first | rfl | kernel_rfl)) (by (first | rfl | kernel_rfl))) (.inr ⟨d, rfl, .tail _ (.tail _ (.head _))⟩) (kvq_no hno) (PE.name O (by (first | rfl | kernel_rfl)) (by (first | rfl | kernel_rfl)) (by (first | rfl | kernel_rfl))) (PE.listD (ds := []) .nil) rfl)
          (PE.mulL (ns := [g]) (PE.listD (ds := [.int g]) (.cons (PE.name O (by (first | rfl | kernel_rfl)) (by (first | rfl | kernel_rfl)) (by (first | rfl | kernel_rfl))) .nil)) (PE.name O (by (first | rfl | kernel_rfl)) (by (first | rfl | kernel_rfl)) (by (first | rfl | kernel_rfl))) (by (first | decide | assumption | omega)) (by (first | decide | assumption | omega)) (by simp; (first | decide | assumption | omega))) (.inl ⟨[], rfl, rfl⟩) (.inl ⟨_, rfl, rfl⟩) (by simp; (first | decide | assumption | omega)) fun l' => ?_
        refine ⟨(l', .list ([] ++ (zs (List.replicate m.toNat [g]).flatten).map .dat)) :: (lf, .list []) :: (lp, .list [dInt b]) :: (muq q ++ ν), ?_, PE.name O (by (first | rfl | kernel_rfl)) (by (first | rfl | kernel_rfl)) (by (first | rfl | kernel_rfl)), ?_⟩
        · exact (List.perm_middle (l₁ := [(l', _), (lf, _), (lp, _)])).symm
        · rw [kvq_new (g' := List.replicate m.toNat g) hno, List.nil_append, flat_one]
          refine Tr.perm (μ' := ((lf, .list []) :: (lp, .list [dInt b]) :: (d, dictM (intK lay.prog lay.w) (kvq (q ++ [(h, l', List.replicate m.toNat g)]))) :: muq (q ++ [(h, l', List.replicate m.toNat g)])) ++ ν) ?_ ?_
          · refine List.Perm.trans ?_ (perm22 _ _ _ _ _)
            refine List.Perm.cons _ (List.Perm.cons _ (List.Perm.cons _ ?_))
            show (muq (q ++ [(h, l', List.replicate m.toNat g)]) ++ ν).Perm _
            rw [muq_app, List.append_assoc]
            exact List.perm_middle
          · refine Tr.nil ⟨rfl, _, _, ⟨q ++ [(h, l', List.replicate m.toNat g)], ?_, ?_, rfl, rfl⟩, by (repeat' (first | exact List.forall_mem_nil _ | refine List.forall_mem_cons.mpr ⟨by (first | rfl | kernel_rfl), ?_⟩)), rfl⟩
            · rw [List.map_append, List.nodup_append]
              exact ⟨qn, by simp, fun a ha b hb e => by simp at hb; subst hb e; exact hno ha⟩
            · simp only [leftStep, List.getD_cons_zero, List.getD_cons_succ]
              rw [erQ_no hno, Option.getD_none, List.nil_append, erQ_new hno]
    · obtain ⟨q, qn, qe, rfl, rfl⟩ := hI
      rw [List.take_length] at qe
      have hf := leftF_facts ts [] hts (by simp)
      have hg0 : goalsN (leftF ts) ≤ 400 := by
        have h1 := hf.1
        simp only [goalsN, List.map_nil, List.sum_nil] at h1
        show goalsN (ts.foldl leftStep []) ≤ 400
        simp only [goalsN]
        (first | decide | assumption | omega)
      refine Tr.cons (Tx.while_ O (fun st : Qs × List Int × List Int => (st.1.map (·.1)).Nodup ∧ st.2.2.length + (2 * goalsN (erQ st.1) + st.2.1.length) ≤ 1000 ∧ ∃ f, 2 * goalsN (erQ st.1) + st.2.1.length ≤ f ∧ wayGo f (erQ st.1) st.2.1 st.2.2 = wayF ts b)
        (fun _ => [("left", .val (.ref d)), ("pile", .val (.ref lp)), ("found", .val (.ref lf))]) (fun st => (lf, .list ((zs st.2.2).map .dat)) :: (lp, .list ((zs st.2.1).map .dat)) :: (d, dictM (intK lay.prog lay.w) (kvq st.1)) :: muq st.1)
        (fun st => 2 * goalsN (erQ st.1) + st.2.1.length) (fun st => decide (0 < st.2.1.length)) (q, [b], []) ?_ (by (repeat' (first | exact List.forall_mem_nil _ | refine List.forall_mem_cons.mpr ⟨by (first | rfl | kernel_rfl), ?_⟩))) rfl (fun st hi => ?_) (fun st hi hb => ?_) (fun st hi hb => ?_))
      · refine ⟨qn, ?_, 2 * goalsN (leftF ts) + 1, ?_, ?_⟩
        · rw [qe]; simp; (first | decide | assumption | omega)
        · rw [qe]; simp
        · rw [qe]; rfl
      · obtain ⟨i1, i2, i3⟩ := hi
        exact PT.cmp (PE.lenV O (PE.name O (by (first | rfl | kernel_rfl)) (by (first | rfl | kernel_rfl)) (by (first | rfl | kernel_rfl))) (.inr ⟨lp, rfl, .tail _ (.head _)⟩) (by (first | rfl | kernel_rfl)) (by simp; (first | decide | assumption | omega))) (PE.int 0 _) (CmpR.gtE (by rw [decide_eq_true_iff]; simp))
      · obtain ⟨q, pile, found⟩ := st
        obtain ⟨i1, i2, f, i3, i4⟩ := hi
        simp only at i1 i2 i3 i4 hb ⊢
        have hb' := of_decide_eq_true hb
        obtain ⟨p', top, rfl⟩ : ∃ p' top, pile = p' ++ [top] := ⟨pile.dropLast, pile.getLast (by intro e; simp [e] at hb'), (List.dropLast_concat_getLast _).symm⟩
        have hidx : ((zs (p' ++ [top])).map Rk.dat)[((p'.length : Nat) : Int).toNat]? = some (dInt top) := by simp [zs]
        obtain ⟨f, rfl⟩ : ∃ f', f = f' + 1 := ⟨f - 1, by simp at i3; (first | decide | assumption | omega)⟩
        rw [wayGo] at i4
        simp only [List.getLast?_append, List.getLast?_singleton, Option.some_or, List.dropLast_append_cons, List.dropLast_singleton, List.append_nil] at i4
        rw [List.length_append] at i2 i3
        simp only [List.length_cons, List.length_nil] at i2 i3
        rcases q_cases q i1 top with ⟨q1, a, gs, q2, rfl, n1, n2⟩ | hno
        · refine Tr.cons (Tx.assign O (r := .val (.ref a)) (PE.getAt (δ := intK lay.prog lay.w) O (PE.name O (by (first | rfl | kernel_rfl)) (by (first | rfl | kernel_rfl)) (by (first | rfl | kernel_rfl))) (.inr ⟨d, rfl, .tail _ (.tail _ (.head _))⟩) (kvq_look n1)
            (PE.itemV (i := (p'.length : Nat)) (PE.name O (by (first | rfl | kernel_rfl)) (by (first | rfl | kernel_rfl)) (by (first | rfl | kernel_rfl))) (.inr ⟨lp, rfl, .tail _ (.head _)⟩) (PE.subE (PE.lenV O (PE.name O (by (first | rfl | kernel_rfl)) (by (first | rfl | kernel_rfl)) (by (first | rfl | kernel_rfl))) (.inr ⟨lp, rfl, .tail _ (.head _)⟩) (by (first | rfl | kernel_rfl)) (by simp; (first | decide | assumption | omega))) (PE.int 1 _) (by simp)) (by (first | decide | assumption | omega)) (by (first | decide | assumption | omega)) hidx) (PE.listD (ds := []) .nil) rfl) (by (first | rfl | kernel_rfl)) ?_)
          have hmem : (a, Mk.list ((zs gs).map .dat)) ∈ ((lf, .list ((zs found).map .dat)) :: (lp, .list ((zs (p' ++ [top])).map .dat)) :: (d, dictM (intK lay.prog lay.w) (kvq (q1 ++ (top, a, gs) :: q2))) :: muq (q1 ++ (top, a, gs) :: q2) : Ms) := by simp [muq]
          have hgl : goalsN (erQ (q1 ++ (top, a, gs) :: q2)) = goalsN (erQ q1) + (gs.length + goalsN (erQ q2)) := by
            rw [erQ_app, goalsN_app, show erQ ((top, a, gs) :: q2) = (top, gs) :: erQ q2 from rfl, goalsN_cons]
          rw [erQ_look n1, Option.getD_some] at i4
          refine Tr.cons (Tx.ite (b := decide (0 < gs.length)) (PT.cmp (PE.lenV O (PE.name O (by (first | rfl | kernel_rfl)) (by (first | rfl | kernel_rfl)) (by (first | rfl | kernel_rfl))) (.inr ⟨a, rfl, hmem⟩) (by (first | rfl | kernel_rfl)) (by simp; (first | decide | assumption | omega))) (PE.int 0 _) (CmpR.gtE (by rw [decide_eq_true_iff]; simp))) (fun hg => ?_) (fun hg => ?_))
          · have hg' := of_decide_eq_true hg
            obtain ⟨g', y, rfl⟩ : ∃ g' y, gs = g' ++ [y] := ⟨gs.dropLast, gs.getLast (by intro e; simp [e] at hg'), (List.dropLast_concat_getLast _).symm⟩
            simp only [List.getLast?_append, List.getLast?_singleton, Option.some_or, List.dropLast_append_cons, List.dropLast_singleton, List.append_nil] at i4
            rw [erQ_put (a' := a) n1 n2] at i4
            have hgl2 : goalsN (erQ (q1 ++ (top, a, g') :: q2)) = goalsN (erQ q1) + (g'.length + goalsN (erQ q2)) := by
              rw [erQ_app, goalsN_app, show erQ ((top, a, g') :: q2) = (top, g') :: erQ q2 from rfl, goalsN_cons]
            rw [hgl, List.length_append, List.length_cons, List.length_nil] at i2 i3
            have hgl3 := hgl
            rw [List.length_append, List.length_cons, List.length_nil] at hgl3
            refine Tr.cons ?_
            refine Tx.assignX O (by (first | rfl | kernel_rfl)) ?_
            refine EX.perm (μ' := (a, .list ((zs g').map .dat ++ [dInt y])) :: ([(lf, .list ((zs found).map .dat)), (lp, .list ((zs (p' ++ [top])).map .dat)), (d, dictM (intK lay.prog lay.w) (kvq (q1 ++ (top, a, g' ++ [y]) :: q2)))] ++ (muq q1 ++ muq q2))) ?_ (EX.pop (PE.name O (by (first | rfl | kernel_rfl)) (by (first | rfl | kernel_rfl)) (by (first | rfl | kernel_rfl))) rfl (by simp; (first | decide | assumption | omega)) ?_)
            · rw [zs_snoc, muq_app, show muq ((top, a, g' ++ [y]) :: q2) = (a, .list ((zs (g' ++ [y])).map .dat)) :: muq q2 from rfl]
              refine List.Perm.symm ?_
              have := List.perm_middle (a := (a, Mk.list ((zs (g' ++ [y])).map .dat))) (l₁ := [(lf, .list ((zs found).map .dat)), (lp, .list ((zs (p' ++ [top])).map .dat)), (d, dictM (intK lay.prog lay.w) (kvq (q1 ++ (top, a, g' ++ [y]) :: q2)))] ++ muq q1) (l₂ := muq q2)
              simpa using this
            refine Tr.perm (μ' := (lp, .list ((zs (p' ++ [top])).map .dat)) :: ([(a, .list ((zs g').map .dat)), (lf, .list ((zs found).map .dat))] ++ ((d, dictM (intK lay.prog lay.w) (kvq (q1 ++ (top, a, g' ++ [y]) :: q2))) :: (muq q1 ++ muq q2)))) ?_ ?_
            · exact (List.perm_middle (l₁ := [(a, _), (lf, _)])).symm
            refine Tr.cons ?_
            refine Tx.append (r := dInt y) O (by (first | rfl | kernel_rfl)) (by (first | rfl | kernel_rfl)) (by (first | rfl | kernel_rfl)) (PE.name O (by (first | rfl | kernel_rfl)) (by (first | rfl | kernel_rfl)) (by (first | rfl | kernel_rfl))) rfl (by simp; (first | decide | assumption | omega)) ?_
            refine Tr.perm (μ' := (lf, .list ((zs found).map .dat)) :: (lp, .list ((zs (p' ++ [top] ++ [y])).map .dat)) :: (d, dictM (intK lay.prog lay.w) (kvq (q1 ++ (top, a, g') :: q2))) :: muq (q1 ++ (top, a, g') :: q2)) ?_ ?_
            · rw [zs_snoc, muq_app, show muq ((top, a, g') :: q2) = (a, .list ((zs g').map .dat)) :: muq q2 from rfl, show kvq (q1 ++ (top, a, g') :: q2) = kvq (q1 ++ (top, a, g' ++ [y]) :: q2) by simp [kvq]]
              have h1 := List.perm_middle (a := (a, Mk.list ((zs g').map .dat))) (l₁ := [(lf, .list ((zs found).map .dat)), (lp, .list ((zs (p' ++ [top] ++ [y])).map .dat)), (d, dictM (intK lay.prog lay.w) (kvq (q1 ++ (top, a, g' ++ [y]) :: q2)))] ++ muq q1) (l₂ := muq q2)
              have h2 := List.perm_middle (a := (lp, Mk.list ((zs (p' ++ [top] ++ [y])).map .dat))) (l₁ := [(a, .list ((zs g').map .dat)), (lf, .list ((zs found).map .dat))]) (l₂ := (d, dictM (intK lay.prog lay.w) (kvq (q1 ++ (top, a, g' ++ [y]) :: q2))) :: (muq q1 ++ muq q2))
              exact (by simpa using h1 : List.Perm _ _).trans (by simpa using h2)
            refine Tr.nil (Tr.nil ⟨rfl, (q1 ++ (top, a, g') :: q2, p' ++ [top] ++ [y], found), ⟨by simpa using i1, ?_, f, ?_, i4⟩, ?_, by (repeat' (first | exact List.forall_mem_nil _ | refine List.forall_mem_cons.mpr ⟨by (first | rfl | kernel_rfl), ?_⟩)), rfl⟩)
            · simp only [hgl2, List.length_append, List.length_cons, List.length_nil]; (first | decide | assumption | omega)
            · simp only [hgl2, List.length_append, List.length_cons, List.length_nil]; (first | decide | assumption | omega)
            · simp only [hgl2, hgl3, List.length_append, List.length_cons, List.length_nil]; (first | decide | assumption | omega)
          · have hg' : gs = [] := List.length_eq_zero_iff.mp (by have := of_decide_eq_false hg; (first | decide | assumption | omega))
            subst hg'
            simp only [List.getLast?_nil] at i4
            refine Tr.cons ?_
            refine Tx.assignX O (by (first | rfl | kernel_rfl)) ?_
            refine EX.perm (μ' := (lp, .list ((zs p').map .dat ++ [dInt top])) :: (lf, .list ((zs found).map .dat)) :: (d, dictM (intK lay.prog lay.w) (kvq (q1 ++ (top, a, []) :: q2))) :: muq (q1 ++ (top, a, []) :: q2)) ?_ (EX.pop (PE.name O (by (first | rfl | kernel_rfl)) (by (first | rfl | kernel_rfl)) (by (first | rfl | kernel_rfl))) rfl (by simp; (first | decide | assumption | omega)) ?_)
            · rw [zs_snoc]; exact List.Perm.swap ..
            refine Tr.perm (List.Perm.swap ..) ?_
            refine Tr.cons ?_
            refine Tx.append (r := dInt top) O (by (first | rfl | kernel_rfl)) (by (first | rfl | kernel_rfl)) (by (first | rfl | kernel_rfl)) (PE.name O (by (first | rfl | kernel_rfl)) (by (first | rfl | kernel_rfl)) (by (first | rfl | kernel_rfl))) rfl (by simp; (first | decide | assumption | omega)) ?_
            refine Tr.nil (Tr.nil ⟨rfl, ((q1 ++ (top, a, []) :: q2), p', found ++ [top]), ⟨i1, by simp only [List.length_append, List.length_cons, List.length_nil]; (first | decide | assumption | omega), f, by simp only; (first | decide | assumption | omega), i4⟩, by simp, by (repeat' (first | exact List.forall_mem_nil _ | refine List.forall_mem_cons.mpr ⟨by (first | rfl | kernel_rfl), ?_⟩)), ?_⟩)
            simp only [zs_snoc]
        · refine Tr.cons (Tx.assign O (r := dList []) (PE.getNo (δ := intK lay.prog lay.w) O (PE.name O (by (first | rfl | kernel_rfl)) (by (first | rfl | kernel_rfl)) (by (first | rfl | kernel_rfl))) (.inr ⟨d, rfl, .tail _ (.tail _ (.head _))⟩) (kvq_no hno)
            (PE.itemV (i := (p'.length : Nat)) (PE.name O (by (first | rfl | kernel_rfl)) (by (first | rfl | kernel_rfl)) (by (first | rfl | kernel_rfl))) (.inr ⟨lp, rfl, .tail _ (.head _)⟩) (PE.subE (PE.lenV O (PE.name O (by (first | rfl | kernel_rfl)) (by (first | rfl | kernel_rfl)) (by (first | rfl | kernel_rfl))) (.inr ⟨lp, rfl, .tail _ (.head _)⟩) (by (first | rfl | kernel_rfl)) (by simp; (first | decide | assumption | omega))) (PE.int 1 _) (by simp)) (by (first | decide | assumption | omega)) (by (first | decide | assumption | omega)) hidx) (PE.listD (ds := []) .nil) rfl) (by (first | rfl | kernel_rfl)) ?_)
          rw [erQ_no hno, Option.getD_none] at i4
          simp only [List.getLast?_nil] at i4
          refine Tr.cons (Tx.ite (b := false) (PT.cmp (PE.lenV O (rs := []) (PE.name O (by (first | rfl | kernel_rfl)) (by (first | rfl | kernel_rfl)) (by (first | rfl | kernel_rfl))) (.inl ⟨[], rfl, rfl⟩) (by (first | rfl | kernel_rfl)) (by simp)) (PE.int 0 _) (CmpR.gtE (by simp))) (fun hg => by cases hg) (fun hg => ?_))
          · skip
            refine Tr.cons ?_
            refine Tx.assignX O (by (first | rfl | kernel_rfl)) ?_
            refine EX.perm (μ' := (lp, .list ((zs p').map .dat ++ [dInt top])) :: (lf, .list ((zs found).map .dat)) :: (d, dictM (intK lay.prog lay.w) (kvq q)) :: muq q) ?_ (EX.pop (PE.name O (by (first | rfl | kernel_rfl)) (by (first | rfl | kernel_rfl)) (by (first | rfl | kernel_rfl))) rfl (by simp; (first | decide | assumption | omega)) ?_)
            · rw [zs_snoc]; exact List.Perm.swap ..
            refine Tr.perm (List.Perm.swap ..) ?_
            refine Tr.cons ?_
            refine Tx.append (r := dInt top) O (by (first | rfl | kernel_rfl)) (by (first | rfl | kernel_rfl)) (by (first | rfl | kernel_rfl)) (PE.name O (by (first | rfl | kernel_rfl)) (by (first | rfl | kernel_rfl)) (by (first | rfl | kernel_rfl))) rfl (by simp; (first | decide | assumption | omega)) ?_
            refine Tr.nil (Tr.nil ⟨rfl, (q, p', found ++ [top]), ⟨i1, by simp only [List.length_append, List.length_cons, List.length_nil]; (first | decide | assumption | omega), f, by simp only; (first | decide | assumption | omega), i4⟩, by simp, by (repeat' (first | exact List.forall_mem_nil _ | refine List.forall_mem_cons.mpr ⟨by (first | rfl | kernel_rfl), ?_⟩)), ?_⟩)
            simp only [zs_snoc]
      · obtain ⟨q, pile, found⟩ := st
        obtain ⟨i1, i2, f, i3, i4⟩ := hi
        simp only at i1 i2 i3 i4 hb ⊢
        have hp : pile = [] := by
          have := of_decide_eq_false hb
          exact List.length_eq_zero_iff.mp (by (first | decide | assumption | omega))
        subst hp
        have e : found = wayF ts b := by
          rw [← i4]; cases f <;> rfl
        refine Tr.freezeL (x := "found") (by (first | rfl | kernel_rfl)) ?_
        refine Tr.cons (Tx.ret (r := dInts (wayL ts b)) (PE.sliceI (PE.name O (by (first | rfl | kernel_rfl)) (by (first | rfl | kernel_rfl)) (by (first | rfl | kernel_rfl))) .none .none (.some (PE.neg 1)) (by decide) (by (first | decide | assumption | omega)) (by rw [pickL_rev, e]; rfl)) (fun v => (show ∃ u, Flow.ret v = Flow.ret u ∧ (u, _) ∈ [(v, _)] from ⟨v, rfl, List.Mem.head _⟩)))
end Mine
namespace Mine
open PySem PySem.W PySem.Calls PySem.Spec PyProof.Rows PySem.SeqAt

section
variable {C : Cx} {ρ : Vs} {μ μ' : Ms} {e e1 e2 e3 tgt : Expr} {es : List Expr} {r : Rk} {pos : Pos} {P : Post}
theorem PE.allT : ∀ {es : List Expr}, es ≠ [] → (∀ e ∈ es, PE C ρ μ e (dBool true)) → PE C ρ μ (.BoolOp .And es pos) (dBool true)
  | [], h, _ => absurd rfl h
  | [e], _, h => fun τ s Q E a k => BoolOp_one (h e (.head _) τ s Q E a k)
  | e1 :: e2 :: es, _, h => fun τ s Q E a k => BoolOp_and (h e1 (.head _) τ s _ E a fun v s1 a1 => by
      have := holds_bool a1.top
      subst this
      refine wpAny_truthy_bool ?_
      simp only [if_true]
      exact PE.allT (es := e2 :: es) (by simp) (fun e he => h e (.tail _ he)) τ s1 Q E a1.drop k)
theorem PE.iteI {b : Bool} {i j : Int} (p : PT C ρ μ e1 b) (p1 : PE C ρ μ e2 (dInt i)) (p2 : PE C ρ μ e3 (dInt j)) : PE C ρ μ (.IfExp e1 e2 e3 pos) (dInt (if b then i else j)) :=
  PE.ite p (fun h => by rw [if_pos h]; exact p1) (fun h => by rw [if_neg (by simp [h])]; exact p2)
theorem PE.itemI {ns : List Int} {i : Int} {n : Nat} (p1 : PE C ρ μ e1 (dInts ns)) (p2 : PE C ρ μ e2 (dInt i)) (hi : i = n) (hn : n < ns.length) (hl : ns.length ≤ 1000000)
    (hs : ∀ o i, subscripted e2 false o i = operate [o, i] (getItem o i) := by intros; rfl) : PE C ρ μ (.Subscript e1 e2 pos) (dInt (ns.getD n 0)) :=
  PE.item p1 p2 (by (first | decide | assumption | omega)) (by (first | decide | assumption | omega)) (by subst hi; simp [List.getD, List.getElem?_eq_getElem hn]) hs
theorem srcs_rows3 {ts : List (List Int)} (h : ∀ t ∈ ts, ∃ a b c, t = [a, b, c]) (p : EV C ρ μ e μ' (dList (tups ts))) : Srcs C ρ μ e tgt μ' ts.length (fun i => dTup [.int ((ts.getD i []).getD 0 0), .int ((ts.getD i []).getD 1 0), .int ((ts.getD i []).getD 2 0)]) :=
  (srcs_tups p).congr fun i hi => by
    obtain ⟨a, b, c, e⟩ := h (ts.getD i []) (by simp [List.getD, List.getElem?_eq_getElem hi])
    rw [e]; rfl
theorem srcs_rows2 {ts : List (List Int)} (h : ∀ t ∈ ts, ∃ a b, t = [a, b]) (p : EV C ρ μ e μ' (dList (tups ts))) : Srcs C ρ μ e tgt μ' ts.length (fun i => dTup [.int ((ts.getD i []).getD 0 0), .int ((ts.getD i []).getD 1 0)]) :=
  (srcs_tups p).congr fun i hi => by
    obtain ⟨a, b, e⟩ := h (ts.getD i []) (by simp [List.getD, List.getElem?_eq_getElem hi])
    rw [e]; rfl
end

section
variable {C : Cx} {ρ : Vs} {μ : Ms}
theorem CmpR.neNE (O : Ok C) {i j : Int} (h : i = j) : CmpR C ρ μ .NotEq (dInt i) (dInt j) false := by
  have := CmpR.neN (ρ := ρ) (μ := μ) O i j
  rwa [decide_eq_true h] at this
theorem CmpR.eqTE (O : Ok C) {x y : List (List Int)} (h : x = y) : CmpR C ρ μ .Eq (dList (tups x)) (dList (tups y)) true := by
  have := CmpR.eqT (ρ := ρ) (μ := μ) O x y
  rwa [decide_eq_true h] at this
theorem CmpR.neTE (O : Ok C) {x y : List (List Int)} (h : x = y) : CmpR C ρ μ .NotEq (dList (tups x)) (dList (tups y)) false := by
  have := CmpR.neT (ρ := ρ) (μ := μ) O x y
  rwa [decide_eq_true h] at this
theorem CmpR.eqRE (O : Ok C) {x y : List (List Int × Int)} (h : x = y) : CmpR C ρ μ .Eq (dList (rnds x)) (dList (rnds y)) true := by
  have := CmpR.eqR (ρ := ρ) (μ := μ) O x y
  rwa [decide_eq_true h] at this
theorem CmpR.eqIE (O : Ok C) {x y : List Int} (h : x = y) : CmpR C ρ μ .Eq (dInts x) (dInts y) true := by
  have := CmpR.eqI (ρ := ρ) (μ := μ) O x y
  rwa [decide_eq_true h] at this
end
/-! ## _law_ways_right -/
noncomputable def lastI (path : List Int) : Int := path.getD (path.length - 1) 0
noncomputable def outF (ts : List (List Int)) : List (Int × Int) := sumF (ts.map fun t => (t.getD 0 0, t.getD 2 0))
noncomputable def intoF (ts : List (List Int)) : List (Int × Int) := sumF (ts.map fun t => (t.getD 1 0, t.getD 2 0))
structure WaysOk (path : List Int) : Prop where
  ne : path ≠ []
  out : ∀ t ∈ countsL path, ((lookP (outF (stepsL path)) (t.getD 0 0)).getD 0) = t.getD 1 0 - (if decide (t.getD 0 0 = lastI path) then 1 else 0)
  into : ∀ t ∈ countsL path, ((lookP (intoF (stepsL path)) (t.getD 0 0)).getD 0) = t.getD 1 0 - (if decide (t.getD 0 0 = path.getD 0 0) then 1 else 0)
  wne : wayL (stepsL path) (path.getD 0 0) ≠ []
  wlen : (wayL (stepsL path) (path.getD 0 0)).length < 64
  first : (wayL (stepsL path) (path.getD 0 0)).getD 0 0 = path.getD 0 0
  last : lastI (wayL (stepsL path) (path.getD 0 0)) = lastI path
  steps : stepsL (wayL (stepsL path) (path.getD 0 0)) = stepsL path
  counts : countsL (wayL (stepsL path) (path.getD 0 0)) = countsL path
theorem stepsL_rows {ns : List Int} : ∀ t ∈ stepsL ns, ∃ a b c, t = [a, b, c] := fun t ht => by
  obtain ⟨p, hp, rfl⟩ := List.mem_map.mp ((sortT_perm _).mem_iff.mp ht)
  exact ⟨_, _, _, rfl⟩
theorem countsL_rows {ns : List Int} : ∀ t ∈ countsL ns, ∃ a b, t = [a, b] := fun t ht => by
  obtain ⟨p, hp, rfl⟩ := List.mem_map.mp ((sortT_perm _).mem_iff.mp ht)
  exact ⟨_, _, rfl⟩
theorem stepsL_len (ns : List Int) : (stepsL ns).length ≤ ns.length := by
  unfold stepsL
  rw [(sortT_perm _).length_eq, List.length_map]; exact stepsF_len ns
theorem countsL_len (ns : List Int) : (countsL ns).length ≤ ns.length := by
  unfold countsL
  rw [(sortT_perm _).length_eq, List.length_map]
  have := sumF_len (ns.map fun n => (n, (1 : Int)))
  simpa [countF] using this

theorem spec_ways_right {Y : Lay} (hY : Y.defs = allDefs) (path : List Int) (hn : path.length ≤ 20) (hr : ∀ t ∈ stepsL path, rowOk t) (W : WaysOk path) : Spec Y 1 "_law_ways_right" [dInts path, dList (tups (stepsL path)), dList (tups (countsL path))] (dBool true) := by
  refine spec_fn D__law_ways_right (by rw [hY]; unfold allDefs; simp) ["path", "steps", "counts"] [("path", dInts path), ("steps", dList (tups (stepsL path))), ("counts", dList (tups (countsL path)))] (fun _ => []) ?_ rfl ?_ ?_ ?_ ?_ ?_ ?_ ?_ rfl rfl rfl ?_
  · intro vs pm cd doc hl
    obtain ⟨_, _, _, rfl⟩ := len3 hl
    rfl
  · decide
  · repeat' (first | exact List.forall_mem_nil _ | refine List.forall_mem_cons.mpr ⟨.inl (by (first | rfl | kernel_rfl)), ?_⟩)
  · (first | exact List.nodup_nil | (intro L; exact List.nodup_nil) | (intro L p hp; exact absurd hp (by intro h; cases h)) | (intro L; rfl))
  · (first | exact List.nodup_nil | (intro L; exact List.nodup_nil) | (intro L p hp; exact absurd hp (by intro h; cases h)) | (intro L; rfl))
  · (first | exact List.nodup_nil | (intro L; exact List.nodup_nil) | (intro L p hp; exact absurd hp (by intro h; cases h)) | (intro L; rfl))
  · repeat' (first | exact List.forall_mem_nil _ | refine List.forall_mem_cons.mpr ⟨⟨by (first | rfl | kernel_rfl), by (first | rfl | kernel_rfl)⟩, ?_⟩)
  · (first | exact List.nodup_nil | (intro L; exact List.nodup_nil) | (intro L p hp; exact absurd hp (by intro h; cases h)) | (intro L; rfl))
  · rintro ⟨lay, A, env, h0, g0, s0⟩ L fa cd hlay O hA henv
    subst henv
    cases hlay
    have hsl := stepsL_len path
    have hcl := countsL_len path
    have hne : 1 ≤ path.length := List.length_pos_iff.mpr W.ne
    have hwne : 1 ≤ (wayL (stepsL path) (path.getD 0 0)).length := List.length_pos_iff.mpr W.wne
    refine Tr.cons (Tx.assign O (r := dictR (intK lay.prog lay.w) (kvi (outF (stepsL path)))) (callF O (by (first | rfl | kernel_rfl)) (d := D__law_summed) (by rw [show (Cx.lay _).defs = _ from hY]; unfold allDefs; simp) rfl (spec_summedN hY ((stepsL path).map fun t => (t.getD 0 0, t.getD 2 0)) (by simp; (first | decide | assumption | omega))) (hA 0 (by (first | decide | assumption | omega))) (by (first | rfl | kernel_rfl))
      (.cons (PE.comp _ O (fun i => [("many", dInt (((stepsL path).getD i []).getD 2 0)), ("there", dInt (((stepsL path).getD i []).getD 1 0)), ("here", dInt (((stepsL path).getD i []).getD 0 0))]) (fun i => .tuple [.int (((stepsL path).getD i []).getD 0 0), .int (((stepsL path).getD i []).getD 2 0)])
        (srcs_rows3 stepsL_rows (PE.ev (PE.name O (by (first | rfl | kernel_rfl)) (by (first | rfl | kernel_rfl)) (by (first | rfl | kernel_rfl))))) (fun L i hi => Asg.tup (ds := [.int (((stepsL path).getD i []).getD 0 0), .int (((stepsL path).getD i []).getD 1 0), .int (((stepsL path).getD i []).getD 2 0)]) (O.comp rfl L) [("here", _), ("there", _), ("many", _)] rfl (by (repeat' (first | exact List.forall_mem_nil _ | refine List.forall_mem_cons.mpr ⟨by (first | rfl | kernel_rfl), ?_⟩))))
        (fun L O2 i hi ν => PE.tuple (ds := [.int (((stepsL path).getD i []).getD 0 0), .int (((stepsL path).getD i []).getD 2 0)]) _ (.cons (PE.name O2 (by (first | rfl | kernel_rfl)) (by (first | rfl | kernel_rfl)) (by (first | rfl | kernel_rfl))) (.cons (PE.name O2 (by (first | rfl | kernel_rfl)) (by (first | rfl | kernel_rfl)) (by (first | rfl | kernel_rfl))) .nil))) (by (first | decide | assumption | omega)) (by rw [prN, List.map_map]; exact range_map_getD (stepsL path) [] fun t => PyData.tuple [.int (t.getD 0 0), .int (t.getD 2 0)])) .nil) (by simp) rfl) (by (first | rfl | kernel_rfl)) ?_)
    refine Tr.cons (Tx.assign O (r := dictR (intK lay.prog lay.w) (kvi (intoF (stepsL path)))) (callF O (by (first | rfl | kernel_rfl)) (d := D__law_summed) (by rw [show (Cx.lay _).defs = _ from hY]; unfold allDefs; simp) rfl (spec_summedN hY ((stepsL path).map fun t => (t.getD 1 0, t.getD 2 0)) (by simp; (first | decide | assumption | omega))) (hA 0 (by (first | decide | assumption | omega))) (by (first | rfl | kernel_rfl))
      (.cons (PE.comp _ O (fun i => [("many", dInt (((stepsL path).getD i []).getD 2 0)), ("there", dInt (((stepsL path).getD i []).getD 1 0)), ("here", dInt (((stepsL path).getD i []).getD 0 0))]) (fun i => .tuple [.int (((stepsL path).getD i []).getD 1 0), .int (((stepsL path).getD i []).getD 2 0)])
        (srcs_rows3 stepsL_rows (PE.ev (PE.name O (by (first | rfl | kernel_rfl)) (by (first | rfl | kernel_rfl)) (by (first | rfl | kernel_rfl))))) (fun L i hi => Asg.tup (ds := [.int (((stepsL path).getD i []).getD 0 0), .int (((stepsL path).getD i []).getD 1 0), .int (((stepsL path).getD i []).getD 2 0)]) (O.comp rfl L) [("here", _), ("there", _), ("many", _)] rfl (by (repeat' (first | exact List.forall_mem_nil _ | refine List.forall_mem_cons.mpr ⟨by (first | rfl | kernel_rfl), ?_⟩))))
        (fun L O2 i hi ν => PE.tuple (ds := [.int (((stepsL path).getD i []).getD 1 0), .int (((stepsL path).getD i []).getD 2 0)]) _ (.cons (PE.name O2 (by (first | rfl | kernel_rfl)) (by (first | rfl | kernel_rfl)) (by (first | rfl | kernel_rfl))) (.cons (PE.name O2 (by (first | rfl | kernel_rfl)) (by (first | rfl | kernel_rfl)) (by (first | rfl | kernel_rfl))) .nil))) (by (first | decide | assumption | omega)) (by rw [prN, List.map_map]; exact range_map_getD (stepsL path) [] fun t => PyData.tuple [.int (t.getD 1 0), .int (t.getD 2 0)])) .nil) (by simp) rfl) (by (first | rfl | kernel_rfl)) ?_)
    refine Tr.cons (Tx.for_ O (n := (countsL path).length) (D := fun i => dTup [.int (((countsL path).getD i []).getD 0 0), .int (((countsL path).getD i []).getD 1 0)])
      (fun i => [("into", dictR (intK lay.prog lay.w) (kvi (intoF (stepsL path)))), ("out", dictR (intK lay.prog lay.w) (kvi (outF (stepsL path)))), ("path", dInts path), ("steps", dList (tups (stepsL path))), ("counts", dList (tups (countsL path)))])
      (fun i => [("many", dInt (((countsL path).getD i []).getD 1 0)), ("line", dInt (((countsL path).getD i []).getD 0 0)), ("into", dictR (intK lay.prog lay.w) (kvi (intoF (stepsL path)))), ("out", dictR (intK lay.prog lay.w) (kvi (outF (stepsL path)))), ("path", dInts path), ("steps", dList (tups (stepsL path))), ("counts", dList (tups (countsL path)))])
      (fun _ => []) (srcs_rows2 countsL_rows (PE.ev (PE.name O (by (first | rfl | kernel_rfl)) (by (first | rfl | kernel_rfl)) (by (first | rfl | kernel_rfl))))) (by (repeat' (first | exact List.forall_mem_nil _ | refine List.forall_mem_cons.mpr ⟨by (first | rfl | kernel_rfl), ?_⟩))) (fun i hi => Asg.tup (ds := [.int (((countsL path).getD i []).getD 0 0), .int (((countsL path).getD i []).getD 1 0)]) O [("line", _), ("many", _)] rfl (by (repeat' (first | exact List.forall_mem_nil _ | refine List.forall_mem_cons.mpr ⟨by (first | rfl | kernel_rfl), ?_⟩)))) (fun i hi ν => ?_) ?_)
    · have ht : (countsL path).getD i [] ∈ countsL path := by simp [List.getD, List.getElem?_eq_getElem hi]
      have ho := W.out _ ht
      have hi2 := W.into _ ht
      generalize (countsL path).getD i [] = t at *
      refine Tr.cons (Tx.ite (b := false) (PT.cmp (PE.getN O (PE.name O (by (first | rfl | kernel_rfl)) (by (first | rfl | kernel_rfl)) (by (first | rfl | kernel_rfl))) (.inl rfl) (PE.name O (by (first | rfl | kernel_rfl)) (by (first | rfl | kernel_rfl)) (by (first | rfl | kernel_rfl))) (PE.int 0 _) rfl) (PE.sub (PE.name O (by (first | rfl | kernel_rfl)) (by (first | rfl | kernel_rfl)) (by (first | rfl | kernel_rfl))) (PE.iteI (b := decide (t.getD 0 0 = lastI path)) (PT.cmp (PE.name O (by (first | rfl | kernel_rfl)) (by (first | rfl | kernel_rfl)) (by (first | rfl | kernel_rfl))) (PE.itemI (n := path.length - 1) (PE.name O (by (first | rfl | kernel_rfl)) (by (first | rfl | kernel_rfl)) (by (first | rfl | kernel_rfl))) (PE.sub (PE.lenI O (PE.name O (by (first | rfl | kernel_rfl)) (by (first | rfl | kernel_rfl)) (by (first | rfl | kernel_rfl))) (by (first | rfl | kernel_rfl)) (by (first | decide | assumption | omega))) (PE.int 1 _)) (by (first | decide | assumption | omega)) (by (first | decide | assumption | omega)) (by (first | decide | assumption | omega))) (CmpR.eqN O _ _)) (PE.int 1 _) (PE.int 0 _))) ?_) (fun h => by cases h) (fun _ => Tr.nil ?_))
      · exact CmpR.neNE O ho
      refine Tr.cons (Tx.ite (b := false) (PT.cmp (PE.getN O (PE.name O (by (first | rfl | kernel_rfl)) (by (first | rfl | kernel_rfl)) (by (first | rfl | kernel_rfl))) (.inl rfl) (PE.name O (by (first | rfl | kernel_rfl)) (by (first | rfl | kernel_rfl)) (by (first | rfl | kernel_rfl))) (PE.int 0 _) rfl) (PE.sub (PE.name O (by (first | rfl | kernel_rfl)) (by (first | rfl | kernel_rfl)) (by (first | rfl | kernel_rfl))) (PE.iteI (b := decide (t.getD 0 0 = path.getD 0 0)) (PT.cmp (PE.name O (by (first | rfl | kernel_rfl)) (by (first | rfl | kernel_rfl)) (by (first | rfl | kernel_rfl))) (PE.itemI (n := 0) (PE.name O (by (first | rfl | kernel_rfl)) (by (first | rfl | kernel_rfl)) (by (first | rfl | kernel_rfl))) (PE.int 0 _) rfl (by (first | decide | assumption | omega)) (by (first | decide | assumption | omega))) (CmpR.eqN O _ _)) (PE.int 1 _) (PE.int 0 _))) ?_) (fun h => by cases h) (fun _ => Tr.nil (Tr.nil ⟨rfl, by (repeat' (first | exact List.forall_mem_nil _ | refine List.forall_mem_cons.mpr ⟨by (first | rfl | kernel_rfl), ?_⟩)), rfl⟩)))
      · exact CmpR.neNE O hi2
    · refine Tr.cons (Tx.assign O (r := dInts (wayL (stepsL path) (path.getD 0 0))) (callF O (by (first | rfl | kernel_rfl)) (d := D__law_way) (by rw [show (Cx.lay _).defs = _ from hY]; unfold allDefs; simp) rfl (spec_way hY (stepsL path) (path.getD 0 0) hr (by (first | decide | assumption | omega))) (hA 0 (by (first | decide | assumption | omega))) (by (first | rfl | kernel_rfl))
        (.cons (PE.name O (by (first | rfl | kernel_rfl)) (by (first | rfl | kernel_rfl)) (by (first | rfl | kernel_rfl))) (.cons (PE.itemI (n := 0) (PE.name O (by (first | rfl | kernel_rfl)) (by (first | rfl | kernel_rfl)) (by (first | rfl | kernel_rfl))) (PE.int 0 _) rfl (by (first | decide | assumption | omega)) (by (first | decide | assumption | omega))) .nil)) (by simp) rfl) (by (first | rfl | kernel_rfl)) ?_)
      have w1 := W.first
      have w2 := W.last
      have w3 := W.steps
      have w4 := W.counts
      have w5 := W.wlen
      generalize wayL (stepsL path) (path.getD 0 0) = way at *
      refine Tr.cons (Tx.ite (b := false || false) (PT.or2 (PT.cmp (PE.itemI (n := 0) (PE.name O (by (first | rfl | kernel_rfl)) (by (first | rfl | kernel_rfl)) (by (first | rfl | kernel_rfl))) (PE.int 0 _) rfl (by (first | decide | assumption | omega)) (by (first | decide | assumption | omega))) (PE.itemI (n := 0) (PE.name O (by (first | rfl | kernel_rfl)) (by (first | rfl | kernel_rfl)) (by (first | rfl | kernel_rfl))) (PE.int 0 _) rfl (by (first | decide | assumption | omega)) (by (first | decide | assumption | omega))) ?_)
        (fun _ => PT.cmp (PE.itemI (n := way.length - 1) (PE.name O (by (first | rfl | kernel_rfl)) (by (first | rfl | kernel_rfl)) (by (first | rfl | kernel_rfl))) (PE.sub (PE.lenI O (PE.name O (by (first | rfl | kernel_rfl)) (by (first | rfl | kernel_rfl)) (by (first | rfl | kernel_rfl))) (by (first | rfl | kernel_rfl)) (by (first | decide | assumption | omega))) (PE.int 1 _)) (by (first | decide | assumption | omega)) (by (first | decide | assumption | omega)) (by (first | decide | assumption | omega))) (PE.itemI (n := path.length - 1) (PE.name O (by (first | rfl | kernel_rfl)) (by (first | rfl | kernel_rfl)) (by (first | rfl | kernel_rfl))) (PE.sub (PE.lenI O (PE.name O (by (first | rfl | kernel_rfl)) (by (first | rfl | kernel_rfl)) (by (first | rfl | kernel_rfl))) (by (first | rfl | kernel_rfl)) (by (first | decide | assumption | omega))) (PE.int 1 _)) (by (first | decide | assumption | omega)) (by (first | decide | assumption | omega)) (by (first | decide | assumption | omega))) ?_)) (fun h => by cases h) (fun _ => Tr.nil ?_))
      · exact CmpR.neNE O w1
      · exact CmpR.neNE O w2
      refine Tr.cons (Tx.ret (r := dBool true) (PE.allT (by simp) (List.forall_mem_cons.mpr ⟨?_, List.forall_mem_cons.mpr ⟨?_, List.forall_mem_nil _⟩⟩)) (fun v => (show ∃ u, Flow.ret v = Flow.ret u ∧ (u, _) ∈ [(v, _)] from ⟨v, rfl, List.Mem.head _⟩)))
      · refine PE.cmp (callF O (by (first | rfl | kernel_rfl)) (d := D_steps_between) (by rw [show (Cx.lay _).defs = _ from hY]; unfold allDefs; simp) rfl (spec_steps hY way w5) (hA 0 (by (first | decide | assumption | omega))) (by (first | rfl | kernel_rfl)) (.cons (PE.name O (by (first | rfl | kernel_rfl)) (by (first | rfl | kernel_rfl)) (by (first | rfl | kernel_rfl))) .nil) (by simp) rfl) (PE.name O (by (first | rfl | kernel_rfl)) (by (first | rfl | kernel_rfl)) (by (first | rfl | kernel_rfl))) ?_
        exact CmpR.eqTE O w3
      · refine PE.cmp (callF O (by (first | rfl | kernel_rfl)) (d := D_counts_of) (by rw [show (Cx.lay _).defs = _ from hY]; unfold allDefs; simp) rfl (spec_counts hY way w5) (hA 0 (by (first | decide | assumption | omega))) (by (first | rfl | kernel_rfl)) (.cons (PE.name O (by (first | rfl | kernel_rfl)) (by (first | rfl | kernel_rfl)) (by (first | rfl | kernel_rfl))) .nil) (by simp) rfl) (PE.name O (by (first | rfl | kernel_rfl)) (by (first | rfl | kernel_rfl)) (by (first | rfl | kernel_rfl))) ?_
        exact CmpR.eqTE O w4
end Mine
namespace Mine
open PySem PySem.W PySem.Calls PySem.Spec PyProof.Rows PySem.SeqAt

section
variable {C : Cx} {ρ : Vs} {μ : Ms} {e e1 e2 e3 : Expr} {r r1 r2 r3 : Rk} {pos np xp : Pos} {x : Str} {P : Post} {op1 op2 : CmpOp}
theorem PT.chain {b c : Bool} (p1 : PE C ρ μ e1 r1) (p2 : PE C ρ μ e2 r2) (p3 : PE C ρ μ e3 r3) (h1 : CmpR C ρ μ op1 r1 r2 b) (h2 : CmpR C ρ μ op2 r2 r3 c)
    (hm : lastMarks [op1, op2] [e2, e3] = false := by with_unfolding_all rfl) : PT C ρ μ (.Compare e1 [op1, op2] [e2, e3] pos) (b && c) := fun τ s Q E a k =>
  isTrue_chain (hm := hm) (p1 τ s _ E a fun v s1 a1 => test_link (p2 _ s1 _ E a1 fun u s2 a2 => h1 ((u, r2) :: τ) s2 _ E v u (a2.tmps fun p hp => by simp at hp ⊢; rcases hp with h | h | h | h <;> simp [h]) fun s3 a3 => wpAny_truthy_bool (by
    cases b with
    | false => simpa using k s3 a3.drop
    | true =>
      simp only [if_true]
      exact test_last (p3 _ s3 _ E a3 fun w s4 a4 => h2 τ s4 _ E u w a4 fun s5 a5 => wpAny_truthy_bool (by simpa using k s5 a5)))))
/-- a cell is filled -/
theorem At.storeC {c : Addr} {k : Mk} {v : Value} {τ : Ts} {s : Shared} {Q : Unit → Shared → Prop} {E : Value → Shared → Prop} (O : Ok C) (hl : C.env.kindOf x = some .cell) (hc : C.env.cells.lookup x = some c) (hk : ∀ g o, k.holds g o → ∃ v0, o.data = .cell v0)
    (a : At C ρ ((c, k) :: μ) ((v, r) :: τ) s) (h : ∀ s', At C ρ ((c, .cell r) :: μ) τ s' → Q () s') : wpAny (MC C) C.A (storeName C.env x v) Q E s := by
  obtain ⟨g, o, sg, tm, ho, hko⟩ := a.mem (.head _)
  obtain ⟨v0, hd⟩ := hk _ _ hko
  refine wpAny_storeName_cell O.fn hl hc ⟨o, ho, hd⟩ fun h' hv hsb => h _ ((a.update (k' := .cell r) hsb (fun g o2 T ho2 hk2 => ?_) s.toks).drop)
  obtain ⟨o', ho', hd'⟩ := hv
  exact ⟨o', ho', v, hd', T (v, r) (.head _)⟩
theorem cellN_is {g : Heap} {o : Obj} (h : cellN.holds g o) : ∃ v0, o.data = .cell v0 := let ⟨_, _, e⟩ := h; ⟨none, e⟩
theorem cell_is {g : Heap} {o : Obj} (h : (Mk.cell r).holds g o) : ∃ v0, o.data = .cell v0 := let ⟨v, e, _⟩ := h; ⟨some v, e⟩
theorem Tx.assignC {c : Addr} {k : Mk} (O : Ok C) (hl : C.env.kindOf x = some .cell) (hc : C.env.cells.lookup x = some c) (hk : ∀ g o, k.holds g o → ∃ v0, o.data = .cell v0) (p : PE C ρ ((c, k) :: μ) e r) (h : P .next ρ ((c, .cell r) :: μ) [])
    (hs : swapsWith e (some (.Name x xp)) pos.line C.env = pure false := by rfl) : Tx C ρ ((c, k) :: μ) (.Assign [.Name x xp] e pos) P := fun τ s E a =>
  wpAny_Assign_Name (hs := hs) (p τ s _ E a fun v s1 a1 => a1.storeC O hl hc hk fun s2 a2 => ⟨_, _, [], a2, h⟩)
end

/-! ## _law_cut_right -/
/-- the parts, as keys and counts -/
noncomputable def keyed (ts : List (List Int)) : List (List Int × Int) := ts.map fun t => ([t.getD 0 0, t.getD 1 0], t.getD 2 0)
noncomputable def partsL (path : List Int) (cut : Nat) : List (List Int) :=
  stepsL (path.take cut) ++ stepsL (path.drop cut) ++ (if 0 < cut ∧ cut < path.length then [[path.getD (cut - 1) 0, path.getD cut 0, 1]] else [])
structure CutOk (path : List Int) (cut : Nat) : Prop where
  whole : sortT ((sumF (keyed (partsL path cut))).map stepT) = stepsL path
  back : stepsL path.reverse = sortT ((stepsL path).map fun t => [t.getD 1 0, t.getD 0 0, t.getD 2 0])

theorem lookP_mem {K β : Type} [DecidableEq K] {f : List (K × β)} (hn : (f.map (·.1)).Nodup) {p : K × β} (h : p ∈ f) : lookP f p.1 = some p.2 := by
  obtain ⟨f1, v, f2, rfl, h1, h2⟩ := key_split hn (List.mem_map.mpr ⟨p, h, rfl⟩)
  rw [lookP_mid h1]
  rcases List.mem_append.mp h with h | h
  · exact absurd (List.mem_map.mpr ⟨p, h, rfl⟩) h1
  · rcases List.mem_cons.mp h with e | h
    · rw [e]
    · exact absurd (List.mem_map.mpr ⟨p, h, rfl⟩) h2
theorem stepsL_nodup (ns : List Int) : (stepsL ns).Nodup := (sortT_perm _).nodup_iff.mpr (stepT_nodup (fun p hp => stepsF_two hp) (sumF_nodup _))
theorem nodup_swap {ts : List (List Int)} (h3 : ∀ t ∈ ts, ∃ a b c, t = [a, b, c]) (hn : ts.Nodup) : (ts.map fun t => [t.getD 1 0, t.getD 0 0, t.getD 2 0]).Nodup := by
  induction ts with
  | nil => simp
  | cons t ts ih =>
    rw [List.nodup_cons] at hn
    rw [List.map_cons, List.nodup_cons]
    refine ⟨fun hm => hn.1 ?_, ih (fun x hx => h3 x (.tail _ hx)) hn.2⟩
    obtain ⟨u, hu, e⟩ := List.mem_map.mp hm
    obtain ⟨a, b, c, rfl⟩ := h3 t (.head _)
    obtain ⟨a', b', c', rfl⟩ := h3 u (.tail _ hu)
    simp only [List.getD_cons_zero, List.getD_cons_succ, List.cons.injEq] at e
    obtain ⟨e1, e2, e3, _⟩ := e
    subst e1 e2 e3
    exact hu
theorem keyed_two {ts : List (List Int)} : ∀ p ∈ sumF (keyed ts), ∃ a b, p.1 = [a, b] := fun p hp => by
  have := sumF_keys _ p hp
  simp only [keyed, List.map_map] at this
  obtain ⟨t, _, e⟩ := List.mem_map.mp this
  exact ⟨_, _, e.symm⟩

theorem spec_cut_right {Y : Lay} (hY : Y.defs = allDefs) (path : List Int) (cut : Nat) (hn : path.length ≤ 20) (hc : cut ≤ path.length) (W : CutOk path cut) : Spec Y 1 "_law_cut_right" [dInts path, dList (tups (stepsL path)), dInt cut] (dBool true) := by
  refine spec_fn D__law_cut_right (by rw [hY]; unfold allDefs; simp) ["path", "steps", "cut"] [("path", dInts path), ("steps", dList (tups (stepsL path))), ("cut", dInt cut)] (fun L => [(L + 1, cellN)]) ?_ rfl ?_ ?_ ?_ ?_ ?_ ?_ ?_ rfl rfl rfl ?_
  · intro vs pm cd doc hl
    obtain ⟨_, _, _, rfl⟩ := len3 hl
    rfl
  · decide
  · repeat' (first | exact List.forall_mem_nil _ | refine List.forall_mem_cons.mpr ⟨.inl (by (first | rfl | kernel_rfl)), ?_⟩)
  · decide
  · intro L
    show ([L + 1] : List Addr).Nodup
    simp
  · intro L p hp
    have hp' : p ∈ [(Str.ofString "whole", L + 1)] := hp
    rw [List.mem_singleton.mp hp']
    show D__law_cut_right.scope.names.lookup (Str.ofString "whole") ≠ some .local
    decide
  · repeat' (first | exact List.forall_mem_nil _ | refine List.forall_mem_cons.mpr ⟨⟨by (first | rfl | kernel_rfl), by (first | rfl | kernel_rfl)⟩, ?_⟩)
  · intro L; (first | rfl | kernel_rfl)
  · rintro ⟨lay, A, env, h0, g0, s0⟩ L fa cd hlay O hA henv
    subst henv
    cases hlay
    have l1 : (path.take cut).length < 64 := by simp; (first | decide | assumption | omega)
    have l2 : (path.drop cut).length < 64 := by simp; (first | decide | assumption | omega)
    have s1 := stepsL_len (path.take cut)
    have s2 := stepsL_len (path.drop cut)
    refine Tr.cons (Tx.assign O (r := dList (tups (stepsL (path.take cut) ++ stepsL (path.drop cut)))) ?_ (by (first | rfl | kernel_rfl)) ?_)
    · rw [show tups (stepsL (path.take cut) ++ stepsL (path.drop cut)) = tups (stepsL (path.take cut)) ++ tups (stepsL (path.drop cut)) by simp [tups]]
      exact PE.addL (callF O (by (first | rfl | kernel_rfl)) (d := D_steps_between) (by rw [show (Cx.lay _).defs = _ from hY]; unfold allDefs; simp) rfl (spec_steps hY (path.take cut) l1) (hA 0 (by (first | decide | assumption | omega))) (by (first | rfl | kernel_rfl)) (.cons (PE.sliceI (PE.name O (by (first | rfl | kernel_rfl)) (by (first | rfl | kernel_rfl)) (by (first | rfl | kernel_rfl))) .none (.some (PE.name O (by (first | rfl | kernel_rfl)) (by (first | rfl | kernel_rfl)) (by (first | rfl | kernel_rfl)))) .none (by simp) (by (first | decide | assumption | omega)) (pickL_upto path cut)) .nil) (by simp) rfl)
        (callF O (by (first | rfl | kernel_rfl)) (d := D_steps_between) (by rw [show (Cx.lay _).defs = _ from hY]; unfold allDefs; simp) rfl (spec_steps hY (path.drop cut) l2) (hA 0 (by (first | decide | assumption | omega))) (by (first | rfl | kernel_rfl)) (.cons (PE.sliceI (PE.name O (by (first | rfl | kernel_rfl)) (by (first | rfl | kernel_rfl)) (by (first | rfl | kernel_rfl))) (.some (PE.name O (by (first | rfl | kernel_rfl)) (by (first | rfl | kernel_rfl)) (by (first | rfl | kernel_rfl)))) .none .none (by simp) (by (first | decide | assumption | omega)) (pickL_from path cut)) .nil) (by simp) rfl) (by simp; (first | decide | assumption | omega))
    refine Tr.seq (fun ρ' μ' => (∀ p ∈ ([("parts", dList (tups (partsL path cut))), ("path", dInts path), ("steps", dList (tups (stepsL path))), ("cut", dInt cut)] : Vs), ρ'.lookup p.1 = some p.2) ∧ μ' = [(L + 1, cellN)]) ?_ (fun ρ' μ' hM => ?_)
    · refine Tx.ite (b := decide (0 < cut) && decide (cut < path.length)) (PT.chain (PE.int 0 _) (PE.name O (by (first | rfl | kernel_rfl)) (by (first | rfl | kernel_rfl)) (by (first | rfl | kernel_rfl))) (PE.lenI O (PE.name O (by (first | rfl | kernel_rfl)) (by (first | rfl | kernel_rfl)) (by (first | rfl | kernel_rfl))) (by (first | rfl | kernel_rfl)) (by (first | decide | assumption | omega))) (CmpR.ltE (by rw [decide_eq_true_iff]; (first | decide | assumption | omega))) (CmpR.ltE (by rw [decide_eq_true_iff]; (first | decide | assumption | omega)))) (fun hb => ?_) (fun hb => ?_)
      · rw [Bool.and_eq_true, decide_eq_true_iff, decide_eq_true_iff] at hb
        have e : partsL path cut = (stepsL (path.take cut) ++ stepsL (path.drop cut)) ++ [[path.getD (cut - 1) 0, path.getD cut 0, 1]] := by rw [partsL, if_pos hb]
        refine Tr.cons (Tx.assign O (r := dList (tups (partsL path cut))) ?_ (by (first | rfl | kernel_rfl)) (Tr.nil ⟨rfl, by (repeat' (first | exact List.forall_mem_nil _ | refine List.forall_mem_cons.mpr ⟨by (first | rfl | kernel_rfl), ?_⟩)), rfl⟩))
        rw [e, show tups ((stepsL (path.take cut) ++ stepsL (path.drop cut)) ++ [[path.getD (cut - 1) 0, path.getD cut 0, 1]]) = tups (stepsL (path.take cut) ++ stepsL (path.drop cut)) ++ tups [[path.getD (cut - 1) 0, path.getD cut 0, 1]] by simp [tups]]
        exact PE.addL (PE.name O (by (first | rfl | kernel_rfl)) (by (first | rfl | kernel_rfl)) (by (first | rfl | kernel_rfl))) (PE.listD (ds := tups [[path.getD (cut - 1) 0, path.getD cut 0, 1]]) (.cons (PE.tuple (ds := [.int (path.getD (cut - 1) 0), .int (path.getD cut 0), .int 1]) _ (.cons (PE.itemI (n := cut - 1) (PE.name O (by (first | rfl | kernel_rfl)) (by (first | rfl | kernel_rfl)) (by (first | rfl | kernel_rfl))) (PE.sub (PE.name O (by (first | rfl | kernel_rfl)) (by (first | rfl | kernel_rfl)) (by (first | rfl | kernel_rfl))) (PE.int 1 _)) (by (first | decide | assumption | omega)) (by (first | decide | assumption | omega)) (by (first | decide | assumption | omega))) (.cons (PE.itemI (n := cut) (PE.name O (by (first | rfl | kernel_rfl)) (by (first | rfl | kernel_rfl)) (by (first | rfl | kernel_rfl))) (PE.name O (by (first | rfl | kernel_rfl)) (by (first | rfl | kernel_rfl)) (by (first | rfl | kernel_rfl))) rfl (by (first | decide | assumption | omega)) (by (first | decide | assumption | omega))) (.cons (PE.int 1 _) .nil)))) .nil)) (by simp; (first | decide | assumption | omega))
      · rw [Bool.and_eq_false_iff, decide_eq_false_iff_not, decide_eq_false_iff_not] at hb
        have e : partsL path cut = stepsL (path.take cut) ++ stepsL (path.drop cut) := by rw [partsL, if_neg (by (first | decide | assumption | omega)), List.append_nil]
        exact Tr.nil ⟨rfl, by rw [e]; (repeat' (first | exact List.forall_mem_nil _ | refine List.forall_mem_cons.mpr ⟨by (first | rfl | kernel_rfl), ?_⟩)), rfl⟩
    obtain ⟨hv, rfl⟩ := hM
    refine Tr.vars hv ?_
    have hpl : (partsL path cut).length ≤ 45 := by
      unfold partsL
      simp only [List.length_append, List.length_take, List.length_drop] at s1 s2 ⊢
      split <;> simp <;> (first | decide | assumption | omega)
    have hp3 : ∀ t ∈ partsL path cut, ∃ a b c, t = [a, b, c] := fun t ht => by
      unfold partsL at ht
      rcases List.mem_append.mp ht with ht | ht
      · rcases List.mem_append.mp ht with ht | ht <;> exact stepsL_rows t ht
      · split at ht
        · exact ⟨_, _, _, List.mem_singleton.mp ht⟩
        · simp at ht
    have W1 := W.whole
    generalize partsL path cut = ts at *
    have hsl := stepsL_len path
    have hF := sumF_len (keyed ts)
    have hFl : (sumF (keyed ts)).length ≤ 45 := by simp [keyed] at hF ⊢; (first | decide | assumption | omega)
    have hk2 := keyed_two (ts := ts)
    have hkn := sumF_nodup (keyed ts)
    refine Tr.cons (Tx.assignC (c := L + 1) O (by (first | rfl | kernel_rfl)) (by (first | rfl | kernel_rfl)) (fun _ _ h => cellN_is h) (r := dictR (tupK lay.prog lay.w) (kvi (sumF (keyed ts)))) (callF O (by (first | rfl | kernel_rfl)) (d := D__law_summed) (by rw [show (Cx.lay _).defs = _ from hY]; unfold allDefs; simp) rfl (spec_summedT hY (keyed ts) (by simp [keyed]; (first | decide | assumption | omega))) (hA 0 (by (first | decide | assumption | omega))) (by (first | rfl | kernel_rfl))
      (.cons (PE.comp _ O (fun i => [("many", dInt ((ts.getD i []).getD 2 0)), ("there", dInt ((ts.getD i []).getD 1 0)), ("here", dInt ((ts.getD i []).getD 0 0))]) (fun i => .tuple [.tuple [.int ((ts.getD i []).getD 0 0), .int ((ts.getD i []).getD 1 0)], .int ((ts.getD i []).getD 2 0)])
        (srcs_rows3 hp3 (PE.ev (PE.name O (by (first | rfl | kernel_rfl)) (by (first | rfl | kernel_rfl)) (by (first | rfl | kernel_rfl))))) (fun L i hi => Asg.tup (ds := [.int ((ts.getD i []).getD 0 0), .int ((ts.getD i []).getD 1 0), .int ((ts.getD i []).getD 2 0)]) (O.comp rfl L) [("here", _), ("there", _), ("many", _)] rfl (by (repeat' (first | exact List.forall_mem_nil _ | refine List.forall_mem_cons.mpr ⟨by (first | rfl | kernel_rfl), ?_⟩))))
        (fun L O2 i hi ν => PE.tuple (ds := [.tuple [.int ((ts.getD i []).getD 0 0), .int ((ts.getD i []).getD 1 0)], .int ((ts.getD i []).getD 2 0)]) _ (.cons (PE.tuple (ds := [.int ((ts.getD i []).getD 0 0), .int ((ts.getD i []).getD 1 0)]) _ (.cons (PE.name O2 (by (first | rfl | kernel_rfl)) (by (first | rfl | kernel_rfl)) (by (first | rfl | kernel_rfl))) (.cons (PE.name O2 (by (first | rfl | kernel_rfl)) (by (first | rfl | kernel_rfl)) (by (first | rfl | kernel_rfl))) .nil))) (.cons (PE.name O2 (by (first | rfl | kernel_rfl)) (by (first | rfl | kernel_rfl)) (by (first | rfl | kernel_rfl))) .nil))) (by (first | decide | assumption | omega)) (by rw [prT, keyed, List.map_map]; exact range_map_getD ts [] fun t => PyData.tuple [.tuple [.int (t.getD 0 0), .int (t.getD 1 0)], .int (t.getD 2 0)])) .nil) (by simp) rfl) ?_)
    generalize sumF (keyed ts) = F at *
    refine Tr.cons (Tx.ite (b := false) (PT.cmp (PE.sorted (ts := F.map stepT) O (PE.comp _ O (fun i => [("pair", dTup (zs (F.getD i ([], 0)).1))]) (fun i => .tuple (zs (stepT (F.getD i ([], 0))))) (srcs_keysT (f := F) O (PE.cell O (by (first | rfl | kernel_rfl)) (by (first | rfl | kernel_rfl)) (.head _) (by (first | rfl | kernel_rfl)))) (fun L i hi => Asg.name (O.comp rfl L) (by (first | rfl | kernel_rfl))) (fun L2 O2 i hi ν => ?_) (by (first | decide | assumption | omega)) ?_) (by (first | rfl | kernel_rfl)) (fun t ht => by obtain ⟨p, _, rfl⟩ := List.mem_map.mp ht; simp [stepT]) (stepT_nodup hk2 hkn) (by simp; (first | decide | assumption | omega))) (PE.name O (by (first | rfl | kernel_rfl)) (by (first | rfl | kernel_rfl)) (by (first | rfl | kernel_rfl))) (CmpR.neTE O W1)) (fun h => by cases h) (fun _ => Tr.nil ?_))
    · have hm : F.getD i ([], 0) ∈ F := by simp [List.getD, List.getElem?_eq_getElem hi]
      obtain ⟨a1, b1, e1⟩ := hk2 _ hm
      have hlk : lookR (kvi F) (F.getD i ([], 0)).1 = some (dInt (F.getD i ([], 0)).2) := by rw [lookR_kvi, lookP_mem hkn hm]; rfl
      clear hm
      generalize F.getD i ([], 0) = p at *
      obtain ⟨k, n⟩ := p
      simp only at e1
      subst e1
      exact PE.addT (ds := zs [a1, b1]) (es := [.int n]) (PE.name O2 (by (first | rfl | kernel_rfl)) (by (first | rfl | kernel_rfl)) (by (first | rfl | kernel_rfl))) (PE.tuple (ds := [.int n]) _ (.cons (PE.dictItem (δ := tupK lay.prog lay.w) (kvs := kvi F) (k := [a1, b1]) (r := dictR (tupK lay.prog lay.w) (kvi F)) O2 (PE.cell O2 (by (first | rfl | kernel_rfl)) (by (first | rfl | kernel_rfl)) (.head _) (by (first | rfl | kernel_rfl))) (.inl rfl) (PE.name O2 (by (first | rfl | kernel_rfl)) (by (first | rfl | kernel_rfl)) (by (first | rfl | kernel_rfl))) hlk) .nil)) (by simp) (by simp) (by simp)
    · rw [tups, List.map_map]; exact range_map_getD F ([], 0) fun p => PyData.tuple (zs (stepT p))
    refine Tr.cons (Tx.ret (r := dBool true) (PE.cmp (callF O (by (first | rfl | kernel_rfl)) (d := D_steps_between) (by rw [show (Cx.lay _).defs = _ from hY]; unfold allDefs; simp) rfl (spec_steps hY path.reverse (by simp; (first | decide | assumption | omega))) (hA 0 (by (first | decide | assumption | omega))) (by (first | rfl | kernel_rfl)) (.cons (PE.sliceI (PE.name O (by (first | rfl | kernel_rfl)) (by (first | rfl | kernel_rfl)) (by (first | rfl | kernel_rfl))) .none .none (.some (PE.neg 1)) (by decide) (by (first | decide | assumption | omega)) (pickL_rev path)) .nil) (by simp) rfl)
      (PE.sorted (ts := (stepsL path).map fun t => [t.getD 1 0, t.getD 0 0, t.getD 2 0]) O (PE.comp _ O (fun i => [("many", dInt (((stepsL path).getD i []).getD 2 0)), ("there", dInt (((stepsL path).getD i []).getD 1 0)), ("here", dInt (((stepsL path).getD i []).getD 0 0))]) (fun i => .tuple [.int (((stepsL path).getD i []).getD 1 0), .int (((stepsL path).getD i []).getD 0 0), .int (((stepsL path).getD i []).getD 2 0)])
        (srcs_rows3 stepsL_rows (PE.ev (PE.name O (by (first | rfl | kernel_rfl)) (by (first | rfl | kernel_rfl)) (by (first | rfl | kernel_rfl))))) (fun L i hi => Asg.tup (ds := [.int (((stepsL path).getD i []).getD 0 0), .int (((stepsL path).getD i []).getD 1 0), .int (((stepsL path).getD i []).getD 2 0)]) (O.comp rfl L) [("here", _), ("there", _), ("many", _)] rfl (by (repeat' (first | exact List.forall_mem_nil _ | refine List.forall_mem_cons.mpr ⟨by (first | rfl | kernel_rfl), ?_⟩))))
        (fun L O2 i hi ν => PE.tuple (ds := [.int (((stepsL path).getD i []).getD 1 0), .int (((stepsL path).getD i []).getD 0 0), .int (((stepsL path).getD i []).getD 2 0)]) _ (.cons (PE.name O2 (by (first | rfl | kernel_rfl)) (by (first | rfl | kernel_rfl)) (by (first | rfl | kernel_rfl))) (.cons (PE.name O2 (by (first | rfl | kernel_rfl)) (by (first | rfl | kernel_rfl)) (by (first | rfl | kernel_rfl))) (.cons (PE.name O2 (by (first | rfl | kernel_rfl)) (by (first | rfl | kernel_rfl)) (by (first | rfl | kernel_rfl))) .nil)))) (by (first | decide | assumption | omega)) (by rw [tups, List.map_map]; exact range_map_getD (stepsL path) [] fun t => PyData.tuple [.int (t.getD 1 0), .int (t.getD 0 0), .int (t.getD 2 0)])) (by (first | rfl | kernel_rfl)) (fun t ht => by obtain ⟨p, _, rfl⟩ := List.mem_map.mp ht; simp) (nodup_swap stepsL_rows (stepsL_nodup path)) (by simp; (first | decide | assumption | omega))) (CmpR.eqTE O W.back)) (fun v => (show ∃ u, Flow.ret v = Flow.ret u ∧ (u, _) ∈ [(v, _)] from ⟨v, rfl, List.Mem.head _⟩)))
end Mine
namespace Mine
open PySem PySem.W PySem.Calls PySem.Spec PyProof.Rows PySem.SeqAt

/-! ## a comprehension with two clauses -/
section
variable {prog : Program} {w : World} {A : Around} {s : Shared} {R : Result → Shared → Prop} {elt t1 i1 t2 i2 : PySem.Expr} {scope : Scope} {pos : Pos} {it acc : Value} {env : Env}
theorem turn_two1 : compTurn (.ListComp elt [⟨t1, i1, [], 0⟩, ⟨t2, i2, [], 0⟩] scope pos) 1 it acc env = (do
      standAt i2.pos
      match ← pyNext it with
      | none => pure (.done .next)
      | some v =>
        letOwnedTupleGo t2 it v
        PySem.assign t2 env v
        let mut ok := true
        for c in ([] : List PySem.Expr) do
          if ok then ok ← isTrue c env (eval c env)
        if ok then
          (do let _ ← call (.builtin "list.append") [acc, ← eval elt env])
        again (.compLoop (.ListComp elt [⟨t1, i1, [], 0⟩, ⟨t2, i2, [], 0⟩] scope pos) 1 it acc env)) := by rfl
theorem turn_two0 : compTurn (.ListComp elt [⟨t1, i1, [], 0⟩, ⟨t2, i2, [], 0⟩] scope pos) 0 it acc env = (do
      standAt i1.pos
      match ← pyNext it with
      | none => pure (.done .next)
      | some v =>
        letOwnedTupleGo t1 it v
        PySem.assign t1 env v
        let mut ok := true
        for c in ([] : List PySem.Expr) do
          if ok then ok ← isTrue c env (eval c env)
        if ok then
          let x ← eval i2 env
          standAt i2.pos
          let x ← foldedSetIterable i2 env x
          let _ ← runOwn (.compStart (.ListComp elt [⟨t1, i1, [], 0⟩, ⟨t2, i2, [], 0⟩] scope pos) 1 (← holding [x] (pyIter x)) acc env) env
        again (.compLoop (.ListComp elt [⟨t1, i1, [], 0⟩, ⟨t2, i2, [], 0⟩] scope pos) 0 it acc env)) := by rfl
noncomputable abbrev NB (prog : Program) (w : World) (A : Around) (env : Env) (R : Result → Shared → Prop) : Value → Shared → Prop := notedBy (model prog w) A env fun e s' => R (.error e) s'
theorem loop_two1 (I : Nat → Shared → Prop)
    (turn : ∀ n s, I n s → wpAny (model prog w) A (pyNext it) (fun r s₁ => match r with
      | none => R (.ok .next) s₁
      | some v => wpAny (model prog w) A (letOwnedTupleGo t2 it v) (fun _ s₀ => wpAny (model prog w) A (PySem.assign t2 env v) (fun _ s₂ =>
          wpAny (model prog w) A (eval elt env) (fun x s₄ => wpAny (model prog w) A (call (.builtin "list.append") [acc, x]) (fun _ s₅ => ∃ m, m < n ∧ I m s₅) (NB prog w A env R) s₄) (NB prog w A env R) s₂) (NB prog w A env R) s₀) (NB prog w A env R) s₁) (NB prog w A env R) s)
    (n : Nat) (h : I n s) : codeAny (model prog w) A (.compLoop (.ListComp elt [⟨t1, i1, [], 0⟩, ⟨t2, i2, [], 0⟩] scope pos) 1 it acc env) R s := by
  refine codeAny_loop rfl I (fun n s hI => ?_) n h
  show wpAny _ A ((compTurn (.ListComp elt [⟨t1, i1, [], 0⟩, ⟨t2, i2, [], 0⟩] scope pos) 1 it acc env).onRaise (fun x => do noteFrame x env; theTreesLotGoes x)) _ _ s
  refine wpAny_noted ?_
  rw [turn_two1]
  refine wpAny_bind (wpAny_standAt (wpAny_bind (wpAny_mono (turn n s hI) (fun r s₁ h₁ => ?_) fun _ _ h' => h')))
  cases r with
  | none => exact wpAny_pure h₁
  | some v =>
    refine wpAny_bind (wpAny_mono h₁ (fun _ s₀ h₀' => ?_) fun _ _ h' => h')
    refine wpAny_bind (wpAny_mono h₀' (fun _ s₂ h₂ => ?_) fun _ _ h' => h')
    refine wpAny_bind (wpAny_tests_nil ?_)
    exact wpAny_bind (wpAny_bind (wpAny_mono h₂ (fun x s₄ h₄ => wpAny_bind (wpAny_mono h₄ (fun _ s₅ h₅ => wpAny_pure (wpAny_pure ⟨rfl, h₅⟩)) fun _ _ h' => h')) fun _ _ h' => h'))
theorem loop_two0 (hf : ∀ x, foldedSetIterable i2 env x = pure x) (I : Nat → Shared → Prop)
    (turn : ∀ n s, I n s → wpAny (model prog w) A (pyNext it) (fun r s₁ => match r with
      | none => R (.ok .next) s₁
      | some v => wpAny (model prog w) A (letOwnedTupleGo t1 it v) (fun _ s₀ => wpAny (model prog w) A (PySem.assign t1 env v) (fun _ s₂ =>
          wpAny (model prog w) A (eval i2 env) (fun x s₄ => wpAny (model prog w) A (pyIter x) (fun it2 s₅ =>
            codeAny (model prog w) (A.mark none) (.compStart (.ListComp elt [⟨t1, i1, [], 0⟩, ⟨t2, i2, [], 0⟩] scope pos) 1 it2 acc env) (fun r s₆ => (∃ f, r = .ok f) ∧ ∃ m, m < n ∧ I m s₆) s₅) (NB prog w A env R) s₄) (NB prog w A env R) s₂) (NB prog w A env R) s₀) (NB prog w A env R) s₁) (NB prog w A env R) s)
    (n : Nat) (h : I n s) : codeAny (model prog w) A (.compLoop (.ListComp elt [⟨t1, i1, [], 0⟩, ⟨t2, i2, [], 0⟩] scope pos) 0 it acc env) R s := by
  refine codeAny_loop rfl I (fun n s hI => ?_) n h
  show wpAny _ A ((compTurn (.ListComp elt [⟨t1, i1, [], 0⟩, ⟨t2, i2, [], 0⟩] scope pos) 0 it acc env).onRaise (fun x => do noteFrame x env; theTreesLotGoes x)) _ _ s
  refine wpAny_noted ?_
  rw [turn_two0]
  refine wpAny_bind (wpAny_standAt (wpAny_bind (wpAny_mono (turn n s hI) (fun r s₁ h₁ => ?_) fun _ _ h' => h')))
  cases r with
  | none => exact wpAny_pure h₁
  | some v =>
    refine wpAny_bind (wpAny_mono h₁ (fun _ s₀ h₀' => ?_) fun _ _ h' => h')
    refine wpAny_bind (wpAny_mono h₀' (fun _ s₂ h₂ => ?_) fun _ _ h' => h')
    refine wpAny_bind (wpAny_tests_nil ?_)
    refine wpAny_bind (wpAny_mono h₂ (fun x s₄ h₄ => ?_) fun _ _ h' => h')
    refine wpAny_bind (wpAny_standAt ?_)
    rw [hf]
    refine wpAny_bind (wpAny_pure (wpAny_bind (wpAny_holding (wpAny_mono h₄ (fun it2 s₅ h₅ => ?_) fun _ _ h' => h'))))
    refine wpAny_bind (wpAny_runOwn (codeAny_mono h₅ fun r s₆ h₆ => ?_) (by intro h; cases h))
    obtain ⟨⟨f, rfl⟩, h7⟩ := h₆
    exact wpAny_pure ⟨rfl, h7⟩
theorem start_two1
    (h0 : codeAny (model prog w) A (.compLoop (.ListComp elt [⟨t1, i1, [], 0⟩, ⟨t2, i2, [], 0⟩] scope pos) 1 it acc env) R s)
    (h : wpAny (model prog w) A (pyIter it) (fun it' s' => codeAny (model prog w) A (.compLoop (.ListComp elt [⟨t1, i1, [], 0⟩, ⟨t2, i2, [], 0⟩] scope pos) 1 it' acc env) R s') (NB prog w A env R) s) :
    codeAny (model prog w) A (.compStart (.ListComp elt [⟨t1, i1, [], 0⟩, ⟨t2, i2, [], 0⟩] scope pos) 1 it acc env) R s := by
  refine codeAny_of_tree ?_
  show wpAny _ _ ((compStart (.ListComp elt [⟨t1, i1, [], 0⟩, ⟨t2, i2, [], 0⟩] scope pos) 1 it acc env).onRaise (fun x => do noteFrame x env; standAt theWindowsPlace)) _ _ s
  refine wpAny_notedAt ?_
  unfold compStart
  show wpAny _ _ (ask >>= _) _ _ s
  refine wpAny_bind (wpAny_askSetting (wpAny_ite ?_))
  split
  · first
      | exact wpAny_bind (wpAny_pure (wpAny_pure (And.intro rfl h0)))
      | exact wpAny_pure (And.intro rfl h0)
  · first
      | exact wpAny_bind (wpAny_rule (wpAny_bind (wpAny_standAt (wpAny_bind (wpAny_mono h (fun it' s' h' => wpAny_pure (And.intro rfl h')) fun _ _ x => x)))))
      | (refine wpAny_bind (wpAny_rule ?_); show wpAny _ _ (standAt i2.pos >>= _) _ _ s; exact wpAny_bind (wpAny_standAt (wpAny_bind (wpAny_mono h (fun it' s' h' => wpAny_pure (And.intro rfl h')) fun _ _ x => x))))
end
end Mine
namespace Mine
open PySem PySem.W PySem.Calls PySem.Spec PyProof.Rows PySem.SeqAt

section
variable {C : Cx} {ρ ρ1 : Vs} {μ : Ms} {τ : Ts} {s : Shared} {elt i1 i2 t1 t2 : PySem.Expr} {pos : Pos} {scope : Scope} {cl : List (Str × Addr)}
theorem inner_loop (O : Ok C) {I D : Addr} {own : Nat → Ms} {τs : Ts} {m : Nat} {Er : Nat → Rk} (src : Src C t2 I own τs m Er) (ρb : Nat → Vs) (ds : List PyData) (fs : Nat → PyData)
    (asg : ∀ j, j < m → Asg C ρ1 t2 (Er j) (ρb j)) (hρ : ∀ j, j < m → ∀ p ∈ ρ1, (ρb j).lookup p.1 = some p.2)
    (turn : ∀ j, j < m → ∀ ν, PE C (ρb j) (μ ++ ν) elt (.dat (fs j))) (hn : ds.length + m ≤ 100000)
    {R : Result → Shared → Prop} (a : At C ρ1 ((D, .list (ds.map .dat)) :: μ ++ own 0) (τs ++ τ) s)
    (h : ∀ s', At C ρ1 ((D, .list ((ds ++ (List.range m).map fs).map .dat)) :: μ) τ s' → R (.ok .next) s') :
    codeAny (MC C) C.A (.compLoop (.ListComp elt [⟨t1, i1, [], 0⟩, ⟨t2, i2, [], 0⟩] scope pos) 1 (.ref I) (.ref D) C.env) R s := by
  refine loop_two1 (fun k s' => ∃ i, i ≤ m ∧ k = m - i ∧ At C ρ1 ((D, .list ((ds ++ (List.range i).map fs).map .dat)) :: μ ++ own i) (τs ++ τ) s') ?_ m ⟨0, Nat.zero_le _, rfl, by simpa using a⟩
  rintro k s' ⟨i, hi, rfl, a'⟩
  by_cases hlt : i < m
  · refine wpAny_mono (src.item i _ _ τ s' (fun v s2 => At C ρ1 ((D, .list ((ds ++ (List.range i).map fs).map .dat)) :: μ ++ own (i + 1)) ((v, Er i) :: (τs ++ τ)) s2) (fun _ _ => False) hlt a' fun v s2 a2 => a2) (fun r s2 h2 => ?_) fun _ _ f => f.elim
    obtain ⟨v, rfl, h2⟩ := h2
    refine wpAny_mono h2 (fun _ s3 a3 => ?_) fun _ _ f => f.elim
    refine wpAny_mono (asg i hlt _ (τs ++ τ) v s3 (fun _ s4 => At C (ρb i) ((D, .list ((ds ++ (List.range i).map fs).map .dat)) :: μ ++ own (i + 1)) (τs ++ τ) s4) (fun _ _ => False) a3 fun s4 a4 => a4) (fun _ s4 a4 => ?_) fun _ _ f => f.elim
    have a5 := a4.perm (μ' := μ ++ ((D, .list ((ds ++ (List.range i).map fs).map .dat)) :: own (i + 1))) (by simpa using List.perm_middle)
    refine wpAny_mono (turn i hlt _ (τs ++ τ) s4 (fun v s5 => At C (ρb i) (μ ++ ((D, .list ((ds ++ (List.range i).map fs).map .dat)) :: own (i + 1))) ((v, .dat (fs i)) :: (τs ++ τ)) s5) (fun _ _ => False) a5 fun v s5 a6 => a6) (fun v s5 a6 => ?_) fun _ _ f => f.elim
    have a7 := a6.perm (μ' := (D, .list ((ds ++ (List.range i).map fs).map .dat)) :: (μ ++ own (i + 1))) (by simpa using List.perm_middle.symm)
    refine wpAny_mono (list_push (Q := fun _ s6 => At C (ρb i) ((D, .list ((ds ++ (List.range i).map fs).map .dat ++ [.dat (fs i)])) :: (μ ++ own (i + 1))) (τs ++ τ) s6) (E := fun _ _ => False) a7 (by simp; (first | decide | assumption | omega)) fun s6 a8 => a8) (fun _ s6 a8 => ?_) fun _ _ f => f.elim
    refine ⟨m - (i + 1), by (first | decide | assumption | omega), i + 1, hlt, rfl, (a8.vars (hρ i hlt)).perm ?_⟩
    rw [List.range_succ]
    simp
  · have : i = m := by (first | decide | assumption | omega)
    subst this
    exact src.done _ _ τ s' _ _ a' fun s2 a2 => h s2 a2

theorem outer_loop (O : Ok C) {I D : Addr} {own : Nat → Ms} {τs : Ts} {n : Nat} {Dr : Nat → Rk} (src : Src C t1 I own τs n Dr) (ρa : Nat → Vs) (m : Nat → Nat) (Er : Nat → Nat → Rk) (ρb : Nat → Nat → Vs) (fs : Nat → Nat → PyData)
    (asg : ∀ i, i < n → Asg C [] t1 (Dr i) (ρa i)) (sr2 : ∀ i, i < n → ∀ ν, Srcs C (ρa i) (μ ++ ν) i2 t2 (μ ++ ν) (m i) (Er i)) (asg2 : ∀ i, i < n → ∀ j, j < m i → Asg C (ρa i) t2 (Er i j) (ρb i j)) (hρ : ∀ i, i < n → ∀ j, j < m i → ∀ p ∈ ρa i, (ρb i j).lookup p.1 = some p.2)
    (turn : ∀ i, i < n → ∀ j, j < m i → ∀ ν, PE C (ρb i j) (μ ++ ν) elt (.dat (fs i j))) (hn : ∀ i, i ≤ n → ((List.range i).flatMap fun i => (List.range (m i)).map (fs i)).length ≤ 1000) (hf : ∀ x, foldedSetIterable i2 C.env x = pure x)
    {R : Result → Shared → Prop} (a : At C [] ((D, .list []) :: μ ++ own 0) (τs ++ τ) s)
    (h : ∀ s', At C [] ((D, .list (((List.range n).flatMap fun i => (List.range (m i)).map (fs i)).map .dat)) :: μ) τ s' → R (.ok .next) s') :
    codeAny (MC C) C.A (.compLoop (.ListComp elt [⟨t1, i1, [], 0⟩, ⟨t2, i2, [], 0⟩] scope pos) 0 (.ref I) (.ref D) C.env) R s := by
  refine loop_two0 hf (fun k s' => ∃ i, i ≤ n ∧ k = n - i ∧ At C [] ((D, .list (((List.range i).flatMap fun i => (List.range (m i)).map (fs i)).map .dat)) :: μ ++ own i) (τs ++ τ) s') ?_ n ⟨0, Nat.zero_le _, rfl, by simpa using a⟩
  rintro k s' ⟨i, hi, rfl, a'⟩
  by_cases hlt : i < n
  · have hacc := hn (i + 1) hlt
    rw [List.range_succ, List.flatMap_append] at hacc
    simp only [List.flatMap_cons, List.flatMap_nil, List.append_nil, List.length_append, List.length_map, List.length_range] at hacc
    have eacc : ((List.range (i + 1)).flatMap fun i => (List.range (m i)).map (fs i)) = ((List.range i).flatMap fun i => (List.range (m i)).map (fs i)) ++ (List.range (m i)).map (fs i) := by
      rw [List.range_succ, List.flatMap_append]; simp
    generalize ((List.range i).flatMap fun i => (List.range (m i)).map (fs i)) = ac at *
    refine wpAny_mono (src.item i _ _ τ s' (fun v s2 => At C [] ((D, .list (ac.map .dat)) :: μ ++ own (i + 1)) ((v, Dr i) :: (τs ++ τ)) s2) (fun _ _ => False) hlt a' fun v s2 a2 => a2) (fun r s2 h2 => ?_) fun _ _ f => f.elim
    obtain ⟨v, rfl, h2⟩ := h2
    refine wpAny_mono h2 (fun _ s3 a3 => ?_) fun _ _ f => f.elim
    refine wpAny_mono (asg i hlt _ (τs ++ τ) v s3 (fun _ s4 => At C (ρa i) ((D, .list (ac.map .dat)) :: μ ++ own (i + 1)) (τs ++ τ) s4) (fun _ _ => False) a3 fun s4 a4 => a4) (fun _ s4 a4 => ?_) fun _ _ f => f.elim
    have a5 := a4.perm (μ' := μ ++ ((D, .list (ac.map .dat)) :: own (i + 1))) (by simpa using List.perm_middle)
    refine wpAny_mono (sr2 i hlt _ (τs ++ τ) s4 (fun it2 s5 => codeAny (MC C) (C.A.mark none) (.compStart (.ListComp elt [⟨t1, i1, [], 0⟩, ⟨t2, i2, [], 0⟩] scope pos) 1 it2 (.ref D) C.env) (fun r s₆ => (∃ f, r = .ok f) ∧ ∃ k', k' < n - i ∧ ∃ i', i' ≤ n ∧ k' = n - i' ∧ At C [] ((D, .list (((List.range i').flatMap fun i => (List.range (m i)).map (fs i)).map .dat)) :: μ ++ own i') (τs ++ τ) s₆) s5) (fun _ _ => False) a5 fun I2 own2 τs2 s5 src2 a6 => ?_) (fun x s5 h5 => ?_) fun _ _ f => f.elim
    · have src2 := src2 C O rfl rfl
      have key : ∀ s6, At C (ρa i) ((D, .list (ac.map .dat)) :: (μ ++ own (i + 1)) ++ own2 0) (τs2 ++ (τs ++ τ)) s6 → codeAny (MC C) C.A (.compLoop (.ListComp elt [⟨t1, i1, [], 0⟩, ⟨t2, i2, [], 0⟩] scope pos) 1 (.ref I2) (.ref D) C.env) (fun r s₆ => (∃ f, r = .ok f) ∧ ∃ k', k' < n - i ∧ ∃ i', i' ≤ n ∧ k' = n - i' ∧ At C [] ((D, .list (((List.range i').flatMap fun i => (List.range (m i)).map (fs i)).map .dat)) :: μ ++ own i') (τs ++ τ) s₆) s6 := fun s6 a7 =>
        inner_loop (μ := μ ++ own (i + 1)) O src2 (ρb i) ac (fs i) (asg2 i hlt) (hρ i hlt) (fun j hj ν => by rw [List.append_assoc]; exact turn i hlt j hj _) (by (first | decide | assumption | omega)) a7 fun s7 a8 =>
          ⟨⟨_, rfl⟩, n - (i + 1), by (first | decide | assumption | omega), i + 1, hlt, rfl, by rw [eacc]; exact a8.vars (by (repeat' (first | exact List.forall_mem_nil _ | refine List.forall_mem_cons.mpr ⟨by (first | rfl | kernel_rfl), ?_⟩)))⟩
      have a7 := a6.perm (μ' := (D, .list (ac.map .dat)) :: (μ ++ own (i + 1)) ++ own2 0) (by
        simp only [List.append_assoc, List.cons_append]
        exact List.perm_middle.symm)
      show codeAny (MC C) C.A _ _ _
      refine start_two1 (key _ a7) ?_
      exact src2.self 0 _ _ (τs ++ τ) s5 _ _ a7 (key _ a7)
    · exact wpAny_mono h5 (fun _ _ h => h) fun _ _ f => f.elim
  · have : i = n := by (first | decide | assumption | omega)
    subst this
    exact src.done _ _ τ s' _ _ a' fun s2 a2 => h s2 a2
theorem PE.comp2 {n : Nat} {Dr : Nat → Rk} (ds : List PyData) (O : Ok C) (ρa : Nat → Vs) (m : Nat → Nat) (Er : Nat → Nat → Rk) (ρb : Nat → Nat → Vs) (fs : Nat → Nat → PyData) (sr : Srcs C ρ μ i1 t1 μ n Dr)
    (asg : ∀ L, Ok (C.comp scope cl L) → ∀ i, i < n → Asg (C.comp scope cl L) [] t1 (Dr i) (ρa i)) (sr2 : ∀ L, Ok (C.comp scope cl L) → ∀ i, i < n → ∀ ν, Srcs (C.comp scope cl L) (ρa i) (μ ++ ν) i2 t2 (μ ++ ν) (m i) (Er i))
    (asg2 : ∀ L, Ok (C.comp scope cl L) → ∀ i, i < n → ∀ j, j < m i → Asg (C.comp scope cl L) (ρa i) t2 (Er i j) (ρb i j)) (hρ : ∀ i, i < n → ∀ j, j < m i → ∀ p ∈ ρa i, (ρb i j).lookup p.1 = some p.2)
    (turn : ∀ L, Ok (C.comp scope cl L) → ∀ i, i < n → ∀ j, j < m i → ∀ ν, PE (C.comp scope cl L) (ρb i j) (μ ++ ν) elt (.dat (fs i j))) (hn : ∀ i, i ≤ n → ((List.range i).flatMap fun i => (List.range (m i)).map (fs i)).length ≤ 1000)
    (hds : ((List.range n).flatMap fun i => (List.range (m i)).map (fs i)) = ds)
    (hf : ∀ L x, foldedSetIterable i2 (C.comp scope cl L).env x = pure x := by intro _ _; rfl)
    (hclos : closureFor scope C.env = pure cl := by rfl)
    (hk : scope.kind = .function := by rfl) (hcell : ∀ x ∈ scope.names, x.2 ≠ .cell := by decide) (hnames : ∀ x ∈ scope.names, x.2 = .local → scope.names.lookup x.1 = some .local := by decide)
    (hs : ∀ x, foldedSetIterable i1 C.env x = pure x := by intro _; rfl) :
    PE C ρ μ (.ListComp elt [⟨t1, i1, [], 0⟩, ⟨t2, i2, [], 0⟩] scope pos) (dList ds) := fun τ s Q E a h => by
  subst hds
  rw [eval_ListComp]
  refine wpAny_comprehension_free (use := none) rfl hs hclos hk hnames (sr τ s _ E a fun I own τs s1 src a1 => ?_)
  refine wpAny_newList ?_ (Nat.zero_le _)
  have a2 := a1.allocM (o := { cls := .type "list", data := .seq ([] : List Value).toArray }) (k := .list []) rfl (fun g _ _ => ⟨[], 0, rfl, trivial⟩)
  refine comp_enter (cl := cl) O hk hcell a2 fun L s2 o1 m1 τ1 n1 hd a3 cenv hce hcl => ?_
  rw [hce, hcl]
  have O2 := O.comp (cl := cl) hk L
  have src2 := src (C.comp scope cl L) O2 rfl rfl
  have key : ∀ s3, At (C.comp scope cl L) [] ((s1.heap.objs.size, .list []) :: (μ ++ [(C.env.locals, .raw o1)]) ++ own 0) (τs ++ (τ1 ++ τ)) s3 →
      codeAny (MC C) C.A (.compLoop (.ListComp elt [⟨t1, i1, [], 0⟩, ⟨t2, i2, [], 0⟩] scope pos) 0 (.ref I) (.ref s1.heap.objs.size) (compEnvC scope cl L C.env)) (compPost (MC C) C.A E none Q (.ref s1.heap.objs.size) L) s3 := fun s3 a4 => by
    refine outer_loop (C := C.comp scope cl L) (μ := μ ++ [(C.env.locals, .raw o1)]) (τ := τ1 ++ τ) O2 src2 ρa m Er ρb fs (asg L O2) (fun i hi ν => by rw [List.append_assoc]; exact sr2 L O2 i hi _) (asg2 L O2) hρ (fun i hi j hj ν => by rw [List.append_assoc]; exact turn L O2 i hi j hj _) hn (hf L) a4 fun s4 a5 => ?_
    have a6 := a5.perm (μ' := (C.env.locals, .raw o1) :: (s1.heap.objs.size, .list ((((List.range n).flatMap fun i => (List.range (m i)).map (fs i))).map .dat)) :: μ) (by
      refine List.Perm.trans (List.Perm.swap _ _ _) (List.Perm.cons _ ?_)
      exact (List.perm_append_comm (l₁ := μ) (l₂ := [(C.env.locals, .raw o1)])).symm.trans (by simp) |>.trans (List.Perm.refl _))
    obtain ⟨o, m, nO, a7⟩ := comp_leave n1 hd a6
    refine ⟨m, ?_, fun h' hsb => ?_⟩
    · obtain ⟨g, o', _, _, ho, e⟩ := a7.mem (.head _)
      have e' : o' = o := e
      subst e'
      exact ns_obj.mpr ⟨_, ho, nO⟩
    · have a8 := a7.forget (fun b o hb e => (hsb.2 b hb).trans e) s4.toks
      exact h _ _ (a8.freeze fun g o hko hg => by
        obtain ⟨vs, n', rfl, hv⟩ := hko
        exact list_holds ⟨_, hg, rfl, n', rfl⟩ hv)
  have a4 : At (C.comp scope cl L) [] ((s1.heap.objs.size, .list []) :: (μ ++ [(C.env.locals, .raw o1)]) ++ own 0) (τs ++ (τ1 ++ τ)) s2 := by
    refine (a3.perm ?_).tmps fun p hp => ?_
    · simp only [List.cons_append, List.append_assoc, List.nil_append]
      exact (List.Perm.cons _ List.perm_middle).trans (List.Perm.swap _ _ _)
    · simp only [List.mem_append] at hp ⊢
      rcases hp with h | h | h
      · exact .inr (.inl h)
      · exact .inl h
      · exact .inr (.inr h)
  refine codeAny_compStart_list (key _ a4) ?_
  exact src2.self 0 _ _ (τ1 ++ τ) s2 _ _ a4 (key _ a4)
end
end Mine
namespace Mine
open PySem PySem.W PySem.Calls PySem.Spec PyProof.Rows PySem.SeqAt

section
variable {prog : Program} {w : World} {A : Around} {E : Value → Shared → Prop} {s : Shared}
theorem miss_keys : typeLookup (.type "list") "keys" = pure none := by rw [typeLookup_type, builtinLookup_eq_fast]; kernel_rfl
/-- a list has no keys -/
theorem no_keys {a : Addr} {xs : Array Value} {k : Nat} {sl : Array (Option Value)} {Q : Option Value → Shared → Prop} (hx : s.heap.get? a = some { cls := .type "list", dict := none, data := .seq xs k, slots := sl }) (hA : A.handled = none)
    (h : ∀ h' tk, Sub s.heap h' → Q none { s with heap := h', toks := tk }) : wpAny (model prog w) A (getAttr? (.ref a) "keys") Q E s := by
  obtain ⟨hp, g, d, tk, os⟩ := s
  have hT : ∀ tk', (⟨hp, g, d, tk', os⟩ : Shared).TypeIs (.ref a) "list" := fun _ => ⟨_, hx, rfl⟩
  have f1 := sub_AttributeError
  have f3 := PySem.F.slot_list_getattribute.lookup
  have f4 := PySem.F.slot_list_getattribute.bind (.ref a)
  have f5 := am_list_getattr_none
  have hmiss := miss_keys
  unfold getAttr? getAttrBy? getAttrBy
  repeat (any_goals (first | assumption | exact hT _ | ((with_reducible show wpAny _ _ (call (Value.builtin "list.__getattribute__") _ _) _ _ _); refine call_meets PySem.F.slot_list_getattribute (hT _) am_entry_list_getattribute (PySem.F.args_list_getattribute_2 _ _) (meets_getattribute_miss_list a xs k sl "keys" _ hmiss (by decide) (by decide +kernel)) ⟨hx, hA, fun h' tk' e hx' => ?_⟩) | wp_step))
  obtain ⟨t', u', he⟩ := hx'.there
  show wpAny _ _ (getattributeRaised _ _ _ _ _ _ _) _ _ _
  unfold getattributeRaised
  repeat (any_goals (first | assumption | wp_step))
  exact h _ _ hx'.keeps
theorem entry_upd : entryFor table "dict.update.loop" = some Builtin.«dict.update.loop» := entryFor_of_tree (by kernel_rfl)
theorem plain_upd : plainId "dict.update.loop" = true := by decide +kernel
theorem pair_items {a : Addr} {xs : Array Value} {Q : List Value → Shared → Prop} (ht : IsTup s.heap a xs) (h : Q xs.toList s) : wpAny (model prog w) A (Builtin.Dict.pairItems (.ref a)) Q E s := by
  obtain ⟨o, ho, hc, n, hd⟩ := ht
  unfold Builtin.Dict.pairItems
  refine wpAny_bind (wpAny_typeOf (T := "tuple") ⟨o, ho, hc⟩ ?_)
  simp only [show (Value.type "tuple" == Value.type "list") = false by decide, show (Value.type "tuple" == Value.type "tuple") = true by decide, Bool.or_true, if_true]
  unfold seqItems?
  refine wpAny_bind (wpAny_bind (wpAny_load ho ?_))
  rw [hd]
  exact wpAny_pure (wpAny_pure h)
end

noncomputable def fromP (ps : List (Int × Int)) : List (Int × Int) := ps.foldl (fun f p => putP f p.1 p.2) []
section
variable {C : Cx} {ρ : Vs} {μ : Ms} {τ : Ts} {s : Shared} {e : PySem.Expr} {pos np : Pos}
theorem upd_loop (O : Ok C) (ps : List (Int × Int)) (hn : ps.length ≤ 1000) {d it l : Addr} {R : Result → Shared → Prop}
    (hR : ∀ s', At C ρ ((d, dictM (iK C) (kvi (fromP ps))) :: (l, .list ((prN ps).map .dat)) :: μ) τ s' → R (.ok (.ret .none)) s') : ∀ (k i : Nat) (s : Shared), i + k = ps.length →
    At C ρ ((it, ListIt l i) :: (d, dictM (iK C) (kvi (fromP (ps.take i)))) :: (l, .list ((prN ps).map .dat)) :: μ) τ s → codeAny (MC C) C.A.in1 (.builtin "dict.update.loop" ⟨[.ref d, .ref it, rawInt i, .none], []⟩) R s := by
  intro k
  induction k with
  | zero =>
    intro i s hi a
    refine codeAny_builtin entry_upd ?_
    rw [Around.under_plainId plain_upd _]
    obtain ⟨hsm, g, m, S, V, T⟩ := id a
    obtain ⟨⟨o1, h1, k1⟩, _⟩ := S.mu _ (.head _)
    obtain ⟨⟨o3, h3, vs, n, rfl, hv⟩, _⟩ := S.mu _ (.tail _ (.tail _ (.head _)))
    have hl := hv.length
    simp only [List.length_map] at hl
    have hlist : s.heap.IsList l vs.toArray := ⟨_, h3, rfl, n, rfl⟩
    show wpAny _ C.A.in1.in1 (pyNext (.ref it) >>= _) _ _ _
    refine wpAny_bind (wpAny_pyNext_list_end (show C.A.in1.in1.handled = none from O.hh) (listIt_is ⟨o1, h1, k1⟩) hlist (by rw [List.getElem?_toArray]; exact List.getElem?_eq_none (by (first | decide | assumption | omega))) fun h' ext => ?_)
    show wpAny _ _ (Builtin.Dict.addKeywords d [] >>= _) _ _ _
    refine wpAny_bind (wpAny_pure (wpAny_pure (hR _ ?_)))
    rw [List.take_of_length_le (by (first | decide | assumption | omega))] at a
    exact a.forget (fun b o hb e => ext b o hb e) s.toks
  | succ k ih =>
    intro i s hi a
    have hlt : i < ps.length := by (first | decide | assumption | omega)
    refine codeAny_builtin entry_upd ?_
    rw [Around.under_plainId plain_upd _]
    obtain ⟨hsm, g, m, S, V, T⟩ := id a
    obtain ⟨⟨o1, h1, k1⟩, _⟩ := S.mu _ (.head _)
    obtain ⟨⟨o3, h3, vs, n, rfl, hv⟩, _⟩ := S.mu _ (.tail _ (.tail _ (.head _)))
    have hl := hv.length
    simp only [List.length_map] at hl
    have hlist : s.heap.IsList l vs.toArray := ⟨_, h3, rfl, n, rfl⟩
    obtain ⟨v, hvi, hvr⟩ := hv.get (i := i) (r := dTup [.int (ps.getD i (0, 0)).1, .int (ps.getD i (0, 0)).2]) (by simp [prN, List.getD, List.getElem?_eq_getElem hlt])
    show wpAny _ C.A.in1.in1 (pyNext (.ref it) >>= _) _ _ _
    refine wpAny_bind (wpAny_pyNext_list_item (listIt_is ⟨o1, h1, k1⟩) hlist (x := v) (by simpa using hvi) fun h' hit' hsb => ?_)
    obtain ⟨o', ho', hc', hd'⟩ := hit'
    have S1 : St C g m _ h' := S.update hsb ho' (k' := ListIt l (i + 1)) ⟨g, Sub.refl _, hc', hd'⟩
    obtain ⟨ta, us, rfl, hta, hus⟩ := holds_tup hvr
    match us, hus with
    | [u1, u2], ⟨q1, q2, _⟩ =>
    obtain ⟨t1, rfl⟩ := holds_int q1
    obtain ⟨t2, rfl⟩ := holds_int q2
    show wpAny _ C.A.in1.in1 (holding [Value.ref ta] ((Builtin.Dict.pairItems (.ref ta)).tryCatch _ >>= _) >>= _) _ _ _
    refine wpAny_bind (wpAny_holding (wpAny_bind (wpAny_tryCatch (pair_items (isTup_mono S1.keep hta) ?_))))
    show wpAny _ C.A.in1.in1 (holding _ (dictSet d (.int (ps.getD i (0, 0)).1 t1) (.int (ps.getD i (0, 0)).2 t2))) _ _ _
    have hsw : ((d, dictM (iK C) (kvi (fromP (ps.take i)))) :: (it, ListIt l (i + 1)) :: (l, .list ((prN ps).map .dat)) :: μ).Perm ((it, ListIt l (i + 1)) :: (d, dictM (iK C) (kvi (fromP (ps.take i)))) :: (l, .list ((prN ps).map .dat)) :: μ) := List.Perm.swap ..
    have S2 : St C g m ((d, dictM (iK C) (kvi (fromP (ps.take i)))) :: (it, ListIt l (i + 1)) :: (l, .list ((prN ps).map .dat)) :: μ) h' := { S1 with mu := fun p hp => S1.mu p (hsw.mem_iff.mp hp), nd := (hsw.map Prod.fst).nodup_iff.mpr S1.nd }
    obtain ⟨⟨od, hod, g', sg, xs, hkv, hx⟩, _⟩ := S2.mu _ (.head _)
    have hlen : xs.length ≤ i := by
      rw [hkv.length, kvd_len, List.length_map]
      have : ∀ (qs : List (Int × Int)) (f : List (Int × Int)), (qs.foldl (fun f p => putP f p.1 p.2) f).length ≤ f.length + qs.length := by
        intro qs
        induction qs with
        | nil => intro f; simp
        | cons q qs ih => intro f; have h1 := ih (putP f q.1 q.2); have h2 := putP_len f q.1 q.2; simp only [List.foldl_cons, List.length_cons]; (first | decide | assumption | omega)
      have := this (ps.take i) []
      simp only [List.length_nil, List.length_take] at this
      unfold fromP
      (first | decide | assumption | omega)
    refine wpAny_holding (wpAny_dictSet_pairs (intKind_is _ _ _ t1) (Heap.dictOf_iff.mpr ⟨od, hod, hx⟩) (fun h2 hm2 hs2 => ?_) (by rw [sizeLine_eq]; (first | decide | assumption | omega)))
    obtain ⟨o2, ho2, hx2⟩ := Heap.dictOf_iff.mp hm2
    have e2 : fromP (ps.take (i + 1)) = putP (fromP (ps.take i)) (ps.getD i (0, 0)).1 (ps.getD i (0, 0)).2 := by
      rw [take_succ_getD ps (0, 0) hlt]; simp [fromP]
    have S3 : St C g m _ h2 := S2.update hs2 ho2 (k' := dictM (iK C) (kvi (fromP (ps.take (i + 1))))) ⟨g, Sub.refl _, _, by rw [e2, ← putR_kvi]; exact (hkv.mono sg).put (int_holds _ t2), hx2⟩
    have a3 : At C ρ ((it, ListIt l (i + 1)) :: (d, dictM (iK C) (kvi (fromP (ps.take (i + 1))))) :: (l, .list ((prN ps).map .dat)) :: μ) τ { s with heap := h2, toks := s.toks + 1 } := At.perm ⟨hsm.next _ _, g, m, S3, V, T⟩ (List.Perm.swap _ _ _)
    refine wpAny_pure ⟨plainId_quiet plain_upd _, ?_⟩
    exact ih (i + 1) _ (by (first | decide | assumption | omega)) a3
end
end Mine
namespace Mine
open PySem PySem.W PySem.Calls PySem.Spec PyProof.Rows PySem.SeqAt

section
variable {C : Cx} {ρ : Vs} {μ : Ms} {τ : Ts} {s : Shared} {e elt iter tgt : PySem.Expr} {pos np : Pos} {scope : Scope} {cl : List (Str × Addr)} {Φ : Rk → Ms → Prop}
/-- a comprehension whose list may still turn -/
theorem EX.compM {n : Nat} {Dr : Nat → Rk} (ds : List PyData) (O : Ok C) (ρa : Nat → Vs) (fs : Nat → PyData) (sr : Srcs C ρ μ iter tgt μ n Dr)
    (asg : ∀ L i, i < n → Asg (C.comp scope cl L) [] tgt (Dr i) (ρa i))
    (turn : ∀ L, Ok (C.comp scope cl L) → ∀ i, i < n → ∀ ν, PE (C.comp scope cl L) (ρa i) (μ ++ ν) elt (.dat (fs i))) (hn : n ≤ 1000) (hds : (List.range n).map fs = ds) (h : ∀ l, Φ (.val (.ref l)) ((l, .list (ds.map .dat)) :: μ))
    (hclos : closureFor scope C.env = pure cl := by rfl)
    (hk : scope.kind = .function := by rfl) (hcell : ∀ x ∈ scope.names, x.2 ≠ .cell := by decide) (hnames : ∀ x ∈ scope.names, x.2 = .local → scope.names.lookup x.1 = some .local := by decide)
    (hs : ∀ x, foldedSetIterable iter C.env x = pure x := by intro _; rfl) :
    EX C ρ μ (.ListComp elt [⟨tgt, iter, [], 0⟩] scope pos) Φ := fun τ s Q E a k => by
  subst hds
  rw [eval_ListComp]
  refine wpAny_comprehension_free (use := none) rfl hs hclos hk hnames (sr τ s _ E a fun I own τs s1 src a1 => ?_)
  refine wpAny_newList ?_ (Nat.zero_le _)
  have a2 := a1.allocM (o := { cls := .type "list", data := .seq ([] : List Value).toArray }) (k := .list []) rfl (fun g _ _ => ⟨[], 0, rfl, trivial⟩)
  refine comp_enter (cl := cl) O hk hcell a2 fun L s2 o1 m1 τ1 n1 hd a3 cenv hce hcl => ?_
  rw [hce, hcl]
  have O2 := O.comp (cl := cl) hk L
  have src2 := src (C.comp scope cl L) O2 rfl rfl
  have key : ∀ s3, At (C.comp scope cl L) [] ((s1.heap.objs.size, .list (([] : List PyData).map .dat)) :: (μ ++ [(C.env.locals, .raw o1)]) ++ own 0) (τs ++ (τ1 ++ τ)) s3 →
      codeAny (MC C) C.A (.compLoop (.ListComp elt [⟨tgt, iter, [], 0⟩] scope pos) 0 (.ref I) (.ref s1.heap.objs.size) (compEnvC scope cl L C.env)) (compPost (MC C) C.A E none Q (.ref s1.heap.objs.size) L) s3 := fun s3 a4 => by
    refine comp_loop (C := C.comp scope cl L) (τ := τ1 ++ τ) O2 src2 (fun _ => []) ρa (fun i => μ ++ [(C.env.locals, .raw o1)]) [] fs (asg L) (fun i hi p hp => by simp at hp) (fun i hi ν => ?_) (by simp; (first | decide | assumption | omega)) a4 fun s4 a5 => ?_
    · have := turn L O2 i hi ((C.env.locals, .raw o1) :: ν)
      simpa using this.ev
    · have a6 := a5.perm (μ' := (C.env.locals, .raw o1) :: (s1.heap.objs.size, .list (((List.range n).map fs).map .dat)) :: μ) (by
        simp only [List.nil_append]
        refine List.Perm.trans (List.Perm.swap _ _ _) (List.Perm.cons _ ?_)
        exact (List.perm_append_comm (l₁ := μ) (l₂ := [(C.env.locals, .raw o1)])).symm.trans (by simp) |>.trans (List.Perm.refl _))
      obtain ⟨o, m, nO, a7⟩ := comp_leave n1 hd a6
      refine ⟨m, ?_, fun h' hsb => ?_⟩
      · obtain ⟨g, o', _, _, ho, e⟩ := a7.mem (.head _)
        have e' : o' = o := e
        subst e'
        exact ns_obj.mpr ⟨_, ho, nO⟩
      · have a8 := a7.forget (fun b o hb e => (hsb.2 b hb).trans e) s4.toks
        exact k _ _ _ _ (h _) (a8.push fun _ _ _ => rfl)
  have a4 : At (C.comp scope cl L) [] ((s1.heap.objs.size, .list (([] : List PyData).map .dat)) :: (μ ++ [(C.env.locals, .raw o1)]) ++ own 0) (τs ++ (τ1 ++ τ)) s2 := by
    refine (a3.perm ?_).tmps fun p hp => ?_
    · simp only [List.map_nil, List.cons_append, List.append_assoc, List.nil_append]
      exact (List.Perm.cons _ List.perm_middle).trans (List.Perm.swap _ _ _)
    · simp only [List.mem_append] at hp ⊢
      rcases hp with h | h | h
      · exact .inr (.inl h)
      · exact .inl h
      · exact .inr (.inr h)
  refine codeAny_compStart_list (key _ a4) ?_
  exact src2.self 0 _ _ (τ1 ++ τ) s2 _ _ a4 (key _ a4)

/-- dict, of a list of pairs -/
theorem PE.dictOf {ps : List (Int × Int)} (O : Ok C) (hk : C.env.kindOf "dict" = some .globalImplicit) (hn : ps.length ≤ 1000) (p : EX C ρ μ e fun r μ' => ∃ l, r = .val (.ref l) ∧ μ' = (l, .list ((prN ps).map .dat)) :: μ)
    (hs : backTo pos (starEach [e] C.env) = trees [e] C.env := by rfl) : PE C ρ μ (.Call (.Name "dict" np) [e] [] pos) (dictR (iK C) (kvi (fromP ps))) := fun τ s Q E a h => by
  refine wpAny_Call_NameR (nameB (v := .type "dict") O hk (by decide) (by decide) a ?_)
  rw [hs]
  refine PyProof.Rows.callWith_type (trees_plain _ _) (evalArgs_plain (EXs.cons (K := fun rs μ' => ∃ l, rs = [.val (.ref l)] ∧ μ' = (l, .list ((prN ps).map .dat)) :: μ) (p.mono fun r μ' ⟨l, hr, hm⟩ => EXs.nil ⟨l, by rw [hr], hm⟩) τ s _ E a fun vs s1 rs μ1 hl ⟨l, hr, hm⟩ a1 => ?_))
  subst hr hm
  obtain ⟨v, rfl⟩ : ∃ v, vs = [v] := List.length_eq_one_iff.mp hl
  have ev : v = .ref l := a1.hold (v := v) (r := .val (.ref l)) (by simp)
  subst ev
  rw [List.nil_append]
  have a1 : At C ρ ((l, .list ((prN ps).map .dat)) :: μ) τ s1 := a1.tmps fun p hp => by simp [hp]
  obtain ⟨g, o, _, _, ho, ws, n, rfl, hw⟩ := a1.mem (.head _)
  refine callType_codes (Q₁ := fun obj s₁ => obj = .ref s1.heap.objs.size ∧ s₁ = { s1 with heap := s1.heap.push { cls := .type "dict", data := .dict #[] } }) PySem.F.kt_called_dict (PySem.F.kt_typeCall_dict_1 _) PySem.F.entry_dict_init (kt_code_dict_new _ ⟨rfl, rfl⟩) ?_
  rintro obj s₁ ⟨rfl, rfl⟩
  have a2 : At C ρ ((s1.heap.objs.size, dictM (iK C) (kvi [])) :: (l, .list ((prN ps).map .dat)) :: μ) τ { s1 with heap := s1.heap.push { cls := .type "dict", data := .dict #[] } } :=
    a1.allocM (k := dictM (iK C) (kvi [])) (o := { cls := .type "dict", data := .dict #[] }) rfl fun g _ _ => ⟨g, Sub.refl _, [], trivial, (iK C).new g⟩
  have hdT : Shared.TypeIs { s1 with heap := s1.heap.push { cls := .type "dict", data := .dict #[] } } (.ref s1.heap.objs.size) "dict" := ⟨_, Heap.get?_push_size _ rfl, rfl⟩
  have ho2 : (s1.heap.push { cls := .type "dict", data := .dict #[] }).get? l = some (tagList ws n) := Heap.get?_push_of_some _ ho
  refine ⟨hdT, PySem.F.args_dict_init_2 _ _, ?_⟩
  unfold Builtin.«dict.__init__»
  refine wpAny_bind ?_
  unfold Builtin.Dict.selfAndRest
  refine wpAny_bind (wpAny_notOrdered_dict hdT ?_)
  show wpAny _ _ (pure (s1.heap.objs.size, [Value.ref l])) _ _ _
  refine wpAny_pure ?_
  show wpAny _ _ (Builtin.Dict.updateFrom "dict.__init__" s1.heap.objs.size (.ref l) [] .none) _ _ _
  unfold Builtin.Dict.updateFrom
  refine wpAny_bind (wpAny_typeOf (T := "list") ⟨_, ho2, rfl⟩ ?_)
  rw [if_pos (by decide)]
  refine wpAny_bind (no_keys (xs := ws.toArray) (k := n) (sl := #[]) ho2 (show C.A.in1.in1.handled = none from O.hh) fun h' tk sub => ?_)
  simp only [Option.isNone_none, if_true]
  refine wpAny_bind (wpAny_rule ?_)
  have a3 := a2.ext sub tk
  have hl3 : h'.IsList l ws.toArray := ⟨_, sub _ _ ho2, rfl, n, rfl⟩
  refine wpAny_bind (wpAny_pyIter_list hl3 (wpAny_pure ⟨plainId_quiet plain_upd _, ?_⟩))
  refine upd_loop O ps hn (ρ := ρ) (l := l) (μ := μ) (τ := τ) (fun s' a5 => ⟨rfl, ?_⟩) ps.length 0 _ (by (first | decide | assumption | omega)) ?_
  · have a4 := At.kpNewM (a := h'.objs.size) (o := { cls := .type "list_iterator", data := .fields #[.ref l, .int 0 0] }) (q := ListIt l 0) a3 (Kp.of_sub (Sub.push _ { cls := .type "list_iterator", data := .fields #[.ref l, .int 0 0] })) tk (Heap.get?_none_of_le (Nat.le_refl _)) (Heap.get?_push_size _ rfl) (fun g _ _ => ⟨g, Sub.refl _, rfl, rfl⟩)
    exact a4
  · have a6 := At.dropM (At.perm (μ' := (l, .list ((prN ps).map .dat)) :: (s1.heap.objs.size, dictM (iK C) (kvi (fromP ps))) :: μ) a5 (List.Perm.swap ..))
    have hne : (s1.heap.objs.size == sysModules) = false := by
      obtain ⟨_, g, m, S, V, T⟩ := a6
      obtain ⟨_, _, _, h0⟩ := S.mu _ (.head _)
      cases hb : (s1.heap.objs.size == sysModules) with
      | false => rfl
      | true =>
        rw [show s1.heap.objs.size = sysModules from beq_iff_eq.mp hb] at h0
        obtain ⟨o', ho'⟩ := O.top.sm
        rw [h0] at ho'; cases ho'
    exact h _ _ (a6.freeze (r := dictR (iK C) (kvi (fromP ps))) fun g o ⟨g', sg, xs, h1, h2⟩ hg => ⟨g, Sub.refl _, _, o, xs, rfl, hne, hg, h1.mono sg, (iK C).mono sg h2⟩)
end
end Mine
namespace Mine
open PySem PySem.W PySem.Calls PySem.Spec PyProof.Rows PySem.SeqAt

/-! ## _law_rounds_right -/
noncomputable def fN (t : Nat) (x : Int) : Int := 7 + 10 * ((x.fdiv 10 * 2 + t).fmod 5)
noncomputable def toldP (rs : List (List Int × Int)) : List (Int × Int) := rs.flatMap fun p => p.1.map fun x => (x, p.2)
noncomputable def dueL (t : Nat) (rs : List (List Int × Int)) : List (List Int × Int) := rs.map fun p => (p.1.map (fN t), p.2)
structure RoundsOk (path : List Int) (t : Nat) : Prop where
  told : sortT ((sumF (toldP (roundsL path))).map fun p => [p.1, p.2]) = countsL path
  due : roundsL (path.map (fN t)) = dueL t (roundsL path)
  read : ∃ ws : List Wd, Txt.split (shownT path) sp = ws.map render ∧ (∀ w ∈ ws, goodW w = true) ∧ ws.length ≤ 64 ∧ readW ws = path
  size : (shownT path).length ≤ 100000
theorem range_flatMap_getD {α β : Type} (l : List α) (d : α) (g : α → List β) : (List.range l.length).flatMap (fun i => g (l.getD i d)) = l.flatMap g := by
  have := range_map_getD l d g
  rw [List.flatMap_def, this, ← List.flatMap_def]
theorem flatMap_range_len {β : Type} (m : Nat → Nat) (g : Nat → Nat → β) : ∀ i, (∀ k, k < i → m k ≤ 9) → ((List.range i).flatMap fun k => (List.range (m k)).map (g k)).length ≤ 9 * i
  | 0, _ => by simp
  | i + 1, h => by
    have h1 := flatMap_range_len m g i fun k hk => h k (by (first | decide | assumption | omega))
    have h2 := h i (by (first | decide | assumption | omega))
    rw [List.range_succ, List.flatMap_append, List.length_append]
    simp only [List.flatMap_cons, List.flatMap_nil, List.append_nil, List.length_map, List.length_range]
    (first | decide | assumption | omega)
/-- a comprehension that a name of its line takes, whose turns leave nothing -/
theorem Tx.compP {C : Cx} {ρ : Vs} {μ : Ms} {elt iter tgt : PySem.Expr} {pos spos yp : Pos} {scope : Scope} {cl : List (Str × Addr)} {n : Nat} {Dr : Nat → Rk} {y : Str} {P : Post} (ds : List PyData) (O : Ok C) (ρa : Nat → Vs) (fs : Nat → PyData) (sr : Srcs C ρ μ iter tgt μ n Dr)
    (asg : ∀ L, Ok (C.comp scope cl L) → ∀ i, i < n → Asg (C.comp scope cl L) [] tgt (Dr i) (ρa i))
    (turn : ∀ L, Ok (C.comp scope cl L) → ∀ i, i < n → ∀ ν, PE (C.comp scope cl L) (ρa i) (μ ++ ν) elt (.dat (fs i))) (hn : n ≤ 1000) (hds : (List.range n).map fs = ds)
    (hy : C.env.kindOf y = some .local) (hP : P .next ((y, dList ds) :: ρ) μ [])
    (hclos : closureFor scope C.env = pure cl := by rfl)
    (hsw : swapsWith (.ListComp elt [⟨tgt, iter, [], 0⟩] scope pos) (some (.Name y yp)) spos.line C.env = pure true := by rfl)
    (hk : scope.kind = .function := by rfl) (hcell : ∀ x ∈ scope.names, x.2 ≠ .cell := by decide) (hnames : ∀ x ∈ scope.names, x.2 = .local → scope.names.lookup x.1 = some .local := by decide)
    (hs : ∀ x, foldedSetIterable iter C.env x = pure x := by intro _; rfl) : Tx C ρ μ (.Assign [.Name y yp] (.ListComp elt [⟨tgt, iter, [], 0⟩] scope pos) spos) P := by
  subst hds
  exact Tx.assignComp (μ0 := μ) O hk hcell hnames hclos (fun _ => μ) sr (fun _ => []) ρa fs rfl (fun L => asg L (O.comp hk L)) (fun i hi p hp => by simp at hp) (fun L i hi ν => turn L (O.comp hk L) i hi ν) hn hy hP hsw hs
theorem told_len : ∀ (rs : List (List Int × Int)), (∀ p ∈ rs, p.1.length ≤ 9) → (toldP rs).length ≤ 9 * rs.length
  | [], _ => by simp [toldP]
  | p :: rs, h => by
    have h1 := told_len rs fun q hq => h q (.tail _ hq)
    have h2 := h p (.head _)
    simp only [toldP, List.flatMap_cons, List.length_append, List.length_map, List.length_cons] at h1 ⊢
    (first | decide | assumption | omega)
theorem pair_nodup {f : List (Int × Int)} (hn : (f.map (·.1)).Nodup) : (f.map fun p => [p.1, p.2]).Nodup := by
  rw [List.nodup_iff_pairwise_ne, List.pairwise_map] at hn ⊢
  exact hn.imp fun h e => h (by simpa using (List.cons.inj e).1)
theorem fromP_five (t : Nat) : fromP (five.map fun x => (x, fN t x)) = five.map fun x => (x, fN t x) := by
  simp only [fromP, five, List.map_cons, List.map_nil, List.foldl_cons, List.foldl_nil]
  rfl

theorem spec_rounds_right {Y : Lay} (hY : Y.defs = allDefs) (path : List Int) (t : Nat) (hn : path.length ≤ 20) (h5 : ∀ x ∈ path, x ∈ five) (ht : t ≤ 100) (W : RoundsOk path t) : Spec Y 4 "_law_rounds_right" [dInts path, dList (tups (countsL path)), dInt t] (dBool true) := by
  refine spec_fn D__law_rounds_right (by rw [hY]; unfold allDefs; simp) ["path", "counts", "turn"] [("path", dInts path), ("counts", dList (tups (countsL path)))] (fun L => [(L + 3, cellN), (L + 2, cellN), (L + 1, .cell (dInt t))]) ?_ rfl ?_ ?_ ?_ ?_ ?_ ?_ ?_ rfl rfl rfl ?_
  · intro vs pm cd doc hl
    obtain ⟨_, _, _, rfl⟩ := len3 hl
    rfl
  · decide
  · intro x hx; simp at hx; rcases hx with rfl | rfl | rfl
    · exact .inl (by (first | rfl | kernel_rfl))
    · exact .inl (by (first | rfl | kernel_rfl))
    · exact .inr ⟨by (first | rfl | kernel_rfl), fun L => by (first | rfl | kernel_rfl)⟩
  · decide
  · intro L
    show ([L + 3, L + 2, L + 1] : List Addr).Nodup
    simp
  · intro L p hp
    have hp' : p ∈ [(Str.ofString "other", L + 3), (Str.ofString "told", L + 2), (Str.ofString "turn", L + 1)] := hp
    simp only [List.mem_cons, List.not_mem_nil, or_false] at hp'
    rcases hp' with rfl | rfl | rfl
    · show D__law_rounds_right.scope.names.lookup (Str.ofString "other") ≠ some .local
      decide
    · show D__law_rounds_right.scope.names.lookup (Str.ofString "told") ≠ some .local
      decide
    · show D__law_rounds_right.scope.names.lookup (Str.ofString "turn") ≠ some .local
      decide
  · repeat' (first | exact List.forall_mem_nil _ | refine List.forall_mem_cons.mpr ⟨⟨by (first | rfl | kernel_rfl), by (first | rfl | kernel_rfl)⟩, ?_⟩)
  · intro L; (first | rfl | kernel_rfl)
  · rintro ⟨lay, A, env, h0, g0, s0⟩ L fa cd hlay O hA henv
    subst henv
    cases hlay
    have hrl := roundsL_len path
    have hm9 : ∀ p ∈ roundsL path, p.1.length ≤ 9 := fun p hp => (roundsL_mem hp).2.1
    have h20 : ∀ p ∈ roundsL path, ∀ x ∈ p.1, x ∈ five := fun p hp x hx => h5 x ((roundsL_mem hp).1 x hx)
    have htl := told_len (roundsL path) hm9
    refine Tr.cons (Tx.assign O (r := dList (rnds (roundsL path))) (callF O (by (first | rfl | kernel_rfl)) (d := D_rounds_of) (by rw [show (Cx.lay _).defs = _ from hY]; unfold allDefs; simp) rfl (spec_rounds_of hY path (by (first | decide | assumption | omega))) (hA 2 (by (first | decide | assumption | omega))) (by (first | rfl | kernel_rfl)) (.cons (PE.name O (by (first | rfl | kernel_rfl)) (by (first | rfl | kernel_rfl)) (by (first | rfl | kernel_rfl))) .nil) (by simp) rfl) (by (first | rfl | kernel_rfl)) ?_)
    have W1 := W.told
    have W2 := W.due
    obtain ⟨ws, r1, r2, r3, r4⟩ := W.read
    have W3 := W.size
    refine Tr.perm (μ' := [(L + 2, cellN), (L + 3, cellN), (L + 1, .cell (dInt t))]) (List.Perm.swap ..) ?_
    refine Tr.cons (Tx.assignC (c := L + 2) O (by (first | rfl | kernel_rfl)) (by (first | rfl | kernel_rfl)) (fun _ _ h => cellN_is h) (r := dictR (intK lay.prog lay.w) (kvi (sumF (toldP (roundsL path))))) (callF O (by (first | rfl | kernel_rfl)) (d := D__law_summed) (by rw [show (Cx.lay _).defs = _ from hY]; unfold allDefs; simp) rfl (spec_summedN hY (toldP (roundsL path)) (by (first | decide | assumption | omega))) (hA 0 (by (first | decide | assumption | omega))) (by (first | rfl | kernel_rfl))
      (.cons (PE.comp2 _ O (fun i => [("many", dInt ((roundsL path).getD i ([], 0)).2), ("lines", dInts ((roundsL path).getD i ([], 0)).1)]) (fun i => ((roundsL path).getD i ([], 0)).1.length) (fun i j => dInt (((roundsL path).getD i ([], 0)).1.getD j 0))
        (fun i j => [("line", dInt (((roundsL path).getD i ([], 0)).1.getD j 0)), ("many", dInt ((roundsL path).getD i ([], 0)).2), ("lines", dInts ((roundsL path).getD i ([], 0)).1)])
        (fun i j => .tuple [.int (((roundsL path).getD i ([], 0)).1.getD j 0), .int ((roundsL path).getD i ([], 0)).2]) (srcs_rnds (PE.ev (PE.name O (by (first | rfl | kernel_rfl)) (by (first | rfl | kernel_rfl)) (by (first | rfl | kernel_rfl)))))
        (fun L O2 i hi => Asg.tup (ds := [.list (zs ((roundsL path).getD i ([], 0)).1), .int ((roundsL path).getD i ([], 0)).2]) O2 [("lines", _), ("many", _)] rfl (by (repeat' (first | exact List.forall_mem_nil _ | refine List.forall_mem_cons.mpr ⟨by (first | rfl | kernel_rfl), ?_⟩))))
        (fun L O2 i hi ν => srcs_ints (PE.ev (PE.name O2 (by (first | rfl | kernel_rfl)) (by (first | rfl | kernel_rfl)) (by (first | rfl | kernel_rfl))))) (fun L O2 i hi j hj => Asg.name O2 (by (first | rfl | kernel_rfl))) (fun i hi j hj => by (repeat' (first | exact List.forall_mem_nil _ | refine List.forall_mem_cons.mpr ⟨by (first | rfl | kernel_rfl), ?_⟩)))
        (fun L O2 i hi j hj ν => PE.tuple (ds := [.int (((roundsL path).getD i ([], 0)).1.getD j 0), .int ((roundsL path).getD i ([], 0)).2]) _ (.cons (PE.name O2 (by (first | rfl | kernel_rfl)) (by (first | rfl | kernel_rfl)) (by (first | rfl | kernel_rfl))) (.cons (PE.name O2 (by (first | rfl | kernel_rfl)) (by (first | rfl | kernel_rfl)) (by (first | rfl | kernel_rfl))) .nil))) ?_ ?_) .nil) (by simp) rfl) ?_)
    · intro i hi
      refine Nat.le_trans (flatMap_range_len _ _ i fun k hk => ?_) (by (first | decide | assumption | omega))
      exact hm9 _ (by simp [List.getD, List.getElem?_eq_getElem (show k < (roundsL path).length by (first | decide | assumption | omega))])
    · refine (range_flatMap_getD (roundsL path) ([], 0) fun p => (List.range p.1.length).map fun j => PyData.tuple [.int (p.1.getD j 0), .int p.2]).trans ?_
      unfold prN toldP
      rw [List.map_flatMap]
      refine congrArg (fun f => List.flatMap f (roundsL path)) (funext fun p => ?_)
      rw [List.map_map]
      exact range_map_getD p.1 0 fun x => PyData.tuple [.int x, .int p.2]
    have hFl : (sumF (toldP (roundsL path))).length ≤ 250 := by have := sumF_len (toldP (roundsL path)); (first | decide | assumption | omega)
    have hF2 : (sumF (toldP (roundsL path))).length < 64 := by
      have h1 := congrArg List.length W1
      rw [(sortT_perm _).length_eq, List.length_map] at h1
      have h2 := countsL_len path
      (first | decide | assumption | omega)
    have hkn := sumF_nodup (toldP (roundsL path))
    generalize sumF (toldP (roundsL path)) = F at *
    refine Tr.cons (Tx.ite (b := false) (PT.cmp (PE.sorted (ts := F.map fun p => [p.1, p.2]) O (PE.comp _ O (fun i => [("line", dInt (F.getD i (0, 0)).1)]) (fun i => .tuple [.int (F.getD i (0, 0)).1, .int (F.getD i (0, 0)).2]) (srcs_keysN (f := F) O (PE.cell O (by (first | rfl | kernel_rfl)) (by (first | rfl | kernel_rfl)) (.head _) (by (first | rfl | kernel_rfl)))) (fun L i hi => Asg.name (O.comp rfl L) (by (first | rfl | kernel_rfl))) (fun L2 O2 i hi ν => ?_) (by (first | decide | assumption | omega)) ?_) (by (first | rfl | kernel_rfl)) (fun t ht => by obtain ⟨p, _, rfl⟩ := List.mem_map.mp ht; simp) (pair_nodup hkn) (by simp; (first | decide | assumption | omega))) (PE.name O (by (first | rfl | kernel_rfl)) (by (first | rfl | kernel_rfl)) (by (first | rfl | kernel_rfl))) (CmpR.neTE O W1)) (fun h => by cases h) (fun _ => Tr.nil ?_))
    · have hm : F.getD i (0, 0) ∈ F := by simp [List.getD, List.getElem?_eq_getElem hi]
      have hlk : lookR (kvi F) (F.getD i (0, 0)).1 = some (dInt (F.getD i (0, 0)).2) := by rw [lookR_kvi, lookP_mem hkn hm]; rfl
      clear hm
      generalize F.getD i (0, 0) = p at *
      exact PE.tuple (ds := [.int p.1, .int p.2]) _ (.cons (PE.name O2 (by (first | rfl | kernel_rfl)) (by (first | rfl | kernel_rfl)) (by (first | rfl | kernel_rfl))) (.cons (PE.dictItem (δ := intK lay.prog lay.w) (kvs := kvi F) (k := p.1) (r := dictR (intK lay.prog lay.w) (kvi F)) O2 (PE.cell O2 (by (first | rfl | kernel_rfl)) (by (first | rfl | kernel_rfl)) (.head _) (by (first | rfl | kernel_rfl))) (.inl rfl) (PE.name O2 (by (first | rfl | kernel_rfl)) (by (first | rfl | kernel_rfl)) (by (first | rfl | kernel_rfl))) hlk) .nil))
    · rw [tups, List.map_map]; exact range_map_getD F (0, 0) fun p => PyData.tuple [.int p.1, .int p.2]
    refine Tr.perm (μ' := [(L + 3, cellN), (L + 2, .cell (dictR (intK lay.prog lay.w) (kvi F))), (L + 1, .cell (dInt t))]) (List.Perm.swap ..) ?_
    refine Tr.cons (Tx.assignC (c := L + 3) O (by (first | rfl | kernel_rfl)) (by (first | rfl | kernel_rfl)) (fun _ _ h => cellN_is h) (r := dictR (intK lay.prog lay.w) (kvi (five.map fun x => (x, fN t x)))) ?_ ?_)
    · rw [← fromP_five]
      refine PE.dictOf (ps := five.map fun x => (x, fN t x)) O (by (first | rfl | kernel_rfl)) (by simp [five]) (EX.compM (prN (five.map fun x => (x, fN t x))) O (fun i => [("line", dInt (five.getD i 0))]) (fun i => .tuple [.int (five.getD i 0), .int (fN t (five.getD i 0))]) (n := five.length) (srcs_ints (ns := five) (PE.ev (PE.listD (ds := zs five) (.cons (PE.int _ _) (.cons (PE.int _ _) (.cons (PE.int _ _) (.cons (PE.int _ _) (.cons (PE.int _ _) .nil))))) (hn := by simp [five])))) (fun L i hi => Asg.name (O.comp rfl L) (by (first | rfl | kernel_rfl))) (fun L2 O2 i hi ν => ?_) (by simp [five]) ?_ fun l => ⟨l, rfl, rfl⟩)
      · generalize five.getD i 0 = x
        exact PE.tuple (ds := [.int x, .int (fN t x)]) _ (.cons (PE.name O2 (by (first | rfl | kernel_rfl)) (by (first | rfl | kernel_rfl)) (by (first | rfl | kernel_rfl))) (.cons (PE.add (PE.int 7 _) (PE.mul (PE.int 10 _) (PE.mod (PE.add (PE.mul (PE.fdiv (PE.name O2 (by (first | rfl | kernel_rfl)) (by (first | rfl | kernel_rfl)) (by (first | rfl | kernel_rfl))) (PE.int 10 _) (by decide) (div_small (by decide))) (PE.int 2 _) (IntMulOk.of_right (by decide +kernel))) (PE.cell O2 (by (first | rfl | kernel_rfl)) (by (first | rfl | kernel_rfl)) (.tail _ (.tail _ (.head _))) (by (first | rfl | kernel_rfl)))) (PE.int 5 _) (by decide)) (IntMulOk.of_left (by decide +kernel)))) .nil))
      · rw [prN, List.map_map]; exact range_map_getD five 0 fun x => PyData.tuple [.int x, .int (fN t x)]
    have hlook : ∀ x ∈ five, lookR (kvi (five.map fun x => (x, fN t x))) x = some (dInt (fN t x)) := by
      intro x hx
      have hnd : ((five.map fun x => (x, fN t x)).map (·.1)).Nodup := by rw [List.map_map]; show (five.map fun x => x).Nodup; rw [List.map_id']; decide
      rw [lookR_kvi, lookP_mem (p := (x, fN t x)) hnd (List.mem_map.mpr ⟨x, hx, rfl⟩)]
      rfl
    refine Tr.cons ?_
    refine Tx.compP (rnds (dueL t (roundsL path))) O (fun i => [("many", dInt ((roundsL path).getD i ([], 0)).2), ("lines", dInts ((roundsL path).getD i ([], 0)).1)]) (fun i => .tuple [.list (zs (((roundsL path).getD i ([], 0)).1.map (fN t))), .int ((roundsL path).getD i ([], 0)).2])
      (srcs_rnds (PE.ev (PE.name O (by (first | rfl | kernel_rfl)) (by (first | rfl | kernel_rfl)) (by (first | rfl | kernel_rfl))))) (fun L2 O2 i hi => Asg.tup (ds := [.list (zs ((roundsL path).getD i ([], 0)).1), .int ((roundsL path).getD i ([], 0)).2]) O2 [("lines", _), ("many", _)] rfl (by (repeat' (first | exact List.forall_mem_nil _ | refine List.forall_mem_cons.mpr ⟨by (first | rfl | kernel_rfl), ?_⟩)))) (fun L2 O2 i hi ν => ?_) (by (first | decide | assumption | omega)) ?_ (by (first | rfl | kernel_rfl)) ?_
    · have hm : (roundsL path).getD i ([], 0) ∈ roundsL path := by simp [List.getD, List.getElem?_eq_getElem hi]
      have q5 := h20 _ hm
      have q9 := hm9 _ hm
      generalize (roundsL path).getD i ([], 0) = p at *
      refine PE.tuple (ds := [.list (zs (p.1.map (fN t))), .int p.2]) _ (.cons (PE.comp _ O2 (fun j => [("line", dInt (p.1.getD j 0))]) (fun j => .int (fN t (p.1.getD j 0))) (srcs_ints (PE.ev (PE.name O2 (by (first | rfl | kernel_rfl)) (by (first | rfl | kernel_rfl)) (by (first | rfl | kernel_rfl))))) (fun L3 j hj => Asg.name (O2.comp rfl L3) (by (first | rfl | kernel_rfl))) (fun L3 O3 j hj ν2 => ?_) (by (first | decide | assumption | omega)) ?_) (.cons (PE.name O2 (by (first | rfl | kernel_rfl)) (by (first | rfl | kernel_rfl)) (by (first | rfl | kernel_rfl))) .nil))
      · have hx : p.1.getD j 0 ∈ five := q5 _ (by simp [List.getD, List.getElem?_eq_getElem hj])
        exact PE.dictItem (δ := intK lay.prog lay.w) (kvs := kvi (five.map fun x => (x, fN t x))) (k := p.1.getD j 0) (r := dictR (intK lay.prog lay.w) (kvi (five.map fun x => (x, fN t x)))) O3 (PE.cell O3 (by (first | rfl | kernel_rfl)) (by (first | rfl | kernel_rfl)) (.head _) (by (first | rfl | kernel_rfl))) (.inl rfl) (PE.name O3 (by (first | rfl | kernel_rfl)) (by (first | rfl | kernel_rfl)) (by (first | rfl | kernel_rfl))) (hlook _ hx)
      · rw [zs, List.map_map]; exact range_map_getD p.1 0 fun x => PyData.int (fN t x)
    · rw [rnds, dueL, List.map_map]; exact range_map_getD (roundsL path) ([], 0) fun p => PyData.tuple [.list (zs (p.1.map (fN t))), .int p.2]
    refine Tr.cons (Tx.ret (r := dBool true) (PE.allT (by simp) (List.forall_mem_cons.mpr ⟨?_, List.forall_mem_cons.mpr ⟨?_, List.forall_mem_nil _⟩⟩)) (fun v => (show ∃ u, Flow.ret v = Flow.ret u ∧ (u, _) ∈ [(v, _)] from ⟨v, rfl, List.Mem.head _⟩)))
    · refine PE.cmp (callF O (by (first | rfl | kernel_rfl)) (d := D_rounds_of) (by rw [show (Cx.lay _).defs = _ from hY]; unfold allDefs; simp) rfl (spec_rounds_of hY (path.map (fN t)) (by simp; (first | decide | assumption | omega))) (hA 2 (by (first | decide | assumption | omega))) (by (first | rfl | kernel_rfl)) (.cons (PE.comp _ O (fun j => [("line", dInt (path.getD j 0))]) (fun j => .int (fN t (path.getD j 0))) (srcs_ints (PE.ev (PE.name O (by (first | rfl | kernel_rfl)) (by (first | rfl | kernel_rfl)) (by (first | rfl | kernel_rfl))))) (fun L3 j hj => Asg.name (O.comp rfl L3) (by (first | rfl | kernel_rfl))) (fun L3 O3 j hj ν2 => ?_) (by (first | decide | assumption | omega)) ?_) .nil) (by simp) rfl) (PE.name O (by (first | rfl | kernel_rfl)) (by (first | rfl | kernel_rfl)) (by (first | rfl | kernel_rfl))) (CmpR.eqRE O W2)
      · have hx : path.getD j 0 ∈ five := h5 _ (by simp [List.getD, List.getElem?_eq_getElem hj])
        exact PE.dictItem (δ := intK lay.prog lay.w) (kvs := kvi (five.map fun x => (x, fN t x))) (k := path.getD j 0) (r := dictR (intK lay.prog lay.w) (kvi (five.map fun x => (x, fN t x)))) O3 (PE.cell O3 (by (first | rfl | kernel_rfl)) (by (first | rfl | kernel_rfl)) (.head _) (by (first | rfl | kernel_rfl))) (.inl rfl) (PE.name O3 (by (first | rfl | kernel_rfl)) (by (first | rfl | kernel_rfl)) (by (first | rfl | kernel_rfl))) (hlook _ hx)
      · rw [zs, List.map_map]; exact range_map_getD path 0 fun x => PyData.int (fN t x)
    · refine PE.cmp (callF O (by (first | rfl | kernel_rfl)) (d := D__law_read) (by rw [show (Cx.lay _).defs = _ from hY]; unfold allDefs; simp) rfl (spec_read hY (shownT path) ws r1 r2 r3 W3) (hA 0 (by (first | decide | assumption | omega))) (by (first | rfl | kernel_rfl)) (.cons (callF O (by (first | rfl | kernel_rfl)) (d := D_shown_path) (by rw [show (Cx.lay _).defs = _ from hY]; unfold allDefs; simp) rfl (spec_shown hY path (by (first | decide | assumption | omega)) h5) (hA 3 (by (first | decide | assumption | omega))) (by (first | rfl | kernel_rfl)) (.cons (PE.name O (by (first | rfl | kernel_rfl)) (by (first | rfl | kernel_rfl)) (by (first | rfl | kernel_rfl))) .nil) (by simp) rfl) .nil) (by simp) rfl) (PE.name O (by (first | rfl | kernel_rfl)) (by (first | rfl | kernel_rfl)) (by (first | rfl | kernel_rfl))) (CmpR.eqIE O r4)
end Mine
namespace Mine
open PySem PySem.W PySem.Calls PySem.Spec PyProof.Rows PySem.SeqAt

/-! ## _law_take -/
/-- a list, of whatever make -/
noncomputable def lstG (rs : List Rk) : Mk := .gen fun g o => ∃ vs n, o.cls = .type "list" ∧ o.data = .seq vs.toArray n ∧ allHold g rs vs
theorem lstG_of {rs : List Rk} {g : Heap} {o : Obj} (h : (Mk.list rs).holds g o) : (lstG rs).holds g o := by
  obtain ⟨vs, n, rfl, hv⟩ := h
  exact ⟨g, Sub.refl _, vs, n, rfl, rfl, hv⟩
section
variable {C : Cx} {ρ : Vs} {μ μ' : Ms} {τ : Ts} {s : Shared} {e e1 e2 : PySem.Expr} {r : Rk} {rs : List Rk} {pos xp tp np : Pos} {x : Str} {P : Post} {k k' : Mk} {a : Addr}
theorem At.weakM (hk : ∀ g o, k.holds g o → k'.holds g o) (x : At C ρ ((a, k) :: μ) τ s) : At C ρ ((a, k') :: μ) τ s := by
  obtain ⟨hs, g, m, S, V, T⟩ := x
  refine ⟨hs, g, m, { S with mu := fun p hp => ?_, nd := S.nd }, V, T⟩
  rcases List.mem_cons.mp hp with rfl | hp
  · obtain ⟨⟨o, h1, h2⟩, r⟩ := S.mu (a, k) (.head _)
    exact ⟨⟨o, h1, hk _ _ h2⟩, r⟩
  · exact S.mu p (.tail _ hp)
theorem Tr.weakM {body : List Stmt} (hk : ∀ g o, k.holds g o → k'.holds g o) (t : Tr C ρ ((a, k') :: μ) body P) : Tr C ρ ((a, k) :: μ) body P := fun τ s E x => t τ s E (x.weakM hk)
theorem unpack_lv (O : Ok C) {v : Value} {Q : List Value → Shared → Prop} {E : Value → Shared → Prop} (hm : (a, lstG rs) ∈ μ) (x : At C ρ μ ((v, .val (.ref a)) :: τ) s)
    (h : ∀ vs s', vs.length = rs.length → At C ρ μ (vs.zip rs ++ τ) s' → Q vs s') : wpAny (MC C) C.A (unpackItems v rs.length none) Q E s := by
  obtain ⟨hs, g, m, S, V, T⟩ := x
  have ev : v = .ref a := T _ (.head _)
  subst ev
  obtain ⟨⟨o, ho, g', sg, vs, n, hc, hd, hv⟩, _⟩ := S.mu _ hm
  have hl := hv.length
  have hl' : rs.length = vs.toArray.size := by simp [hl]
  rw [hl']
  refine unpackItems_list O.hh ⟨o, ho, hc, n, hd⟩ fun h' ext => ?_
  refine h _ _ (by simpa using hl) ⟨hs.next _ _, g, m, S.ext (Sub.extBut ext), V, fun p hp => ?_⟩
  rcases List.mem_append.mp hp with hp | hp
  · exact all_push (hv.mono sg) p (by simpa using hp)
  · exact T p (.tail _ hp)
/-- a list that turns, taken apart -/
theorem Tx.assignLV (O : Ok C) {k : Nat} (xs : List (Str × Pos)) (p : PE C ρ μ e (.val (.ref a))) (hm : (a, lstG rs) ∈ μ) (hl : xs.length = rs.length) (hk : ∀ p ∈ xs, C.env.kindOf p.1 = some .local) (h : P .next (bindR ((xs.map (·.1)).zip rs) ρ) μ [])
    (hs : swapsWithSole [.Tuple (nameEs xs) k xp] e pos.line C.env = pure false := by rfl) (hw : swappedStores [.Tuple (nameEs xs) k xp] e C.env = pure none := by rfl) : Tx C ρ μ (.Assign [.Tuple (nameEs xs) k xp] e pos) P := fun τ s E a =>
  Assign_Tuple (hs := hs) (hw := hw) (p τ s _ E a fun v s1 a1 => by
    show wpAny _ _ (standAt xp >>= fun _ => unpack v (assignEach (nameEs xs) C.env)) _ _ _
    refine wpAny_bind (wpAny_standAt ?_)
    unfold unpack
    rw [assignEach_names]
    have e1 : (xs.map fun p => (false, PySem.assign (.Name p.1 p.2) C.env)).length = rs.length := by simp [hl]
    have e2 : (xs.map fun p => (false, PySem.assign (.Name p.1 p.2) C.env)).findIdx? (·.1) = none := by
      rw [List.findIdx?_eq_none_iff]; simp
    rw [e1, e2]
    refine wpAny_bind (wpAny_holding (unpack_lv O hm a1 fun vs s1 hv a1 => ?_))
    rw [List.map_map]
    exact assign_orderR O xs rs vs ρ τ s1 _ hl hv hk a1 fun s2 a2 => ⟨_, _, [], a2, h⟩)
/-- the second of two places is filled -/
theorem Tx.set1 {i v : PySem.Expr} {r0 r1 : Rk} (O : Ok C) (p : PE C ρ ((a, lstG [r0, r1]) :: μ) v r) (po : PE C ρ ((a, lstG [r0, r1]) :: μ) e (.val (.ref a))) (pi : PE C ρ ((a, lstG [r0, r1]) :: μ) i (dInt 1))
    (h : P .next ρ ((a, lstG [r0, r]) :: μ) []) (hs : swapsWith v (some (.Subscript e i tp)) pos.line C.env = pure false := by rfl) :
    Tx C ρ ((a, lstG [r0, r1]) :: μ) (.Assign [.Subscript e i tp] v pos) P := fun τ s E x =>
  wpAny_Assign_Subscript (hs := hs) (p τ s _ E x fun vv s1 x1 => po _ s1 _ E x1 fun ov s2 x2 => pi _ s2 _ E x2 fun iv s3 x3 => by
    obtain ⟨t, rfl⟩ := holds_int x3.top
    obtain ⟨hsm, g, m, S, V, T⟩ := x3
    have eo : ov = .ref a := T (ov, .val (.ref a)) (by simp)
    subst eo
    have hvv := T (vv, r) (by simp)
    obtain ⟨⟨o, ho, g', sg, vs, n, hc, hd, hv⟩, _⟩ := S.mu _ (.head _)
    obtain ⟨w0, w1, rfl⟩ := two_of (hv.length.trans rfl)
    refine wpAny_setItem_list (items := #[w0, w1]) ⟨o, ho, hc, n, hd⟩ (by decide) (by decide) (by simp) fun h' hl hsb => ⟨_, _, [], ⟨hsm.next _ s3.toks, g, m, ?_, V, fun p hp => T p (by simp [show p ∈ τ from hp])⟩, h⟩
    obtain ⟨o', ho', hc', n', hd'⟩ := hl
    exact S.update hsb ho' (k' := lstG [r0, r]) ⟨g, Sub.refl _, [w0, vv], n', hc', hd', (hv.mono sg).1, hvv, trivial⟩)

/-! ### what is left is another -/
theorem PE.toEV {r : Rk} (p : PE C ρ μ e r) : EV C ρ μ e μ r := p
theorem EV.ex {Φ : Rk → Ms → Prop} (p : EV C ρ μ e μ' r) (h : Φ r μ') : EX C ρ μ e Φ := fun τ s Q E a k => p τ s Q E a fun v s' a' => k v s' r μ' h a'
theorem EV.addE {i j k : Int} (p1 : PE C ρ μ e1 (dInt i)) (p2 : EV C ρ μ e2 μ' (dInt j)) (h : i + j = k := by (first | decide | assumption | omega)) : EV C ρ μ (.BinOp e1 .Add e2 pos) μ' (dInt k) := fun τ s Q E a q =>
  wpAny_BinOp (p1 τ s _ E a fun v s1 a1 => p2 _ s1 _ E a1 fun u s2 a2 => by
    obtain ⟨t, rfl⟩ := holds_int a2.top2; obtain ⟨w, rfl⟩ := holds_int a2.top
    subst h
    exact add_int (q _ _ ((a2.drop.drop.toks _).push fun _ _ _ => int_holds _ _)))
theorem EV.subE {i j k : Int} (p1 : PE C ρ μ e1 (dInt i)) (p2 : EV C ρ μ e2 μ' (dInt j)) (h : i - j = k := by (first | decide | assumption | omega)) : EV C ρ μ (.BinOp e1 .Sub e2 pos) μ' (dInt k) := fun τ s Q E a q =>
  wpAny_BinOp (p1 τ s _ E a fun v s1 a1 => p2 _ s1 _ E a1 fun u s2 a2 => by
    obtain ⟨t, rfl⟩ := holds_int a2.top2; obtain ⟨w, rfl⟩ := holds_int a2.top
    subst h
    exact sub_int (q _ _ ((a2.drop.drop.toks _).push fun _ _ _ => int_holds _ _)))
theorem EV.mulE {i j k : Int} (p1 : PE C ρ μ e1 (dInt i)) (p2 : EV C ρ μ e2 μ' (dInt j)) (hm : IntMulOk i j) (h : i * j = k) : EV C ρ μ (.BinOp e1 .Mult e2 pos) μ' (dInt k) := fun τ s Q E a q =>
  wpAny_BinOp (p1 τ s _ E a fun v s1 a1 => p2 _ s1 _ E a1 fun u s2 a2 => by
    obtain ⟨t, rfl⟩ := holds_int a2.top2; obtain ⟨w, rfl⟩ := holds_int a2.top
    subst h
    exact PyProof.Rows.mul_int (hm := hm) (q _ _ ((a2.drop.drop.toks _).push fun _ _ _ => int_holds _ _)))
theorem srcs_range1E {tgt : PySem.Expr} {n : Nat} (O : Ok C) (p1 : EV C ρ μ e1 μ' (dInt n)) (hk : C.env.kindOf "range" = some .globalImplicit) (h2 : n ≤ 50000)
    (hs : backTo pos (starEach [e1] C.env) = trees [e1] C.env := by rfl) : Srcs C ρ μ (.Call (.Name "range" np) [e1] [] pos) tgt μ' n (fun k => dInt (k : Nat)) := fun τ s Q E a h => by
  refine wpAny_Call_NameR (nameB (v := .type "range") O hk (by decide) (by decide) a ?_)
  rw [hs]
  refine PyProof.Rows.callWith_type (trees_plain _ _) (evalArgs_plain (EXs.cons (K := fun rs μ2 => rs = [dInt n] ∧ μ2 = μ') (p1.ex (EXs.nil ⟨rfl, rfl⟩)) τ s _ E a fun vs s' rs μ2 hl ⟨hr, hm⟩ a' => ?_))
  subst hr hm
  obtain ⟨v, rfl⟩ : ∃ v, vs = [v] := List.length_eq_one_iff.mp hl
  obtain ⟨t, rfl⟩ := holds_int (a'.hold (v := v) (r := dInt n) (by simp))
  rw [List.nil_append]
  refine PySem.call_range_1 ?_
  have a2 := (a'.ext (Sub.push s'.heap { cls := .type "range", data := .fields #[.int 0 s'.toks, .int n t, .int 1 (s'.toks + 1)] }) (s'.toks + 1 + 1)).tmps (τ' := τ) (fun p hp => by simp [hp])
  refine pyIter_range1 (tgt := tgt) (a0 := 0) (b0 := n) (s := { s' with heap := s'.heap.push { cls := .type "range", data := .fields #[.int 0 s'.toks, .int n t, .int 1 (s'.toks + 1)] }, toks := s'.toks + 1 + 1 }) (Heap.get?_push_size _ rfl) (by (first | decide | assumption | omega)) (by (first | decide | assumption | omega)) (by (first | decide | assumption | omega)) (by (first | decide | assumption | omega)) a2 fun I own τs s2 src a3 => h I own τs s2 (fun C' O' hl hA => ?_) a3
  have hs := src C' O' hl hA
  rw [show ((n : Int) - 0).toNat = n by (first | decide | assumption | omega)] at hs
  exact hs.congr fun i hi => by simp
end
end Mine
namespace Mine
open PySem PySem.W PySem.Calls PySem.Spec PyProof.Rows PySem.SeqAt

noncomputable def takeV (cells : List Int) (turn below : Nat) : Int :=
  if turn < cells.length then (if cells.getD turn 0 < 0 then -(cells.getD turn 0) else cells.getD turn 0).fmod below else ((3 * turn + turn / 2 + 1) % below : Nat)
theorem take_range (cells : List Int) (turn below : Nat) (h : 1 ≤ below) : 0 ≤ takeV cells turn below ∧ takeV cells turn below < below := by
  unfold takeV
  split
  · rw [Int.fmod_eq_emod_of_nonneg _ (by (first | decide | assumption | omega))]
    exact ⟨Int.emod_nonneg _ (by (first | decide | assumption | omega)), Int.emod_lt_of_pos _ (by (first | decide | assumption | omega))⟩
  · have := Nat.mod_lt (3 * turn + turn / 2 + 1) (show below > 0 by (first | decide | assumption | omega))
    (first | decide | assumption | omega)
noncomputable def TakePost (s : Shared) (g : Heap) (l : Addr) (cells : List Int) (turn : Nat) (res : Rk) (r : Result) (s' : Shared) : Prop :=
  ∃ v g' h' t', r = .ok (.ret v) ∧ s' = { s with heap := h', toks := t' } ∧ (∀ b o, b ≠ l → s.heap.get? b = some o → h'.get? b = some o) ∧ Sub g g' ∧ Sub g' h' ∧ (∀ b o, g'.get? b = some o → (∃ o', s.heap.get? b = some o') → g.get? b = some o) ∧
    (∃ o, h'.get? l = some o ∧ (lstG [dInts cells, dInt (turn + 1 : Nat)]).holds g' o) ∧ res.holds g' v

theorem take_run {Y : Lay} (hY : Y.defs = allDefs) (cells : List Int) (turn below : Nat) (h1 : 1 ≤ below) (hb : below ≤ 1000) (ht : turn ≤ 1000) (hc : cells.length ≤ 100) (A : Around) (s : Shared) (g h0 : Heap) (l f : Addr) (bv : Value) (hA : AOk 0 A) (T0 : TopH Y h0) (s0 : Sub h0 s.heap)
    (hl0 : h0.get? l = none) (hf : Y.mg "_law_take" = some (.ref f)) (sg : Sub g s.heap) (hlg : g.get? l = none) (hlo : ∃ o, s.heap.get? l = some o ∧ (lstG [dInts cells, dInt turn]).holds g o) (hbv : (dInt below).holds g bv) :
    codeAny (model Y.prog Y.w) A (.call (.ref f) ⟨[.ref l, bv], []⟩) (TakePost s g l cells turn (dInt (takeV cells turn below))) s := by
  have hd : D__law_take ∈ Y.defs := by rw [hY]; unfold allDefs; simp
  have sm : Sub h0 (maskH s.heap fun b => decide (b ≠ l)) := fun b o e => by
    have hb : b ≠ l := by rintro rfl; rw [hl0] at e; cases e
    rw [get?_maskH, if_pos (by simpa using hb)]; exact s0 b o e
  have T := T0.mono sm
  have Ts := T0.mono s0
  obtain ⟨f', o, pm, cd, doc, e1, e2, e3, e4⟩ := Ts.fn _ hd
  have e1' : Y.mg "_law_take" = some (.ref f') := e1
  rw [e1'] at hf
  cases hf
  refine call_cellsN_ret (name := D__law_take.name) (params := D__law_take.params) (body := D__law_take.body) (scope := D__law_take.scope) (binds := [(Str.ofString "sack", .ref l), (Str.ofString "below", bv)]) (by have := hA.2.2; (first | decide | assumption | omega)) e2 e3 Ts.nolimit e4 rfl (fun p hp => ?_) List.nodup_nil (fun h₁ tk cells' F N X => ?_)
  · simp at hp; rcases hp with rfl | rfl <;> exact .inl (by (first | rfl | kernel_rfl))
  let C : Cx := { lay := Y, A := A.deeper (envOfC D__law_take.name D__law_take.scope s.heap.objs.size f cd), env := envOfC D__law_take.name D__law_take.scope s.heap.objs.size f cd, h₀ := maskH s.heap fun b => decide (b ≠ l), g₀ := g, s₀ := s }
  have O : Ok C := ⟨T, rfl, rfl, hA.1, by have := hA.2.1; show A.units + 3 + 100 < cLine; (first | decide | assumption | omega), by have := hA.2.2; show A.depth + 1 + 20 < recursionLimit; (first | decide | assumption | omega), rfl⟩
  have kp : Sub s.heap h₁ := fun b o e => F.keep b o e
  have fresh : s.heap.get? s.heap.objs.size = none := Heap.get?_none_of_le (Nat.le_refl _)
  obtain ⟨lo, hlo1, hlo2⟩ := hlo
  have hlL : l ≠ s.heap.objs.size := by rintro rfl; rw [fresh] at hlo1; cases hlo1
  have mnone : ∀ b, s.heap.get? b = none → (maskH s.heap fun b => decide (b ≠ l)).get? b = none := fun b e => by rw [get?_maskH]; split; exact e; rfl
  have at0 : At C [("sack", .val (.ref l)), ("below", dInt below)] [(l, lstG [dInts cells, dInt turn])] [] { s with heap := h₁, toks := tk } := by
    refine ⟨⟨_, _, rfl⟩, g, _, ⟨F.ns, sg.trans kp, fun b o e => ?_, Sub.refl _, fun b o e _ => e, ?_, mnone _ fresh, fun p hp => ?_, by simp⟩, fun x r e => ?_, fun p hp => by simp at hp⟩
    · rw [get?_maskH] at e
      split at e
      · exact kp b o e
      · cases e
    · cases e : g.get? s.heap.objs.size with
      | none => exact e
      | some o => have := sg _ _ e; rw [fresh] at this; cases this
    · rw [List.mem_singleton.mp hp]
      exact ⟨⟨lo, kp _ _ hlo1, hlo2⟩, hlL, hlg, by rw [get?_maskH, if_neg (by simp)]⟩
    · rcases lookup_set e with ⟨rfl, rfl⟩ | ⟨_, e⟩
      · exact ⟨.ref l, by (first | rfl | kernel_rfl), rfl⟩
      · rcases lookup_set e with ⟨rfl, rfl⟩ | ⟨_, e⟩
        · exact ⟨bv, by (first | rfl | kernel_rfl), hbv⟩
        · cases e
  have walk : Tr C [("sack", .val (.ref l)), ("below", dInt below)] [(l, lstG [dInts cells, dInt turn])] D__law_take.body (fun fl _ μ τ => (∃ v, fl = .ret v ∧ (v, dInt (takeV cells turn below)) ∈ τ) ∧ μ = [(l, lstG [dInts cells, dInt (turn + 1 : Nat)])]) := by
    refine Tr.cons (Tx.assignLV (rs := [dInts cells, dInt turn]) O [("cells", _), ("turn", _)] (PE.name O (by (first | rfl | kernel_rfl)) (by (first | rfl | kernel_rfl)) (by (first | rfl | kernel_rfl))) (.head _) rfl (by (repeat' (first | exact List.forall_mem_nil _ | refine List.forall_mem_cons.mpr ⟨by (first | rfl | kernel_rfl), ?_⟩))) ?_)
    refine Tr.cons ?_
    refine Tx.set1 O (r := dInt (turn + 1 : Nat)) (PE.addE (PE.name O (by (first | rfl | kernel_rfl)) (by (first | rfl | kernel_rfl)) (by (first | rfl | kernel_rfl))) (PE.int 1 _)) (PE.name O (by (first | rfl | kernel_rfl)) (by (first | rfl | kernel_rfl)) (by (first | rfl | kernel_rfl))) (PE.int 1 _) ?_
    refine Tr.cons (Tx.ret (r := dInt (takeV cells turn below)) ?_ fun v => (show (∃ u, Flow.ret v = Flow.ret u ∧ (u, _) ∈ [(v, _)]) ∧ _ = _ from ⟨⟨v, rfl, List.Mem.head _⟩, rfl⟩))
    refine PE.ite (b := decide (turn < cells.length)) (PT.cmp (PE.name O (by (first | rfl | kernel_rfl)) (by (first | rfl | kernel_rfl)) (by (first | rfl | kernel_rfl))) (PE.lenI O (PE.name O (by (first | rfl | kernel_rfl)) (by (first | rfl | kernel_rfl)) (by (first | rfl | kernel_rfl))) (by (first | rfl | kernel_rfl)) (by (first | decide | assumption | omega))) (CmpR.ltE (by rw [decide_eq_true_iff]; (first | decide | assumption | omega)))) (fun h => ?_) (fun h => ?_)
    · have h' := of_decide_eq_true h
      rw [takeV, if_pos h']
      exact PE.mod (PE.absI O (PE.itemI (n := turn) (PE.name O (by (first | rfl | kernel_rfl)) (by (first | rfl | kernel_rfl)) (by (first | rfl | kernel_rfl))) (PE.name O (by (first | rfl | kernel_rfl)) (by (first | rfl | kernel_rfl)) (by (first | rfl | kernel_rfl))) rfl h' (by (first | decide | assumption | omega))) (by (first | rfl | kernel_rfl))) (PE.name O (by (first | rfl | kernel_rfl)) (by (first | rfl | kernel_rfl)) (by (first | rfl | kernel_rfl))) (by (first | decide | assumption | omega))
    · have h' := of_decide_eq_false h
      rw [takeV, if_neg h']
      exact PE.modN (PE.addE (k := (3 * turn + turn / 2 + 1 : Nat)) (PE.addE (k := (3 * turn + turn / 2 : Nat)) (PE.mulN (a := 3) (b := turn) (c := 3 * turn) (PE.int 3 _) (PE.name O (by (first | rfl | kernel_rfl)) (by (first | rfl | kernel_rfl)) (by (first | rfl | kernel_rfl))) (by (first | decide | assumption | omega)) rfl) (PE.divN (i := turn) (j := 2) (PE.name O (by (first | rfl | kernel_rfl)) (by (first | rfl | kernel_rfl)) (by (first | rfl | kernel_rfl))) (PE.int 2 _) (by (first | decide | assumption | omega)) (by (first | decide | assumption | omega)))) (PE.int 1 _) (by (first | decide | assumption | omega))) (PE.name O (by (first | rfl | kernel_rfl)) (by (first | rfl | kernel_rfl)) (by (first | rfl | kernel_rfl))) h1
  refine wpAny_mono (walk [] _ (fun _ _ => False) at0) (fun fl s' h' => ?_) fun _ _ x => x
  obtain ⟨ρ', μ', τ', a', ⟨v, rfl, hv⟩, rfl⟩ := h'
  obtain ⟨⟨h', t', e⟩, g', m', S, V, T'⟩ := a'
  subst e
  obtain ⟨⟨lo', hl1, hl2⟩, _, hlg', _⟩ := S.mu _ (.head _)
  refine ⟨v, g', h', t', rfl, rfl, fun b o hb e => S.old b o ?_, S.sub0, S.keep, fun b o e ⟨o', e'⟩ => ?_, ⟨lo', hl1, hl2⟩, T' _ (List.mem_append_left _ hv)⟩
  · show (maskH s.heap fun b => decide (b ≠ l)).get? b = some o
    rw [get?_maskH, if_pos (by simpa using hb)]; exact e
  · by_cases hb : b = l
    · subst hb; rw [hlg'] at e; cases e
    · refine S.back b o e ⟨o', ?_⟩
      show (maskH s.heap fun b => decide (b ≠ l)).get? b = some o'
      rw [get?_maskH, if_pos (by simpa using hb)]; exact e'
end Mine
namespace Mine
open PySem PySem.W PySem.Calls PySem.Spec PyProof.Rows PySem.SeqAt

section
variable {C : Cx} {ρ : Vs} {μ : Ms} {e1 e2 : PySem.Expr} {pos np : Pos}
theorem EV.take {l : Addr} {cells : List Int} {turn below : Nat} (O : Ok C) (hY : C.lay.defs = allDefs) (hk : C.env.kindOf "_law_take" = some .globalImplicit) (hA : AOk 0 C.A) (hb1 : 1 ≤ below) (hb : below ≤ 1000) (ht : turn ≤ 1000) (hc : cells.length ≤ 100)
    (p1 : PE C ρ ((l, lstG [dInts cells, dInt turn]) :: μ) e1 (.val (.ref l))) (p2 : PE C ρ ((l, lstG [dInts cells, dInt turn]) :: μ) e2 (dInt below)) (hs : backTo pos (starEach [e1, e2] C.env) = trees [e1, e2] C.env := by rfl) :
    EV C ρ ((l, lstG [dInts cells, dInt turn]) :: μ) (.Call (.Name "_law_take" np) [e1, e2] [] pos) ((l, lstG [dInts cells, dInt (turn + 1 : Nat)]) :: μ) (dInt (takeV cells turn below)) := fun τ s Q E a h => by
  have hdf : D__law_take ∈ C.lay.defs := by rw [hY]; unfold allDefs; simp
  obtain ⟨f, o, pm, cd, doc, h1, h2, h3, h4⟩ := (O.top.mono a.heap0).fn _ hdf
  have h1' : C.lay.mg "_law_take" = some (.ref f) := h1
  refine wpAny_Call_NameR (nameG O hk h1' (by (first | rfl | kernel_rfl)) a ?_)
  rw [hs]
  refine callWith_function (args_run (.cons p1 (.cons p2 .nil)) (by simp) a fun vs s1 hl a1 => ⟨⟨?_, h3⟩, ?_⟩) (o := o)
  · obtain ⟨f', o', pm', cd', doc', k1, k2, k3, k4⟩ := (O.top).fn _ hdf
    have k1' : C.lay.mg "_law_take" = some (.ref f') := k1
    have : f' = f := by rw [k1'] at h1'; cases h1'; rfl
    subst this
    have e1 := a.heap0 _ _ k2
    rw [h2] at e1; cases e1
    exact a1.heap0 _ _ k2
  · rw [List.nil_append]
    obtain ⟨v, bv, rfl⟩ := two_of hl
    obtain ⟨hsm, g, m, S, V, T⟩ := a1
    have ev : v = .ref l := T (v, .val (.ref l)) (by simp)
    subst ev
    obtain ⟨hlo, hlL, hlg, hl0⟩ := S.mu _ (.head _)
    have nd := S.nd
    rw [List.map_cons, List.nodup_cons] at nd
    refine wpAny_call (codeAny_mono (take_run hY cells turn below hb1 hb ht hc C.A s1 g C.h₀ l f bv hA O.top S.old hl0 h1' S.keep hlg hlo (T (bv, dInt below) (by simp))) fun r s' b => ?_)
    obtain ⟨v, g', h', t', rfl, rfl, k1, k2, k3, k4, k5, k6⟩ := b
    have back : ∀ b o, g'.get? b = some o → (∃ o', s1.heap.get? b = some o') → g.get? b = some o := k4
    have none' : ∀ b, (∃ o', s1.heap.get? b = some o') → g.get? b = none → g'.get? b = none := fun b hb hn => by
      cases e : g'.get? b with
      | none => rfl
      | some o => have := back b o e hb; rw [hn] at this; cases this
    obtain ⟨oL, esL, epL, hoL, hrL⟩ := id S.ns
    refine h v _ ⟨hsm.next _ _, g', m, ⟨S.ns.at (fun o e => k1 _ o (Ne.symm hlL) e), k3, fun b o e => k1 b o (by rintro rfl; rw [hl0] at e; cases e) (S.old b o e), S.sub0.trans k2, fun b o e ⟨o', e'⟩ => S.back b o (back b o e ⟨o', S.old _ _ e'⟩) ⟨o', e'⟩, none' _ ⟨oL, hoL⟩ S.gL, S.oL, fun p hp => ?_, S.nd⟩, V.mono k2, TmpOk.cons k6 fun p hp => (T.mono k2) p (by simp [show p ∈ τ from hp])⟩
    rcases List.mem_cons.mp hp with rfl | hp
    · exact ⟨k5, hlL, none' _ (let ⟨o, ho, _⟩ := hlo; ⟨o, ho⟩) hlg, hl0⟩
    · obtain ⟨⟨o2, q1, q2⟩, q3, q4, q5⟩ := S.mu p (.tail _ hp)
      exact ⟨⟨o2, k1 _ _ (fun e => nd.1 (List.mem_map.mpr ⟨p, hp, e⟩)) q1, q2.mono k2⟩, q3, none' _ ⟨o2, q1⟩ q4, q5⟩
end
end Mine
namespace Mine
open PySem PySem.W PySem.Calls PySem.Spec PyProof.Rows PySem.SeqAt

noncomputable def takeN (cells : List Int) (turn below : Nat) : Nat := (takeV cells turn below).toNat
theorem takeN_eq (cells : List Int) (turn below : Nat) (h : 1 ≤ below) : takeV cells turn below = takeN cells turn below := by
  have := take_range cells turn below h
  unfold takeN; (first | decide | assumption | omega)
theorem takeN_lt (cells : List Int) (turn below : Nat) (h : 1 ≤ below) : takeN cells turn below < below := by
  have := take_range cells turn below h
  unfold takeN; (first | decide | assumption | omega)
section
variable {C : Cx} {ρ : Vs} {μ μ' μ1 : Ms} {e e1 e2 : PySem.Expr} {es : List PySem.Expr} {pos np xp : Pos} {x : Str} {r res : Rk} {rs ds : List Rk} {P : Post} {K : List Rk → Ms → Prop}
theorem EV.takeN {l : Addr} {cells : List Int} {turn below : Nat} (O : Ok C) (hY : C.lay.defs = allDefs) (hk : C.env.kindOf "_law_take" = some .globalImplicit) (hA : AOk 0 C.A) (hb1 : 1 ≤ below) (hb : below ≤ 1000) (ht : turn ≤ 1000) (hc : cells.length ≤ 100)
    (p1 : PE C ρ ((l, lstG [dInts cells, dInt turn]) :: μ) e1 (.val (.ref l))) (p2 : PE C ρ ((l, lstG [dInts cells, dInt turn]) :: μ) e2 (dInt below)) (hs : backTo pos (starEach [e1, e2] C.env) = trees [e1, e2] C.env := by rfl) :
    EV C ρ ((l, lstG [dInts cells, dInt turn]) :: μ) (.Call (.Name "_law_take" np) [e1, e2] [] pos) ((l, lstG [dInts cells, dInt (turn + 1 : Nat)]) :: μ) (dInt (Mine.takeN cells turn below)) := by
  have h := EV.take (pos := pos) (np := np) O hY hk hA hb1 hb ht hc p1 p2 hs
  rw [takeN_eq _ _ _ hb1] at h
  exact h
theorem EV.and2 (p1 : EV C ρ μ e1 μ1 (dBool true)) (p2 : EV C ρ μ1 e2 μ' (dBool true)) : EV C ρ μ (.BoolOp .And [e1, e2] pos) μ' (dBool true) := fun τ s Q E a k =>
  BoolOp_and (p1 τ s _ E a fun v s1 a1 => by
    have := holds_bool a1.top
    subst this
    refine wpAny_truthy_bool ?_
    simp only [if_true]
    exact BoolOp_one (p2 τ s1 Q E a1.drop k))
theorem Tx.retE (p : EV C ρ μ e μ' r) (h : ∀ v, P (.ret v) ρ μ' [(v, r)]) : Tx C ρ μ (.Return (some e) pos) P := fun τ s E a =>
  wpAny_Return_some (p τ s _ E a fun v s1 a1 => ⟨_, _, [(v, r)], a1, h v⟩)
/-- a cell is filled with what may turn -/
theorem Tx.assignCX {c : Addr} {k : Mk} (O : Ok C) (hl : C.env.kindOf x = some .cell) (hc : C.env.cells.lookup x = some c) (hk : ∀ g o, k.holds g o → ∃ v0, o.data = .cell v0)
    (p : EX C ρ μ e fun r μ' => ∃ μ1, ((c, k) :: μ1).Perm μ' ∧ P .next ρ ((c, .cell r) :: μ1) []) (hs : swapsWith e (some (.Name x xp)) pos.line C.env = pure false := by rfl) : Tx C ρ μ (.Assign [.Name x xp] e pos) P := fun τ s E a =>
  wpAny_Assign_Name (hs := hs) (p τ s _ E a fun v s1 r μ' ⟨μ1, hp, h⟩ a1 => (a1.perm hp).storeC O hl hc hk fun s2 a2 => ⟨_, _, [], a2, h⟩)
/-- a def of the text's, whose arguments leave something -/
theorem callFE (O : Ok C) {n : Nat} (hk : C.env.kindOf x = some .globalImplicit) {d : DefRec} (hdf : d ∈ C.lay.defs) (hn : d.name = x) (sp : Spec C.lay n x ds res) (hA : AOk n C.A)
    (hd : (x == ("__debug__" : Str)) = false) (p : EXs C ρ μ es fun rs μ1 => rs = ds ∧ μ1 = μ') (hne : es ≠ [])
    (hs : backTo pos (starEach es C.env) = trees es C.env) : EV C ρ μ (.Call (.Name x np) es [] pos) μ' res := fun τ s Q E a h => by
  obtain ⟨f, o, pm, cd, doc, h1, h2, h3, h4⟩ := (O.top.mono a.heap0).fn d hdf
  rw [hn] at h1
  refine wpAny_Call_NameR (nameG O hk h1 hd a ?_)
  rw [hs]
  cases es with
  | nil => exact absurd rfl hne
  | cons e es =>
  refine callWith_function (evalArgs_plain (p τ s _ E a fun vs s1 rs μ1 hl ⟨hr, hm⟩ a1 => ⟨⟨?_, h3⟩, ?_⟩)) (o := o)
  · obtain ⟨f', o', pm', cd', doc', k1, k2, k3, k4⟩ := (O.top).fn d hdf
    rw [hn] at k1
    have : f' = f := by rw [k1] at h1; cases h1; rfl
    subst this
    have e1 := a.heap0 _ _ k2
    rw [h2] at e1; cases e1
    exact a1.heap0 _ _ k2
  · subst hr hm
    rw [List.nil_append]
    obtain ⟨hsm, g, m, S, V, T⟩ := a1
    have T1 := O.top.mono S.old
    refine wpAny_call (codeAny_mono (sp C.A s1 g vs f hA T1 h1 S.keep (zip_hold hl T)) fun r s' b => ?_)
    obtain ⟨v, g', h', t', rfl, rfl, k1, k2, k3, k4, k5⟩ := b
    refine h v _ ⟨hsm.next _ _, g', m, (S.ext k1).grown k2 k3 fun b o e => ?_, V.mono k2, TmpOk.cons k5 fun p hp => (T.mono k2) p (List.mem_append_right _ hp)⟩
    cases e2 : s1.heap.get? b with
    | some o' => exact .inl (k4 b o e ⟨o', e2⟩)
    | none =>
      refine .inr ⟨?_, ?_, ?_⟩
      · cases e3 : C.h₀.get? b with
        | none => rfl
        | some o3 => have := S.old _ _ e3; rw [e2] at this; cases this
      · rintro rfl
        obtain ⟨_, _, _, ho, _⟩ := S.ns
        rw [e2] at ho; cases ho
      · rintro p hp rfl
        obtain ⟨⟨o2, q1, _⟩, _⟩ := S.mu p hp
        rw [e2] at q1; cases q1
end

/-! ## law -/
structure LawOk : Prop where
  rows : ∀ path : List Int, path.length ≤ 14 → ∀ t ∈ stepsL path, rowOk t
  ways : ∀ path : List Int, path ≠ [] → path.length ≤ 14 → WaysOk path
  cut : ∀ (path : List Int) (cut : Nat), path.length ≤ 14 → cut ≤ path.length → CutOk path cut
  rounds : ∀ (path : List Int) (t : Nat), path ≠ [] → path.length ≤ 14 → (∀ x ∈ path, x ∈ five) → t ≤ 3 → RoundsOk path t
  gone : ∀ (word : List Int) (many t : Nat), (∀ x ∈ word, x = 10 ∨ x = 20) → 1 ≤ word.length → word.length ≤ 4 → 2 ≤ many → many ≤ 4 → t < word.length → roundRight (goneRound word many t) = true

theorem spec_law {Y : Lay} (hY : Y.defs = allDefs) (W : LawOk) (script : List Int) (hn : script.length ≤ 1000) : Spec Y 5 "law" [dInts script] (dBool true) := by
  refine spec_fn D_law (by rw [hY]; unfold allDefs; simp) ["script"] [("script", dInts script)] (fun L => [(L + 1, cellN)]) ?_ rfl ?_ ?_ ?_ ?_ ?_ ?_ ?_ rfl rfl rfl ?_
  · intro vs pm cd doc hl
    obtain ⟨_, rfl⟩ := List.length_eq_one_iff.mp hl
    rfl
  · decide
  · repeat' (first | exact List.forall_mem_nil _ | refine List.forall_mem_cons.mpr ⟨.inl (by (first | rfl | kernel_rfl)), ?_⟩)
  · decide
  · intro L
    show ([L + 1] : List Addr).Nodup
    simp
  · intro L p hp
    have hp' : p ∈ [(Str.ofString "sack", L + 1)] := hp
    rw [List.mem_singleton.mp hp']
    show D_law.scope.names.lookup (Str.ofString "sack") ≠ some .local
    decide
  · repeat' (first | exact List.forall_mem_nil _ | refine List.forall_mem_cons.mpr ⟨⟨by (first | rfl | kernel_rfl), by (first | rfl | kernel_rfl)⟩, ?_⟩)
  · intro L; (first | rfl | kernel_rfl)
  · rintro ⟨lay, A, env, h0, g0, s0⟩ L fa cd hlay O hA henv
    subst henv
    cases hlay
    have hc : (script.take 30).length ≤ 100 := by simp; (first | decide | assumption | omega)
    refine Tr.cons ?_
    refine Tx.assignCX (c := L + 1) O (by (first | rfl | kernel_rfl)) (by (first | rfl | kernel_rfl)) (fun _ _ h => cellN_is h) (EX.list (rs := [dInts (script.take 30), dInt 0]) (.cons (PE.sliceI (PE.name O (by (first | rfl | kernel_rfl)) (by (first | rfl | kernel_rfl)) (by (first | rfl | kernel_rfl))) .none (.some (PE.int 30 _)) .none (by simp) (by (first | decide | assumption | omega)) (pickL_upto script 30)) (.cons (PE.int 0 _) .nil)) fun l => ⟨[(l, .list [dInts (script.take 30), dInt 0])], List.Perm.swap .., ?_⟩)
    generalize script.take 30 = cells at *
    refine Tr.perm (List.Perm.swap ..) (Tr.weakM (k' := lstG [dInts cells, dInt (0 : Nat)]) (fun _ _ h => lstG_of h) ?_)
    have A0 := hA 0 (by (first | decide | assumption | omega))
    have b1 := takeN_lt cells 0 15 (by (first | decide | assumption | omega))
    obtain ⟨n1, hn1⟩ : ∃ n1 : Nat, n1 = 14 - takeN cells 0 15 := ⟨_, rfl⟩
    refine Tr.cons (Tx.assignComp (n := n1) (Dr := fun k => dInt (k : Nat)) (μ0 := []) O rfl (by decide) (by decide) rfl (fun i => [(l, lstG [dInts cells, dInt (1 + i : Nat)]), (L + 1, .cell (.val (.ref l)))])
      (srcs_range1E O (EV.subE (PE.int 14 _) (EV.takeN (cells := cells) (turn := 0) (below := 15) (l := l) O hY (by (first | rfl | kernel_rfl)) A0 (by (first | decide | assumption | omega)) (by (first | decide | assumption | omega)) (by (first | decide | assumption | omega)) hc (PE.cell (c := L + 1) O (by (first | rfl | kernel_rfl)) (by (first | rfl | kernel_rfl)) (.tail _ (.head _)) (by (first | rfl | kernel_rfl))) (PE.int 15 _)) (by (first | decide | assumption | omega))) (by (first | rfl | kernel_rfl)) (by (first | decide | assumption | omega)))
      (fun _ => []) (fun i => [("turn", dInt (i : Nat))]) (fun i => .int (10 + 10 * (takeN cells (1 + i) 5 : Nat))) rfl (fun L2 i hi => Asg.name (O.comp rfl L2) (by (first | rfl | kernel_rfl))) (fun i hi p hp => by simp at hp)
      (fun L2 i hi ν => EV.addE (PE.int 10 _) (EV.mulE (PE.int 10 _) (EV.takeN (cells := cells) (turn := 1 + i) (below := 5) (l := l) (O.comp rfl L2) hY (by (first | rfl | kernel_rfl)) A0 (by (first | decide | assumption | omega)) (by (first | decide | assumption | omega)) (by (first | decide | assumption | omega)) hc (PE.cell (c := L + 1) (O.comp rfl L2) (by (first | rfl | kernel_rfl)) (by (first | rfl | kernel_rfl)) (.tail _ (.head _)) (by (first | rfl | kernel_rfl))) (PE.int 5 _)) (IntMulOk.of_left (by decide +kernel)) rfl) rfl) (by (first | decide | assumption | omega)) (by (first | rfl | kernel_rfl)) ?_)
    have ep : (List.range n1).map (fun i => PyData.int (10 + 10 * (takeN cells (1 + i) 5 : Nat))) = zs ((List.range n1).map fun i => (10 + 10 * (takeN cells (1 + i) 5 : Nat) : Int)) := by rw [zs, List.map_map]; rfl
    rw [ep]
    have hpl : ((List.range n1).map fun i => (10 + 10 * (takeN cells (1 + i) 5 : Nat) : Int)).length ≤ 14 := by simp; (first | decide | assumption | omega)
    have hp5 : ∀ x ∈ ((List.range n1).map fun i => (10 + 10 * (takeN cells (1 + i) 5 : Nat) : Int)), x ∈ five := by
      intro x hx
      obtain ⟨i, _, rfl⟩ := List.mem_map.mp hx
      have := takeN_lt cells (1 + i) 5 (by (first | decide | assumption | omega))
      generalize takeN cells (1 + i) 5 = v at this
      have hv : v = 0 ∨ v = 1 ∨ v = 2 ∨ v = 3 ∨ v = 4 := by (first | decide | assumption | omega)
      rcases hv with rfl | rfl | rfl | rfl | rfl <;> decide
    clear ep
    generalize ((List.range n1).map fun i => (10 + 10 * (takeN cells (1 + i) 5 : Nat) : Int)) = path at *
    have b2 := takeN_lt cells (1 + n1) 4 (by (first | decide | assumption | omega))
    obtain ⟨n2, hn2⟩ : ∃ n2 : Nat, n2 = 1 + takeN cells (1 + n1) 4 := ⟨_, rfl⟩
    refine Tr.cons (Tx.assignComp (n := n2) (Dr := fun k => dInt (k : Nat)) (μ0 := []) O rfl (by decide) (by decide) rfl (fun i => [(l, lstG [dInts cells, dInt (1 + n1 + 1 + i : Nat)]), (L + 1, .cell (.val (.ref l)))])
      (srcs_range1E O (EV.addE (PE.int 1 _) (EV.takeN (cells := cells) (turn := 1 + n1) (below := 4) (l := l) O hY (by (first | rfl | kernel_rfl)) A0 (by (first | decide | assumption | omega)) (by (first | decide | assumption | omega)) (by (first | decide | assumption | omega)) hc (PE.cell (c := L + 1) O (by (first | rfl | kernel_rfl)) (by (first | rfl | kernel_rfl)) (.tail _ (.head _)) (by (first | rfl | kernel_rfl))) (PE.int 4 _)) (by (first | decide | assumption | omega))) (by (first | rfl | kernel_rfl)) (by (first | decide | assumption | omega)))
      (fun _ => []) (fun i => [("turn", dInt (i : Nat))]) (fun i => .int (10 + 10 * (takeN cells (1 + n1 + 1 + i) 2 : Nat))) rfl (fun L2 i hi => Asg.name (O.comp rfl L2) (by (first | rfl | kernel_rfl))) (fun i hi p hp => by simp at hp)
      (fun L2 i hi ν => EV.addE (PE.int 10 _) (EV.mulE (PE.int 10 _) (EV.takeN (cells := cells) (turn := 1 + n1 + 1 + i) (below := 2) (l := l) (O.comp rfl L2) hY (by (first | rfl | kernel_rfl)) A0 (by (first | decide | assumption | omega)) (by (first | decide | assumption | omega)) (by (first | decide | assumption | omega)) hc (PE.cell (c := L + 1) (O.comp rfl L2) (by (first | rfl | kernel_rfl)) (by (first | rfl | kernel_rfl)) (.tail _ (.head _)) (by (first | rfl | kernel_rfl))) (PE.int 2 _)) (IntMulOk.of_left (by decide +kernel)) rfl) rfl) (by (first | decide | assumption | omega)) (by (first | rfl | kernel_rfl)) ?_)
    have ew : (List.range n2).map (fun i => PyData.int (10 + 10 * (takeN cells (1 + n1 + 1 + i) 2 : Nat))) = zs ((List.range n2).map fun i => (10 + 10 * (takeN cells (1 + n1 + 1 + i) 2 : Nat) : Int)) := by rw [zs, List.map_map]; rfl
    rw [ew]
    have hwl : ((List.range n2).map fun i => (10 + 10 * (takeN cells (1 + n1 + 1 + i) 2 : Nat) : Int)).length = n2 := by simp
    have hw2 : ∀ x ∈ ((List.range n2).map fun i => (10 + 10 * (takeN cells (1 + n1 + 1 + i) 2 : Nat) : Int)), x = 10 ∨ x = 20 := by
      intro x hx
      obtain ⟨i, _, rfl⟩ := List.mem_map.mp hx
      have := takeN_lt cells (1 + n1 + 1 + i) 2 (by (first | decide | assumption | omega))
      (first | decide | assumption | omega)
    clear ew
    generalize ((List.range n2).map fun i => (10 + 10 * (takeN cells (1 + n1 + 1 + i) 2 : Nat) : Int)) = word at *
    obtain ⟨t3, ht3⟩ : ∃ t3 : Nat, t3 = 1 + n1 + 1 + n2 := ⟨_, rfl⟩
    rw [← ht3]
    have b3 := takeN_lt cells t3 3 (by (first | decide | assumption | omega))
    have b4 := takeN_lt cells (t3 + 1) word.length (by (first | decide | assumption | omega))
    have b5 := takeN_lt cells (t3 + 2) (path.length + 1) (by (first | decide | assumption | omega))
    refine Tr.cons ?_
    refine Tx.assign2X O (by (first | rfl | kernel_rfl)) (by (first | rfl | kernel_rfl)) (EXs.cons (EV.ex (EV.addE (k := (2 + takeN cells t3 3 : Nat)) (PE.int 2 _) (EV.takeN (cells := cells) (turn := t3) (below := 3) (l := l) O hY (by (first | rfl | kernel_rfl)) A0 (by (first | decide | assumption | omega)) (by (first | decide | assumption | omega)) (by (first | decide | assumption | omega)) hc (PE.cell (c := L + 1) O (by (first | rfl | kernel_rfl)) (by (first | rfl | kernel_rfl)) (.tail _ (.head _)) (by (first | rfl | kernel_rfl))) (PE.int 3 _)) (by (first | decide | assumption | omega)))
      (EXs.cons (EV.ex (EV.takeN (cells := cells) (turn := t3 + 1) (below := word.length) (l := l) O hY (by (first | rfl | kernel_rfl)) A0 (by (first | decide | assumption | omega)) (by (first | decide | assumption | omega)) (by (first | decide | assumption | omega)) hc (PE.cell (c := L + 1) O (by (first | rfl | kernel_rfl)) (by (first | rfl | kernel_rfl)) (.tail _ (.head _)) (by (first | rfl | kernel_rfl))) (PE.lenI O (PE.name O (by (first | rfl | kernel_rfl)) (by (first | rfl | kernel_rfl)) (by (first | rfl | kernel_rfl))) (by (first | rfl | kernel_rfl)) (by (first | decide | assumption | omega)))) (EXs.nil ⟨_, _, rfl, ?_⟩)))))
    generalize takeN cells (t3 + 1) word.length = turn at *
    generalize takeN cells t3 3 = mm at *
    have hgone := W.gone word (2 + mm) turn hw2 (by (first | decide | assumption | omega)) (by (first | decide | assumption | omega)) (by (first | decide | assumption | omega)) (by (first | decide | assumption | omega)) (by (first | decide | assumption | omega))
    have hspr := spec_round_right hY word (2 + mm) turn (by (first | decide | assumption | omega)) (by (first | decide | assumption | omega)) (by (first | decide | assumption | omega)) (by (first | decide | assumption | omega)) (by (first | decide | assumption | omega))
    rw [hgone] at hspr
    refine Tr.cons (Tx.ite (b := !true) (PT.not (PT.val (callF O (by (first | rfl | kernel_rfl)) (d := D__law_round_right) (by rw [show (Cx.lay _).defs = _ from hY]; unfold allDefs; simp) rfl hspr (hA 3 (by (first | decide | assumption | omega))) (by (first | rfl | kernel_rfl)) (.cons (PE.name O (by (first | rfl | kernel_rfl)) (by (first | rfl | kernel_rfl)) (by (first | rfl | kernel_rfl))) (.cons (PE.name O (by (first | rfl | kernel_rfl)) (by (first | rfl | kernel_rfl)) (by (first | rfl | kernel_rfl))) (.cons (PE.name O (by (first | rfl | kernel_rfl)) (by (first | rfl | kernel_rfl)) (by (first | rfl | kernel_rfl))) .nil))) (by simp) rfl))) (fun h => by cases h) (fun _ => Tr.nil ?_))
    have l64 : path.length < 64 := by (first | decide | assumption | omega)
    refine Tr.cons (Tx.assign2 O (d1 := .list (tups (stepsL path))) (d2 := .list (tups (countsL path))) (PE.tuple (ds := [.list (tups (stepsL path)), .list (tups (countsL path))]) _
      (.cons (callF O (by (first | rfl | kernel_rfl)) (d := D_steps_between) (by rw [show (Cx.lay _).defs = _ from hY]; unfold allDefs; simp) rfl (spec_steps hY path l64) (hA 0 (by (first | decide | assumption | omega))) (by (first | rfl | kernel_rfl)) (.cons (PE.name O (by (first | rfl | kernel_rfl)) (by (first | rfl | kernel_rfl)) (by (first | rfl | kernel_rfl))) .nil) (by simp) rfl)
        (.cons (callF O (by (first | rfl | kernel_rfl)) (d := D_counts_of) (by rw [show (Cx.lay _).defs = _ from hY]; unfold allDefs; simp) rfl (spec_counts hY path l64) (hA 0 (by (first | decide | assumption | omega))) (by (first | rfl | kernel_rfl)) (.cons (PE.name O (by (first | rfl | kernel_rfl)) (by (first | rfl | kernel_rfl)) (by (first | rfl | kernel_rfl))) .nil) (by simp) rfl) .nil))) (by (first | rfl | kernel_rfl)) (by (first | rfl | kernel_rfl)) ?_)
    refine Tr.cons (Tx.ite (b := decide (path = [])) (PT.cmp (PE.name O (by (first | rfl | kernel_rfl)) (by (first | rfl | kernel_rfl)) (by (first | rfl | kernel_rfl))) (PE.listD (ds := []) .nil) (CmpR.eqI O path [])) (fun hb => ?_) (fun hb => Tr.nil ?_))
    · have hb' := of_decide_eq_true hb
      subst hb'
      refine Tr.cons (Tx.ret (r := dBool true) (PE.allT (by simp) (List.forall_mem_cons.mpr ⟨?_, List.forall_mem_cons.mpr ⟨?_, List.forall_mem_cons.mpr ⟨?_, List.forall_mem_cons.mpr ⟨?_, List.forall_mem_nil _⟩⟩⟩⟩)) (fun v => (show ∃ u, Flow.ret v = Flow.ret u ∧ (u, _) ∈ [(v, _)] from ⟨v, rfl, List.Mem.head _⟩)))
      · exact PE.cmp (PE.name O (by (first | rfl | kernel_rfl)) (by (first | rfl | kernel_rfl)) (by (first | rfl | kernel_rfl))) (PE.listD (ds := []) .nil) (CmpR.eqTE O (x := stepsL []) (y := []) (by decide +kernel))
      · exact PE.cmp (PE.name O (by (first | rfl | kernel_rfl)) (by (first | rfl | kernel_rfl)) (by (first | rfl | kernel_rfl))) (PE.listD (ds := []) .nil) (CmpR.eqTE O (x := countsL []) (y := []) (by decide +kernel))
      · exact PE.cmp (callF O (by (first | rfl | kernel_rfl)) (d := D_rounds_of) (by rw [show (Cx.lay _).defs = _ from hY]; unfold allDefs; simp) rfl (spec_rounds_of hY [] (by simp)) (hA 2 (by (first | decide | assumption | omega))) (by (first | rfl | kernel_rfl)) (.cons (PE.name O (by (first | rfl | kernel_rfl)) (by (first | rfl | kernel_rfl)) (by (first | rfl | kernel_rfl))) .nil) (by simp) rfl) (PE.listD (ds := []) .nil) (CmpR.eqRE O (x := roundsL []) (y := []) (by decide +kernel))
      · exact PE.cmp (callF O (by (first | rfl | kernel_rfl)) (d := D_shown_path) (by rw [show (Cx.lay _).defs = _ from hY]; unfold allDefs; simp) rfl (spec_shown hY [] (by simp) (by simp)) (hA 3 (by (first | decide | assumption | omega))) (by (first | rfl | kernel_rfl)) (.cons (PE.name O (by (first | rfl | kernel_rfl)) (by (first | rfl | kernel_rfl)) (by (first | rfl | kernel_rfl))) .nil) (by simp) rfl) (PE.str _ _) (CmpR.eqSE (by decide +kernel))
    · have hne : path ≠ [] := of_decide_eq_false hb
      have hrow := W.rows path hpl
      refine Tr.cons (Tx.ite (b := !true) (PT.not (PT.val (callF O (by (first | rfl | kernel_rfl)) (d := D__law_ways_right) (by rw [show (Cx.lay _).defs = _ from hY]; unfold allDefs; simp) rfl (spec_ways_right hY path (by (first | decide | assumption | omega)) hrow (W.ways path hne hpl)) (hA 1 (by (first | decide | assumption | omega))) (by (first | rfl | kernel_rfl)) (.cons (PE.name O (by (first | rfl | kernel_rfl)) (by (first | rfl | kernel_rfl)) (by (first | rfl | kernel_rfl))) (.cons (PE.name O (by (first | rfl | kernel_rfl)) (by (first | rfl | kernel_rfl)) (by (first | rfl | kernel_rfl))) (.cons (PE.name O (by (first | rfl | kernel_rfl)) (by (first | rfl | kernel_rfl)) (by (first | rfl | kernel_rfl))) .nil))) (by simp) rfl))) (fun h => by cases h) (fun _ => Tr.nil ?_))
      refine Tr.cons (Tx.retE (r := dBool true) (μ' := [(l, lstG [dInts cells, dInt (t3 + 1 + 1 + 1 : Nat)]), (L + 1, .cell (.val (.ref l)))]) (EV.and2 (μ1 := [(l, lstG [dInts cells, dInt (t3 + 1 + 1 + 1 : Nat)]), (L + 1, .cell (.val (.ref l)))]) ?_ (PE.toEV ?_)) (fun v => (show ∃ u, Flow.ret v = Flow.ret u ∧ (u, _) ∈ [(v, _)] from ⟨v, rfl, List.Mem.head _⟩)))
      · refine callFE (ds := [dInts path, dList (tups (stepsL path)), dInt (takeN cells (t3 + 2) (path.length + 1) : Nat)]) O (by (first | rfl | kernel_rfl)) (d := D__law_cut_right) (by rw [show (Cx.lay _).defs = _ from hY]; unfold allDefs; simp) rfl (spec_cut_right hY path (takeN cells (t3 + 2) (path.length + 1)) (by (first | decide | assumption | omega)) (by (first | decide | assumption | omega)) (W.cut path _ hpl (by (first | decide | assumption | omega)))) (hA 1 (by (first | decide | assumption | omega))) (by (first | rfl | kernel_rfl))
          (EXs.cons ((PE.name O (by (first | rfl | kernel_rfl)) (by (first | rfl | kernel_rfl)) (by (first | rfl | kernel_rfl)) : PE _ _ _ _ (dInts path)).ex (EXs.cons ((PE.name O (by (first | rfl | kernel_rfl)) (by (first | rfl | kernel_rfl)) (by (first | rfl | kernel_rfl)) : PE _ _ _ _ (dList (tups (stepsL path)))).ex (EXs.cons (EV.ex (EV.takeN (cells := cells) (turn := t3 + 1 + 1) (below := path.length + 1) (l := l) O hY (by (first | rfl | kernel_rfl)) A0 (by (first | decide | assumption | omega)) (by (first | decide | assumption | omega)) (by (first | decide | assumption | omega)) hc (PE.cell (c := L + 1) O (by (first | rfl | kernel_rfl)) (by (first | rfl | kernel_rfl)) (.tail _ (.head _)) (by (first | rfl | kernel_rfl))) (PE.addE (PE.lenI O (PE.name O (by (first | rfl | kernel_rfl)) (by (first | rfl | kernel_rfl)) (by (first | rfl | kernel_rfl))) (by (first | rfl | kernel_rfl)) (by (first | decide | assumption | omega))) (PE.int 1 _) (by (first | decide | assumption | omega)))) (EXs.nil ⟨rfl, rfl⟩))))))) (by simp) rfl
      · exact callF O (by (first | rfl | kernel_rfl)) (d := D__law_rounds_right) (by rw [show (Cx.lay _).defs = _ from hY]; unfold allDefs; simp) rfl (spec_rounds_right hY path turn (by (first | decide | assumption | omega)) hp5 (by (first | decide | assumption | omega)) (W.rounds path turn hne hpl hp5 (by (first | decide | assumption | omega)))) (hA 4 (by (first | decide | assumption | omega))) (by (first | rfl | kernel_rfl)) (.cons (PE.name O (by (first | rfl | kernel_rfl)) (by (first | rfl | kernel_rfl)) (by (first | rfl | kernel_rfl))) (.cons (PE.name O (by (first | rfl | kernel_rfl)) (by (first | rfl | kernel_rfl)) (by (first | rfl | kernel_rfl))) (.cons (PE.name O (by (first | rfl | kernel_rfl)) (by (first | rfl | kernel_rfl)) (by (first | rfl | kernel_rfl))) .nil))) (by simp) rfl
end Mine
namespace Mine
open PySem PySem.W PySem.Calls PySem.Spec PyProof.Rows PySem.SeqAt

/-! ## the law's contract answers the row -/
theorem join_walk {q : Program} {YP : World → Heap → Prop} (hq : recsOf q = allDefs) (hi : importsNone q = true) (hv : valOf q (Str.ofString "MOST_ROUND") = some (.int 8))
    (hf : ∀ p ∈ bnames, p.1 ∉ startupNames ∧ p.1 ∉ looseW q [] ∧ p.1 ∉ (recsOf q).map (·.name) ∧ p.1 ∉ (litsOf q).map (·.1) ∧ p.1 ∉ (clssOf q (looseW q [])).map (·.name)) (W : LawOk) :
    WalkO q [] (XL q []) YP PySem.Challenge.rw_sa0052_01.row.toRowW D_law [] (fun f vs => PySem.call f vs) := by
  intro w s₀ s₁ mg mb G Y fa o pm cd doc dV kV ho hd hcd hD hmg hg args vals as hpre hlay hrd hwl hlo
  refine Ground.open G ?_
  intro T B D TE TW
  wrow_args hpre hlay hrd hwl hlo
  rename_i r0 hI hr hc1 hc2
  refine enter_call ?_
  have TH : TopH ⟨PySem.Challenge.rw_sa0052_01.row.prog, w, mg, mb, allDefs⟩ s₁.heap := by
    refine ⟨T.g, T.b, T.nolimit, T.nodigits, fun p hp => ⟨?_, ?_⟩, ?_, ?_, fun d hd => T.fn d (hq ▸ hd)⟩
    · obtain ⟨f1, f2, f3, f4, f5⟩ := hf p hp
      exact T.free p.1 f1 f2 f3 f4 f5
    · refine (T.builtins p.1 ?_).trans ?_
      all_goals (revert p; decide +kernel)
    · obtain ⟨mm, ⟨o, _, _, ho, _⟩, _⟩ := (T.seer hi).mods
      exact ⟨o, ho⟩
    · obtain ⟨v, hv, hR⟩ := T.const (Str.ofString "MOST_ROUND") (.int 8) hv
      obtain ⟨t, e, _⟩ := reads_int_inv (hR s₁.heap)
      exact ⟨t, hv.trans (by rw [e])⟩
  refine codeAny_mono (spec_law (Y := ⟨PySem.Challenge.rw_sa0052_01.row.prog, w, mg, mb, allDefs⟩) rfl W _ ?_ callerA s₁ s₁.heap _ fa ⟨rfl, by decide +kernel, by decide +kernel⟩ TH hmg (Sub.refl _) ⟨⟨_, r0⟩, trivial⟩) fun r s' b => ?_
  · (first | decide | assumption | omega)
  · obtain ⟨v, g', h', t', rfl, rfl, k1, k2, k3, k4, k5⟩ := b
    have := holds_bool k5
    subst this
    exact ⟨.inl ⟨_, .bool true, [], rfl, fun _ => rfl, .bool true, by kernel_rfl, fun _ => ⟨.nil, fun _ h => absurd h List.not_mem_nil⟩⟩, OldK.of_keep k1, rfl, AllBare.of_eq hg⟩
end Mine
namespace Mine
open PySem PySem.W PySem.Calls PySem.Spec PyProof.Rows PySem.SeqAt

/-! ## plain laws: counts -/
section
variable {K : Type} [DecidableEq K]
/-- the sum over the keys that a test takes -/
noncomputable def wS (P : K → Bool) (ps : List (K × Int)) : Int := (ps.map fun p => if P p.1 then p.2 else 0).sum
noncomputable def kq (k x : K) : Bool := decide (x = k)
theorem wS_nil (P : K → Bool) : wS P [] = 0 := rfl
theorem wS_cons (P : K → Bool) (p : K × Int) (ps : List (K × Int)) : wS P (p :: ps) = (if P p.1 then p.2 else 0) + wS P ps := by simp [wS]
theorem wS_app (P : K → Bool) (ps qs : List (K × Int)) : wS P (ps ++ qs) = wS P ps + wS P qs := by simp [wS]
theorem sum_perm {xs ys : List Int} (h : xs.Perm ys) : xs.sum = ys.sum := by
  induction h with
  | nil => rfl
  | cons a _ ih => simp [ih]
  | swap a b l => simp only [List.sum_cons]; (first | decide | assumption | omega)
  | trans _ _ i j => exact i.trans j
theorem wS_perm (P : K → Bool) {ps qs : List (K × Int)} (h : ps.Perm qs) : wS P ps = wS P qs := sum_perm (h.map _)
theorem wS_bump (P : K → Bool) {f : List (K × Int)} (hn : (f.map (·.1)).Nodup) (k : K) (n : Int) : wS P (bumpP f k n) = wS P f + if P k then n else 0 := by
  unfold bumpP
  by_cases h : k ∈ f.map (·.1)
  · obtain ⟨f1, v, f2, rfl, h1, h2⟩ := key_split hn h
    rw [lookP_mid h1, putP_mid h1 h2]
    simp only [wS_app, wS_cons, Option.getD_some]
    split <;> (first | decide | assumption | omega)
  · rw [lookP_none h, putP_none h, wS_app, wS_cons, wS_nil]
    simp
theorem wS_bumps (P : K → Bool) : ∀ (ps f : List (K × Int)), (f.map (·.1)).Nodup → wS P (ps.foldl (fun f p => bumpP f p.1 p.2) f) = wS P f + wS P ps
  | [], f, _ => by simp [wS_nil]
  | p :: ps, f, hn => by
    rw [List.foldl_cons, wS_bumps P ps (bumpP f p.1 p.2) (putP_nodup hn _ _), wS_bump P hn, wS_cons]
    (first | decide | assumption | omega)
theorem wS_sumF (P : K → Bool) (ps : List (K × Int)) : wS P (sumF ps) = wS P ps := by
  have := wS_bumps P ps [] (by simp)
  rw [wS_nil, Int.zero_add] at this
  exact this
theorem keys_bumps : ∀ (ps f : List (K × Int)) (k : K), k ∈ (ps.foldl (fun f p => bumpP f p.1 p.2) f).map (·.1) ↔ k ∈ f.map (·.1) ∨ k ∈ ps.map (·.1)
  | [], f, k => by simp
  | p :: ps, f, k => by
    rw [List.foldl_cons, keys_bumps ps _ k]
    unfold bumpP
    rw [putP_keys, List.map_cons, List.mem_cons]
    split
    · rename_i h
      constructor
      · rintro (h1 | h1)
        · exact .inl h1
        · exact .inr (.inr h1)
      · rintro (h1 | rfl | h1)
        · exact .inl h1
        · exact .inl h
        · exact .inr h1
    · rw [List.mem_append, List.mem_singleton, or_assoc]
theorem keys_sumF (ps : List (K × Int)) (k : K) : k ∈ (sumF ps).map (·.1) ↔ k ∈ ps.map (·.1) := by
  have := keys_bumps ps [] k
  simp only [List.map_nil, List.not_mem_nil, false_or] at this
  exact this
theorem wS_none {f : List (K × Int)} {k : K} (h : k ∉ f.map (·.1)) : wS (kq k) f = 0 := by
  induction f with
  | nil => rfl
  | cons p f ih =>
    rw [List.map_cons, List.mem_cons, not_or] at h
    rw [wS_cons, ih h.2, kq, decide_eq_false (Ne.symm h.1)]
    simp
theorem wS_mem {f : List (K × Int)} (hn : (f.map (·.1)).Nodup) {k : K} {v : Int} (h : (k, v) ∈ f) : wS (kq k) f = v := by
  have hk : k ∈ f.map (·.1) := List.mem_map.mpr ⟨_, h, rfl⟩
  have e := lookP_mem hn h
  obtain ⟨f1, w, f2, rfl, h1, h2⟩ := key_split hn hk
  rw [lookP_mid h1] at e
  cases e
  rw [wS_app, wS_cons, wS_none h1, wS_none h2]
  simp [kq]
theorem lookP_wS {f : List (K × Int)} (hn : (f.map (·.1)).Nodup) (k : K) : (lookP f k).getD 0 = wS (kq k) f := by
  by_cases h : k ∈ f.map (·.1)
  · obtain ⟨⟨k', v⟩, hv, rfl⟩ := List.mem_map.mp h
    rw [lookP_mem hn hv, wS_mem hn hv]; rfl
  · rw [lookP_none h, wS_none h]; rfl
theorem wS_pos {ps : List (K × Int)} (hp : ∀ p ∈ ps, 0 < p.2) (P : K → Bool) : 0 ≤ wS P ps := by
  induction ps with
  | nil => exact Int.le_refl _
  | cons p ps ih =>
    have := ih fun q hq => hp q (.tail _ hq)
    have := hp p (.head _)
    rw [wS_cons]
    split <;> (first | decide | assumption | omega)
theorem wS_pos_of {ps : List (K × Int)} (hp : ∀ p ∈ ps, 0 < p.2) {k : K} (h : k ∈ ps.map (·.1)) : 0 < wS (kq k) ps := by
  induction ps with
  | nil => exact absurd h List.not_mem_nil
  | cons p ps ih =>
    have h1 := wS_pos (fun q hq => hp q (.tail _ hq)) (kq k)
    have h2 := hp p (.head _)
    rw [wS_cons]
    rw [List.map_cons, List.mem_cons] at h
    rcases h with rfl | h
    · simp only [kq, decide_true, if_true]; (first | decide | assumption | omega)
    · have := ih (fun q hq => hp q (.tail _ hq)) h
      split <;> (first | decide | assumption | omega)
theorem mem_sumF {ps : List (K × Int)} (hp : ∀ p ∈ ps, 0 < p.2) (p : K × Int) : p ∈ sumF ps ↔ 0 < wS (kq p.1) ps ∧ p.2 = wS (kq p.1) ps := by
  obtain ⟨k, v⟩ := p
  have hn := sumF_nodup ps
  constructor
  · intro h
    have e := wS_mem hn h
    rw [wS_sumF] at e
    refine ⟨wS_pos_of hp ((keys_sumF ps k).mp (List.mem_map.mpr ⟨_, h, rfl⟩)), e.symm⟩
  · rintro ⟨h1, h2⟩
    have hk : k ∈ (sumF ps).map (·.1) := by
      rw [keys_sumF]
      apply Classical.byContradiction
      intro h
      rw [wS_none h] at h1
      exact absurd h1 (Int.lt_irrefl _)
    obtain ⟨⟨k', w⟩, hw, rfl⟩ := List.mem_map.mp hk
    have e := wS_mem hn hw
    rw [wS_sumF] at e
    simp only at h2
    rw [h2, e]
    exact hw
theorem nodup_of_keys {f : List (K × Int)} (h : (f.map (·.1)).Nodup) : f.Nodup := (List.pairwise_map.mp h).imp fun h e => h (by rw [e])
theorem sumF_congr {ps qs : List (K × Int)} (hp : ∀ p ∈ ps, 0 < p.2) (hq : ∀ p ∈ qs, 0 < p.2) (h : ∀ k, wS (kq k) ps = wS (kq k) qs) : (sumF ps).Perm (sumF qs) :=
  (List.perm_ext_iff_of_nodup (nodup_of_keys (sumF_nodup ps)) (nodup_of_keys (sumF_nodup qs))).mpr fun p => by rw [mem_sumF hp, mem_sumF hq, h]
theorem wS_ones (P : K → Bool) (ks : List K) : wS P (ks.map fun k => (k, 1)) = (ks.countP P : Nat) := by
  induction ks with
  | nil => rfl
  | cons k ks ih =>
    rw [List.map_cons, wS_cons, ih, List.countP_cons]
    split <;> simp_all <;> (first | decide | assumption | omega)
theorem ones_pos (ks : List K) : ∀ p ∈ ks.map (fun k => (k, (1 : Int))), 0 < p.2 := by
  intro p hp
  obtain ⟨_, _, rfl⟩ := List.mem_map.mp hp
  exact Int.one_pos
theorem countP_kq (k : K) (ks : List K) : ks.countP (kq k) = ks.count k := by
  unfold List.count
  congr 1
theorem sumF_ones_perm {ks js : List K} (h : ks.Perm js) : (sumF (ks.map fun k => (k, 1))).Perm (sumF (js.map fun k => (k, 1))) :=
  sumF_congr (ones_pos _) (ones_pos _) fun k => by rw [wS_ones, wS_ones, h.countP_eq]
/-- each key as often as it is told -/
noncomputable def expK (f : List (K × Int)) : List K := f.flatMap fun p => List.replicate p.2.toNat p.1
theorem count_expK (k : K) : ∀ (f : List (K × Int)), (∀ p ∈ f, 0 ≤ p.2) → ((expK f).count k : Int) = wS (kq k) f
  | [], _ => rfl
  | p :: f, h => by
    have ih := count_expK k f fun q hq => h q (.tail _ hq)
    have h0 := h p (.head _)
    rw [wS_cons, ← ih]
    unfold expK
    rw [List.flatMap_cons, List.count_append, List.count_replicate]
    by_cases e : p.1 = k
    · subst e; simp only [beq_self_eq_true, kq, decide_true, if_true]; (first | decide | assumption | omega)
    · simp only [kq, decide_eq_false e, beq_eq_false_iff_ne.mpr e, Bool.false_eq_true, if_false]; (first | decide | assumption | omega)
theorem expK_ones (ks : List K) : (expK (sumF (ks.map fun k => (k, 1)))).Perm ks := by
  rw [List.perm_iff_count]
  intro k
  have h0 : ∀ p ∈ sumF (ks.map fun k => (k, (1 : Int))), 0 ≤ p.2 := fun p hp => by
    have := (mem_sumF (ones_pos ks) p).mp hp
    (first | decide | assumption | omega)
  have := count_expK k _ h0
  rw [wS_sumF, wS_ones, countP_kq] at this
  (first | decide | assumption | omega)
end
end Mine
namespace Mine
open PySem PySem.W PySem.Calls PySem.Spec PyProof.Rows PySem.SeqAt

/-! ## plain laws: the steps of a path -/
noncomputable def prs (ns : List Int) : List (Int × Int) := ns.zip (ns.drop 1)
theorem pairsOf_prs (ns : List Int) : pairsOf ns = (prs ns).map fun p => [p.1, p.2] := rfl
theorem prs_nil : prs [] = [] := rfl
theorem prs_one (x : Int) : prs [x] = [] := rfl
theorem prs_cons (x y : Int) (ns : List Int) : prs (x :: y :: ns) = (x, y) :: prs (y :: ns) := rfl
theorem prs_snoc : ∀ (ns : List Int) (x y : Int), prs (ns ++ [x, y]) = prs (ns ++ [x]) ++ [(x, y)]
  | [], x, y => rfl
  | [a], x, y => rfl
  | a :: b :: ns, x, y => by
    have := prs_snoc (b :: ns) x y
    simp only [List.cons_append] at this ⊢
    rw [prs_cons, this, prs_cons]; rfl
theorem prs_fst : ∀ (ns : List Int), (prs ns).map (·.1) = ns.dropLast
  | [] => rfl
  | [a] => rfl
  | a :: b :: ns => by rw [prs_cons, List.map_cons, prs_fst (b :: ns)]; rfl
theorem prs_snd : ∀ (ns : List Int), (prs ns).map (·.2) = ns.drop 1
  | [] => rfl
  | [a] => rfl
  | a :: b :: ns => by rw [prs_cons, List.map_cons, prs_snd (b :: ns)]; rfl
theorem prs_app : ∀ (xs ys : List Int) (x y : Int), prs (xs ++ [x] ++ y :: ys) = prs (xs ++ [x]) ++ (x, y) :: prs (y :: ys)
  | [], ys, x, y => rfl
  | [a], ys, x, y => rfl
  | a :: b :: xs, ys, x, y => by
    have := prs_app (b :: xs) ys x y
    simp only [List.cons_append, List.append_assoc] at this ⊢
    rw [prs_cons, this, prs_cons]; rfl
theorem prs_rev (ns : List Int) : (prs ns.reverse).Perm ((prs ns).map fun p => (p.2, p.1)) := by
  induction ns with
  | nil => exact .nil
  | cons a ns ih =>
    cases ns with
    | nil => exact .nil
    | cons b ns =>
      rw [List.reverse_cons, List.reverse_cons, List.append_assoc]
      show (prs (ns.reverse ++ [b, a])).Perm _
      rw [prs_snoc, ← List.reverse_cons, prs_cons, List.map_cons]
      exact (List.perm_append_comm).trans (.cons _ ih)
theorem stepT_pair (a b n : Int) : stepT ([a, b], n) = [a, b, n] := rfl
theorem stepsL_congr {xs ys : List Int} (h : (prs xs).Perm (prs ys)) : stepsL xs = stepsL ys :=
  sortT_congr ((sumF_ones_perm (show (pairsOf xs).Perm (pairsOf ys) from h.map _)).map _)
theorem countsL_congr {xs ys : List Int} (h : xs.Perm ys) : countsL xs = countsL ys :=
  sortT_congr ((sumF_ones_perm h).map _)
theorem stepsL_perm (ns : List Int) : (stepsL ns).Perm ((stepsF ns).map stepT) := sortT_perm _
theorem countsL_perm (ns : List Int) : (countsL ns).Perm ((countF ns).map fun p => [p.1, p.2]) := sortT_perm _
theorem count_pairs (ns : List Int) (a b : Int) : (pairsOf ns).countP (kq [a, b]) = (prs ns).countP (kq (a, b)) := by
  rw [pairsOf_prs, List.countP_map]
  congr 1
  funext p
  obtain ⟨c, d⟩ := p
  simp [kq]
theorem mem_stepsF_iff {ns : List Int} {p : List Int × Int} : p ∈ stepsF ns ↔ ∃ a b, p.1 = [a, b] ∧ p.2 = ((prs ns).countP (kq (a, b)) : Nat) ∧ 0 < p.2 := by
  constructor
  · intro h
    have h2 := (mem_sumF (ones_pos _) p).mp h
    obtain ⟨a, b, e⟩ := stepsF_two h
    rw [e, wS_ones, count_pairs] at h2
    exact ⟨a, b, e, h2.2, by (first | decide | assumption | omega)⟩
  · rintro ⟨a, b, e, h1, h2⟩
    refine (mem_sumF (ones_pos _) p).mpr ?_
    rw [e, wS_ones, count_pairs]
    (first | decide | assumption | omega)
theorem prs_len (ns : List Int) : (prs ns).length ≤ ns.length := by simp [prs]
theorem rows_ok (path : List Int) (h : path.length ≤ 14) : ∀ t ∈ stepsL path, rowOk t := fun t ht => by
  obtain ⟨p, hp, rfl⟩ := List.mem_map.mp ((stepsL_perm path).mem_iff.mp ht)
  obtain ⟨a, b, e1, e2, e3⟩ := mem_stepsF_iff.mp hp
  obtain ⟨k, n⟩ := p
  simp only at e1 e2 e3
  subst e1
  refine ⟨a, b, n, rfl, by (first | decide | assumption | omega), ?_⟩
  have h1 := List.countP_le_length (p := kq (a, b)) (l := prs path)
  have h2 := prs_len path
  (first | decide | assumption | omega)
/-- the sum of the counts of the steps that a test takes -/
theorem wS_steps (P : List Int → Bool) (ns : List Int) : wS P (keyed (stepsL ns)) = ((pairsOf ns).countP P : Nat) := by
  have h1 : (keyed (stepsL ns)).Perm (keyed ((stepsF ns).map stepT)) := (stepsL_perm ns).map _
  have h2 : keyed ((stepsF ns).map stepT) = stepsF ns := by
    unfold keyed
    rw [List.map_map]
    conv => rhs; rw [← List.map_id (stepsF ns)]
    apply List.map_congr_left
    intro p hp
    obtain ⟨a, b, e1⟩ := stepsF_two hp
    obtain ⟨k, n⟩ := p
    simp only at e1
    subst e1
    rfl
  rw [wS_perm P h1, h2]
  show wS P (sumF _) = _
  rw [wS_sumF, wS_ones]
theorem keyed_app (xs ys : List (List Int)) : keyed (xs ++ ys) = keyed xs ++ keyed ys := by simp [keyed]
theorem keyed_pos (ns : List Int) : ∀ p ∈ keyed (stepsL ns), 0 < p.2 := fun p hp => by
  obtain ⟨t, ht, rfl⟩ := List.mem_map.mp hp
  obtain ⟨q, hq, rfl⟩ := List.mem_map.mp ((stepsL_perm ns).mem_iff.mp ht)
  obtain ⟨a, b, _, _, e3⟩ := mem_stepsF_iff.mp hq
  exact e3
theorem cut_pairs (path : List Int) (cut : Nat) (h : cut ≤ path.length) : (pairsOf path).Perm (pairsOf (path.take cut) ++ pairsOf (path.drop cut) ++ if 0 < cut ∧ cut < path.length then [[path.getD (cut - 1) 0, path.getD cut 0]] else []) := by
  by_cases hc : 0 < cut ∧ cut < path.length
  · rw [if_pos hc]
    obtain ⟨h1, h2⟩ := hc
    obtain ⟨c, rfl⟩ : ∃ c, cut = c + 1 := ⟨cut - 1, by (first | decide | assumption | omega)⟩
    have e1 : path.take (c + 1) = path.take c ++ [path.getD c 0] := take_succ_getD path 0 (by (first | decide | assumption | omega))
    have e2 : path.drop (c + 1) = path.getD (c + 1) 0 :: path.drop (c + 2) := by
      rw [List.drop_eq_getElem_cons h2]
      simp [List.getD, List.getElem?_eq_getElem h2]
    have e3 : path = path.take c ++ [path.getD c 0] ++ path.getD (c + 1) 0 :: path.drop (c + 2) := by
      rw [← e1, ← e2, List.take_append_drop]
    conv => lhs; rw [e3]
    rw [pairsOf_prs, prs_app, e1, e2, Nat.add_sub_cancel, pairsOf_prs, pairsOf_prs, List.map_append, List.map_cons, List.append_assoc]
    exact (List.Perm.append_left _ List.perm_append_comm : (_ ++ ([_] ++ _)).Perm _)
  · rw [if_neg hc, List.append_nil]
    have : cut = 0 ∨ cut = path.length := by (first | decide | assumption | omega)
    rcases this with rfl | rfl
    · rw [List.take_zero, List.drop_zero]; exact .refl _
    · rw [List.take_length, List.drop_length]
      rw [show pairsOf [] = [] from rfl, List.append_nil]
theorem cut_ok (path : List Int) (cut : Nat) (h : cut ≤ path.length) : CutOk path cut where
  whole := by
    refine sortT_congr (List.Perm.map _ ?_)
    show (sumF (keyed (partsL path cut))).Perm (sumF _)
    have hk : keyed (partsL path cut) = keyed (stepsL (path.take cut)) ++ keyed (stepsL (path.drop cut)) ++ (if 0 < cut ∧ cut < path.length then [[path.getD (cut - 1) 0, path.getD cut 0]] else []).map (fun k => (k, 1)) := by
      unfold partsL
      rw [keyed_app, keyed_app]
      congr 1
      split <;> rfl
    refine sumF_congr (fun p hp => ?_) (ones_pos _) fun k => ?_
    · rw [hk] at hp
      rcases List.mem_append.mp hp with hp | hp
      · rcases List.mem_append.mp hp with hp | hp
        · exact keyed_pos _ p hp
        · exact keyed_pos _ p hp
      · exact ones_pos _ p hp
    · rw [hk, wS_app, wS_app, wS_steps, wS_steps, wS_ones, wS_ones, (cut_pairs path cut h).countP_eq, List.countP_append, List.countP_append]
      (first | decide | assumption | omega)
  back := by
    have h1 : ((stepsL path).map fun t => [t.getD 1 0, t.getD 0 0, t.getD 2 0]).Perm ((stepsF path).map fun p => [p.1.getD 1 0, p.1.getD 0 0, p.2]) := by
      have := (stepsL_perm path).map fun t => [t.getD 1 0, t.getD 0 0, t.getD 2 0]
      rw [List.map_map] at this
      exact this
    rw [sortT_congr h1]
    refine sortT_congr ?_
    have h2 : ((stepsF path).map fun p => [p.1.getD 1 0, p.1.getD 0 0, p.2]) = ((stepsF path).map fun p => ([p.1.getD 1 0, p.1.getD 0 0], p.2)).map stepT := by
      rw [List.map_map]; rfl
    rw [h2]
    refine List.Perm.map _ ?_
    have hn : (((stepsF path).map fun p => ([p.1.getD 1 0, p.1.getD 0 0], p.2))).Nodup := by
      refine List.pairwise_map.mpr (List.Pairwise.imp_of_mem ?_ (nodup_of_keys (sumF_nodup ((pairsOf path).map fun k => (k, 1)))))
      intro p q hp hq hne e
      obtain ⟨a, b, e1⟩ := stepsF_two hp
      obtain ⟨c, d, e2⟩ := stepsF_two hq
      obtain ⟨k, n⟩ := p
      obtain ⟨j, m⟩ := q
      simp only at e1 e2
      subst e1 e2
      simp at e
      obtain ⟨⟨rfl, rfl⟩, rfl⟩ := e
      exact hne rfl
    refine (List.perm_ext_iff_of_nodup (nodup_of_keys (sumF_nodup _)) hn).mpr fun p => ?_
    have key : ∀ a b : Int, (prs path.reverse).countP (kq (a, b)) = (prs path).countP (kq (b, a)) := fun a b => by
      rw [(prs_rev path).countP_eq, List.countP_map]
      congr 1
      funext q
      obtain ⟨c, d⟩ := q
      simp [kq, and_comm]
    constructor
    · intro h
      obtain ⟨a, b, e1, e2, e3⟩ := mem_stepsF_iff.mp (show p ∈ stepsF path.reverse from h)
      obtain ⟨k, n⟩ := p
      simp only at e1 e2 e3
      subst e1
      rw [key] at e2
      exact List.mem_map.mpr ⟨([b, a], n), mem_stepsF_iff.mpr ⟨b, a, rfl, e2, e3⟩, rfl⟩
    · intro h
      obtain ⟨q, hq, rfl⟩ := List.mem_map.mp h
      obtain ⟨a, b, e1, e2, e3⟩ := mem_stepsF_iff.mp hq
      obtain ⟨k, n⟩ := q
      simp only at e1 e2 e3
      subst e1
      show _ ∈ stepsF path.reverse
      exact mem_stepsF_iff.mpr ⟨b, a, rfl, by rw [key]; exact e2, e3⟩
end Mine
namespace Mine
open PySem PySem.W PySem.Calls PySem.Spec PyProof.Rows PySem.SeqAt

/-! ## plain laws: Hierholzer's way -/
/-- the steps that are left -/
noncomputable def edg (L : Lf) : List (Int × Int) := L.flatMap fun p => p.2.map fun g => (p.1, g)
theorem edg_app (A B : Lf) : edg (A ++ B) = edg A ++ edg B := by simp [edg]
theorem edg_cons (p : Int × List Int) (B : Lf) : edg (p :: B) = (p.2.map fun g => (p.1, g)) ++ edg B := by simp [edg]
theorem edg_fst {L : Lf} {e : Int × Int} (h : e ∈ edg L) : e.1 ∈ L.map (·.1) := by
  obtain ⟨p, hp, he⟩ := List.mem_flatMap.mp h
  obtain ⟨g, hg, rfl⟩ := List.mem_map.mp he
  exact List.mem_map.mpr ⟨p, hp, rfl⟩
theorem no_out {L : Lf} (hn : (L.map (·.1)).Nodup) {top : Int} (h : (lookP L top).getD [] = []) : ∀ e ∈ edg L, e.1 ≠ top := by
  intro e he ht
  have hk : top ∈ L.map (·.1) := ht ▸ edg_fst he
  obtain ⟨f1, v, f2, rfl, h1, h2⟩ := key_split hn hk
  rw [lookP_mid h1, Option.getD_some] at h
  subst h
  rw [edg_app, edg_cons] at he
  rcases List.mem_append.mp he with he | he
  · exact h1 (ht ▸ edg_fst he)
  · exact h2 (ht ▸ edg_fst (by simpa using he))
theorem keys_putP {β : Type} (f : List (Int × β)) (k : Int) (n : β) (hk : k ∈ f.map (·.1)) (hn : (f.map (·.1)).Nodup) : ((putP f k n).map (·.1)).Nodup := by
  obtain ⟨f1, v, f2, rfl, h1, h2⟩ := key_split hn hk
  rw [putP_mid h1 h2]
  simpa using hn
theorem take_goal {L : Lf} (hn : (L.map (·.1)).Nodup) {top g : Int} (h : ((lookP L top).getD []).getLast? = some g) :
    ((putP L top ((lookP L top).getD []).dropLast).map (·.1)).Nodup ∧ (edg L).Perm ((top, g) :: edg (putP L top ((lookP L top).getD []).dropLast)) ∧ goalsN L = goalsN (putP L top ((lookP L top).getD []).dropLast) + 1 := by
  have hk : top ∈ L.map (·.1) := by
    apply Classical.byContradiction
    intro hk
    rw [lookP_none hk] at h
    simp at h
  refine ⟨keys_putP L top _ hk hn, ?_⟩
  obtain ⟨f1, v, f2, rfl, h1, h2⟩ := key_split hn hk
  rw [lookP_mid h1, Option.getD_some] at h ⊢
  rw [putP_mid h1 h2]
  have hv : v = v.dropLast ++ [g] := by
    have hne : v ≠ [] := by rintro rfl; simp at h
    rw [List.getLast?_eq_some_getLast hne] at h
    have h3 := List.dropLast_concat_getLast hne
    rw [Option.some.inj h] at h3
    exact h3.symm
  constructor
  · rw [edg_app, edg_cons, edg_app, edg_cons]
    conv => lhs; rw [hv]
    simp only [List.map_append, List.map_cons, List.map_nil]
    rw [List.append_assoc, ← List.append_assoc (edg f1), ← List.append_assoc (edg f1)]
    exact List.perm_middle
  · rw [goalsN_app, goalsN_cons, goalsN_app, goalsN_cons]
    have := congrArg List.length hv
    simp only [List.length_append, List.length_cons, List.length_nil] at this ⊢
    (first | decide | assumption | omega)
noncomputable def outs (v : Int) (es : List (Int × Int)) : Nat := es.countP fun e => decide (e.1 = v)
noncomputable def ins (v : Int) (es : List (Int × Int)) : Nat := es.countP fun e => decide (e.2 = v)
theorem wayGo_nil (f : Nat) (L : Lf) (F : List Int) : wayGo f L [] F = F := by
  cases f with
  | zero => rfl
  | succ f => rfl
theorem prs_cons2 (x : Int) {ys : List Int} (h : ys ≠ []) : prs (x :: ys) = (x, ys.headD 0) :: prs ys := by
  cases ys with
  | nil => exact absurd rfl h
  | cons y ys => rfl
theorem last_cons2 (x : Int) {ys : List Int} (h : ys ≠ []) : (x :: ys).getLastD 0 = ys.getLastD 0 := by
  cases ys with
  | nil => exact absurd rfl h
  | cons y ys => simp [List.getLastD]

theorem way_spec : ∀ (f : Nat) (L : Lf) (q : List Int) (top tgt : Int) (F : List Int), (L.map (·.1)).Nodup → f = 2 * goalsN L + (q.length + 1) →
    (∀ v, outs v (edg L) + (if tgt = v then 1 else 0) = ins v (edg L) + (if top = v then 1 else 0)) → (∀ v ∈ F, ∀ e ∈ edg L, e.1 ≠ v) →
    ∃ (R : List Int) (L' : Lf), wayGo f L (q ++ [top]) F = R.reverse ∧ R ≠ [] ∧ R.headD 0 = (q ++ [top]).headD 0 ∧ R.getLastD 0 = (tgt :: F.reverse).getLastD 0 ∧
      (edg L ++ prs (q ++ [top]) ++ prs (tgt :: F.reverse)).Perm (edg L' ++ prs R) ∧ ∀ v ∈ R, ∀ e ∈ edg L', e.1 ≠ v
  | 0, L, q, top, tgt, F, hn, hf, hb, hF => by (first | decide | assumption | omega)
  | f + 1, L, q, top, tgt, F, hn, hf, hb, hF => by
    have e1 : (q ++ [top]).getLast? = some top := by simp
    rw [wayGo, e1]
    simp only
    cases hg : ((lookP L top).getD []).getLast? with
    | some g =>
      simp only
      obtain ⟨h1, h2, h3⟩ := take_goal hn hg
      have h4 : ∀ v, outs v (edg L) = outs v (edg (putP L top ((lookP L top).getD []).dropLast)) + if top = v then 1 else 0 := fun v => by
        unfold outs; rw [h2.countP_eq, List.countP_cons]; simp
      have h5 : ∀ v, ins v (edg L) = ins v (edg (putP L top ((lookP L top).getD []).dropLast)) + if g = v then 1 else 0 := fun v => by
        unfold ins; rw [h2.countP_eq, List.countP_cons]; simp
      obtain ⟨R, L', k1, k2, k3, k4, k5, k6⟩ := way_spec f (putP L top ((lookP L top).getD []).dropLast) (q ++ [top]) g tgt F h1 (by simp only [List.length_append, List.length_cons, List.length_nil]; (first | decide | assumption | omega))
        (fun v => by have := hb v; have := h4 v; have := h5 v; (first | decide | assumption | omega)) (fun v hv e he => hF v hv e (h2.mem_iff.mpr (.tail _ he)))
      refine ⟨R, L', k1, k2, ?_, k4, ?_, k6⟩
      · rw [k3]; cases q <;> rfl
      · refine List.Perm.trans ?_ k5
        refine List.Perm.append_right _ ?_
        rw [List.append_assoc]
        show (edg L ++ prs (q ++ [top])).Perm (_ ++ prs (q ++ [top, g]))
        rw [prs_snoc, ← List.append_assoc]
        refine (h2.append_right _).trans ?_
        rw [List.cons_append]
        exact (List.perm_append_singleton _ _).symm
    | none =>
      simp only
      have hg0 : (lookP L top).getD [] = [] := by simpa using hg
      have hno := no_out hn hg0
      have ho : outs top (edg L) = 0 := by
        unfold outs
        rw [List.countP_eq_zero]
        intro e he
        simpa using hno e he
      have ht : tgt = top := by
        apply Classical.byContradiction
        intro hne
        have := hb top
        rw [ho, if_neg hne, if_pos rfl] at this
        (first | decide | assumption | omega)
      subst ht
      have hb' : ∀ v, outs v (edg L) = ins v (edg L) := fun v => by have := hb v; (first | decide | assumption | omega)
      have hF' : ∀ v ∈ F ++ [tgt], ∀ e ∈ edg L, e.1 ≠ v := fun v hv => by
        rcases List.mem_append.mp hv with hv | hv
        · exact hF v hv
        · rw [List.mem_singleton.mp hv]; exact hno
      rw [List.dropLast_concat]
      rcases List.eq_nil_or_concat q with rfl | ⟨q', t', hq⟩
      · rw [wayGo_nil]
        refine ⟨tgt :: F.reverse, L, by simp, by simp, rfl, rfl, ?_, fun v hv => hF' v ?_⟩
        · rw [List.nil_append, prs_one, List.append_nil]
        · rcases List.mem_cons.mp hv with rfl | hv
          · simp
          · simp at hv; simp [hv]
      · rw [List.concat_eq_append] at hq
        subst hq
        obtain ⟨R, L', k1, k2, k3, k4, k5, k6⟩ := way_spec f L q' t' t' (F ++ [tgt]) hn (by simp only [List.length_append, List.length_cons, List.length_nil] at hf; (first | decide | assumption | omega))
          (fun v => by rw [hb' v]) hF'
        refine ⟨R, L', k1, k2, ?_, ?_, ?_, k6⟩
        · rw [k3]; cases q' <;> rfl
        · rw [k4, List.reverse_append, List.reverse_cons, List.reverse_nil, List.nil_append]
          exact last_cons2 _ (by simp)
        · refine List.Perm.trans ?_ k5
          rw [List.reverse_append, List.reverse_cons, List.reverse_nil, List.nil_append, List.append_assoc q']
          show (edg L ++ prs (q' ++ [t', tgt]) ++ _).Perm (_ ++ prs (t' :: tgt :: F.reverse))
          rw [prs_snoc, prs_cons, List.append_assoc, List.append_assoc, List.append_assoc]
          exact .refl _
end Mine
namespace Mine
open PySem PySem.W PySem.Calls PySem.Spec PyProof.Rows PySem.SeqAt

/-! ## plain laws: the ways are right -/
noncomputable def rowEs (t : List Int) : List (Int × Int) := List.replicate (t.getD 2 0).toNat (t.getD 0 0, t.getD 1 0)
theorem edg_step (f : Lf) (hn : (f.map (·.1)).Nodup) (t : List Int) : (edg (leftStep f t)).Perm (edg f ++ rowEs t) := by
  unfold leftStep
  by_cases hk : t.getD 0 0 ∈ f.map (·.1)
  · obtain ⟨f1, v, f2, rfl, h1, h2⟩ := key_split hn hk
    rw [lookP_mid h1, putP_mid h1 h2, Option.getD_some, edg_app, edg_cons, edg_app, edg_cons, List.map_append, List.map_replicate]
    simp only [List.append_assoc]
    refine List.Perm.append_left _ (List.Perm.append_left _ ?_)
    exact List.perm_append_comm
  · rw [lookP_none hk, putP_none hk, edg_app, edg_cons]
    simp [edg, rowEs]
theorem edg_left : ∀ (ts : List (List Int)) (f : Lf), (∀ t ∈ ts, rowOk t) → (f.map (·.1)).Nodup → (edg (ts.foldl leftStep f)).Perm (edg f ++ ts.flatMap rowEs)
  | [], f, _, _ => by simp
  | t :: ts, f, h, hn => by
    have hn2 := (leftStep_goals f hn t (h t (.head _))).2.1
    have ih := edg_left ts (leftStep f t) (fun u hu => h u (.tail _ hu)) hn2
    rw [List.foldl_cons, List.flatMap_cons, ← List.append_assoc]
    exact ih.trans ((edg_step f hn t).append_right _)
theorem rows_prs (ns : List Int) : ((stepsL ns).flatMap rowEs).Perm (prs ns) := by
  have h1 : ((stepsL ns).flatMap rowEs).Perm (((stepsF ns).map stepT).flatMap rowEs) := by
    rw [List.flatMap_def, List.flatMap_def]
    exact ((stepsL_perm ns).map _).flatten
  refine h1.trans ?_
  have h2 : ((stepsF ns).map stepT).flatMap rowEs = (expK (stepsF ns)).map fun k => (k.getD 0 0, k.getD 1 0) := by
    rw [List.flatMap_map, expK, List.map_flatMap]
    congr 1
    funext p
    rw [List.map_replicate]
    rfl
  rw [h2]
  refine ((expK_ones (pairsOf ns)).map _).trans ?_
  rw [pairsOf_prs, List.map_map]
  have : ((fun k : List Int => (k.getD 0 0, k.getD 1 0)) ∘ fun p : Int × Int => [p.1, p.2]) = id := by funext p; rfl
  rw [this, List.map_id]
theorem edg_steps (path : List Int) (h : path.length ≤ 14) : (edg (leftF (stepsL path))).Perm (prs path) ∧ ((leftF (stepsL path)).map (·.1)).Nodup := by
  have hr := rows_ok path h
  refine ⟨?_, (leftF_facts _ [] hr (by simp)).2.1⟩
  refine (edg_left _ [] hr (by simp)).trans ?_
  exact rows_prs path
theorem outs_prs (v : Int) {path : List Int} (hne : path ≠ []) : outs v (prs path) + (if path.getLastD 0 = v then 1 else 0) = path.countP (kq v) := by
  have h1 : outs v (prs path) = path.dropLast.countP (kq v) := by
    rw [← prs_fst, List.countP_map]; rfl
  have h2 : path = path.dropLast ++ [path.getLastD 0] := by
    have := List.dropLast_concat_getLast hne
    rw [List.getLastD_eq_getLast?, List.getLast?_eq_some_getLast hne, Option.getD_some]
    exact this.symm
  rw [h1]
  conv => rhs; rw [h2]
  rw [List.countP_append]
  simp [kq]
theorem ins_prs (v : Int) {path : List Int} (hne : path ≠ []) : ins v (prs path) + (if path.headD 0 = v then 1 else 0) = path.countP (kq v) := by
  have h1 : ins v (prs path) = (path.drop 1).countP (kq v) := by
    rw [← prs_snd, List.countP_map]; rfl
  rw [h1]
  cases path with
  | nil => exact absurd rfl hne
  | cons a as => simp [List.countP_cons, kq]
theorem lastI_eq (path : List Int) : lastI path = path.getLastD 0 := by
  unfold lastI
  rw [List.getLastD_eq_getLast?, List.getLast?_eq_getElem?]; rfl
theorem first_eq (path : List Int) : path.getD 0 0 = path.headD 0 := by cases path <;> rfl
/-- the lines of a path that begins where the way does are all upon the way -/
theorem reach {R : List Int} {E : List (Int × Int)} (hno : ∀ v ∈ R, ∀ e ∈ E, e.1 ≠ v) : ∀ (xs : List Int) (x : Int), x ∈ R → (∀ e ∈ prs (x :: xs), e ∈ E ++ prs R) → ∀ y ∈ x :: xs, y ∈ R
  | [], x, hx, _, y, hy => by rw [List.mem_singleton.mp hy]; exact hx
  | z :: xs, x, hx, he, y, hy => by
    rcases List.mem_cons.mp hy with rfl | hy
    · exact hx
    · have h1 := he (x, z) (by rw [prs_cons]; exact .head _)
      have hz : z ∈ R := by
        rcases List.mem_append.mp h1 with h1 | h1
        · exact absurd rfl (hno x hx _ h1)
        · have : z ∈ (prs R).map (·.2) := List.mem_map.mpr ⟨_, h1, rfl⟩
          rw [prs_snd] at this
          exact List.mem_of_mem_drop this
      exact reach hno xs z hz (fun e h => he e (by rw [prs_cons]; exact .tail _ h)) y hy
theorem way_path (path : List Int) (hne : path ≠ []) (h : path.length ≤ 14) : ∃ R, wayL (stepsL path) (path.getD 0 0) = R ∧ R ≠ [] ∧ R.headD 0 = path.headD 0 ∧ R.getLastD 0 = path.getLastD 0 ∧ (prs R).Perm (prs path) ∧ R.Perm path := by
  obtain ⟨hE, hn⟩ := edg_steps path h
  have hb : ∀ v, outs v (edg (leftF (stepsL path))) + (if path.getLastD 0 = v then 1 else 0) = ins v (edg (leftF (stepsL path))) + (if path.headD 0 = v then 1 else 0) := fun v => by
    unfold outs ins
    rw [hE.countP_eq, hE.countP_eq]
    exact (outs_prs v hne).trans (ins_prs v hne).symm
  obtain ⟨R, L', k1, k2, k3, k4, k5, k6⟩ := way_spec (2 * goalsN (leftF (stepsL path)) + 1) (leftF (stepsL path)) [] (path.headD 0) (path.getLastD 0) [] hn rfl hb (fun v hv => absurd hv List.not_mem_nil)
  have k4' : R.getLastD 0 = path.getLastD 0 := k4
  have k3' : R.headD 0 = path.headD 0 := k3
  have hEp : (prs path).Perm (edg L' ++ prs R) := by
    refine List.Perm.trans ?_ k5
    rw [List.nil_append, List.reverse_nil, prs_one, prs_one, List.append_nil, List.append_nil]
    exact hE.symm
  have hR : path.headD 0 ∈ R := by
    rw [← k3']
    cases R with
    | nil => exact absurd rfl k2
    | cons r R => exact .head _
  have hall : ∀ y ∈ path, y ∈ R := by
    obtain ⟨x, xs, rfl⟩ := List.exists_cons_of_ne_nil hne
    exact reach k6 xs x hR fun e he => hEp.mem_iff.mp he
  have hL : edg L' = [] := by
    rw [List.eq_nil_iff_forall_not_mem]
    intro e he
    have h1 : e ∈ prs path := hEp.mem_iff.mpr (List.mem_append_left _ he)
    have h2 : e.1 ∈ (prs path).map (·.1) := List.mem_map.mpr ⟨_, h1, rfl⟩
    rw [prs_fst] at h2
    exact k6 e.1 (hall _ ((List.dropLast_sublist path).subset h2)) e he rfl
  rw [hL, List.nil_append] at hEp
  refine ⟨R, ?_, k2, k3', k4', hEp.symm, ?_⟩
  · unfold wayL wayF
    rw [first_eq, show [path.headD 0] = [] ++ [path.headD 0] from rfl, k1, List.reverse_reverse]
  · have h1 := hEp.map (·.2)
    rw [prs_snd, prs_snd] at h1
    obtain ⟨x, xs, rfl⟩ := List.exists_cons_of_ne_nil hne
    obtain ⟨r, rs, rfl⟩ := List.exists_cons_of_ne_nil k2
    have : r = x := k3'
    subst this
    exact (h1.symm).cons r
theorem wS_map {J K : Type} [DecidableEq J] [DecidableEq K] (P : K → Bool) (g : J → K) (ps : List (J × Int)) : wS P (ps.map fun p => (g p.1, p.2)) = wS (fun j => P (g j)) ps := by
  unfold wS
  rw [List.map_map]; rfl
theorem mem_countsL {ns t : List Int} (h : t ∈ countsL ns) : ∃ a, t = [a, ((ns.countP (kq a) : Nat) : Int)] := by
  obtain ⟨p, hp, rfl⟩ := List.mem_map.mp ((countsL_perm ns).mem_iff.mp h)
  obtain ⟨h1, h2⟩ := (mem_sumF (ones_pos _) p).mp hp
  rw [wS_ones] at h2
  exact ⟨p.1, by rw [h2]⟩
theorem ways_ok (path : List Int) (hne : path ≠ []) (h : path.length ≤ 14) : WaysOk path := by
  obtain ⟨R, e, h1, h2, h3, h4, h5⟩ := way_path path hne h
  refine ⟨hne, fun t ht => ?_, fun t ht => ?_, ?_, ?_, ?_, ?_, ?_, ?_⟩
  · obtain ⟨a, rfl⟩ := mem_countsL ht
    show (lookP (outF (stepsL path)) a).getD 0 = _ - (if decide (a = lastI path) then 1 else 0)
    unfold outF
    rw [lookP_wS (sumF_nodup _), wS_sumF]
    have e1 : (stepsL path).map (fun t => (t.getD 0 0, t.getD 2 0)) = (keyed (stepsL path)).map fun p => (p.1.getD 0 0, p.2) := by
      unfold keyed; rw [List.map_map]; rfl
    rw [e1, wS_map (kq a) (fun k : List Int => k.getD 0 0), wS_steps, pairsOf_prs, List.countP_map]
    have e2 : List.countP ((fun j : List Int => kq a (j.getD 0 0)) ∘ fun p : Int × Int => [p.1, p.2]) (prs path) = outs a (prs path) := rfl
    have e3 := outs_prs a hne
    rw [e2, lastI_eq]
    show _ = ((path.countP (kq a) : Nat) : Int) - _
    by_cases hl : path.getLastD 0 = a
    · rw [if_pos hl] at e3; rw [if_pos (decide_eq_true hl.symm)]; (first | decide | assumption | omega)
    · rw [if_neg hl] at e3; rw [decide_eq_false (Ne.symm hl)]; simp only [Bool.false_eq_true, if_false]; (first | decide | assumption | omega)
  · obtain ⟨a, rfl⟩ := mem_countsL ht
    show (lookP (intoF (stepsL path)) a).getD 0 = _ - (if decide (a = path.getD 0 0) then 1 else 0)
    unfold intoF
    rw [lookP_wS (sumF_nodup _), wS_sumF]
    have e1 : (stepsL path).map (fun t => (t.getD 1 0, t.getD 2 0)) = (keyed (stepsL path)).map fun p => (p.1.getD 1 0, p.2) := by
      unfold keyed; rw [List.map_map]; rfl
    rw [e1, wS_map (kq a) (fun k : List Int => k.getD 1 0), wS_steps, pairsOf_prs, List.countP_map]
    have e2 : List.countP ((fun j : List Int => kq a (j.getD 1 0)) ∘ fun p : Int × Int => [p.1, p.2]) (prs path) = ins a (prs path) := rfl
    have e3 := ins_prs a hne
    rw [e2, first_eq]
    show _ = ((path.countP (kq a) : Nat) : Int) - _
    by_cases hl : path.headD 0 = a
    · rw [if_pos hl] at e3; rw [if_pos (decide_eq_true hl.symm)]; (first | decide | assumption | omega)
    · rw [if_neg hl] at e3; rw [decide_eq_false (Ne.symm hl)]; simp only [Bool.false_eq_true, if_false]; (first | decide | assumption | omega)
  · rw [e]; exact h1
  · rw [e, h5.length_eq]; (first | decide | assumption | omega)
  · rw [e, first_eq, first_eq, h2]
  · rw [e, lastI_eq, lastI_eq, h3]
  · rw [e]; exact stepsL_congr h4
  · rw [e]; exact countsL_congr h5
end Mine
namespace Mine
open PySem PySem.W PySem.Calls PySem.Spec PyProof.Rows PySem.SeqAt

/-! ## plain laws: a word gone round -/
noncomputable def words : Nat → List (List Int)
  | 0 => [[]]
  | n + 1 => (words n).flatMap fun w => [10 :: w, 20 :: w]
theorem mem_words : ∀ (w : List Int), (∀ x ∈ w, x = 10 ∨ x = 20) → w ∈ words w.length
  | [], _ => by simp [words]
  | a :: w, h => by
    have ih := mem_words w fun x hx => h x (.tail _ hx)
    rw [List.length_cons, words, List.mem_flatMap]
    refine ⟨w, ih, ?_⟩
    rcases h a (.head _) with rfl | rfl <;> simp
noncomputable def goneAll (n m : Nat) : Bool := (words n).all fun w => (List.range n).all fun t => roundRight (goneRound w m t)
theorem gone12 : goneAll 1 2 = true := by decide +kernel
theorem gone13 : goneAll 1 3 = true := by decide +kernel
theorem gone14 : goneAll 1 4 = true := by decide +kernel
theorem gone22 : goneAll 2 2 = true := by decide +kernel
theorem gone23 : goneAll 2 3 = true := by decide +kernel
theorem gone24 : goneAll 2 4 = true := by decide +kernel
theorem gone32 : goneAll 3 2 = true := by decide +kernel
theorem gone33 : goneAll 3 3 = true := by decide +kernel
theorem gone34 : goneAll 3 4 = true := by decide +kernel
theorem gone42 : goneAll 4 2 = true := by decide +kernel
theorem gone43 : goneAll 4 3 = true := by decide +kernel
theorem gone44 : goneAll 4 4 = true := by decide +kernel
theorem gone_all (n m : Nat) (h1 : 1 ≤ n) (h2 : n ≤ 4) (h3 : 2 ≤ m) (h4 : m ≤ 4) : goneAll n m = true := by
  have hn : n = 1 ∨ n = 2 ∨ n = 3 ∨ n = 4 := by (first | decide | assumption | omega)
  have hm : m = 2 ∨ m = 3 ∨ m = 4 := by (first | decide | assumption | omega)
  rcases hn with rfl | rfl | rfl | rfl <;> rcases hm with rfl | rfl | rfl
  · exact gone12
  · exact gone13
  · exact gone14
  · exact gone22
  · exact gone23
  · exact gone24
  · exact gone32
  · exact gone33
  · exact gone34
  · exact gone42
  · exact gone43
  · exact gone44
theorem gone_ok (word : List Int) (many t : Nat) (hw : ∀ x ∈ word, x = 10 ∨ x = 20) (h1 : 1 ≤ word.length) (h2 : word.length ≤ 4) (h3 : 2 ≤ many) (h4 : many ≤ 4) (ht : t < word.length) : roundRight (goneRound word many t) = true :=
  List.all_eq_true.mp (List.all_eq_true.mp (gone_all word.length many h1 h2 h3 h4) word (mem_words word hw)) t (List.mem_range.mpr ht)
end Mine
namespace Mine
open PySem PySem.W PySem.Calls PySem.Spec PyProof.Rows PySem.SeqAt

/-! ## plain laws: rounds -/
theorem rAt_eqs (ns : List Int) (a sz : Nat) : ∀ f m i, m ≤ i → i < rAt ns a sz f m → (ns.drop (a + i * sz)).take sz = (ns.drop a).take sz
  | 0, m, i, h1, h2 => by rw [rAt] at h2; (first | decide | assumption | omega)
  | f + 1, m, i, h1, h2 => by
    rw [rAt] at h2
    split at h2
    · rename_i h
      by_cases e : i = m
      · subst e; exact h
      · exact rAt_eqs ns a sz f (m + 1) i (by (first | decide | assumption | omega)) h2
    · (first | decide | assumption | omega)
theorem roundsAt_eqs (ns : List Int) (a sz i : Nat) (h : i < roundsAt ns a sz) : (ns.drop (a + i * sz)).take sz = (ns.drop a).take sz := by
  by_cases e : i = 0
  · subst e; rw [Nat.zero_mul, Nat.add_zero]
  · exact rAt_eqs ns a sz _ 1 i (by (first | decide | assumption | omega)) h
theorem rep_take (ns : List Int) (a sz : Nat) : ∀ m, (∀ i, i < m → (ns.drop (a + i * sz)).take sz = (ns.drop a).take sz) → repL m ((ns.drop a).take sz) = (ns.drop a).take (sz * m)
  | 0, _ => by simp [repL]
  | m + 1, h => by
    have ih := rep_take ns a sz m fun i hi => h i (by (first | decide | assumption | omega))
    have e : repL (m + 1) ((ns.drop a).take sz) = repL m ((ns.drop a).take sz) ++ (ns.drop a).take sz := by
      unfold repL
      rw [List.replicate_succ', List.flatten_append]
      simp
    rw [e, ih, Nat.mul_add, Nat.mul_one, List.take_add, List.drop_drop]
    congr 1
    rw [← h m (by (first | decide | assumption | omega)), Nat.mul_comm]
theorem bestGo_eqs (ns : List Int) (a : Nat) : ∀ k i, i < (bestGo ns a k).1.2 → (ns.drop (a + i * (bestGo ns a k).1.1)).take (bestGo ns a k).1.1 = (ns.drop a).take (bestGo ns a k).1.1
  | 0, i, h => by
    simp only [bestGo] at h ⊢
    have : i = 0 := by (first | decide | assumption | omega)
    subst this; simp
  | k + 1, i, h => by
    have ih := bestGo_eqs ns a k i
    simp only [bestGo] at h ⊢
    split at h
    · rename_i hc
      rw [if_pos hc]
      exact roundsAt_eqs ns a (k + 1) i h
    · rename_i hc
      rw [if_neg hc]
      exact ih h
theorem best_rep (ns : List Int) (a : Nat) : repL (bestR ns a).2 ((ns.drop a).take (bestR ns a).1) = (ns.drop a).take ((bestR ns a).1 * (bestR ns a).2) :=
  rep_take ns a _ _ (bestGo_eqs ns a _)
/-- what the rounds tell, one behind the other -/
noncomputable def goneAs (rs : List (List Int × Int)) : List Int := rs.flatMap fun p => repL p.2.toNat p.1
theorem rGo_gone (ns : List Int) : ∀ f a, ns.length ≤ f + a → goneAs (rGo ns f a) = ns.drop a
  | 0, a, h => by rw [List.drop_of_length_le (by (first | decide | assumption | omega))]; rfl
  | f + 1, a, h => by
    rw [rGo]
    split
    · have h1 := bestR_le ns a
      have h2 : 1 ≤ (bestR ns a).1 * (bestR ns a).2 := Nat.mul_pos (by (first | decide | assumption | omega)) (by (first | decide | assumption | omega))
      have ih := rGo_gone ns f (a + (bestR ns a).1 * (bestR ns a).2) (by (first | decide | assumption | omega))
      unfold goneAs at ih ⊢
      rw [List.flatMap_cons, ih, Int.toNat_natCast, best_rep, ← List.drop_drop, List.take_append_drop]
    · rw [List.drop_of_length_le (by (first | decide | assumption | omega))]; rfl
theorem rounds_gone (ns : List Int) : goneAs (roundsL ns) = ns := by
  have := rGo_gone ns ns.length 0 (by (first | decide | assumption | omega))
  rwa [List.drop_zero] at this
theorem rGo_ne (ns : List Int) : ∀ f a, ∀ p ∈ rGo ns f a, p.1 ≠ []
  | 0, a, p, h => by simp [rGo] at h
  | f + 1, a, p, h => by
    rw [rGo] at h
    split at h
    · rename_i ha
      rcases List.mem_cons.mp h with rfl | h
      · have := bestR_le ns a
        intro e
        have e := congrArg List.length e
        simp only [List.length_take, List.length_drop, List.length_nil] at e
        (first | decide | assumption | omega)
      · exact rGo_ne ns f _ p h
    · simp at h
theorem countP_rep (P : Int → Bool) (xs : List Int) : ∀ m, (repL m xs).countP P = m * xs.countP P
  | 0 => by simp [repL]
  | m + 1 => by
    have e : repL (m + 1) xs = xs ++ repL m xs := by simp [repL, List.replicate_succ]
    rw [e, List.countP_append, countP_rep P xs m, Nat.add_mul, Nat.one_mul, Nat.add_comm]
theorem wS_const (P : Int → Bool) (m : Int) : ∀ xs : List Int, wS P (xs.map fun x => (x, m)) = m * (xs.countP P : Nat)
  | [] => by simp [wS_nil]
  | x :: xs => by
    rw [List.map_cons, wS_cons, wS_const P m xs, List.countP_cons]
    split
    · simp only [Int.natCast_add, Int.mul_add]; simp; (first | decide | assumption | omega)
    · simp
theorem wS_told (P : Int → Bool) : ∀ rs : List (List Int × Int), (∀ p ∈ rs, 0 ≤ p.2) → wS P (toldP rs) = ((goneAs rs).countP P : Nat)
  | [], _ => rfl
  | p :: rs, h => by
    have ih := wS_told P rs fun q hq => h q (.tail _ hq)
    have h0 := h p (.head _)
    unfold toldP goneAs at ih ⊢
    rw [List.flatMap_cons, List.flatMap_cons, wS_app, ih, wS_const, List.countP_append, countP_rep]
    rw [Int.natCast_add, Int.natCast_mul, Int.toNat_of_nonneg h0]
theorem told_ok (path : List Int) : sortT ((sumF (toldP (roundsL path))).map fun p => [p.1, p.2]) = countsL path := by
  have hm := fun p (hp : p ∈ roundsL path) => (rGo_mem path _ _ p hp).2.2.1
  refine sortT_congr (List.Perm.map _ (sumF_congr (fun p hp => ?_) (ones_pos _) fun k => ?_))
  · obtain ⟨q, hq, hx⟩ := List.mem_flatMap.mp hp
    obtain ⟨x, _, rfl⟩ := List.mem_map.mp hx
    have := hm q hq
    show 0 < q.2
    (first | decide | assumption | omega)
  · rw [wS_told _ _ (fun p hp => by have := hm p hp; (first | decide | assumption | omega)), rounds_gone, wS_ones]

/-! other numbers, one to one -/
section
variable {f : Int → Int} {ns : List Int}
theorem map_inj (hf : ∀ x ∈ ns, ∀ y ∈ ns, f x = f y → x = y) : ∀ xs ys : List Int, (∀ x ∈ xs, x ∈ ns) → (∀ y ∈ ys, y ∈ ns) → xs.map f = ys.map f → xs = ys
  | [], [], _, _, _ => rfl
  | [], _ :: _, _, _, h => by simp at h
  | _ :: _, [], _, _, h => by simp at h
  | x :: xs, y :: ys, hx, hy, h => by
    rw [List.map_cons, List.map_cons, List.cons.injEq] at h
    rw [hf x (hx x (.head _)) y (hy y (.head _)) h.1, map_inj hf xs ys (fun z hz => hx z (.tail _ hz)) (fun z hz => hy z (.tail _ hz)) h.2]
theorem part_map (a sz : Nat) : ((ns.map f).drop a).take sz = ((ns.drop a).take sz).map f := by rw [List.map_take, List.map_drop]
theorem part_eq (hf : ∀ x ∈ ns, ∀ y ∈ ns, f x = f y → x = y) (a b sz : Nat) : ((ns.map f).drop a).take sz = ((ns.map f).drop b).take sz ↔ (ns.drop a).take sz = (ns.drop b).take sz := by
  rw [part_map, part_map]
  exact ⟨fun h => map_inj hf _ _ (fun x hx => List.mem_of_mem_drop (List.mem_of_mem_take hx)) (fun x hx => List.mem_of_mem_drop (List.mem_of_mem_take hx)) h, fun h => by rw [h]⟩
theorem rAt_map (hf : ∀ x ∈ ns, ∀ y ∈ ns, f x = f y → x = y) (a sz : Nat) : ∀ k m, rAt (ns.map f) a sz k m = rAt ns a sz k m
  | 0, m => rfl
  | k + 1, m => by
    rw [rAt, rAt, rAt_map hf a sz k (m + 1)]
    by_cases h : (ns.drop (a + m * sz)).take sz = (ns.drop a).take sz
    · rw [if_pos h, if_pos ((part_eq hf _ _ _).mpr h)]
    · rw [if_neg h, if_neg (fun e => h ((part_eq hf _ _ _).mp e))]
theorem roundsAt_map (hf : ∀ x ∈ ns, ∀ y ∈ ns, f x = f y → x = y) (a sz : Nat) : roundsAt (ns.map f) a sz = roundsAt ns a sz := by
  unfold roundsAt
  rw [rAt_map hf, List.length_map]
theorem bestGo_map (hf : ∀ x ∈ ns, ∀ y ∈ ns, f x = f y → x = y) (a : Nat) : ∀ k, bestGo (ns.map f) a k = bestGo ns a k
  | 0 => rfl
  | k + 1 => by rw [bestGo, bestGo, bestGo_map hf a k, roundsAt_map hf]
theorem bestR_map (hf : ∀ x ∈ ns, ∀ y ∈ ns, f x = f y → x = y) (a : Nat) : bestR (ns.map f) a = bestR ns a := by
  unfold bestR
  rw [bestGo_map hf, List.length_map]
theorem rGo_map (hf : ∀ x ∈ ns, ∀ y ∈ ns, f x = f y → x = y) : ∀ k a, rGo (ns.map f) k a = (rGo ns k a).map fun p => (p.1.map f, p.2)
  | 0, a => rfl
  | k + 1, a => by
    rw [rGo, rGo, List.length_map, bestR_map hf, rGo_map hf k, part_map]
    split <;> rfl
theorem roundsL_map (hf : ∀ x ∈ ns, ∀ y ∈ ns, f x = f y → x = y) : roundsL (ns.map f) = (roundsL ns).map fun p => (p.1.map f, p.2) := by
  unfold roundsL
  rw [List.length_map, rGo_map hf]
end
theorem fN_inj_all : ((List.range 4).all fun t => five.all fun x => five.all fun y => decide (fN t x = fN t y → x = y)) = true := by decide +kernel
theorem fN_inj (t : Nat) (ht : t ≤ 3) (x : Int) (hx : x ∈ five) (y : Int) (hy : y ∈ five) (h : fN t x = fN t y) : x = y :=
  of_decide_eq_true (List.all_eq_true.mp (List.all_eq_true.mp (List.all_eq_true.mp fN_inj_all t (List.mem_range.mpr (by (first | decide | assumption | omega)))) x hx) y hy) h
theorem due_ok (path : List Int) (t : Nat) (h5 : ∀ x ∈ path, x ∈ five) (ht : t ≤ 3) : roundsL (path.map (fN t)) = dueL t (roundsL path) :=
  roundsL_map fun x hx y hy => fN_inj t ht x (h5 x hx) y (h5 y hy)
end Mine
namespace Mine
open PySem PySem.W PySem.Calls PySem.Spec PyProof.Rows PySem.SeqAt

/-! ## plain laws: the shown path, read -/
noncomputable def ln (x : Str) : List Nat := x.cps.toList
theorem ln_app (a b : Str) : ln (a ++ b) = ln a ++ ln b := by
  show (a.cps ++ b.cps).toList = _
  rw [Array.toList_append]; rfl
theorem ln_inj {a b : Str} (h : ln a = ln b) : a = b := by
  obtain ⟨a⟩ := a
  obtain ⟨b⟩ := b
  exact congrArg Str.mk (Array.toList_inj.mp h)
noncomputable def joinC (c : Nat) : List (List Nat) → List Nat
  | [] => []
  | [x] => x
  | x :: y :: r => x ++ c :: joinC c (y :: r)
theorem ln_join (c : Nat) : ∀ xs : List Str, ln (Str.join ⟨#[c]⟩ xs) = joinC c (xs.map ln)
  | [] => rfl
  | [x] => rfl
  | x :: y :: r => by
    have ih := ln_join c (y :: r)
    show ln (x ++ ⟨#[c]⟩ ++ Str.join ⟨#[c]⟩ (y :: r)) = ln x ++ c :: joinC c ((y :: r).map ln)
    rw [ln_app, ln_app, ih, List.append_assoc]; rfl
theorem cut_unique {c : Nat} : ∀ {p q : List Nat} {X Y : List Nat}, c ∉ p → c ∉ q → p ++ c :: X = q ++ c :: Y → p = q ∧ X = Y
  | [], [], X, Y, _, _, h => by simp at h; exact ⟨rfl, h⟩
  | [], b :: q, X, Y, _, hq, h => by
    simp only [List.nil_append, List.cons_append, List.cons.injEq] at h
    exact absurd (h.1 ▸ .head _) hq
  | a :: p, [], X, Y, hp, _, h => by
    simp only [List.nil_append, List.cons_append, List.cons.injEq] at h
    exact absurd (h.1 ▸ .head _) hp
  | a :: p, b :: q, X, Y, hp, hq, h => by
    simp only [List.cons_append, List.cons.injEq] at h
    obtain ⟨h1, h2⟩ := cut_unique (fun m => hp (.tail _ m)) (fun m => hq (.tail _ m)) h.2
    exact ⟨by rw [h.1, h1], h2⟩
theorem join_unique {c : Nat} : ∀ (ps qs : List (List Nat)), ps ≠ [] → qs ≠ [] → (∀ p ∈ ps, c ∉ p) → (∀ q ∈ qs, c ∉ q) → joinC c ps = joinC c qs → ps = qs
  | [], _, h, _, _, _, _ => absurd rfl h
  | _, [], _, h, _, _, _ => absurd rfl h
  | [p], [q], _, _, _, _, h => by rw [show p = q from h]
  | [p], q :: q2 :: r, _, _, hp, _, h => by
    have h : p = q ++ c :: joinC c (q2 :: r) := h
    exact absurd (by rw [h]; simp) (hp p (.head _))
  | p :: p2 :: r, [q], _, _, _, hq, h => by
    have h : p ++ c :: joinC c (p2 :: r) = q := h
    exact absurd (by rw [← h]; simp) (hq q (.head _))
  | p :: p2 :: r, q :: q2 :: u, _, _, hp, hq, h => by
    obtain ⟨h1, h2⟩ := cut_unique (hp p (.head _)) (hq q (.head _)) (show p ++ c :: joinC c (p2 :: r) = q ++ c :: joinC c (q2 :: u) from h)
    rw [h1, join_unique (p2 :: r) (q2 :: u) (by simp) (by simp) (fun x hx => hp x (.tail _ hx)) (fun x hx => hq x (.tail _ hx)) h2]
theorem map_ln_inj : ∀ {xs ys : List Str}, xs.map ln = ys.map ln → xs = ys
  | [], [], _ => rfl
  | [], _ :: _, h => by simp at h
  | _ :: _, [], h => by simp at h
  | x :: xs, y :: ys, h => by
    rw [List.map_cons, List.map_cons, List.cons.injEq] at h
    rw [ln_inj h.1, map_ln_inj h.2]
theorem sp_is : sp = ⟨#[32]⟩ := by decide +kernel
theorem split_join (ws : List Str) (hne : ws ≠ []) (hf : ∀ w ∈ ws, 32 ∉ ln w) : Txt.split (Str.join sp ws) sp = ws := by
  rw [sp_is]
  apply map_ln_inj
  refine join_unique (c := 32) _ _ ?_ ?_ ?_ ?_ ?_
  · intro e
    have h1 := split_pos (Str.join ⟨#[32]⟩ ws) ⟨#[32]⟩
    have h2 := congrArg List.length e
    rw [List.length_map, List.length_nil] at h2
    (first | decide | assumption | omega)
  · intro e; exact hne (List.map_eq_nil_iff.mp e)
  · intro p hp
    obtain ⟨x, hx, rfl⟩ := List.mem_map.mp hp
    exact StrLaws.split_free _ 32 x hx
  · intro p hp
    obtain ⟨x, hx, rfl⟩ := List.mem_map.mp hp
    exact hf x hx
  · rw [← ln_join, ← ln_join, StrLaws.join_split]
theorem join_cons (x : Str) {ys : List Str} (h : ys ≠ []) : Str.join sp (x :: ys) = x ++ sp ++ Str.join sp ys := by
  cases ys with
  | nil => exact absurd rfl h
  | cons y ys => rfl
theorem str_assoc (a b c : Str) : a ++ b ++ c = a ++ (b ++ c) := by
  apply ln_inj
  rw [ln_app, ln_app, ln_app, ln_app, List.append_assoc]
theorem str_nil (a : Str) : (⟨#[]⟩ : Str) ++ a = a := by
  apply ln_inj
  rw [ln_app]; rfl
theorem nil_str (a : Str) : a ++ (⟨#[]⟩ : Str) = a := by
  apply ln_inj
  rw [ln_app]
  show ln a ++ [] = ln a
  rw [List.append_nil]
theorem join_app : ∀ (xs ys : List Str), xs ≠ [] → ys ≠ [] → Str.join sp (xs ++ ys) = Str.join sp xs ++ sp ++ Str.join sp ys
  | [], _, h, _ => absurd rfl h
  | [x], ys, _, h => join_cons x h
  | x :: y :: xs, ys, _, h => by
    have ih := join_app (y :: xs) ys (by simp) h
    rw [List.cons_append, join_cons x (by simp), ih, join_cons x (by simp)]
    simp only [str_assoc]
theorem join_flat {α : Type} (g : α → List Str) : ∀ (as : List α), (∀ a ∈ as, g a ≠ []) → Str.join sp (as.flatMap g) = Str.join sp (as.map fun a => Str.join sp (g a))
  | [], _ => rfl
  | [a], h => by simp [Str.join]
  | a :: b :: as, h => by
    have ih := join_flat g (b :: as) fun x hx => h x (.tail _ hx)
    have hn : (b :: as).flatMap g ≠ [] := by
      intro e
      rw [List.flatMap_cons, List.append_eq_nil_iff] at e
      exact h b (.tail _ (.head _)) e.1
    rw [List.flatMap_cons, join_app _ _ (h a (.head _)) hn, ih]
    rfl
/-- the words of a round -/
noncomputable def grpW (m : Int) : Bool → List Int → List Wd
  | _, [] => []
  | o, [n] => [(o, n, some m)]
  | o, n :: k :: r => (o, n, none) :: grpW m false (k :: r)
noncomputable def wordsOf (p : List Int × Int) : List Wd := if p.2 = 1 then p.1.map fun n => (false, n, none) else grpW p.2 true p.1
theorem grpW_ne (m : Int) (o : Bool) {ls : List Int} (h : ls ≠ []) : grpW m o ls ≠ [] := by
  match ls, h with
  | [n], _ => simp [grpW]
  | n :: k :: r, _ => simp [grpW]
theorem textOf_join (ns : List Int) : textOf ns = Str.join sp (ns.map strI) := StrLaws.glued_eq_join _ _
theorem grpW_text (m : Int) : ∀ (ls : List Int) (o : Bool), ls ≠ [] → Str.join sp ((grpW m o ls).map render) = (if o then Str.ofString "(" else ⟨#[]⟩) ++ textOf ls ++ Str.ofString ")*" ++ strI m
  | [], _, h => absurd rfl h
  | [n], o, _ => by
    show (if o then Str.ofString "(" else ⟨#[]⟩) ++ strI n ++ (Str.ofString ")*" ++ strI m) = _ ++ strI n ++ _ ++ _
    simp only [str_assoc]
  | n :: k :: r, o, _ => by
    have ih := grpW_text m (k :: r) false (by simp)
    rw [grpW, List.map_cons, join_cons _ (by have := grpW_ne m false (ls := k :: r) (by simp); intro e; exact this (List.map_eq_nil_iff.mp e)), ih]
    rw [textOf_join (n :: k :: r), List.map_cons, join_cons _ (by simp), ← textOf_join (k :: r)]
    show (if o then Str.ofString "(" else ⟨#[]⟩) ++ strI n ++ ⟨#[]⟩ ++ sp ++ (⟨#[]⟩ ++ textOf (k :: r) ++ Str.ofString ")*" ++ strI m) = _
    simp only [str_assoc, str_nil]
theorem wordsOf_text (p : List Int × Int) (h : p.1 ≠ []) : Str.join sp ((wordsOf p).map render) = segT p := by
  unfold wordsOf segT
  by_cases e : p.2 = 1
  · rw [if_pos e, if_pos e, textOf_join, List.map_map]
    congr 1
    apply List.map_congr_left
    intro n _
    show ⟨#[]⟩ ++ strI n ++ ⟨#[]⟩ = strI n
    rw [str_nil, nil_str]
  · rw [if_neg e, if_neg e, grpW_text p.2 p.1 true h]
    rfl
theorem wordsOf_ne (p : List Int × Int) (h : p.1 ≠ []) : wordsOf p ≠ [] := by
  unfold wordsOf
  split
  · intro e; exact h (List.map_eq_nil_iff.mp e)
  · exact grpW_ne _ _ h
noncomputable def wordsL (path : List Int) : List Wd := (roundsL path).flatMap wordsOf
theorem shown_words (path : List Int) : shownT path = Str.join sp ((wordsL path).map render) := by
  have hne := rGo_ne path path.length 0
  unfold shownT wordsL
  rw [show Txt.join sp ((roundsL path).map segT) = Str.join sp ((roundsL path).map segT) from StrLaws.glued_eq_join _ _, List.map_flatMap, join_flat (fun p => (wordsOf p).map render) (roundsL path) (fun p hp e => wordsOf_ne p (hne p hp) (List.map_eq_nil_iff.mp e))]
  congr 1
  apply List.map_congr_left
  intro p hp
  exact (wordsOf_text p (hne p hp)).symm
/-- what is read of a round's words -/
theorem grp_read (m : Int) : ∀ (ls : List Int) (fnd g : List Int), ls ≠ [] → ∃ g', (grpW m false ls).foldl rdW (fnd, g, true) = (fnd ++ repL m.toNat (g ++ ls), g', false)
  | [], _, _, h => absurd rfl h
  | [n], fnd, g, _ => ⟨g, rfl⟩
  | n :: k :: r, fnd, g, _ => by
    obtain ⟨g', e⟩ := grp_read m (k :: r) fnd (g ++ [n]) (by simp)
    refine ⟨g', ?_⟩
    rw [grpW, List.foldl_cons]
    show (grpW m false (k :: r)).foldl rdW (fnd, g ++ [n], true) = _
    rw [e, List.append_assoc]; rfl
theorem grp_open (m : Int) (ls : List Int) (fnd g : List Int) (h : ls ≠ []) : ∃ g', (grpW m true ls).foldl rdW (fnd, g, false) = (fnd ++ repL m.toNat ls, g', false) := by
  match ls, h with
  | [n], _ => exact ⟨[], rfl⟩
  | n :: k :: r, _ =>
    obtain ⟨g', e⟩ := grp_read m (k :: r) fnd [n] (by simp)
    refine ⟨g', ?_⟩
    rw [grpW, List.foldl_cons]
    show (grpW m false (k :: r)).foldl rdW (fnd, [] ++ [n], true) = _
    rw [List.nil_append, e]; rfl
theorem plain_read (g : List Int) : ∀ (ls fnd : List Int), (ls.map fun n => ((false, n, none) : Wd)).foldl rdW (fnd, g, false) = (fnd ++ ls, g, false)
  | [], fnd => by simp
  | n :: ls, fnd => by
    rw [List.map_cons, List.foldl_cons]
    show (ls.map _).foldl rdW (fnd ++ [n], g, false) = _
    rw [plain_read g ls (fnd ++ [n]), List.append_assoc]; rfl
theorem words_read : ∀ (rs : List (List Int × Int)) (fnd g : List Int), (∀ p ∈ rs, p.1 ≠ []) → ∃ g', (rs.flatMap wordsOf).foldl rdW (fnd, g, false) = (fnd ++ goneAs rs, g', false)
  | [], fnd, g, _ => ⟨g, by simp [goneAs]⟩
  | p :: rs, fnd, g, h => by
    have h1 : ∃ g1, (wordsOf p).foldl rdW (fnd, g, false) = (fnd ++ repL p.2.toNat p.1, g1, false) := by
      unfold wordsOf
      by_cases e : p.2 = 1
      · rw [if_pos e, e]
        refine ⟨g, ?_⟩
        rw [plain_read, show repL (1 : Int).toNat p.1 = p.1 by simp [repL]]
      · rw [if_neg e]
        exact grp_open _ _ _ _ (h p (.head _))
    obtain ⟨g1, e1⟩ := h1
    obtain ⟨g2, e2⟩ := words_read rs (fnd ++ repL p.2.toNat p.1) g1 fun q hq => h q (.tail _ hq)
    refine ⟨g2, ?_⟩
    rw [List.flatMap_cons, List.foldl_append, e1, e2]
    simp [goneAs]
theorem grp_good (m : Int) (hm : 2 ≤ m ∧ m ≤ 15) : ∀ (ls : List Int) (o : Bool), (∀ x ∈ ls, x ∈ five) → ∀ w ∈ grpW m o ls, goodW w = true
  | [], _, _, w, hw => absurd hw List.not_mem_nil
  | [n], o, h, w, hw => by
    rw [List.mem_singleton.mp hw]
    have := h n (.head _)
    simp [goodW, hm.1, hm.2, this]
  | n :: k :: r, o, h, w, hw => by
    rw [grpW] at hw
    rcases List.mem_cons.mp hw with rfl | hw
    · have := h n (.head _)
      simp [goodW, this]
    · exact grp_good m hm (k :: r) false (fun x hx => h x (.tail _ hx)) w hw
theorem grp_len (m : Int) : ∀ (ls : List Int) (o : Bool), (grpW m o ls).length = ls.length
  | [], _ => rfl
  | [n], _ => rfl
  | n :: k :: r, o => by rw [grpW, List.length_cons, grp_len m (k :: r) false]; rfl
theorem wordsOf_len (p : List Int × Int) : (wordsOf p).length = p.1.length := by
  unfold wordsOf
  split
  · simp
  · exact grp_len _ _ _
theorem words_len : ∀ (rs : List (List Int × Int)), (∀ p ∈ rs, 1 ≤ p.2) → (rs.flatMap wordsOf).length ≤ (goneAs rs).length
  | [], _ => Nat.le_refl _
  | p :: rs, h => by
    have ih := words_len rs fun q hq => h q (.tail _ hq)
    have h1 := h p (.head _)
    have h2 : p.1.length ≤ p.2.toNat * p.1.length := Nat.le_mul_of_pos_left _ (by (first | decide | assumption | omega))
    unfold goneAs at ih ⊢
    rw [List.flatMap_cons, List.flatMap_cons, List.length_append, List.length_append, wordsOf_len, repL_len]
    (first | decide | assumption | omega)
theorem words_good (path : List Int) (h : path.length ≤ 14) (h5 : ∀ x ∈ path, x ∈ five) : ∀ w ∈ wordsL path, goodW w = true := by
  intro w hw
  obtain ⟨p, hp, hw⟩ := List.mem_flatMap.mp hw
  obtain ⟨h1, _, h3, h4⟩ := rGo_mem path _ _ p hp
  unfold wordsOf at hw
  split at hw
  · obtain ⟨n, hn, rfl⟩ := List.mem_map.mp hw
    have := h5 n (h1 n hn)
    simp [goodW, this]
  · exact grp_good p.2 (by (first | decide | assumption | omega)) p.1 true (fun x hx => h5 x (h1 x hx)) w hw
theorem no_sp_all : (allW.all fun w => !(ln (render w)).contains 32) = true := by decide +kernel
theorem no_sp {w : Wd} (h : goodW w = true) : 32 ∉ ln (render w) := by
  have := List.all_eq_true.mp no_sp_all w (good_mem h)
  simpa using this
theorem good_len {w : Wd} (h : goodW w = true) : (render w).length ≤ 30 := by
  have := word_facts h
  unfold wordFacts at this
  simp only [Bool.and_eq_true, decide_eq_true_eq] at this
  exact this.1.1.2
theorem rounds_ok (path : List Int) (t : Nat) (hne : path ≠ []) (h : path.length ≤ 14) (h5 : ∀ x ∈ path, x ∈ five) (ht : t ≤ 3) : RoundsOk path t := by
  have hg := words_good path h h5
  have hrn := rGo_ne path path.length 0
  have hlen : (wordsL path).length ≤ path.length := by
    have := words_len (roundsL path) fun p hp => (rGo_mem path _ _ p hp).2.2.1
    rwa [rounds_gone] at this
  refine ⟨told_ok path, due_ok path t h5 ht, ⟨wordsL path, ?_, hg, by (first | decide | assumption | omega), ?_⟩, ?_⟩
  · rw [shown_words]
    refine split_join _ ?_ fun w hw => ?_
    · intro e
      have e := List.map_eq_nil_iff.mp e
      have h1 := rounds_gone path
      obtain ⟨g', h2⟩ := words_read (roundsL path) [] [] hrn
      rw [rounds_gone] at h2
      have h3 : (roundsL path).flatMap wordsOf = [] := e
      rw [h3] at h2
      simp at h2
      exact hne h2.1
    · obtain ⟨v, hv, rfl⟩ := List.mem_map.mp hw
      exact no_sp (hg v hv)
  · unfold readW
    obtain ⟨g', e⟩ := words_read (roundsL path) [] [] hrn
    have e' : (wordsL path).foldl rdW ([], [], false) = ([] ++ goneAs (roundsL path), g', false) := e
    rw [e', rounds_gone]; rfl
  · rw [shown_words]
    have h1 := StrLaws.join_length_le sp ((wordsL path).map render)
    have h2 : ∀ ws : List Wd, (∀ w ∈ ws, goodW w = true) → ((ws.map render).map (·.length)).sum ≤ 30 * ws.length := by
      intro ws
      induction ws with
      | nil => intro _; exact Nat.le_refl _
      | cons w ws ih =>
        intro hw
        have := ih fun v hv => hw v (.tail _ hv)
        have := good_len (hw w (.head _))
        simp only [List.map_cons, List.sum_cons, List.length_cons]
        (first | decide | assumption | omega)
    have h3 := h2 _ hg
    have h4 : sp.length = 1 := by rw [sp_is]; rfl
    rw [h4, List.length_map] at h1
    (first | decide | assumption | omega)
end Mine
namespace Mine
open PySem PySem.W PySem.Calls PySem.Spec PyProof.Rows PySem.SeqAt

theorem law_ok : LawOk where
  rows := rows_ok
  ways := ways_ok
  cut := fun path cut _ h => cut_ok path cut h
  rounds := rounds_ok
  gone := gone_ok
/-- the text without its two rows that name the module -/
noncomputable def view : Program := { PySem.Challenge.pw_sa0052_01 with main := { PySem.Challenge.pw_sa0052_01.main with body := (PySem.Challenge.pw_sa0052_01.main.body.take 8).drop 1 ++ PySem.Challenge.pw_sa0052_01.main.body.drop 9 } }
theorem view_defs : recsOf view = allDefs := by kernel_rfl
end Mine
open PySem PySem.W PyProof.Rows
set_option maxHeartbeats 8000000 in
theorem PySem.Challenge.cw_sa0052_01_holds : PySem.Challenge.rw_sa0052_01.Holds := by
  w_on
  o_law
  refine holds_open (q := Mine.view) (loose := []) (d := Mine.D_law) (kwd := []) (Xt := fun s => xlAt Mine.view [] s && recOk (RowW.records PySem.Challenge.rw_sa0052_01.row.toRowW) s) (XP := XL Mine.view []) (Yf := Hook.obs Hook.none) (Ya := Hook.val Hook.none) (YP := Hook.says Hook.none) (N := 1092) ?hl (Hook.of Hook.none) (Hook.keeps Hook.none)
    (fun s e => xl_of s (Bool.and_eq_true_iff.mp e).1) XL.keeps (by kernel_rfl) (by kernel_rfl) (by kernel_rfl) (fun s e => recFacts_of (Bool.and_eq_true_iff.mp e).2) (by kernel_rfl) (by first | assumption | decide +kernel) (by decide +kernel) ⟨rfl, rfl, rfl, rfl, rfl, by decide +kernel⟩ ?hw ?hc
  case hl => intro w; kernel_rfl
  case hw => w_witness2
  case hc => exact Mine.join_walk Mine.view_defs (by decide +kernel) (by kernel_rfl) (by decide +kernel) Mine.law_ok

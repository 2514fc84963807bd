import PyProof.Rows.All
import Wide.All
import OpenK.AllK
import Wide.FinOn
import Lean
import PySem.Challenge.RW_pq0032_01
set_option Elab.async false

section
open PySem PySem.W PyProof.Rows PySem.Calls
set_option tactic.hygienic false
set_option linter.all false
namespace Mine

theorem lle {a b c : Nat} (h : a ≤ b) (k : Nat.ble b c = true) : a ≤ c := Nat.le_trans h (Nat.le_of_ble_eq_true k)
theorem llt {a b c : Nat} (h : a ≤ b) (k : Nat.ble (b + 1) c = true) : a < c := Nat.lt_of_le_of_lt h (Nat.le_of_ble_eq_true k)
theorem llm {a b c : Nat} (h : a < b) (k : Nat.ble b (c + 1) = true) : a ≤ c := Nat.le_of_lt_succ (Nat.lt_of_lt_of_le h (Nat.le_of_ble_eq_true k))
theorem lll {a b c : Nat} (h : a < b) (k : Nat.ble b c = true) : a < c := Nat.lt_of_lt_of_le h (Nat.le_of_ble_eq_true k)
abbrev Sub (g h : Heap) : Prop := ∀ b o, g.get? b = some o → h.get? b = some o
theorem Sub.refl (g : Heap) : Sub g g := fun zz zz e => e
theorem Sub.trans {g h k : Heap} (x : Sub g h) (y : Sub h k) : Sub g k := fun b o e => y b o (x b o e)

abbrev Res := Addr × (Obj → Prop)

noncomputable def freedObj : Obj := { cls := .none, data := .freed }
noncomputable def graft (g : Heap) (a : Addr) (o : Obj) : Heap :=
  { g with objs := Array.ofFn (n := max g.objs.size (a + 1)) fun i => if i.1 = a then o else g.objs.getD i.1 freedObj }

theorem graft_objs (g : Heap) (a : Addr) (o : Obj) (b : Nat) : (graft g a o).objs[b]? = if b < max g.objs.size (a + 1) then some (if b = a then o else g.objs.getD b freedObj) else none := by
  unfold graft
  simp only [Array.getElem?_ofFn]
  split <;> rfl
theorem graft_self {g : Heap} {a : Addr} {o : Obj} (ho : o.isFreed = false) : (graft g a o).get? a = some o := by
  refine Heap.get?_some_iff.mpr ⟨?_, ho⟩
  rw [graft_objs, if_pos (Nat.lt_of_lt_of_le (Nat.lt_succ_self a) (Nat.le_max_right _ _)), if_pos rfl]
theorem graft_other {g : Heap} {a b : Addr} {o : Obj} (hb : b ≠ a) : (graft g a o).get? b = g.get? b := by
  apply Option.ext
  intro x
  rw [Heap.get?_some_iff, Heap.get?_some_iff, graft_objs, if_neg hb]
  constructor
  · rintro ⟨h1, h2⟩
    split at h1
    · have h1 := Option.some.inj h1
      refine ⟨?_, h2⟩
      by_cases hlt : b < g.objs.size
      · rw [Array.getElem?_eq_getElem hlt]
        simp only [Array.getD, hlt, dif_pos] at h1
        exact congrArg some h1
      · simp only [Array.getD, hlt, dif_neg, not_false_eq_true] at h1
        rw [← h1] at h2; cases h2
    · cases h1
  · rintro ⟨h1, h2⟩
    refine ⟨?_, h2⟩
    obtain ⟨hlt, e⟩ := Array.getElem?_eq_some_iff.mp h1
    rw [if_pos (Nat.lt_of_lt_of_le hlt (Nat.le_max_left _ _))]
    simp only [Array.getD, hlt, dif_pos]
    exact congrArg some e

structure Own (g : Heap) (μ : List Res) (h : Heap) : Prop where
  sub : Sub g h
  res : ∀ p ∈ μ, ∃ o, h.get? p.1 = some o ∧ p.2 o
  nd : (μ.map (·.1)).Nodup
  off : ∀ p ∈ μ, g.get? p.1 = none

structure Step (g : Heap) (D : List Addr) (s : Shared) (g' : Heap) (s' : Shared) : Prop where
  same : s'.gens = s.gens ∧ s'.os = s.os
  keep : ∀ b o, b ∉ D → s.heap.get? b = some o → s'.heap.get? b = some o
  dom : ∀ b, s.heap.get? b ≠ none → s'.heap.get? b ≠ none
  le : Sub g g'
  old : ∀ b, s.heap.get? b ≠ none → g.get? b = none → g'.get? b = none

structure In (g₀ : Heap) (D : List Addr) (s₀ : Shared) (g : Heap) (μ : List Res) (s : Shared) : Prop where
  step : Step g₀ D s₀ g s
  own : Own g μ s.heap
  mine : ∀ p ∈ μ, p.1 ∈ D ∨ s₀.heap.get? p.1 = none

theorem Step.trans {g g' g'' : Heap} {D D' : List Addr} {s s' s'' : Shared} (x : Step g D s g' s') (y : Step g' D' s' g'' s'')
    (hD : ∀ b ∈ D', b ∈ D ∨ s.heap.get? b = none) : Step g D s g'' s'' where
  same := ⟨y.same.1.trans x.same.1, y.same.2.trans x.same.2⟩
  keep := fun b o hb e => y.keep b o (fun h => (hD b h).elim hb fun e' => by rw [e'] at e; cases e) (x.keep b o hb e)
  dom := fun b e => y.dom b (x.dom b e)
  le := x.le.trans y.le
  old := fun b e e' => y.old b (x.dom b e) (x.old b e e')
theorem get?_fresh (h : Heap) : h.get? h.objs.size = none := Heap.get?_none_of_le (Nat.le_refl _)
theorem ne_fresh {h : Heap} {a : Addr} {o : Obj} (e : h.get? a = some o) : a ≠ h.objs.size := Nat.ne_of_lt (Heap.lt_size e)

section
variable {g₀ g g' : Heap} {D : List Addr} {s₀ s s' : Shared} {μ : List Res}

theorem In.get (I : In g₀ D s₀ g μ s) {i : Nat} {a : Addr} {P : Obj → Prop} (hi : μ[i]? = some (a, P)) : ∃ o, s.heap.get? a = some o ∧ P o :=
  I.own.res (a, P) (List.mem_of_getElem? hi)

theorem In.tok (I : In g₀ D s₀ g μ s) (t : Nat) : In g₀ D s₀ g μ { s with toks := t } where
  step := { same := I.step.same, keep := I.step.keep, dom := I.step.dom, le := I.step.le, old := I.step.old }
  own := I.own
  mine := I.mine

set_option tactic.hygienic true in
theorem In.chg (I : In g₀ D s₀ g μ s) {i : Nat} {a : Addr} {P P' : Obj → Prop} (hi : μ[i]? = some (a, P)) {h' : Heap} {tk : Nat}
    (hk : ∀ b o, b ≠ a → s.heap.get? b = some o → h'.get? b = some o) {o' : Obj} (ho : h'.get? a = some o') (hP : P' o') :
    In g₀ D s₀ g (μ.set i (a, P')) { s with heap := h', toks := tk } := by
  have hm := List.mem_of_getElem? hi
  have hlt : i < μ.length := (List.getElem?_eq_some_iff.mp hi).1
  have hmap : (μ.set i (a, P')).map (·.1) = μ.map (·.1) := by
    rw [List.map_set]
    apply List.ext_getElem?
    intro j
    rw [List.getElem?_set]
    split
    · rename_i e; subst e
      rw [if_pos (by simpa using hlt), List.getElem?_map, hi]; rfl
    · rfl
  have hdis : ∀ p ∈ μ.set i (a, P'), p = (a, P') ∨ (p ∈ μ ∧ p.1 ≠ a) := by
    intro p hp
    obtain ⟨j, hj⟩ := List.mem_iff_getElem?.mp hp
    rw [List.getElem?_set] at hj
    split at hj
    · exact .inl (Option.some.inj hj).symm
    · rename_i hne
      refine .inr ⟨List.mem_of_getElem? hj, fun e => ?_⟩
      have h1 : (μ.map (·.1))[j]? = some a := by rw [List.getElem?_map, hj, ← e]; rfl
      have h2 : (μ.map (·.1))[i]? = some a := by rw [List.getElem?_map, hi]; rfl
      have := (List.getElem?_inj (List.getElem?_eq_some_iff.mp h2).1 I.own.nd).mp (h2.trans h1.symm)
      exact hne this
  have hoff := I.own.off _ hm
  refine ⟨⟨?_, ?_, ?_, I.step.le, I.step.old⟩, ⟨?_, ?_, ?_, ?_⟩, ?_⟩
  · exact I.step.same
  · intro b o hb e
    by_cases hba : b = a
    · subst hba
      rcases I.mine _ hm with h | h
      · exact absurd h hb
      · rw [show s₀.heap.get? b = none from h] at e; cases e
    · exact hk b o hba (I.step.keep b o hb e)
  · intro b e
    by_cases hba : b = a
    · subst hba
      show h'.get? b ≠ none
      rw [ho]; exact fun e => by cases e
    · cases hs : s.heap.get? b with
      | none => exact absurd hs (I.step.dom b e)
      | some o =>
        show h'.get? b ≠ none
        rw [hk b o hba hs]; exact fun e => by cases e
  · intro b o e
    refine hk b o (fun hba => ?_) (I.own.sub b o e)
    subst hba
    rw [show g.get? b = none from hoff] at e; cases e
  · intro p hp
    rcases hdis p hp with rfl | ⟨hp', hne⟩
    · exact ⟨o', ho, hP⟩
    · obtain ⟨o, h1, h2⟩ := I.own.res p hp'
      exact ⟨o, hk _ _ hne h1, h2⟩
  · rw [hmap]; exact I.own.nd
  · intro p hp
    rcases hdis p hp with rfl | ⟨hp', _⟩
    · exact hoff
    · exact I.own.off p hp'
  · intro p hp
    rcases hdis p hp with rfl | ⟨hp', _⟩
    · have := I.mine (a, P) hm
      exact this
    · exact I.mine p hp'

theorem In.ext (I : In g₀ D s₀ g μ s) {h' : Heap} {tk : Nat} (hk : ∀ b o, s.heap.get? b = some o → h'.get? b = some o) :
    In g₀ D s₀ g μ { s with heap := h', toks := tk } where
  step := {
    same := I.step.same
    keep := fun b o hb e => hk b o (I.step.keep b o hb e)
    dom := fun b e => by
      cases hs : s.heap.get? b with
      | none => exact absurd hs (I.step.dom b e)
      | some o =>
        show h'.get? b ≠ none
        rw [hk b o hs]; exact fun e => by cases e
    le := I.step.le
    old := I.step.old }
  own := ⟨fun b o e => hk b o (I.own.sub b o e), fun p hp => let ⟨o, h1, h2⟩ := I.own.res p hp; ⟨o, hk _ _ h1, h2⟩, I.own.nd, I.own.off⟩
  mine := I.mine

theorem In.drew (I : In g₀ D s₀ g μ s) (dr : _) : In g₀ D s₀ g μ { s with drawn := dr } where
  step := { same := I.step.same, keep := I.step.keep, dom := I.step.dom, le := I.step.le, old := I.step.old }
  own := I.own
  mine := I.mine

theorem In.junk (I : In g₀ D s₀ g μ s) (o : Obj) : In g₀ D s₀ g μ { s with heap := s.heap.push o } := by
  have := I.ext (h' := s.heap.push o) (tk := s.toks) fun b o' e => Heap.get?_push_of_some o e
  exact this

theorem In.sub {ν : List Res} (I : In g₀ D s₀ g μ s) (h : ν.Sublist μ) : In g₀ D s₀ g ν s where
  step := I.step
  own := ⟨I.own.sub, fun p hp => I.own.res p (h.subset hp), (I.own.nd.sublist (h.map _)), fun p hp => I.own.off p (h.subset hp)⟩
  mine := fun p hp => I.mine p (h.subset hp)

theorem In.perm {ν : List Res} (I : In g₀ D s₀ g μ s) (h : μ.Perm ν) : In g₀ D s₀ g ν s where
  step := I.step
  own := ⟨I.own.sub, fun p hp => I.own.res p (h.mem_iff.mpr hp), (h.map (·.1)).nodup_iff.mp I.own.nd, fun p hp => I.own.off p (h.mem_iff.mpr hp)⟩
  mine := fun p hp => I.mine p (h.mem_iff.mpr hp)

theorem In.free (I : In g₀ D s₀ g μ s) : s₀.heap.get? s.heap.objs.size = none := by
  cases e : s₀.heap.get? s.heap.objs.size with
  | none => rfl
  | some o => exact absurd (get?_fresh s.heap) (I.step.dom _ (by rw [e]; exact fun e => by cases e))

theorem In.new (I : In g₀ D s₀ g μ s) {o : Obj} {P : Obj → Prop} (hP : P o) (hf : o.isFreed = false := by rfl) :
    In g₀ D s₀ g ((s.heap.objs.size, P) :: μ) { s with heap := s.heap.push o } := by
  have J := I.junk o
  refine ⟨J.step, ⟨J.own.sub, fun p hp => ?_, ?_, fun p hp => ?_⟩, fun p hp => ?_⟩
  · rcases List.mem_cons.mp hp with rfl | hp
    · exact ⟨o, Heap.get?_push_size _ hf, hP⟩
    · exact J.own.res p hp
  · rw [List.map_cons, List.nodup_cons]
    refine ⟨fun hm => ?_, I.own.nd⟩
    obtain ⟨p, hp, e⟩ := List.mem_map.mp hm
    obtain ⟨o', h1, _⟩ := I.own.res p hp
    exact ne_fresh h1 e
  · rcases List.mem_cons.mp hp with rfl | hp
    · show g.get? s.heap.objs.size = none
      cases e : g.get? s.heap.objs.size with
      | none => rfl
      | some o' => exact absurd (I.own.sub _ _ e) (by rw [get?_fresh]; exact fun e => by cases e)
    · exact I.own.off p hp
  · rcases List.mem_cons.mp hp with rfl | hp
    · exact .inr I.free
    · exact I.mine p hp

theorem In.freeze {a : Addr} {P : Obj → Prop} (I : In g₀ D s₀ g ((a, P) :: μ) s) (ha : s₀.heap.get? a = none) :
    ∃ g' o, Sub g g' ∧ g'.get? a = some o ∧ P o ∧ In g₀ D s₀ g' μ s := by
  obtain ⟨o, ho, hP⟩ := I.own.res (a, P) List.mem_cons_self
  have hoff : g.get? a = none := I.own.off (a, P) List.mem_cons_self
  have hnd : a ∉ μ.map (·.1) := (List.nodup_cons.mp I.own.nd).1
  have hfr : o.isFreed = false := (Heap.get?_some_iff.mp ho).2
  have hle : Sub g (graft g a o) := fun b o' e => by
    rw [graft_other (fun h => by subst h; rw [hoff] at e; cases e)]; exact e
  refine ⟨graft g a o, o, hle, graft_self hfr, hP, ⟨⟨I.step.same, I.step.keep, I.step.dom, I.step.le.trans hle, fun b e e' => ?_⟩, ⟨fun b o' e => ?_, fun p hp => I.own.res p (List.mem_cons_of_mem _ hp), (List.nodup_cons.mp I.own.nd).2, fun p hp => ?_⟩, fun p hp => I.mine p (List.mem_cons_of_mem _ hp)⟩⟩
  · rw [graft_other (fun h => by subst h; exact e ha)]
    exact I.step.old b e e'
  · by_cases hb : b = a
    · subst hb; rw [graft_self hfr] at e; cases e; exact ho
    · rw [graft_other hb] at e; exact I.own.sub b o' e
  · rw [graft_other (fun h => hnd (List.mem_map.mpr ⟨p, hp, h⟩))]
    exact I.own.off p (List.mem_cons_of_mem _ hp)

theorem In.newFrozen (I : In g₀ D s₀ g μ s) (o : Obj) (hf : o.isFreed = false := by rfl) :
    ∃ g', Sub g g' ∧ g'.get? s.heap.objs.size = some o ∧ In g₀ D s₀ g' μ { s with heap := s.heap.push o } := by
  obtain ⟨g', o', h1, h2, rfl, h4⟩ := (I.new (P := fun x => x = o) rfl hf).freeze I.free
  exact ⟨g', h1, h2, h4⟩

theorem In.call {Dc : List Addr} {μ' : List Res} (I : In g₀ D s₀ g μ s) (x : Step g Dc s g' s') (hs : Sub g' s'.heap) (hmap : μ'.map (·.1) = μ.map (·.1)) (hD : ∀ b ∈ Dc, b ∈ μ.map (·.1))
    (h : ∀ p ∈ μ', (p ∈ μ ∧ p.1 ∉ Dc) ∨ ∃ o, s'.heap.get? p.1 = some o ∧ p.2 o) : In g₀ D s₀ g' μ' s' := by
  have back : ∀ p ∈ μ', ∃ q ∈ μ, q.1 = p.1 := fun p hp => by
    have : p.1 ∈ μ.map (·.1) := hmap ▸ List.mem_map_of_mem hp
    obtain ⟨q, hq, e⟩ := List.mem_map.mp this
    exact ⟨q, hq, e⟩
  refine ⟨I.step.trans x fun b hb => ?_, ⟨hs, fun p hp => ?_, hmap ▸ I.own.nd, fun p hp => ?_⟩, fun p hp => ?_⟩
  · obtain ⟨q, hq, rfl⟩ := List.mem_map.mp (hD b hb)
    exact I.mine q hq
  · rcases h p hp with ⟨h1, h2⟩ | h1
    · obtain ⟨o, ho, hP⟩ := I.own.res p h1
      exact ⟨o, x.keep _ _ h2 ho, hP⟩
    · exact h1
  · obtain ⟨q, hq, e⟩ := back p hp
    obtain ⟨o, ho, _⟩ := I.own.res q hq
    have := x.old q.1 (by rw [ho]; exact fun e => by cases e) (I.own.off q hq)
    rw [← e]; exact this
  · obtain ⟨q, hq, e⟩ := back p hp
    have := I.mine q hq
    rw [← e]; exact this

theorem In.call0 (I : In g₀ D s₀ g μ s) (x : Step g [] s g' s') (hs : Sub g' s'.heap) : In g₀ D s₀ g' μ s' :=
  I.call x hs rfl (fun zz h => (nomatch h)) fun zz hp => .inl ⟨hp, fun h => nomatch h⟩

set_option tactic.hygienic true in
theorem In.call1 {i : Nat} {a : Addr} {P P' : Obj → Prop} (I : In g₀ D s₀ g μ s) (hi : μ[i]? = some (a, P)) (x : Step g [a] s g' s') (hs : Sub g' s'.heap) (h : ∃ o, s'.heap.get? a = some o ∧ P' o) :
    In g₀ D s₀ g' (μ.set i (a, P')) s' := by
  have hlt : i < μ.length := (List.getElem?_eq_some_iff.mp hi).1
  refine I.call x hs ?_ (fun b hb => ?_) fun p hp => ?_
  · rw [List.map_set]
    apply List.ext_getElem?
    intro j
    rw [List.getElem?_set]
    split
    · rename_i e; subst e
      rw [if_pos (by simpa using hlt), List.getElem?_map, hi]; rfl
    · rfl
  · rw [List.mem_singleton.mp hb]; exact List.mem_map_of_mem (f := (·.1)) (List.mem_of_getElem? hi)
  · obtain ⟨j, hj⟩ := List.mem_iff_getElem?.mp hp
    rw [List.getElem?_set] at hj
    split at hj
    · rw [← Option.some.inj hj]; exact .inr h
    · rename_i hne
      refine .inl ⟨List.mem_of_getElem? hj, fun e => hne ?_⟩
      have e := List.mem_singleton.mp e
      have h1 : (μ.map (·.1))[j]? = some a := by rw [List.getElem?_map, hj, ← e]; rfl
      have h2 : (μ.map (·.1))[i]? = some a := by rw [List.getElem?_map, hi]; rfl
      exact (List.getElem?_inj (List.getElem?_eq_some_iff.mp h2).1 I.own.nd).mp (h2.trans h1.symm)
end

end Mine
end

section
open PySem PySem.W PyProof.Rows PySem.Calls
set_option tactic.hygienic false
set_option linter.all false
namespace Mine

/-! data -/
noncomputable def Rd (g : Heap) (v : Value) (d : PyData) : Prop := ∃ as, Reads g v d as
noncomputable def Rds (g : Heap) (vs : List Value) (ds : List PyData) : Prop := ∃ as, ReadsAll g vs ds as

theorem Rd.mono {g g' : Heap} {v : Value} {d : PyData} (x : Rd g v d) (h : Sub g g') : Rd g' v d := let ⟨as, r⟩ := x; ⟨as, Reads.keeps h r⟩
theorem Rds.mono {g g' : Heap} {v : List Value} {d : List PyData} (x : Rds g v d) (h : Sub g g') : Rds g' v d := let ⟨as, r⟩ := x; ⟨as, ReadsAll.keeps h r⟩
theorem Rd.bool {g : Heap} {b : Bool} : Rd g (.bool b) (.bool b) := ⟨_, .bool b⟩
theorem Rd.int {g : Heap} {i : Int} {t : Tok} : Rd g (.int i t) (.int i) := ⟨_, .int i t⟩
theorem Rd.str {g : Heap} {x : Str} {t : Tok} : Rd g (.str x t) (.str x) := ⟨_, .str x t⟩
theorem Rds.nil {g : Heap} : Rds g [] [] := ⟨_, .nil⟩
theorem Rds.cons {g : Heap} {v : Value} {d : PyData} {vs : List Value} {ds : List PyData} (x : Rd g v d) (y : Rds g vs ds) : Rds g (v :: vs) (d :: ds) :=
  let ⟨_, r⟩ := x; let ⟨_, q⟩ := y; ⟨_, .cons r q⟩
theorem Rds.one {g : Heap} {v : Value} {d : PyData} (x : Rd g v d) : Rds g [v] [d] := .cons x .nil
theorem Rds.two {g : Heap} {v v' : Value} {d d' : PyData} (x : Rd g v d) (y : Rd g v' d') : Rds g [v, v'] [d, d'] := .cons x (.one y)
theorem Rds.inv {g : Heap} {v : Value} {d : PyData} {vs : List Value} {ds : List PyData} (x : Rds g (v :: vs) (d :: ds)) : Rd g v d ∧ Rds g vs ds := by
  obtain ⟨as, r⟩ := x
  cases r with
  | cons r q => exact ⟨⟨_, r⟩, ⟨_, q⟩⟩
theorem Rds.cases_nil {g : Heap} {vs : List Value} (x : Rds g vs []) : vs = [] := by obtain ⟨as, r⟩ := x; cases r; rfl
theorem Rds.cases_cons {g : Heap} {vs : List Value} {d : PyData} {ds : List PyData} (x : Rds g vs (d :: ds)) : ∃ v r, vs = v :: r ∧ Rd g v d ∧ Rds g r ds := by
  obtain ⟨as, r⟩ := x
  cases r with
  | cons r q => exact ⟨_, _, rfl, ⟨_, r⟩, ⟨_, q⟩⟩
theorem Rds.length {g : Heap} : ∀ {vs : List Value} {ds : List PyData}, Rds g vs ds → vs.length = ds.length
  | vs, [], x => by rw [x.cases_nil]; rfl
  | vs, d :: ds, x => by
    obtain ⟨v, r, rfl, _, q⟩ := x.cases_cons
    simp [q.length]
theorem Rds.append {g : Heap} : ∀ {vs ws : List Value} {ds es : List PyData}, Rds g vs ds → Rds g ws es → Rds g (vs ++ ws) (ds ++ es)
  | vs, ws, [], es, x, y => by rw [x.cases_nil]; exact y
  | vs, ws, d :: ds, es, x, y => by
    obtain ⟨v, r, rfl, hv, q⟩ := x.cases_cons
    exact .cons hv (q.append y)
theorem Rds.drop {g : Heap} : ∀ (n : Nat) {vs : List Value} {ds : List PyData}, Rds g vs ds → Rds g (vs.drop n) (ds.drop n)
  | 0, vs, ds, x => by simpa using x
  | n + 1, vs, [], x => by rw [x.cases_nil]; simpa using Rds.nil
  | n + 1, vs, d :: ds, x => by
    obtain ⟨v, r, rfl, _, q⟩ := x.cases_cons
    simpa using q.drop n
theorem Rds.take {g : Heap} : ∀ (n : Nat) {vs : List Value} {ds : List PyData}, Rds g vs ds → Rds g (vs.take n) (ds.take n)
  | 0, vs, ds, x => by simpa using Rds.nil
  | n + 1, vs, [], x => by rw [x.cases_nil]; simpa using Rds.nil
  | n + 1, vs, d :: ds, x => by
    obtain ⟨v, r, rfl, h, q⟩ := x.cases_cons
    simpa using Rds.cons h (q.take n)
theorem Rds.get {g : Heap} : ∀ {vs : List Value} {ds : List PyData} {i : Nat} {d : PyData}, Rds g vs ds → ds[i]? = some d → ∃ v, vs[i]? = some v ∧ Rd g v d
  | vs, [], i, d, x, h => by simp at h
  | vs, d' :: ds, 0, d, x, h => by
    obtain ⟨v, r, rfl, hv, q⟩ := x.cases_cons
    simp only [List.getElem?_cons_zero, Option.some.injEq] at h; subst h
    exact ⟨v, rfl, hv⟩
  | vs, d' :: ds, i + 1, d, x, h => by
    obtain ⟨v, r, rfl, hv, q⟩ := x.cases_cons
    simpa using q.get (i := i) (by simpa using h)
theorem Rds.getV {g : Heap} : ∀ {vs : List Value} {ds : List PyData} {i : Nat} {v : Value}, Rds g vs ds → vs[i]? = some v → ∃ d, ds[i]? = some d ∧ Rd g v d
  | vs, [], i, v, x, h => by rw [x.cases_nil] at h; simp at h
  | vs, d' :: ds, 0, v, x, h => by
    obtain ⟨v', r, rfl, hv, q⟩ := x.cases_cons
    simp only [List.getElem?_cons_zero, Option.some.injEq] at h; subst h
    exact ⟨d', rfl, hv⟩
  | vs, d' :: ds, i + 1, v, x, h => by
    obtain ⟨v', r, rfl, hv, q⟩ := x.cases_cons
    simpa using q.getV (i := i) (by simpa using h)
theorem Rds.reverse {g : Heap} : ∀ {vs : List Value} {ds : List PyData}, Rds g vs ds → Rds g vs.reverse ds.reverse
  | vs, [], x => by rw [x.cases_nil]; exact .nil
  | vs, d :: ds, x => by
    obtain ⟨v, r, rfl, hv, q⟩ := x.cases_cons
    simpa using q.reverse.append (.one hv)

theorem Rd.int_inv {g : Heap} {v : Value} {i : Int} (x : Rd g v (.int i)) : ∃ t, v = .int i t := by obtain ⟨as, r⟩ := x; cases r; exact ⟨_, rfl⟩
theorem Rd.str_inv {g : Heap} {v : Value} {i : Str} (x : Rd g v (.str i)) : ∃ t, v = .str i t := by obtain ⟨as, r⟩ := x; cases r; exact ⟨_, rfl⟩
theorem Rd.bool_inv {g : Heap} {v : Value} {i : Bool} (x : Rd g v (.bool i)) : v = .bool i := by obtain ⟨as, r⟩ := x; cases r; rfl
theorem Rd.tup_inv {g : Heap} {v : Value} {ds : List PyData} (x : Rd g v (.tuple ds)) : ∃ a vs, v = .ref a ∧ IsTup g a vs.toArray ∧ Rds g vs ds := by
  obtain ⟨as, r⟩ := x
  cases r with
  | @tuple a o vs n xs as h1 h2 h3 h4 => exact ⟨a, vs.toList, rfl, ⟨o, h1, h2, n, by rw [h3]⟩, ⟨_, h4⟩⟩
theorem Rd.lst_inv {g : Heap} {v : Value} {ds : List PyData} (x : Rd g v (.list ds)) : ∃ a vs, v = .ref a ∧ g.IsList a vs.toArray ∧ Rds g vs ds := by
  obtain ⟨as, r⟩ := x
  cases r with
  | @list a o vs n xs as h1 h2 h3 h4 => exact ⟨a, vs.toList, rfl, ⟨o, h1, h2, n, by rw [h3]⟩, ⟨_, h4⟩⟩
theorem Rd.tup {g : Heap} {a : Addr} {vs : List Value} {ds : List PyData} (h : IsTup g a vs.toArray) (x : Rds g vs ds) : Rd g (.ref a) (.tuple ds) := by
  obtain ⟨o, h1, h2, n, h3⟩ := h
  obtain ⟨as, r⟩ := x
  exact ⟨_, .tuple h1 h2 h3 r⟩
theorem Rd.lst {g : Heap} {a : Addr} {vs : List Value} {ds : List PyData} (h : g.IsList a vs.toArray) (x : Rds g vs ds) : Rd g (.ref a) (.list ds) := by
  obtain ⟨o, h1, h2, n, h3⟩ := h
  obtain ⟨as, r⟩ := x
  exact ⟨_, .list h1 h2 h3 r⟩

theorem isList_sub {g h : Heap} {a : Addr} {items : Array Value} (x : g.IsList a items) (k : Sub g h) : h.IsList a items := let ⟨o, ho, r⟩ := x; ⟨o, k _ _ ho, r⟩

/-! what an owned object is -/
noncomputable def nsP (m : Str → Option Value) (o : Obj) : Prop := ∃ es ep, o.data = .dict es ep ∧ StrKeys es ∧ ∀ name, nsFind es name = m name
noncomputable def cellP (v : Option Value) (o : Obj) : Prop := o.data = .cell v
noncomputable def listP (vs : List Value) (o : Obj) : Prop := ∃ n, o = { cls := .type "list", dict := none, data := .seq vs.toArray n, slots := #[] }
noncomputable def upd (m : Str → Option Value) (x : Str) (v : Value) : Str → Option Value := fun y => if y = x then some v else m y

structure Room (A : Around) (n : Nat) : Prop where
  hd : A.handled = none
  dp : A.depth + n < recursionLimit
  un : A.units + 3 * n + 100 < cLine

theorem Room.mono {A : Around} {n k : Nat} (x : Room A n) (h : k ≤ n) : Room A k := ⟨x.hd, Nat.lt_of_le_of_lt (Nat.add_le_add_left h _) x.dp, Nat.lt_of_le_of_lt (Nat.add_le_add_right (Nat.add_le_add_left (Nat.mul_le_mul_left 3 h) _) 100) x.un⟩
theorem Room.deeper {A : Around} {n : Nat} {env : Env} (x : Room A (n + 1)) : Room (A.deeper env) n := ⟨x.hd, Nat.lt_of_le_of_lt (Nat.le_of_eq (Nat.add_right_comm A.depth 1 n)) x.dp, Nat.lt_of_le_of_lt (Nat.le_of_eq (congrArg (· + 100) (Nat.add_right_comm A.units 3 (3 * n)))) x.un⟩

section
variable {prog : Program} {w : World} {A : Around} {E : Value → Shared → Prop} {g₀ g : Heap} {D : List Addr} {s₀ s : Shared} {μ : List Res} {env : Env}

theorem In.ns (I : In g₀ D s₀ g μ s) {i : Nat} {a : Addr} {m : Str → Option Value} (hi : μ[i]? = some (a, nsP m)) : s.heap.Ns a m :=
  let ⟨o, ho, es, ep, h1, h2, h3⟩ := I.get hi; ⟨o, es, ep, ho, h1, h2, h3⟩
theorem In.cell (I : In g₀ D s₀ g μ s) {i : Nat} {a : Addr} {v : Option Value} (hi : μ[i]? = some (a, cellP v)) : s.heap.IsCell a v :=
  let ⟨o, ho, h⟩ := I.get hi; ⟨o, ho, h⟩

/-! names -/
theorem n_local (I : In g₀ D s₀ g μ s) {i : Nat} {m : Str → Option Value} {x : Str} {pos : Pos} {v : Value} {Q : Value → Shared → Prop} (hi : μ[i]? = some (env.locals, nsP m))
    (hk : env.scope.kind = .function) (hl : env.kindOf x = some .local) (hv : m x = some v) (hd : (x == ("__debug__" : Str)) = false) (h : Q v s) : wpAny (model prog w) A (eval (.Name x pos) env) Q E s :=
  wpAny_Name (wpAny_loadName_local hk hl (I.ns hi) hv h) hd
theorem n_cell (I : In g₀ D s₀ g μ s) {i : Nat} {c : Addr} {x : Str} {pos : Pos} {v : Value} {Q : Value → Shared → Prop}
    (hc : env.cells.lookup x = some c) (hi : μ[i]? = some (c, cellP (some v)))
    (hk : env.scope.kind = .function) (hl : env.kindOf x = some .cell) (hd : (x == ("__debug__" : Str)) = false) (h : Q v s) : wpAny (model prog w) A (eval (.Name x pos) env) Q E s :=
  wpAny_Name (wpAny_loadName_cell hk hl hc (I.cell hi) h) hd
theorem st_local (I : In g₀ D s₀ g μ s) {i : Nat} {m : Str → Option Value} {x : Str} {v : Value} {Q : Unit → Shared → Prop} (hi : μ[i]? = some (env.locals, nsP m))
    (hl : env.kindOf x = some .local) (hk : env.scope.kind = .function) (h : ∀ s', In g₀ D s₀ g (μ.set i (env.locals, nsP (upd m x v))) s' → Q () s') : wpAny (model prog w) A (storeName env x v) Q E s := by
  refine wpAny_storeName_local hl (I.ns hi) (fun h' hn hs => h _ ?_) (by rw [hk]; rfl)
  obtain ⟨o, es, ep, ho, h1, h2, h3⟩ := hn
  exact I.chg hi (fun b o hb e => hs.extBut b o hb e) ho ⟨es, ep, h1, h2, h3⟩
theorem st_cell (I : In g₀ D s₀ g μ s) {i : Nat} {c : Addr} {x : Str} {v₀ : Option Value} {v : Value} {Q : Unit → Shared → Prop} (hc : env.cells.lookup x = some c) (hi : μ[i]? = some (c, cellP v₀))
    (hl : env.kindOf x = some .cell) (hk : env.scope.kind = .function) (h : ∀ s', In g₀ D s₀ g (μ.set i (c, cellP (some v))) s' → Q () s') : wpAny (model prog w) A (storeName env x v) Q E s := by
  refine wpAny_storeName_cell hk hl hc (I.cell hi) (fun h' hn hs => h _ ?_)
  obtain ⟨o, ho, h1⟩ := hn
  exact I.chg (tk := s.toks) hi (fun b o hb e => hs.extBut b o hb e) ho h1

/-! constants -/
theorem c_int (I : In g₀ D s₀ g μ s) {i : Int} {k : Nat} {pos : Pos} {Q : Value → Shared → Prop} (h : ∀ s' t, In g₀ D s₀ g μ s' → Q (.int i t) s') : wpAny (model prog w) A (eval (.Constant (.int i) k pos) env) Q E s :=
  wpAny_Constant_int (h _ _ (I.tok _))
theorem c_str (I : In g₀ D s₀ g μ s) {i : Str} {k : Nat} {pos : Pos} {Q : Value → Shared → Prop} (h : ∀ s' t, In g₀ D s₀ g μ s' → Q (.str i t) s') : wpAny (model prog w) A (eval (.Constant (.str i) k pos) env) Q E s :=
  wpAny_Constant_str (h _ _ (I.tok _))

/-! ints -/
theorem o_add (I : In g₀ D s₀ g μ s) {a b : Int} {t u : Tok} {Q : Value → Shared → Prop} (h : ∀ s' t, In g₀ D s₀ g μ s' → Q (.int (a + b) t) s') : wpAny (model prog w) A (binaryOp .Add (.int a t) (.int b u)) Q E s :=
  PyProof.Rows.add_int (h _ _ (I.tok _))
theorem o_sub (I : In g₀ D s₀ g μ s) {a b : Int} {t u : Tok} {Q : Value → Shared → Prop} (h : ∀ s' t, In g₀ D s₀ g μ s' → Q (.int (a - b) t) s') : wpAny (model prog w) A (binaryOp .Sub (.int a t) (.int b u)) Q E s :=
  PyProof.Rows.sub_int (h _ _ (I.tok _))
theorem o_mod (I : In g₀ D s₀ g μ s) {a b : Int} {t u : Tok} {Q : Value → Shared → Prop} (hb : b ≠ 0) (h : ∀ s' t, In g₀ D s₀ g μ s' → Q (.int (a.fmod b) t) s') : wpAny (model prog w) A (binaryOp .Mod (.int a t) (.int b u)) Q E s :=
  PyProof.Rows.mod_int hb (h _ _ (I.tok _))

/-! len, items, cuts -/
theorem b_len_tup (I : In g₀ D s₀ g μ s) {v : Value} {ds : List PyData} {Q : Value → Shared → Prop} (hv : Rd g v (.tuple ds)) (hn : ds.length < 2 ^ 20) (h : ∀ s' t, In g₀ D s₀ g μ s' → Q (.int ds.length t) s') :
    wpAny (model prog w) A (call (.builtin "len") [v]) Q E s := by
  obtain ⟨a, vs, rfl, ht, hr⟩ := hv.tup_inv
  have hl := hr.length
  refine PyProof.Rows.len_tuple (IsTup.keeps ht I.own.sub) (by simp; omega) ?_
  rw [List.size_toArray, hl]
  exact h _ _ (I.tok _)
theorem b_len_lst (I : In g₀ D s₀ g μ s) {v : Value} {ds : List PyData} {Q : Value → Shared → Prop} (hv : Rd g v (.list ds)) (hn : ds.length < 2 ^ 20) (h : ∀ s' t, In g₀ D s₀ g μ s' → Q (.int ds.length t) s') :
    wpAny (model prog w) A (call (.builtin "len") [v]) Q E s := by
  obtain ⟨a, vs, rfl, ht, hr⟩ := hv.lst_inv
  have hl := hr.length
  refine call_len_list (isList_sub ht I.own.sub) (by simp; omega) ?_
  rw [List.size_toArray, hl]
  exact h _ _ (I.tok _)

theorem seqIndex_nat {k n : Nat} (h : k < n) : seqIndex? (k : Int) n = some k := by
  have h1 : ¬ ((k : Int) < 0) := Int.not_lt.mpr (Int.natCast_nonneg k)
  unfold seqIndex?
  simp only [if_neg h1]
  exact if_pos (by simpa using h)
theorem small_neg (k : Nat) : -2 ^ 63 ≤ (k : Int) := by omega
theorem small_int {k : Nat} (h : k < 2 ^ 20) : (k : Int) < 2 ^ 63 := by omega

theorem i_tup (I : In g₀ D s₀ g μ s) {value slice : Expr} {v : Value} {ds : List PyData} {k : Nat} {u : Tok} {d : PyData} {Q : Value → Shared → Prop} (hv : Rd g v (.tuple ds)) (hk : ds[k]? = some d) (hn : ds.length < 2 ^ 20)
    (h : ∀ x, Rd g x d → Q x s)
    (hs : ∀ t, subscripted slice false (.ref t) (.int k u) = operate [.ref t, .int k u] (getItem (.ref t) (.int k u)) := by intro _; with_unfolding_all rfl) :
    wpAny (model prog w) A (subscriptTail value slice v (.int k u)) Q E s := by
  obtain ⟨a, vs, rfl, ht, hr⟩ := hv.tup_inv
  obtain ⟨x, hx, hxd⟩ := hr.get hk
  have hlt : k < vs.length := (List.getElem?_eq_some_iff.mp hx).1
  have hl := hr.length
  exact item_tupleT (IsTup.keeps ht I.own.sub) (small_neg k) (small_int (Nat.lt_trans (Nat.lt_of_lt_of_eq hlt hl) hn)) (seqIndex_nat hlt) hx (h x hxd) (hs a)
theorem i_lst (I : In g₀ D s₀ g μ s) {value slice : Expr} {v : Value} {ds : List PyData} {k : Nat} {u : Tok} {d : PyData} {Q : Value → Shared → Prop} (hv : Rd g v (.list ds)) (hk : ds[k]? = some d) (hn : ds.length < 2 ^ 20)
    (h : ∀ x, Rd g x d → Q x s)
    (hs : ∀ t, subscripted slice false (.ref t) (.int k u) = operate [.ref t, .int k u] (getItem (.ref t) (.int k u)) := by intro _; with_unfolding_all rfl) :
    wpAny (model prog w) A (subscriptTail value slice v (.int k u)) Q E s := by
  obtain ⟨a, vs, rfl, ht, hr⟩ := hv.lst_inv
  obtain ⟨x, hx, hxd⟩ := hr.get hk
  have hlt : k < vs.length := (List.getElem?_eq_some_iff.mp hx).1
  have hl := hr.length
  have ht' := isList_sub ht I.own.sub
  exact tail_any ht'.typeIs slot_list_getitem.lookup (wpAny_getItem_list (x := x) ht' (Int.natCast_nonneg k) (small_int (Nat.lt_trans (Nat.lt_of_lt_of_eq hlt hl) hn)) (by simpa using hx) (h x hxd)) (hs a)

noncomputable def Cut (prog : Program) (w : World) (A : Around) (E : Value → Shared → Prop) (o vl vu : Value) (Q : Value → Shared → Prop) (s : Shared) : Prop :=
  ∃ T id, s.TypeIs o T ∧ typeLookup (.type T) "__getitem__" = pure (some (.builtin id)) ∧
    wpAny (model prog w) A (getItem o (.ref s.heap.objs.size)) Q E { s with heap := s.heap.push { cls := .type "slice", data := .fields #[vl, vu, .none] } }

theorem typeIs_push {s : Shared} {v : Value} {T : String} {o : Obj} (h : s.TypeIs v T) : Shared.TypeIs { s with heap := s.heap.push o } v T := by
  cases v with
  | ref a => obtain ⟨x, hx, hc⟩ := h; exact ⟨x, Heap.get?_push_of_some _ hx, hc⟩
  | _ => exact h

theorem s_cut {value : Expr} {lower upper : Option Expr} {p pos : Pos} {Q : Value → Shared → Prop}
    (h : wpAny (model prog w) A (eval value env) (fun o s₁ => wpAny (model prog w) A (evalPart lower env) (fun vl s₂ => wpAny (model prog w) A (evalPart upper env) (fun vu s₃ => Cut prog w A E o vl vu Q s₃) E s₂) E s₁) E s) :
    wpAny (model prog w) A (eval (.Subscript value (.Slice lower upper none p) pos) env) Q E s := by
  refine Subscript_ (wpAny_mono h (fun o s₁ h₁ => wpAny_Slice (wpAny_mono h₁ (fun vl s₂ h₂ => wpAny_mono h₂ (fun vu s₃ h₃ => ?_) fun zz zz e => e) fun zz zz e => e)) fun zz zz e => e)
  rw [evalPart_none]
  obtain ⟨T, id, hT, hl, hg⟩ := h₃
  refine wpAny_pure ?_
  exact tail_any (ops := [.ref s₃.heap.objs.size, o]) (typeIs_push hT) hl hg rfl

theorem Cut.str (I : In g₀ D s₀ g μ s) {x : Str} {t uj : Tok} {j : Int} {Q : Value → Shared → Prop} (hx : x.length ≤ 2 ^ 20)
    (h : ∀ s' t', In g₀ D s₀ g μ s' → Q (.str (Txt.slice x none (some j)) t') s') : Cut prog w A E (.str x t) .none (.int j uj) Q s :=
  ⟨"str", _, typeIs_str _ _ _, F.slot_str_getitem.lookup, wpAny_getItem_str_slice (l := none) (u := some (j, uj)) (st := none) ⟨_, Heap.get?_push_size _ rfl, rfl, rfl⟩ rfl
    (post_val_or_str ⟨Nat.le_trans (Txt.slice_le x _ _) (Nat.le_trans hx (by rw [sizeLine_eq]; omega)), fun t' k => h _ t' ((I.junk _).tok k)⟩)⟩

end
end Mine
end

section
open PySem PySem.W PyProof.Rows PySem.Calls
set_option tactic.hygienic false
set_option linter.all false
namespace Mine

noncomputable def cutL {α : Type} (lo hi : Option Nat) (l : List α) : List α := ((match hi with | none => l | some b => l.take b)).drop (lo.getD 0)

theorem Rds.cut {g : Heap} {vs : List Value} {ds : List PyData} (x : Rds g vs ds) (lo hi : Option Nat) : Rds g (cutL lo hi vs) (cutL lo hi ds) := by
  unfold cutL
  cases hi with
  | none => exact x.drop _
  | some b => exact (x.take b).drop _

theorem cutL_length {α : Type} (lo hi : Option Nat) (l : List α) : (cutL lo hi l).length = min (hi.getD l.length) l.length - lo.getD 0 := by
  unfold cutL
  cases hi with
  | none => simp
  | some b => simp [List.length_take]

theorem adjust_nat (lo hi : Option Nat) (n : Nat) : Builtin.Slice.sliceAdjust (lo.map Int.ofNat) (hi.map Int.ofNat) 1 (n : Int) = (((min (lo.getD 0) n : Nat) : Int), ((min (hi.getD n) n : Nat) : Int)) := by
  unfold Builtin.Slice.sliceAdjust
  cases lo with
  | none =>
    cases hi with
    | none => simp
    | some b =>
      have h2 : ¬ ((b : Int) < 0) := by omega
      have h1 : ¬ ((1 : Int) < 0) := by omega
      simp [h1, h2]; omega
  | some a =>
    have h1 : ¬ ((1 : Int) < 0) := by omega
    have h3 : ¬ ((a : Int) < 0) := by omega
    cases hi with
    | none => simp [h1, h3]; omega
    | some b =>
      have h2 : ¬ ((b : Int) < 0) := by omega
      simp [h1, h2, h3]; omega

theorem places_nat (a b : Nat) : Builtin.Slice.slicePlaces (a : Int) (b : Int) 1 = b - a := by
  unfold Builtin.Slice.slicePlaces
  rw [if_pos (by decide), Int.ediv_one]
  split
  · rw [Int.sub_add_cancel, Int.toNat_sub]
  · rename_i h; exact (Nat.sub_eq_zero_of_le (Int.ofNat_le.mp (Int.not_lt.mp h))).symm

theorem cutL_eq {α : Type} (lo hi : Option Nat) (l : List α) : (l.drop (min (lo.getD 0) l.length)).take (min (hi.getD l.length) l.length - min (lo.getD 0) l.length) = cutL lo hi l := by
  have e : cutL lo hi l = (l.take (min (hi.getD l.length) l.length)).drop (lo.getD 0) := by
    unfold cutL
    cases hi with
    | none => simp
    | some b =>
      simp only [Option.getD_some]
      by_cases h : b ≤ l.length
      · rw [Nat.min_eq_left h]
      · rw [Nat.min_eq_right (by first | decide | exact lle ‹_› rfl | exact llt ‹_› rfl | exact lll ‹_› rfl | exact llm ‹_› rfl | omega), List.take_of_length_le (by first | decide | exact lle ‹_› rfl | exact llt ‹_› rfl | exact lll ‹_› rfl | exact llm ‹_› rfl | omega), List.take_of_length_le (Nat.le_refl _)]
  rw [e, List.drop_take]
  by_cases h : lo.getD 0 ≤ l.length
  · rw [Nat.min_eq_left h]
  · rw [Nat.min_eq_right (a := lo.getD 0) (by first | decide | exact lle ‹_› rfl | exact llt ‹_› rfl | exact lll ‹_› rfl | exact llm ‹_› rfl | omega), List.drop_of_length_le (Nat.le_refl _), List.drop_of_length_le (by first | decide | exact lle ‹_› rfl | exact llt ‹_› rfl | exact lll ‹_› rfl | exact llm ‹_› rfl | omega)]
    simp

theorem pick_nat (xs : Array Value) (a n : Nat) : ((List.range n).filterMap fun (k : Nat) => xs[((a : Int) + (k : Int) * 1).toNat]?).toArray = ((xs.toList.drop a).take n).toArray := by
  have e : (fun (k : Nat) => xs[((a : Int) + (k : Int) * 1).toNat]?) = fun k => xs[a + k]? := by
    funext k
    have : ((a : Int) + (k : Int) * 1).toNat = a + k := by rw [Int.mul_one]; rfl
    rw [this]
  rw [e]
  have := pick_run xs a n
  rw [List.filterMap_map] at this
  have e2 : ((fun x => xs[x]?) ∘ fun x => a + x) = fun k => xs[a + k]? := rfl
  rw [e2] at this
  rw [this]

noncomputable def partV : Option (Nat × Tok) → Value
  | none => .none
  | some (n, t) => .int n t

section
variable {prog : Program} {w : World} {A : Around} {E : Value → Shared → Prop} {g₀ g : Heap} {D : List Addr} {s₀ s : Shared} {μ : List Res} {env : Env}

theorem slicePart_v {p : Option (Nat × Tok)} {Q : Option Int → Shared → Prop} (h : Q ((p.map (·.1)).map Int.ofNat) s) : wpAny (model prog w) A (Builtin.Slice.slicePartIndex (partV p)) Q E s := by
  cases p with
  | none => exact slicePart_none h
  | some q => exact slicePart_int h

theorem getItem_tuple_cut {t sl : Addr} {items : Array Value} {lo hi : Option (Nat × Tok)} {Q : Value → Shared → Prop} (ht : IsTup s.heap t items)
    (hs : s.heap.IsSliceOf sl (partV lo) (partV hi) .none)
    (h0 : cutL (lo.map (·.1)) (hi.map (·.1)) items.toList = items.toList → Q (.ref t) s)
    (h : Q (.ref s.heap.objs.size) { s with heap := s.heap.push { cls := .type "tuple", data := .seq (cutL (lo.map (·.1)) (hi.map (·.1)) items.toList).toArray } })
    (hsz : items.size ≤ 2 ^ 20) : wpAny (model prog w) A (getItem (.ref t) (.ref sl)) Q E s := by
  obtain ⟨os, hos, hcs, hds⟩ := id hs
  have hTs : s.TypeIs (.ref sl) "slice" := ⟨os, hos, hcs⟩
  have hlen : items.toList.length = items.size := by simp
  have hcut := cutL_eq (lo.map (·.1)) (hi.map (·.1)) items.toList
  rw [hlen] at hcut
  have hsz' : sizeOk (.seq (cutL (lo.map (·.1)) (hi.map (·.1)) items.toList).toArray) := by
    show (cutL (lo.map (·.1)) (hi.map (·.1)) items.toList).toArray.size ≤ sizeLine
    rw [List.size_toArray, cutL_length, hlen, sizeLine_eq]
    exact Nat.le_trans (Nat.sub_le _ _) (Nat.le_trans (Nat.min_le_right _ _) (Nat.le_trans hsz (by decide)))
  unfold getItem
  try with_reducible refine wpAny_holding ?_
  first | refine wpAny_bind (wpAny_pure ?_) | skip
  refine wpAny_bind (wpAny_sequenceKey ht.typeIs (by decide) ?_)
  refine wpAny_bind (wpAny_callSpecial?_slot (name := Str.ofString "__getitem__") ht.typeIs slot_tuple_getitem
    (wpAny_call_entry slot_tuple_getitem ht.typeIs entry_tuple_getitem ?_ (args_tuple_getitem _ _)))
  show wpAny _ _ (Builtin.Tuple.tupleItemsOf (.ref t) >>= _) _ _ s
  refine wpAny_bind (tupleItemsOf_ ht ?_)
  refine wpAny_bind (wpAny_typeOf hTs ?_)
  rw [if_pos (by decide)]
  refine wpAny_bind (m := Builtin.Slice.sliceApplied (.ref sl) (pure ((items.size : Nat) : Int))) ?_
  unfold Builtin.Slice.sliceApplied Builtin.Slice.sliceFields
  refine wpAny_bind (wpAny_bind (wpAny_field hos hds (x := partV lo) rfl (wpAny_bind (wpAny_field hos hds (x := partV hi) rfl (wpAny_bind (wpAny_field hos hds (x := .none) rfl (wpAny_pure ?_)))))))
  refine wpAny_bind (slicePart_none ?_)
  show wpAny _ _ (if ((1 : Int) == 0) = true then _ else _) _ _ s
  rw [if_neg (by decide)]
  refine wpAny_bind (slicePart_v (wpAny_bind (slicePart_v (wpAny_bind (wpAny_pure ?_)))))
  show wpAny _ _ (match Builtin.Slice.sliceAdjust ((lo.map (·.1)).map Int.ofNat) ((hi.map (·.1)).map Int.ofNat) 1 (items.size : Int) with | (lo, hi) => pure (lo, (1 : Int), Builtin.Slice.slicePlaces lo hi 1)) _ _ s
  rw [adjust_nat]
  generalize hA : min ((lo.map (·.1)).getD 0) items.size = a at hcut
  generalize hB : min ((hi.map (·.1)).getD items.size) items.size = b at hcut
  show wpAny _ _ (pure ((a : Int), (1 : Int), Builtin.Slice.slicePlaces (a : Int) (b : Int) 1)) _ _ s
  rw [places_nat]
  refine wpAny_pure ?_
  show wpAny _ _ (if ((a : Int) == 0 && (1 : Int) == 1 && (b - a) == items.size) = true then _ else _) _ _ s
  have fin : wpAny (model prog w) A.in1 (Builtin.Tuple.tupleExact ((List.range (b - a)).filterMap fun (k : Nat) => items[((a : Int) + (k : Int) * 1).toNat]?).toArray >>= fun r => ret r) (fun fin s' => ∃ v, fin = .done (.ret v) ∧ wpAny (model prog w) A (pure v) Q E s') E s := by
    rw [pick_nat, hcut]
    first
      | exact wpAny_bind (m := Builtin.Tuple.tupleExact _) (wpAny_newObj_type (wpAny_pure ⟨_, rfl, wpAny_pure h⟩) hsz')
      | exact wpAny_bind (m := Builtin.Tuple.tupleExact _) (wpAny_newObj_type (wpAny_bind (wpAny_pure (wpAny_pure ⟨_, rfl, wpAny_pure h⟩))) hsz')
  by_cases hw : ((a : Int) == 0 && (1 : Int) == 1 && (b - a) == items.size) = true
  · rw [if_pos hw]
    simp only [Bool.and_eq_true, beq_iff_eq] at hw
    have ha : a = 0 := Int.natCast_eq_zero.mp hw.1.1
    have hb : b = items.size := by rw [ha] at hw; exact hw.2
    have hall : cutL (lo.map (·.1)) (hi.map (·.1)) items.toList = items.toList := by
      rw [← hcut, ha, hb]
      rw [List.drop_zero, List.take_of_length_le (by simp)]
    refine wpAny_bind (m := Builtin.Tuple.tupleIsExact _) ?_
    unfold Builtin.Tuple.tupleIsExact
    first
      | exact wpAny_bind (wpAny_typeOf ht.typeIs (wpAny_pure (by simp only [beq_self_eq_true, if_true]; exact wpAny_bind (wpAny_rule (wpAny_bind (wpAny_pure (wpAny_pure ⟨_, rfl, wpAny_pure (h0 hall)⟩)))))))
      | exact wpAny_bind (wpAny_typeOf ht.typeIs (wpAny_pure (by simp only [beq_self_eq_true, if_true]; exact wpAny_bind (wpAny_rule (wpAny_pure ⟨_, rfl, wpAny_pure (h0 hall)⟩)))))
  · rw [if_neg hw]
    exact fin

end
end Mine
end

section
open PySem PySem.W PyProof.Rows PySem.Calls
set_option tactic.hygienic false
set_option linter.all false
namespace Mine
open AutoSeq1 (wpAny_loadPart')

theorem list_extendW (l : Addr) (items : Array Value) (n : Nat) (b : Addr) (items2 : Array Value) (n2 : Nat) (dd2 : Option Addr) (sl2 : Array (Option Value)) (hsz : items.size + items2.size ≤ 2 ^ 22) :
    Meets (Builtin.«list.extend» ⟨[.ref l, .ref b], []⟩) (fun zz R s => s.heap.get? l = some { cls := .type "list", dict := none, data := .seq items n, slots := #[] } ∧ s.heap.get? b = some { cls := .type "list", dict := dd2, data := .seq items2 n2, slots := sl2 } ∧ R (.ok (.ret Value.none)) { s with heap := s.heap.update l (Obj.mapSeq fun x => x ++ items2), toks := s.toks }) :=
  .of_wp fun prog w A R s h => by
    obtain ⟨hp, g, d, tk, os⟩ := s; obtain ⟨hl, hb, h⟩ := h; have f1 := AutoSeq1.idx_int; have f2 := AutoSeq1.sub_tuple_tuple; have f3 := AutoSeq1.sub_list_list; have f4 := AutoSeq1.sub_tuple_list; have f5 := AutoSeq1.sub_list_tuple;
    have hz' : (items ++ items2).size ≤ sizeLine + 1 := by rw [Array.size_append, sizeLine_eq]; omega
    have hc1 : items.size ≤ sizeLine := by rw [sizeLine_eq]; omega
    have hc0 : ¬(!items.isEmpty && Builtin.List.listTooLong (items.size + items2.size)) = true := by
      have : Builtin.List.listTooLong (items.size + items2.size) = false := by
        unfold Builtin.List.listTooLong
        first
          | (rw [sizeLine_eq]; simp; omega)
          | (simp [sizeLine_eq]; omega)
      simp [this]
    wp_walk using (wpAny_updateSeq hl rfl (hz := hc1) (_hz' := hz')), wpAny_loadPart' hl, wpAny_loadPart' hb; exact ⟨_, rfl, h⟩

section
variable {prog : Program} {w : World} {A : Around} {E : Value → Shared → Prop} {g₀ g : Heap} {D : List Addr} {s₀ s : Shared} {μ : List Res} {env : Env}

theorem In.mkTup (I : In g₀ D s₀ g μ s) {vs : List Value} {ds : List PyData} (hr : Rds g vs ds) :
    ∃ g', Sub g g' ∧ Rd g' (.ref s.heap.objs.size) (.tuple ds) ∧ In g₀ D s₀ g' μ { s with heap := s.heap.push { cls := .type "tuple", data := .seq vs.toArray } } := by
  obtain ⟨g', h1, h2, h3⟩ := I.newFrozen { cls := .type "tuple", data := .seq vs.toArray } rfl
  exact ⟨g', h1, .tup ⟨_, h2, rfl, _, rfl⟩ (hr.mono h1), h3⟩
theorem In.mkLst (I : In g₀ D s₀ g μ s) {vs : List Value} {ds : List PyData} (hr : Rds g vs ds) :
    ∃ g', Sub g g' ∧ Rd g' (.ref s.heap.objs.size) (.list ds) ∧ In g₀ D s₀ g' μ { s with heap := s.heap.push { cls := .type "list", data := .seq vs.toArray } } := by
  obtain ⟨g', h1, h2, h3⟩ := I.newFrozen { cls := .type "list", data := .seq vs.toArray } rfl
  exact ⟨g', h1, .lst ⟨_, h2, rfl, _, rfl⟩ (hr.mono h1), h3⟩

theorem In.frzLst {a : Addr} {vs : List Value} {ds : List PyData} (I : In g₀ D s₀ g ((a, listP vs) :: μ) s) (ha : s₀.heap.get? a = none) (hr : Rds g vs ds) :
    ∃ g', Sub g g' ∧ Rd g' (.ref a) (.list ds) ∧ In g₀ D s₀ g' μ s := by
  obtain ⟨g', o, h1, h2, ⟨n, rfl⟩, h4⟩ := I.freeze ha
  exact ⟨g', h1, .lst ⟨_, h2, rfl, n, rfl⟩ (hr.mono h1), h4⟩

theorem Cut.tup (I : In g₀ D s₀ g μ s) {v : Value} {ds : List PyData} {lo hi : Option (Nat × Tok)} {Q : Value → Shared → Prop} (hv : Rd g v (.tuple ds)) (hn : ds.length ≤ 2 ^ 20)
    (h : ∀ g' s' r, Sub g g' → In g₀ D s₀ g' μ s' → Rd g' r (.tuple (cutL (lo.map (·.1)) (hi.map (·.1)) ds)) → Q r s') : Cut prog w A E v (partV lo) (partV hi) Q s := by
  obtain ⟨a, vs, rfl, ht, hr⟩ := hv.tup_inv
  have ht' := IsTup.keeps ht I.own.sub
  have J := I.junk { cls := .type "slice", data := .fields #[partV lo, partV hi, .none] }
  have ht'' := IsTup.keeps ht J.own.sub
  refine ⟨"tuple", _, ht'.typeIs, slot_tuple_getitem.lookup, getItem_tuple_cut ht'' (Heap.IsSliceOf.new ..) (fun hall => ?_) ?_ (by have := hr.length; simp; omega)⟩
  · have hall' : cutL (lo.map (·.1)) (hi.map (·.1)) vs = vs := hall
    refine h g _ _ (Sub.refl g) J (.tup ht ?_)
    have := hr.cut (lo.map (·.1)) (hi.map (·.1))
    rw [hall'] at this
    exact this
  · obtain ⟨g', h1, h2, h3⟩ := J.mkTup (hr.cut (lo.map (·.1)) (hi.map (·.1)))
    exact h g' _ _ h1 h3 h2

theorem Cut.lstFrom (I : In g₀ D s₀ g μ s) {v : Value} {ds : List PyData} {a : Nat} {t : Tok} {Q : Value → Shared → Prop} (hv : Rd g v (.list ds)) (hn : ds.length ≤ 2 ^ 20) (ha : a ≤ ds.length)
    (h : ∀ g' s' r, Sub g g' → In g₀ D s₀ g' μ s' → Rd g' r (.list (ds.drop a)) → Q r s') : Cut prog w A E v (.int a t) .none Q s := by
  obtain ⟨x, vs, rfl, ht, hr⟩ := hv.lst_inv
  have ht' := isList_sub ht I.own.sub
  have J := I.junk { cls := .type "slice", data := .fields #[.int a t, .none, .none] }
  have ht'' := isList_sub ht J.own.sub
  have hl := hr.length
  refine ⟨"list", _, ht'.typeIs, slot_list_getitem.lookup, wpAny_getItem_list_slice ht'' (Heap.IsSliceOf.new ..) (.int _ _) .none .none (by simp) ?_ (by rw [sizeLine_eq]; simp; omega)⟩
  rw [slicePick_from _ a (by simp; omega)]
  obtain ⟨g', h1, h2, h3⟩ := J.mkLst (hr.drop a)
  exact h g' _ _ h1 h3 h2
theorem Cut.lstUpto (I : In g₀ D s₀ g μ s) {v : Value} {ds : List PyData} {b : Nat} {t : Tok} {Q : Value → Shared → Prop} (hv : Rd g v (.list ds)) (hn : ds.length ≤ 2 ^ 20)
    (h : ∀ g' s' r, Sub g g' → In g₀ D s₀ g' μ s' → Rd g' r (.list (ds.take b)) → Q r s') : Cut prog w A E v .none (.int b t) Q s := by
  obtain ⟨x, vs, rfl, ht, hr⟩ := hv.lst_inv
  have ht' := isList_sub ht I.own.sub
  have J := I.junk { cls := .type "slice", data := .fields #[.none, .int b t, .none] }
  have ht'' := isList_sub ht J.own.sub
  have hl := hr.length
  refine ⟨"list", _, ht'.typeIs, slot_list_getitem.lookup, wpAny_getItem_list_slice ht'' (Heap.IsSliceOf.new ..) .none (.int _ _) .none (by simp) ?_ (by rw [sizeLine_eq]; simp; omega)⟩
  have e : slicePick vs.toArray none (some (b : Int)) none = (vs.take b).toArray := by
    by_cases hb : b ≤ vs.length
    · rw [slicePick_upto _ b (by simpa using hb)]
    · have e1 : sliceBounds none (some (b : Int)) none vs.toArray.size = sliceBounds none none none vs.toArray.size := by
        simp only [sliceBounds, Option.getD_none]
        have h2 : ¬ ((b : Int) < 0) := Int.not_lt.mpr (Int.natCast_nonneg b)
        simp only [h2, if_false, show (1 : Int) > 0 by decide, if_true, List.size_toArray]
        congr 2
        rw [Int.min_eq_right (Int.ofNat_le.mpr (Nat.le_of_not_le hb)), Int.max_eq_right (Int.natCast_nonneg _)]
      have e2 : slicePick vs.toArray none (some (b : Int)) none = slicePick vs.toArray none none none := by
        unfold slicePick; rw [e1]
      rw [e2, slicePick_all, List.take_of_length_le (Nat.le_of_not_le hb)]
  rw [e]
  obtain ⟨g', h1, h2, h3⟩ := J.mkLst (hr.take b)
  exact h g' _ _ h1 h3 h2

/-! adding -/
theorem o_add_tup (I : In g₀ D s₀ g μ s) {v u : Value} {ds es : List PyData} {Q : Value → Shared → Prop} (hv : Rd g v (.tuple ds)) (hu : Rd g u (.tuple es)) (hn : ds.length + es.length ≤ 2 ^ 20)
    (h : ∀ g' s' r, Sub g g' → In g₀ D s₀ g' μ s' → Rd g' r (.tuple (ds ++ es)) → Q r s') : wpAny (model prog w) A (binaryOp .Add v u) Q E s := by
  obtain ⟨t, vs, rfl, ht, hr⟩ := hv.tup_inv
  obtain ⟨b, ws, rfl, hb, hq⟩ := hu.tup_inv
  have hl := hr.length
  have hl' := hq.length
  obtain ⟨⟨cls, dd, data, sl⟩, ho, hc, n, hd⟩ := IsTup.keeps ht I.own.sub
  obtain ⟨⟨cls2, dd2, data2, sl2⟩, ho2, hc2, n2, hd2⟩ := IsTup.keeps hb I.own.sub
  simp only at hc hd hc2 hd2
  subst hc hd hc2 hd2
  have e : vs.toArray ++ ws.toArray = (vs ++ ws).toArray := by simp
  by_cases hv0 : vs = []
  · refine concat_meets ⟨_, ho, rfl⟩ ⟨_, ho2, rfl⟩ noFill_tuple_add seq_tuple_add PySem.F.slot_tuple_add PySem.F.entry_tuple_add (PySem.F.args_tuple_add_2 _ _)
      (tuple_addW0 t b vs.toArray ws.toArray n n2 dd dd2 sl sl2 (by simp [hv0])) ⟨ho, ho2, h g _ _ (Sub.refl g) I ?_⟩
    subst hv0
    have : ds = [] := by simpa using hl.symm
    subst this
    exact .tup hb hq
  · by_cases hw : ws = []
    · refine concat_meets ⟨_, ho, rfl⟩ ⟨_, ho2, rfl⟩ noFill_tuple_add seq_tuple_add PySem.F.slot_tuple_add PySem.F.entry_tuple_add (PySem.F.args_tuple_add_2 _ _)
        (tuple_addW1 t b vs.toArray ws.toArray n n2 dd dd2 sl sl2 (by simpa using hv0) (by simp [hw])) ⟨ho, ho2, h g _ _ (Sub.refl g) I ?_⟩
      subst hw
      have : es = [] := by simpa using hl'.symm
      subst this
      rw [List.append_nil]
      exact .tup ht hr
    · refine concat_meets ⟨_, ho, rfl⟩ ⟨_, ho2, rfl⟩ noFill_tuple_add seq_tuple_add PySem.F.slot_tuple_add PySem.F.entry_tuple_add (PySem.F.args_tuple_add_2 _ _)
        (tuple_addW2 t b vs.toArray ws.toArray n n2 dd dd2 sl sl2 (by simpa using hv0) (by simpa using hw) (by rw [List.size_toArray, List.size_toArray, sizeLine_eq]; omega)) ⟨ho, ho2, ?_⟩
      rw [e]
      obtain ⟨g', h1, h2, h3⟩ := I.mkTup (hr.append hq)
      exact h g' _ _ h1 h3 h2
theorem o_add_lst (I : In g₀ D s₀ g μ s) {v u : Value} {ds es : List PyData} {Q : Value → Shared → Prop} (hv : Rd g v (.list ds)) (hu : Rd g u (.list es)) (hn : ds.length + es.length ≤ 2 ^ 20)
    (h : ∀ g' s' r, Sub g g' → In g₀ D s₀ g' μ s' → Rd g' r (.list (ds ++ es)) → Q r s') : wpAny (model prog w) A (binaryOp .Add v u) Q E s := by
  obtain ⟨t, vs, rfl, ht, hr⟩ := hv.lst_inv
  obtain ⟨b, ws, rfl, hb, hq⟩ := hu.lst_inv
  have hl := hr.length
  have hl' := hq.length
  obtain ⟨⟨cls, dd, data, sl⟩, ho, hc, n, hd⟩ := isList_sub ht I.own.sub
  obtain ⟨⟨cls2, dd2, data2, sl2⟩, ho2, hc2, n2, hd2⟩ := isList_sub hb I.own.sub
  simp only at hc hd hc2 hd2
  subst hc hd hc2 hd2
  have e : vs.toArray ++ ws.toArray = (vs ++ ws).toArray := by simp
  refine concat_meets ⟨_, ho, rfl⟩ ⟨_, ho2, rfl⟩ noFill_list_add seq_list_add PySem.F.slot_list_add PySem.F.entry_list_add (PySem.F.args_list_add_2 _ _) (list_addW t b vs.toArray ws.toArray n n2 dd dd2 sl sl2 (by rw [List.size_toArray, List.size_toArray, sizeLine_eq]; omega)) ⟨ho, ho2, ?_⟩
  rw [e]
  obtain ⟨g', h1, h2, h3⟩ := I.mkLst (hr.append hq)
  exact h g' _ _ h1 h3 h2

/-! displays -/
theorem d_tuple (I : In g₀ D s₀ g μ s) {vs : List Value} {ds : List PyData} {Q : Value → Shared → Prop} (hr : Rds g vs ds) (hn : ds.length ≤ 2 ^ 20)
    (h : ∀ g' s' r, Sub g g' → In g₀ D s₀ g' μ s' → Rd g' r (.tuple ds) → Q r s') : wpAny (model prog w) A (newTuple vs) Q E s := by
  obtain ⟨g', h1, h2, h3⟩ := I.mkTup hr
  exact wpAny_newObj_type (h g' _ _ h1 h3 h2) (by have := hr.length; show vs.toArray.size ≤ sizeLine; rw [List.size_toArray, sizeLine_eq]; omega)
theorem d_list (I : In g₀ D s₀ g μ s) {vs : List Value} {ds : List PyData} {Q : Value → Shared → Prop} (hr : Rds g vs ds) (hn : ds.length ≤ 2 ^ 20)
    (h : ∀ g' s' r, Sub g g' → In g₀ D s₀ g' μ s' → Rd g' r (.list ds) → Q r s') : wpAny (model prog w) A (newList vs) Q E s := by
  obtain ⟨g', h1, h2, h3⟩ := I.mkLst hr
  exact wpAny_newObj_type (h g' _ _ h1 h3 h2) (by have := hr.length; show vs.toArray.size ≤ sizeLine; rw [List.size_toArray, sizeLine_eq]; omega)
theorem d_own (I : In g₀ D s₀ g μ s) {vs : List Value} {Q : Value → Shared → Prop} (hn : vs.length ≤ 2 ^ 20)
    (h : ∀ s' a, s₀.heap.get? a = none → In g₀ D s₀ g ((a, listP vs) :: μ) s' → Q (.ref a) s') : wpAny (model prog w) A (newList vs) Q E s :=
  wpAny_newObj_type (h _ _ I.free (I.new (P := listP vs) ⟨0, rfl⟩)) (by show vs.toArray.size ≤ sizeLine; rw [List.size_toArray, sizeLine_eq]; omega)

/-! tuple(..) -/
theorem b_tuple_lst (I : In g₀ D s₀ g μ s) {v : Value} {ds : List PyData} {Q : Value → Shared → Prop} (hv : Rd g v (.list ds)) (hn : ds.length ≤ 2 ^ 20)
    (h : ∀ g' s' r, Sub g g' → In g₀ D s₀ g' μ s' → Rd g' r (.tuple ds) → Q r s') : wpAny (model prog w) A (call (.type "tuple") [v]) Q E s := by
  obtain ⟨t, vs, rfl, ht, hr⟩ := hv.lst_inv
  have hl := hr.length
  refine call_tuple_list (isList_sub ht I.own.sub) (fun h' hk => ?_) (by rw [sizeLine_eq]; simp; omega)
  obtain ⟨g', h1, h2, h3⟩ := (I.ext (h' := h') (tk := s.toks) hk).mkTup hr
  exact h g' _ _ h1 h3 h2

/-! an owned list turned -/
theorem get_list (I : In g₀ D s₀ g μ s) {i : Nat} {a : Addr} {vs : List Value} (hi : μ[i]? = some (a, listP vs)) : ∃ n, s.heap.get? a = some { cls := .type "list", dict := none, data := .seq vs.toArray n, slots := #[] } := by
  obtain ⟨o, ho, n, rfl⟩ := I.get hi
  exact ⟨n, ho⟩
theorem In.turnList (I : In g₀ D s₀ g μ s) {i : Nat} {a : Addr} {vs ws : List Value} (hi : μ[i]? = some (a, listP vs)) {f : Array Value → Array Value} (hf : f vs.toArray = ws.toArray) :
    In g₀ D s₀ g (μ.set i (a, listP ws)) { s with heap := s.heap.update a (Obj.mapSeq f) } := by
  obtain ⟨n, ho⟩ := get_list I hi
  have e := Heap.get?_update_self (Obj.mapSeq f) ho (by rfl)
  have := I.chg (tk := s.toks) (P' := listP ws) hi (fun b o hb e => (Heap.get?_update_other _ _ (Ne.symm hb)).trans e) e ⟨(if (ws.toArray.size == vs.toArray.size) = true then n else n + 1), by simp only [Obj.mapSeq, hf]⟩
  exact this

theorem b_extend_lst (I : In g₀ D s₀ g μ s) {i : Nat} {a : Addr} {vs : List Value} {u : Value} {es : List PyData} {Q : Value → Shared → Prop} (hi : μ[i]? = some (a, listP vs)) (hu : Rd g u (.list es)) (hn : vs.length + es.length ≤ 2 ^ 20)
    (h : ∀ s' ws, Rds g ws es → In g₀ D s₀ g (μ.set i (a, listP (vs ++ ws))) s' → Q .none s') : wpAny (model prog w) A (call (.builtin "list.extend") [.ref a, u]) Q E s := by
  obtain ⟨b, ws, rfl, hb, hq⟩ := hu.lst_inv
  have hl := hq.length
  obtain ⟨n, ho⟩ := get_list I hi
  obtain ⟨⟨cls2, dd2, data2, sl2⟩, ho2, hc2, n2, hd2⟩ := isList_sub hb I.own.sub
  simp only at hc2 hd2
  subst hc2 hd2
  refine call_meets PySem.F.slot_list_extend ⟨_, ho, rfl⟩ PySem.F.entry_list_extend (PySem.F.args_list_extend_2 _ _) (list_extendW a vs.toArray n b ws.toArray n2 dd2 sl2 (by simp; omega)) ⟨ho, ho2, ?_⟩
  exact h _ ws hq (I.turnList hi (by simp))

theorem b_pop (I : In g₀ D s₀ g μ s) {i : Nat} {a : Addr} {vs : List Value} {v : Value} {Q : Value → Shared → Prop} (hi : μ[i]? = some (a, listP (vs ++ [v]))) (hn : vs.length ≤ 2 ^ 20)
    (h : ∀ s', In g₀ D s₀ g (μ.set i (a, listP vs)) s' → Q v s') : wpAny (model prog w) A (call (.builtin "list.pop") [.ref a]) Q E s := by
  obtain ⟨n, ho⟩ := get_list I hi
  refine call_meets PySem.F.slot_list_pop ⟨_, ho, rfl⟩ PySem.F.entry_list_pop (PySem.F.args_list_pop_1 _) (MeetsSeq.list_pop_last a (vs ++ [v]).toArray n v (by simp) (by rw [sizeLine_eq]; simp; omega)) ⟨ho, ?_⟩
  exact h _ (I.turnList hi (by
    simp only [List.size_toArray, List.length_append, List.length_singleton, Nat.add_sub_cancel]
    rw [Array.eraseIdxIfInBounds_eq]
    simp [List.eraseIdx_append_of_length_le]))

/-! comparing -/
theorem un_min {A : Around} {n a b : Nat} (hA : Room A n) (h : a ≤ 60) : A.units + min a b < cLine := by
  have := hA.un; have : min a b ≤ a := Nat.min_le_left _ _; omega
theorem un_min1 {A : Around} {n a b : Nat} (hA : Room A n) (h : a ≤ 60) : A.units + 1 + min b a < cLine := by
  have := hA.un; have : min b a ≤ a := Nat.min_le_right _ _; omega
theorem k_eq (I : In g₀ D s₀ g μ s) {a b : Value} {d e : PyData} {n : Nat} {Q : Value → Shared → Prop} (ha : Rd g a d) (hb : Rd g b e) (h1 : d.canLay0 = true) (h2 : e.canLay0 = true) (h3 : d.depth ≤ 60) (hA : Room A n)
    (h : Q (.bool (PyData.eqv d e)) s) : wpAny (model prog w) A (compareOp .Eq a b) Q E s := by
  obtain ⟨as, ra⟩ := ha.mono I.own.sub
  obtain ⟨bs, rb⟩ := hb.mono I.own.sub
  exact SeqAt.compareEq_reads ra rb h1 h2 (un_min hA h3) h
theorem k_ne (I : In g₀ D s₀ g μ s) {a b : Value} {d e : PyData} {n : Nat} {Q : Value → Shared → Prop} (ha : Rd g a d) (hb : Rd g b e) (h1 : d.canLay0 = true) (h2 : e.canLay0 = true) (h3 : d.depth ≤ 60) (hA : Room A n)
    (h : Q (.bool (!PyData.eqv d e)) s) : wpAny (model prog w) A (compareOp .NotEq a b) Q E s := by
  obtain ⟨as, ra⟩ := ha.mono I.own.sub
  obtain ⟨bs, rb⟩ := hb.mono I.own.sub
  exact SeqAt.compareNe_reads ra rb h1 h2 (un_min hA h3) h
theorem k_in (I : In g₀ D s₀ g μ s) {a b : Value} {d : PyData} {xs : List PyData} {n : Nat} {Q : Value → Shared → Prop} (ha : Rd g a d) (hb : Rd g b (.list xs)) (h1 : d.canLay0 = true) (h2 : PyData.canLayAll0 xs = true) (h3 : d.depth ≤ 60) (hA : Room A n)
    (h : Q (.bool (xs.any fun y => PyData.eqv y d)) s) : wpAny (model prog w) A (compareOp .In a b) Q E s := by
  obtain ⟨as, ra⟩ := ha.mono I.own.sub
  obtain ⟨bs, rb⟩ := hb.mono I.own.sub
  exact SeqAt.in_list_reads rb ra h2 h1 (un_min1 hA h3) h
theorem k_notin (I : In g₀ D s₀ g μ s) {a b : Value} {d : PyData} {xs : List PyData} {n : Nat} {Q : Value → Shared → Prop} (ha : Rd g a d) (hb : Rd g b (.list xs)) (h1 : d.canLay0 = true) (h2 : PyData.canLayAll0 xs = true) (h3 : d.depth ≤ 60) (hA : Room A n)
    (h : Q (.bool (!xs.any fun y => PyData.eqv y d)) s) : wpAny (model prog w) A (compareOp .NotIn a b) Q E s := by
  obtain ⟨as, ra⟩ := ha.mono I.own.sub
  obtain ⟨bs, rb⟩ := hb.mono I.own.sub
  exact SeqAt.notIn_list_reads rb ra h2 h1 (un_min1 hA h3) h
end
end Mine
end

section
open PySem PySem.W PyProof.Rows PySem.Calls
set_option tactic.hygienic false
set_option linter.all false
namespace Mine

structure FD where
  name : Str
  params : Arguments
  body : List Stmt
  scope : Scope

noncomputable def getF : Stmt → FD
  | .FunctionDef n a b _ _ _ sc _ _ _ => ⟨n, a, b, sc⟩
  | _ => ⟨Str.ofString "", ⟨[], [], none, [], [], none, []⟩, [], default⟩

structure Base (h₀ : Heap) (mg mb : Str → Option Value) : Prop where
  g : h₀.Ns mainGlobals mg
  b : h₀.Ns builtinsNs mb
  nolimit : h₀.NoLimit
  bi : ∀ x : Str, x ≠ "__name__" → mb x = bootBuiltins x

structure IsDef (h₀ : Heap) (mg : Str → Option Value) (d : FD) (f : Addr) : Prop where
  glob : mg d.name = some (.ref f)
  fn : ∃ o pm code doc, h₀.get? f = some o ∧ o.data = .func (docDef d.name d.params d.body d.scope pm code doc) ∧ h₀.CodeRec code d.name

theorem cellsFrom_names : ∀ (names : List (Str × NameKind)) (n k : Nat) (acc acc' : List (Str × Addr)), acc.map (·.1) = acc'.map (·.1) → (cellsFrom n names acc).map (·.1) = (cellsFrom k names acc').map (·.1)
  | [], _, _, _, _, h => h
  | (x, kind) :: r, n, k, acc, acc', h => by
    unfold cellsFrom
    split
    · exact cellsFrom_names r _ _ _ _ (by simp [h])
    · exact cellsFrom_names r _ _ _ _ h

theorem lookup_of_nodup {α : Type} : ∀ {l : List (Str × α)} {p : Str × α}, (l.map (·.1)).Nodup → p ∈ l → l.lookup p.1 = some p.2
  | (k, v) :: r, p, hn, hp => by
    rw [List.lookup_cons]
    rcases List.mem_cons.mp hp with rfl | hp
    · simp
    · have hne : p.1 ≠ k := fun e => (List.nodup_cons.mp hn).1 (List.mem_map.mpr ⟨p, hp, e⟩)
      have : (p.1 == k) = false := by simpa using hne
      rw [this]
      exact lookup_of_nodup (List.nodup_cons.mp hn).2 hp

noncomputable def frameRes (env : Env) (binds : List (Str × Value)) : List Res :=
  (env.locals, nsP (bindL env.kindOf binds fun zz => none)) :: env.cells.map fun p => (p.2, cellP (bindC env.kindOf binds (fun zz => none) p.1))

section
variable {prog : Program} {w : World} {A : Around} {E : Value → Shared → Prop} {g h₀ : Heap} {mg mb : Str → Option Value} {s : Shared} {μ : List Res} {d : FD} {f : Addr} {vals : List Value} {binds : List (Str × Value)} {n : Nat} {Q : Value → Shared → Prop}

theorem enter (B : Base h₀ mg mb) (hd : IsDef h₀ mg d f) (hb : Sub h₀ g) (O : Own g μ s.heap) (R : Room A (n + 1))
    (hbind : ∀ pm code doc, bindArgs (docDef d.name d.params d.body d.scope pm code doc) ⟨vals, []⟩ = pure binds)
    (hkind : ∀ k, ∀ x ∈ binds, d.scope.names.lookup x.1 = some .local ∨ (d.scope.names.lookup x.1 = some .cell ∧ ((cellsFrom k d.scope.names []).lookup x.1).isSome = true))
    (hnd : ((cellsFrom 0 d.scope.names []).map (·.1)).Nodup)
    (h : ∀ L code s₁, let env := newEnv d.scope L mainGlobals (cellsFrom (L + 1) d.scope.names []) (d.name ++ ".<locals>.") (some f) code none builtinsNs;
      In g (μ.map (·.1)) s g (frameRes env binds ++ μ) s₁ →
      wpAny (model prog w) (A.deeper env) (execs d.body env) (fun fl s' => Q (match fl with | .ret v => v | _ => .none) s') (fun zz zz => False) s₁)
    (hco : d.scope.isCoroutine = false) (hgen : d.scope.isGenerator = false) (hk : d.scope.kind = .function) :
    wpAny (model prog w) A (call (.ref f) vals) Q E s := by
  obtain ⟨o, pm, code, doc, ho, hdat, hcd⟩ := hd.fn
  have hs : Sub h₀ s.heap := hb.trans O.sub
  refine wpAny_call (codeAny_call_cells (fd := docDef d.name d.params d.body d.scope pm code doc) (by have := R.dp; omega) (hs _ _ ho) hdat (B.nolimit.keeps hs) (hcd.keeps hs) rfl (hbind pm code doc) rfl (hkind _) (fun s₁ C => ?_) hco hgen hk)
  have hnames : ((cellsFrom (s.heap.objs.size + 1) d.scope.names []).map (·.1)).Nodup := by
    rw [cellsFrom_names _ _ 0 [] [] rfl]; exact hnd
  refine wpAny_mono (h s.heap.objs.size code s₁ ?_) (fun zz zz q => q) fun zz zz x => x.elim
  have hcell : ∀ p ∈ cellsFrom (s.heap.objs.size + 1) d.scope.names [], s₁.heap.IsCell p.2 (bindC (callEnvC (docDef d.name d.params d.body d.scope pm code doc) s.heap.objs.size f).kindOf binds (fun zz => none) p.1) :=
    fun p hp => C.cell p.1 p.2 (lookup_of_nodup hnames hp)
  have hlt : ∀ p ∈ μ, p.1 < s.heap.objs.size := fun p hp => by obtain ⟨o, ho, _⟩ := O.res p hp; exact Heap.lt_size ho
  have habove : ∀ p ∈ cellsFrom (s.heap.objs.size + 1) d.scope.names [], s.heap.objs.size < p.2 := fun p hp => C.above p.1 p.2 hp
  have fresh : ∀ a, s.heap.objs.size ≤ a → s.heap.get? a = none := fun a ha => Heap.get?_none_of_le ha
  obtain ⟨h1, tk1, rfl⟩ := C.toInCall.same
  refine ⟨⟨⟨rfl, rfl⟩, fun b o zz e => C.toInCall.keep b o e, fun b e => ?_, Sub.refl g, fun zz zz e => e⟩, ⟨fun b o e => C.toInCall.keep b o (O.sub b o e), fun p hp => ?_, ?_, fun p hp => ?_⟩, fun p hp => ?_⟩
  · cases hb' : s.heap.get? b with
    | none => exact absurd hb' e
    | some o' => rw [C.toInCall.keep b o' hb']; exact fun e => by cases e
  · rcases List.mem_append.mp hp with hp | hp
    · rcases List.mem_cons.mp hp with rfl | hp
      · obtain ⟨o, es, ep, x1, x2, x3, x4⟩ := C.toInCall.ns
        exact ⟨o, x1, es, ep, x2, x3, x4⟩
      · obtain ⟨q, hq, rfl⟩ := List.mem_map.mp hp
        obtain ⟨o, x1, x2⟩ := hcell q hq
        exact ⟨o, x1, x2⟩
    · obtain ⟨o, x1, x2⟩ := O.res p hp
      exact ⟨o, C.toInCall.keep _ _ x1, x2⟩
  · rw [List.map_append, List.nodup_append]
    refine ⟨?_, O.nd, ?_⟩
    · show (s.heap.objs.size :: List.map (fun (x : Res) => x.1) (List.map _ (cellsFrom (s.heap.objs.size + 1) d.scope.names []))).Nodup
      rw [List.map_map, List.nodup_cons]
      refine ⟨fun hm => ?_, ?_⟩
      · obtain ⟨q, hq, e⟩ := List.mem_map.mp hm
        exact absurd e (Nat.ne_of_gt (habove q hq))
      · rw [List.nodup_iff_pairwise_ne, List.pairwise_map]
        exact C.apart
    · intro a ha b hb' e
      subst e
      obtain ⟨p, hp, rfl⟩ := List.mem_map.mp hb'
      have := hlt p hp
      rcases List.mem_map.mp ha with ⟨q, hq, e⟩
      rcases List.mem_cons.mp hq with rfl | hq
      · exact absurd e (Nat.ne_of_gt this)
      · obtain ⟨r, hr, rfl⟩ := List.mem_map.mp hq
        have h2 := habove r hr
        have e : r.2 = p.1 := e
        rw [e] at h2
        exact absurd (Nat.lt_trans h2 this) (Nat.lt_irrefl _)
  · rcases List.mem_append.mp hp with hp | hp
    · have hge : s.heap.objs.size ≤ p.1 := by
        rcases List.mem_cons.mp hp with rfl | hp
        · exact Nat.le_refl _
        · obtain ⟨q, hq, rfl⟩ := List.mem_map.mp hp
          exact Nat.le_of_lt (habove q hq)
      cases e : g.get? p.1 with
      | none => rfl
      | some o' => have := O.sub _ _ e; rw [fresh _ hge] at this; cases this
    · exact O.off p hp
  · rcases List.mem_append.mp hp with hp | hp
    · refine .inr (fresh _ ?_)
      rcases List.mem_cons.mp hp with rfl | hp
      · exact Nat.le_refl _
      · obtain ⟨q, hq, rfl⟩ := List.mem_map.mp hp
        exact Nat.le_of_lt (habove q hq)
    · exact .inl (List.mem_map_of_mem hp)
end

section
variable {prog : Program} {w : World} {A : Around} {E : Value → Shared → Prop} {g₀ g h₀ : Heap} {D : List Addr} {s₀ s : Shared} {μ : List Res} {env : Env} {mg mb : Str → Option Value}
theorem n_glob (B : Base h₀ mg mb) (hb : Sub h₀ g) (I : In g₀ D s₀ g μ s) {x : Str} {pos : Pos} {v : Value} {Q : Value → Shared → Prop} (hv : mg x = some v)
    (hk : env.scope.kind = .function) (hx : env.kindOf x = some .globalImplicit) (hg : env.globals = mainGlobals) (hd : (x == ("__debug__" : Str)) = false) (h : Q v s) : wpAny (model prog w) A (eval (.Name x pos) env) Q E s :=
  Name_function_global hk hx (loadGlobal_global (by rw [hg]; exact B.g.keeps (hb.trans I.own.sub)) hv h) hd
theorem n_builtin (B : Base h₀ mg mb) (hb : Sub h₀ g) (I : In g₀ D s₀ g μ s) {x : Str} {pos : Pos} {v : Value} {Q : Value → Shared → Prop} (hm : mg x = none) (hv : bootBuiltins x = some v) (hn : x ≠ "__name__")
    (hk : env.scope.kind = .function) (hx : env.kindOf x = some .globalImplicit) (hg : env.globals = mainGlobals) (hbi : env.builtins = builtinsNs) (hd : (x == ("__debug__" : Str)) = false) (h : Q v s) : wpAny (model prog w) A (eval (.Name x pos) env) Q E s :=
  Name_function_global hk hx (loadGlobal_builtin (by rw [hg]; exact B.g.keeps (hb.trans I.own.sub)) hm (by rw [hbi]; exact B.b.keeps (hb.trans I.own.sub)) ((B.bi x hn).trans hv) h) hd
end
end Mine
end

section
open PySem PySem.W PyProof.Rows PySem.Calls
set_option tactic.hygienic false
set_option linter.all false
namespace Mine

section
variable {g₀ g : Heap} {D : List Addr} {s₀ s : Shared} {μ : List Res}

theorem In.dropTo {a : Addr} {P : Obj → Prop} (I : In g₀ D s₀ g ((a, P) :: μ) s) (ha : s₀.heap.get? a = none) {h' : Heap} {tk : Nat} (hk : ∀ b o, b ≠ a → s.heap.get? b = some o → h'.get? b = some o) :
    In g₀ D s₀ g μ { s with heap := h', toks := tk } := by
  have hoff : g.get? a = none := I.own.off (a, P) List.mem_cons_self
  have hnd : a ∉ μ.map (·.1) := (List.nodup_cons.mp I.own.nd).1
  refine ⟨⟨?_, fun b o hb e => ?_, fun b e => ?_, I.step.le, I.step.old⟩, ⟨fun b o e => ?_, fun p hp => ?_, (List.nodup_cons.mp I.own.nd).2, fun p hp => I.own.off p (List.mem_cons_of_mem _ hp)⟩, fun p hp => I.mine p (List.mem_cons_of_mem _ hp)⟩
  · exact I.step.same
  · by_cases hba : b = a
    · subst hba; rw [ha] at e; cases e
    · exact hk b o hba (I.step.keep b o hb e)
  · have hba : b ≠ a := fun h => by subst h; exact e ha
    cases hs : s.heap.get? b with
    | none => exact absurd hs (I.step.dom b e)
    | some o =>
      show h'.get? b ≠ none
      rw [hk b o hba hs]; exact fun e => by cases e
  · exact hk b o (fun h => by subst h; rw [hoff] at e; cases e) (I.own.sub b o e)
  · obtain ⟨o, h1, h2⟩ := I.own.res p (List.mem_cons_of_mem _ hp)
    exact ⟨o, hk _ _ (fun h => hnd (h ▸ List.mem_map_of_mem hp)) h1, h2⟩

end

structure Nexts (prog : Program) (w : World) (A : Around) (gb : Heap) (target : Expr) (it : Value) (n : Nat) (ρ : Nat → List Res) (V : Nat → Heap → Value → Prop) : Prop where
  item : ∀ {g₀ : Heap} {D : List Addr} {s₀ : Shared} {g : Heap} {μ : List Res} {s : Shared} {i : Nat} {F : Shared → Prop} {G : Value → Shared → Prop} {E E' : Value → Shared → Prop}, i < n → Sub gb g → In g₀ D s₀ g (ρ i ++ μ) s →
    (∀ v g' s', Sub g g' → V i g' v → In g₀ D s₀ g' (ρ (i + 1) ++ μ) s' → G v s') →
    wpAny (model prog w) A (pyNext it) (fun r s₁ => match r with | none => F s₁ | some v => wpAny (model prog w) A (letOwnedTupleGo target it v) (fun zz s₂ => G v s₂) E' s₁) E s
  done : ∀ {g₀ : Heap} {D : List Addr} {s₀ : Shared} {g : Heap} {μ : List Res} {s : Shared} {F : Shared → Prop} {G : Value → Shared → Prop} {E E' : Value → Shared → Prop}, Sub gb g → In g₀ D s₀ g (ρ n ++ μ) s → (∀ p ∈ ρ n, s₀.heap.get? p.1 = none) →
    (∀ s', In g₀ D s₀ g μ s' → F s') →
    wpAny (model prog w) A (pyNext it) (fun r s₁ => match r with | none => F s₁ | some v => wpAny (model prog w) A (letOwnedTupleGo target it v) (fun zz s₂ => G v s₂) E' s₁) E s
  self : ∀ {g₀ : Heap} {D : List Addr} {s₀ : Shared} {g : Heap} {μ : List Res} {s : Shared} {i : Nat} {Q : Value → Shared → Prop} {E : Value → Shared → Prop}, In g₀ D s₀ g (ρ i ++ μ) s → Q it s → wpAny (model prog w) A (pyIter it) Q E s
  addr : ∀ i j, (ρ i).map (·.1) = (ρ j).map (·.1)

noncomputable def frC (C : Addr) (own : List (Str × Addr)) (m cm : Str → Option Value) : List Res := (C, nsP m) :: own.map fun p => (p.2, cellP (cm p.1))

section
variable {prog : Program} {w : World} {A : Around} {E : Value → Shared → Prop} {g₀ g : Heap} {D : List Addr} {s₀ s : Shared} {μ : List Res} {env : Env}

theorem new_cenv (I : In g₀ D s₀ g μ s) {scope : Scope} {cl : List (Str × Addr)} {Q : Env → Shared → Prop}
    (h : ∀ C s', s₀.heap.get? C = none → In g₀ D s₀ g (frC C (cellsFrom (C + 1) scope.names []) (fun zz => none) (fun zz => none) ++ μ) s' →
      Q { scope := scope, locals := C, globals := env.globals, cells := cellsFrom (C + 1) scope.names cl, qual := env.qual, func := none, code := env.code, frame := env.frame, builtins := env.builtins } s') :
    wpAny (model prog w) A (newFunctionEnv scope env.globals cl [] env.qual none .none (some env)) Q E s := by
  simp only [newFunctionEnv, Option.isSome_some, if_true]
  refine wpAny_bind (wpAny_alloc ?_)
  refine wpAny_bind (wpAny_layCells _ (fun name kind cells => by cases hkc : kind == NameKind.cell <;> simp [hkc]) _ _ _ _ ?_)
  rw [List.forIn_nil]
  refine wpAny_bind (wpAny_pure (wpAny_pure ?_))
  have hsz : (s.heap.push { cls := .type "dict", data := .dict #[] }).objs.size = s.heap.objs.size + 1 := Heap.size_push ..
  have ok := cellsFrom_ok scope.names (s.heap.push { cls := .type "dict", data := .dict #[] }) (s.heap.objs.size + 1) [] ⟨fun zz zz hm => (nomatch hm), List.Pairwise.nil⟩ (by rw [hsz]; exact Nat.le_refl _)
  rw [hsz] at ok
  rw [show ({ s with heap := s.heap.push { cls := .type "dict", data := .dict #[] } } : Shared).heap.objs.size = s.heap.objs.size + 1 from hsz]
  have J := I.new (o := { cls := .type "dict", data := .dict #[] }) (P := nsP fun zz => none) ⟨#[], 0, rfl, fun zz he => by simp at he, fun zz => rfl⟩
  have hkeep : ∀ b o, (s.heap.push { cls := .type "dict", data := .dict #[] }).get? b = some o → (pushCells (s.heap.push { cls := .type "dict", data := .dict #[] }) scope.names).get? b = some o := fun b o e => pushCells_keeps _ _ b o e
  have K := J.ext (h' := pushCells (s.heap.push { cls := .type "dict", data := .dict #[] }) scope.names) (tk := s.toks) hkeep
  refine h s.heap.objs.size _ I.free ?_
  have hfresh : ∀ p ∈ cellsFrom (s.heap.objs.size + 1) scope.names [], s.heap.objs.size < p.2 := fun p hp => (ok.empty p.1 p.2 hp).2
  have hnone : ∀ a, s.heap.objs.size ≤ a → s.heap.get? a = none := fun a ha => Heap.get?_none_of_le ha
  refine ⟨K.step, ⟨K.own.sub, fun p hp => ?_, ?_, fun p hp => ?_⟩, fun p hp => ?_⟩
  · rcases List.mem_append.mp hp with hp | hp
    · rcases List.mem_cons.mp hp with rfl | hp
      · exact K.own.res _ List.mem_cons_self
      · obtain ⟨q, hq, rfl⟩ := List.mem_map.mp hp
        exact (ok.empty q.1 q.2 hq).1
    · exact K.own.res p (List.mem_cons_of_mem _ hp)
  · have hnd := K.own.nd
    rw [List.map_cons, List.nodup_cons] at hnd
    rw [List.map_append, List.nodup_append]
    refine ⟨?_, hnd.2, ?_⟩
    · show (s.heap.objs.size :: List.map (fun (x : Res) => x.1) (List.map _ (cellsFrom (s.heap.objs.size + 1) scope.names []))).Nodup
      rw [List.map_map, List.nodup_cons]
      refine ⟨fun hm => ?_, ?_⟩
      · obtain ⟨q, hq, e⟩ := List.mem_map.mp hm
        exact absurd e (Nat.ne_of_gt (hfresh q hq))
      · rw [List.nodup_iff_pairwise_ne, List.pairwise_map]
        exact ok.apart
    · intro a ha b hb' e
      subst e
      rcases List.mem_map.mp ha with ⟨q, hq, e⟩
      rcases List.mem_cons.mp hq with rfl | hq
      · exact hnd.1 (e ▸ hb')
      · obtain ⟨r, hr, rfl⟩ := List.mem_map.mp hq
        obtain ⟨p, hp, e2⟩ := List.mem_map.mp hb'
        obtain ⟨o, ho, _⟩ := I.own.res p hp
        have h1 := Heap.lt_size ho
        have h2 := hfresh r hr
        have e : r.2 = a := e
        rw [e] at h2
        rw [show p.1 = a from e2] at h1
        exact absurd (Nat.lt_trans h2 h1) (Nat.lt_irrefl _)
  · rcases List.mem_append.mp hp with hp | hp
    · have hge : s.heap.objs.size ≤ p.1 := by
        rcases List.mem_cons.mp hp with rfl | hp
        · exact Nat.le_refl _
        · obtain ⟨q, hq, rfl⟩ := List.mem_map.mp hp
          exact Nat.le_of_lt (hfresh q hq)
      cases e : g.get? p.1 with
      | none => rfl
      | some o' => have := I.own.sub _ _ e; rw [hnone _ hge] at this; cases this
    · exact I.own.off p hp
  · rcases List.mem_append.mp hp with hp | hp
    · have hge : s.heap.objs.size ≤ p.1 := by
        rcases List.mem_cons.mp hp with rfl | hp
        · exact Nat.le_refl _
        · obtain ⟨q, hq, rfl⟩ := List.mem_map.mp hp
          exact Nat.le_of_lt (hfresh q hq)
      refine .inr ?_
      cases e : s₀.heap.get? p.1 with
      | none => rfl
      | some o => exact absurd (hnone _ hge) (I.step.dom _ (by rw [e]; exact fun e => by cases e))
    · exact I.mine p hp

theorem b_append (I : In g₀ D s₀ g μ s) {i : Nat} {a : Addr} {vs : List Value} {v : Value} {Q : Value → Shared → Prop} (hi : μ[i]? = some (a, listP vs)) (hn : vs.length ≤ 2 ^ 20)
    (h : ∀ s', In g₀ D s₀ g (μ.set i (a, listP (vs ++ [v]))) s' → Q .none s') : wpAny (model prog w) A (call (.builtin "list.append") [.ref a, v]) Q E s := by
  obtain ⟨n, ho⟩ := get_list I hi
  refine wpAny_call_entry slot_list_append ⟨_, ho, rfl⟩ entry_list_append ?_ (args_list_append _ _)
  show wpAny _ _ (updateSeq a (·.push v) >>= fun zz => ret .none) _ _ s
  refine wpAny_bind (wpAny_updateSeq ho rfl (wpAny_pure ⟨.none, rfl, h _ (I.turnList hi (by simp))⟩) (by rw [sizeLine_eq]; simp; omega))

abbrev testsOf (ifs : List Expr) (cenv : Env) : Sem Bool := forIn ifs true fun c r => if r = true then do let ok ← isTrue c cenv (eval c cenv); pure (ForInStep.yield ok) else pure (ForInStep.yield r)

theorem codeAny_compLoop_my {elt target iter : Expr} {ifs : List Expr} {scope : Scope} {pos : Pos} {it acc : Value} {cenv : Env} {R : Result → Shared → Prop} (I : Nat → Shared → Prop)
    (turn : ∀ n s, I n s → wpAny (model prog w) A (pyNext it) (fun r s₁ => match r with
      | none => R (.ok .next) s₁
      | some v => wpAny (model prog w) A (letOwnedTupleGo target it v) (fun zz s₂ => wpAny (model prog w) A (assign target cenv v) (fun zz s₂ =>
          wpAny (model prog w) A (testsOf ifs cenv) (fun ok s₃ =>
            if ok = true then wpAny (model prog w) A (eval elt cenv) (fun x s₄ =>
              wpAny (model prog w) A (call (.builtin "list.append") [acc, x]) (fun zz s₅ => ∃ m, m < n ∧ I m s₅) (fun zz zz => False) s₄) (fun zz zz => False) s₃
            else ∃ m, m < n ∧ I m s₃) (fun zz zz => False) s₂) (fun zz zz => False) s₂) (fun zz zz => False) s₁) (fun zz zz => False) s)
    (n : Nat) (h : I n s) :
    codeAny (model prog w) A (.compLoop (.ListComp elt [⟨target, iter, ifs, 0⟩] scope pos) 0 it acc cenv) R s := by
  refine codeAny_loop rfl I (fun n s hI => ?_) n h
  show wpAny _ A ((compTurn (.ListComp elt [⟨target, iter, ifs, 0⟩] scope pos) 0 it acc cenv).onRaise (fun x => do noteFrame x cenv; theTreesLotGoes x)) _ _ s
  refine wpAny_noted ?_
  rw [compTurn_list]
  refine wpAny_bind (wpAny_standAt (wpAny_bind (wpAny_mono (turn n s hI) (fun r s₁ h₁ => ?_) fun zz zz h' => h'.elim)))
  cases r with
  | none => exact wpAny_pure h₁
  | some v =>
    refine wpAny_bind (wpAny_mono h₁ (fun zz s₂ h₂ => wpAny_bind (wpAny_mono h₂ (fun zz s₂ h₂ => wpAny_bind (wpAny_mono h₂ (fun ok s₃ h₃ => ?_) fun zz zz h' => h'.elim)) fun zz zz h' => h'.elim)) fun zz zz h' => h'.elim)
    cases ok with
    | false => exact wpAny_pure ⟨rfl, h₃⟩
    | true =>
      exact wpAny_bind (wpAny_bind (wpAny_mono h₃ (fun x s₄ h₄ => wpAny_bind (wpAny_mono h₄ (fun zz s₅ h₅ => wpAny_pure (wpAny_pure ⟨rfl, h₅⟩)) fun zz zz h' => h'.elim)) fun zz zz h' => h'.elim))
end
end Mine
end

section
open PySem PySem.W PyProof.Rows PySem.Calls
set_option tactic.hygienic false
set_option linter.all false
namespace Mine

theorem permA {α : Type} {A B R : List α} {x : α} : (A ++ (B ++ (x :: R))).Perm (R ++ (A ++ (B ++ [x]))) := by
  have e : A ++ (B ++ (x :: R)) = (A ++ (B ++ [x])) ++ R := by simp
  rw [e]; exact List.perm_append_comm
theorem permB {α : Type} {A B R : List α} {x : α} : (A ++ (B ++ (x :: R))).Perm (x :: (A ++ (B ++ R))) := by
  have e : A ++ (B ++ (x :: R)) = (A ++ B) ++ (x :: R) := by simp
  have e' : A ++ (B ++ R) = (A ++ B) ++ R := by simp
  rw [e, e']; exact List.perm_middle

section
variable {prog : Program} {w : World} {A : Around} {g₀ g : Heap} {D : List Addr} {s₀ s : Shared} {μ : List Res} {env : Env}

theorem comp_loop {elt target iter : Expr} {ifs : List Expr} {scope : Scope} {pos : Pos} {it : Value} {cenv : Env} {R : Result → Shared → Prop} {gb : Heap} {n : Nat} {ρ : Nat → List Res} {V : Nat → Heap → Value → Prop}
    {C acc : Addr} {own : List (Str × Addr)} {m₀ cm₀ : Str → Option Value}
    (N : Nexts prog w A gb target it n ρ V) (hb : Sub gb g) (hacc : s₀.heap.get? acc = none) (hρ : ∀ p ∈ ρ n, s₀.heap.get? p.1 = none) (hn : n ≤ 2 ^ 20)
    (J : Nat → List Value → Heap → List Res → Prop) (h0 : J 0 [] g μ)
    (I : In g₀ D s₀ g (frC C own m₀ cm₀ ++ (μ ++ ((acc, listP []) :: ρ 0))) s)
    (turn : ∀ i out g' μ' s' v m cm rest, i < n → Sub g g' → Sub gb g' → J i out g' μ' → V i g' v → In g₀ D s₀ g' (frC C own m cm ++ (μ' ++ rest)) s' →
      wpAny (model prog w) A (assign target cenv v) (fun zz s₂ => wpAny (model prog w) A (testsOf ifs cenv) (fun ok s₃ =>
        if ok = true then wpAny (model prog w) A (eval elt cenv) (fun y s₄ => ∃ g'' μ'' m' cm', Sub g' g'' ∧ In g₀ D s₀ g'' (frC C own m' cm' ++ (μ'' ++ rest)) s₄ ∧ J (i + 1) (out ++ [y]) g'' μ'') (fun zz zz => False) s₃
        else ∃ g'' μ'' m' cm', Sub g' g'' ∧ In g₀ D s₀ g'' (frC C own m' cm' ++ (μ'' ++ rest)) s₃ ∧ J (i + 1) out g'' μ'') (fun zz zz => False) s₂) (fun zz zz => False) s')
    (hmono : ∀ i out g' g'' μ', Sub g' g'' → J i out g' μ' → J i out g'' μ')
    (fin : ∀ out g' μ' s' m cm, Sub g g' → J n out g' μ' → In g₀ D s₀ g' (frC C own m cm ++ (μ' ++ [(acc, listP out)])) s' → R (.ok .next) s') :
    codeAny (model prog w) A (.compLoop (.ListComp elt [⟨target, iter, ifs, 0⟩] scope pos) 0 it (.ref acc) cenv) R s := by
  refine codeAny_compLoop_my (fun k s' => ∃ i out g' μ' m cm, i ≤ n ∧ k = n + 1 - i ∧ out.length ≤ i ∧ Sub g g' ∧ Sub gb g' ∧ J i out g' μ' ∧ In g₀ D s₀ g' (frC C own m cm ++ (μ' ++ ((acc, listP out) :: ρ i))) s') ?_ (n + 1)
    ⟨0, [], g, μ, m₀, cm₀, Nat.zero_le _, rfl, Nat.le_refl _, Sub.refl g, hb, h0, I⟩
  rintro k s' ⟨i, out, g', μ', m, cm, hi, rfl, hout, hgg, hgb, hJ, I'⟩
  by_cases hlt : i < n
  · refine N.item hlt hgb (I'.perm permA) fun v g'' s'' hs hV I'' => ?_
    have I3 := I''.perm (permA (A := frC C own m cm) (B := μ') (x := (acc, listP out)) (R := ρ (i + 1))).symm
    refine wpAny_mono (turn i out g'' μ' s'' v m cm _ hlt (hgg.trans hs) (hgb.trans hs) (hmono _ _ _ _ _ hs hJ) hV I3) (fun zz s₂ h₂ => wpAny_mono h₂ (fun ok s₃ h₃ => ?_) fun zz zz e => e) fun zz zz e => e
    cases ok with
    | true =>
      simp only [if_true] at h₃ ⊢
      refine wpAny_mono h₃ (fun y s₄ h₄ => ?_) fun zz zz e => e
      obtain ⟨g3, μ3, m3, cm3, hs3, I4, hJ3⟩ := h₄
      refine b_append (i := 0) (I4.perm permB) rfl (by first | decide | exact lle ‹_› rfl | exact llt ‹_› rfl | exact lll ‹_› rfl | exact llm ‹_› rfl | omega) fun s5 I5 => ?_
      refine ⟨n + 1 - (i + 1), Nat.sub_lt_sub_left (Nat.lt_succ_of_lt hlt) (Nat.lt_succ_self i), i + 1, out ++ [y], g3, μ3, m3, cm3, hlt, rfl, by simp; omega, (hgg.trans hs).trans hs3, (hgb.trans hs).trans hs3, hJ3, ?_⟩
      exact I5.perm (permB (x := (acc, listP (out ++ [y])))).symm
    | false =>
      simp only [Bool.false_eq_true, if_false] at h₃ ⊢
      obtain ⟨g3, μ3, m3, cm3, hs3, I4, hJ3⟩ := h₃
      exact ⟨n + 1 - (i + 1), Nat.sub_lt_sub_left (Nat.lt_succ_of_lt hlt) (Nat.lt_succ_self i), i + 1, out, g3, μ3, m3, cm3, hlt, rfl, by omega, (hgg.trans hs).trans hs3, (hgb.trans hs).trans hs3, hJ3, I4⟩
  · have hin : i = n := by omega
    subst hin
    refine N.done hgb (I'.perm permA) hρ fun s'' I'' => ?_
    exact fin out g' μ' s'' m cm hgg hJ I''

theorem comp_rest {elt target iter : Expr} {ifs : List Expr} {scope : Scope} {pos : Pos} {it : Value} {cl : List (Str × Addr)} {gb : Heap} {n : Nat} {ρ : Nat → List Res} {V : Nat → Heap → Value → Prop} {RR : Value → Addr → Result → Shared → Prop} {E : Value → Shared → Prop}
    (N : Nexts prog w A gb target it n ρ V) (hb : Sub gb g) (hρ : ∀ p ∈ ρ 0, s₀.heap.get? p.1 = none) (hn : n ≤ 2 ^ 20)
    (J : Nat → List Value → Heap → List Res → Prop) (h0 : J 0 [] g μ) (I : In g₀ D s₀ g (ρ 0 ++ μ) s)
    (turn : ∀ C i out g' μ' s' v m cm rest, i < n → Sub g g' → Sub gb g' → J i out g' μ' → V i g' v → In g₀ D s₀ g' (frC C (cellsFrom (C + 1) scope.names []) m cm ++ (μ' ++ rest)) s' →
      let cenv : Env := { scope := relabel scope env, locals := C, globals := env.globals, cells := cellsFrom (C + 1) scope.names cl, qual := env.qual, func := none, code := env.code, frame := env.frame, builtins := env.builtins }
      wpAny (model prog w) A (assign target cenv v) (fun zz s₂ => wpAny (model prog w) A (testsOf ifs cenv) (fun ok s₃ =>
        if ok = true then wpAny (model prog w) A (eval elt cenv) (fun y s₄ => ∃ g'' μ'' m' cm', Sub g' g'' ∧ In g₀ D s₀ g'' (frC C (cellsFrom (C + 1) scope.names []) m' cm' ++ (μ'' ++ rest)) s₄ ∧ J (i + 1) (out ++ [y]) g'' μ'') (fun zz zz => False) s₃
        else ∃ g'' μ'' m' cm', Sub g' g'' ∧ In g₀ D s₀ g'' (frC C (cellsFrom (C + 1) scope.names []) m' cm' ++ (μ'' ++ rest)) s₃ ∧ J (i + 1) out g'' μ'') (fun zz zz => False) s₂) (fun zz zz => False) s')
    (hmono : ∀ i out g' g'' μ', Sub g' g'' → J i out g' μ' → J i out g'' μ')
    (fin : ∀ acc C out g' μ' s' m cm, s₀.heap.get? acc = none → s₀.heap.get? C = none → Sub g g' → J n out g' μ' → In g₀ D s₀ g' (frC C (cellsFrom (C + 1) scope.names []) m cm ++ (μ' ++ [(acc, listP out)])) s' → RR (.ref acc) C (.ok .next) s') :
    wpAny (model prog w) A (newList []) (fun acc s₃ => wpAny (model prog w) A (newFunctionEnv scope env.globals cl [] env.qual none .none (some env)) (fun cenv s₄ =>
      codeAny (model prog w) A (.compStart (.ListComp elt [⟨target, iter, ifs, 0⟩] scope pos) 0 it acc { cenv with scope := relabel scope env }) (RR acc cenv.locals) s₄) E s₃) E s := by
  refine d_own I (by simp) fun s₁ acc hacc I₁ => ?_
  refine new_cenv I₁ fun C s₂ hC I₂ => ?_
  have perm : ∀ (k : Nat) (fr : List Res), (fr ++ ((acc, listP []) :: (ρ k ++ μ))).Perm (fr ++ (μ ++ ((acc, listP []) :: ρ k))) := fun k fr => by
    refine List.Perm.append_left _ ?_
    have e : (acc, listP []) :: (ρ k ++ μ) = ((acc, listP []) :: ρ k) ++ μ := by simp
    rw [e]; exact List.perm_append_comm
  have loop : ∀ s₃, In g₀ D s₀ g (frC C (cellsFrom (C + 1) scope.names []) (fun zz => none) (fun zz => none) ++ (μ ++ ((acc, listP []) :: ρ 0))) s₃ → codeAny (model prog w) A (.compLoop (.ListComp elt [⟨target, iter, ifs, 0⟩] scope pos) 0 it (.ref acc) { scope := relabel scope env, locals := C, globals := env.globals, cells := cellsFrom (C + 1) scope.names cl, qual := env.qual, func := none, code := env.code, frame := env.frame, builtins := env.builtins }) (RR (.ref acc) C) s₃ := fun s₃ I₃ =>
    comp_loop N hb hacc (fun p hp => by
      have : p.1 ∈ (ρ 0).map (·.1) := N.addr n 0 ▸ List.mem_map_of_mem hp
      obtain ⟨q, hq, e⟩ := List.mem_map.mp this
      rw [← e]; exact hρ q hq) hn J h0 I₃ (fun i out g' μ' s' v m cm rest => turn C i out g' μ' s' v m cm rest) hmono (fun out g' μ' s' m cm => fin acc C out g' μ' s' m cm hacc hC)
  have I₃ := I₂.perm (perm 0 _)
  refine codeAny_compStart_list (loop _ I₃) ?_
  exact N.self (i := 0) (μ := frC C (cellsFrom (C + 1) scope.names []) (fun zz => none) (fun zz => none) ++ (μ ++ [(acc, listP [])])) (I₃.perm permA) (loop _ I₃)

theorem comp_rule {elt target iter : Expr} {ifs : List Expr} {scope : Scope} {pos : Pos} {cl : List (Str × Addr)} {Q : Value → Shared → Prop} {E : Value → Shared → Prop}
    (hclos : closureFor scope env = pure cl) (hkind : scope.kind = .function) (hnames : ∀ x ∈ scope.names, x.2 = .local → scope.names.lookup x.1 = some .local)
    (hs : ∀ x, foldedSetIterable iter env x = pure x)
    (h : wpAny (model prog w) A (eval iter env) (fun xv s₁ => wpAny (model prog w) A (pyIter xv) (fun it s₂ => ∃ gb n ρ V g μ, ∃ J : Nat → List Value → Heap → List Res → Prop, Nexts prog w A gb target it n ρ V ∧ Sub gb g ∧ (∀ p ∈ ρ 0, s₀.heap.get? p.1 = none) ∧ n ≤ 2 ^ 20 ∧
      J 0 [] g μ ∧ In g₀ D s₀ g (ρ 0 ++ μ) s₂ ∧
      (∀ C i out g' μ' s' v m cm rest, i < n → Sub g g' → Sub gb g' → J i out g' μ' → V i g' v → In g₀ D s₀ g' (frC C (cellsFrom (C + 1) scope.names []) m cm ++ (μ' ++ rest)) s' →
        let cenv : Env := { scope := relabel scope env, locals := C, globals := env.globals, cells := cellsFrom (C + 1) scope.names cl, qual := env.qual, func := none, code := env.code, frame := env.frame, builtins := env.builtins }
        wpAny (model prog w) A (assign target cenv v) (fun zz s₂ => wpAny (model prog w) A (testsOf ifs cenv) (fun ok s₃ =>
          if ok = true then wpAny (model prog w) A (eval elt cenv) (fun y s₄ => ∃ g'' μ'' m' cm', Sub g' g'' ∧ In g₀ D s₀ g'' (frC C (cellsFrom (C + 1) scope.names []) m' cm' ++ (μ'' ++ rest)) s₄ ∧ J (i + 1) (out ++ [y]) g'' μ'') (fun zz zz => False) s₃
          else ∃ g'' μ'' m' cm', Sub g' g'' ∧ In g₀ D s₀ g'' (frC C (cellsFrom (C + 1) scope.names []) m' cm' ++ (μ'' ++ rest)) s₃ ∧ J (i + 1) out g'' μ'') (fun zz zz => False) s₂) (fun zz zz => False) s') ∧
      (∀ i out g' g'' μ', Sub g' g'' → J i out g' μ' → J i out g'' μ') ∧
      (∀ acc out g' μ' s', s₀.heap.get? acc = none → Sub g g' → J n out g' μ' → In g₀ D s₀ g' ((acc, listP out) :: μ') s' → Q (.ref acc) s')) E s₁) E s) :
    wpAny (model prog w) A (eval (.ListComp elt [⟨target, iter, ifs, 0⟩] scope pos) env) Q E s := by
  rw [eval_ListComp]
  refine wpAny_comprehension_free (use := none) rfl hs hclos hkind hnames (wpAny_mono h (fun xv s₁ h₁ => wpAny_mono h₁ (fun it s₂ h₂ => ?_) fun zz zz e => e) fun zz zz e => e)
  obtain ⟨gb, n, ρ, V, g, μ, J, N, hb, hρ, hn, h0, I, turn, hmono, fin⟩ := h₂
  refine comp_rest (RR := fun acc C => compPost (model prog w) A E none Q acc C) N hb hρ hn J h0 I turn hmono fun acc C out g' μ' s' m cm hacc hC hg hJ I' => ?_
  have hC' : s'.heap.Ns C m := by
    obtain ⟨o, ho, es, ep, h1, h2, h3⟩ := I'.own.res (C, nsP m) List.mem_cons_self
    exact ⟨o, es, ep, ho, h1, h2, h3⟩
  refine ⟨m, hC', fun h' hs' => ?_⟩
  have I2 := In.dropTo (tk := s'.toks) I' hC (h' := h') fun b o hb e => hs'.extBut b o hb e
  refine fin acc out g' μ' _ hacc hg hJ ?_
  have I3 := I2.sub (ν := μ' ++ [(acc, listP out)]) (List.sublist_append_right _ _)
  exact I3.perm (List.perm_append_comm.trans (by simp))

theorem comp_assign {elt target iter : Expr} {ifs : List Expr} {scope : Scope} {pos spos py : Pos} {y : Str} {cl : List (Str × Addr)} {Q : Flow → Shared → Prop} {E : Value → Shared → Prop}
    (hsw : swapsWith (.ListComp elt [⟨target, iter, ifs, 0⟩] scope pos) (some (.Name y py)) spos.line env = pure true)
    (hclos : closureFor scope env = pure cl) (hkind : scope.kind = .function) (hnames : ∀ x ∈ scope.names, x.2 = .local → scope.names.lookup x.1 = some .local)
    (hs : ∀ x, foldedSetIterable iter env x = pure x) (hy : env.kindOf y = some .local) (hke : env.scope.kind = .function)
    (h : wpAny (model prog w) A (eval iter env) (fun xv s₁ => wpAny (model prog w) A (pyIter xv) (fun it s₂ => ∃ gb n ρ V g μ, ∃ J : Nat → List Value → Heap → List Res → Prop, Nexts prog w A gb target it n ρ V ∧ Sub gb g ∧ (∀ p ∈ ρ 0, s₀.heap.get? p.1 = none) ∧ n ≤ 2 ^ 20 ∧
      J 0 [] g μ ∧ In g₀ D s₀ g (ρ 0 ++ μ) s₂ ∧
      (∀ C i out g' μ' s' v m cm rest, i < n → Sub g g' → Sub gb g' → J i out g' μ' → V i g' v → In g₀ D s₀ g' (frC C (cellsFrom (C + 1) scope.names []) m cm ++ (μ' ++ rest)) s' →
        let cenv : Env := { scope := relabel scope env, locals := C, globals := env.globals, cells := cellsFrom (C + 1) scope.names cl, qual := env.qual, func := none, code := env.code, frame := env.frame, builtins := env.builtins }
        wpAny (model prog w) A (assign target cenv v) (fun zz s₂ => wpAny (model prog w) A (testsOf ifs cenv) (fun ok s₃ =>
          if ok = true then wpAny (model prog w) A (eval elt cenv) (fun y s₄ => ∃ g'' μ'' m' cm', Sub g' g'' ∧ In g₀ D s₀ g'' (frC C (cellsFrom (C + 1) scope.names []) m' cm' ++ (μ'' ++ rest)) s₄ ∧ J (i + 1) (out ++ [y]) g'' μ'') (fun zz zz => False) s₃
          else ∃ g'' μ'' m' cm', Sub g' g'' ∧ In g₀ D s₀ g'' (frC C (cellsFrom (C + 1) scope.names []) m' cm' ++ (μ'' ++ rest)) s₃ ∧ J (i + 1) out g'' μ'') (fun zz zz => False) s₂) (fun zz zz => False) s') ∧
      (∀ i out g' g'' μ', Sub g' g'' → J i out g' μ' → J i out g'' μ') ∧
      (∀ acc out g' μ' s', s₀.heap.get? acc = none → Sub g g' → J n out g' μ' → In g₀ D s₀ g' ((acc, listP out) :: μ') s' →
        ∃ j m, μ'[j]? = some (env.locals, nsP m) ∧ ∀ s'', In g₀ D s₀ g' ((acc, listP out) :: μ'.set j (env.locals, nsP (upd m y (.ref acc)))) s'' → Q .next s'')) E s₁) E s) :
    wpAny (model prog w) A (exec (.Assign [.Name y py] (.ListComp elt [⟨target, iter, ifs, 0⟩] scope pos) spos) env) Q E s := by
  rw [exec_Assign_Name_used _ _ _ _ hsw]
  refine wpAny_bind (wpAny_standAt (wpAny_bind ?_))
  show wpAny _ A (do let _ ← comprehension (.ListComp elt [⟨target, iter, ifs, 0⟩] scope pos) scope env _ (newList []) false (eval iter env) (some (assign (.Name y py) env))) _ _ s
  refine wpAny_bind (wpAny_mono (wpAny_comprehension_free (use := some (assign (.Name y py) env)) (Q := fun zz s' => Q .next s') rfl hs hclos hkind hnames
    (wpAny_mono h (fun xv s₁ h₁ => wpAny_mono h₁ (fun it s₂ h₂ => ?_) fun zz zz e => e) fun zz zz e => e)) (fun zz s' hq => wpAny_pure (wpAny_pure hq)) fun zz zz e => e)
  obtain ⟨gb, n, ρ, V, g, μ, J, N, hb, hρ, hn, h0, I, turn, hmono, fin⟩ := h₂
  refine comp_rest (RR := fun acc C => compPost (model prog w) A E (some (assign (.Name y py) env)) (fun zz s' => Q .next s') acc C) N hb hρ hn J h0 I turn hmono fun acc C out g' μ' s' m cm hacc hC hg hJ I' => ?_
  show wpAny (model prog w) A (assign (.Name y py) env (.ref acc)) _ E s'
  have I3 := (I'.sub (ν := μ' ++ [(acc, listP out)]) (List.sublist_append_right _ _)).perm (ν := (acc, listP out) :: μ') (List.perm_append_comm.trans (by simp))
  obtain ⟨j, mL, hj, hQ⟩ := fin acc out g' μ' s' hacc hg hJ I3
  have hjl : j < μ'.length := (List.getElem?_eq_some_iff.mp hj).1
  refine wpAny_assign_Name ?_
  refine st_local (i := (frC C (cellsFrom (C + 1) scope.names []) m cm).length + j) (m := mL) I' ?_ hy hke fun s'' I'' => ?_
  · rw [List.getElem?_append_right (by first | decide | exact lle ‹_› rfl | exact llt ‹_› rfl | exact lll ‹_› rfl | exact llm ‹_› rfl | omega), Nat.add_sub_cancel_left, List.getElem?_append_left hjl]; exact hj
  have e : (frC C (cellsFrom (C + 1) scope.names []) m cm ++ (μ' ++ [(acc, listP out)])).set ((frC C (cellsFrom (C + 1) scope.names []) m cm).length + j) (env.locals, nsP (upd mL y (.ref acc))) =
      frC C (cellsFrom (C + 1) scope.names []) m cm ++ (μ'.set j (env.locals, nsP (upd mL y (.ref acc))) ++ [(acc, listP out)]) := by
    rw [List.set_append_right _ _ (by first | decide | exact lle ‹_› rfl | exact llt ‹_› rfl | exact lll ‹_› rfl | exact llm ‹_› rfl | omega), Nat.add_sub_cancel_left, List.set_append_left _ _ hjl]
  rw [e] at I''
  have hC' : s''.heap.Ns C m := by
    obtain ⟨o, ho, es, ep, h1, h2, h3⟩ := I''.own.res (C, nsP m) List.mem_cons_self
    exact ⟨o, es, ep, ho, h1, h2, h3⟩
  refine ⟨m, hC', fun h' hs' => hQ _ ?_⟩
  have I2 := In.dropTo (tk := s''.toks) I'' hC (h' := h') fun b o hb e => hs'.extBut b o hb e
  have I4 := I2.sub (ν := μ'.set j (env.locals, nsP (upd mL y (.ref acc))) ++ [(acc, listP out)]) (List.sublist_append_right _ _)
  exact I4.perm (List.perm_append_comm.trans (by simp))
end
end Mine
end

section
open PySem PySem.W PyProof.Rows PySem.Calls
set_option tactic.hygienic false
set_option linter.all false
namespace Mine

noncomputable def iterP (T : String) (t : Addr) (i : Nat) (o : Obj) : Prop := o = { cls := .type T, dict := none, data := .fields #[.ref t, .int i 0], slots := #[] }

inductive SeqKind where
  | tup | lst
noncomputable def SeqKind.iter : SeqKind → String
  | .tup => "tuple_iterator"
  | .lst => "list_iterator"
noncomputable def SeqKind.at : SeqKind → Heap → Addr → List Value → Prop
  | .tup, h, a, vs => h.IsTuple a vs.toArray
  | .lst, h, a, vs => h.IsList a vs.toArray

theorem SeqKind.at_sub {κ : SeqKind} {g h : Heap} {a : Addr} {vs : List Value} (x : κ.at g a vs) (k : Sub g h) : κ.at h a vs := by
  cases κ with
  | tup => obtain ⟨o, ho, r⟩ := x; exact ⟨o, k _ _ ho, r⟩
  | lst => obtain ⟨o, ho, r⟩ := x; exact ⟨o, k _ _ ho, r⟩

section
variable {prog : Program} {w : World} {A : Around} {E : Value → Shared → Prop} {g₀ g : Heap} {D : List Addr} {s₀ s : Shared} {μ : List Res}

theorem nextOf_tuple_item {it l : Addr} {i : Nat} {vs : List Value} {x : Value} {Q : Value → Shared → Prop} (ho : s.heap.get? it = some { cls := .type "tuple_iterator", dict := none, data := .fields #[.ref l, .int i 0], slots := #[] })
    (hl : s.heap.IsTuple l vs.toArray) (hx : vs[i]? = some x)
    (hQ : ∀ h', h'.get? it = some { cls := .type "tuple_iterator", dict := none, data := .fields #[.ref l, .int ((i + 1 : Nat) : Int) 0], slots := #[] } → Heap.SameBut it s.heap h' → Q x { s with heap := h' }) :
    wpAny (model prog w) A (Builtin.SmallTypes.nextOf (.ref it)) Q E s := by
  obtain ⟨ol, hol, _, nl, hdl⟩ := hl
  have hT : s.TypeIs (.ref it) "tuple_iterator" := ⟨_, ho, rfl⟩
  unfold Builtin.SmallTypes.nextOf
  refine wpAny_bind (wpAny_callSpecial?_slot (name := Str.ofString "__next__") hT F.slot_tuple_iterator_next
    (wpAny_call_entry F.slot_tuple_iterator_next hT F.entry_tuple_iterator_next ?_ (F.args_tuple_iterator_next_1 _)))
  show wpAny _ _ (field (.ref it) 0 >>= _) _ _ s
  refine wpAny_bind (wpAny_field ho rfl (x := .ref l) rfl ?_)
  show wpAny _ _ (if (Value.ref l == Value.none) = true then _ else _) _ _ s
  rw [if_neg (show ¬ ((Value.ref l == Value.none) = true) from Bool.false_ne_true)]
  show wpAny _ _ (field (.ref it) 1 >>= _) _ _ s
  refine wpAny_bind (wpAny_field ho rfl (x := .int i 0) rfl ?_)
  show wpAny _ _ (seqItems? (.ref l) >>= _) _ _ s
  refine wpAny_bind (wpAny_seqItems hol hdl ?_)
  simp only [Int.toNat_natCast, List.getElem?_toArray, hx]
  refine wpAny_bind (wpAny_setField_rec ho (by simp) fun h' ho' hs' => wpAny_pure ⟨x, rfl, wpAny_pure (hQ h' ?_ hs')⟩)
  rw [ho']; simp [rawInt]
theorem nextOf_list_item {it l : Addr} {i : Nat} {vs : List Value} {x : Value} {Q : Value → Shared → Prop} (ho : s.heap.get? it = some { cls := .type "list_iterator", dict := none, data := .fields #[.ref l, .int i 0], slots := #[] })
    (hl : s.heap.IsList l vs.toArray) (hx : vs[i]? = some x)
    (hQ : ∀ h', h'.get? it = some { cls := .type "list_iterator", dict := none, data := .fields #[.ref l, .int ((i + 1 : Nat) : Int) 0], slots := #[] } → Heap.SameBut it s.heap h' → Q x { s with heap := h' }) :
    wpAny (model prog w) A (Builtin.SmallTypes.nextOf (.ref it)) Q E s := by
  obtain ⟨ol, hol, _, nl, hdl⟩ := hl
  have hT : s.TypeIs (.ref it) "list_iterator" := ⟨_, ho, rfl⟩
  unfold Builtin.SmallTypes.nextOf
  refine wpAny_bind (wpAny_callSpecial?_slot (name := Str.ofString "__next__") hT slot_listiter_next
    (wpAny_call_entry slot_listiter_next hT entry_listiter_next ?_ (args_listiter_next _)))
  show wpAny _ _ (field (.ref it) 0 >>= _) _ _ s
  refine wpAny_bind (wpAny_field ho rfl (x := .ref l) rfl ?_)
  show wpAny _ _ (if (Value.ref l == Value.none) = true then _ else _) _ _ s
  rw [if_neg (show ¬ ((Value.ref l == Value.none) = true) from Bool.false_ne_true)]
  show wpAny _ _ (field (.ref it) 1 >>= _) _ _ s
  refine wpAny_bind (wpAny_field ho rfl (x := .int i 0) rfl ?_)
  show wpAny _ _ (seqItems? (.ref l) >>= _) _ _ s
  refine wpAny_bind (wpAny_seqItems hol hdl ?_)
  simp only [Int.toNat_natCast, List.getElem?_toArray, hx]
  refine wpAny_bind (wpAny_setField_rec ho (by simp) fun h' ho' hs' => wpAny_pure ⟨x, rfl, wpAny_pure (hQ h' ?_ hs')⟩)
  rw [ho']; simp [rawInt]

theorem nextOf_tuple_end {it l : Addr} {i : Nat} {vs : List Value} {Q : Value → Shared → Prop} (hh : A.handled = none) (ho : s.heap.get? it = some { cls := .type "tuple_iterator", dict := none, data := .fields #[.ref l, .int i 0], slots := #[] })
    (hl : s.heap.IsTuple l vs.toArray) (hx : vs[i]? = none)
    (hE : ∀ h' e, Heap.ExtBut it s.heap h' → s.heap.get? e = none → (∃ o, h'.get? e = some o ∧ o.cls = .type "StopIteration") → E (.ref e) { s with heap := h' }) :
    wpAny (model prog w) A (Builtin.SmallTypes.nextOf (.ref it)) Q E s := by
  obtain ⟨ol, hol, _, nl, hdl⟩ := hl
  have hT : s.TypeIs (.ref it) "tuple_iterator" := ⟨_, ho, rfl⟩
  unfold Builtin.SmallTypes.nextOf
  refine wpAny_bind (wpAny_callSpecial?_slot (name := Str.ofString "__next__") hT F.slot_tuple_iterator_next
    (wpAny_call_entry F.slot_tuple_iterator_next hT F.entry_tuple_iterator_next ?_ (F.args_tuple_iterator_next_1 _)))
  show wpAny _ _ (field (.ref it) 0 >>= _) _ _ s
  refine wpAny_bind (wpAny_field ho rfl (x := .ref l) rfl ?_)
  show wpAny _ _ (if (Value.ref l == Value.none) = true then _ else _) _ _ s
  rw [if_neg (show ¬ ((Value.ref l == Value.none) = true) from Bool.false_ne_true)]
  show wpAny _ _ (field (.ref it) 1 >>= _) _ _ s
  refine wpAny_bind (wpAny_field ho rfl (x := .int i 0) rfl ?_)
  show wpAny _ _ (seqItems? (.ref l) >>= _) _ _ s
  refine wpAny_bind (wpAny_seqItems hol hdl ?_)
  simp only [Int.toNat_natCast, List.getElem?_toArray, hx]
  refine wpAny_bind (wpAny_rule (wpAny_bind (wpAny_setField_rec ho (by simp) fun h1 ho1 hs1 => ?_)))
  show wpAny _ _ (newExc (.type "StopIteration") [] >>= _) _ _ _
  refine wpAny_bind ?_
  simp only [newExc, newTuple]
  refine wpAny_bind (wpAny_newObj_type ?_ (by size_fits))
  refine wpAny_bind (m := firstArgMember _ _) (wpAny_of_eq (a := Value.none) (by first | rfl | (simp only [firstArgMember]; rfl)) ?_)
  refine wpAny_newObj_type ?_ (by size_fits)
  simp only [raiseNew]
  refine wpAny_bind (wpAny_handled ?_)
  first | rw [show A.in1.handled = none from hh] | rw [hh]
  refine wpAny_bind (wpAny_pure (wpAny_throw ?_))
  refine hE _ _ ((hs1.extBut.push _).push _) ?_ ⟨_, Heap.get?_push_size _ rfl, rfl⟩
  refine Heap.get?_none_of_le ?_
  show s.heap.objs.size ≤ (h1.push _).objs.size
  rw [Heap.size_push, hs1.1]; exact Nat.le_succ _
theorem nextOf_list_end {it l : Addr} {i : Nat} {vs : List Value} {Q : Value → Shared → Prop} (hh : A.handled = none) (ho : s.heap.get? it = some { cls := .type "list_iterator", dict := none, data := .fields #[.ref l, .int i 0], slots := #[] })
    (hl : s.heap.IsList l vs.toArray) (hx : vs[i]? = none)
    (hE : ∀ h' e, Heap.ExtBut it s.heap h' → s.heap.get? e = none → (∃ o, h'.get? e = some o ∧ o.cls = .type "StopIteration") → E (.ref e) { s with heap := h' }) :
    wpAny (model prog w) A (Builtin.SmallTypes.nextOf (.ref it)) Q E s := by
  obtain ⟨ol, hol, _, nl, hdl⟩ := hl
  have hT : s.TypeIs (.ref it) "list_iterator" := ⟨_, ho, rfl⟩
  unfold Builtin.SmallTypes.nextOf
  refine wpAny_bind (wpAny_callSpecial?_slot (name := Str.ofString "__next__") hT slot_listiter_next
    (wpAny_call_entry slot_listiter_next hT entry_listiter_next ?_ (args_listiter_next _)))
  show wpAny _ _ (field (.ref it) 0 >>= _) _ _ s
  refine wpAny_bind (wpAny_field ho rfl (x := .ref l) rfl ?_)
  show wpAny _ _ (if (Value.ref l == Value.none) = true then _ else _) _ _ s
  rw [if_neg (show ¬ ((Value.ref l == Value.none) = true) from Bool.false_ne_true)]
  show wpAny _ _ (field (.ref it) 1 >>= _) _ _ s
  refine wpAny_bind (wpAny_field ho rfl (x := .int i 0) rfl ?_)
  show wpAny _ _ (seqItems? (.ref l) >>= _) _ _ s
  refine wpAny_bind (wpAny_seqItems hol hdl ?_)
  simp only [Int.toNat_natCast, List.getElem?_toArray, hx]
  refine wpAny_bind (wpAny_rule (wpAny_bind (wpAny_setField_rec ho (by simp) fun h1 ho1 hs1 => ?_)))
  show wpAny _ _ (newExc (.type "StopIteration") [] >>= _) _ _ _
  refine wpAny_bind ?_
  simp only [newExc, newTuple]
  refine wpAny_bind (wpAny_newObj_type ?_ (by size_fits))
  refine wpAny_bind (m := firstArgMember _ _) (wpAny_of_eq (a := Value.none) (by first | rfl | (simp only [firstArgMember]; rfl)) ?_)
  refine wpAny_newObj_type ?_ (by size_fits)
  simp only [raiseNew]
  refine wpAny_bind (wpAny_handled ?_)
  first | rw [show A.in1.handled = none from hh] | rw [hh]
  refine wpAny_bind (wpAny_pure (wpAny_throw ?_))
  refine hE _ _ ((hs1.extBut.push _).push _) ?_ ⟨_, Heap.get?_push_size _ rfl, rfl⟩
  refine Heap.get?_none_of_le ?_
  show s.heap.objs.size ≤ (h1.push _).objs.size
  rw [Heap.size_push, hs1.1]; exact Nat.le_succ _

theorem nextOf_item {κ : SeqKind} {it l : Addr} {i : Nat} {vs : List Value} {x : Value} {Q : Value → Shared → Prop} (ho : s.heap.get? it = some { cls := .type κ.iter, dict := none, data := .fields #[.ref l, .int i 0], slots := #[] })
    (hl : κ.at s.heap l vs) (hx : vs[i]? = some x)
    (hQ : ∀ h', h'.get? it = some { cls := .type κ.iter, dict := none, data := .fields #[.ref l, .int ((i + 1 : Nat) : Int) 0], slots := #[] } → Heap.SameBut it s.heap h' → Q x { s with heap := h' }) :
    wpAny (model prog w) A (Builtin.SmallTypes.nextOf (.ref it)) Q E s := by
  cases κ with
  | tup => exact nextOf_tuple_item ho hl hx hQ
  | lst => exact nextOf_list_item ho hl hx hQ
theorem nextOf_end {κ : SeqKind} {it l : Addr} {i : Nat} {vs : List Value} {Q : Value → Shared → Prop} (hh : A.handled = none) (ho : s.heap.get? it = some { cls := .type κ.iter, dict := none, data := .fields #[.ref l, .int i 0], slots := #[] })
    (hl : κ.at s.heap l vs) (hx : vs[i]? = none)
    (hE : ∀ h' e, Heap.ExtBut it s.heap h' → s.heap.get? e = none → (∃ o, h'.get? e = some o ∧ o.cls = .type "StopIteration") → E (.ref e) { s with heap := h' }) :
    wpAny (model prog w) A (Builtin.SmallTypes.nextOf (.ref it)) Q E s := by
  cases κ with
  | tup => exact nextOf_tuple_end hh ho hl hx hE
  | lst => exact nextOf_list_end hh ho hl hx hE

theorem pyNext_item {κ : SeqKind} {it l : Addr} {i : Nat} {vs : List Value} {x : Value} {Q : Option Value → Shared → Prop} (ho : s.heap.get? it = some { cls := .type κ.iter, dict := none, data := .fields #[.ref l, .int i 0], slots := #[] })
    (hl : κ.at s.heap l vs) (hx : vs[i]? = some x)
    (hQ : ∀ h', h'.get? it = some { cls := .type κ.iter, dict := none, data := .fields #[.ref l, .int ((i + 1 : Nat) : Int) 0], slots := #[] } → Heap.SameBut it s.heap h' → Q (some x) { s with heap := h' }) :
    wpAny (model prog w) A (pyNext (.ref it)) Q E s := by
  have hT : s.TypeIs (.ref it) κ.iter := ⟨_, ho, rfl⟩
  unfold pyNext
  cases κ with
  | tup =>
    obtain ⟨ol, hol, _, nl, hdl⟩ := hl
    refine wpAny_bind (wpAny_attempt (wpAny_callSpecial?_slot (name := Str.ofString "__next__") hT F.slot_tuple_iterator_next
      (wpAny_call_entry F.slot_tuple_iterator_next hT F.entry_tuple_iterator_next ?_ (F.args_tuple_iterator_next_1 _))))
    show wpAny _ _ (field (.ref it) 0 >>= _) _ _ s
    refine wpAny_bind (wpAny_field ho rfl (x := .ref l) rfl ?_)
    show wpAny _ _ (if (Value.ref l == Value.none) = true then _ else _) _ _ s
    rw [if_neg (show ¬ ((Value.ref l == Value.none) = true) from Bool.false_ne_true)]
    show wpAny _ _ (field (.ref it) 1 >>= _) _ _ s
    refine wpAny_bind (wpAny_field ho rfl (x := .int i 0) rfl ?_)
    show wpAny _ _ (seqItems? (.ref l) >>= _) _ _ s
    refine wpAny_bind (wpAny_seqItems hol hdl ?_)
    simp only [Int.toNat_natCast, List.getElem?_toArray, hx]
    refine wpAny_bind (wpAny_setField_rec ho (by simp) fun h' ho' hs' => wpAny_pure ⟨x, rfl, wpAny_pure (hQ h' ?_ hs')⟩)
    rw [ho']; simp [rawInt, SeqKind.iter]
  | lst =>
    obtain ⟨ol, hol, _, nl, hdl⟩ := hl
    refine wpAny_bind (wpAny_attempt (wpAny_callSpecial?_slot (name := Str.ofString "__next__") hT slot_listiter_next
      (wpAny_call_entry slot_listiter_next hT entry_listiter_next ?_ (args_listiter_next _))))
    show wpAny _ _ (field (.ref it) 0 >>= _) _ _ s
    refine wpAny_bind (wpAny_field ho rfl (x := .ref l) rfl ?_)
    show wpAny _ _ (if (Value.ref l == Value.none) = true then _ else _) _ _ s
    rw [if_neg (show ¬ ((Value.ref l == Value.none) = true) from Bool.false_ne_true)]
    show wpAny _ _ (field (.ref it) 1 >>= _) _ _ s
    refine wpAny_bind (wpAny_field ho rfl (x := .int i 0) rfl ?_)
    show wpAny _ _ (seqItems? (.ref l) >>= _) _ _ s
    refine wpAny_bind (wpAny_seqItems hol hdl ?_)
    simp only [Int.toNat_natCast, List.getElem?_toArray, hx]
    refine wpAny_bind (wpAny_setField_rec ho (by simp) fun h' ho' hs' => wpAny_pure ⟨x, rfl, wpAny_pure (hQ h' ?_ hs')⟩)
    rw [ho']; simp [rawInt, SeqKind.iter]
theorem pyNext_end {κ : SeqKind} {it l : Addr} {i : Nat} {vs : List Value} {Q : Option Value → Shared → Prop} (hh : A.handled = none) (ho : s.heap.get? it = some { cls := .type κ.iter, dict := none, data := .fields #[.ref l, .int i 0], slots := #[] })
    (hl : κ.at s.heap l vs) (hx : vs[i]? = none) (hQ : ∀ h', Heap.ExtBut it s.heap h' → Q none { s with heap := h' }) :
    wpAny (model prog w) A (pyNext (.ref it)) Q E s := by
  cases κ with
  | tup => exact wpAny_pyNext_tuple_end hh ⟨_, ho, rfl, rfl⟩ hl (by simpa using hx) hQ
  | lst => exact wpAny_pyNext_list_end hh ⟨_, ho, rfl, rfl⟩ hl (by simpa using hx) hQ

theorem letGo_plain {target : Expr} {it : Addr} {v : Value} {o : Obj} {T : String} {Q : Unit → Shared → Prop} (ho : s.heap.get? it = some o) (hc : o.cls = .type T)
    (hT : (["enumerate", "zip", "dict_itemiterator", "dict_reverseitemiterator", "odict_iterator", "itertools.zip_longest", "itertools.pairwise"] : List String).contains T = false) (h : Q () s) :
    wpAny (model prog w) A (letOwnedTupleGo target (.ref it) v) Q E s := by
  have k : ∀ v, wpAny (model prog w) A (letOwnedTupleGo (.Tuple [] 0 ⟨0, 0, 0, 0⟩) (.ref it) v) Q E s := fun v => by
    cases v with
    | ref a =>
      show wpAny _ _ (load it >>= _) Q E s
      refine wpAny_bind (wpAny_load ho ?_)
      rw [hc]
      cases o.data <;> first
        | exact wpAny_pure h
        | (show wpAny _ _ (if ((_ : Bool) && _) = true then _ else _) Q E s; rw [hT, Bool.false_and]; exact wpAny_pure h)
    | _ => exact wpAny_pure h
  cases target <;> first | exact wpAny_pure h | exact k v

theorem Nexts.seq {κ : SeqKind} {gb : Heap} {target : Expr} {it l : Addr} {vs : List Value} (hh : A.handled = none) (hl : κ.at gb l vs) :
    Nexts prog w A gb target (.ref it) vs.length (fun i => [(it, iterP κ.iter l i)]) (fun i zz v => vs[i]? = some v) where
  item := fun {g₀ D s₀ g μ s i F G E E'} hi hs I hG => by
    obtain ⟨o, ho, hP⟩ := I.get (i := 0) (a := it) (P := iterP κ.iter l i) rfl
    rw [hP] at ho
    refine pyNext_item ho (κ.at_sub hl (hs.trans I.own.sub)) (List.getElem?_eq_getElem hi) fun h' ho' hs' => ?_
    have I' := I.chg (i := 0) (tk := s.toks) (P' := iterP κ.iter l (i + 1)) rfl (fun b o hb e => hs'.extBut b o hb e) ho' rfl
    refine letGo_plain (o := { cls := .type κ.iter, dict := none, data := .fields #[.ref l, .int ((i + 1 : Nat) : Int) 0], slots := #[] }) ho' rfl (by cases κ <;> decide) ?_
    exact hG _ g _ (Sub.refl g) (List.getElem?_eq_getElem hi) I'
  done := fun {g₀ D s₀ g μ s F G E E'} hs I hf hF => by
    obtain ⟨o, ho, hP⟩ := I.get (i := 0) (a := it) (P := iterP κ.iter l vs.length) rfl
    rw [hP] at ho
    refine pyNext_end hh ho (κ.at_sub hl (hs.trans I.own.sub)) (by simp) fun h' hs' => ?_
    exact hF _ (In.dropTo (tk := s.toks) I (hf _ List.mem_cons_self) fun b o hb e => hs' b o hb e)
  self := fun {g₀ D s₀ g μ s i Q E} I h => by
    obtain ⟨o, ho, hP⟩ := I.get (i := 0) (a := it) (P := iterP κ.iter l i) rfl
    rw [hP] at ho
    cases κ with
    | tup => exact wpAny_pyIter_tupleiter ⟨_, ho, rfl, rfl⟩ h
    | lst => exact wpAny_pyIter_listiter ⟨_, ho, rfl, rfl⟩ h
  addr := fun zz zz => rfl

theorem iter_tup (I : In g₀ D s₀ g μ s) {v : Value} {ds : List PyData} {Q : Value → Shared → Prop} (hv : Rd g v (.tuple ds))
    (h : ∀ it l vs s', v = .ref l → s₀.heap.get? it = none → SeqKind.at .tup g l vs → Rds g vs ds → In g₀ D s₀ g ([(it, iterP SeqKind.tup.iter l 0)] ++ μ) s' → Q (.ref it) s') : wpAny (model prog w) A (pyIter v) Q E s := by
  obtain ⟨a, vs, rfl, ht, hr⟩ := hv.tup_inv
  have ht' : g.IsTuple a vs.toArray := ht
  exact wpAny_pyIter_tuple (SeqKind.at_sub (κ := .tup) ht' I.own.sub) (h _ a vs _ rfl I.free ht' hr (I.new (P := iterP SeqKind.tup.iter a 0) rfl))
theorem iter_lst (I : In g₀ D s₀ g μ s) {v : Value} {ds : List PyData} {Q : Value → Shared → Prop} (hv : Rd g v (.list ds))
    (h : ∀ it l vs s', v = .ref l → s₀.heap.get? it = none → SeqKind.at .lst g l vs → Rds g vs ds → In g₀ D s₀ g ([(it, iterP SeqKind.lst.iter l 0)] ++ μ) s' → Q (.ref it) s') : wpAny (model prog w) A (pyIter v) Q E s := by
  obtain ⟨a, vs, rfl, ht, hr⟩ := hv.lst_inv
  have ht' : g.IsList a vs.toArray := ht
  exact wpAny_pyIter_list (SeqKind.at_sub (κ := .lst) ht' I.own.sub) (h _ a vs _ rfl I.free ht' hr (I.new (P := iterP SeqKind.lst.iter a 0) rfl))

/-! range(n) -/
noncomputable def rangeP (i n : Nat) (o : Obj) : Prop := o = { cls := .type "range_iterator", dict := none, data := .fields #[rawInt i, rawInt ((n : Int) - i), rawInt 1], slots := #[] }
theorem Nexts.range {gb : Heap} {target : Expr} {it : Addr} {n : Nat} {a : Nat} (hh : A.handled = none) :
    Nexts prog w A gb target (.ref it) (n - a) (fun i => [(it, rangeP (a + i) n)]) (fun i zz v => ∃ t, v = .int ((a + i : Nat) : Int) t) where
  item := fun {g₀ D s₀ g μ s i F G E E'} hi hs I hG => by
    obtain ⟨o, ho, hP⟩ := I.get (i := 0) (a := it) (P := rangeP (a + i) n) rfl
    rw [hP] at ho
    refine wpAny_pyNext_range_item (x := ((a + i : Nat) : Int)) (left := (n : Int) - ((a + i : Nat) : Int)) ho (by first | decide | exact lle ‹_› rfl | exact llt ‹_› rfl | exact lll ‹_› rfl | exact llm ‹_› rfl | omega) fun h' ho' hs' => ?_
    have e1 : (((a + i : Nat) : Int) + 1) = ((a + (i + 1) : Nat) : Int) := by omega
    have e2 : ((n : Int) - ((a + i : Nat) : Int) - 1) = (n : Int) - ((a + (i + 1) : Nat) : Int) := by omega
    have ho2 : h'.get? it = some { cls := .type "range_iterator", dict := none, data := .fields #[rawInt ((a + (i + 1) : Nat) : Int), rawInt ((n : Int) - ((a + (i + 1) : Nat) : Int)), rawInt 1], slots := #[] } := by
      have h9 : IsRangeIter h' it (((a + i : Nat) : Int) + 1) ((n : Int) - ((a + i : Nat) : Int) - 1) 1 := ho'
      rw [e2, e1] at h9
      exact h9
    have I' := I.chg (i := 0) (tk := s.toks + 1) (P' := rangeP (a + (i + 1)) n) rfl (fun b o hb e => hs'.extBut b o hb e) ho2 rfl
    refine letGo_plain (o := { cls := .type "range_iterator", dict := none, data := .fields #[rawInt ((a + (i + 1) : Nat) : Int), rawInt ((n : Int) - ((a + (i + 1) : Nat) : Int)), rawInt 1], slots := #[] }) ho2 rfl (by decide) ?_
    exact hG _ g _ (Sub.refl g) ⟨_, rfl⟩ I'
  done := fun {g₀ D s₀ g μ s F G E E'} hs I hf hF => by
    obtain ⟨o, ho, hP⟩ := I.get (i := 0) (a := it) (P := rangeP (a + (n - a)) n) rfl
    rw [hP] at ho
    refine wpAny_pyNext_range_end hh (x := ((a + (n - a) : Nat) : Int)) (left := (n : Int) - ((a + (n - a) : Nat) : Int)) ho (by first | decide | exact lle ‹_› rfl | exact llt ‹_› rfl | exact lll ‹_› rfl | exact llm ‹_› rfl | omega) fun h' hs' => ?_
    exact hF _ (In.dropTo (tk := s.toks) I (hf _ List.mem_cons_self) fun b o hb e => hs' b o hb e)
  self := fun {g₀ D s₀ g μ s i Q E} I h => by
    obtain ⟨o, ho, hP⟩ := I.get (i := 0) (a := it) (P := rangeP (a + i) n) rfl
    rw [hP] at ho
    exact wpAny_pyIter_rangeiter (x := ((a + i : Nat) : Int)) (left := (n : Int) - ((a + i : Nat) : Int)) ho h
  addr := fun zz zz => rfl
end
end Mine
end

section
open PySem PySem.W PyProof.Rows PySem.Calls
set_option tactic.hygienic false
set_option linter.all false
namespace Mine

section
variable {prog : Program} {w : World} {A : Around} {E : Value → Shared → Prop} {g₀ g : Heap} {D : List Addr} {s₀ s : Shared} {μ : List Res} {env : Env}

theorem for_rule {target iter : Expr} {body : List Stmt} {pos : Pos} {Q : Flow → Shared → Prop}
    (hs : ∀ x, foldedSetIterable iter env x = pure x)
    (h : wpAny (model prog w) A (eval iter env) (fun xv s₁ => wpAny (model prog w) A (pyIter xv) (fun it s₂ => ∃ gb n ρ V g μ, ∃ J : Nat → Heap → List Res → Prop, Nexts prog w A gb target it n ρ V ∧ Sub gb g ∧ (∀ p ∈ ρ 0, s₀.heap.get? p.1 = none) ∧
      J 0 g μ ∧ In g₀ D s₀ g (ρ 0 ++ μ) s₂ ∧
      (∀ i g' μ' s' v rest, i < n → Sub g g' → Sub gb g' → J i g' μ' → V i g' v → In g₀ D s₀ g' (μ' ++ rest) s' →
        wpAny (model prog w) A (assign target env v) (fun zz s₂ => wpAny (model prog w) A (execs body env) (fun f s₃ => match f with
          | .next | .cont => ∃ g'' μ'', Sub g' g'' ∧ In g₀ D s₀ g'' (μ'' ++ rest) s₃ ∧ J (i + 1) g'' μ''
          | .brk => Q .next s₃
          | .ret v => Q (.ret v) s₃) (fun zz zz => False) s₂) (fun zz zz => False) s') ∧
      (∀ i g' g'' μ', Sub g' g'' → J i g' μ' → J i g'' μ') ∧
      (∀ g' μ' s', Sub g g' → J n g' μ' → In g₀ D s₀ g' μ' s' → Q .next s')) E s₁) E s) :
    wpAny (model prog w) A (exec (.For target iter body [] pos) env) Q E s := by
  refine wpAny_For (wpAny_mono h (fun xv s₁ h₁ => wpAny_mono h₁ (fun it s₂ h₂ => ?_) fun zz zz e => e) fun zz zz e => e) hs
  obtain ⟨gb, n, ρ, V, g, μ, J, N, hb, hρ, h0, I, turn, hmono, fin⟩ := h₂
  have hρn : ∀ p ∈ ρ n, s₀.heap.get? p.1 = none := fun p hp => by
    have : p.1 ∈ (ρ 0).map (·.1) := N.addr n 0 ▸ List.mem_map_of_mem hp
    obtain ⟨q, hq, e⟩ := List.mem_map.mp this
    rw [← e]; exact hρ q hq
  refine codeAny_forLoop_any (fun k s' => ∃ i g' μ', i ≤ n ∧ k = n + 1 - i ∧ Sub g g' ∧ Sub gb g' ∧ J i g' μ' ∧ In g₀ D s₀ g' (ρ i ++ μ') s') ?_ (n + 1)
    ⟨0, g, μ, Nat.zero_le _, rfl, Sub.refl g, hb, h0, I⟩
  rintro k s' ⟨i, g', μ', hi, rfl, hgg, hgb, hJ, I'⟩
  by_cases hlt : i < n
  · refine wpAny_mono (N.item (E := fun zz zz => False) (E' := fun zz zz => False) (F := fun s₁ => False) (G := fun v s₁' => wpAny (model prog w) A (assign target env v) (fun zz s₂ => wpAny (model prog w) A (execs body env) (fun f s₃ => match f with
            | .next | .cont => ∃ m, m < n + 1 - i ∧ ∃ i g' μ', i ≤ n ∧ m = n + 1 - i ∧ Sub g g' ∧ Sub gb g' ∧ J i g' μ' ∧ In g₀ D s₀ g' (ρ i ++ μ') s₃
            | .brk => Q .next s₃
            | .ret v => Q (.ret v) s₃) (fun zz zz => False) s₂) (fun zz zz => False) s₁') hlt hgb I' fun v g'' s'' hs hV I'' => ?_) (fun r s₁ h₁ => ?_) fun zz zz e => e.elim
    · refine wpAny_mono (turn i g'' μ' s'' v (ρ (i + 1)) hlt (hgg.trans hs) (hgb.trans hs) (hmono _ _ _ _ hs hJ) hV (I''.perm List.perm_append_comm)) (fun zz s₂ h₂ => wpAny_mono h₂ (fun f s₃ h₃ => ?_) fun zz zz e => e) fun zz zz e => e
      cases f with
      | next =>
        obtain ⟨g3, μ3, hs3, I3, hJ3⟩ := h₃
        exact ⟨n + 1 - (i + 1), Nat.sub_lt_sub_left (Nat.lt_succ_of_lt hlt) (Nat.lt_succ_self i), i + 1, g3, μ3, hlt, rfl, (hgg.trans hs).trans hs3, (hgb.trans hs).trans hs3, hJ3, I3.perm List.perm_append_comm⟩
      | cont =>
        obtain ⟨g3, μ3, hs3, I3, hJ3⟩ := h₃
        exact ⟨n + 1 - (i + 1), Nat.sub_lt_sub_left (Nat.lt_succ_of_lt hlt) (Nat.lt_succ_self i), i + 1, g3, μ3, hlt, rfl, (hgg.trans hs).trans hs3, (hgb.trans hs).trans hs3, hJ3, I3.perm List.perm_append_comm⟩
      | brk => exact h₃
      | ret v => exact h₃
    · cases r with
      | none => exact h₁.elim
      | some v =>
        refine wpAny_mono h₁ (fun zz s₁' h₁' => wpAny_mono h₁' (fun zz s₂ h₂ => wpAny_mono h₂ (fun f s₃ h₃ => ?_) fun zz zz e => e.elim) fun zz zz e => e.elim) fun zz zz e => e.elim
        cases f <;> exact h₃
  · have hin : i = n := by omega
    subst hin
    refine wpAny_mono (N.done (E := fun zz zz => False) (E' := fun zz zz => False) (F := fun s₁ => Q .next s₁) (G := fun v s₁' => False) hgb I' hρn fun s'' I'' => fin g' μ' s'' hgg hJ I'') (fun r s₁ h₁ => ?_) fun zz zz e => e.elim
    cases r with
    | none => exact wpAny_execs_nil h₁
    | some v => exact wpAny_mono h₁ (fun zz zz e => e.elim) fun zz zz e => e.elim

/-! range -/
theorem b_range1 (I : In g₀ D s₀ g μ s) {n : Nat} {t : Tok} {Q : Value → Shared → Prop} (hn : n ≤ 2 ^ 20)
    (h : ∀ r s', In g₀ D s₀ g μ s' → IsRange s'.heap r 0 n 1 (s.toks) t (s.toks + 1) → Q (.ref r) s') : wpAny (model prog w) A (call (.type "range") [.int n t]) Q E s := by
  refine call_range_1 (h _ _ ((I.junk _).tok _) (IsRange.new ..))
theorem b_range2 (I : In g₀ D s₀ g μ s) {a n : Nat} {t u : Tok} {Q : Value → Shared → Prop} (hn : n ≤ 2 ^ 20)
    (h : ∀ r s', In g₀ D s₀ g μ s' → IsRange s'.heap r a n 1 u t (s.toks) → Q (.ref r) s') : wpAny (model prog w) A (call (.type "range") [.int a u, .int n t]) Q E s := by
  refine call_range_2 (h _ _ ((I.junk _).tok _) (IsRange.new ..))
theorem iter_range (I : In g₀ D s₀ g μ s) {r : Addr} {a n : Nat} {t u x : Tok} {Q : Value → Shared → Prop} (hr : IsRange s.heap r a n 1 t u x) (ha : a ≤ n) (hn : n ≤ 2 ^ 20)
    (h : ∀ it s', s₀.heap.get? it = none → In g₀ D s₀ g ([(it, rangeP (a + 0) n)] ++ μ) s' → Q (.ref it) s') : wpAny (model prog w) A (pyIter (.ref r)) Q E s := by
  refine wpAny_pyIter_range hr (small_one (by first | decide | exact lle ‹_› rfl | exact llt ‹_› rfl | exact lll ‹_› rfl | exact llm ‹_› rfl | omega) (by first | decide | exact lle ‹_› rfl | exact llt ‹_› rfl | exact lll ‹_› rfl | exact llm ‹_› rfl | omega) (by first | decide | exact lle ‹_› rfl | exact llt ‹_› rfl | exact lll ‹_› rfl | exact llm ‹_› rfl | omega) (by first | decide | exact lle ‹_› rfl | exact llt ‹_› rfl | exact lll ‹_› rfl | exact llm ‹_› rfl | omega)) (h _ _ I.free (I.new (P := rangeP (a + 0) n) ?_))
  have : Builtin.Range.rangeSize (a : Int) (n : Int) 1 = (n : Int) - (a : Int) := by rw [rangeSize_one]; split <;> omega
  show _ = _
  rw [this]; rfl

/-! zip -/
noncomputable def zipP (f0 : Value) (TI TO : Addr) (o : Obj) : Prop := o = { cls := .type "zip", dict := none, data := .fields #[f0, .bool false, .bool false, .ref TI, .ref TO], slots := #[] }
noncomputable def pairP (o : Obj) : Prop := ∃ a b, o = { cls := .type "tuple", data := .seq #[a, b] }

noncomputable def zipH (T : Addr) (b : Bool) (TI TO : Addr) (o : Obj) : Prop := o = { cls := .type "zip", dict := none, data := .fields #[rawInt T, .bool b, .bool false, .ref TI, .ref TO], slots := #[] }
section
variable {gb : Heap} {κ₁ κ₂ : SeqKind} {z TI TO i1 i2 l1 l2 : Addr} {xs ys : List Value} {i : Nat} {x y : Value}
theorem zip_item0 (I : In g₀ D s₀ g ((z, zipP .none TI TO) :: (TO, pairP) :: (i1, iterP κ₁.iter l1 i) :: (i2, iterP κ₂.iter l2 i) :: μ) s) (hs : Sub gb g) (hl1 : κ₁.at gb l1 xs) (hl2 : κ₂.at gb l2 ys)
    (hTI : gb.get? TI = some { cls := .type "tuple", data := .seq #[.ref i1, .ref i2] }) (hx : xs[i]? = some x) (hy : ys[i]? = some y) {Q : Option Value → Shared → Prop}
    (hG : ∀ g' s' T, Sub g g' → g'.get? T = some { cls := .type "tuple", data := .seq #[x, y] } → In g₀ D s₀ g' ((z, zipH T false TI TO) :: (TO, pairP) :: (i1, iterP κ₁.iter l1 (i + 1)) :: (i2, iterP κ₂.iter l2 (i + 1)) :: μ) s' → Q (some (.ref T)) s') :
    wpAny (model prog w) A (pyNext (.ref z)) Q E s := by
  obtain ⟨oz, hz, e⟩ := I.get (i := 0) (a := z) (P := zipP .none TI TO) rfl
  rw [e] at hz; clear e
  have hTIs := hs.trans I.own.sub _ _ hTI
  have hT : s.TypeIs (.ref z) "zip" := ⟨_, hz, rfl⟩
  unfold pyNext
  refine wpAny_bind (wpAny_attempt (wpAny_callSpecial?_slot (name := Str.ofString "__next__") hT F.slot_zip_next
    (wpAny_call_entry F.slot_zip_next hT F.entry_zip_next ?_ (F.args_zip_next_1 _))))
  show wpAny _ _ (field (.ref z) 2 >>= _) _ _ _
  refine wpAny_bind (wpAny_field hz rfl (x := .bool false) rfl ?_)
  show wpAny _ _ (field (.ref z) 3 >>= _) _ _ _
  refine wpAny_bind (wpAny_field hz rfl (x := .ref TI) rfl ?_)
  refine wpAny_bind (wpAny_seqItems hTIs rfl ?_)
  show wpAny _ _ (Builtin.SmallTypes.ownedTupleIsFree (.ref z) >>= _) _ _ _
  refine wpAny_bind ?_
  unfold Builtin.SmallTypes.ownedTupleIsFree
  refine wpAny_bind (wpAny_field hz rfl (x := .none) rfl (wpAny_pure ?_))
  simp only [if_true]
  refine wpAny_bind (wpAny_rule ?_)
  refine wpAny_bind (wpAny_field hz rfl (x := .ref TO) rfl ?_)
  refine wpAny_bind (wpAny_setField_rec hz (by simp) fun h₁ hz₁ hs₁ => ?_)
  have I1 := I.chg (i := 0) (tk := s.toks) (P' := zipP .ellipsis TI TO) rfl (fun b o hb e => hs₁.extBut b o hb e) hz₁ rfl
  clear hz I
  refine wpAny_bind ?_
  simp only [List.zipIdx_cons, List.zipIdx_nil, List.forIn_cons, List.forIn_nil]
  refine wpAny_bind (wpAny_bind (wpAny_onRaise ?_))
  show wpAny _ _ (Builtin.SmallTypes.nextOf (.ref i1) >>= _) _ _ _
  obtain ⟨o1, ho1, e⟩ := I1.get (i := 2) (a := i1) (P := iterP κ₁.iter l1 i) rfl
  rw [e] at ho1; clear e
  refine wpAny_bind (nextOf_item ho1 (SeqKind.at_sub hl1 (hs.trans I1.own.sub)) hx fun h₂ ho2 hs₂ => wpAny_pure ?_)
  have I2 := I1.chg (i := 2) (tk := s.toks) (P' := iterP κ₁.iter l1 (i + 1)) rfl (fun b o hb e => hs₂.extBut b o hb e) ho2 rfl
  clear ho1 ho2 I1
  obtain ⟨oT, hTO, ta, tb, e⟩ := I2.get (i := 1) (a := TO) (P := pairP) rfl
  rw [e] at hTO; clear e
  refine wpAny_bind (wpAny_seqItems hTO rfl ?_)
  refine wpAny_bind (wpAny_updateSeq_pair hTO fun h₃ hTO₃ hs₃ => ?_)
  have I3 := I2.chg (i := 1) (tk := s.toks) (P' := fun o => o = { cls := .type "tuple", data := .seq #[x, tb] }) rfl (fun b o hb e => hs₃.extBut b o hb e) hTO₃ (by simp)
  clear hTO hTO₃ I2
  refine wpAny_bind (wpAny_letGo (wpAny_pure ?_))
  refine wpAny_bind (wpAny_bind (wpAny_onRaise ?_))
  show wpAny _ _ (Builtin.SmallTypes.nextOf (.ref i2) >>= _) _ _ _
  obtain ⟨o2, ho2, e⟩ := I3.get (i := 3) (a := i2) (P := iterP κ₂.iter l2 i) rfl
  rw [e] at ho2; clear e
  refine wpAny_bind (nextOf_item ho2 (SeqKind.at_sub hl2 (hs.trans I3.own.sub)) hy fun h₄ ho4 hs₄ => wpAny_pure ?_)
  have I4 := I3.chg (i := 3) (tk := s.toks) (P' := iterP κ₂.iter l2 (i + 1)) rfl (fun b o hb e => hs₄.extBut b o hb e) ho4 rfl
  clear ho2 ho4 I3
  obtain ⟨oT, hTO, e⟩ := I4.get (i := 1) (a := TO) (P := fun o => o = { cls := .type "tuple", data := .seq #[x, tb] }) rfl
  rw [e] at hTO; clear e
  refine wpAny_bind (wpAny_seqItems hTO rfl ?_)
  refine wpAny_bind (wpAny_updateSeq_pair hTO fun h₅ hTO₅ hs₅ => ?_)
  have I5 := I4.chg (i := 1) (tk := s.toks) (P' := fun o => o = { cls := .type "tuple", data := .seq #[x, y] }) rfl (fun b o hb e => hs₅.extBut b o hb e) hTO₅ (by simp)
  clear hTO hTO₅ I4
  refine wpAny_bind (wpAny_letGo (wpAny_pure (wpAny_pure ?_)))
  obtain ⟨oT, hTO, e⟩ := I5.get (i := 1) (a := TO) (P := fun o => o = { cls := .type "tuple", data := .seq #[x, y] }) rfl
  rw [e] at hTO; clear e
  refine wpAny_bind (wpAny_seqItems hTO rfl ?_)
  refine wpAny_bind (wpAny_newTuple ?_)
  obtain ⟨g', hsg, hTg, I6⟩ := I5.newFrozen { cls := .type "tuple", data := .seq #[x, y] } rfl
  clear I5 hTO
  show wpAny _ _ (Builtin.SmallTypes.ownedTupleHandOut (.ref z) (.ref h₅.objs.size) >>= _) _ _ _
  replace hTg : g'.get? h₅.objs.size = some { cls := .type "tuple", data := .seq #[x, y] } := hTg
  generalize h₅.objs.size = T at hTg
  refine wpAny_bind ?_
  unfold Builtin.SmallTypes.ownedTupleHandOut
  obtain ⟨oz, hz, e⟩ := I6.get (i := 0) (a := z) (P := zipP .ellipsis TI TO) rfl
  rw [e] at hz; clear e
  refine wpAny_bind (wpAny_setField_rec hz (by simp) fun h₇ hz₇ hs₇ => ?_)
  have I7 := I6.chg (i := 0) (tk := s.toks) (P' := zipP (rawInt T) TI TO) rfl (fun b o hb e => hs₇.extBut b o hb e) hz₇ rfl
  clear I6 hz
  refine wpAny_setField_rec hz₇ (by simp) fun h₈ hz₈ hs₈ => ?_
  have I8 := I7.chg (i := 0) (tk := s.toks) (P' := zipH T false TI TO) rfl (fun b o hb e => hs₈.extBut b o hb e) hz₈ rfl
  clear I7 hz₇
  refine wpAny_pure ⟨_, rfl, ?_⟩
  refine wpAny_pure ?_
  have I10 : In g₀ D s₀ g' ((z, zipH T false TI TO) :: (TO, fun o => o = { cls := .type "tuple", data := .seq #[x, y] }) :: (i1, iterP κ₁.iter l1 (i + 1)) :: (i2, iterP κ₂.iter l2 (i + 1)) :: μ) { s with heap := h₈ } := I8
  obtain ⟨oT, hTO, e⟩ := I10.get (i := 1) (a := TO) (P := fun o => o = { cls := .type "tuple", data := .seq #[x, y] }) rfl
  have I11 := I10.chg (i := 1) (tk := s.toks) (P' := pairP) rfl (h' := h₈) (fun zz zz zz e => e) hTO ⟨_, _, e⟩
  exact hG g' _ T hsg hTg I11

theorem zip_end0 (hh : A.handled = none) (I : In g₀ D s₀ g ((z, zipP .none TI TO) :: (TO, pairP) :: (i1, iterP κ₁.iter l1 i) :: (i2, iterP κ₂.iter l2 i) :: μ) s) (hs : Sub gb g) (hl1 : κ₁.at gb l1 xs)
    (hTI : gb.get? TI = some { cls := .type "tuple", data := .seq #[.ref i1, .ref i2] }) (hx : xs[i]? = none) (hfz : s₀.heap.get? z = none) (hf1 : s₀.heap.get? i1 = none) {Q : Option Value → Shared → Prop}
    (hG : ∀ s', In g₀ D s₀ g μ s' → Q none s') :
    wpAny (model prog w) A (pyNext (.ref z)) Q E s := by
  obtain ⟨oz, hz, e⟩ := I.get (i := 0) (a := z) (P := zipP .none TI TO) rfl
  rw [e] at hz; clear e
  have hTIs := hs.trans I.own.sub _ _ hTI
  have hTy : s.TypeIs (.ref z) "zip" := ⟨_, hz, rfl⟩
  unfold pyNext
  refine wpAny_bind (wpAny_attempt (wpAny_callSpecial?_slot (name := Str.ofString "__next__") hTy F.slot_zip_next
    (wpAny_call_entry F.slot_zip_next hTy F.entry_zip_next ?_ (F.args_zip_next_1 _))))
  show wpAny _ _ (field (.ref z) 2 >>= _) _ _ _
  refine wpAny_bind (wpAny_field hz rfl (x := .bool false) rfl ?_)
  show wpAny _ _ (field (.ref z) 3 >>= _) _ _ _
  refine wpAny_bind (wpAny_field hz rfl (x := .ref TI) rfl ?_)
  refine wpAny_bind (wpAny_seqItems hTIs rfl ?_)
  show wpAny _ _ (Builtin.SmallTypes.ownedTupleIsFree (.ref z) >>= _) _ _ _
  refine wpAny_bind ?_
  unfold Builtin.SmallTypes.ownedTupleIsFree
  refine wpAny_bind (wpAny_field hz rfl (x := .none) rfl (wpAny_pure ?_))
  simp only [if_true]
  refine wpAny_bind (wpAny_rule ?_)
  refine wpAny_bind (wpAny_field hz rfl (x := .ref TO) rfl ?_)
  refine wpAny_bind (wpAny_setField_rec hz (by simp) fun h₁ hz₁ hs₁ => ?_)
  have I1 : In g₀ D s₀ g ((z, zipP .ellipsis TI TO) :: (TO, pairP) :: (i1, iterP κ₁.iter l1 i) :: (i2, iterP κ₂.iter l2 i) :: μ) { s with heap := h₁ } := I.chg (i := 0) (tk := s.toks) (P' := zipP .ellipsis TI TO) rfl (fun b o hb e => hs₁.extBut b o hb e) hz₁ rfl
  clear hz I
  refine wpAny_bind ?_
  simp only [List.zipIdx_cons, List.zipIdx_nil, List.forIn_cons, List.forIn_nil]
  refine wpAny_bind (wpAny_bind (wpAny_onRaise ?_))
  show wpAny _ _ (Builtin.SmallTypes.nextOf (.ref i1) >>= _) _ _ _
  obtain ⟨o1, ho1, e⟩ := I1.get (i := 2) (a := i1) (P := iterP κ₁.iter l1 i) rfl
  rw [e] at ho1; clear e
  refine wpAny_bind (nextOf_end (by first | exact hh | (show A.in1.handled = none; exact hh)) ho1 (SeqKind.at_sub hl1 (hs.trans I1.own.sub)) hx fun h₂ e hs₂ hne he => ?_)
  have I2 := In.dropTo (tk := s.toks) (I1.perm (ν := (i1, iterP κ₁.iter l1 i) :: (z, zipP .ellipsis TI TO) :: (TO, pairP) :: (i2, iterP κ₂.iter l2 i) :: μ) (by
    refine List.Perm.trans (List.Perm.cons _ (List.Perm.swap _ _ _)) (List.Perm.swap _ _ _))) hf1 (h' := h₂) fun b o hb e => hs₂ b o hb e
  obtain ⟨oz, hz, e2⟩ := I2.get (i := 0) (a := z) (P := zipP .ellipsis TI TO) rfl
  rw [e2] at hz; clear e2
  have hez : e ≠ z := fun x => by subst x; rw [show h₁.get? e = none from hne] at hz₁; cases hz₁
  obtain ⟨oe, hoe, hce⟩ := he
  refine wpAny_setField_rec hz (by simp) fun h₃ zz hs₃ => ?_
  refine wpAny_bind (wpAny_isInstance (T := "StopIteration") (b := true) ⟨oe, hs₃.extBut _ _ hez hoe, hce⟩ isSubtype_stop ?_)
  have I3 := In.dropTo (tk := s.toks) I2 hfz (h' := h₃) fun b o hb e => hs₃.extBut b o hb e
  exact wpAny_pure (hG _ (I3.sub (List.Sublist.cons _ (List.Sublist.cons _ (List.Sublist.refl _)))))
end

theorem Nexts.zip {κ₁ κ₂ : SeqKind} {gb : Heap} {elts : List Expr} {ek : Nat} {ep : Pos} {z TI TO i1 i2 l1 l2 : Addr} {xs ys : List Value} (hh : A.handled = none) (hl1 : κ₁.at gb l1 xs) (hl2 : κ₂.at gb l2 ys) (hle : xs.length ≤ ys.length)
    (hTI : gb.get? TI = some { cls := .type "tuple", data := .seq #[.ref i1, .ref i2] }) :
    Nexts prog w A gb (.Tuple elts ek ep) (.ref z) (min xs.length ys.length) (fun i => [(z, zipP .none TI TO), (TO, pairP), (i1, iterP κ₁.iter l1 i), (i2, iterP κ₂.iter l2 i)])
      (fun i g v => ∃ x y T, v = .ref T ∧ xs[i]? = some x ∧ ys[i]? = some y ∧ g.get? T = some { cls := .type "tuple", data := .seq #[x, y] }) where
  item := fun {g₀ D s₀ g μ s i Ff G E E'} hi hs I hG => by
    have hx := List.getElem?_eq_getElem (Nat.lt_of_lt_of_le hi (Nat.min_le_left _ _))
    have hy := List.getElem?_eq_getElem (Nat.lt_of_lt_of_le hi (Nat.min_le_right _ _))
    refine zip_item0 I hs hl1 hl2 hTI hx hy fun g' s' T hsg hTg I8 => ?_
    obtain ⟨oz, hz₈, e⟩ := I8.get (i := 0) (a := z) (P := zipH T false TI TO) rfl
    rw [e] at hz₈; clear e
    exact wpAny_letOwnedTupleGo_zip (z := z) (TI := TI) (TO := TO) (T := T) hz₈ fun h₉ hz₉ hs₉ =>
      hG _ g' _ hsg ⟨_, _, T, rfl, hx, hy, hTg⟩ (I8.chg (i := 0) (tk := s'.toks) (P' := zipP .none TI TO) rfl (fun b o hb e => hs₉.extBut b o hb e) hz₉ rfl)
  done := fun {g₀ D s₀ g μ s Ff G E E'} hs I hf hF =>
    zip_end0 hh I hs hl1 hTI (List.getElem?_eq_none_iff.mpr (Nat.le_of_eq (Nat.min_eq_left hle).symm)) (hf _ (.head _)) (hf _ (.tail _ (.tail _ (.head _)))) hF
  self := fun {g₀ D s₀ g μ s i Q E} I h => by
    obtain ⟨oz, hz, e⟩ := I.get (i := 0) (a := z) (P := zipP .none TI TO) rfl
    rw [e] at hz
    exact wpAny_pyIter_zip hz h
  addr := fun zz zz => rfl
end
end Mine
end

section
open PySem PySem.W PyProof.Rows PySem.Calls
set_option tactic.hygienic false
set_option linter.all false
namespace Mine
open AutoSeq1 (wpAny_loadPart')

theorem meets_zip_tup (l1 l2 : Addr) (xs ys : Array Value) :
    Meets (Builtin.«zip.__new__» ⟨[.type "zip", .ref l1, .ref l2], []⟩) (fun zz R s => s.heap.IsTuple l1 xs ∧ s.heap.IsTuple l2 ys ∧
      R (.ok (.ret (.ref ((((s.heap.push { cls := .type "tuple_iterator", data := .fields #[.ref l1, .int 0 0] }).push { cls := .type "tuple_iterator", data := .fields #[.ref l2, .int 0 0] }).push { cls := .type "tuple", data := .seq #[.ref s.heap.objs.size, .ref (s.heap.push { cls := .type "tuple_iterator", data := .fields #[.ref l1, .int 0 0] }).objs.size] }).push { cls := .type "tuple", data := .seq #[.none, .none] }).objs.size)))
        { s with heap := ((((s.heap.push { cls := .type "tuple_iterator", data := .fields #[.ref l1, .int 0 0] }).push { cls := .type "tuple_iterator", data := .fields #[.ref l2, .int 0 0] }).push { cls := .type "tuple", data := .seq #[.ref s.heap.objs.size, .ref (s.heap.push { cls := .type "tuple_iterator", data := .fields #[.ref l1, .int 0 0] }).objs.size] }).push { cls := .type "tuple", data := .seq #[.none, .none] }).push { cls := .type "zip", data := .fields #[.none, .bool false, .bool false, .ref ((s.heap.push { cls := .type "tuple_iterator", data := .fields #[.ref l1, .int 0 0] }).push { cls := .type "tuple_iterator", data := .fields #[.ref l2, .int 0 0] }).objs.size,
            .ref (((s.heap.push { cls := .type "tuple_iterator", data := .fields #[.ref l1, .int 0 0] }).push { cls := .type "tuple_iterator", data := .fields #[.ref l2, .int 0 0] }).push { cls := .type "tuple", data := .seq #[.ref s.heap.objs.size, .ref (s.heap.push { cls := .type "tuple_iterator", data := .fields #[.ref l1, .int 0 0] }).objs.size] }).objs.size] } }) :=
  .of_wp fun prog w A R s h => by
    obtain ⟨hp, g, d, tk, os⟩ := s; obtain ⟨hl1, hl2, h⟩ := h
    have hsub := sub_zip
    have hL1 : Heap.IsTuple (Shared.heap ⟨hp, g, d, tk, os⟩) l1 xs := hl1
    have hL2 : Heap.IsTuple (Shared.heap ⟨hp.push { cls := .type "tuple_iterator", data := .fields #[.ref l1, .int 0 0] }, g, d, tk, os⟩) l2 ys := Heap.IsTuple.push hl2 _
    wp_walk using wpAny_pyIter_tuple hL1, wpAny_pyIter_tuple hL2
    exact ⟨_, rfl, h⟩

theorem called_any {prog : Program} {w : World} {A : Around} {E : Value → Shared → Prop} {s : Shared} {c : Value} {Q : Bool → Shared → Prop} (h : ∀ b, Q b s) : wpAny (model prog w) A (Builtin.SmallTypes.calledThroughType c) Q E s := by
  unfold Builtin.SmallTypes.calledThroughType
  exact wpAny_bind (wpAny_stack_any fun st => wpAny_pure (h _))
theorem meets_enum_tup (l : Addr) (items : Array Value) :
    Meets (Builtin.«enumerate.__new__» ⟨[.type "enumerate", .ref l], []⟩) (fun zz R s => s.heap.IsTuple l items ∧
      R (.ok (.ret (.ref (s.heap.push { cls := .type "tuple_iterator", data := .fields #[.ref l, .int 0 0] }).objs.size)))
        { s with heap := (s.heap.push { cls := .type "tuple_iterator", data := .fields #[.ref l, .int 0 0] }).push { cls := .type "enumerate", data := .fields #[.none, .bool false, .ref s.heap.objs.size, rawInt 0, .none, .none] } }) :=
  .of_wp fun prog w A R s h => by
    obtain ⟨hp, g, d, tk, os⟩ := s; obtain ⟨hl, h⟩ := h
    have hsub := sub_enumerate
    have hL : Heap.IsTuple (Shared.heap ⟨hp, g, d, tk, os⟩) l items := hl
    wp_walk using called_any, wpAny_pyIter_tuple hL
    intro b
    cases b
    all_goals
      wp_walk using wpAny_pyIter_tuple hL
      exact ⟨_, rfl, h⟩

noncomputable def enumP (f0 old : Value) (it : Addr) (i : Nat) (o : Obj) : Prop := o = { cls := .type "enumerate", dict := none, data := .fields #[f0, .bool false, .ref it, rawInt i, .none, old], slots := #[] }
noncomputable def enumQ (it : Addr) (i : Nat) (o : Obj) : Prop := ∃ old, enumP .none old it i o

section
variable {prog : Program} {w : World} {A : Around} {E : Value → Shared → Prop} {g₀ g : Heap} {D : List Addr} {s₀ s : Shared} {μ : List Res} {env : Env}

theorem b_zip_tup (I : In g₀ D s₀ g μ s) {u v : Value} {ds es : List PyData} {Q : Value → Shared → Prop} (hu : Rd g u (.tuple ds)) (hv : Rd g v (.tuple es))
    (h : ∀ g' s' z TI TO i1 i2 l1 l2 xs ys, Sub g g' → u = .ref l1 → v = .ref l2 → Rds g' xs ds → Rds g' ys es → SeqKind.at .tup g' l1 xs → SeqKind.at .tup g' l2 ys → g'.get? TI = some { cls := .type "tuple", data := .seq #[.ref i1, .ref i2] } →
      s₀.heap.get? z = none → s₀.heap.get? TO = none → s₀.heap.get? i1 = none → s₀.heap.get? i2 = none →
      In g₀ D s₀ g' ((z, zipP .none TI TO) :: (TO, pairP) :: (i1, iterP SeqKind.tup.iter l1 0) :: (i2, iterP SeqKind.tup.iter l2 0) :: μ) s' → Q (.ref z) s') :
    wpAny (model prog w) A (call (.type "zip") [u, v]) Q E s := by
  obtain ⟨l1, xs, rfl, ht1, hr1⟩ := hu.tup_inv
  obtain ⟨l2, ys, rfl, ht2, hr2⟩ := hv.tup_inv
  have t1 : g.IsTuple l1 xs.toArray := ht1
  have t2 : g.IsTuple l2 ys.toArray := ht2
  refine callType_new PySem.F.called_zip (by decide) (PySem.F.typeCall_zip_2 _ _) (PySem.F.newCall_zip_2 _ _) (fun obj => PySem.F.args_object_init_3 obj _ _) PySem.F.entry_zip_new
    (meets_zip_tup l1 l2 xs.toArray ys.toArray) ⟨SeqKind.at_sub (κ := .tup) t1 I.own.sub, SeqKind.at_sub (κ := .tup) t2 I.own.sub, ?_⟩
  have I1 := I.new (o := { cls := .type "tuple_iterator", data := .fields #[.ref l1, .int 0 0] }) (P := iterP SeqKind.tup.iter l1 0) rfl
  have f1 := I.free
  have I2 := I1.new (o := { cls := .type "tuple_iterator", data := .fields #[.ref l2, .int 0 0] }) (P := iterP SeqKind.tup.iter l2 0) rfl
  have f2 := I1.free
  have f3 := I2.free
  obtain ⟨g', hsg, hTI, I3⟩ := I2.newFrozen { cls := .type "tuple", data := .seq #[.ref s.heap.objs.size, .ref (s.heap.push { cls := .type "tuple_iterator", data := .fields #[.ref l1, .int 0 0] }).objs.size] } rfl
  have I4 := I3.new (o := { cls := .type "tuple", data := .seq #[.none, .none] }) (P := pairP) ⟨_, _, rfl⟩
  have f4 := I3.free
  have I5 := I4.new (o := { cls := .type "zip", data := .fields #[.none, .bool false, .bool false, .ref ((s.heap.push { cls := .type "tuple_iterator", data := .fields #[.ref l1, .int 0 0] }).push { cls := .type "tuple_iterator", data := .fields #[.ref l2, .int 0 0] }).objs.size,
            .ref (((s.heap.push { cls := .type "tuple_iterator", data := .fields #[.ref l1, .int 0 0] }).push { cls := .type "tuple_iterator", data := .fields #[.ref l2, .int 0 0] }).push { cls := .type "tuple", data := .seq #[.ref s.heap.objs.size, .ref (s.heap.push { cls := .type "tuple_iterator", data := .fields #[.ref l1, .int 0 0] }).objs.size] }).objs.size] })
    (P := zipP .none ((s.heap.push { cls := .type "tuple_iterator", data := .fields #[.ref l1, .int 0 0] }).push { cls := .type "tuple_iterator", data := .fields #[.ref l2, .int 0 0] }).objs.size (((s.heap.push { cls := .type "tuple_iterator", data := .fields #[.ref l1, .int 0 0] }).push { cls := .type "tuple_iterator", data := .fields #[.ref l2, .int 0 0] }).push { cls := .type "tuple", data := .seq #[.ref s.heap.objs.size, .ref (s.heap.push { cls := .type "tuple_iterator", data := .fields #[.ref l1, .int 0 0] }).objs.size] }).objs.size) rfl
  have f5 := I4.free
  refine ⟨⟨_, Heap.get?_push_size _ rfl, rfl⟩, h g' _ _ _ _ _ _ l1 l2 xs ys hsg rfl rfl (hr1.mono hsg) (hr2.mono hsg) (SeqKind.at_sub (κ := .tup) t1 hsg) (SeqKind.at_sub (κ := .tup) t2 hsg) hTI f5 f4 f1 f2 (I5.perm ?_)⟩
  exact List.Perm.cons _ (List.Perm.cons _ (List.Perm.swap _ _ _))

theorem b_zip_lst (I : In g₀ D s₀ g μ s) {l1 l2 : Addr} {xs ys : List Value} {Q : Value → Shared → Prop} (t1 : g.IsList l1 xs.toArray) (t2 : g.IsList l2 ys.toArray)
    (h : ∀ g' s' z TI TO i1 i2, Sub g g' → g'.get? TI = some { cls := .type "tuple", data := .seq #[.ref i1, .ref i2] } →
      s₀.heap.get? z = none → s₀.heap.get? TO = none → s₀.heap.get? i1 = none → s₀.heap.get? i2 = none →
      In g₀ D s₀ g' ((z, zipP .none TI TO) :: (TO, pairP) :: (i1, iterP SeqKind.lst.iter l1 0) :: (i2, iterP SeqKind.lst.iter l2 0) :: μ) s' → Q (.ref z) s') :
    wpAny (model prog w) A (call (.type "zip") [.ref l1, .ref l2]) Q E s := by
  refine callType_new PySem.F.called_zip (by decide) (PySem.F.typeCall_zip_2 _ _) (PySem.F.newCall_zip_2 _ _) (fun obj => PySem.F.args_object_init_3 obj _ _) PySem.F.entry_zip_new
    (meets_zip_new l1 l2 xs.toArray ys.toArray) ⟨SeqKind.at_sub (κ := .lst) t1 I.own.sub, SeqKind.at_sub (κ := .lst) t2 I.own.sub, ?_⟩
  have I1 := I.new (o := { cls := .type "list_iterator", data := .fields #[.ref l1, .int 0 0] }) (P := iterP SeqKind.lst.iter l1 0) rfl
  have f1 := I.free
  have I2 := I1.new (o := { cls := .type "list_iterator", data := .fields #[.ref l2, .int 0 0] }) (P := iterP SeqKind.lst.iter l2 0) rfl
  have f2 := I1.free
  obtain ⟨g', hsg, hTI, I3⟩ := I2.newFrozen { cls := .type "tuple", data := .seq #[.ref s.heap.objs.size, .ref (s.heap.push { cls := .type "list_iterator", data := .fields #[.ref l1, .int 0 0] }).objs.size] } rfl
  have I4 := I3.new (o := { cls := .type "tuple", data := .seq #[.none, .none] }) (P := pairP) ⟨_, _, rfl⟩
  have f4 := I3.free
  have I5 := I4.new (o := { cls := .type "zip", data := .fields #[.none, .bool false, .bool false, .ref (zipH2 s.heap l1 l2).objs.size, .ref (zipH3 s.heap l1 l2).objs.size] })
    (P := zipP .none (zipH2 s.heap l1 l2).objs.size (zipH3 s.heap l1 l2).objs.size) rfl
  have f5 := I4.free
  refine ⟨⟨_, Heap.get?_push_size _ rfl, rfl⟩, h g' _ _ _ _ _ _ hsg hTI f5 f4 f1 f2 (I5.perm ?_)⟩
  exact List.Perm.cons _ (List.Perm.cons _ (List.Perm.swap _ _ _))

theorem b_enum (κ : SeqKind) (I : In g₀ D s₀ g μ s) {l : Addr} {xs : List Value} {Q : Value → Shared → Prop} (t : κ.at g l xs)
    (h : ∀ s' e it, s₀.heap.get? e = none → s₀.heap.get? it = none → In g₀ D s₀ g ((e, enumQ it 0) :: (it, iterP κ.iter l 0) :: μ) s' → Q (.ref e) s') :
    wpAny (model prog w) A (call (.type "enumerate") [.ref l]) Q E s := by
  have I1 := I.new (o := { cls := .type κ.iter, data := .fields #[.ref l, .int 0 0] }) (P := iterP κ.iter l 0) rfl
  have f1 := I.free
  have I2 := I1.new (o := { cls := .type "enumerate", data := .fields #[.none, .bool false, .ref s.heap.objs.size, rawInt 0, .none, .none] }) (P := enumQ s.heap.objs.size 0) ⟨.none, rfl⟩
  have f2 := I1.free
  cases κ with
  | tup =>
    exact callType_new PySem.F.called_enumerate (by decide) (PySem.F.typeCall_enumerate_1 _) (PySem.F.newCall_enumerate_1 _) (fun obj => PySem.F.args_object_init_2 obj _) PySem.F.entry_enumerate_new
      (meets_enum_tup l xs.toArray) ⟨SeqKind.at_sub (κ := .tup) t I.own.sub, ⟨_, Heap.get?_push_size _ rfl, rfl⟩, h _ _ _ f2 f1 I2⟩
  | lst =>
    obtain ⟨⟨oc, od, odat, osl⟩, hol, hcl, nl, hdl⟩ := (SeqKind.at_sub (κ := .lst) t I.own.sub : s.heap.IsList l xs.toArray)
    cases hcl; cases hdl
    exact callType_new PySem.F.called_enumerate (by decide) (PySem.F.typeCall_enumerate_1 _) (PySem.F.newCall_enumerate_1 _) (fun obj => PySem.F.args_object_init_2 obj _) PySem.F.entry_enumerate_new
      (PySem.meets_enumerate_newL l xs.toArray nl od osl) ⟨hol, ⟨_, Heap.get?_push_size _ rfl, rfl⟩, h _ _ _ f2 f1 I2⟩

theorem Nexts.enum {κ : SeqKind} {gb : Heap} {elts : List Expr} {ek : Nat} {ep : Pos} {e it l : Addr} {xs : List Value} (hh : A.handled = none) (hl : κ.at gb l xs) :
    Nexts prog w A gb (.Tuple elts ek ep) (.ref e) xs.length (fun i => [(e, enumQ it i), (it, iterP κ.iter l i)])
      (fun i g v => ∃ x T t, v = .ref T ∧ xs[i]? = some x ∧ g.get? T = some { cls := .type "tuple", data := .seq #[.int i t, x] }) where
  item := fun {g₀ D s₀ g μ s i Ff G E E'} hi hs I hG => by
    obtain ⟨oz, hz, old, e0⟩ := I.get (i := 0) (a := e) (P := enumQ it i) rfl
    rw [e0] at hz; clear e0
    have hT : s.TypeIs (.ref e) "enumerate" := ⟨_, hz, rfl⟩
    unfold pyNext
    refine wpAny_bind (wpAny_attempt (wpAny_callSpecial?_slot (name := Str.ofString "__next__") hT PySem.F.slot_enumerate_next
      (wpAny_call_entry PySem.F.slot_enumerate_next hT PySem.F.entry_enumerate_next ?_ (PySem.F.args_enumerate_next_1 _))))
    show wpAny _ _ (field (.ref e) 2 >>= _) _ _ _
    refine wpAny_bind (wpAny_field hz rfl (x := .ref it) rfl ?_)
    obtain ⟨o1, ho1, e1⟩ := I.get (i := 1) (a := it) (P := iterP κ.iter l i) rfl
    rw [e1] at ho1; clear e1
    refine wpAny_bind (nextOf_item ho1 (SeqKind.at_sub hl (hs.trans I.own.sub)) (List.getElem?_eq_getElem hi) fun h₂ ho2 hs₂ => ?_)
    have I2 := I.chg (i := 1) (tk := s.toks) (P' := iterP κ.iter l (i + 1)) rfl (fun b o hb e => hs₂.extBut b o hb e) ho2 rfl
    clear ho1 ho2 I hz
    obtain ⟨oz, hz, old, e0⟩ := I2.get (i := 0) (a := e) (P := enumQ it i) rfl
    rw [e0] at hz; clear e0
    show wpAny _ _ (field (.ref e) 3 >>= _) _ _ _
    refine wpAny_bind (wpAny_field hz rfl (x := rawInt i) rfl ?_)
    show wpAny _ _ (field (.ref e) 4 >>= _) _ _ _
    refine wpAny_bind (wpAny_field hz rfl (x := .none) rfl ?_)
    show wpAny _ _ (mkInt i >>= _) _ _ _
    refine wpAny_bind (wpAny_mkInt ?_)
    have I3 := I2.tok (s.toks + 1)
    show wpAny _ _ (setField (.ref e) 3 (rawInt ((i : Int) + 1)) >>= _) _ _ _
    refine wpAny_bind (wpAny_setField_rec hz (by simp) fun h₃ hz₃ hs₃ => ?_)
    have I4 := I3.chg (i := 0) (tk := s.toks + 1) (P' := enumP .none old it (i + 1)) rfl (fun b o hb e => hs₃.extBut b o hb e) hz₃ (by simp [enumP, rawInt])
    clear I3 I2 hz
    show wpAny _ _ (setField (.ref e) 4 .none >>= _) _ _ _
    refine wpAny_bind (wpAny_setField_rec hz₃ (by simp) fun h₄ hz₄ hs₄ => ?_)
    have I5 := I4.chg (i := 0) (tk := s.toks + 1) (P' := enumP .none old it (i + 1)) rfl (fun b o hb e => hs₄.extBut b o hb e) hz₄ (by simp [enumP, rawInt])
    clear I4 hz₃ hz₄
    show wpAny _ _ (newTuple [.int i s.toks, xs[i]] >>= _) _ _ _
    refine wpAny_bind (wpAny_newTuple ?_)
    obtain ⟨g', hsg, hTg, I6⟩ := I5.newFrozen { cls := .type "tuple", data := .seq #[.int i s.toks, xs[i]] } rfl
    clear I5
    replace hTg : g'.get? h₄.objs.size = some { cls := .type "tuple", data := .seq #[.int i s.toks, xs[i]] } := hTg
    show wpAny _ _ (Builtin.SmallTypes.ownedTupleIsFree (.ref e) >>= _) _ _ _
    obtain ⟨oz, hz, e0⟩ := I6.get (i := 0) (a := e) (P := enumP .none old it (i + 1)) rfl
    rw [e0] at hz; clear e0
    refine wpAny_bind ?_
    unfold Builtin.SmallTypes.ownedTupleIsFree
    refine wpAny_bind (wpAny_field hz rfl (x := .none) rfl (wpAny_pure ?_))
    simp only [if_true]
    refine wpAny_bind (wpAny_rule ?_)
    refine wpAny_bind (wpAny_field hz rfl (x := old) rfl ?_)
    refine wpAny_bind (wpAny_setField_rec hz (by simp) fun h₅ hz₅ hs₅ => ?_)
    have I7 := I6.chg (i := 0) (tk := s.toks + 1) (P' := enumP .none xs[i] it (i + 1)) rfl (fun b o hb e => hs₅.extBut b o hb e) hz₅ rfl
    clear I6 hz
    show wpAny _ _ (Builtin.SmallTypes.ownedTupleHandOut (.ref e) (.ref h₄.objs.size) >>= _) _ _ _
    generalize h₄.objs.size = T at hTg
    refine wpAny_bind ?_
    unfold Builtin.SmallTypes.ownedTupleHandOut
    refine wpAny_bind (wpAny_setField_rec hz₅ (by simp) fun h₆ hz₆ hs₆ => ?_)
    have I8 := I7.chg (i := 0) (tk := s.toks + 1) (P' := enumP (rawInt T) xs[i] it (i + 1)) rfl (fun b o hb e => hs₆.extBut b o hb e) hz₆ rfl
    clear I7 hz₅
    refine wpAny_setField_rec hz₆ (by simp) fun h₇ hz₇ hs₇ => ?_
    have I9 := I8.chg (i := 0) (tk := s.toks + 1) (P' := enumP (rawInt T) xs[i] it (i + 1)) rfl (fun b o hb e => hs₇.extBut b o hb e) hz₇ rfl
    clear I8 hz₆
    refine wpAny_bind (wpAny_letGo (wpAny_pure ⟨_, rfl, ?_⟩))
    refine wpAny_pure ?_
    refine wpAny_letOwnedTupleGo_enum (e := e) (it := it) (a := T) (i := ((i + 1 : Nat) : Int)) (item := xs[i]) hz₇ fun h₉ hz₉ hs₉ => ?_
    have I10 := I9.chg (i := 0) (tk := s.toks + 1) (P' := enumQ it (i + 1)) rfl (fun b o hb e => hs₉.extBut b o hb e) hz₉ ⟨xs[i], rfl⟩
    exact hG _ g' _ hsg ⟨_, T, _, rfl, List.getElem?_eq_getElem hi, hTg⟩ I10
  done := fun {g₀ D s₀ g μ s Ff G E E'} hs I hf hF => by
    obtain ⟨oz, hz, old, e0⟩ := I.get (i := 0) (a := e) (P := enumQ it xs.length) rfl
    rw [e0] at hz; clear e0
    have hT : s.TypeIs (.ref e) "enumerate" := ⟨_, hz, rfl⟩
    unfold pyNext
    refine wpAny_bind (wpAny_attempt (wpAny_callSpecial?_slot (name := Str.ofString "__next__") hT PySem.F.slot_enumerate_next
      (wpAny_call_entry PySem.F.slot_enumerate_next hT PySem.F.entry_enumerate_next ?_ (PySem.F.args_enumerate_next_1 _))))
    show wpAny _ _ (field (.ref e) 2 >>= _) _ _ _
    refine wpAny_bind (wpAny_field hz rfl (x := .ref it) rfl ?_)
    obtain ⟨o1, ho1, e1⟩ := I.get (i := 1) (a := it) (P := iterP κ.iter l xs.length) rfl
    rw [e1] at ho1; clear e1
    have hf1 : s₀.heap.get? it = none := hf (it, iterP κ.iter l xs.length) (by simp)
    refine wpAny_bind (nextOf_end (by first | exact hh | (show A.in1.handled = none; exact hh)) ho1 (SeqKind.at_sub hl (hs.trans I.own.sub)) (by simp) fun h₂ e' hs₂ hne he => ?_)
    obtain ⟨oe, hoe, hce⟩ := he
    refine wpAny_bind (wpAny_isInstance (T := "StopIteration") (b := true) ⟨oe, hoe, hce⟩ isSubtype_stop ?_)
    have I1 : In g₀ D s₀ g ((e, enumQ it xs.length) :: (it, iterP κ.iter l xs.length) :: μ) s := I
    have I2 := In.dropTo (tk := s.toks) (I1.perm (List.Perm.swap _ _ _)) hf1 (h' := h₂) fun b o hb e => hs₂ b o hb e
    exact wpAny_pure (hF _ (I2.sub (List.Sublist.cons _ (List.Sublist.refl _))))
  self := fun {g₀ D s₀ g μ s i Q E} I h => by
    obtain ⟨oz, hz, old, e0⟩ := I.get (i := 0) (a := e) (P := enumQ it i) rfl
    rw [e0] at hz
    exact wpAny_pyIter_enum hz h
  addr := fun zz zz => rfl
end
end Mine
end

section
open PySem PySem.W PyProof.Rows PySem.Calls
set_option tactic.hygienic false
set_option linter.all false
namespace Mine

/-! facts kept together -/
noncomputable def Rs (g : Heap) : List (Value × PyData) → Prop
  | [] => True
  | p :: r => Rd g p.1 p.2 ∧ Rs g r
theorem Rs.mono {g g' : Heap} : ∀ {l : List (Value × PyData)}, Rs g l → Sub g g' → Rs g' l
  | [], _, _ => trivial
  | _ :: _, x, h => ⟨x.1.mono h, Rs.mono x.2 h⟩
theorem Rs.cons {g : Heap} {v : Value} {d : PyData} {l : List (Value × PyData)} (x : Rd g v d) (y : Rs g l) : Rs g ((v, d) :: l) := ⟨x, y⟩

section
variable {prog : Program} {w : World} {A : Around} {E : Value → Shared → Prop} {g₀ g : Heap} {D : List Addr} {s₀ s : Shared} {μ : List Res} {env : Env}

noncomputable def VS (xs : List PyData) (i : Nat) (g : Heap) (v : Value) : Prop := ∃ x, xs[i]? = some x ∧ Rd g v x
noncomputable def SeqAtD (g : Heap) (v : Value) (xs : List PyData) : Prop := Rd g v (.list xs) ∨ Rd g v (.tuple xs)
noncomputable def It (prog : Program) (w : World) (A : Around) (g₀ : Heap) (D : List Addr) (s₀ : Shared) (target : Expr) (it : Value) (xs : List PyData) (g : Heap) (μ : List Res) (s : Shared) : Prop :=
  ∃ gb ρ, Nexts prog w A gb target it xs.length ρ (VS xs) ∧ Sub gb g ∧ (∀ p ∈ ρ 0, s₀.heap.get? p.1 = none) ∧ In g₀ D s₀ g (ρ 0 ++ μ) s

theorem Nexts.imp {gb : Heap} {target : Expr} {it : Value} {n m : Nat} {ρ : Nat → List Res} {V V' : Nat → Heap → Value → Prop} (N : Nexts prog w A gb target it n ρ V) (e : n = m)
    (h : ∀ i g v, i < n → Sub gb g → V i g v → V' i g v) : Nexts prog w A gb target it m ρ V' := by
  subst e
  exact { item := fun {g₀ D s₀ g' μ s i F G E E'} hi hs I hG => N.item hi hs I (fun v g2 s2 h1 h2 I2 => hG v g2 s2 h1 (h _ _ _ hi (hs.trans h1) h2) I2)
          done := N.done, self := N.self, addr := N.addr }

theorem it_seq (hh : A.handled = none) (I : In g₀ D s₀ g μ s) {xv : Value} {xs : List PyData} (hx : SeqAtD g xv xs) {Q : Value → Shared → Prop}
    (h : ∀ it s', (∀ target, It prog w A g₀ D s₀ target it xs g μ s') → Q it s') :
    wpAny (model prog w) A (pyIter xv) Q E s := by
  rcases hx with hx | hx
  · refine iter_lst I hx fun it l vs s' e hf hl hr I' => ?_
    refine h _ _ fun target => ⟨g, fun i => [(it, iterP SeqKind.lst.iter l i)], ?_, Sub.refl g, (by intro p hp; rw [List.mem_singleton.mp hp]; exact hf), I'⟩
    refine (Nexts.seq (κ := .lst) (l := l) (vs := vs) hh hl).imp hr.length fun i g' v zz hg hv => ?_
    obtain ⟨d, hd, hv⟩ := hr.getV hv
    exact ⟨d, hd, hv.mono hg⟩
  · refine iter_tup I hx fun it l vs s' e hf hl hr I' => ?_
    refine h _ _ fun target => ⟨g, fun i => [(it, iterP SeqKind.tup.iter l i)], ?_, Sub.refl g, (by intro p hp; rw [List.mem_singleton.mp hp]; exact hf), I'⟩
    refine (Nexts.seq (κ := .tup) (l := l) (vs := vs) hh hl).imp hr.length fun i g' v zz hg hv => ?_
    obtain ⟨d, hd, hv⟩ := hr.getV hv
    exact ⟨d, hd, hv.mono hg⟩

noncomputable def intsFrom (a n : Nat) : List PyData := (List.range (n - a)).map fun i => PyData.int ((a + i : Nat) : Int)

theorem it_range2 (hh : A.handled = none) (I : In g₀ D s₀ g μ s) {a n : Nat} {t u : Tok} (ha : a ≤ n) (hn : n ≤ 2 ^ 20) {Q : Value → Shared → Prop}
    (h : ∀ it s', (∀ target, It prog w A g₀ D s₀ target it (intsFrom a n) g μ s') → Q it s') :
    wpAny (model prog w) A (call (.type "range") [.int a u, .int n t]) (fun xv s₁ => wpAny (model prog w) A (pyIter xv) Q E s₁) E s := by
  refine b_range2 I hn fun r s' I' hr => iter_range I' hr ha hn fun it s'' hf I'' => h _ _ fun target => ⟨g, fun i => [(it, rangeP (a + i) n)], ?_, Sub.refl g, (by intro p hp; rw [List.mem_singleton.mp hp]; exact hf), I''⟩
  refine (Nexts.range (a := a) (n := n) hh).imp (by simp [intsFrom]) fun i g' v hi zz hv => ?_
  obtain ⟨t', rfl⟩ := hv
  exact ⟨.int ((a + i : Nat) : Int), by simp [intsFrom, List.getElem?_map, List.getElem?_range hi], Rd.int⟩
theorem it_range1 (hh : A.handled = none) (I : In g₀ D s₀ g μ s) {n : Nat} {t : Tok} (hn : n ≤ 2 ^ 20) {Q : Value → Shared → Prop}
    (h : ∀ it s', (∀ target, It prog w A g₀ D s₀ target it (intsFrom 0 n) g μ s') → Q it s') :
    wpAny (model prog w) A (call (.type "range") [.int n t]) (fun xv s₁ => wpAny (model prog w) A (pyIter xv) Q E s₁) E s := by
  refine b_range1 I hn fun r s' I' hr => iter_range (a := 0) I' hr (Nat.zero_le _) hn fun it s'' hf I'' => h _ _ fun target => ⟨g, fun i => [(it, rangeP (0 + i) n)], ?_, Sub.refl g, (by intro p hp; rw [List.mem_singleton.mp hp]; exact hf), I''⟩
  refine (Nexts.range (a := 0) (n := n) hh).imp (by simp [intsFrom]) fun i g' v hi zz hv => ?_
  obtain ⟨t', rfl⟩ := hv
  have hi' : i < n := by omega
  exact ⟨.int ((0 + i : Nat) : Int), by simp [intsFrom, List.getElem?_map, hi'], Rd.int⟩

theorem it_enum (hh : A.handled = none) (I : In g₀ D s₀ g μ s) {xv : Value} {xs : List PyData} (hx : SeqAtD g xv xs) {Q : Value → Shared → Prop}
    (h : ∀ it s', (∀ elts ek ep, It prog w A g₀ D s₀ (.Tuple elts ek ep) it (xs.zipIdx.map fun p => .tuple [.int p.2, p.1]) g μ s') → Q it s') :
    wpAny (model prog w) A (call (.type "enumerate") [xv]) (fun xv s₁ => wpAny (model prog w) A (pyIter xv) Q E s₁) E s := by
  have key : ∀ (κ : SeqKind) (l : Addr) (vs : List Value), xv = .ref l → κ.at g l vs → Rds g vs xs →
      wpAny (model prog w) A (call (.type "enumerate") [xv]) (fun xv s₁ => wpAny (model prog w) A (pyIter xv) Q E s₁) E s := by
    rintro κ l vs rfl hl hr
    refine b_enum κ I hl fun s' e it hf1 hf2 I' => ?_
    have N := fun (elts : List Expr) (ek : Nat) (ep : Pos) => (Nexts.enum (prog := prog) (w := w) (A := A) (elts := elts) (ek := ek) (ep := ep) (e := e) (it := it) (l := l) (xs := vs) (κ := κ) (gb := g) hh hl).imp (V' := VS (xs.zipIdx.map fun p => .tuple [.int p.2, p.1])) (m := (xs.zipIdx.map fun p => PyData.tuple [.int p.2, p.1]).length) (by simp [hr.length]) fun i g' v hi hg hv => by
      obtain ⟨x, T, t, rfl, hxi, hT⟩ := hv
      obtain ⟨d, hd, hxd⟩ := hr.getV hxi
      refine ⟨.tuple [.int i, d], by simp [List.getElem?_map, List.getElem?_zipIdx, hd], ?_⟩
      exact Rd.tup (vs := [.int i t, x]) ⟨_, hT, rfl, _, rfl⟩ (.two .int (hxd.mono hg))
    refine (N [] 0 ⟨0, 0, 0, 0⟩).self (i := 0) I' (h _ _ fun elts ek ep => ⟨g, _, N elts ek ep, Sub.refl g, ?_, I'⟩)
    intro p hp
    rcases List.mem_cons.mp hp with rfl | hp
    · exact hf1
    · rw [List.mem_singleton.mp hp]; exact hf2
  rcases hx with hx | hx
  · obtain ⟨l, vs, e, hl, hr⟩ := hx.lst_inv
    exact key .lst l vs e hl hr
  · obtain ⟨l, vs, e, hl, hr⟩ := hx.tup_inv
    exact key .tup l vs e hl hr

theorem zip_getElem? {α β : Type} : ∀ {xs : List α} {ys : List β} {i : Nat} {x : α} {y : β}, xs[i]? = some x → ys[i]? = some y → (xs.zip ys)[i]? = some (x, y)
  | [], _, _, _, _, h, _ => by simp at h
  | _ :: _, [], _, _, _, _, h => by simp at h
  | _ :: _, _ :: _, 0, _, _, h1, h2 => by simp at h1 h2; simp [h1, h2]
  | _ :: _, _ :: _, i + 1, _, _, h1, h2 => by simpa using zip_getElem? (i := i) (by simpa using h1) (by simpa using h2)

noncomputable def zipD (xs ys : List PyData) : List PyData := (xs.zip ys).map fun p => .tuple [p.1, p.2]

theorem zip_imp {κ₁ κ₂ : SeqKind} {gb : Heap} {elts : List Expr} {ek : Nat} {ep : Pos} {z TI TO i1 i2 l1 l2 : Addr} {vs ws : List Value} {xs ys : List PyData} (hh : A.handled = none) (hl1 : κ₁.at gb l1 vs) (hl2 : κ₂.at gb l2 ws)
    (hTI : gb.get? TI = some { cls := .type "tuple", data := .seq #[.ref i1, .ref i2] }) (h1 : Rds gb vs xs) (h2 : Rds gb ws ys) (hle : xs.length ≤ ys.length) :
    Nexts prog w A gb (.Tuple elts ek ep) (.ref z) (zipD xs ys).length (fun i => [(z, zipP .none TI TO), (TO, pairP), (i1, iterP κ₁.iter l1 i), (i2, iterP κ₂.iter l2 i)]) (VS (zipD xs ys)) :=
  (Nexts.zip hh hl1 hl2 (by rw [h1.length, h2.length]; exact hle) hTI).imp (by simp [zipD, h1.length, h2.length]) fun i g' v hi hg hv => by
    obtain ⟨x, y, T, rfl, hx, hy, hT⟩ := hv
    obtain ⟨d, hd, hxd⟩ := h1.getV hx
    obtain ⟨e, he, hye⟩ := h2.getV hy
    refine ⟨.tuple [d, e], by simp [zipD, zip_getElem? hd he], ?_⟩
    exact Rd.tup (vs := [x, y]) ⟨_, hT, rfl, _, rfl⟩ (.two (hxd.mono hg) (hye.mono hg))

theorem fresh4 {h : Heap} {z TO i1 i2 : Addr} {P1 P2 P3 P4 : Obj → Prop} (a : h.get? z = none) (b : h.get? TO = none) (c : h.get? i1 = none) (d : h.get? i2 = none) :
    ∀ p ∈ ([(z, P1), (TO, P2), (i1, P3), (i2, P4)] : List Res), h.get? p.1 = none := by
  intro p hp
  rcases List.mem_cons.mp hp with rfl | hp
  · exact a
  rcases List.mem_cons.mp hp with rfl | hp
  · exact b
  rcases List.mem_cons.mp hp with rfl | hp
  · exact c
  rw [List.mem_singleton.mp hp]; exact d

theorem it_zip_tup (hh : A.handled = none) (I : In g₀ D s₀ g μ s) {u v : Value} {xs ys : List PyData} (hu : Rd g u (.tuple xs)) (hv : Rd g v (.tuple ys)) (hle : xs.length ≤ ys.length) {Q : Value → Shared → Prop}
    (h : ∀ g' it s', Sub g g' → (∀ elts ek ep, It prog w A g₀ D s₀ (.Tuple elts ek ep) it (zipD xs ys) g' μ s') → Q it s') :
    wpAny (model prog w) A (call (.type "zip") [u, v]) (fun xv s₁ => wpAny (model prog w) A (pyIter xv) Q E s₁) E s := by
  refine b_zip_tup I hu hv fun g' s' z TI TO i1 i2 l1 l2 vs ws hs e1 e2 h1 h2 hl1 hl2 hTI f1 f2 f3 f4 I' => ?_
  have N := fun (elts : List Expr) (ek : Nat) (ep : Pos) => zip_imp (prog := prog) (w := w) (A := A) (κ₁ := .tup) (κ₂ := .tup) (elts := elts) (ek := ek) (ep := ep) (z := z) (TO := TO) hh hl1 hl2 hTI h1 h2 hle
  exact (N [] 0 ⟨0, 0, 0, 0⟩).self (i := 0) I' (h g' _ _ hs fun elts ek ep => ⟨g', _, N elts ek ep, Sub.refl g', fresh4 f1 f2 f3 f4, I'⟩)
/-! comprehensions, over facts -/
theorem comp_seq {elt target iter : Expr} {ifs : List Expr} {scope : Scope} {pos : Pos} {cl : List (Str × Addr)} {Q : Value → Shared → Prop} {E : Value → Shared → Prop}
    (hclos : closureFor scope env = pure cl) (hkind : scope.kind = .function) (hnames : ∀ x ∈ scope.names, x.2 = .local → scope.names.lookup x.1 = some .local)
    (hs : ∀ x, foldedSetIterable iter env x = pure x)
    (h : wpAny (model prog w) A (eval iter env) (fun xv s₁ => wpAny (model prog w) A (pyIter xv) (fun it s₂ => ∃ xs g μ, ∃ K : Nat → List PyData → Heap → List Res → Prop, It prog w A g₀ D s₀ target it xs g μ s₂ ∧ xs.length ≤ 2 ^ 20 ∧ K 0 [] g μ ∧
      (∀ C i x v ds g' μ' s' m cm rest, xs[i]? = some x → Sub g g' → Rd g' v x → K i ds g' μ' → In g₀ D s₀ g' (frC C (cellsFrom (C + 1) scope.names []) m cm ++ (μ' ++ rest)) s' →
        let cenv : Env := { scope := relabel scope env, locals := C, globals := env.globals, cells := cellsFrom (C + 1) scope.names cl, qual := env.qual, func := none, code := env.code, frame := env.frame, builtins := env.builtins }
        wpAny (model prog w) A (assign target cenv v) (fun zz s₂ => wpAny (model prog w) A (testsOf ifs cenv) (fun ok s₃ =>
          if ok = true then wpAny (model prog w) A (eval elt cenv) (fun y s₄ => ∃ g'' μ'' m' cm' d, Sub g' g'' ∧ In g₀ D s₀ g'' (frC C (cellsFrom (C + 1) scope.names []) m' cm' ++ (μ'' ++ rest)) s₄ ∧ Rd g'' y d ∧ K (i + 1) (ds ++ [d]) g'' μ'') (fun zz zz => False) s₃
          else ∃ g'' μ'' m' cm', Sub g' g'' ∧ In g₀ D s₀ g'' (frC C (cellsFrom (C + 1) scope.names []) m' cm' ++ (μ'' ++ rest)) s₃ ∧ K (i + 1) ds g'' μ'') (fun zz zz => False) s₂) (fun zz zz => False) s') ∧
      (∀ i ds g' g'' μ', Sub g' g'' → K i ds g' μ' → K i ds g'' μ') ∧
      (∀ y ds g' μ' s', Sub g g' → K xs.length ds g' μ' → Rd g' y (.list ds) → In g₀ D s₀ g' μ' s' → Q y s')) E s₁) E s) :
    wpAny (model prog w) A (eval (.ListComp elt [⟨target, iter, ifs, 0⟩] scope pos) env) Q E s := by
  refine comp_rule (g₀ := g₀) (D := D) (s₀ := s₀) hclos hkind hnames hs (wpAny_mono h (fun xv s₁ h₁ => wpAny_mono h₁ (fun it s₂ h₂ => ?_) fun zz zz e => e) fun zz zz e => e)
  obtain ⟨xs, g, μ, K, ⟨gb, ρ, N, hg, hρ, I⟩, hn, h0, turn, hmono, fin⟩ := h₂
  refine ⟨gb, xs.length, ρ, VS xs, g, μ, fun i out g' μ' => ∃ ds, Rds g' out ds ∧ K i ds g' μ', N, hg, hρ, hn, ⟨[], .nil, h0⟩, I, ?_, ?_, ?_⟩
  · rintro C i out g' μ' s' v m cm rest hi hg1 hg2 ⟨ds, hr, hK⟩ ⟨x, hx, hv⟩ I'
    refine wpAny_mono (turn C i x v ds g' μ' s' m cm rest hx hg1 hv hK I') (fun zz s₂ h₂ => wpAny_mono h₂ (fun ok s₃ h₃ => ?_) fun zz zz e => e) fun zz zz e => e
    cases ok with
    | true =>
      simp only [if_true] at h₃ ⊢
      refine wpAny_mono h₃ (fun y s₄ h₄ => ?_) fun zz zz e => e
      obtain ⟨g3, μ3, m3, cm3, d, hs3, I3, hd, hK3⟩ := h₄
      exact ⟨g3, μ3, m3, cm3, hs3, I3, ds ++ [d], (hr.mono hs3).append (.one hd), hK3⟩
    | false =>
      simp only [Bool.false_eq_true, if_false] at h₃ ⊢
      obtain ⟨g3, μ3, m3, cm3, hs3, I3, hK3⟩ := h₃
      exact ⟨g3, μ3, m3, cm3, hs3, I3, ds, hr.mono hs3, hK3⟩
  · rintro i out g' g'' μ' hs' ⟨ds, hr, hK⟩
    exact ⟨ds, hr.mono hs', hmono _ _ _ _ _ hs' hK⟩
  · rintro acc out g' μ' s' hacc hgg ⟨ds, hr, hK⟩ I'
    obtain ⟨g3, hs3, hd, I3⟩ := I'.frzLst hacc hr
    exact fin _ ds g3 μ' s' (hgg.trans hs3) (hmono _ _ _ _ _ hs3 hK) hd I3

theorem comp_seqA {elt target iter : Expr} {ifs : List Expr} {scope : Scope} {pos spos py : Pos} {y : Str} {cl : List (Str × Addr)} {Q : Flow → Shared → Prop} {E : Value → Shared → Prop}
    (hsw : swapsWith (.ListComp elt [⟨target, iter, ifs, 0⟩] scope pos) (some (.Name y py)) spos.line env = pure true)
    (hclos : closureFor scope env = pure cl) (hkind : scope.kind = .function) (hnames : ∀ x ∈ scope.names, x.2 = .local → scope.names.lookup x.1 = some .local)
    (hs : ∀ x, foldedSetIterable iter env x = pure x) (hy : env.kindOf y = some .local) (hke : env.scope.kind = .function)
    (h : wpAny (model prog w) A (eval iter env) (fun xv s₁ => wpAny (model prog w) A (pyIter xv) (fun it s₂ => ∃ xs g μ, ∃ K : Nat → List PyData → Heap → List Res → Prop, It prog w A g₀ D s₀ target it xs g μ s₂ ∧ xs.length ≤ 2 ^ 20 ∧ K 0 [] g μ ∧
      (∀ C i x v ds g' μ' s' m cm rest, xs[i]? = some x → Sub g g' → Rd g' v x → K i ds g' μ' → In g₀ D s₀ g' (frC C (cellsFrom (C + 1) scope.names []) m cm ++ (μ' ++ rest)) s' →
        let cenv : Env := { scope := relabel scope env, locals := C, globals := env.globals, cells := cellsFrom (C + 1) scope.names cl, qual := env.qual, func := none, code := env.code, frame := env.frame, builtins := env.builtins }
        wpAny (model prog w) A (assign target cenv v) (fun zz s₂ => wpAny (model prog w) A (testsOf ifs cenv) (fun ok s₃ =>
          if ok = true then wpAny (model prog w) A (eval elt cenv) (fun y s₄ => ∃ g'' μ'' m' cm' d, Sub g' g'' ∧ In g₀ D s₀ g'' (frC C (cellsFrom (C + 1) scope.names []) m' cm' ++ (μ'' ++ rest)) s₄ ∧ Rd g'' y d ∧ K (i + 1) (ds ++ [d]) g'' μ'') (fun zz zz => False) s₃
          else ∃ g'' μ'' m' cm', Sub g' g'' ∧ In g₀ D s₀ g'' (frC C (cellsFrom (C + 1) scope.names []) m' cm' ++ (μ'' ++ rest)) s₃ ∧ K (i + 1) ds g'' μ'') (fun zz zz => False) s₂) (fun zz zz => False) s') ∧
      (∀ i ds g' g'' μ', Sub g' g'' → K i ds g' μ' → K i ds g'' μ') ∧
      (∀ ds g' μ', Sub g g' → K xs.length ds g' μ' →
        ∃ j m, μ'[j]? = some (env.locals, nsP m) ∧ ∀ v g'' s'', Sub g' g'' → Rd g'' v (.list ds) → In g₀ D s₀ g'' (μ'.set j (env.locals, nsP (upd m y v))) s'' → Q .next s'')) E s₁) E s) :
    wpAny (model prog w) A (exec (.Assign [.Name y py] (.ListComp elt [⟨target, iter, ifs, 0⟩] scope pos) spos) env) Q E s := by
  refine comp_assign (g₀ := g₀) (D := D) (s₀ := s₀) hsw hclos hkind hnames hs hy hke (wpAny_mono h (fun xv s₁ h₁ => wpAny_mono h₁ (fun it s₂ h₂ => ?_) fun zz zz e => e) fun zz zz e => e)
  obtain ⟨xs, g, μ, K, ⟨gb, ρ, N, hg, hρ, I⟩, hn, h0, turn, hmono, fin⟩ := h₂
  refine ⟨gb, xs.length, ρ, VS xs, g, μ, fun i out g' μ' => ∃ ds, Rds g' out ds ∧ K i ds g' μ', N, hg, hρ, hn, ⟨[], .nil, h0⟩, I, ?_, ?_, ?_⟩
  · rintro C i out g' μ' s' v m cm rest hi hg1 hg2 ⟨ds, hr, hK⟩ ⟨x, hx, hv⟩ I'
    refine wpAny_mono (turn C i x v ds g' μ' s' m cm rest hx hg1 hv hK I') (fun zz s₂ h₂ => wpAny_mono h₂ (fun ok s₃ h₃ => ?_) fun zz zz e => e) fun zz zz e => e
    cases ok with
    | true =>
      simp only [if_true] at h₃ ⊢
      refine wpAny_mono h₃ (fun y s₄ h₄ => ?_) fun zz zz e => e
      obtain ⟨g3, μ3, m3, cm3, d, hs3, I3, hd, hK3⟩ := h₄
      exact ⟨g3, μ3, m3, cm3, hs3, I3, ds ++ [d], (hr.mono hs3).append (.one hd), hK3⟩
    | false =>
      simp only [Bool.false_eq_true, if_false] at h₃ ⊢
      obtain ⟨g3, μ3, m3, cm3, hs3, I3, hK3⟩ := h₃
      exact ⟨g3, μ3, m3, cm3, hs3, I3, ds, hr.mono hs3, hK3⟩
  · rintro i out g' g'' μ' hs' ⟨ds, hr, hK⟩
    exact ⟨ds, hr.mono hs', hmono _ _ _ _ _ hs' hK⟩
  · rintro acc out g' μ' s' hacc hgg ⟨ds, hr, hK⟩ I'
    obtain ⟨j, m, hj, hQ⟩ := fin ds g' μ' hgg hK
    refine ⟨j, m, hj, fun s'' I'' => ?_⟩
    obtain ⟨g3, hs3, hd, I3⟩ := I''.frzLst hacc hr
    exact hQ _ g3 s'' hs3 hd I3
end
end Mine
end

section
open PySem PySem.W PyProof.Rows PySem.Calls
set_option tactic.hygienic false
set_option linter.all false
namespace Mine

section
variable {g : Heap} {v : Value} {d : PyData} {p0 p1 p2 p3 p4 p5 p6 p7 p8 : Value × PyData} {l : List (Value × PyData)}
theorem Rs.tl (x : Rs g (p0 :: l)) : Rs g l := x.2
theorem Rs.h0 (x : Rs g ((v, d) :: l)) : Rd g v d := x.1
theorem Rs.h1 (x : Rs g (p0 :: (v, d) :: l)) : Rd g v d := x.2.1
theorem Rs.h2 (x : Rs g (p0 :: p1 :: (v, d) :: l)) : Rd g v d := x.2.2.1
theorem Rs.h3 (x : Rs g (p0 :: p1 :: p2 :: (v, d) :: l)) : Rd g v d := x.2.2.2.1
theorem Rs.h4 (x : Rs g (p0 :: p1 :: p2 :: p3 :: (v, d) :: l)) : Rd g v d := x.2.2.2.2.1
theorem Rs.h5 (x : Rs g (p0 :: p1 :: p2 :: p3 :: p4 :: (v, d) :: l)) : Rd g v d := x.2.2.2.2.2.1
theorem Rs.h6 (x : Rs g (p0 :: p1 :: p2 :: p3 :: p4 :: p5 :: (v, d) :: l)) : Rd g v d := x.2.2.2.2.2.2.1
theorem Rs.h7 (x : Rs g (p0 :: p1 :: p2 :: p3 :: p4 :: p5 :: p6 :: (v, d) :: l)) : Rd g v d := x.2.2.2.2.2.2.2.1
theorem Rs.h8 (x : Rs g (p0 :: p1 :: p2 :: p3 :: p4 :: p5 :: p6 :: p7 :: (v, d) :: l)) : Rd g v d := x.2.2.2.2.2.2.2.2.1
end

section
variable {prog : Program} {w : World} {A : Around} {E : Value → Shared → Prop} {g₀ g : Heap} {D : List Addr} {s₀ s : Shared} {μ : List Res} {env : Env}

theorem Room.dn {A : Around} {n k : Nat} (x : Room A n) (h : k ≤ n := by omega) : Room A k := x.mono h
/-! cuts with written bounds -/
theorem cut_tup_from (I : In g₀ D s₀ g μ s) {v : Value} {ds : List PyData} {a : Nat} {t : Tok} {Q : Value → Shared → Prop} (hv : Rd g v (.tuple ds)) (hn : ds.length ≤ 2 ^ 20)
    (h : ∀ g' s' r, Sub g g' → In g₀ D s₀ g' μ s' → Rd g' r (.tuple (ds.drop a)) → Q r s') : Cut prog w A E v (.int a t) .none Q s :=
  Cut.tup (lo := some (a, t)) (hi := none) I hv hn h
theorem cut_tup_upto (I : In g₀ D s₀ g μ s) {v : Value} {ds : List PyData} {a : Nat} {t : Tok} {Q : Value → Shared → Prop} (hv : Rd g v (.tuple ds)) (hn : ds.length ≤ 2 ^ 20)
    (h : ∀ g' s' r, Sub g g' → In g₀ D s₀ g' μ s' → Rd g' r (.tuple (ds.take a)) → Q r s') : Cut prog w A E v .none (.int a t) Q s :=
  Cut.tup (lo := none) (hi := some (a, t)) I hv hn h

theorem sum_ints (hh : A.handled = none) (I : In g₀ D s₀ g μ s) {v : Value} {ns : List Int} {Q : Value → Shared → Prop} (hv : Rd g v (.list (ns.map .int)))
    (h : ∀ s' t, In g₀ D s₀ g μ s' → Q (.int ns.sum t) s') : wpAny (model prog w) A (call (.builtin "sum") [v]) Q E s := by
  obtain ⟨a, vs, rfl, hl, hr⟩ := hv.lst_inv
  have key : ∀ {vs : List Value} {ns : List Int}, Rds g vs (ns.map .int) → ∃ xs : Array (Int × Tok), vs.toArray = intItems xs ∧ xs.toList.map (·.1) = ns := by
    intro vs ns
    induction ns generalizing vs with
    | nil => intro h; exact ⟨#[], by rw [h.cases_nil]; simp [intItems], rfl⟩
    | cons n ns ih =>
      intro h
      obtain ⟨v, r, rfl, hv, hr⟩ := h.cases_cons
      obtain ⟨t, rfl⟩ := hv.int_inv
      obtain ⟨xs, h1, h2⟩ := ih hr
      refine ⟨⟨(n, t) :: xs.toList⟩, ?_, by simp [h2]⟩
      have h1' : r = (intItems xs).toList := by rw [← h1]
      simp [intItems] at h1' ⊢
      rw [h1']
  obtain ⟨xs, h1, h2⟩ := key hr
  rw [h1] at hl
  refine sum_intListG hh (isList_sub hl I.own.sub) fun h' tk t' hk => ?_
  have e : preSum (numAt xs) xs.size = ns.sum := by
    rw [preSum_eq, ← h2, List.take_of_length_le (by simp)]
  rw [e]
  exact h _ t' (I.ext (tk := tk) hk)
end
end Mine
end

section
open PySem PySem.W PyProof.Rows PySem.Calls
set_option tactic.hygienic false
set_option linter.all false
namespace Mine

section
variable {prog : Program} {w : World} {A : Around} {E : Value → Shared → Prop} {g₀ g : Heap} {D : List Addr} {s₀ s : Shared} {μ : List Res} {env : Env}

abbrev cenvOf (scope : Scope) (env : Env) (C : Addr) (cl : List (Str × Addr)) : Env :=
  { scope := relabel scope env, locals := C, globals := env.globals, cells := cellsFrom (C + 1) scope.names cl, qual := env.qual, func := none, code := env.code, frame := env.frame, builtins := env.builtins }

noncomputable def CompK (prog : Program) (w : World) (A : Around) (g₀ : Heap) (D : List Addr) (s₀ : Shared) (elt target : Expr) (ifs : List Expr) (scope : Scope) (env : Env) (cl : List (Str × Addr))
    (Fin : List PyData → Heap → List Res → Prop) (it : Value) (s : Shared) : Prop :=
  ∃ xs g μ, ∃ K : Nat → List PyData → Heap → List Res → Prop, It prog w A g₀ D s₀ target it xs g μ s ∧ xs.length ≤ 2 ^ 20 ∧ K 0 [] g μ ∧
      (∀ C i x v ds g' μ' s' m cm rest, xs[i]? = some x → Sub g g' → Rd g' v x → K i ds g' μ' → In g₀ D s₀ g' (frC C (cellsFrom (C + 1) scope.names []) m cm ++ (μ' ++ rest)) s' →
        let cenv : Env := cenvOf scope env C cl
        wpAny (model prog w) A (assign target cenv v) (fun zz s₂ => wpAny (model prog w) A (testsOf ifs cenv) (fun ok s₃ =>
          if ok = true then wpAny (model prog w) A (eval elt cenv) (fun y s₄ => ∃ g'' μ'' m' cm' d, Sub g' g'' ∧ In g₀ D s₀ g'' (frC C (cellsFrom (C + 1) scope.names []) m' cm' ++ (μ'' ++ rest)) s₄ ∧ Rd g'' y d ∧ K (i + 1) (ds ++ [d]) g'' μ'') (fun zz zz => False) s₃
          else ∃ g'' μ'' m' cm', Sub g' g'' ∧ In g₀ D s₀ g'' (frC C (cellsFrom (C + 1) scope.names []) m' cm' ++ (μ'' ++ rest)) s₃ ∧ K (i + 1) ds g'' μ'') (fun zz zz => False) s₂) (fun zz zz => False) s') ∧
      (∀ i ds g' g'' μ', Sub g' g'' → K i ds g' μ' → K i ds g'' μ') ∧
      (∀ ds g' μ', Sub g g' → K xs.length ds g' μ' → Fin ds g' μ')

theorem x_comp (_ : In g₀ D s₀ g μ s) {elt target iter : Expr} {ifs : List Expr} {scope : Scope} {pos : Pos} {cl : List (Str × Addr)} {Q : Value → Shared → Prop}
    (hclos : closureFor scope env = pure cl) (hkind : scope.kind = .function) (hnames : ∀ x ∈ scope.names, x.2 = .local → scope.names.lookup x.1 = some .local)
    (hs : ∀ x, foldedSetIterable iter env x = pure x)
    (h : wpAny (model prog w) A (eval iter env) (fun xv s₁ => wpAny (model prog w) A (pyIter xv) (CompK prog w A g₀ D s₀ elt target ifs scope env cl (fun ds g' μ' => ∀ y g'' s'', Sub g' g'' → Rd g'' y (.list ds) → In g₀ D s₀ g'' μ' s'' → Q y s'')) E s₁) E s) :
    wpAny (model prog w) A (eval (.ListComp elt [⟨target, iter, ifs, 0⟩] scope pos) env) Q E s := by
  refine comp_seq (g₀ := g₀) (D := D) (s₀ := s₀) hclos hkind hnames hs (wpAny_mono h (fun xv s₁ h₁ => wpAny_mono h₁ (fun it s₂ h₂ => ?_) fun zz zz e => e) fun zz zz e => e)
  obtain ⟨xs, g, μ, K, X, hn, h0, turn, hmono, fin⟩ := h₂
  exact ⟨xs, g, μ, K, X, hn, h0, turn, hmono, fun y ds g' μ' s' hs hK hy I' => fin ds g' μ' hs hK y g' s' (Sub.refl _) hy I'⟩

theorem x_compA (_ : In g₀ D s₀ g μ s) {elt target iter : Expr} {ifs : List Expr} {scope : Scope} {pos spos py : Pos} {y : Str} {cl : List (Str × Addr)} {Q : Flow → Shared → Prop}
    (hsw : swapsWith (.ListComp elt [⟨target, iter, ifs, 0⟩] scope pos) (some (.Name y py)) spos.line env = pure true)
    (hclos : closureFor scope env = pure cl) (hkind : scope.kind = .function) (hnames : ∀ x ∈ scope.names, x.2 = .local → scope.names.lookup x.1 = some .local)
    (hs : ∀ x, foldedSetIterable iter env x = pure x) (hy : env.kindOf y = some .local) (hke : env.scope.kind = .function)
    (h : wpAny (model prog w) A (eval iter env) (fun xv s₁ => wpAny (model prog w) A (pyIter xv) (CompK prog w A g₀ D s₀ elt target ifs scope env cl (fun ds g' μ' =>
      ∃ j m, μ'[j]? = some (env.locals, nsP m) ∧ ∀ v g'' s'', Sub g' g'' → Rd g'' v (.list ds) → In g₀ D s₀ g'' (μ'.set j (env.locals, nsP (upd m y v))) s'' → Q .next s'')) E s₁) E s) :
    wpAny (model prog w) A (exec (.Assign [.Name y py] (.ListComp elt [⟨target, iter, ifs, 0⟩] scope pos) spos) env) Q E s := by
  refine comp_seqA (g₀ := g₀) (D := D) (s₀ := s₀) hsw hclos hkind hnames hs hy hke (wpAny_mono h (fun xv s₁ h₁ => wpAny_mono h₁ (fun it s₂ h₂ => ?_) fun zz zz e => e) fun zz zz e => e)
  obtain ⟨xs, g, μ, K, X, hn, h0, turn, hmono, fin⟩ := h₂
  exact ⟨xs, g, μ, K, X, hn, h0, turn, hmono, fin⟩

theorem take_filterMap {α β : Type} {f : α → Option β} {xs : List α} {i : Nat} {x : α} (hx : xs[i]? = some x) : (xs.take (i + 1)).filterMap f = (xs.take i).filterMap f ++ (f x).toList := by
  have : xs.take (i + 1) = xs.take i ++ [x] := by rw [List.take_add_one, hx]; rfl
  rw [this, List.filterMap_append]
  simp [List.filterMap_cons]
  cases f x <;> rfl

theorem tests_nil {cenv : Env} {Q : Bool → Shared → Prop} (h : Q true s) : wpAny (model prog w) A (testsOf [] cenv) Q E s := by
  unfold testsOf; rw [List.forIn_nil]; exact wpAny_pure h
theorem tests_one {c : Expr} {cenv : Env} {Q : Bool → Shared → Prop} (h : wpAny (model prog w) A (isTrue c cenv (eval c cenv)) Q E s) : wpAny (model prog w) A (testsOf [c] cenv) Q E s := by
  unfold testsOf
  rw [List.forIn_cons]
  simp only [if_true]
  refine wpAny_bind (wpAny_bind (wpAny_mono h (fun ok s' h' => ?_) fun zz zz e => e))
  refine wpAny_pure ?_
  show wpAny _ _ (forIn [] ok _) _ _ _
  rw [List.forIn_nil]; exact wpAny_pure h'

theorem CompK.opt {α : Type} (l : List α) (dec : α → PyData) (f : α → Option PyData) {elt target : Expr} {ifs : List Expr} {scope : Scope} {cl : List (Str × Addr)} {Fin : List PyData → Heap → List Res → Prop} {it : Value} {xs : List PyData}
    (X : It prog w A g₀ D s₀ target it xs g μ s) (e : xs = l.map dec) (hn : xs.length ≤ 2 ^ 20)
    (turn : ∀ (C : Addr) (x : α) (v : Value) (g' : Heap) (s' : Shared) (m cm : Str → Option Value) (rest : List Res), x ∈ l → Sub g g' → Rd g' v (dec x) → In g₀ D s₀ g' (frC C (cellsFrom (C + 1) scope.names []) m cm ++ (μ ++ rest)) s' →
        let cenv : Env := cenvOf scope env C cl
        wpAny (model prog w) A (assign target cenv v) (fun zz s₂ => wpAny (model prog w) A (testsOf ifs cenv) (fun ok s₃ =>
          if ok = true then wpAny (model prog w) A (eval elt cenv) (fun y s₄ => ∃ g'' m' cm' d, Sub g' g'' ∧ In g₀ D s₀ g'' (frC C (cellsFrom (C + 1) scope.names []) m' cm' ++ (μ ++ rest)) s₄ ∧ Rd g'' y d ∧ f x = some d) (fun zz zz => False) s₃
          else ∃ g'' m' cm', Sub g' g'' ∧ In g₀ D s₀ g'' (frC C (cellsFrom (C + 1) scope.names []) m' cm' ++ (μ ++ rest)) s₃ ∧ f x = none) (fun zz zz => False) s₂) (fun zz zz => False) s')
    (fin : ∀ g', Sub g g' → Fin (l.filterMap f) g' μ) : CompK prog w A g₀ D s₀ elt target ifs scope env cl Fin it s := by
  subst e
  refine ⟨_, g, μ, fun i ds zz μ' => μ' = μ ∧ ds = (l.take i).filterMap f, X, hn, ⟨rfl, by simp⟩, ?_, fun zz zz zz zz zz zz h => h, ?_⟩
  · rintro C i x v ds g' μ' s' m cm rest hx hg hv ⟨rfl, rfl⟩ I'
    rw [List.getElem?_map] at hx
    obtain ⟨a, ha, rfl⟩ := Option.map_eq_some_iff.mp hx
    refine wpAny_mono (turn C a v g' s' m cm rest (List.mem_of_getElem? ha) hg hv I') (fun zz s₂ h₂ => wpAny_mono h₂ (fun ok s₃ h₃ => ?_) fun zz zz e => e) fun zz zz e => e
    cases ok with
    | true =>
      simp only [if_true] at h₃ ⊢
      refine wpAny_mono h₃ (fun y s₄ h₄ => ?_) fun zz zz e => e
      obtain ⟨g3, m3, cm3, d, hs3, I3, hd, hf⟩ := h₄
      exact ⟨g3, μ', m3, cm3, d, hs3, I3, hd, rfl, by rw [take_filterMap ha, hf]; rfl⟩
    | false =>
      simp only [Bool.false_eq_true, if_false] at h₃ ⊢
      obtain ⟨g3, m3, cm3, hs3, I3, hf⟩ := h₃
      exact ⟨g3, μ', m3, cm3, hs3, I3, rfl, by rw [take_filterMap ha, hf]; simp⟩
  · rintro ds g' μ' hg ⟨rfl, rfl⟩
    have := fin g' hg
    rwa [List.length_map, List.take_of_length_le (Nat.le_refl _)]

theorem CompK.map {α : Type} (l : List α) (dec f : α → PyData) {elt target : Expr} {scope : Scope} {cl : List (Str × Addr)} {Fin : List PyData → Heap → List Res → Prop} {it : Value} {xs : List PyData}
    (X : It prog w A g₀ D s₀ target it xs g μ s) (e : xs = l.map dec) (hn : xs.length ≤ 2 ^ 20)
    (turn : ∀ (C : Addr) (x : α) (v : Value) (g' : Heap) (s' : Shared) (m cm : Str → Option Value) (rest : List Res), x ∈ l → Sub g g' → Rd g' v (dec x) → In g₀ D s₀ g' (frC C (cellsFrom (C + 1) scope.names []) m cm ++ (μ ++ rest)) s' →
        let cenv : Env := cenvOf scope env C cl
        wpAny (model prog w) A (assign target cenv v) (fun zz s₂ => wpAny (model prog w) A (eval elt cenv) (fun y s₄ => ∃ g'' m' cm', Sub g' g'' ∧ In g₀ D s₀ g'' (frC C (cellsFrom (C + 1) scope.names []) m' cm' ++ (μ ++ rest)) s₄ ∧ Rd g'' y (f x)) (fun zz zz => False) s₂) (fun zz zz => False) s')
    (fin : ∀ g', Sub g g' → Fin (l.map f) g' μ) : CompK prog w A g₀ D s₀ elt target [] scope env cl Fin it s := by
  refine CompK.opt l dec (fun a => some (f a)) X e hn (fun C x v g' s' m cm rest hx hg hv I' => ?_) (by rw [List.filterMap_eq_map']; exact fin)
  refine wpAny_mono (turn C x v g' s' m cm rest hx hg hv I') (fun zz s₂ h₂ => tests_nil ?_) fun zz zz e => e
  rw [if_pos rfl]
  exact wpAny_mono h₂ (fun y s₄ ⟨g'', m', cm', h1, h2, h3⟩ => ⟨g'', m', cm', f x, h1, h2, h3, rfl⟩) fun zz zz e => e
theorem as_pair (hh : A.handled = none) (I : In g₀ D s₀ g μ s) {e1 e2 : Expr} {ek : Nat} {ep : Pos} {v : Value} {d1 d2 : PyData} {Q : Unit → Shared → Prop} (hv : Rd g v (.tuple [d1, d2]))
    (hlen : (assignEach [e1, e2] env).length = 2) (hstar : (assignEach [e1, e2] env).findIdx? (·.1) = none) (hmap : (assignEach [e1, e2] env).map (·.2) = [assign e1 env, assign e2 env])
    (h : ∀ s' x y, In g₀ D s₀ g μ s' → Rd g x d1 → Rd g y d2 → wpAny (model prog w) A (assign e1 env x) (fun zz s₁ => wpAny (model prog w) A (assign e2 env y) Q E s₁) E s') :
    wpAny (model prog w) A (assign (.Tuple [e1, e2] ek ep) env v) Q E s := by
  obtain ⟨t, vs, rfl, ht, hr⟩ := hv.tup_inv
  obtain ⟨x, r, rfl, hx, hr⟩ := hr.cases_cons
  obtain ⟨y, r, rfl, hy, hr⟩ := hr.cases_cons
  obtain rfl := hr.cases_nil
  have ht' : g.IsTuple t #[x, y] := ht
  refine wpAny_assign_Tuple hh (SeqKind.at_sub (κ := .tup) (a := t) (vs := [x, y]) ht' I.own.sub) hlen hstar fun h' he => ?_
  rw [hmap]
  have I' := I.ext (h' := h') (tk := s.toks) fun b o e => he b o (ne_fresh e) e
  refine wpAny_assignInOrder_more (wpAny_mono (h _ x y I' hx hy) (fun zz s₁ h₁ => ?_) fun zz zz e => e)
  exact wpAny_assignInOrder_more (wpAny_mono h₁ (fun zz s₂ h₂ => wpAny_assignInOrder_none h₂) fun zz zz e => e)
end
end Mine
end

section
open PySem PySem.W PyProof.Rows PySem.Calls
set_option tactic.hygienic false
set_option linter.all false
namespace Mine

section
variable {prog : Program} {w : World} {K : Type} [DecidableEq K] (knd : KeyKind prog w K)
noncomputable def dP (d : Addr) (kvs : List (K × Value)) (o : Obj) : Prop := (d == sysModules) = false ∧ o.IsDictOf knd kvs
noncomputable def FDict (g : Heap) (d : Addr) (kvs : List (K × Value)) : Prop := ∃ o, g.get? d = some o ∧ dP knd d kvs o
noncomputable def DAt (h : Heap) (d : Addr) (kvs : List (K × Value)) : Prop := ∃ o, h.get? d = some o ∧ dP knd d kvs o
end

section
variable {prog : Program} {w : World} {K : Type} [DecidableEq K] {knd : KeyKind prog w K} {A : Around} {E : Value → Shared → Prop} {g₀ g h₀ : Heap} {D : List Addr} {s₀ s : Shared} {μ : List Res} {env : Env} {d : Addr} {kvs : List (K × Value)} {k : K} {key v dflt : Value} {mg mb : Str → Option Value}

theorem FDict.mono {g' : Heap} (x : FDict knd g d kvs) (h : Sub g g') : FDict knd g' d kvs := let ⟨o, ho, r⟩ := x; ⟨o, h _ _ ho, r⟩
theorem FDict.at (x : FDict knd g d kvs) (I : In g₀ D s₀ g μ s) : DAt knd s.heap d kvs := let ⟨o, ho, r⟩ := x; ⟨o, I.own.sub _ _ ho, r⟩
theorem In.dat (I : In g₀ D s₀ g μ s) {i : Nat} (hi : μ[i]? = some (d, dP knd d kvs)) : DAt knd s.heap d kvs := I.get hi
theorem DAt.of (x : DAt knd s.heap d kvs) : s.heap.DictOf knd d kvs := let ⟨o, ho, _, r⟩ := x; Heap.dictOf_iff.mpr ⟨o, ho, r⟩
theorem DAt.lo (x : DAt knd s.heap d kvs) : (d == sysModules) = false := let ⟨_, _, r, _⟩ := x; r

theorem notMods (B : Base h₀ mg mb) (hb : Sub h₀ g) (I : In g₀ D s₀ g μ s) : (s.heap.objs.size == sysModules) = false := by
  obtain ⟨o, es, ep, ho, _⟩ := B.g
  have h1 := Heap.lt_size (I.own.sub _ _ (hb _ _ ho))
  rw [beq_eq_false_iff_ne]
  show s.heap.objs.size ≠ 1
  have : (3 : Nat) < s.heap.objs.size := h1
  omega

theorem dd_item {value slice : Expr} {Q : Value → Shared → Prop} (I : In g₀ D s₀ g μ s) (x : DAt knd s.heap d kvs) (hkey : knd.is k key = true) (hl : valueAt kvs k = some v) (h : ∀ s', In g₀ D s₀ g μ s' → Q v s')
    (hs : subscripted slice false (.ref d) key = operate [.ref d, key] (getItem (.ref d) key) := by with_unfolding_all rfl) (hg : ∀ r, letTemporaryGo value (.ref d) r = pure () := by intro _; with_unfolding_all rfl) :
    wpAny (model prog w) A (subscriptTail value slice (.ref d) key) Q E s :=
  subscriptTail_builtin x.of.typeIs slot_dict_getitem.lookup (wpAny_getItem_of hkey x.of.mapOf hl (h _ (I.tok _))) hs hg
theorem dd_notin {Q : Value → Shared → Prop} (I : In g₀ D s₀ g μ s) (x : DAt knd s.heap d kvs) (hkey : knd.is k key = true) (h : ∀ s', In g₀ D s₀ g μ s' → Q (.bool (!(valueAt kvs k).isSome)) s') :
    wpAny (model prog w) A (compareOp .NotIn key (.ref d)) Q E s := wpAny_notIn_of hkey x.lo x.of.mapOf (h _ (I.tok _))
theorem dd_method {name : Str} {id : String} {pl : Sem Bool} {Q : Value × List Value → Shared → Prop} (slot : Slot "dict" name id) (ty : typeOf (.builtin id) = pure (.type "method_descriptor")) (x : DAt knd s.heap d kvs) (h : Q (.builtin id, [.ref d]) s) :
    wpAny (model prog w) A (getMethod (.ref d) name pl) Q E s :=
  getMethod_builtin x.of.typeIs PySem.F.plainAttrs_dict slot ty x.of.mapOf.noDict h
theorem dd_get2 {Q : Value → Shared → Prop} (I : In g₀ D s₀ g μ s) (x : DAt knd s.heap d kvs) (hkey : knd.is k key = true) (h : ∀ s', In g₀ D s₀ g μ s' → Q ((valueAt kvs k).getD dflt) s') :
    wpAny (model prog w) A (call (.builtin "dict.get") [.ref d, key, dflt]) Q E s :=
  call_meetsIn PySem.F.slot_dict_get x.of.typeIs PySem.F.entry_dict_get (PySem.F.args_dict_get_3 _ _ _) (meets_dict_get_default knd d hkey x.lo dflt) ⟨_, x.of.mapOf, h _ (I.tok _)⟩

theorem In.dput (I : In g₀ D s₀ g μ s) {i : Nat} (hi : μ[i]? = some (d, dP knd d kvs)) {kvs' : List (K × Value)} {h' : Heap} {tk : Nat} (hm : h'.DictOf knd d kvs') (hs : Heap.SameBut d s.heap h') :
    In g₀ D s₀ g (μ.set i (d, dP knd d kvs')) { s with heap := h', toks := tk } := by
  obtain ⟨o', ho', hd'⟩ := Heap.dictOf_iff.mp hm
  exact I.chg hi (fun b o hb e => (hs.2 b hb).trans e) ho' ⟨(I.dat hi).lo, hd'⟩

theorem dd_set (I : In g₀ D s₀ g μ s) {i : Nat} (hi : μ[i]? = some (d, dP knd d kvs)) (hkey : knd.is k key = true) (hsz : kvs.length ≤ 2 ^ 20) {Q : Unit → Shared → Prop}
    (h : ∀ s', In g₀ D s₀ g (μ.set i (d, dP knd d (stored kvs k v))) s' → Q () s') : wpAny (model prog w) A (setItem (.ref d) key v) Q E s :=
  wpAny_setItem_pairs (hsz := by rw [sizeLine_eq]; omega) hkey (I.dat hi).of fun zz hmm hs => h _ (I.dput hi hmm hs)

theorem dd_setdef (I : In g₀ D s₀ g μ s) {i : Nat} (hi : μ[i]? = some (d, dP knd d kvs)) (hkey : knd.is k key = true) (hargs : argsOk "dict.setdefault" ⟨[.ref d, key, dflt], []⟩) (hsz : kvs.length ≤ 2 ^ 20) {Q : Value → Shared → Prop}
    (h1 : ∀ s' v, valueAt kvs k = some v → In g₀ D s₀ g μ s' → Q v s')
    (h2 : ∀ s', valueAt kvs k = none → In g₀ D s₀ g (μ.set i (d, dP knd d (stored kvs k dflt))) s' → Q dflt s') :
    wpAny (model prog w) A (call (.builtin "dict.setdefault") [.ref d, key, dflt]) Q E s :=
  call_meetsIn PySem.F.slot_dict_setdefault (I.dat hi).of.typeIs PySem.F.entry_dict_setdefault hargs (kt_meets_setdefault knd d hkey (I.dat hi).lo dflt)
    ⟨kvs, (I.dat hi).of, by rw [sizeLine_eq]; omega, fun v hv => h1 _ v hv (I.tok _), fun hn h' hmm hs => h2 _ hn (I.dput hi hmm hs)⟩

theorem dd_disp (B : Base h₀ mg mb) (hb : Sub h₀ g) (I : In g₀ D s₀ g μ s) {keys : List (Option Expr)} {values : List Expr} {pos : Pos} {Q : Value → Shared → Prop}
    (hall : keys.all (·.isSome) = true) (hl : keys.length = values.length) (h0 : keys ≠ []) (hlen : keys.length ≤ 15)
    (h : ∀ a s', s₀.heap.get? a = none → In g₀ D s₀ g ((a, dP knd a []) :: μ) s' → wpAny (model prog w) A (evalPairs (pairTrees keys values env pos)) (fun vs s₁ => ∃ g' μ' kvs, ∃ i : Nat, Carries knd vs kvs ∧ In g₀ D s₀ g' μ' s₁ ∧ μ'[i]? = some (a, dP knd a []) ∧
      ∀ s'', In g₀ D s₀ g' (μ'.set i (a, dP knd a (merged [] kvs))) s'' → Q (.ref a) s'') E s') :
    wpAny (model prog w) A (eval (.Dict keys values pos) env) Q E s := by
  have hnm := notMods B hb I
  have I1 := I.new (o := { cls := .type "dict", data := .dict #[] }) (P := dP knd s.heap.objs.size []) ⟨hnm, by
    obtain ⟨o, ho, hd⟩ := Heap.dictOf_iff.mp (Heap.DictOf.new (knd := knd) s.heap)
    rw [Heap.get?_push_size _ rfl] at ho
    cases ho; exact hd⟩
  refine wpAny_Dict_walk (knd := knd) hall hl h0 hlen (wpAny_mono (h _ _ I.free I1) (fun vs s₁ h₁ => ?_) fun zz zz e => e)
  obtain ⟨g', μ', kvs, i, hc, I2, hi, hQ⟩ := h₁
  exact ⟨kvs, hc, (I2.dat hi).of, fun h' hm hs => hQ _ (I2.dput hi hm hs)⟩

theorem dd_empty (B : Base h₀ mg mb) (hb : Sub h₀ g) (I : In g₀ D s₀ g μ s) {pos : Pos} {Q : Value → Shared → Prop}
    (h : ∀ a s', s₀.heap.get? a = none → (a == sysModules) = false → (∀ (K : Type) [DecidableEq K] (knd : KeyKind prog w K), In g₀ D s₀ g ((a, dP knd a []) :: μ) s') → In g₀ D s₀ g ((a, fun o => o = { cls := .type "dict", data := .dict #[] }) :: μ) s' → Q (.ref a) s') :
    wpAny (model prog w) A (eval (.Dict [] [] pos) env) Q E s := by
  have hnm := notMods B hb I
  refine wpAny_Dict_empty (h _ _ I.free hnm (fun K zz knd => ?_) (I.new (o := { cls := .type "dict", data := .dict #[] }) rfl))
  exact I.new (o := { cls := .type "dict", data := .dict #[] }) (P := dP knd s.heap.objs.size []) ⟨hnm, by
    obtain ⟨o, ho, hd⟩ := Heap.dictOf_iff.mp (Heap.DictOf.new (knd := knd) s.heap)
    rw [Heap.get?_push_size _ rfl] at ho
    cases ho; exact hd⟩
end
end Mine
end

section
open PySem PySem.W PyProof.Rows PySem.Calls
set_option tactic.hygienic false
set_option linter.all false
namespace Mine
theorem ite_t {c : Prop} [Decidable c] {P Q : Prop} (h : c) (p : P) : if c then P else Q := by rw [if_pos h]; exact p
theorem ite_f {c : Prop} [Decidable c] {P Q : Prop} (h : ¬ c) (q : Q) : if c then P else Q := by rw [if_neg h]; exact q
section
variable {prog : Program} {w : World} {A : Around} {E : Value → Shared → Prop} {g₀ g h₀ : Heap} {D : List Addr} {s₀ s : Shared} {μ : List Res} {env : Env}
theorem lm_method (I : In g₀ D s₀ g μ s) {i : Nat} {a : Addr} {vs : List Value} (hi : μ[i]? = some (a, listP vs)) {name : Str} {id : String} {pl : Sem Bool} {Q : Value × List Value → Shared → Prop} (slot : Slot "list" name id)
    (ty : typeOf (.builtin id) = pure (.type "method_descriptor")) (h : Q (.builtin id, [.ref a]) s) :
    wpAny (model prog w) A (getMethod (.ref a) name pl) Q E s := by
  obtain ⟨n, ho⟩ := get_list I hi
  refine getMethod_builtin (T := "list") ⟨_, ho, rfl⟩ PySem.F.plainAttrs_list slot ty (fun b e => ?_) h
  cases e; exact ⟨_, ho, rfl⟩

theorem len_own (I : In g₀ D s₀ g μ s) {i : Nat} {a : Addr} {vs : List Value} (hi : μ[i]? = some (a, listP vs)) (hn : vs.length < 2 ^ 20) {Q : Value → Shared → Prop} (h : ∀ s' t, In g₀ D s₀ g μ s' → Q (.int vs.length t) s') :
    wpAny (model prog w) A (call (.builtin "len") [.ref a]) Q E s := by
  obtain ⟨n, ho⟩ := get_list I hi
  refine call_len_list (items := vs.toArray) ⟨_, ho, rfl, _, rfl⟩ (by simp; omega) ?_
  rw [List.size_toArray]
  exact h _ _ (I.tok _)
end
end Mine
end

section
open PySem PySem.W PyProof.Rows PySem.Calls
set_option tactic.hygienic false
set_option linter.all false
namespace Mine
section
variable {prog : Program} {w : World} {A : Around} {E : Value → Shared → Prop} {g₀ g h₀ : Heap} {D : List Addr} {s₀ s : Shared} {μ : List Res} {env : Env}

noncomputable def ForK (prog : Program) (w : World) (A : Around) (g₀ : Heap) (D : List Addr) (s₀ : Shared) (target : Expr) (body : List Stmt) (env : Env) (Q : Flow → Shared → Prop) (it : Value) (s : Shared) : Prop :=
  ∃ xs g μ, ∃ K : Nat → Heap → List Res → Prop, It prog w A g₀ D s₀ target it xs g μ s ∧ K 0 g μ ∧
      (∀ (i : Nat) (x : PyData) (v : Value) (g' : Heap) (μ' : List Res) (s' : Shared) (rest : List Res), xs[i]? = some x → Sub g g' → Rd g' v x → K i g' μ' → In g₀ D s₀ g' (μ' ++ rest) s' →
        wpAny (model prog w) A (assign target env v) (fun zz s₂ => wpAny (model prog w) A (execs body env) (fun f s₃ => match f with
          | .next | .cont => ∃ g'' μ'', Sub g' g'' ∧ In g₀ D s₀ g'' (μ'' ++ rest) s₃ ∧ K (i + 1) g'' μ''
          | .brk => Q .next s₃
          | .ret v => Q (.ret v) s₃) (fun zz zz => False) s₂) (fun zz zz => False) s') ∧
      (∀ i g' g'' μ', Sub g' g'' → K i g' μ' → K i g'' μ') ∧
      (∀ g' μ' s', Sub g g' → K xs.length g' μ' → In g₀ D s₀ g' μ' s' → Q .next s')

theorem x_for (_ : In g₀ D s₀ g μ s) {target iter : Expr} {body : List Stmt} {pos : Pos} {Q : Flow → Shared → Prop}
    (hs : ∀ x, foldedSetIterable iter env x = pure x)
    (h : wpAny (model prog w) A (eval iter env) (fun xv s₁ => wpAny (model prog w) A (pyIter xv) (ForK prog w A g₀ D s₀ target body env Q) E s₁) E s) :
    wpAny (model prog w) A (exec (.For target iter body [] pos) env) Q E s := by
  refine for_rule (g₀ := g₀) (D := D) (s₀ := s₀) hs (wpAny_mono h (fun xv s₁ h₁ => wpAny_mono h₁ (fun it s₂ h₂ => ?_) fun zz zz e => e) fun zz zz e => e)
  obtain ⟨xs, g, μ, K, ⟨gb, ρ, N, hg, hρ, I⟩, h0, turn, hmono, fin⟩ := h₂
  exact ⟨gb, xs.length, ρ, VS xs, g, μ, K, N, hg, hρ, h0, I, fun i g' μ' s' v rest hi h1 h2 hK ⟨x, hx, hv⟩ I' => turn i x v g' μ' s' rest hx h1 hv hK I', hmono, fin⟩

theorem ForK.of {α : Type} (l : List α) (dec : α → PyData) (K : Nat → Heap → List Res → Prop) {target : Expr} {body : List Stmt} {Q : Flow → Shared → Prop} {it : Value} {xs : List PyData}
    (X : It prog w A g₀ D s₀ target it xs g μ s) (e : xs = l.map dec) (h0 : K 0 g μ)
    (turn : ∀ (i : Nat) (x : α) (v : Value) (g' : Heap) (μ' : List Res) (s' : Shared) (rest : List Res), l[i]? = some x → Sub g g' → Rd g' v (dec x) → K i g' μ' → In g₀ D s₀ g' (μ' ++ rest) s' →
        ∀ Qk : Flow → Shared → Prop, (∀ f s₃, (match f with
          | .next | .cont => ∃ g'' μ'', Sub g' g'' ∧ In g₀ D s₀ g'' (μ'' ++ rest) s₃ ∧ K (i + 1) g'' μ''
          | .brk => Q .next s₃
          | .ret v => Q (.ret v) s₃) → Qk f s₃) →
        wpAny (model prog w) A (assign target env v) (fun zz s₂ => wpAny (model prog w) A (execs body env) Qk (fun zz zz => False) s₂) (fun zz zz => False) s')
    (hmono : ∀ i g' g'' μ', Sub g' g'' → K i g' μ' → K i g'' μ')
    (fin : ∀ g' μ' s', Sub g g' → K l.length g' μ' → In g₀ D s₀ g' μ' s' → Q .next s') : ForK prog w A g₀ D s₀ target body env Q it s := by
  subst e
  refine ⟨_, g, μ, K, X, h0, fun i x v g' μ' s' rest hx h1 hv hK I' => ?_, hmono, by rw [List.length_map]; exact fin⟩
  rw [List.getElem?_map] at hx
  obtain ⟨a, ha, rfl⟩ := Option.map_eq_some_iff.mp hx
  exact turn i a v g' μ' s' rest ha h1 hv hK I' _ fun zz zz x => x

theorem cut_tup_fromN (I : In g₀ D s₀ g μ s) {v : Value} {ds : List PyData} {j : Int} {a : Nat} {t : Tok} {Q : Value → Shared → Prop} (hv : Rd g v (.tuple ds)) (hj : j = a) (hn : ds.length ≤ 2 ^ 20)
    (h : ∀ g' s' r, Sub g g' → In g₀ D s₀ g' μ s' → Rd g' r (.tuple (ds.drop a)) → Q r s') : Cut prog w A E v (.int j t) .none Q s := by
  subst hj; exact cut_tup_from I hv hn h
theorem cut_tup_uptoN (I : In g₀ D s₀ g μ s) {v : Value} {ds : List PyData} {j : Int} {a : Nat} {t : Tok} {Q : Value → Shared → Prop} (hv : Rd g v (.tuple ds)) (hj : j = a) (hn : ds.length ≤ 2 ^ 20)
    (h : ∀ g' s' r, Sub g g' → In g₀ D s₀ g' μ s' → Rd g' r (.tuple (ds.take a)) → Q r s') : Cut prog w A E v .none (.int j t) Q s := by
  subst hj; exact cut_tup_upto I hv hn h

theorem i_tupN (I : In g₀ D s₀ g μ s) {value slice : Expr} {v : Value} {ds : List PyData} {i : Int} {k : Nat} {u : Tok} {d : PyData} {Q : Value → Shared → Prop} (hv : Rd g v (.tuple ds)) (hi : i = k) (hk : ds[k]? = some d) (hn : ds.length < 2 ^ 20)
    (h : ∀ x, Rd g x d → Q x s)
    (hs : ∀ t, subscripted slice false (.ref t) (.int i u) = operate [.ref t, .int i u] (getItem (.ref t) (.int i u)) := by intro _; with_unfolding_all rfl) :
    wpAny (model prog w) A (subscriptTail value slice v (.int i u)) Q E s := by
  subst hi
  exact i_tup I hv hk hn h hs
end
end Mine
end

section
open PySem PySem.W PyProof.Rows PySem.Calls
set_option tactic.hygienic false
set_option linter.all false
namespace Mine
section
variable {prog : Program} {w : World} {A : Around} {E : Value → Shared → Prop} {g₀ g h₀ : Heap} {D : List Addr} {s₀ s : Shared} {μ : List Res} {env : Env}
theorem c_bool {b : Bool} {k : Nat} {pos : Pos} {Q : Value → Shared → Prop} (h : Q (.bool b) s) : wpAny (model prog w) A (eval (.Constant (.bool b) k pos) env) Q E s := wpAny_Constant_bool h
theorem c_none {k : Nat} {pos : Pos} {Q : Value → Shared → Prop} (h : Q .none s) : wpAny (model prog w) A (eval (.Constant .none k pos) env) Q E s := wpAny_Constant_none h
theorem own_reads (I : In g₀ D s₀ g μ s) {i : Nat} {a : Addr} {vs : List Value} {xs : List PyData} (hi : μ[i]? = some (a, listP vs)) (hr : Rds g vs xs) : Rd s.heap (.ref a) (.list xs) := by
  obtain ⟨n, ho⟩ := get_list I hi
  exact Rd.lst ⟨_, ho, rfl, n, rfl⟩ (hr.mono I.own.sub)
theorem own_notin (I : In g₀ D s₀ g μ s) {i : Nat} {a : Addr} {v : Value} {vs : List Value} {d : PyData} {xs : List PyData} {n : Nat} {Q : Value → Shared → Prop} (ha : Rd g v d) (hi : μ[i]? = some (a, listP vs)) (hr : Rds g vs xs)
    (h1 : d.canLay0 = true) (h2 : PyData.canLayAll0 xs = true) (h3 : d.depth ≤ 60) (hA : Room A n) (h : Q (.bool (!xs.any fun y => PyData.eqv y d)) s) : wpAny (model prog w) A (compareOp .NotIn v (.ref a)) Q E s := by
  obtain ⟨as, ra⟩ := ha.mono I.own.sub
  obtain ⟨bs, rb⟩ := own_reads I hi hr
  exact SeqAt.notIn_list_reads rb ra h2 h1 (un_min1 hA h3) h

theorem CompK.st {α : Type} (l : List α) (dec : α → PyData) (K : Nat → List PyData → Heap → List Res → Prop) {elt target : Expr} {scope : Scope} {cl : List (Str × Addr)} {Fin : List PyData → Heap → List Res → Prop} {it : Value} {xs : List PyData}
    (X : It prog w A g₀ D s₀ target it xs g μ s) (e : xs = l.map dec) (hn : xs.length ≤ 2 ^ 20) (h0 : K 0 [] g μ)
    (turn : ∀ (C : Addr) (i : Nat) (x : α) (v : Value) (ds : List PyData) (g' : Heap) (μ' : List Res) (s' : Shared) (m cm : Str → Option Value) (rest : List Res), l[i]? = some x → Sub g g' → Rd g' v (dec x) → K i ds g' μ' → In g₀ D s₀ g' (frC C (cellsFrom (C + 1) scope.names []) m cm ++ (μ' ++ rest)) s' →
        let cenv : Env := cenvOf scope env C cl
        wpAny (model prog w) A (assign target cenv v) (fun zz s₂ => wpAny (model prog w) A (eval elt cenv) (fun y s₄ => ∃ g'' μ'' m' cm' d, Sub g' g'' ∧ In g₀ D s₀ g'' (frC C (cellsFrom (C + 1) scope.names []) m' cm' ++ (μ'' ++ rest)) s₄ ∧ Rd g'' y d ∧ K (i + 1) (ds ++ [d]) g'' μ'') (fun zz zz => False) s₂) (fun zz zz => False) s')
    (hmono : ∀ i ds g' g'' μ', Sub g' g'' → K i ds g' μ' → K i ds g'' μ')
    (fin : ∀ ds g' μ', Sub g g' → K l.length ds g' μ' → Fin ds g' μ') : CompK prog w A g₀ D s₀ elt target [] scope env cl Fin it s := by
  subst e
  refine ⟨_, g, μ, K, X, hn, h0, fun C i x v ds g' μ' s' m cm rest hx hg hv hK I' => ?_, hmono, by rw [List.length_map]; exact fin⟩
  rw [List.getElem?_map] at hx
  obtain ⟨a, ha, rfl⟩ := Option.map_eq_some_iff.mp hx
  refine wpAny_mono (turn C i a v ds g' μ' s' m cm rest ha hg hv hK I') (fun zz s₂ h₂ => tests_nil ?_) fun zz zz e => e
  rw [if_pos rfl]
  exact h₂
end
end Mine
end

section
open PySem PySem.W PyProof.Rows PySem.Calls
set_option tactic.hygienic false
set_option linter.all false
namespace Mine

section
variable {prog : Program} {w : World} {A : Around} {E : Value → Shared → Prop} {g₀ g gb : Heap} {D : List Addr} {s₀ s : Shared} {μ : List Res} {env : Env} {κ₁ κ₂ : SeqKind} {z TI TO i1 i2 l1 l2 : Addr} {xs ys : List Value} {i : Nat} {x y : Value} {T : Addr} {b : Bool}

theorem wpAny_loadIfAlive {M : Model} {a : Addr} {Q : Option Obj → Shared → Prop} (h : Q (s.heap.get? a) s) : wpAny M A (loadIfAlive a) Q E s := fun Γ p hΓ => by
  unfold loadIfAlive
  rw [Sem.wp_loadIfAlive]
  exact wpAny_pure (M := M) (A := A) (E := E) h Γ p hΓ


theorem held_busy (I : In g₀ D s₀ g ((z, zipH T b TI TO) :: μ) s) {oT : Obj} (hT : g.get? T = some oT) {Q : Bool → Shared → Prop}
    (h : ∀ s', In g₀ D s₀ g ((z, zipH T true TI TO) :: μ) s' → Q false s') :
    wpAny (model prog w) A (Builtin.SmallTypes.ownedTupleIsFree (.ref z)) Q E s := by
  obtain ⟨oz, hz, e⟩ := I.get (i := 0) (a := z) (P := zipH T b TI TO) rfl
  rw [e] at hz; clear e
  unfold Builtin.SmallTypes.ownedTupleIsFree
  refine wpAny_bind (wpAny_field hz rfl (x := rawInt T) rfl ?_)
  show wpAny _ _ (loadIfAlive T >>= _) _ _ _
  refine wpAny_bind (wpAny_loadIfAlive ?_)
  rw [I.own.sub _ _ hT]
  simp only [Option.isNone_some, Bool.false_eq_true, if_false]
  refine wpAny_bind (wpAny_field hz rfl (x := .bool b) rfl ?_)
  cases b with
  | false =>
    show wpAny _ _ (setField (.ref z) 1 (.bool true) >>= _) _ _ _
    refine wpAny_bind (wpAny_setField_rec hz (by simp) fun h₁ hz₁ hs₁ => ?_)
    have I1 := I.chg (i := 0) (tk := s.toks) (P' := zipH T true TI TO) rfl (fun b o hb e => hs₁.extBut b o hb e) hz₁ rfl
    exact wpAny_pure (h _ I1)
  | true => exact wpAny_pure (h _ I)

theorem zip_item1 (I : In g₀ D s₀ g ((z, zipH T b TI TO) :: (TO, pairP) :: (i1, iterP κ₁.iter l1 i) :: (i2, iterP κ₂.iter l2 i) :: μ) s) {oT : Obj} (hT : g.get? T = some oT) (hs : Sub gb g) (hl1 : κ₁.at gb l1 xs) (hl2 : κ₂.at gb l2 ys)
    (hTI : gb.get? TI = some { cls := .type "tuple", data := .seq #[.ref i1, .ref i2] }) (hx : xs[i]? = some x) (hy : ys[i]? = some y) {Q : Option Value → Shared → Prop}
    (hG : ∀ g' s' T', Sub g g' → g'.get? T' = some { cls := .type "tuple", data := .seq #[x, y] } → In g₀ D s₀ g' ((z, zipH T true TI TO) :: (TO, pairP) :: (i1, iterP κ₁.iter l1 (i + 1)) :: (i2, iterP κ₂.iter l2 (i + 1)) :: μ) s' → Q (some (.ref T')) s') :
    wpAny (model prog w) A (pyNext (.ref z)) Q E s := by
  obtain ⟨oz, hz, e⟩ := I.get (i := 0) (a := z) (P := zipH T b TI TO) rfl
  rw [e] at hz; clear e
  have hTIs := hs.trans I.own.sub _ _ hTI
  have hTy : s.TypeIs (.ref z) "zip" := ⟨_, hz, rfl⟩
  unfold pyNext
  refine wpAny_bind (wpAny_attempt (wpAny_callSpecial?_slot (name := Str.ofString "__next__") hTy F.slot_zip_next
    (wpAny_call_entry F.slot_zip_next hTy F.entry_zip_next ?_ (F.args_zip_next_1 _))))
  show wpAny _ _ (field (.ref z) 2 >>= _) _ _ _
  refine wpAny_bind (wpAny_field hz rfl (x := .bool false) rfl ?_)
  show wpAny _ _ (field (.ref z) 3 >>= _) _ _ _
  refine wpAny_bind (wpAny_field hz rfl (x := .ref TI) rfl ?_)
  refine wpAny_bind (wpAny_seqItems hTIs rfl ?_)
  show wpAny _ _ (Builtin.SmallTypes.ownedTupleIsFree (.ref z) >>= _) _ _ _
  refine wpAny_bind (held_busy I hT fun s1 I1 => ?_)
  clear I hz
  simp only [Bool.false_eq_true, if_false]
  refine wpAny_bind ?_
  rw [← Array.forIn_toList]
  simp only [List.forIn_cons, List.forIn_nil]
  refine wpAny_bind (wpAny_bind (wpAny_holding ?_))
  show wpAny _ _ (Builtin.SmallTypes.nextOf (.ref i1) >>= _) _ _ _
  obtain ⟨o1, ho1, e⟩ := I1.get (i := 2) (a := i1) (P := iterP κ₁.iter l1 i) rfl
  rw [e] at ho1; clear e
  refine wpAny_bind (nextOf_item ho1 (SeqKind.at_sub hl1 (hs.trans I1.own.sub)) hx fun h₂ ho2 hs₂ => wpAny_pure ?_)
  have I2 := I1.chg (i := 2) (tk := s1.toks) (P' := iterP κ₁.iter l1 (i + 1)) rfl (fun b o hb e => hs₂.extBut b o hb e) ho2 rfl
  clear ho1 ho2 I1
  refine wpAny_pure ?_
  refine wpAny_bind (wpAny_bind (wpAny_holding ?_))
  show wpAny _ _ (Builtin.SmallTypes.nextOf (.ref i2) >>= _) _ _ _
  obtain ⟨o2, ho2, e⟩ := I2.get (i := 3) (a := i2) (P := iterP κ₂.iter l2 i) rfl
  rw [e] at ho2; clear e
  refine wpAny_bind (nextOf_item ho2 (SeqKind.at_sub hl2 (hs.trans I2.own.sub)) hy fun h₄ ho4 hs₄ => wpAny_pure ?_)
  have I4 := I2.chg (i := 3) (tk := s1.toks) (P' := iterP κ₂.iter l2 (i + 1)) rfl (fun b o hb e => hs₄.extBut b o hb e) ho4 rfl
  clear ho2 ho4 I2
  refine wpAny_pure (wpAny_pure ?_)
  refine wpAny_bind (wpAny_newTuple (hsz := by show 2 ≤ sizeLine; rw [sizeLine_eq]; decide) ?_)
  obtain ⟨g', hsg, hTg, I6⟩ := I4.newFrozen { cls := .type "tuple", data := .seq #[x, y] } rfl
  exact wpAny_pure ⟨_, rfl, wpAny_pure (hG g' _ _ hsg hTg I6)⟩

theorem zip_end1 (hh : A.handled = none) (I : In g₀ D s₀ g ((z, zipH T b TI TO) :: (TO, pairP) :: (i1, iterP κ₁.iter l1 i) :: (i2, iterP κ₂.iter l2 i) :: μ) s) {oT : Obj} (hT : g.get? T = some oT) (hs : Sub gb g) (hl1 : κ₁.at gb l1 xs)
    (hTI : gb.get? TI = some { cls := .type "tuple", data := .seq #[.ref i1, .ref i2] }) (hx : xs[i]? = none) (hf1 : s₀.heap.get? i1 = none) {Q : Option Value → Shared → Prop}
    (hG : ∀ s', In g₀ D s₀ g μ s' → Q none s') :
    wpAny (model prog w) A (pyNext (.ref z)) Q E s := by
  obtain ⟨oz, hz, e⟩ := I.get (i := 0) (a := z) (P := zipH T b TI TO) rfl
  rw [e] at hz; clear e
  have hTIs := hs.trans I.own.sub _ _ hTI
  have hTy : s.TypeIs (.ref z) "zip" := ⟨_, hz, rfl⟩
  unfold pyNext
  refine wpAny_bind (wpAny_attempt (wpAny_callSpecial?_slot (name := Str.ofString "__next__") hTy F.slot_zip_next
    (wpAny_call_entry F.slot_zip_next hTy F.entry_zip_next ?_ (F.args_zip_next_1 _))))
  show wpAny _ _ (field (.ref z) 2 >>= _) _ _ _
  refine wpAny_bind (wpAny_field hz rfl (x := .bool false) rfl ?_)
  show wpAny _ _ (field (.ref z) 3 >>= _) _ _ _
  refine wpAny_bind (wpAny_field hz rfl (x := .ref TI) rfl ?_)
  refine wpAny_bind (wpAny_seqItems hTIs rfl ?_)
  show wpAny _ _ (Builtin.SmallTypes.ownedTupleIsFree (.ref z) >>= _) _ _ _
  refine wpAny_bind (held_busy I hT fun s1 I1 => ?_)
  clear I hz
  simp only [Bool.false_eq_true, if_false]
  refine wpAny_bind ?_
  rw [← Array.forIn_toList]
  simp only [List.forIn_cons, List.forIn_nil]
  refine wpAny_bind (wpAny_bind (wpAny_holding ?_))
  show wpAny _ _ (Builtin.SmallTypes.nextOf (.ref i1) >>= _) _ _ _
  obtain ⟨o1, ho1, e⟩ := I1.get (i := 2) (a := i1) (P := iterP κ₁.iter l1 i) rfl
  rw [e] at ho1; clear e
  refine wpAny_bind (nextOf_end (by first | exact hh | (show A.in1.handled = none; exact hh)) ho1 (SeqKind.at_sub hl1 (hs.trans I1.own.sub)) hx fun h₂ e hs₂ hne he => ?_)
  have I2 := In.dropTo (tk := s1.toks) (I1.perm (ν := (i1, iterP κ₁.iter l1 i) :: (z, zipH T true TI TO) :: (TO, pairP) :: (i2, iterP κ₂.iter l2 i) :: μ) (by
    refine List.Perm.trans (List.Perm.cons _ (List.Perm.swap _ _ _)) (List.Perm.swap _ _ _))) hf1 (h' := h₂) fun b o hb e => hs₂ b o hb e
  obtain ⟨oe, hoe, hce⟩ := he
  refine wpAny_bind (wpAny_isInstance (T := "StopIteration") (b := true) ⟨oe, hoe, hce⟩ isSubtype_stop ?_)
  exact wpAny_pure (hG _ (I2.sub (List.Sublist.cons _ (List.Sublist.cons _ (List.Sublist.cons _ (List.Sublist.refl _))))))

noncomputable def ZSt (g : Heap) (TI TO : Addr) (P : Obj → Prop) : Prop := P = zipP .none TI TO ∨ ∃ T b oT, P = zipH T b TI TO ∧ g.get? T = some oT

theorem zip_item {P : Obj → Prop} (hP : ZSt g TI TO P) (I : In g₀ D s₀ g ((z, P) :: (TO, pairP) :: (i1, iterP κ₁.iter l1 i) :: (i2, iterP κ₂.iter l2 i) :: μ) s) (hs : Sub gb g) (hl1 : κ₁.at gb l1 xs) (hl2 : κ₂.at gb l2 ys)
    (hTI : gb.get? TI = some { cls := .type "tuple", data := .seq #[.ref i1, .ref i2] }) (hx : xs[i]? = some x) (hy : ys[i]? = some y) {Q : Option Value → Shared → Prop}
    (hG : ∀ g' s' T' P', Sub g g' → ZSt g' TI TO P' → g'.get? T' = some { cls := .type "tuple", data := .seq #[x, y] } → In g₀ D s₀ g' ((z, P') :: (TO, pairP) :: (i1, iterP κ₁.iter l1 (i + 1)) :: (i2, iterP κ₂.iter l2 (i + 1)) :: μ) s' → Q (some (.ref T')) s') :
    wpAny (model prog w) A (pyNext (.ref z)) Q E s := by
  rcases hP with rfl | ⟨T, b, oT, rfl, hT⟩
  · exact zip_item0 I hs hl1 hl2 hTI hx hy fun g' s' T h1 h2 I' => hG g' s' T _ h1 (.inr ⟨T, false, _, rfl, h2⟩) h2 I'
  · exact zip_item1 I hT hs hl1 hl2 hTI hx hy fun g' s' T' h1 h2 I' => hG g' s' T' _ h1 (.inr ⟨T, true, _, rfl, h1 _ _ hT⟩) h2 I'
theorem zip_end {P : Obj → Prop} (hP : ZSt g TI TO P) (hh : A.handled = none) (I : In g₀ D s₀ g ((z, P) :: (TO, pairP) :: (i1, iterP κ₁.iter l1 i) :: (i2, iterP κ₂.iter l2 i) :: μ) s) (hs : Sub gb g) (hl1 : κ₁.at gb l1 xs)
    (hTI : gb.get? TI = some { cls := .type "tuple", data := .seq #[.ref i1, .ref i2] }) (hx : xs[i]? = none) (hfz : s₀.heap.get? z = none) (hf1 : s₀.heap.get? i1 = none) {Q : Option Value → Shared → Prop}
    (hG : ∀ s', In g₀ D s₀ g μ s' → Q none s') :
    wpAny (model prog w) A (pyNext (.ref z)) Q E s := by
  rcases hP with rfl | ⟨T, b, oT, rfl, hT⟩
  · exact zip_end0 hh I hs hl1 hTI hx hfz hf1 hG
  · exact zip_end1 hh I hT hs hl1 hTI hx hf1 hG

set_option tactic.hygienic true in
theorem ext_loop (hh : A.handled = none) (hl1 : κ₁.at gb l1 xs) (hl2 : κ₂.at gb l2 ys) (hTI : gb.get? TI = some { cls := .type "tuple", data := .seq #[.ref i1, .ref i2] }) (hfz : s₀.heap.get? z = none) (hf1 : s₀.heap.get? i1 = none)
    {ds es : List PyData} (h1 : Rds gb xs ds) (h2 : Rds gb ys es) (hlen : ds.length = es.length) {a : Addr} {j : Nat} {R : Result → Shared → Prop} :
    ∀ (k i : Nat) (g : Heap) (s : Shared) (P : Obj → Prop) (μ : List Res) (vs : List Value), i + k = ds.length → vs.length + k ≤ 2 ^ 20 → Sub gb g → ZSt g TI TO P → μ[j]? = some (a, listP vs) →
      In g₀ D s₀ g ((z, P) :: (TO, pairP) :: (i1, iterP κ₁.iter l1 i) :: (i2, iterP κ₂.iter l2 i) :: μ) s →
      (∀ g' s' ts, Sub g g' → Rds g' ts (zipD (ds.drop i) (es.drop i)) → In g₀ D s₀ g' (μ.set j (a, listP (vs ++ ts))) s' → R (.ok (.ret .none)) s') →
      codeAny (model prog w) A (.builtin "list.extend.loop" ⟨[.ref a, .ref z, .none], []⟩) R s
  | 0, i, g, s, P, μ, vs, hk, hv, hs, hP, hj, I, hR => by
    refine codeAny_builtin F.entry_extend_loop ?_
    rw [Around.under_plainId F.plain_extend_loop _]
    show wpAny _ A.in1 (pyNext (.ref z) >>= _) _ _ s
    refine wpAny_bind (zip_end hP (show A.in1.handled = none from hh) I hs hl1 hTI ?_ hfz hf1 fun s' I' => ?_)
    · rw [List.getElem?_eq_none_iff, h1.length]; omega
    refine wpAny_pure (hR g s' [] (Sub.refl g) ?_ ?_)
    · rw [List.drop_eq_nil_of_le (by first | decide | exact lle ‹_› rfl | exact llt ‹_› rfl | exact lll ‹_› rfl | exact llm ‹_› rfl | omega)]; simpa [zipD] using Rds.nil
    · rw [List.append_nil]
      have e : μ.set j (a, listP vs) = μ := by
        apply List.ext_getElem?
        intro m
        rw [List.getElem?_set]
        split
        · rename_i e; subst e
          rw [hj, if_pos (List.getElem?_eq_some_iff.mp hj).1]
        · rfl
      rw [e]; exact I'
  | k + 1, i, g, s, P, μ, vs, hk, hv, hs, hP, hj, I, hR => by
    refine codeAny_builtin F.entry_extend_loop ?_
    rw [Around.under_plainId F.plain_extend_loop _]
    show wpAny _ A.in1 (pyNext (.ref z) >>= _) _ _ s
    have hxl : i < xs.length := by rw [h1.length]; omega
    have hyl : i < ys.length := by rw [h2.length]; omega
    obtain ⟨d, hd, hxd⟩ := h1.getV (List.getElem?_eq_getElem hxl)
    obtain ⟨e, he, hye⟩ := h2.getV (List.getElem?_eq_getElem hyl)
    refine wpAny_bind (zip_item hP I hs hl1 hl2 hTI (List.getElem?_eq_getElem hxl) (List.getElem?_eq_getElem hyl) fun g' s' T P' hsg hP' hT I' => ?_)
    show wpAny _ A.in1 (updateSeq a (·.push (.ref T)) >>= _) _ _ _
    have hj' : ((z, P') :: (TO, pairP) :: (i1, iterP κ₁.iter l1 (i + 1)) :: (i2, iterP κ₂.iter l2 (i + 1)) :: μ)[j + 4]? = some (a, listP vs) := hj
    obtain ⟨n, ho⟩ := get_list I' hj'
    refine wpAny_bind (wpAny_updateSeq ho rfl (wpAny_pure ⟨plainId_quiet F.plain_extend_loop _, ?_⟩) (by rw [sizeLine_eq]; simp; omega) (by show (vs.toArray.push _).size ≤ sizeLine + 1; rw [sizeLine_eq]; simp; omega))
    have I2 := I'.turnList hj' (f := (·.push (.ref T))) (ws := vs ++ [Value.ref T]) (by simp)
    have hjl := (List.getElem?_eq_some_iff.mp hj).1
    refine ext_loop (j := j) hh hl1 hl2 hTI hfz hf1 h1 h2 hlen k (i + 1) g' _ P' (μ.set j (a, listP (vs ++ [Value.ref T]))) (vs ++ [Value.ref T]) (by first | decide | exact lle ‹_› rfl | exact llt ‹_› rfl | exact lll ‹_› rfl | exact llm ‹_› rfl | omega) (by simp; omega) (hs.trans hsg) hP' ?_ I2 fun g'' s'' ts hs2 hts I3 => ?_
    · rw [List.getElem?_set_self hjl]
    · refine hR g'' s'' (Value.ref T :: ts) (hsg.trans hs2) ?_ ?_
      · have e1 : ds.drop i = d :: ds.drop (i + 1) := by
          rw [← (List.getElem?_eq_some_iff.mp hd).2, List.getElem_cons_drop]
        have e2 : es.drop i = e :: es.drop (i + 1) := by
          rw [← (List.getElem?_eq_some_iff.mp he).2, List.getElem_cons_drop]
        rw [e1, e2]
        show Rds g'' _ (.tuple [d, e] :: zipD (ds.drop (i + 1)) (es.drop (i + 1)))
        refine .cons (Rd.tup (vs := [xs[i], ys[i]]) ⟨_, hs2 _ _ hT, rfl, _, rfl⟩ (.two (hxd.mono ((hs.trans hsg).trans hs2)) (hye.mono ((hs.trans hsg).trans hs2)))) hts
      · rw [List.set_set, List.append_assoc] at I3
        exact I3

theorem zip_no_len : typeLookup (.type "zip") "__len__" = pure none := by rw [typeLookup_type, builtinLookup_eq_fast]; kernel_rfl
theorem zip_no_hint : typeLookup (.type "zip") "__length_hint__" = pure none := by rw [typeLookup_type, builtinLookup_eq_fast]; kernel_rfl

theorem ext_zip (hh : A.handled = none) (I : In g₀ D s₀ g μ s) {u v : Value} {ds es : List PyData} {a : Addr} {vs : List Value} {j : Nat} {Q Q' : Value → Shared → Prop} (hj : μ[j]? = some (a, listP vs)) (hu : Rd g u (.tuple ds)) (hv : Rd g v (.tuple es))
    (hlen : ds.length = es.length) (hn : vs.length + ds.length ≤ 2 ^ 20)
    (h : ∀ g' s' ts, Sub g g' → Rds g' ts (zipD ds es) → In g₀ D s₀ g' (μ.set j (a, listP (vs ++ ts))) s' → Q .none s')
    (hQ : ∀ z s₁, wpAny (model prog w) A (call (.builtin "list.extend") [.ref a, z]) Q E s₁ → Q' z s₁) :
    wpAny (model prog w) A (call (.type "zip") [u, v]) Q' E s := by
  refine b_zip_tup I hu hv fun g1 s1 z TI TO i1 i2 l1 l2 xs ys hs zz zz h1 h2 hl1 hl2 hTI f1 f2 f3 f4 I1 => hQ _ _ ?_
  have hj1 : ((z, zipP .none TI TO) :: (TO, pairP) :: (i1, iterP SeqKind.tup.iter l1 0) :: (i2, iterP SeqKind.tup.iter l2 0) :: μ)[j + 4]? = some (a, listP vs) := hj
  obtain ⟨n, ho⟩ := get_list I1 hj1
  obtain ⟨oz, hz, ez⟩ := I1.get (i := 0) (a := z) (P := zipP .none TI TO) rfl
  rw [ez] at hz; clear ez
  have haz : a ≠ z := fun e => by subst e; rw [ho] at hz; injection hz with hz; injection hz with h1; injection h1 with h2; exact absurd h2 (by decide)
  have hTz : s1.TypeIs (.ref z) "zip" := ⟨_, hz, rfl⟩
  refine wpAny_call (codeAny_call_builtin PySem.F.slot_list_extend.plain PySem.F.entry_list_extend (PySem.F.slot_list_extend.check _ _ _ _ _ _ _ _ ⟨_, ho, rfl⟩ (PySem.F.args_list_extend_2 _ _) ?_))
  show wpAny _ _ (Builtin.List.listExtendWith (.ref a) (.ref z) .none) _ _ _
  unfold Builtin.List.listExtendWith
  refine wpAny_bind (wpAny_typeOf hTz ?_)
  have e1 : Builtin.List.listSameRef (.ref a) (.ref z) = false := by simp [Builtin.List.listSameRef, haz]
  have e2 : (Value.type "zip" == Value.type "list") = false := by decide
  have e3 : (Value.type "zip" == Value.type "tuple") = false := by decide
  simp only [e1, e2, e3, Bool.or_false, Bool.false_eq_true, if_false]
  refine wpAny_bind (wpAny_pyIter_zip hz ?_)
  refine wpAny_bind (wpAny_holding ?_)
  unfold Builtin.List.listLengthHint
  refine wpAny_bind (wpAny_specialOf hTz zip_no_len ?_)
  show wpAny _ A.in1 (specialOf (Value.ref z) (Str.ofString "__length_hint__") >>= _) _ _ _
  refine wpAny_bind (wpAny_specialOf hTz zip_no_hint ?_)
  refine wpAny_pure ?_
  show wpAny _ A.in1 (rule "list.extend.makes-room" >>= fun zz => Builtin.List.listTouch (.ref a) >>= fun zz =>
    again (.builtin "list.extend.loop" ⟨[.ref a, .ref z, .none], []⟩)) _ _ _
  refine wpAny_bind (wpAny_rule ?_)
  refine wpAny_bind ?_
  show wpAny _ A.in1 (updateSeq a (·.push .none) >>= fun zz => updateSeq a (·.pop)) _ _ _
  refine wpAny_bind (wpAny_updateSeq ho rfl ?_ (by rw [sizeLine_eq]; simp; omega) (by show (vs.toArray.push _).size ≤ sizeLine + 1; rw [sizeLine_eq]; simp; omega))
  have I2 := I1.turnList hj1 (f := (·.push .none)) (ws := vs ++ [.none]) (by simp)
  have hjl := (List.getElem?_eq_some_iff.mp hj1).1
  have hj2 : (((z, zipP .none TI TO) :: (TO, pairP) :: (i1, iterP SeqKind.tup.iter l1 0) :: (i2, iterP SeqKind.tup.iter l2 0) :: μ).set (j + 4) (a, listP (vs ++ [.none])))[j + 4]? = some (a, listP (vs ++ [.none])) := List.getElem?_set_self hjl
  obtain ⟨n2, ho2⟩ := get_list I2 hj2
  refine wpAny_updateSeq ho2 rfl ?_ (by rw [sizeLine_eq]; simp; omega) (by show ((vs ++ [Value.none]).toArray.pop).size ≤ sizeLine + 1; rw [sizeLine_eq]; simp; omega)
  have I3 := I2.turnList hj2 (f := (·.pop)) (ws := vs) (by simp)
  rw [List.set_set] at I3
  refine wpAny_pure ⟨plainId_quiet F.plain_extend_loop _, ext_loop (j := j) hh hl1 hl2 hTI f1 f3 h1 h2 hlen ds.length 0 g1 _ (zipP .none TI TO) (μ.set j (a, listP vs)) vs (by first | decide | exact lle ‹_› rfl | exact llt ‹_› rfl | exact lll ‹_› rfl | exact llm ‹_› rfl | omega) (by first | decide | exact lle ‹_› rfl | exact llt ‹_› rfl | exact lll ‹_› rfl | exact llm ‹_› rfl | omega) (Sub.refl _) (.inl rfl) (List.getElem?_set_self (List.getElem?_eq_some_iff.mp hj).1) I3 fun g' s' ts hs2 hts I4 => ?_⟩
  rw [List.set_set] at I4
  exact h g' s' ts (hs.trans hs2) (by simpa using hts) I4
end
end Mine
end

section
open PySem PySem.W PyProof.Rows PySem.Calls
set_option tactic.hygienic false
set_option linter.all false
namespace Mine
section
variable {prog : Program} {w : World} {A : Around} {E : Value → Shared → Prop} {g₀ g : Heap} {D : List Addr} {s₀ s : Shared} {μ : List Res} {env : Env}

theorem x_while (I : In g₀ D s₀ g μ s) {test : Expr} {body : List Stmt} {pos : Pos} {Q : Flow → Shared → Prop} (K : Nat → Heap → List Res → Prop) (n : Nat) (h0 : K n g μ)
    (turn : ∀ n g' μ' s', Sub g g' → K n g' μ' → In g₀ D s₀ g' μ' s' → wpAny (model prog w) A (isTrue test env (eval test env)) (fun b s₂ =>
      if b = true then wpAny (model prog w) A (execs body env) (fun f s₃ => match f with
        | .next | .cont => ∃ m g'' μ'', m < n ∧ Sub g' g'' ∧ K m g'' μ'' ∧ In g₀ D s₀ g'' μ'' s₃
        | .brk => Q .next s₃
        | .ret v => Q (.ret v) s₃) (fun zz zz => False) s₂
      else Q .next s₂) (fun zz zz => False) s') :
    wpAny (model prog w) A (exec (.While test body [] pos) env) Q E s := by
  refine wpAny_While (codeAny_whileLoop (fun n s' => ∃ g' μ', Sub g g' ∧ K n g' μ' ∧ In g₀ D s₀ g' μ' s') ?_ n ⟨g, μ, Sub.refl g, h0, I⟩)
  rintro n s' ⟨g', μ', hg, hK, I'⟩
  refine wpAny_mono (turn n g' μ' s' hg hK I') (fun b s₂ h₂ => ?_) fun zz zz e => e.elim
  cases b with
  | true =>
    simp only [if_true] at h₂ ⊢
    refine wpAny_mono h₂ (fun f s₃ h₃ => ?_) fun zz zz e => e.elim
    cases f with
    | next => obtain ⟨m, g'', μ'', h1, h2, h3, h4⟩ := h₃; exact ⟨m, h1, g'', μ'', hg.trans h2, h3, h4⟩
    | cont => obtain ⟨m, g'', μ'', h1, h2, h3, h4⟩ := h₃; exact ⟨m, h1, g'', μ'', hg.trans h2, h3, h4⟩
    | brk => exact h₃
    | ret v => exact h₃
  | false =>
    simp only [Bool.false_eq_true, if_false] at h₂ ⊢
    exact wpAny_execs_nil h₂

theorem x_two (hh : A.handled = none) (_ : In g₀ D s₀ g μ s) {e1 e2 : Expr} {x y : Str} {px py : Pos} {k k' : Nat} {tp tp' pos : Pos} {Q : Flow → Shared → Prop}
    (hs : swapsWithSole [.Tuple [.Name x px, .Name y py] k tp] (.Tuple [e1, e2] k' tp') pos.line env = pure false)
    (hw : swappedStores [.Tuple [.Name x px, .Name y py] k tp] (.Tuple [e1, e2] k' tp') env = pure (some [x, y]))
    (he1 : starEach (e1 :: [e2]) env = (false, eval e1 env) :: starEach [e2] env) (he2 : starEach (e2 :: []) env = (false, eval e2 env) :: starEach [] env)
    (h : wpAny (model prog w) A (eval e1 env) (fun a s₁ => wpAny (model prog w) A (eval e2 env) (fun b s₂ => ∃ g μ, In g₀ D s₀ g μ s₂ ∧ ∀ s₃, In g₀ D s₀ g μ s₃ →
      wpAny (model prog w) A (storeName env y b) (fun zz s₄ => wpAny (model prog w) A (storeName env x a) (fun zz s₅ => Q .next s₅) E s₄) E s₃) E s₁) E s) :
    wpAny (model prog w) A (exec (.Assign [.Tuple [.Name x px, .Name y py] k tp] (.Tuple [e1, e2] k' tp') pos) env) Q E s := by
  refine Assign_Tuple_swapped (names := [x, y]) ?_ hs hw
  refine Tuple_ (args_cons (wpAny_mono h (fun a s₁ h₁ => args_cons (wpAny_mono h₁ (fun b s₂ h₂ => args_nil ?_) fun zz zz e => e) he2) fun zz zz e => e) he1)
  obtain ⟨g, μ, I, hQ⟩ := h₂
  refine wpAny_newTuple (hsz := by show 2 ≤ sizeLine; rw [sizeLine_eq]; decide) ?_
  have I1 := I.junk { cls := .type "tuple", data := .seq ([a, b] : List Value).toArray }
  refine unpackItems_tuple (items := #[a, b]) hh ⟨_, Heap.get?_push_size _ rfl, rfl, _, rfl⟩ fun h' he => ?_
  have I2 := I1.ext (h' := h') (tk := s₂.toks) fun c o e => he c o (ne_fresh e) e
  refine assignInOrder_cons ?_
  refine wpAny_bindName ?_
  refine wpAny_mono (hQ _ I2) (fun zz s₄ h₄ => ?_) fun zz zz e => e
  refine assignInOrder_cons ?_
  refine wpAny_bindName ?_
  exact wpAny_mono h₄ (fun zz s₅ h₅ => assignInOrder_nil h₅) fun zz zz e => e
end
end Mine
end

section
open PySem PySem.W PyProof.Rows PySem.Calls
set_option tactic.hygienic false
set_option linter.all false
namespace Mine
noncomputable section
open scoped Classical

inductive Tm where
  | mk (op : Str) (kids : List Tm)
namespace Tm
noncomputable def op : Tm → Str | .mk o _ => o
noncomputable def kids : Tm → List Tm | .mk _ k => k
mutual
noncomputable def d : Tm → PyData
  | .mk op ks => .tuple (.str op :: dL ks)
noncomputable def dL : List Tm → List PyData
  | [] => []
  | t :: r => t.d :: dL r
end
theorem dL_eq : ∀ l : List Tm, dL l = l.map d
  | [] => rfl
  | t :: r => by rw [dL, dL_eq r]; rfl
theorem d_mk (op : Str) (ks : List Tm) : (Tm.mk op ks).d = .tuple (.str op :: ks.map d) := by rw [d, dL_eq]
theorem d_eta (t : Tm) : t.d = .tuple (.str t.op :: t.kids.map d) := by cases t; exact d_mk _ _

theorem ind {P : Tm → Prop} (h : ∀ op ks, (∀ k ∈ ks, P k) → P (.mk op ks)) : ∀ t, P t := by
  intro t
  refine Tm.rec (motive_1 := P) (motive_2 := fun l => ∀ k ∈ l, P k) (fun op ks ih => h op ks ih) (fun zz hk => by cases hk) (fun a l ha hl k hk => ?_) t
  rcases List.mem_cons.mp hk with rfl | hk
  · exact ha
  · exact hl k hk

end Tm

namespace Tm
mutual
theorem eqv_d : ∀ a b : Tm, PyData.eqv a.d b.d = decide (a = b)
  | .mk o ks, .mk p ls => by
    rw [d, d]
    simp only [PyData.eqv, PyData.eqvAll, eqv_dL ks ls]
    by_cases h1 : o = p <;> by_cases h2 : ks = ls <;> simp [h1, h2]
theorem eqv_dL : ∀ a b : List Tm, PyData.eqvAll (dL a) (dL b) = decide (a = b)
  | [], [] => by simp [dL, PyData.eqvAll]
  | a :: r, b :: q => by
    rw [dL, dL]
    simp only [PyData.eqvAll, eqv_d a b, eqv_dL r q]
    by_cases h1 : a = b <;> by_cases h2 : r = q <;> simp [h1, h2]
  | [], _ :: _ => by simp [dL, PyData.eqvAll]
  | _ :: _, [] => by simp [dL, PyData.eqvAll]
end
theorem eqvAll_map (a b : List Tm) : PyData.eqvAll (a.map d) (b.map d) = decide (a = b) := by rw [← dL_eq, ← dL_eq, eqv_dL]
theorem eqvAll_str : ∀ a b : List Str, PyData.eqvAll (a.map .str) (b.map .str) = decide (a = b)
  | [], [] => by simp [PyData.eqvAll]
  | x :: r, y :: q => by
    simp only [List.map_cons, PyData.eqvAll, PyData.eqv, eqvAll_str r q]
    by_cases h1 : x = y <;> by_cases h2 : r = q <;> simp [h1, h2]
  | [], _ :: _ => by simp [PyData.eqvAll]
  | _ :: _, [] => by simp [PyData.eqvAll]
end Tm

noncomputable def isV (op : Str) : Bool := Txt.slice op none (some 1) == Str.ofString "?"
noncomputable def Tm.isVar (t : Tm) : Bool := t.kids.isEmpty && isV t.op

noncomputable def Ok : Nat → Tm → Prop
  | 0, _ => False
  | n + 1, .mk op ks => op.length ≤ 8 ∧ PyData.strOk op = true ∧ ks.length ≤ 2 ∧ ∀ k ∈ ks, Ok n k

theorem Ok.op {n : Nat} {t : Tm} (h : Ok n t) : t.op.length ≤ 8 := by cases n <;> cases t; exact h.elim; exact h.1
theorem Ok.ok {n : Nat} {t : Tm} (h : Ok n t) : PyData.strOk t.op = true := by cases n <;> cases t; exact h.elim; exact h.2.1
theorem Ok.ln {n : Nat} {t : Tm} (h : Ok n t) : t.kids.length ≤ 2 := by cases n <;> cases t; exact h.elim; exact h.2.2.1
theorem Ok.kid {n : Nat} {t k : Tm} (h : Ok (n + 1) t) (hk : k ∈ t.kids) : Ok n k := by cases t; exact h.2.2.2 k hk
theorem Ok.mono : ∀ {n m : Nat} {t : Tm}, Ok n t → n ≤ m → Ok m t
  | 0, _, _, h, _ => h.elim
  | n + 1, 0, _, _, h => by omega
  | n + 1, m + 1, .mk op ks, h, hm => ⟨h.1, h.2.1, h.2.2.1, fun k hk => (h.2.2.2 k hk).mono (by first | decide | exact lle ‹_› rfl | exact llt ‹_› rfl | exact lll ‹_› rfl | exact llm ‹_› rfl | omega)⟩

theorem canLayAll_mem : ∀ {xs : List PyData}, (∀ x ∈ xs, x.canLay0 = true) → PyData.canLayAll0 xs = true
  | [], _ => rfl
  | x :: r, h => by
    show (x.canLay0 && PyData.canLayAll0 r) = true
    rw [h x (.head _), canLayAll_mem fun y hy => h y (.tail _ hy)]; rfl
theorem depthAll_mem {n : Nat} : ∀ {xs : List PyData}, (∀ x ∈ xs, x.depth ≤ n) → PyData.depthAll xs ≤ n
  | [], _ => Nat.zero_le _
  | x :: r, h => by
    show max x.depth (PyData.depthAll r) ≤ n
    exact Nat.max_le.mpr ⟨h x (.head _), depthAll_mem fun y hy => h y (.tail _ hy)⟩

theorem Ok.lay : ∀ {n : Nat} {t : Tm}, Ok n t → t.d.canLay0 = true
  | n + 1, .mk op ks, h => by
    rw [Tm.d_mk]
    show PyData.canLayAll0 _ = true
    refine canLayAll_mem fun x hx => ?_
    rcases List.mem_cons.mp hx with rfl | hx
    · exact h.2.1
    · obtain ⟨k, hk, rfl⟩ := List.mem_map.mp hx
      exact (h.2.2.2 k hk).lay
theorem Ok.dep : ∀ {n : Nat} {t : Tm}, Ok n t → t.d.depth ≤ n
  | n + 1, .mk op ks, h => by
    rw [Tm.d_mk]
    show PyData.depthAll _ + 1 ≤ _
    refine Nat.succ_le_succ (depthAll_mem fun x hx => ?_)
    rcases List.mem_cons.mp hx with rfl | hx
    · exact Nat.zero_le _
    · obtain ⟨k, hk, rfl⟩ := List.mem_map.mp hx
      exact (h.2.2.2 k hk).dep

/-! what the functions tell -/
namespace Tm
mutual
noncomputable def size : Tm → Nat
  | .mk _ ks => 1 + sizeL ks
noncomputable def sizeL : List Tm → Nat
  | [] => 0
  | t :: r => t.size + sizeL r
end
mutual
noncomputable def parts : Tm → List (List Nat × Tm)
  | .mk op ks => ([], .mk op ks) :: partsL 0 ks
noncomputable def partsL : Nat → List Tm → List (List Nat × Tm)
  | _, [] => []
  | k, t :: r => (t.parts.map fun p => (k :: p.1, p.2)) ++ partsL (k + 1) r
end
mutual
noncomputable def subst (σ : Str → Option Tm) : Tm → Tm
  | .mk op ks => if (ks.isEmpty && isV op) = true then (σ op).getD (.mk op ks) else .mk op (substL σ ks)
noncomputable def substL (σ : Str → Option Tm) : List Tm → List Tm
  | [] => []
  | t :: r => t.subst σ :: substL σ r
end
mutual
noncomputable def ren (ρ : Str → Str) : Tm → Tm
  | .mk op ks => .mk (ρ op) (renL ρ ks)
noncomputable def renL (ρ : Str → Str) : List Tm → List Tm
  | [] => []
  | t :: r => t.ren ρ :: renL ρ r
end
noncomputable def at? (t : Tm) : List Nat → Option Tm
  | [] => some t
  | k :: p => match t.kids[k]? with
    | some u => u.at? p
    | none => none
noncomputable def put (t : Tm) : List Nat → Tm → Tm
  | [], u => u
  | k :: p, u => match t.kids[k]? with
    | some v => .mk t.op (t.kids.set k (v.put p u))
    | none => t
end Tm

abbrev Bd := List (Str × Tm)
mutual
noncomputable def fits : Tm → Tm → Bd → Bool × Bd
  | .mk o ks, n, b => if isV o = true then (match b.lookup o with
      | some u => (decide (u = n), b)
      | none => (true, b ++ [(o, n)]))
    else if o ≠ n.op ∨ ks.length ≠ n.kids.length then (false, b) else fitsL ks n.kids b
noncomputable def fitsL : List Tm → List Tm → Bd → Bool × Bd
  | w :: ws, n :: ns, b => ((fits w n b).1 && (fitsL ws ns (fits w n b).2).1, (fitsL ws ns (fits w n b).2).2)
  | _, _, b => (true, b)
end
mutual
noncomputable def marks : Tm → List Str
  | .mk o ks => if isV o = true then [o] else marksL ks []
noncomputable def marksL : List Tm → List Str → List Str
  | [], found => found
  | t :: r, found => marksL r (found ++ (marks t).filter fun m => !found.contains m)
end

noncomputable def vname (k : Nat) : Str := Str.ofString "?" ++ Str.ofString (toString k)

noncomputable def sameHead (a b : Tm) : Bool := (a.op == b.op) && (a.kids.length == b.kids.length)
noncomputable def alike (col : List Tm) : Bool := col.all fun t => sameHead t (col.headD (.mk default []))
noncomputable def column (col : List Tm) (k : Nat) : List Tm := col.map fun t => t.kids.getD k (.mk default [])

noncomputable def commonAt : Nat → List Tm → List (List Tm) → Tm × List (List Tm)
  | 0, _, names => (.mk default [], names)
  | n + 1, col, names => if alike col = true then
      (let r := (List.range (col.headD (.mk default [])).kids.length).foldl (fun (acc : List Tm × List (List Tm)) k => (acc.1 ++ [(commonAt n (column col k) acc.2).1], (commonAt n (column col k) acc.2).2)) ([], names)
       (.mk (col.headD (.mk default [])).op r.1, r.2))
    else (.mk (vname ((if col ∈ names then names else names ++ [col]).idxOf col)) [], if col ∈ names then names else names ++ [col])

noncomputable def matchLoop : Nat → Bd → List (Tm × Tm) → Option Bd
  | 0, b, _ => some b
  | _ + 1, b, [] => some b
  | n + 1, b, (p, t) :: w => if p.isVar = true then (match b.lookup p.op with
      | some u => if u = t then matchLoop n b w else none
      | none => matchLoop n (b ++ [(p.op, t)]) w)
    else if p.op ≠ t.op ∨ p.kids.length ≠ t.kids.length then none
    else matchLoop n b ((p.kids.zip t.kids).reverse ++ w)
noncomputable def covers (p t : Tm) : Bool := (matchLoop (p.size + 1) [] [(p, t)]).isSome
end
end Mine
end

section
open PySem PySem.W PyProof.Rows PySem.Calls
set_option tactic.hygienic false
set_option linter.all false
namespace Mine

section
variable {prog : Program} {w : World}

noncomputable def HashTo (prog : Program) (w : World) (h : Heap) (u : Nat) (v : Value) (p : Int × Nat) : Prop :=
  ∀ {A : Around} {E : Value → Shared → Prop} {s : Shared} {Q : Int → Shared → Prop}, s.heap = h → A.units + u < cLine → Q p.1 { s with toks := s.toks + p.2 } → wpAny (model prog w) A (pyHash v) Q E s

theorem hash_str {h : Heap} {x : Str} {t : Tok} : HashTo prog w h 0 (.str x t) (hashStr w x, 1) := fun zz zz hQ => wpAny_pyHash_str hQ

noncomputable def hashSum : List (Int × Nat) → Nat
  | [] => 0
  | p :: r => p.2 + hashSum r
theorem hashSum_app : ∀ (a b : List (Int × Nat)), hashSum (a ++ b) = hashSum a + hashSum b
  | [], b => by simp [hashSum]
  | p :: a, b => by rw [List.cons_append, hashSum, hashSum, hashSum_app a b]; omega

theorem hash_tup {h : Heap} {u : Nat} {a : Addr} {vs : List Value} {ps : List (Int × Nat)} (ht : IsTup h a vs.toArray) (hl : vs.length = ps.length) (hi : ∀ (i : Nat) (v : Value) (p : Int × Nat), vs[i]? = some v → ps[i]? = some p → HashTo prog w h u v p) :
    HashTo prog w h (u + 1) (.ref a) (reduceHash (Builtin.Tuple.tupleHashOf (ps.map (·.1))), hashSum ps + 1) := by
  intro A E s Q hs hu hQ
  subst hs
  obtain ⟨o, ho, hc, n, hd⟩ := ht
  have hT : s.TypeIs (.ref a) "tuple" := ⟨o, ho, hc⟩
  unfold pyHash
  first | unfold pyHashByItsType | skip
  first | refine wpAny_bind (wpAny_cRoomFor_or (.inr (by first | decide | exact lle ‹_› rfl | exact llt ‹_› rfl | exact lll ‹_› rfl | exact llm ‹_› rfl | omega)) ?_) | skip
  refine wpAny_bind (wpAny_specialOf hT F.slot_tuple_hash.lookup ?_)
  show wpAny _ _ (if (some (Value.builtin "tuple.__hash__") == some Value.none) = true then _ else _) Q E s
  rw [if_neg (by rw [beq_builtin_none]; exact Bool.false_ne_true)]
  refine wpAny_bind (wpAny_specialOf hT F.slot_tuple_hash.lookup ?_)
  show wpAny _ _ (callSpecialIfBoundUnlessNone? (.ref a) "__hash__" _ >>= _) Q E s
  refine wpAny_bind (wpAny_callSpecialIfBoundUnlessNone?_slot hT F.slot_tuple_hash (wpAny_call_entry F.slot_tuple_hash hT F.entry_tuple_hash ?_ (F.args_tuple_hash_1 _)))
  show wpAny _ _ (Builtin.Tuple.tupleItemsOf (.ref a) >>= _) _ _ s
  refine wpAny_bind (wpAny_tupleItemsOf ho hd ?_)
  refine wpAny_bind ?_
  rw [← Array.forIn_toList]
  refine wpAny_forIn_list _
    (fun rest (b : Array Int) s' => ∃ i, i ≤ vs.length ∧ rest = vs.drop i ∧ b.toList = (ps.take i).map (·.1) ∧ s' = { s with toks := s.toks + hashSum (ps.take i) })
    _ ?_ ?_ _ _ ⟨0, Nat.zero_le _, by simp, by simp, by simp [hashSum]⟩
  · rintro x rest b s' ⟨i, hil, hr, hb, rfl⟩
    have hlt : i < vs.length := by
      rcases Nat.lt_or_ge i vs.length with h | h
      · exact h
      · rw [List.drop_eq_nil_of_le h] at hr; cases hr
    have hlp : i < ps.length := hl ▸ hlt
    rw [← List.getElem_cons_drop hlt] at hr
    injection hr with hx hr
    subst hx; subst hr
    have e1 : ps.take (i + 1) = ps.take i ++ [ps[i]] := by rw [List.take_add_one, List.getElem?_eq_getElem hlp]; rfl
    refine wpAny_bind (hi i _ _ (List.getElem?_eq_getElem hlt) (List.getElem?_eq_getElem hlp) (A := A.in1) rfl (by show A.units + 1 + u < cLine; omega) ?_)
    first
      | exact wpAny_pure ⟨i + 1, hlt, rfl, by rw [e1, Array.toList_push, hb, List.map_append]; rfl, by rw [e1, hashSum_app]; simp [hashSum, Nat.add_assoc]⟩
      | exact wpAny_bind (wpAny_pure (wpAny_pure ⟨i + 1, hlt, rfl, by rw [e1, Array.toList_push, hb, List.map_append]; rfl, by rw [e1, hashSum_app]; simp [hashSum, Nat.add_assoc]⟩))
  · rintro b s' ⟨i, hil, hr, hb, rfl⟩
    have hin : vs.length ≤ i := by
      rcases Nat.lt_or_ge i vs.length with h | h
      · rw [← List.getElem_cons_drop h] at hr; cases hr
      · exact h
    rw [List.take_of_length_le (by first | decide | exact lle ‹_› rfl | exact llt ‹_› rfl | exact lll ‹_› rfl | exact llm ‹_› rfl | omega)] at hb ⊢
    show wpAny _ _ (retInt (Builtin.Tuple.tupleHashOf b.toList)) _ _ _
    rw [hb]
    refine wpAny_ret_mkInt ?_
    show wpAny _ _ (if (decide (-(2 : Int) ^ 63 ≤ Builtin.Tuple.tupleHashOf (ps.map (·.1))) && decide (Builtin.Tuple.tupleHashOf (ps.map (·.1)) < 2 ^ 63)) = true then _ else _) Q E _
    unfold reduceHash at hQ
    by_cases hr : (decide (-(2 : Int) ^ 63 ≤ Builtin.Tuple.tupleHashOf (ps.map (·.1))) && decide (Builtin.Tuple.tupleHashOf (ps.map (·.1)) < 2 ^ 63)) = true
    · rw [if_pos hr]
      rw [if_pos hr] at hQ
      exact wpAny_pure (by simpa [Nat.add_assoc] using hQ)
    · rw [if_neg hr]
      rw [if_neg hr] at hQ
      exact wpAny_bind (wpAny_rule (wpAny_pure (by simpa [Nat.add_assoc] using hQ)))

/-! the hash of a term -/
mutual
noncomputable def thash (w : World) : Tm → Int × Nat
  | .mk op ks => (reduceHash (Builtin.Tuple.tupleHashOf ((hashStr w op) :: (thashL w ks).map (·.1))), hashSum ((hashStr w op, 1) :: thashL w ks) + 1)
noncomputable def thashL (w : World) : List Tm → List (Int × Nat)
  | [] => []
  | t :: r => thash w t :: thashL w r
end
theorem thashL_map (w : World) : ∀ ks : List Tm, thashL w ks = ks.map (thash w)
  | [] => rfl
  | t :: r => by rw [thashL, thashL_map w r]; rfl

theorem hash_tm {h : Heap} : ∀ {n : Nat} {t : Tm} {v : Value}, Ok n t → Rd h v t.d → HashTo prog w h n v (thash w t)
  | 0, _, _, ho, _ => ho.elim
  | n + 1, .mk op ks, v, ho, hv => by
    rw [Tm.d_mk] at hv
    obtain ⟨a, vs, rfl, ht, hr⟩ := hv.tup_inv
    have e : thash w (.mk op ks) = (reduceHash (Builtin.Tuple.tupleHashOf (((hashStr w op, 1) :: ks.map (thash w)).map (·.1))), hashSum ((hashStr w op, 1) :: ks.map (thash w)) + 1) := by
      rw [thash, thashL_map]; rfl
    rw [e]
    refine hash_tup (u := n) ht ?_ fun i u p hu hp => ?_
    · rw [hr.length]; simp
    · obtain ⟨d, hd, hud⟩ := hr.getV hu
      cases i with
      | zero =>
        simp only [List.getElem?_cons_zero, Option.some.injEq] at hp hd
        subst hp; subst hd
        obtain ⟨t, rfl⟩ := hud.str_inv
        intro A E s Q hs hu' hQ
        exact hash_str hs (by first | decide | exact lle ‹_› rfl | exact llt ‹_› rfl | exact lll ‹_› rfl | exact llm ‹_› rfl | omega) hQ
      | succ i =>
        simp only [List.getElem?_cons_succ, List.getElem?_map] at hp hd
        obtain ⟨k, hk, rfl⟩ := Option.map_eq_some_iff.mp hd
        rw [hk] at hp
        simp only [Option.map_some, Option.some.injEq] at hp
        subst hp
        exact hash_tm (ho.2.2.2 k (List.mem_of_getElem? hk)) hud

noncomputable def colhash (w : World) (c : List Tm) : Int × Nat := (reduceHash (Builtin.Tuple.tupleHashOf ((c.map (thash w)).map (·.1))), hashSum (c.map (thash w)) + 1)
theorem hash_col {h : Heap} {n : Nat} {c : List Tm} {v : Value} (ho : ∀ t ∈ c, Ok n t) (hv : Rd h v (.tuple (c.map Tm.d))) : HashTo prog w h (n + 1) v (colhash w c) := by
  obtain ⟨a, vs, rfl, ht, hr⟩ := hv.tup_inv
  refine hash_tup (u := n) ht ?_ fun i u p hu hp => ?_
  · rw [hr.length]; simp
  · obtain ⟨d, hd, hud⟩ := hr.getV hu
    simp only [List.getElem?_map] at hp hd
    obtain ⟨k, hk, rfl⟩ := Option.map_eq_some_iff.mp hd
    rw [hk] at hp
    simp only [Option.map_some, Option.some.injEq] at hp
    subst hp
    exact hash_tm (ho k (List.mem_of_getElem? hk)) hud

/-! its == is quiet -/
theorem quiet_tup {A : Around} {E : Value → Shared → Prop} {s : Shared} {n : Nat} {a : Addr} {vs : List Value} (ht : IsTup s.heap a vs.toArray) (hi : ∀ v ∈ vs, ∀ {Q : Bool → Shared → Prop}, Q true s → wpAny (model prog w) A (eqIsQuiet n v) Q E s) {Q : Bool → Shared → Prop} (h : Q true s) :
    wpAny (model prog w) A (eqIsQuiet (n + 1) (.ref a)) Q E s := by
  obtain ⟨o, ho, hc, k, hd⟩ := ht
  have hT : s.TypeIs (.ref a) "tuple" := ⟨o, ho, hc⟩
  unfold eqIsQuiet
  refine wpAny_bind (wpAny_specialOf hT F.slot_tuple_eq.lookup ?_)
  show wpAny _ _ (isInstance (.ref a) (.type "tuple") >>= _) _ _ s
  refine wpAny_bind (wpAny_isInstance hT isSubtype_tuple_tuple ?_)
  simp only [Bool.not_true, Bool.false_eq_true, if_false]
  refine wpAny_bind (wpAny_seqItems ho hd ?_)
  refine wpAny_bind ?_
  show wpAny _ _ (forIn vs.toArray _ _) _ _ s
  rw [← Array.forIn_toList]
  refine wpAny_forIn_list _ (fun rest r s' => r.1 = none ∧ s' = s ∧ ∀ v ∈ rest, v ∈ vs) _ ?_ ?_ _ _ ⟨rfl, rfl, fun zz h => h⟩
  · rintro v rest r s' ⟨hr, rfl, hall⟩
    refine wpAny_bind (hi v (hall v (.head _)) ?_)
    simp only [Bool.not_true, Bool.false_eq_true, if_false]
    exact wpAny_pure ⟨rfl, rfl, fun u hu' => hall u (.tail _ hu')⟩
  · rintro ⟨r1, r2⟩ s' ⟨hr, rfl, _⟩
    simp only at hr
    subst hr
    exact wpAny_pure h

theorem quiet_tm {A : Around} {E : Value → Shared → Prop} {s : Shared} : ∀ {n m : Nat} {t : Tm} {v : Value}, Ok n t → n ≤ m → Rd s.heap v t.d → ∀ {Q : Bool → Shared → Prop}, Q true s → wpAny (model prog w) A (eqIsQuiet m v) Q E s
  | 0, _, _, _, ho, _, _, _, _ => ho.elim
  | n + 1, 0, _, _, _, h, _, _, _ => by omega
  | n + 1, m + 1, .mk op ks, v, ho, hm, hv, Q, h => by
    rw [Tm.d_mk] at hv
    obtain ⟨a, vs, rfl, ht, hr⟩ := hv.tup_inv
    refine quiet_tup ht (fun u hu Q hQ => ?_) h
    obtain ⟨i, hi⟩ := List.mem_iff_getElem?.mp hu
    obtain ⟨d, hd, hud⟩ := hr.getV hi
    cases i with
    | zero =>
      simp only [List.getElem?_cons_zero, Option.some.injEq] at hd
      subst hd
      obtain ⟨t, rfl⟩ := hud.str_inv
      rw [eqIsQuiet_byValue _ rfl]
      exact wpAny_pure hQ
    | succ i =>
      simp only [List.getElem?_cons_succ, List.getElem?_map] at hd
      obtain ⟨k, hk, rfl⟩ := Option.map_eq_some_iff.mp hd
      exact quiet_tm (ho.2.2.2 k (List.mem_of_getElem? hk)) (by first | decide | exact lle ‹_› rfl | exact llt ‹_› rfl | exact lll ‹_› rfl | exact llm ‹_› rfl | omega) hud hQ
theorem quiet_col {A : Around} {E : Value → Shared → Prop} {s : Shared} {n m : Nat} {c : List Tm} {v : Value} (ho : ∀ t ∈ c, Ok n t) (hm : n ≤ m) (hv : Rd s.heap v (.tuple (c.map Tm.d))) {Q : Bool → Shared → Prop} (h : Q true s) :
    wpAny (model prog w) A (eqIsQuiet (m + 1) v) Q E s := by
  obtain ⟨a, vs, rfl, ht, hr⟩ := hv.tup_inv
  refine quiet_tup ht (fun u hu Q hQ => ?_) h
  obtain ⟨i, hi⟩ := List.mem_iff_getElem?.mp hu
  obtain ⟨d, hd, hud⟩ := hr.getV hi
  simp only [List.getElem?_map] at hd
  obtain ⟨k, hk, rfl⟩ := Option.map_eq_some_iff.mp hd
  exact quiet_tm (ho k (List.mem_of_getElem? hk)) hm hud hQ

theorem istup_inj {h : Heap} {a : Addr} {vs ws : List Value} (x : IsTup h a vs.toArray) (y : IsTup h a ws.toArray) : vs = ws := by
  obtain ⟨o, h1, _, n, h2⟩ := x
  obtain ⟨o', h3, _, m, h4⟩ := y
  rw [h1] at h3; cases h3
  rw [h2] at h4
  injection h4 with h5 _
  simpa using congrArg Array.toList h5

mutual
theorem rd_inj {h : Heap} : ∀ (x y : Tm) {v : Value}, Rd h v x.d → Rd h v y.d → x = y
  | .mk o ks, .mk p ls, v, hx, hy => by
    rw [Tm.d_mk] at hx hy
    obtain ⟨a, vs, rfl, ht, hr⟩ := hx.tup_inv
    obtain ⟨b, ws, e, hu, hq⟩ := hy.tup_inv
    cases e
    obtain rfl := istup_inj ht hu
    obtain ⟨v1, r, rfl, h1, h2⟩ := hr.cases_cons
    obtain ⟨h3, h4⟩ := hq.inv
    obtain ⟨t1, rfl⟩ := h1.str_inv
    obtain ⟨t2, e⟩ := h3.str_inv
    cases e
    rw [rds_inj ks ls h2 h4]
theorem rds_inj {h : Heap} : ∀ (x y : List Tm) {vs : List Value}, Rds h vs (x.map Tm.d) → Rds h vs (y.map Tm.d) → x = y
  | [], [], _, _, _ => rfl
  | [], _ :: _, vs, hx, hy => by rw [hx.cases_nil] at hy; have := hy.length; simp at this
  | _ :: _, [], vs, hx, hy => by rw [hy.cases_nil] at hx; have := hx.length; simp at this
  | a :: x, b :: y, vs, hx, hy => by
    obtain ⟨v1, r, rfl, h1, h2⟩ := Rds.cases_cons hx
    obtain ⟨h3, h4⟩ := Rds.inv hy
    rw [rd_inj a b h1 h3, rds_inj x y h2 h4]
end

section
variable {h h' : Heap} {dd : Addr} {o : Obj} {es : Array DictEntry} {ep : Nat}
theorem istup_but (hd : h.get? dd = some o) (hdat : o.data = .dict es ep) (hs : Heap.SameBut dd h h') {a : Addr} {vs : List Value} (x : IsTup h a vs.toArray) : IsTup h' a vs.toArray := by
  obtain ⟨o', h1, h2, n, h3⟩ := x
  have hne : a ≠ dd := fun e => by
    subst e
    rw [hd] at h1; cases h1
    rw [hdat] at h3; cases h3
  exact ⟨o', (hs.2 a hne).trans h1, h2, n, h3⟩
mutual
theorem rd_but (hd : h.get? dd = some o) (hdat : o.data = .dict es ep) (hs : Heap.SameBut dd h h') : ∀ (x : Tm) {v : Value}, Rd h v x.d → Rd h' v x.d
  | .mk op ks, v, hx => by
    rw [Tm.d_mk] at hx ⊢
    obtain ⟨a, vs, rfl, ht, hr⟩ := hx.tup_inv
    obtain ⟨v1, r, rfl, h1, h2⟩ := hr.cases_cons
    obtain ⟨t1, rfl⟩ := h1.str_inv
    exact Rd.tup (istup_but hd hdat hs ht) (.cons .str (rds_but hd hdat hs ks h2))
theorem rds_but (hd : h.get? dd = some o) (hdat : o.data = .dict es ep) (hs : Heap.SameBut dd h h') : ∀ (x : List Tm) {vs : List Value}, Rds h vs (x.map Tm.d) → Rds h' vs (x.map Tm.d)
  | [], vs, hx => by rw [hx.cases_nil]; exact .nil
  | a :: x, vs, hx => by
    obtain ⟨v1, r, rfl, h1, h2⟩ := Rds.cases_cons hx
    exact .cons (rd_but hd hdat hs a h1) (rds_but hd hdat hs x h2)
end
end

noncomputable section
open scoped Classical
noncomputable def colKind (prog : Program) (w : World) : HeapKind prog w (List Tm) where
  is := fun h c a => (∀ t ∈ c, Ok 6 t) ∧ Rd h (.ref a) (.tuple (c.map Tm.d))
  hash := fun c => (colhash w c).1
  draws := fun c => (colhash w c).2
  room := fun A => A.units + 40 < cLine
  inj := fun {h a x y} hx hy => by
    obtain ⟨a1, v1, e1, t1, r1⟩ := hx.2.tup_inv
    obtain ⟨a2, v2, e2, t2, r2⟩ := hy.2.tup_inv
    cases e1; cases e2
    obtain rfl := istup_inj t1 t2
    exact rds_inj x y r1 r2
  keeps := fun {h h' c a d o es ep} hk hd hdat hs => by
    refine ⟨hk.1, ?_⟩
    obtain ⟨a1, v1, e1, t1, r1⟩ := hk.2.tup_inv
    cases e1
    exact Rd.tup (istup_but hd hdat hs t1) (rds_but hd hdat hs c r1)
  pyHash := fun {A E s c a Q} hu hk hQ => by
    obtain ⟨ho, r⟩ := hk
    exact hash_col (n := 6) ho r rfl (by first | decide | exact lle ‹_› rfl | exact llt ‹_› rfl | exact lll ‹_› rfl | exact llm ‹_› rfl | omega) hQ
  eqBool := fun {A E s x y a b Q} hu hx hy hQ => by
    obtain ⟨hox, as, r⟩ := hx
    obtain ⟨hoy, bs, q⟩ := hy
    refine SeqAt.eqBoolOverData prog w A E s _ _ _ _ as bs Q r q ?_ ?_ ?_ ?_
    · exact canLayAll_mem fun d hd => by obtain ⟨t, ht, rfl⟩ := List.mem_map.mp hd; exact (hox t ht).lay
    · exact canLayAll_mem fun d hd => by obtain ⟨t, ht, rfl⟩ := List.mem_map.mp hd; exact (hoy t ht).lay
    · have : (PyData.tuple (x.map Tm.d)).depth ≤ 7 := Nat.succ_le_succ (depthAll_mem fun d hd => by obtain ⟨t, ht, rfl⟩ := List.mem_map.mp hd; exact (hox t ht).dep)
      have := Nat.min_le_left (PyData.tuple (x.map Tm.d)).depth (PyData.tuple (y.map Tm.d)).depth
      omega
    · show Q (PyData.eqvAll (x.map Tm.d) (y.map Tm.d)) s
      rw [Tm.eqvAll_map]; exact hQ
  quiet := fun {A E s c a Q} hk hQ => by
    obtain ⟨ho, r⟩ := hk
    exact quiet_col (n := 6) (m := 7) ho (by first | decide | exact lle ‹_› rfl | exact llt ‹_› rfl | exact lll ‹_› rfl | exact llm ‹_› rfl | omega) r hQ
end
end
end Mine
end

section
open PySem PySem.W PyProof.Rows PySem.Calls
set_option tactic.hygienic false
set_option linter.all false
namespace Mine
noncomputable section
open scoped Classical

/-! what a table of terms holds -/
noncomputable def BRd (g : Heap) (kvs : List (Str × Value)) (b : Bd) : Prop := kvs.map (·.1) = b.map (·.1) ∧ Rds g (kvs.map (·.2)) (b.map fun p => p.2.d)
theorem BRd.mono {g g' : Heap} {kvs : List (Str × Value)} {b : Bd} (x : BRd g kvs b) (h : Sub g g') : BRd g' kvs b := ⟨x.1, x.2.mono h⟩
theorem BRd.nil {g : Heap} : BRd g [] [] := ⟨rfl, .nil⟩
theorem BRd.look {g : Heap} {x : Str} : ∀ {kvs : List (Str × Value)} {b : Bd}, BRd g kvs b → (valueAt kvs x = none ∧ b.lookup x = none) ∨ ∃ v t, valueAt kvs x = some v ∧ b.lookup x = some t ∧ Rd g v t.d
  | [], [], _ => .inl ⟨rfl, rfl⟩
  | [], _ :: _, h => by have := h.1; simp at this
  | _ :: _, [], h => by have := h.1; simp at this
  | (k, v) :: r, (k', t) :: q, h => by
    obtain ⟨h1, h2⟩ := h
    simp only [List.map_cons, List.cons.injEq] at h1
    obtain ⟨rfl, h1⟩ := h1
    have hv := h2.inv
    by_cases e : k = x
    · subst e
      exact .inr ⟨v, t, by simp [valueAt], by simp [List.lookup], hv.1⟩
    · have e' : (x == k) = false := by simpa using fun h => e h.symm
      have ih := BRd.look (x := x) (kvs := r) (b := q) ⟨h1, hv.2⟩
      have a1 : valueAt ((k, v) :: r) x = valueAt r x := by simp [valueAt, e]
      have a2 : ((k, t) :: q).lookup x = q.lookup x := by rw [List.lookup_cons, e']
      rw [a1, a2]; exact ih
theorem valueAt_none_any {x : Str} : ∀ {kvs : List (Str × Value)}, valueAt kvs x = none → (kvs.any fun kv => decide (kv.1 = x)) = false
  | [], _ => rfl
  | (k, v) :: r, h => by
    by_cases e : k = x
    · subst e; simp [valueAt] at h
    · have h' : valueAt r x = none := by simpa [valueAt, e] using h
      simpa [e] using valueAt_none_any h'
theorem stored_new {x : Str} {v : Value} {kvs : List (Str × Value)} (h : valueAt kvs x = none) : stored kvs x v = kvs ++ [(x, v)] := by
  unfold stored
  rw [if_neg (by rw [valueAt_none_any h]; exact Bool.false_ne_true)]
theorem BRd.put {g : Heap} {kvs : List (Str × Value)} {b : Bd} {x : Str} {v : Value} {t : Tm} (h : BRd g kvs b) (hn : valueAt kvs x = none) (hv : Rd g v t.d) : BRd g (stored kvs x v) (b ++ [(x, t)]) := by
  rw [stored_new hn]
  exact ⟨by simp [h.1], by simpa using h.2.append (.one hv)⟩
theorem BRd.len {g : Heap} {kvs : List (Str × Value)} {b : Bd} (h : BRd g kvs b) : kvs.length = b.length := by simpa using congrArg List.length h.1

noncomputable def bs (b : Bd) (x : Str) : Option Tm := b.lookup x
mutual
noncomputable def Tm.vars : Tm → List Str
  | .mk op ks => if (ks.isEmpty && isV op) = true then [op] else Tm.varsL ks
noncomputable def Tm.varsL : List Tm → List Str
  | [] => []
  | t :: r => t.vars ++ Tm.varsL r
end
theorem mem_varsL {x : Str} : ∀ {ks : List Tm}, x ∈ Tm.varsL ks ↔ ∃ k ∈ ks, x ∈ k.vars
  | [] => by simp [Tm.varsL]
  | k :: r => by rw [Tm.varsL, List.mem_append, mem_varsL (ks := r)]; simp
theorem substL_map (σ : Str → Option Tm) : ∀ ks : List Tm, Tm.substL σ ks = ks.map (Tm.subst σ)
  | [] => rfl
  | k :: r => by rw [Tm.substL, substL_map σ r]; rfl
theorem subst_mk (σ : Str → Option Tm) (op : Str) (ks : List Tm) : (Tm.mk op ks).subst σ = if (ks.isEmpty && isV op) = true then (σ op).getD (.mk op ks) else .mk op (ks.map (Tm.subst σ)) := by rw [Tm.subst, substL_map]
end
end Mine
end

section
open PySem PySem.W PyProof.Rows PySem.Calls
set_option tactic.hygienic false
set_option linter.all false
namespace Mine

theorem meets_len_raw {prog : Program} {w : World} (d : Addr) (hd : (d == sysModules) = false) :
    MeetsIn prog w (Builtin.«dict.__len__» ⟨[.ref d], []⟩) (fun zz R s => ∃ o es ep, s.heap.get? d = some o ∧ o.data = .dict es ep ∧ R (.ok (.ret (.int es.size s.toks))) { s with toks := s.toks + 1 }) :=
  .of_wp fun A R s ⟨o, es, ep, ho, hdat, h⟩ => by
    show wpAny _ _ (dictSize d >>= _) _ _ s
    unfold dictSize
    refine wpAny_bind (wpAny_bind (wpAny_dictEntries ho hdat (wpAny_pure ?_)))
    show wpAny _ _ (Builtin.Dict.pendingCount d >>= _) _ _ s
    refine wpAny_bind (wpAny_pendingCount_other hd ?_)
    refine wpAny_ret_mkInt ?_
    rw [Nat.add_zero]; exact h

theorem call_len_raw {prog : Program} {w : World} {A : Around} {E : Value → Shared → Prop} {s : Shared} {d : Addr} {o : Obj} {es : Array DictEntry} {ep : Nat} {Q : Value → Shared → Prop} (hd : (d == sysModules) = false) (ho : s.heap.get? d = some o) (hex : o.ExactDict) (hdat : o.data = .dict es ep)
    (hfit : es.size < 2 ^ 20) (h : Q (.int es.size (s.toks + 1)) { s with toks := s.toks + 1 + 1 }) : wpAny (model prog w) A (call (.builtin "len") [.ref d]) Q E s := by
  have hT : s.TypeIs (.ref d) "dict" := ⟨o, ho, hex.1⟩
  refine Calls.call_function_entry kind_len plain_len entry_len (args_len1 _) ?_
  unfold Builtin.«len»
  refine wpAny_bind (m := oneArg "len" _) (wpAny_pure ?_)
  refine wpAny_bind (m := callSpecial? (.ref d) (Str.ofString "__len__")) (wpAny_callSpecial?_slot (name := Str.ofString "__len__") hT PySem.F.slot_dict_len
    (call_meetsIn PySem.F.slot_dict_len hT PySem.F.entry_dict_len (PySem.F.args_dict_len_1 _) (meets_len_raw d hd) ⟨o, es, ep, ho, hdat, ?_⟩))
  show wpAny _ _ _ _ _ { s with toks := s.toks + 1 }
  refine wpAny_bind (wpAny_holding (wpAny_pure ?_))
  refine wpAny_bind (wpAny_letGo ?_)
  show wpAny _ _ (if ((es.size : Nat) : Int) < 0 then _ else _) _ _ _
  rw [if_neg (by first | decide | exact lle ‹_› rfl | exact llt ‹_› rfl | exact lll ‹_› rfl | exact llm ‹_› rfl | omega)]
  show wpAny _ _ (if ((es.size : Nat) : Int) ≥ 2 ^ 63 then _ else _) _ _ _
  rw [if_neg (by first | decide | exact lle ‹_› rfl | exact llt ‹_› rfl | exact lll ‹_› rfl | exact llm ‹_› rfl | omega)]
  exact wpAny_bind (wpAny_mkInt (wpAny_pure ⟨_, rfl, h⟩))

noncomputable section
open scoped Classical
abbrev NX := List (List Tm × Addr × Value)
noncomputable def tabP (prog : Program) (w : World) (d : Addr) (xs : NX) (o : Obj) : Prop :=
  (d == sysModules) = false ∧ ∃ es ep, o.ExactDict ∧ o.data = .dict es ep ∧ es.toList = xs.map (entryOfKey (colKind prog w)) ∧ (xs.map (·.1)).Nodup
noncomputable def NRd (g : Heap) (xs : NX) (names : List (List Tm)) : Prop :=
  xs.map (·.1) = names ∧ (∀ x ∈ xs, (∀ t ∈ x.1, Ok 6 t) ∧ Rd g (.ref x.2.1) (.tuple (x.1.map Tm.d))) ∧ ∀ (i : Nat) (x : List Tm × Addr × Value), xs[i]? = some x → Rd g x.2.2 (Tm.mk (vname i) []).d
theorem NRd.mono {g g' : Heap} {xs : NX} {names : List (List Tm)} (x : NRd g xs names) (h : Sub g g') : NRd g' xs names :=
  ⟨x.1, fun y hy => ⟨(x.2.1 y hy).1, (x.2.1 y hy).2.mono h⟩, fun i y hy => (x.2.2 i y hy).mono h⟩
theorem NRd.len {g : Heap} {xs : NX} {names : List (List Tm)} (x : NRd g xs names) : xs.length = names.length := by rw [← x.1, List.length_map]

theorem atKey_idx {xs : NX} {c : List Tm} (hc : c ∈ xs.map (·.1)) : ∃ p, atKey xs c = some p ∧ ∃ i, xs[i]? = some (c, p) ∧ i = (xs.map (·.1)).idxOf c := by
  induction xs with
  | nil => simp at hc
  | cons x r ih =>
    obtain ⟨k, p⟩ := x
    by_cases e : k = c
    · subst e
      exact ⟨p, by simp [atKey], 0, rfl, by simp⟩
    · have hc' : c ∈ r.map (·.1) := by
        rcases List.mem_cons.mp hc with h | h
        · exact absurd h.symm e
        · exact h
      obtain ⟨q, h1, i, h2, h3⟩ := ih hc'
      refine ⟨q, ?_, i + 1, h2, ?_⟩
      · simpa [atKey, List.find?_cons, e] using h1
      · rw [h3, List.map_cons, List.idxOf_cons]
        have : (k == c) = false := by simpa using e
        simp [this]
theorem atKey_no {xs : NX} {c : List Tm} (hc : c ∉ xs.map (·.1)) : atKey xs c = none := by
  refine atKey_none_of_get fun j p h => hc (List.mem_map.mpr ⟨(c, p), List.mem_of_getElem? h, rfl⟩)

section
variable {prog : Program} {w : World} {A : Around} {E : Value → Shared → Prop} {g₀ g h₀ : Heap} {D : List Addr} {s₀ s : Shared} {μ : List Res} {env : Env} {d : Addr} {xs : NX} {names : List (List Tm)} {c : List Tm} {v kv : Value}

theorem tab_at (I : In g₀ D s₀ g μ s) {i : Nat} (hi : μ[i]? = some (d, tabP prog w d xs)) (hN : NRd g xs names) : (d == sysModules) = false ∧ s.heap.DictOfH (colKind prog w) d xs := by
  obtain ⟨o, ho, lo, es, ep, h1, h2, h3, h4⟩ := I.get hi
  exact ⟨lo, o, es, ep, ho, h1, h2, h3, fun x hx => ⟨(hN.2.1 x hx).1, (hN.2.1 x hx).2.mono I.own.sub⟩, h4⟩

theorem tb_key (I : In g₀ D s₀ g μ s) (hk : Rd g kv (.tuple (c.map Tm.d))) (hc : ∀ t ∈ c, Ok 6 t) : ∃ a, kv = .ref a ∧ (colKind prog w).is s.heap c a := by
  obtain ⟨a, vs, rfl, ht, hr⟩ := hk.tup_inv
  exact ⟨a, rfl, hc, hk.mono I.own.sub⟩

theorem tb_room {n : Nat} (R : Room A n) : (colKind prog w).room A.in1 := by
  have := R.un
  show A.units + 1 + 40 < cLine
  omega
theorem tb_notin {n : Nat} (R : Room A n) (I : In g₀ D s₀ g μ s) {i : Nat} (hi : μ[i]? = some (d, tabP prog w d xs)) (hN : NRd g xs names) (hk : Rd g kv (.tuple (c.map Tm.d))) (hc : ∀ t ∈ c, Ok 6 t) {Q : Value → Shared → Prop}
    (h : ∀ s', In g₀ D s₀ g μ s' → Q (.bool (decide (c ∉ names))) s') : wpAny (model prog w) A (compareOp .NotIn kv (.ref d)) Q E s := by
  obtain ⟨lo, hD⟩ := tab_at I hi hN
  obtain ⟨a, rfl, hkey⟩ := tb_key (prog := prog) (w := w) I hk hc
  refine wpAny_notIn_heap (tb_room R) hkey lo hD ?_
  have e : (!(atKey xs c).isSome) = decide (c ∉ names) := by
    rw [← hN.1]
    by_cases hm : c ∈ xs.map (·.1)
    · obtain ⟨p, hp, _⟩ := atKey_idx hm
      rw [hp]; simp only [Option.isSome_some, Bool.not_true]; exact (decide_eq_false (not_not_intro hm)).symm
    · rw [atKey_no hm]; simp only [Option.isSome_none, Bool.not_false]; exact (decide_eq_true hm).symm
  rw [e]
  exact h _ (I.tok _)

theorem tb_item {n : Nat} (R : Room A n) (I : In g₀ D s₀ g μ s) {i : Nat} (hi : μ[i]? = some (d, tabP prog w d xs)) (hN : NRd g xs names) (hk : Rd g kv (.tuple (c.map Tm.d))) (hc : ∀ t ∈ c, Ok 6 t) (hm : c ∈ names) {value slice : Expr} {Q : Value → Shared → Prop}
    (h : ∀ s' v, In g₀ D s₀ g μ s' → Rd g v (Tm.mk (vname (names.idxOf c)) []).d → Q v s')
    (hs : ∀ a, subscripted slice false (.ref d) (.ref a) = operate [.ref d, .ref a] (getItem (.ref d) (.ref a)) := by intro _; with_unfolding_all rfl) (hg : ∀ r, letTemporaryGo value (.ref d) r = pure () := by intro _; with_unfolding_all rfl) :
    wpAny (model prog w) A (subscriptTail value slice (.ref d) kv) Q E s := by
  obtain ⟨lo, hD⟩ := tab_at I hi hN
  obtain ⟨a, rfl, hkey⟩ := tb_key (prog := prog) (w := w) I hk hc
  rw [← hN.1] at hm
  obtain ⟨p, hp, j, hj, hji⟩ := atKey_idx hm
  refine subscriptTail_builtin hD.typeIs slot_dict_getitem.lookup (wpAny_getItem_heap (tb_room R) hkey hD hp (h _ _ (I.tok _) ?_)) (hs a) hg
  have := hN.2.2 j _ hj
  rw [hji, hN.1] at this
  exact this

theorem tb_len (I : In g₀ D s₀ g μ s) {i : Nat} (hi : μ[i]? = some (d, tabP prog w d xs)) (hN : NRd g xs names) (hn : names.length < 2 ^ 20) {Q : Value → Shared → Prop}
    (h : ∀ s' t, In g₀ D s₀ g μ s' → Q (.int names.length t) s') : wpAny (model prog w) A (call (.builtin "len") [.ref d]) Q E s := by
  obtain ⟨o, ho, lo, es, ep, h1, h2, h3, h4⟩ := I.get hi
  have e : es.size = names.length := by rw [← hN.len, ← List.length_map (f := entryOfKey (colKind prog w)), ← h3]; simp
  refine call_len_raw lo ho h1 h2 (by first | decide | exact lle ‹_› rfl | exact llt ‹_› rfl | exact lll ‹_› rfl | exact llm ‹_› rfl | omega) ?_
  rw [e]
  exact h _ _ (I.tok _)

theorem tb_set {n : Nat} (R : Room A n) (I : In g₀ D s₀ g μ s) {i : Nat} (hi : μ[i]? = some (d, tabP prog w d xs)) (hN : NRd g xs names) (hk : Rd g kv (.tuple (c.map Tm.d))) (hc : ∀ t ∈ c, Ok 6 t) (hm : c ∉ names) (hv : Rd g v (Tm.mk (vname names.length) []).d) (hn : names.length < 2 ^ 20) {Q : Unit → Shared → Prop}
    (h : ∀ s' xs', NRd g xs' (names ++ [c]) → In g₀ D s₀ g (μ.set i (d, tabP prog w d xs')) s' → Q () s') : wpAny (model prog w) A (setItem (.ref d) kv v) Q E s := by
  obtain ⟨lo, hD⟩ := tab_at I hi hN
  obtain ⟨a, rfl, hkey⟩ := tb_key (prog := prog) (w := w) I hk hc
  have hl := hN.len
  refine wpAny_setItem_heap (hsz := by rw [sizeLine_eq]; omega) (tb_room R) hkey hD fun h' hD' hs => ?_
  have hno : atKey xs c = none := atKey_no (by rw [hN.1]; exact hm)
  rw [storedH_new hno] at hD'
  obtain ⟨o', es', ep', ho', hc', hd', he', _, hn'⟩ := hD'
  refine h _ (xs ++ [(c, a, v)]) ⟨by rw [List.map_append, hN.1]; rfl, fun x hx => ?_, fun j x hx => ?_⟩ (I.chg hi (fun b o hb e => (hs.2 b hb).trans e) ho' ⟨lo, es', ep', hc', hd', he', hn'⟩)
  · rcases List.mem_append.mp hx with hx | hx
    · exact hN.2.1 x hx
    · rw [List.mem_singleton.mp hx]; exact ⟨hc, hk⟩
  · rcases Nat.lt_or_ge j xs.length with hj | hj
    · rw [List.getElem?_append_left hj] at hx
      exact hN.2.2 j x hx
    · rw [List.getElem?_append_right hj] at hx
      have hj0 : j - xs.length = 0 := by
        have := (List.getElem?_eq_some_iff.mp hx).1
        simp at this; omega
      rw [hj0] at hx
      simp only [List.getElem?_cons_zero, Option.some.injEq] at hx
      subst hx
      have : j = names.length := by omega
      rw [this]; exact hv
end
end
end Mine
end

section
open PySem PySem.W PyProof.Rows PySem.Calls
set_option tactic.hygienic false
set_option linter.all false
namespace Mine
section
variable {prog : Program} {w : World} {A : Around} {E : Value → Shared → Prop} {g₀ g : Heap} {D : List Addr} {s₀ s : Shared} {μ : List Res} {env : Env}

theorem natlog {k : Nat} (h : k < 2 ^ 20) : ((k : Int).natAbs).log2 < 1920 := by
  rw [Int.natAbs_natCast]
  rcases Nat.eq_zero_or_pos k with rfl | hk
  · decide
  · have : k.log2 < 20 := (Nat.log2_lt (by first | decide | exact lle ‹_› rfl | exact llt ‹_› rfl | exact lll ‹_› rfl | exact llm ‹_› rfl | omega)).mpr h
    omega
theorem ofString_len_nat (k : Nat) : (Str.ofString (toString (k : Int))).length ≤ k + 2 := by
  have := len_str_of_int (k : Int)
  omega

theorem str_emp (x : Str) : Str.empty ++ x = x := by
  show Str.append Str.empty x = x
  cases x with | mk c => simp [Str.append, Str.empty]

theorem f_name (I : In g₀ D s₀ g μ s) {e : Expr} {k1 : Nat} {p1 p2 pos : Pos} {Q : Value → Shared → Prop}
    (h : ∀ s₁, In g₀ D s₀ g μ s₁ → wpAny (model prog w) A (eval e env) (fun v s₁ => ∃ k : Nat, ∃ t g μ, v = .int k t ∧ k < 2 ^ 20 ∧ In g₀ D s₀ g μ s₁ ∧ ∀ s' t', In g₀ D s₀ g μ s' → Q (.str (vname k) t') s') E s₁) :
    wpAny (model prog w) A (eval (.JoinedStr [.Constant (.str (Str.ofString "?")) k1 p1, .FormattedValue e (-1) none p2] pos) env) Q E s := by
  refine JoinedStr_many (joinParts_cons (wpAny_Constant_str ⟨by rw [sizeLine_eq]; decide, ?_⟩))
  refine joinParts_cons (FormattedValue_plain (wpAny_mono (h _ (I.tok _)) (fun v s₁ h₁ => ?_) fun zz zz e => e))
  obtain ⟨k, t, g, μ, rfl, hk, I', hQ⟩ := h₁
  have hl := ofString_len_nat k
  have hv : Str.empty ++ Str.ofString "?" ++ Str.ofString (toString (k : Int)) = vname k := by rw [str_emp]; rfl
  have hle : (Str.empty ++ Str.ofString "?" ++ Str.ofString (toString (k : Int))).length ≤ sizeLine := by
    rw [str_emp, strLen_append, sizeLine_eq]
    have : (Str.ofString "?").length = 1 := by decide
    omega
  refine formatField_int_small (natlog hk) ⟨hle, ?_⟩
  show wpAny _ _ (joinParts (Str.empty ++ Str.ofString "?" ++ Str.ofString (toString (k : Int))) []) _ _ _
  refine joinParts_nil ?_ hle
  rw [hv]
  exact hQ _ _ ((I'.tok _).tok _)

theorem s_name (I : In g₀ D s₀ g μ s) {k : Nat} {t : Tok} (hk : k < 2 ^ 20) {Q : Value → Shared → Prop} (h : ∀ s' t', In g₀ D s₀ g μ s' → Q (.str (Str.ofString (toString k)) t') s') :
    wpAny (model prog w) A (call (.type "str") [.int k t]) Q E s :=
  str_of_int_fit (N := 2 ^ 20) (by rw [if_neg (by first | decide | exact lle ‹_› rfl | exact llt ‹_› rfl | exact lll ‹_› rfl | exact llm ‹_› rfl | omega)]; omega) (by decide) fun zz => h _ _ (I.tok _)

theorem o_add_str (I : In g₀ D s₀ g μ s) {x y : Str} {t u : Tok} (hn : x.length + y.length ≤ 2 ^ 20) {Q : Value → Shared → Prop} (h : ∀ s' t', In g₀ D s₀ g μ s' → Q (.str (x ++ y) t') s') :
    wpAny (model prog w) A (binaryOp .Add (.str x t) (.str y u)) Q E s :=
  PyProof.Rows.add_str (fun t' tk => h _ _ (I.tok tk)) (by rw [sizeLine_eq]; omega)
end
end Mine
end

section
open PySem PySem.W PyProof.Rows PySem.Calls
set_option tactic.hygienic false
set_option linter.all false
namespace Mine
section
variable {prog : Program} {w : World} {A : Around} {E : Value → Shared → Prop} {g₀ g : Heap} {D : List Addr} {s₀ s : Shared} {μ : List Res} {env : Env}
theorem In.imp (I : In g₀ D s₀ g μ s) {i : Nat} {a : Addr} {P P' : Obj → Prop} (hi : μ[i]? = some (a, P)) (h : ∀ o, P o → P' o) : In g₀ D s₀ g (μ.set i (a, P')) s := by
  obtain ⟨o, ho, hP⟩ := I.get hi
  exact I.chg (h' := s.heap) (tk := s.toks) hi (fun zz zz zz e => e) ho (h o hP)
set_option tactic.hygienic true in
theorem ite_wp {α : Type} {M : Model} {c : Prop} [Decidable c] {m1 m2 : Sem α} {Q Q' : α → Shared → Prop} (h : if c then wpAny M A m1 Q' E s else wpAny M A m2 Q' E s) (hq : ∀ a s', Q' a s' → Q a s') : if c then wpAny M A m1 Q E s else wpAny M A m2 Q E s := by
  split
  · rename_i hc; rw [if_pos hc] at h; exact wpAny_mono h hq fun zz zz e => e
  · rename_i hc; rw [if_neg hc] at h; exact wpAny_mono h hq fun zz zz e => e
theorem i_lstN (I : In g₀ D s₀ g μ s) {value slice : Expr} {v : Value} {ds : List PyData} {i : Int} {k : Nat} {u : Tok} {d : PyData} {Q : Value → Shared → Prop} (hv : Rd g v (.list ds)) (hi : i = k) (hk : ds[k]? = some d) (hn : ds.length < 2 ^ 20)
    (h : ∀ x, Rd g x d → Q x s)
    (hs : ∀ t, subscripted slice false (.ref t) (.int i u) = operate [.ref t, .int i u] (getItem (.ref t) (.int i u)) := by intro _; with_unfolding_all rfl) :
    wpAny (model prog w) A (subscriptTail value slice v (.int i u)) Q E s := by
  subst hi
  exact i_lst I hv hk hn h hs
theorem i_str (I : In g₀ D s₀ g μ s) {value slice : Expr} {x : Str} {t : Tok} {i : Int} {c : Nat} {u : Tok} {Q : Value → Shared → Prop} (hr : (decide (i < -(2 ^ 63 : Int)) || decide (i ≥ 2 ^ 63)) = false) (hc : (seqIndex? i x.length).bind (x.cps[·]?) = some c)
    (h : ∀ s' t', In g₀ D s₀ g μ s' → Q (.str ⟨#[c]⟩ t') s')
    (hs : subscripted slice false (.str x t) (.int i u) = operate [.str x t, .int i u] (getItem (.str x t) (.int i u)) := by with_unfolding_all rfl) :
    wpAny (model prog w) A (subscriptTail value slice (.str x t) (.int i u)) Q E s :=
  tail_any (typeIs_str s x t) F.slot_str_getitem.lookup (PyProof.Rows.getItem_str hr hc (h _ _ (I.tok _))) hs
theorem bits_small {k : Nat} (h : k < 2 ^ 20) : Builtin.Int.intBits (k : Int) ≤ 64 := by
  unfold Builtin.Int.intBits
  rw [Int.natAbs_natCast]
  rcases Nat.eq_zero_or_pos k with rfl | hk
  · decide
  · have : k.log2 < 20 := (Nat.log2_lt (by first | decide | exact lle ‹_› rfl | exact llt ‹_› rfl | exact lll ‹_› rfl | exact llm ‹_› rfl | omega)).mpr h
    split <;> omega
theorem o_mul (I : In g₀ D s₀ g μ s) {a b : Int} {k : Nat} {t u : Tok} {Q : Value → Shared → Prop} (ha : a = k) (hk : k < 2 ^ 20) (h : ∀ s' t, In g₀ D s₀ g μ s' → Q (.int (a * b) t) s') : wpAny (model prog w) A (binaryOp .Mult (.int a t) (.int b u)) Q E s := by
  subst ha
  exact PyProof.Rows.mul_int (h _ _ (I.tok _)) (.of_left (bits_small hk))
theorem b_tuple_tup (I : In g₀ D s₀ g μ s) {v : Value} {ds : List PyData} {Q : Value → Shared → Prop} (hv : Rd g v (.tuple ds)) (h : Q v s) : wpAny (model prog w) A (call (.type "tuple") [v]) Q E s := by
  obtain ⟨a, vs, rfl, ht, hr⟩ := hv.tup_inv
  exact call_tuple_tup (IsTup.keeps ht I.own.sub) h
theorem b_tuple_any (I : In g₀ D s₀ g μ s) {v : Value} {ds : List PyData} {Q : Value → Shared → Prop} (hv : SeqAtD g v ds) (hn : ds.length ≤ 2 ^ 20)
    (h : ∀ g' s' r, Sub g g' → In g₀ D s₀ g' μ s' → Rd g' r (.tuple ds) → Q r s') : wpAny (model prog w) A (call (.type "tuple") [v]) Q E s := by
  rcases hv with hv | hv
  · exact b_tuple_lst I hv hn h
  · exact b_tuple_tup I hv (h g s v (Sub.refl g) I hv)
theorem tab_empty {d : Addr} (lo : (d == sysModules) = false) (o : Obj) (h : o = { cls := .type "dict", data := .dict #[] }) : tabP prog w d [] o := by
  subst h
  exact ⟨lo, #[], 0, ⟨rfl, rfl, rfl⟩, rfl, rfl, List.nodup_nil⟩
theorem NRd.nil : NRd g [] [] := ⟨rfl, fun zz h => (nomatch h), fun i x h => by simp at h⟩
end
end Mine
end

section
open PySem PySem.W PyProof.Rows PySem.Calls
set_option tactic.hygienic false
set_option linter.all false
namespace Mine
section
variable {prog : Program} {w : World} {A : Around} {E : Value → Shared → Prop} {g₀ g : Heap} {D : List Addr} {s₀ s : Shared} {μ : List Res} {env : Env}

theorem In.extNew (I : In g₀ D s₀ g μ s) {h' : Heap} {tk : Nat} (hk : ∀ b o, s.heap.get? b = some o → h'.get? b = some o) {a : Addr} {o : Obj} {P : Obj → Prop} (ha : s.heap.get? a = none) (ho : h'.get? a = some o) (hP : P o) :
    s₀.heap.get? a = none ∧ In g₀ D s₀ g ((a, P) :: μ) { s with heap := h', toks := tk } := by
  have J := I.ext (h' := h') (tk := tk) hk
  have h0 : s₀.heap.get? a = none := by
    cases e : s₀.heap.get? a with
    | none => rfl
    | some x => exact absurd ha (I.step.dom a (by rw [e]; exact fun e => by cases e))
  refine ⟨h0, J.step, ⟨J.own.sub, fun p hp => ?_, ?_, fun p hp => ?_⟩, fun p hp => ?_⟩
  · rcases List.mem_cons.mp hp with rfl | hp
    · exact ⟨o, ho, hP⟩
    · exact J.own.res p hp
  · rw [List.map_cons, List.nodup_cons]
    refine ⟨fun hm => ?_, I.own.nd⟩
    obtain ⟨p, hp, e⟩ := List.mem_map.mp hm
    obtain ⟨o', h1, _⟩ := I.own.res p hp
    rw [e, ha] at h1; cases h1
  · rcases List.mem_cons.mp hp with rfl | hp
    · show g.get? a = none
      cases e : g.get? a with
      | none => rfl
      | some o' => have := I.own.sub _ _ e; rw [ha] at this; cases this
    · exact I.own.off p hp
  · rcases List.mem_cons.mp hp with rfl | hp
    · exact .inr h0
    · exact I.mine p hp

theorem strs_are {g : Heap} : ∀ {vs : List Value} {ss : List Str}, Rds g vs (ss.map .str) → StrsAre vs ss
  | vs, [], h => by rw [h.cases_nil]; exact .nil
  | vs, x :: r, h => by
    obtain ⟨v, q, rfl, h1, h2⟩ := Rds.cases_cons h
    obtain ⟨t, rfl⟩ := h1.str_inv
    exact .cons _ _ (strs_are h2)
theorem strs_rds {g : Heap} {vs : List Value} {ss : List Str} (h : StrsAre vs ss) : Rds g vs (ss.map .str) := ⟨_, h.reads g⟩
theorem ints_rds {g : Heap} : ∀ {vs : List Value} {ns : List Int}, IntsAre vs ns → Rds g vs (ns.map .int)
  | _, _, .nil => .nil
  | _, _, .cons n t h => .cons .int (ints_rds h)

theorem b_sorted_strs (I : In g₀ D s₀ g μ s) {v : Value} {ss : List Str} {Q : Value → Shared → Prop} (hv : Rd g v (.list (ss.map .str))) (hn : ss.length < 64)
    (h : ∀ g' s' r ss', Sub g g' → ss'.Perm ss → sortedS ss' = true → In g₀ D s₀ g' μ s' → Rd g' r (.list (ss'.map .str)) → Q r s') : wpAny (model prog w) A (call (.builtin "sorted") [v]) Q E s := by
  obtain ⟨a, vs, rfl, hl, hr⟩ := hv.lst_inv
  have hvl := hr.length
  rw [List.length_map] at hvl
  refine sorted_strs (isList_sub hl I.own.sub) (strs_are hr) (by first | decide | exact lle ‹_› rfl | exact llt ‹_› rfl | exact lll ‹_› rfl | exact llm ‹_› rfl | omega) fun out ss' h1 h2 h3 => ?_
  obtain ⟨e, he⟩ := sortedAll_at s.heap vs out
  obtain ⟨h0, J⟩ := I.extNew (h' := sortedAll s.heap vs out) (tk := s.toks) (P := listP out.toList) (fun b o hb => sortedAll_old hb) (Heap.get?_none_of_le (Nat.le_succ _)) he ⟨e, rfl⟩
  obtain ⟨g', hs, hd, J⟩ := J.frzLst h0 (strs_rds h1)
  exact h g' _ _ ss' hs h2 h3 J hd

theorem b_sorted_keys (hh : A.handled = none) (I : In g₀ D s₀ g μ s) {d : Addr} {kvs : List (Int × Value)} (x : DAt (PySem.intKind prog w) s.heap d kvs) {Q : Value → Shared → Prop} (hn : kvs.length < 64)
    (h : ∀ g' s' r (ns : List Int), Sub g g' → ns.Perm (kvs.map (·.1)) → ns.Pairwise (· ≤ ·) → In g₀ D s₀ g' μ s' → Rd g' r (.list (ns.map .int)) → Q r s') : wpAny (model prog w) A (call (.builtin "sorted") [.ref d]) Q E s := by
  obtain ⟨ep, hat⟩ := x.of.dictAt
  refine Calls.call_function_entry kind_sorted plain_sorted entry_sorted (args_sorted1 _) ?_
  unfold Builtin.«sorted»
  refine wpAny_bind (m := checkCount "sorted" 1 1 _) (wpAny_pure ?_)
  refine wpAny_bind (kdu_collect (A := A.in1) (kdl_dict (prog := prog) (w := w) (knd := PySem.intKind prog w) (kvs := kvs) (ep := ep) x.lo) (show A.in1.handled = none from hh) hat (by rw [sizeLine_eq]; omega) fun h' tk acc hk hacc => ?_)
  have hl : acc.toList.length = kvs.length := by rw [Array.length_toList]; exact hacc.1
  refine wpAny_bind (wpAny_newList ?_ (by rw [hl, sizeLine_eq]; omega))
  have J1 := I.ext (h' := h') (tk := tk) hk
  have hkey : ∀ (l : List (Int × Value)) (vs : List Value), vs.length = l.length → (∀ (j : Nat) (v : Value), vs[j]? = some v → ∃ (k : Int) (x : Value), l[j]? = some (k, x) ∧ (PySem.intKind prog w).is k v = true) → IntsAre vs (l.map (·.1)) := by
    intro l
    induction l with
    | nil => intro vs h1 _; obtain rfl : vs = [] := List.length_eq_zero_iff.mp (by simpa using h1); exact .nil
    | cons p l ih =>
      intro vs h1 h2
      cases vs with
      | nil => simp at h1
      | cons v vs =>
        obtain ⟨k, x, e, hkv⟩ := h2 0 v rfl
        simp only [List.getElem?_cons_zero, Option.some.injEq] at e
        subst e
        obtain ⟨t, rfl⟩ := Value.isInt_shape hkv
        exact .cons _ _ (ih vs (by simpa using h1) fun j u hj => h2 (j + 1) u (by simpa using hj))
  have hI := hkey kvs acc.toList hl fun j v hj => hacc.2 j v (by rw [← Array.getElem?_toList]; exact hj)
  have hoL : (h'.push { cls := .type "list", data := .seq acc.toList.toArray }).get? h'.objs.size = some (seqObj "list" acc.toList.toArray 0) := Heap.get?_push_size _ rfl
  have hfr : h'.get? h'.objs.size = none := get?_fresh h'
  refine wpAny_bind (wpAny_holding (wpAny_call_entry slot_list_sort ⟨_, hoL, rfl⟩ entry_list_sort (list_sort_tree hoL hI (by rw [hl]; exact hn) fun out ns' a1 a2 a3 => ⟨_, rfl, ?_⟩) (args_list_sort _)))
  obtain ⟨e, he⟩ := sortedHeap_at (out := out) hoL
  have hk2 : ∀ b o, h'.get? b = some o → (sortedHeap (h'.push { cls := .type "list", data := .seq acc.toList.toArray }) h'.objs.size acc.toList out).get? b = some o := fun b o hb => by
    have hlt := Heap.lt_size hb
    rw [sortedHeap_old (Nat.ne_of_lt hlt) (by rw [Heap.size_push]; exact Nat.lt_succ_of_lt hlt)]
    exact Heap.get?_push_of_some _ hb
  obtain ⟨h0, J⟩ := J1.extNew (tk := tk) (P := listP out.toList) hk2 hfr he ⟨e, rfl⟩
  obtain ⟨g', hs, hd, J⟩ := J.frzLst h0 (ints_rds a1)
  exact wpAny_pure ⟨_, rfl, h g' _ _ ns' hs a2 a3 J hd⟩
end
end Mine
end

section
open PySem PySem.W PyProof.Rows PySem.Calls
set_option tactic.hygienic false
set_option linter.all false
namespace Mine
section
variable {prog : Program} {w : World} {A : Around} {E : Value → Shared → Prop} {g₀ g : Heap} {D : List Addr} {s₀ s : Shared} {μ : List Res} {env : Env}
theorem x_compO (_ : In g₀ D s₀ g μ s) {elt target iter : Expr} {ifs : List Expr} {scope : Scope} {pos : Pos} {cl : List (Str × Addr)} {Q : Value → Shared → Prop}
    (hclos : closureFor scope env = pure cl) (hkind : scope.kind = .function) (hnames : ∀ x ∈ scope.names, x.2 = .local → scope.names.lookup x.1 = some .local)
    (hs : ∀ x, foldedSetIterable iter env x = pure x)
    (h : wpAny (model prog w) A (eval iter env) (fun xv s₁ => wpAny (model prog w) A (pyIter xv) (CompK prog w A g₀ D s₀ elt target ifs scope env cl (fun ds g' μ' => ∀ acc out s'', s₀.heap.get? acc = none → Rds g' out ds → In g₀ D s₀ g' ((acc, listP out) :: μ') s'' → Q (.ref acc) s'')) E s₁) E s) :
    wpAny (model prog w) A (eval (.ListComp elt [⟨target, iter, ifs, 0⟩] scope pos) env) Q E s := by
  refine comp_rule (g₀ := g₀) (D := D) (s₀ := s₀) hclos hkind hnames hs (wpAny_mono h (fun xv s₁ h₁ => wpAny_mono h₁ (fun it s₂ h₂ => ?_) fun zz zz e => e) fun zz zz e => e)
  obtain ⟨xs, g, μ, K, ⟨gb, ρ, N, hg, hρ, I⟩, hn, h0, turn, hmono, fin⟩ := h₂
  refine ⟨gb, xs.length, ρ, VS xs, g, μ, fun i out g' μ' => ∃ ds, Rds g' out ds ∧ K i ds g' μ', N, hg, hρ, hn, ⟨[], .nil, h0⟩, I, ?_, ?_, ?_⟩
  · rintro C i out g' μ' s' v m cm rest hi hg1 hg2 ⟨ds, hr, hK⟩ ⟨x, hx, hv⟩ I'
    refine wpAny_mono (turn C i x v ds g' μ' s' m cm rest hx hg1 hv hK I') (fun zz s₂ h₂ => wpAny_mono h₂ (fun ok s₃ h₃ => ?_) fun zz zz e => e) fun zz zz e => e
    cases ok with
    | true =>
      simp only [if_true] at h₃ ⊢
      refine wpAny_mono h₃ (fun y s₄ h₄ => ?_) fun zz zz e => e
      obtain ⟨g3, μ3, m3, cm3, d, hs3, I3, hd, hK3⟩ := h₄
      exact ⟨g3, μ3, m3, cm3, hs3, I3, ds ++ [d], (hr.mono hs3).append (.one hd), hK3⟩
    | false =>
      simp only [Bool.false_eq_true, if_false] at h₃ ⊢
      obtain ⟨g3, μ3, m3, cm3, hs3, I3, hK3⟩ := h₃
      exact ⟨g3, μ3, m3, cm3, hs3, I3, ds, hr.mono hs3, hK3⟩
  · rintro i out g' g'' μ' hs' ⟨ds, hr, hK⟩
    exact ⟨ds, hr.mono hs', hmono _ _ _ _ _ hs' hK⟩
  · rintro acc out g' μ' s' hacc hgg ⟨ds, hr, hK⟩ I'
    exact fin ds g' μ' hgg hK acc out s' hacc hr I'
end
end Mine
end

section
open PySem PySem.W PyProof.Rows PySem.Calls
set_option tactic.hygienic false
set_option linter.all false
namespace Mine

/-! set(a list) -/
section
variable {prog : Program} {w : World} {A : Around} {E : Value → Shared → Prop} {s : Shared}
abbrev newSetObj (w : World) : Obj := { cls := .type "set", dict := none, data := .set #[] 0 (.fresh 0 0 (!w.params.followText "set-order")) }

theorem set_made (a : Value) {Q : Value → Shared → Prop} (h : Q (.ref s.heap.objs.size) { s with heap := s.heap.push (newSetObj w) }) :
    codeAny (model prog w) A (.call (.builtin "set.__new__") ⟨[.type "set", a], []⟩) (wants Q E) s := by
  refine codeAny_of_tree ?_
  show wpAny _ A.in1 (do checkBuiltinCall "set.__new__" ⟨[.type "set", a], []⟩; again (.builtin "set.__new__" ⟨[.type "set", a], []⟩)) _ _ s
  refine wpAny_bind (wpAny_of_eq (PySem.F.newCall_set_1 a) (wpAny_pure ⟨plainId_quiet PySem.F.plain_set_new _, codeAny_builtin PySem.F.entry_set_new ?_⟩))
  rw [Around.under_plainId PySem.F.plain_set_new _]
  unfold Builtin.«set.__new__» Builtin.Frozenset.newClass
  have hsub := sub_set_self
  obtain ⟨hp, g, d, tk, os⟩ := s
  dsimp only
  wp_walk
  refine wpAny_askSetting (wpAny_pure ?_)
  dsimp only
  simp only [newObj]
  exact wpAny_bind (wpAny_alloc (wpAny_pure (wpAny_pure h)))
end

section
variable {prog : Program} {w : World} {A : Around} {E : Value → Shared → Prop} {g₀ g : Heap} {D : List Addr} {s₀ s : Shared} {μ : List Res}

theorem set_loop {l it S : Addr} {vs : List Value} {P : Nat → Obj → Prop} {R : Result → Shared → Prop} (hh : A.handled = none) (hl : SeqKind.at .lst g l vs) (hf : s₀.heap.get? it = none)
    (step : ∀ {i : Nat} {x : Value} {ν : List Res} {s' : Shared} {Q' : Bool → Shared → Prop} {E' : Value → Shared → Prop}, vs[i]? = some x → In g₀ D s₀ g ((S, P i) :: ν) s' → (∀ b s'', In g₀ D s₀ g ((S, P (i + 1)) :: ν) s'' → Q' b s'') → wpAny (model prog w) A.in1 (setAdd S x) Q' E' s') :
    ∀ (k i : Nat) (s : Shared), vs.length - i = k → i ≤ vs.length → In g₀ D s₀ g ((it, iterP SeqKind.lst.iter l i) :: (S, P i) :: μ) s →
      (∀ s', In g₀ D s₀ g ((S, P vs.length) :: μ) s' → R (.ok (.ret .none)) s') →
      codeAny (model prog w) A (.builtin "set.update.loop" ⟨[.ref S, .ref it], []⟩) R s := by
  intro k
  induction k with
  | zero =>
    intro i s hk hi I hR
    have e : i = vs.length := by omega
    subst e
    refine codeAny_builtin PyProof.Rows.F.entry_set_update_loop ?_
    rw [Around.under_plainId PyProof.Rows.F.plain_set_update_loop _]
    show wpAny _ A.in1 (pyNext (.ref it) >>= _) _ _ s
    obtain ⟨o, ho, hP⟩ := I.get (i := 0) (a := it) (P := iterP SeqKind.lst.iter l vs.length) rfl
    rw [hP] at ho
    refine wpAny_bind (pyNext_end (κ := .lst) (A := A.in1) hh ho (SeqKind.at_sub hl I.own.sub) (by simp) fun h' hs' => ?_)
    exact wpAny_pure (hR _ (In.dropTo (tk := s.toks) I hf fun b o hb e => hs' b o hb e))
  | succ k ih =>
    intro i s hk hi I hR
    have hlt : i < vs.length := by omega
    refine codeAny_builtin PyProof.Rows.F.entry_set_update_loop ?_
    rw [Around.under_plainId PyProof.Rows.F.plain_set_update_loop _]
    show wpAny _ A.in1 (pyNext (.ref it) >>= _) _ _ s
    obtain ⟨o, ho, hP⟩ := I.get (i := 0) (a := it) (P := iterP SeqKind.lst.iter l i) rfl
    rw [hP] at ho
    have hx := List.getElem?_eq_getElem hlt
    refine wpAny_bind (pyNext_item (κ := .lst) ho (SeqKind.at_sub hl I.own.sub) hx fun h' ho' hs' => ?_)
    have I' := I.chg (i := 0) (tk := s.toks) (P' := iterP SeqKind.lst.iter l (i + 1)) rfl (fun b o hb e => hs'.extBut b o hb e) ho' rfl
    have I2 : In g₀ D s₀ g ((S, P i) :: (it, iterP SeqKind.lst.iter l (i + 1)) :: μ) _ := I'.perm (List.Perm.swap _ _ _)
    show wpAny _ A.in1 (holding [vs[i]] (setAdd S vs[i]) >>= _) _ _ _
    refine wpAny_bind (wpAny_holding (step hx I2 fun b s'' I3 => ?_))
    exact wpAny_pure ⟨plainId_quiet PyProof.Rows.F.plain_set_update_loop _, ih (i + 1) s'' (by first | decide | exact lle ‹_› rfl | exact llt ‹_› rfl | exact lll ‹_› rfl | exact llm ‹_› rfl | omega) hlt (I3.perm (List.Perm.swap _ _ _)) hR⟩

set_option maxRecDepth 100000 in
set_option maxHeartbeats 3200000 in
theorem b_setG (hh : A.handled = none) (I : In g₀ D s₀ g μ s) {v : Value} {ds : List PyData} {Q : Value → Shared → Prop} (hv : Rd g v (.list ds)) (P : Nat → Obj → Prop) (h0 : P 0 (newSetObj w))
    (step : ∀ {A' : Around} {E' : Value → Shared → Prop} {i : Nat} {d : PyData} {x : Value} {S : Addr} {ν : List Res} {s' : Shared} {Q' : Bool → Shared → Prop}, A'.handled = none → A'.units ≤ A.units + 20 → ds[i]? = some d → Rd g x d →
      In g₀ D s₀ g ((S, P i) :: ν) s' → (∀ b s'', In g₀ D s₀ g ((S, P (i + 1)) :: ν) s'' → Q' b s'') → wpAny (model prog w) A' (setAdd S x) Q' E' s')
    (h : ∀ S s', s₀.heap.get? S = none → In g₀ D s₀ g ((S, P ds.length) :: μ) s' → Q (.ref S) s') :
    wpAny (model prog w) A (call (.type "set") [v]) Q E s := by
  have hv2 := hv
  obtain ⟨l, vs, rfl, hl, hr⟩ := hv2.lst_inv
  have hlen := hr.length
  obtain ⟨c, tl, hmro⟩ := PySem.F.called_set.mro
  have hmade := PySem.F.called_set.made
  have hsub := PySem.F.called_set.sub
  refine wpAny_call (codeAny_of_tree ?_)
  show wpAny _ _ (callAny (.type "set") _) _ _ _
  refine wpAny_pure ⟨Code.quiet_builtin _ (by decide +kernel), codeAny_builtin PySem.F.entry_type_call ?_⟩
  rw [Around.under_plain (weight_type_call_type "set" [.ref l] []) rfl]
  have k1 := PySem.F.called_set.notType
  have k2 := PySem.F.called_set.canCreate
  have k3 := PySem.F.typeCall_set_1 (.ref l)
  repeat (any_goals (first | assumption | wp_step))
  refine codeAny_mono (set_made (.ref l) (E := E) (Q := fun obj s₁ => obj = .ref s.heap.objs.size ∧ s₁ = { s with heap := s.heap.push (newSetObj w) }) ⟨rfl, rfl⟩) fun r s₁ hr₁ => ?_
  cases r with
  | error e => exact hr₁
  | ok fl =>
    cases fl with
    | ret obj =>
      obtain ⟨rfl, rfl⟩ := hr₁
      have J := I.new (o := newSetObj w) (P := fun o => o = newSetObj w) rfl
      have hS : (s.heap.push (newSetObj w)).get? s.heap.objs.size = some (newSetObj w) := Heap.get?_push_size _ rfl
      have hT : Shared.TypeIs { s with heap := s.heap.push (newSetObj w) } (.ref s.heap.objs.size) "set" := ⟨_, hS, rfl⟩
      have k4 := PySem.F.called_set.init.lookup
      have k5 := PySem.F.called_set.init.bind (.ref s.heap.objs.size)
      repeat (any_goals (first | assumption | wp_step))
      refine codeAny_mono (codeAny_call_builtin (R := wants (fun r s₂ => r = .none ∧ In g₀ D s₀ g ((s.heap.objs.size, P ds.length) :: μ) s₂) E) PySem.F.called_set.init.plain PySem.F.entry_set_init (check_set_init_1 hT ?_)) fun r₂ s₂ hr₂ => ?_
      · have hl1 := isList_sub hl J.own.sub
        obtain ⟨⟨ocls, od, odat, osl⟩, hol, hcl, nl, hdl⟩ := id hl1
        simp only at hcl hdl
        subst hcl; subst hdl
        have k6 := PySem.F.sub_list_set
        have k7 := PySem.F.sub_list_frozenset
        have k8 : (Value.type "list" == Value.type "dict") = false := by decide
        unfold Builtin.«set.__init__» noKeywords Builtin.Frozenset.updateFrom
        generalize hPI : pyIter = PI
        wp_walk
        subst hPI
        refine iter_lst J hv fun it l' vs' s' e hf hl' hr' J' => ?_
        cases e
        obtain rfl : vs' = vs := by
          obtain ⟨o1, a1, _, n1, b1⟩ := (hl' : g.IsList l vs'.toArray)
          obtain ⟨o2, a2, _, n2, b2⟩ := hl
          rw [a1] at a2; cases a2
          rw [b1] at b2; cases b2; rfl
        refine wpAny_bind (wpAny_runValue ?_)
        have J2 : In g₀ D s₀ g ((it, iterP SeqKind.lst.iter l 0) :: (s.heap.objs.size, P 0) :: μ) s' := J'.imp (i := 1) rfl fun o e => by rw [e]; exact h0
        refine set_loop (P := P) (A := A.in1.in1) (by simpa using hh) hl' hf (fun {i x ν s2 Q' E'} hx I2 hq => ?_) vs'.length 0 s' (by first | decide | exact lle ‹_› rfl | exact llt ‹_› rfl | exact lll ‹_› rfl | exact llm ‹_› rfl | omega) (Nat.zero_le _) J2 fun s3 I3 => ?_
        · obtain ⟨d, hd, hxd⟩ := hr.getV hx
          exact step (by simpa using hh) (by show A.units + 1 + 1 + 1 ≤ _; omega) hd hxd I2 hq
        · show wpAny _ _ _ _ _ _
          refine wpAny_pure ?_
          show wpAny _ _ (ret Value.none) _ _ _
          exact wpAny_pure ⟨rfl, by rw [← hlen]; exact I3⟩
      · cases r₂ with
        | error e => exact hr₂
        | ok fl₂ =>
          cases fl₂ with
          | ret r =>
            obtain ⟨rfl, I2⟩ := hr₂
            repeat (any_goals (first | assumption | wp_step))
            exact h _ _ I.free I2
          | _ => exact hr₂.elim
    | _ => exact hr₁.elim
end
end Mine
end

section
open PySem PySem.W PyProof.Rows PySem.Calls
set_option tactic.hygienic false
set_option linter.all false
namespace Mine

/-! a set of texts -/
theorem or_led (t : SetTable) (n : Nat) : (t.orStandIn n).led = t.led := by unfold SetTable.orStandIn; split <;> rfl
theorem lay_led (t : SetTable) (es : Array (Int × Value)) (h : Int) (x : Value) : (layNew t es h x).2.1.led = t.led := by
  unfold layNew
  split
  · exact or_led _ _
  · rfl
theorem relaid_keeps {t t' : SetTable} {hs : Array Int} {n : Nat} {order : Array Nat} (h : t.relaid hs n = some (t', order)) : t'.led = t.led ∧ t'.plain = t.plain := by
  unfold SetTable.relaid SetTable.laid at h
  cases hl : SetTable.layClean (SetTable.sizeAbove n - 1) hs with
  | none => simp [hl] at h
  | some owner =>
    simp [hl] at h
    obtain ⟨rfl, _⟩ := h
    exact ⟨rfl, rfl⟩
set_option tactic.hygienic true in
theorem relay_led (t : SetTable) (es : Array (Int × Value)) (n : Nat) : (relayAll t es n).2.1.led = t.led := by
  unfold relayAll
  split
  · rename_i t' order h
    dsimp only
    split
    · exact (relaid_keeps h).1
    · rfl
  · rfl
set_option tactic.hygienic true in
theorem relay_plain (t : SetTable) (es : Array (Int × Value)) (n : Nat) (hp : t.plain = false) : (relayAll t es n).2.1.plain = false := by
  unfold relayAll
  split
  · rename_i t' order h
    dsimp only
    split
    · exact (relaid_keeps h).2.trans hp
    · rfl
  · rfl

abbrev setObj (es : Array (Int × Value)) (ep : Nat) (t : SetTable) : Obj := { cls := .type "set", dict := none, data := .set es ep t, slots := #[] }

section
variable {prog : Program} {w : World} {A : Around} {E : Value → Shared → Prop} {s : Shared}

theorem str_tail {g : Bool → Sem Unit} (hg : ∀ (b : Bool) (s₁ : Shared) (Q' : Unit → Shared → Prop), Q' () s₁ → wpAny (model prog w) A (g b) Q' E s₁)
    {a : Addr} {es : Array (Int × Value)} {ep : Nat} {t : SetTable} (ho : s.heap.get? a = some (setObj es ep t)) {es1 : Array (Int × Value)} {t2 : SetTable} (hb1 : es1.size < scanBound) (hf2 : t2.fits es1.size = true) (hp2 : t2.plain = false)
    {wasDummy : Bool} {R : Option Bool → Shared → Prop}
    (h : ∀ h' es' ep' t', Heap.SameBut a s.heap h' → h'.get? a = some (setObj es' ep' t') → es'.toList.Perm es1.toList → t'.fits es'.size = true → t'.led = t2.led → t'.plain = false → R (some true) { s with heap := h' }) :
    wpAny (model prog w) A (do
        storeSet a es1 t2
        if (!wasDummy && t2.tooFull) = true then do
            g (relayAll t2 es1 (SetTable.grown es1.size)).2.2
            storeSet a (relayAll t2 es1 (SetTable.grown es1.size)).1 (relayAll t2 es1 (SetTable.grown es1.size)).2.1
            pure (some true)
          else pure (some true)) R E s := by
  have put : ∀ (h₁ : Heap) (ea : Array (Int × Value)) (e : Nat) (ta : SetTable) (eb : Array (Int × Value)) (tb : SetTable), h₁.get? a = some (setObj ea e ta) → (h₁.update a (Obj.putSet eb tb)).get? a = some (setObj eb (e + 1) tb) := by
    intro h₁ ea e ta eb tb hh
    have := Heap.get?_update_self (Obj.putSet eb tb) hh (by rw [putSet_of eb tb rfl]; rfl)
    rw [putSet_of eb tb rfl] at this
    exact this
  refine wpAny_bind (wpAny_storeSet_of ho rfl ?_ (fits_of_scanBound hb1))
  have ho1 := put s.heap es ep t es1 t2 ho
  have hs1 := Heap.SameBut.update s.heap a (Obj.putSet es1 t2)
  split
  · have hp := relayAll_perm t2 es1 (SetTable.grown es1.size)
    have hfr := relayAll_fits t2 es1 (SetTable.grown es1.size)
    have hl := relay_led t2 es1 (SetTable.grown es1.size)
    have hpl := relay_plain t2 es1 (SetTable.grown es1.size) hp2
    generalize hRl : relayAll t2 es1 (SetTable.grown es1.size) = Rl at hp hfr hl hpl ⊢
    obtain ⟨es2, t3, gave2⟩ := Rl
    dsimp only at hp hfr hl hpl ⊢
    have hsz : es2.size = es1.size := by rw [← Array.length_toList, hp.length_eq, Array.length_toList]
    refine wpAny_bind (hg _ _ _ ?_)
    refine wpAny_bind (wpAny_storeSet_of ho1 rfl ?_ (fits_of_scanBound (by rw [hsz]; exact hb1)))
    exact wpAny_pure (h _ es2 _ t3 (hs1.trans (Heap.SameBut.update _ a _)) (put _ es1 _ t2 es2 t3 ho1) hp hfr hl hpl)
  · exact wpAny_pure (h _ es1 _ t2 hs1 ho1 .rfl hf2 rfl hp2)

set_option tactic.hygienic true in
theorem add_str {S : Addr} {es : Array (Int × Value)} {ep : Nat} {t : SetTable} {y : Str} {tk : Tok} (ho : s.heap.get? S = some (setObj es ep t)) (hel : ElemsOf (PySem.strKind prog w) es.toList) (hf : t.fits es.size = true)
    (hb : es.size + 1 < scanBound) {Q : Bool → Shared → Prop}
    (h1 : (∃ e ∈ es.toList, (PySem.strKind prog w).is y e.2 = true) → Q false { s with toks := s.toks + 1 })
    (h2 : (∀ e ∈ es.toList, (PySem.strKind prog w).is y e.2 = false) → ∀ h' es' ep' t', Heap.SameBut S s.heap h' → h'.get? S = some (setObj es' ep' t') → es'.toList.Perm (es.toList ++ [((PySem.strKind prog w).hash y, .str y tk)]) → t'.fits es'.size = true → t'.led = t.led → t'.plain = false →
      Q true { s with heap := h', toks := s.toks + 1 }) :
    wpAny (model prog w) A (setAdd S (.str y tk)) Q E s := by
  have hkey := strKind_is prog w y tk
  unfold setAdd
  refine wpAny_holding (wpAny_bind ((PySem.strKind prog w).pyHash hkey ?_))
  unfold setAddHashed setAddHashedIn
  refine wpAny_holding (wpAny_bind (wpAny_setState_of (s := { s with toks := s.toks + 1 }) ho rfl hf ?_))
  dsimp only
  rw [byScan_of rfl (by first | decide | exact lle ‹_› rfl | exact llt ‹_› rfl | exact lll ‹_› rfl | exact llm ‹_› rfl | omega) hel]
  simp only [↓reduceIte]
  unfold setAddByScan
  refine wpAny_bind ?_
  refine wpAny_bind (wpAny_rule ?_)
  refine wpAny_bind (wpAny_setScan_of hkey (s := { s with toks := s.toks + 1 }) ho rfl hf hel ?_)
  cases hr : List.findIdx? (fun e => (PySem.strKind prog w).is y e.2) es.toList with
  | some j =>
    dsimp only
    obtain ⟨hj, hpj, _⟩ := List.findIdx?_eq_some_iff_getElem.mp hr
    exact wpAny_pure (wpAny_pure (h1 ⟨es.toList[j], List.getElem_mem hj, hpj⟩))
  | none =>
    dsimp only
    have hno : ∀ e ∈ es.toList, (PySem.strKind prog w).is y e.2 = false := List.findIdx?_eq_none_iff.mp hr
    have hgw : ∀ (b : Bool) {s₁ : Shared} {Q' : Unit → Shared → Prop}, Q' () s₁ → wpAny (model prog w) A (match b with | true => rule "set.scan.the-table-gave-way" | false => pure ()) Q' E s₁ :=
      fun b s₁ Q' hq => by cases b <;> first | exact wpAny_pure hq | exact wpAny_rule hq
    have hperm := layNew_perm t es ((PySem.strKind prog w).hash y) (.str y tk)
    have hfits := layNew_fits t es ((PySem.strKind prog w).hash y) (.str y tk)
    have hled := lay_led t es ((PySem.strKind prog w).hash y) (.str y tk)
    generalize hL : layNew t es ((PySem.strKind prog w).hash y) (.str y tk) = L at hperm hfits hled ⊢
    obtain ⟨es1, t1, wasDummy, gave⟩ := L
    dsimp only at hperm hfits hled ⊢
    rw [Array.toList_push] at hperm
    have hsz1 : es1.size = es.size + 1 := by rw [← Array.length_toList, hperm.length_eq, List.length_append, Array.length_toList]; rfl
    refine wpAny_bind (hgw _ ?_)
    have fin : ∀ t2 : SetTable, t2.fits es1.size = true → t2.led = t1.led → t2.plain = false → ∀ h' es' ep' t', Heap.SameBut S s.heap h' → h'.get? S = some (setObj es' ep' t') → es'.toList.Perm es1.toList → t'.fits es'.size = true → t'.led = t2.led → t'.plain = false →
        Q true { s with heap := h', toks := s.toks + 1 } := fun t2 zz e2 zz h' es' ep' t' a1 a2 a3 a4 a5 a6 =>
      h2 hno h' es' ep' t' a1 a2 (a3.trans hperm) a4 (a5.trans (e2.trans hled)) a6
    split
    · refine wpAny_bind ?_
      rw [hashByValue_scannable 8 (by rfl)]
      refine wpAny_pure ?_
      refine str_tail ?_ (s := { s with toks := s.toks + 1 }) ho (by first | decide | exact lle ‹_› rfl | exact llt ‹_› rfl | exact lll ‹_› rfl | exact llm ‹_› rfl | omega) ?_ ?_ ?_
      · intro b s₁ Q' hq; cases b <;> first | exact wpAny_pure hq | exact wpAny_rule hq
      · exact SetTable.fits_plain_off hfits
      · rfl
      · intro h' es' ep' t' a1 a2 a3 a4 a5 a6
        exact wpAny_pure (fin _ (SetTable.fits_plain_off hfits) rfl rfl h' es' ep' t' a1 a2 a3 a4 a5 a6)
    · rename_i hpl
      have hpl : t1.plain = false := by simpa using hpl
      refine wpAny_bind (wpAny_pure ?_)
      simp only [↓reduceIte]
      refine str_tail ?_ (s := { s with toks := s.toks + 1 }) ho (by first | decide | exact lle ‹_› rfl | exact llt ‹_› rfl | exact lll ‹_› rfl | exact llm ‹_› rfl | omega) hfits hpl ?_
      · intro b s₁ Q' hq; cases b <;> first | exact wpAny_pure hq | exact wpAny_rule hq
      · intro h' es' ep' t' a1 a2 a3 a4 a5 a6
        exact wpAny_pure (fin _ hfits rfl hpl h' es' ep' t' a1 a2 a3 a4 a5 a6)
end
end Mine
end

section
open PySem PySem.W PyProof.Rows PySem.Calls
set_option tactic.hygienic false
set_option linter.all false
namespace Mine

/-! a set is walked -/
theorem sit_slot : Slot "set_iterator" "__next__" "set_iterator.__next__" :=
  .of (owner := "set_iterator") (n := "__next__") (by rw [typeLookup_type, builtinLookup_eq_fast]; kernel_rfl) (by decide +kernel) (by decide +kernel) (by decide +kernel)
    (by first | exact .inl (by decide +kernel) | exact .inr (by decide +kernel)) (by rw [isSubtype_type]; kernel_rfl)
theorem sit_entry : entryFor table "set_iterator.__next__" = some Builtin.«set_iterator.__next__» := entryFor_of_tree (by kernel_rfl)
theorem sit_owner : Manifest.owners.lookup (String.ofList ['r', 'o', 't', 'a', 'r', 'e', 't', 'i', '_', 't', 'e', 's'].reverse) = some Manifest.sig_set_iterator := by kernel_rfl
theorem sit_args (a : Value) : argsOk "set_iterator.__next__" ⟨[a], []⟩ := by
  unfold argsOk; rw [signature?_of (id := "set_iterator.__next__") (n := ['_', '_', 't', 'x', 'e', 'n', '_', '_']) (o := ['r', 'o', 't', 'a', 'r', 'e', 't', 'i', '_', 't', 'e', 's']) (by kernel_rfl) sit_owner]; kernel_rfl
theorem set_entry_iter : entryFor table "set.__iter__" = some Builtin.«frozenset.__iter__» :=
  entryFor_alias (id' := "frozenset.__iter__") (by kernel_rfl) rfl (by decide +kernel) (by kernel_rfl)

theorem wpAny_choose {M : Model} {A : Around} {E : Value → Shared → Prop} {s : Shared} {src : Source} {n : Nat} {Q : Nat → Shared → Prop} (hn : n ≠ 0) (h : ∀ i dr, i < n → Q i { s with drawn := dr }) : wpAny M A (choose src n) Q E s := fun Γ p zz => by
  show Sem.wp M Γ (.choose src n .pure) _ _ p s
  rw [Sem.wp_choose]
  refine ⟨hn, ?_⟩
  rw [Sem.wp_pure]
  exact h _ _ (Nat.mod_lt _ (Nat.pos_of_ne_zero hn))

theorem erase_perm {α : Type} : ∀ (l : List α) (i : Nat) (h : i < l.length), (l[i] :: l.eraseIdx i).Perm l
  | x :: r, 0, _ => .rfl
  | x :: r, i + 1, h => by
    have ih := erase_perm r i (by simpa using h)
    simp only [List.getElem_cons_succ, List.eraseIdx_cons_succ]
    exact (List.Perm.swap _ _ _).trans (ih.cons x)
theorem draw_order {M : Model} {A : Around} {E : Value → Shared → Prop} {α : Type} : ∀ (n : Nat) (xs : List α) (s : Shared) {Q : List α → Shared → Prop}, n = xs.length → (∀ l dr, l.Perm xs → Q l { s with drawn := dr }) → wpAny M A (drawOrder n xs) Q E s
  | 0, xs, s, Q, hn, h => by
    have e : xs = [] := List.length_eq_zero_iff.mp hn.symm
    subst e
    exact wpAny_pure (h [] s.drawn .nil)
  | n + 1, [], s, Q, hn, h => by simp at hn
  | n + 1, x :: r, s, Q, hn, h => by
    show wpAny M A (choose .order (x :: r).length >>= _) Q E s
    refine wpAny_bind (wpAny_choose (by simp) fun i dr hi => ?_)
    rw [List.getElem?_eq_getElem hi]
    dsimp only
    refine wpAny_bind (draw_order n ((x :: r).eraseIdx i) _ (by rw [List.length_eraseIdx_of_lt hi]; omega) fun l dr' hl => ?_)
    refine wpAny_pure (h _ dr' ?_)
    exact (List.Perm.cons _ hl).trans (erase_perm _ _ hi)

theorem pick_go {α : Type} (next : Nat → Nat) : ∀ (n k : Nat) (left : List α) (out : Array α), left.length ≤ n → (pickOrder.go next n k left out).toList.Perm (out.toList ++ left)
  | 0, k, left, out, h => by
    have e : left = [] := List.length_eq_zero_iff.mp (by first | decide | exact lle ‹_› rfl | exact llt ‹_› rfl | exact lll ‹_› rfl | exact llm ‹_› rfl | omega)
    subst e
    show out.toList.Perm (out.toList ++ [])
    rw [List.append_nil]
  | n + 1, k, left, out, h => by
    cases left with
    | nil =>
      show out.toList.Perm (out.toList ++ [])
      rw [List.append_nil]
    | cons x r =>
      have hlt : next k % (x :: r).length < (x :: r).length := Nat.mod_lt _ (by simp)
      have e : pickOrder.go next (n + 1) k (x :: r) out = match (x :: r)[next k % (x :: r).length]? with | some y => pickOrder.go next n (k + 1) ((x :: r).eraseIdx (next k % (x :: r).length)) (out.push y) | none => out := rfl
      rw [e, List.getElem?_eq_getElem hlt]
      refine (pick_go next n (k + 1) _ _ (by rw [List.length_eraseIdx_of_lt hlt]; omega)).trans ?_
      rw [Array.toList_push, List.append_assoc]
      exact List.Perm.append_left _ (erase_perm _ _ hlt)
theorem pick_perm {α : Type} (next : Nat → Nat) (xs : Array α) : (pickOrder next xs).toList.Perm xs.toList := by
  unfold pickOrder
  have := pick_go next xs.size 0 xs.toList #[] (by simp)
  simpa using this

abbrev sitObj (f : Value) (i n ep : Nat) (S : Addr) : Obj := { cls := .type "set_iterator", dict := none, data := .fields #[f, rawInt i, .ref S, rawInt n, rawInt ep], slots := #[] }

section
variable {prog : Program} {w : World} {A : Around} {E : Value → Shared → Prop} {s : Shared}

theorem sit_item {it S : Addr} {slot i ep nx : Nat} {es : Array (Int × Value)} {t : SetTable} {x : Value} {Q : Option Value → Shared → Prop}
    (ho : s.heap.get? it = some (sitObj (rawInt slot) i es.size ep S)) (hS : s.heap.get? S = some (setObj es ep t)) (hf : t.fits es.size = true)
    (hn : ∀ {A' : Around} {E' : Value → Shared → Prop} {Q' : Option (Value × Nat) → Shared → Prop}, Q' (some (x, nx)) s → wpAny (model prog w) A' (setNext S slot i ep) Q' E' s)
    (hQ : ∀ h', h'.get? it = some (sitObj (rawInt nx) (i + 1) es.size ep S) → Heap.SameBut it s.heap h' → Q (some x) { s with heap := h' }) :
    wpAny (model prog w) A (pyNext (.ref it)) Q E s := by
  have hT : s.TypeIs (.ref it) "set_iterator" := ⟨_, ho, rfl⟩
  unfold pyNext
  refine wpAny_bind (wpAny_attempt (wpAny_callSpecial?_slot (name := Str.ofString "__next__") hT sit_slot (wpAny_call_entry sit_slot hT sit_entry ?_ (sit_args _))))
  show wpAny _ _ (fieldsOf (.ref it) >>= _) _ _ s
  refine wpAny_bind (wpAny_fieldsOf ho rfl ?_)
  show wpAny _ _ (setEntries S >>= _) _ _ s
  refine wpAny_bind (wpAny_setEntries_of hS rfl hf ?_)
  simp only [bne_self_eq_false, Bool.false_eq_true, if_false]
  show wpAny _ _ (setNext S slot i ep >>= _) _ _ s
  refine wpAny_bind (hn ?_)
  show wpAny _ _ (setField (.ref it) 0 (rawInt nx) >>= _) _ _ s
  refine wpAny_bind (wpAny_setField_rec ho (by simp) fun h1 ho1 hs1 => ?_)
  show wpAny _ _ (setField (.ref it) 1 (rawInt ((i : Int) + 1)) >>= _) _ _ _
  refine wpAny_bind (wpAny_setField_rec ho1 (by simp) fun h2 ho2 hs2 => ?_)
  refine wpAny_pure ⟨x, rfl, wpAny_pure (hQ h2 ?_ (hs1.trans hs2))⟩
  rw [ho2]
  rfl

theorem sit_stop {h : Heap} {Q : Option Value → Shared → Prop} (hh : A.handled = none) (hQ : ∀ h', (∀ b o, h.get? b = some o → h'.get? b = some o) → Q none { s with heap := h' }) :
    wpAny (model prog w) A.in1 (newExc (.type "StopIteration") [] >>= fun e => raiseNew e) (fun fin s' => ∃ v, fin = Fin.done (Flow.ret v) ∧
          wpAny (model prog w) A
            (match (Except.ok (some v) : Except Value (Option Value)) with
            | Except.ok (some v) => pure (some v)
            | Except.ok none => unsupported "iter:the-iterator's-class-has-lost-its-__next__-amid-the-walk"
            | Except.error e => do
              let __do_lift ← isInstance e (Value.type "StopIteration")
              if __do_lift = true then pure none else throw e)
            Q E s')
    (fun e s' =>
      wpAny (model prog w) A
        (match (Except.error e : Except Value (Option Value)) with
        | Except.ok (some v) => pure (some v)
        | Except.ok none => unsupported "iter:the-iterator's-class-has-lost-its-__next__-amid-the-walk"
        | Except.error e => do
          let __do_lift ← isInstance e (Value.type "StopIteration")
          if __do_lift = true then pure none else throw e)
        Q E s')
    { s with heap := h } := by
  refine wpAny_bind ?_
  simp only [newExc, newTuple]
  refine wpAny_bind (wpAny_newObj_type ?_ (by size_fits))
  refine wpAny_bind (m := firstArgMember _ _) (wpAny_of_eq (a := Value.none) (by first | rfl | (simp only [firstArgMember]; rfl)) ?_)
  refine wpAny_newObj_type ?_ (by size_fits)
  simp only [raiseNew]
  refine wpAny_bind (wpAny_handled ?_)
  first | rw [show A.in1.handled = none from hh] | rw [hh]
  refine wpAny_bind (wpAny_pure (wpAny_throw ?_))
  refine wpAny_bind (wpAny_isInstance (T := "StopIteration") (b := true) ⟨_, Heap.get?_push_size _ rfl, rfl⟩ isSubtype_stop ?_)
  exact wpAny_pure (hQ _ fun b o e => Heap.get?_push_of_some _ (Heap.get?_push_of_some _ e))

theorem sit_end {it S : Addr} {slot i ep : Nat} {es : Array (Int × Value)} {t : SetTable} {Q : Option Value → Shared → Prop} (hh : A.handled = none)
    (ho : s.heap.get? it = some (sitObj (rawInt slot) i es.size ep S)) (hS : s.heap.get? S = some (setObj es ep t)) (hf : t.fits es.size = true)
    (hn : ∀ {A' : Around} {E' : Value → Shared → Prop} {Q' : Option (Value × Nat) → Shared → Prop}, Q' none s → wpAny (model prog w) A' (setNext S slot i ep) Q' E' s)
    (hQ : ∀ h', Heap.ExtBut it s.heap h' → Q none { s with heap := h' }) :
    wpAny (model prog w) A (pyNext (.ref it)) Q E s := by
  have hT : s.TypeIs (.ref it) "set_iterator" := ⟨_, ho, rfl⟩
  unfold pyNext
  refine wpAny_bind (wpAny_attempt (wpAny_callSpecial?_slot (name := Str.ofString "__next__") hT sit_slot (wpAny_call_entry sit_slot hT sit_entry ?_ (sit_args _))))
  show wpAny _ _ (fieldsOf (.ref it) >>= _) _ _ s
  refine wpAny_bind (wpAny_fieldsOf ho rfl ?_)
  show wpAny _ _ (setEntries S >>= _) _ _ s
  refine wpAny_bind (wpAny_setEntries_of hS rfl hf ?_)
  simp only [bne_self_eq_false, Bool.false_eq_true, if_false]
  show wpAny _ _ (setNext S slot i ep >>= _) _ _ s
  refine wpAny_bind (hn ?_)
  show wpAny _ _ (setField (.ref it) 2 .none >>= _) _ _ s
  refine wpAny_bind (wpAny_setField_rec ho (by simp) fun h1 ho1 hs1 => ?_)
  exact sit_stop hh fun h' hk => hQ h' fun b o hb e => hk b o (hs1.extBut b o hb e)

theorem sit_itemT {it S T : Addr} {i ep j : Nat} {es : Array (Int × Value)} {t : SetTable} {places : List Nat} {x : Value} {Q : Option Value → Shared → Prop}
    (ho : s.heap.get? it = some (sitObj (.ref T) i es.size ep S)) (hS : s.heap.get? S = some (setObj es ep t)) (hf : t.fits es.size = true)
    (hT : s.heap.get? T = some { cls := .type "tuple", data := .seq (places.map fun i => rawInt (i : Nat)).toArray }) (hp : places[i]? = some j) (hx : es[j]?.map (·.2) = some x)
    (hQ : ∀ h', h'.get? it = some (sitObj (.ref T) (i + 1) es.size ep S) → Heap.SameBut it s.heap h' → Q (some x) { s with heap := h' }) :
    wpAny (model prog w) A (pyNext (.ref it)) Q E s := by
  have hTy : s.TypeIs (.ref it) "set_iterator" := ⟨_, ho, rfl⟩
  unfold pyNext
  refine wpAny_bind (wpAny_attempt (wpAny_callSpecial?_slot (name := Str.ofString "__next__") hTy sit_slot (wpAny_call_entry sit_slot hTy sit_entry ?_ (sit_args _))))
  show wpAny _ _ (fieldsOf (.ref it) >>= _) _ _ s
  refine wpAny_bind (wpAny_fieldsOf ho rfl ?_)
  show wpAny _ _ (setEntries S >>= _) _ _ s
  refine wpAny_bind (wpAny_setEntries_of hS rfl hf ?_)
  simp only [bne_self_eq_false, Bool.false_eq_true, if_false]
  show wpAny _ _ (seqItems? (.ref T) >>= _) _ _ s
  refine wpAny_bind (wpAny_seqItems hT rfl ?_)
  simp only [Int.toNat_natCast, List.getElem?_toArray, List.getElem?_map, hp, Option.map_some]
  obtain ⟨e, he, hex⟩ := Option.map_eq_some_iff.mp hx
  show wpAny _ _ (setNextDrawn S j ep >>= _) _ _ s
  unfold setNextDrawn
  refine wpAny_bind (wpAny_bind (wpAny_setState_of hS rfl hf ?_))
  simp only [bne_self_eq_false, Bool.false_eq_true, if_false]
  rw [he]
  obtain ⟨eh, ex⟩ := e
  refine wpAny_pure ?_
  show wpAny _ _ (setField (.ref it) 1 (rawInt ((i : Int) + 1)) >>= _) _ _ _
  refine wpAny_bind (wpAny_setField_rec ho (by simp) fun h2 ho2 hs2 => ?_)
  refine wpAny_pure ⟨ex, rfl, wpAny_pure ?_⟩
  rw [show ex = x from hex]
  refine hQ h2 ?_ hs2
  rw [ho2]
  rfl
theorem sit_endT {it S T : Addr} {i ep : Nat} {es : Array (Int × Value)} {t : SetTable} {places : List Nat} {Q : Option Value → Shared → Prop} (hh : A.handled = none)
    (ho : s.heap.get? it = some (sitObj (.ref T) i es.size ep S)) (hS : s.heap.get? S = some (setObj es ep t)) (hf : t.fits es.size = true)
    (hT : s.heap.get? T = some { cls := .type "tuple", data := .seq (places.map fun i => rawInt (i : Nat)).toArray }) (hp : places[i]? = none)
    (hQ : ∀ h', Heap.ExtBut it s.heap h' → Q none { s with heap := h' }) :
    wpAny (model prog w) A (pyNext (.ref it)) Q E s := by
  have hTy : s.TypeIs (.ref it) "set_iterator" := ⟨_, ho, rfl⟩
  unfold pyNext
  refine wpAny_bind (wpAny_attempt (wpAny_callSpecial?_slot (name := Str.ofString "__next__") hTy sit_slot (wpAny_call_entry sit_slot hTy sit_entry ?_ (sit_args _))))
  show wpAny _ _ (fieldsOf (.ref it) >>= _) _ _ s
  refine wpAny_bind (wpAny_fieldsOf ho rfl ?_)
  show wpAny _ _ (setEntries S >>= _) _ _ s
  refine wpAny_bind (wpAny_setEntries_of hS rfl hf ?_)
  simp only [bne_self_eq_false, Bool.false_eq_true, if_false]
  show wpAny _ _ (seqItems? (.ref T) >>= _) _ _ s
  refine wpAny_bind (wpAny_seqItems hT rfl ?_)
  simp only [Int.toNat_natCast, List.getElem?_toArray, List.getElem?_map, hp, Option.map_none]
  show wpAny _ _ (setField (.ref it) 0 (rawInt 0) >>= _) _ _ s
  refine wpAny_bind (wpAny_setField_rec ho (by simp) fun h0 ho0 hs0 => ?_)
  show wpAny _ _ (setField (.ref it) 2 .none >>= _) _ _ _
  refine wpAny_bind (wpAny_setField_rec ho0 (by simp) fun h1 ho1 hs1 => ?_)
  exact sit_stop hh fun h' hk => hQ h' fun b o hb e => hk b o (hs1.extBut b o hb (hs0.extBut b o hb e))
end
end Mine
end

section
open PySem PySem.W PyProof.Rows PySem.Calls
set_option tactic.hygienic false
set_option linter.all false
namespace Mine

theorem sit_slot_iter : Slot "set_iterator" "__iter__" "set_iterator.__iter__" :=
  .of (owner := "set_iterator") (n := "__iter__") (by rw [typeLookup_type, builtinLookup_eq_fast]; kernel_rfl) (by decide +kernel) (by decide +kernel) (by decide +kernel)
    (by first | exact .inl (by decide +kernel) | exact .inr (by decide +kernel)) (by rw [isSubtype_type]; kernel_rfl)
theorem sit_entry_iter : entryFor table "set_iterator.__iter__" = some Builtin.«dict_keyiterator.__iter__» :=
  entryFor_alias (id' := "dict_keyiterator.__iter__") (by kernel_rfl) rfl (by decide +kernel) (by kernel_rfl)
theorem sit_args_iter (a : Value) : argsOk "set_iterator.__iter__" ⟨[a], []⟩ := by
  unfold argsOk; rw [signature?_of (id := "set_iterator.__iter__") (n := ['_', '_', 'r', 'e', 't', 'i', '_', '_']) (o := ['r', 'o', 't', 'a', 'r', 'e', 't', 'i', '_', 't', 'e', 's']) (by kernel_rfl) sit_owner]; kernel_rfl

section
variable {prog : Program} {w : World} {A : Around} {E : Value → Shared → Prop} {s : Shared}

theorem byText_ {Q : Bool → Shared → Prop} (h : Q (w.params.followText "set-order") s) : wpAny (model prog w) A setsByText Q E s := by
  unfold setsByText
  exact wpAny_bind (wpAny_askSetting (wpAny_pure h))

theorem next_text {S : Addr} {slot i ep : Nat} {es : Array (Int × Value)} {t : SetTable} {Q : Option (Value × Nat) → Shared → Prop} (hS : s.heap.get? S = some (setObj es ep t)) (hf : t.fits es.size = true)
    (hby : w.params.followText "set-order" = true) (h : Q (((pickOrder (w.params.setOrder S ep) es)[i]?).map fun e => (e.2, slot)) s) : wpAny (model prog w) A (setNext S slot i ep) Q E s := by
  unfold setNext
  refine wpAny_bind (wpAny_setState_of hS rfl hf ?_)
  dsimp only
  refine wpAny_bind (byText_ ?_)
  rw [hby]
  simp only [if_true, bne_self_eq_false, Bool.false_eq_true, if_false]
  refine wpAny_bind ?_
  unfold setWalk
  refine wpAny_bind (wpAny_setState_of hS rfl hf ?_)
  dsimp only
  refine wpAny_bind (byText_ ?_)
  rw [hby]
  simp only [if_true]
  refine wpAny_bind (wpAny_askSetting (wpAny_pure (wpAny_pure ?_)))
  exact h

theorem next_led {S : Addr} {slot i ep : Nat} {es : Array (Int × Value)} {t : SetTable} {Q : Option (Value × Nat) → Shared → Prop} (hS : s.heap.get? S = some (setObj es ep t)) (hf : t.fits es.size = true)
    (hby : w.params.followText "set-order" = false) (hn : es.size ≤ 1) (hl : t.led = true)
    (h : Q (match es[SetTable.below t.place slot]?, t.place[SetTable.below t.place slot]? with | some (_, x), some j => some (x, j + 1) | _, _ => none) s) : wpAny (model prog w) A (setNext S slot i ep) Q E s := by
  unfold setNext
  refine wpAny_bind (wpAny_setState_of hS rfl hf ?_)
  dsimp only
  refine wpAny_bind (byText_ ?_)
  rw [hby]
  simp only [Bool.false_eq_true, if_false]
  refine wpAny_ite_split (fun hd => ?_) (fun zz => ?_)
  · exfalso
    have hd : (!t.plain && decide (es.size > 1)) = true := hd
    simp at hd
    omega
  refine wpAny_bind ?_
  show wpAny _ _ (if (!t.led && !es.isEmpty) = true then _ else _) _ _ _
  rw [hl]
  simp only [Bool.not_true, Bool.false_and, Bool.false_eq_true, if_false]
  exact wpAny_pure (wpAny_pure h)

theorem below_one (j slot : Nat) : SetTable.below #[j] slot = if j < slot then 1 else 0 := by
  unfold SetTable.below
  show SetTable.below.go #[j] slot 1 0 1 = _
  show (if 0 < 1 then (if j < slot then SetTable.below.go #[j] slot 0 1 1 else SetTable.below.go #[j] slot 0 0 0) else 0) = _
  rw [if_pos (by decide)]
  show (if j < slot then SetTable.below.go #[j] slot 0 1 1 else SetTable.below.go #[j] slot 0 0 0) = _
  split <;> rfl

structure Order (prog : Program) (w : World) (S it : Addr) (vals : List Value) (fp : List Addr) (St : Nat → Heap → Prop) : Prop where
  walks : ∀ {A : Around}, A.handled = none → Walks prog w A it fp [it] vals.length (fun i v => vals[i]? = some v) St

theorem vals_some {vals : List Value} {i : Nat} (h : i < vals.length) : vals[i]? = some vals[i] := List.getElem?_eq_getElem h

theorem sit_self {it S : Addr} {f : Value} {i n ep : Nat} {Q : Value → Shared → Prop} (ho : s.heap.get? it = some (sitObj f i n ep S)) (h : Q (.ref it) s) : wpAny (model prog w) A (pyIter (.ref it)) Q E s := by
  have hT : s.TypeIs (.ref it) "set_iterator" := ⟨_, ho, rfl⟩
  refine wpAny_pyIter_slot hT sit_slot_iter (wpAny_call_entry sit_slot_iter hT sit_entry_iter ?_ (sit_args_iter _))
  show wpAny _ _ (ret (.ref it)) _ _ s
  exact wpAny_pure ⟨_, rfl, "set_iterator", _, hT, sit_slot.lookup, h⟩

theorem order_text {S it : Addr} {ep : Nat} {es : Array (Int × Value)} {t : SetTable} (hf : t.fits es.size = true) (hne : S ≠ it) (hby : w.params.followText "set-order" = true) :
    Order prog w S it ((pickOrder (w.params.setOrder S ep) es).toList.map (·.2)) [it, S] (fun i h => h.get? it = some (sitObj (rawInt (0 : Nat)) i es.size ep S) ∧ h.get? S = some (setObj es ep t)) where
  walks := fun {A} hh => {
    sub := fun b hb => by simp at hb; simp [hb]
    frame := fun i h h' st hk => ⟨hk it (by simp) _ st.1, hk S (by simp) _ st.2⟩
    item := fun i s Q E hi st hQ => by
      have hx := vals_some hi
      rw [List.getElem?_map, Array.getElem?_toList] at hx
      obtain ⟨e, he, hex⟩ := Option.map_eq_some_iff.mp hx
      refine sit_item (slot := 0) (nx := 0) (x := e.2) st.1 st.2 hf (fun {A' E' Q'} hq => next_text st.2 hf hby (by rw [he]; exact hq)) fun h' ho' hs' => ?_
      exact hQ e.2 h' s.toks (by rw [vals_some hi, ← hex]) ⟨ho', by rw [hs'.2 S hne]; exact st.2⟩ fun b o hb e => by rw [hs'.2 b (fun h => hb (by simp [h]))]; exact e
    done := fun s Q E st hQ => by
      refine sit_end (slot := 0) hh st.1 st.2 hf (fun {A' E' Q'} hq => next_text st.2 hf hby (by
        rw [← Array.getElem?_toList, List.getElem?_eq_none (by simp)]
        exact hq)) fun h' hk => ?_
      exact hQ h' s.toks fun b o hb e => hk b o (fun h => hb (by simp [h])) e
    self := fun i s Q E st hQ => sit_self st.1 hQ }

theorem order_drawn {S it T : Addr} {ep : Nat} {es : Array (Int × Value)} {t : SetTable} {places : List Nat} (hf : t.fits es.size = true) (hne : S ≠ it) (hnT : T ≠ it) (hp : places.Perm (List.range es.size)) :
    Order prog w S it (places.map fun j => (es[j]?.map (·.2)).getD .none) [it, S, T] (fun i h => h.get? it = some (sitObj (.ref T) i es.size ep S) ∧ h.get? S = some (setObj es ep t) ∧ h.get? T = some { cls := .type "tuple", data := .seq (places.map fun i => rawInt (i : Nat)).toArray }) where
  walks := fun {A} hh => {
    sub := fun b hb => by simp at hb; simp [hb]
    frame := fun i h h' st hk => ⟨hk it (by simp) _ st.1, hk S (by simp) _ st.2.1, hk T (by simp) _ st.2.2⟩
    item := fun i s Q E hi st hQ => by
      have hil : i < places.length := by simpa using hi
      have hpi := List.getElem?_eq_getElem hil
      have hj : places[i] < es.size := List.mem_range.mp (hp.mem_iff.mp (List.getElem_mem hil))
      have hx : es[places[i]]?.map (·.2) = some es[places[i]].2 := by rw [Array.getElem?_eq_getElem hj]; rfl
      refine sit_itemT st.1 st.2.1 hf st.2.2 hpi hx fun h' ho' hs' => ?_
      refine hQ _ h' s.toks ?_ ⟨ho', by rw [hs'.2 S hne]; exact st.2.1, by rw [hs'.2 T hnT]; exact st.2.2⟩ fun b o hb e => by rw [hs'.2 b (fun h => hb (by simp [h]))]; exact e
      rw [List.getElem?_map, hpi]
      show some ((es[places[i]]?.map (·.2)).getD .none) = _
      rw [hx]; rfl
    done := fun s Q E st hQ => by
      refine sit_endT hh st.1 st.2.1 hf st.2.2 (by simp) fun h' hk => ?_
      exact hQ h' s.toks fun b o hb e => hk b o (fun h => hb (by simp [h])) e
    self := fun i s Q E st hQ => sit_self st.1 hQ }

theorem order_led {S it : Addr} {ep : Nat} {es : Array (Int × Value)} {t : SetTable} (hf : t.fits es.size = true) (hne : S ≠ it) (hby : w.params.followText "set-order" = false) (hn : es.size ≤ 1) (hl : t.led = true) :
    Order prog w S it (es.toList.map (·.2)) [it, S] (fun i h => h.get? it = some (sitObj (rawInt ((if i = 0 then 0 else t.place.getD 0 0 + 1 : Nat))) i es.size ep S) ∧ h.get? S = some (setObj es ep t)) where
  walks := fun {A} hh => by
    have hfs : t.place.size = es.size := by
      simp only [SetTable.fits, Bool.and_eq_true, beq_iff_eq] at hf
      exact hf.1
    refine {
      sub := fun b hb => by simp at hb; simp [hb]
      frame := fun i h h' st hk => ⟨hk it (by simp) _ st.1, hk S (by simp) _ st.2⟩
      item := fun i s Q E hi st hQ => ?_
      done := fun s Q E st hQ => ?_
      self := fun i s Q E st hQ => sit_self st.1 hQ }
    · have hi1 : i < es.size := by simpa using hi
      have hi0 : i = 0 := by omega
      subst hi0
      have hsz : es.size = 1 := by omega
      obtain ⟨j, hj⟩ : ∃ j, t.place = #[j] := by
        have h1 : t.place.size = 1 := hfs.trans hsz
        exact ⟨t.place[0], Array.ext (by simp [h1]) fun i hi hi' => by
          have : i = 0 := by omega
          subst this; rfl⟩
      refine sit_item (slot := 0) (nx := j + 1) (x := es[0].2) (by simpa using st.1) st.2 hf (fun {A' E' Q'} hq => next_led st.2 hf hby hn hl ?_) fun h' ho' hs' => ?_
      · have hb0 : SetTable.below t.place 0 = 0 := by rw [hj, below_one]; rfl
        rw [hb0, hj, Array.getElem?_eq_getElem (by first | decide | exact lle ‹_› rfl | exact llt ‹_› rfl | exact lll ‹_› rfl | exact llm ‹_› rfl | omega)]
        exact hq
      · refine hQ es[0].2 h' s.toks (by rw [vals_some hi]; simp) ⟨?_, by rw [hs'.2 S hne]; exact st.2⟩ fun b o hb e => by rw [hs'.2 b (fun h => hb (by simp [h]))]; exact e
        rw [ho', hj]; rfl
    · rw [List.length_map, Array.length_toList] at st
      have key : ∀ slot : Nat, (slot = if es.size = 0 then 0 else t.place.getD 0 0 + 1) → es[SetTable.below t.place slot]? = none := fun slot e => by
        by_cases h0 : es.size = 0
        · exact Array.getElem?_eq_none (by first | decide | exact lle ‹_› rfl | exact llt ‹_› rfl | exact lll ‹_› rfl | exact llm ‹_› rfl | omega)
        · have hsz : es.size = 1 := by omega
          obtain ⟨j, hj⟩ : ∃ j, t.place = #[j] := by
            have h1 : t.place.size = 1 := hfs.trans hsz
            exact ⟨t.place[0], Array.ext (by simp [h1]) fun i hi hi' => by
              have : i = 0 := by omega
              subst this; rfl⟩
          rw [if_neg h0, hj] at e
          have e : slot = j + 1 := e
          rw [hj, below_one, if_pos (by first | decide | exact lle ‹_› rfl | exact llt ‹_› rfl | exact lll ‹_› rfl | exact llm ‹_› rfl | omega)]
          exact Array.getElem?_eq_none (by first | decide | exact lle ‹_› rfl | exact llt ‹_› rfl | exact lll ‹_› rfl | exact llm ‹_› rfl | omega)
      refine sit_end (slot := if es.size = 0 then 0 else t.place.getD 0 0 + 1) hh st.1 st.2 hf (fun {A' E' Q'} hq => next_led st.2 hf hby hn hl ?_) fun h' hk => ?_
      · rw [key _ rfl]
        exact hq
      · exact hQ h' s.toks fun b o hb e => hk b o (fun h => hb (by simp [h])) e
end
end Mine
end

section
open PySem PySem.W PyProof.Rows PySem.Calls
set_option tactic.hygienic false
set_option linter.all false
namespace Mine

section
variable {prog : Program} {w : World} {A : Around} {E : Value → Shared → Prop} {s : Shared}

theorem iter_set {S : Addr} {ep : Nat} {es : Array (Int × Value)} {t : SetTable} (hS : s.heap.get? S = some (setObj es ep t)) (hf : t.fits es.size = true) (hled : t.led = !w.params.followText "set-order") (hpl : es.size ≠ 0 → t.plain = false)
    (hsz : es.size ≤ 1000) {Q : Value → Shared → Prop}
    (h : ∀ it vals fp St h' dr, vals.Perm (es.toList.map (·.2)) → Order prog w S it vals fp St → St 0 h' → (∀ b o, s.heap.get? b = some o → h'.get? b = some o) → (∀ b ∈ fp, b = S ∨ s.heap.get? b = none) → it ∈ fp → s.heap.get? it = none → Q (.ref it) { s with heap := h', drawn := dr }) :
    wpAny (model prog w) A (pyIter (.ref S)) Q E s := by
  have hT : s.TypeIs (.ref S) "set" := ⟨_, hS, rfl⟩
  have hlt := Heap.lt_size hS
  refine wpAny_pyIter_slot hT PySem.F.slot_set_iter (wpAny_call_entry PySem.F.slot_set_iter hT set_entry_iter ?_ (PySem.F.args_set_iter_1 _))
  show wpAny _ _ (Builtin.Frozenset.sizeOf S >>= _) _ _ s
  refine wpAny_bind (wpAny_bind (wpAny_setEntries_of hS rfl hf (wpAny_pure ?_)))
  show wpAny _ _ (setDrawn S >>= _) _ _ s
  refine wpAny_bind (wpAny_bind (wpAny_setState_of hS rfl hf ?_))
  dsimp only
  refine wpAny_bind (byText_ (wpAny_pure ?_))
  have hep : ∀ (h' : Heap) (dr : _) {A' : Around} {E' : Value → Shared → Prop} {Q' : Nat → Shared → Prop}, h'.get? S = some (setObj es ep t) → Q' ep { s with heap := h', drawn := dr } → wpAny (model prog w) A' (setEpoch S) Q' E' { s with heap := h', drawn := dr } := fun h' dr A' E' Q' hS' hq =>
    wpAny_setEpoch_of hS' rfl hf hq
  cases hby : w.params.followText "set-order" with
  | true =>
    show wpAny _ _ (pure (rawInt 0) >>= _) _ _ s
    refine wpAny_bind (wpAny_pure ?_)
    refine wpAny_bind (hep s.heap s.drawn hS ?_)
    refine wpAny_bind (wpAny_newObj_type ?_ (by size_fits))
    refine wpAny_pure ⟨_, rfl, "set_iterator", _, ⟨_, Heap.get?_push_size _ rfl, rfl⟩, sit_slot.lookup, ?_⟩
    refine h _ _ _ _ _ s.drawn ((pick_perm _ _).map _) (order_text hf (Nat.ne_of_lt hlt) hby) ⟨Heap.get?_push_size _ rfl, Heap.get?_push_of_some _ hS⟩ (fun b o e => Heap.get?_push_of_some _ e) (fun b hb => ?_) (by simp) (get?_fresh _)
    simp only [List.mem_cons, List.not_mem_nil, or_false] at hb
    rcases hb with rfl | rfl
    · exact .inr (get?_fresh _)
    · exact .inl rfl
  | false =>
    by_cases hd : (!t.plain && decide (es.size > 1)) = true
    · refine wpAny_ite_split (fun zz => ?_) (fun hab => absurd hd hab)
      refine wpAny_bind (draw_order es.size (List.range es.size) _ (by simp) fun l dr hl => ?_)
      have hll : l.length = es.size := by rw [hl.length_eq]; simp
      refine wpAny_bind (wpAny_newObj_type ?_ (by show (l.map fun i => rawInt (i : Nat)).toArray.size ≤ sizeLine; rw [List.size_toArray, List.length_map, sizeLine_eq]; omega))
      refine wpAny_bind (hep _ dr (Heap.get?_push_of_some _ hS) ?_)
      refine wpAny_bind (wpAny_newObj_type ?_ (by size_fits))
      refine wpAny_pure ⟨_, rfl, "set_iterator", _, ⟨_, Heap.get?_push_size _ rfl, rfl⟩, sit_slot.lookup, ?_⟩
      have hne : S ≠ (s.heap.push { cls := .type "tuple", data := .seq (l.map fun i => rawInt (i : Nat)).toArray }).objs.size := by rw [Heap.size_push]; exact Nat.ne_of_lt (Nat.lt_succ_of_lt hlt)
      have hnT : s.heap.objs.size ≠ (s.heap.push { cls := .type "tuple", data := .seq (l.map fun i => rawInt (i : Nat)).toArray }).objs.size := by rw [Heap.size_push]; exact Nat.ne_of_lt (Nat.lt_succ_self _)
      have hfr : s.heap.get? (s.heap.push { cls := .type "tuple", data := .seq (l.map fun i => rawInt (i : Nat)).toArray }).objs.size = none := Heap.get?_none_of_le (by rw [Heap.size_push]; exact Nat.le_succ _)
      refine h _ _ _ _ _ dr ?_ (order_drawn hf hne hnT hl) ⟨Heap.get?_push_size _ rfl, Heap.get?_push_of_some _ (Heap.get?_push_of_some _ hS), Heap.get?_push_of_some _ (Heap.get?_push_size _ rfl)⟩ (fun b o e => Heap.get?_push_of_some _ (Heap.get?_push_of_some _ e)) (fun b hb => ?_) (by simp) hfr
      · refine (hl.map _).trans ?_
        have e : (List.range es.size).map (fun j => (es[j]?.map (·.2)).getD .none) = es.toList.map (·.2) := by
          refine List.ext_getElem (by simp) fun i hi hi' => ?_
          have hi : i < es.size := by simpa using hi
          simp [Array.getElem?_eq_getElem hi]
        rw [e]
      · simp only [List.mem_cons, List.not_mem_nil, or_false] at hb
        rcases hb with rfl | rfl | rfl
        · exact .inr hfr
        · exact .inl rfl
        · exact .inr (get?_fresh _)
    · refine wpAny_ite_split (fun hab => absurd hab hd) (fun zz => ?_)
      have hn1 : es.size ≤ 1 := by
        rcases Nat.lt_or_ge 1 es.size with h1 | h1
        · exfalso
          apply hd
          rw [hpl (by first | decide | exact lle ‹_› rfl | exact llt ‹_› rfl | exact lll ‹_› rfl | exact llm ‹_› rfl | omega)]
          simp; omega
        · exact h1
      refine wpAny_bind (wpAny_pure ?_)
      refine wpAny_bind (hep s.heap s.drawn hS ?_)
      refine wpAny_bind (wpAny_newObj_type ?_ (by size_fits))
      refine wpAny_pure ⟨_, rfl, "set_iterator", _, ⟨_, Heap.get?_push_size _ rfl, rfl⟩, sit_slot.lookup, ?_⟩
      refine h _ _ _ _ _ s.drawn (.refl _) (order_led hf (Nat.ne_of_lt hlt) hby hn1 (by rw [hled, hby]; rfl)) ⟨Heap.get?_push_size _ rfl, Heap.get?_push_of_some _ hS⟩ (fun b o e => Heap.get?_push_of_some _ e) (fun b hb => ?_) (by simp) (get?_fresh _)
      simp only [List.mem_cons, List.not_mem_nil, or_false] at hb
      rcases hb with rfl | rfl
      · exact .inr (get?_fresh _)
      · exact .inl rfl

theorem set_hint {S : Addr} {Q : Bool → Shared → Prop} (hT : s.TypeIs (.ref S) "set") (h : Q false s) : wpAny (model prog w) A (Builtin.List.listLengthHint (.ref S)) Q E s := by
  unfold Builtin.List.listLengthHint
  refine wpAny_bind (wpAny_specialOf hT PySem.F.slot_set_len.lookup ?_)
  generalize hid : ("set.__len__" : String) = id0
  wp_delta
  rw [show splitId id0 = some ("set", "__len__") from by subst hid; decide +kernel]
  subst hid
  refine wpAny_bind (wpAny_isInstance (T := "set") (b := true) hT (by rw [isSubtype_type]; kernel_rfl) ?_)
  refine wpAny_ite_split (fun hab => absurd hab (by decide)) (fun zz => ?_)
  refine wpAny_ite_split (fun zz => ?_) (fun hab => absurd (by decide +kernel) hab)
  refine wpAny_bind (wpAny_typeOf hT ?_)
  exact wpAny_pure h

theorem collect_set {S : Addr} {ep : Nat} {es : Array (Int × Value)} {t : SetTable} (hh : A.handled = none) (hS : s.heap.get? S = some (setObj es ep t)) (hf : t.fits es.size = true) (hled : t.led = !w.params.followText "set-order") (hpl : es.size ≠ 0 → t.plain = false)
    (hsz : es.size ≤ 1000) {R : List Value → Shared → Prop}
    (h : ∀ (h' : Heap) (tk : Nat) dr (vals : List Value), vals.Perm (es.toList.map (·.2)) → (∀ b o, s.heap.get? b = some o → h'.get? b = some o) → R vals { s with heap := h', toks := tk, drawn := dr }) :
    wpAny (model prog w) A (collect (.ref S)) R E s := by
  have hlt := Heap.lt_size hS
  unfold collect
  refine wpAny_bind (wpAny_runValue (codeAny_builtin entry_proto_collect' ?_))
  rw [Around.under_plainId PySem.F.plain_proto_collect _]
  show wpAny _ A.in1 (newList [] >>= fun l => again (.builtin "list.__iadd__" ⟨[l, .ref S], []⟩)) _ _ s
  refine wpAny_bind (wpAny_newObj_type ?_)
  refine wpAny_pure ⟨plainId_quiet PySem.F.plain_list_iadd _, codeAny_builtin entry_list_iadd' ?_⟩
  rw [Around.under_plainId PySem.F.plain_list_iadd _]
  have hL : (s.heap.push { cls := .type "list", data := .seq ([] : List Value).toArray }).get? s.heap.objs.size = some { cls := .type "list", data := .seq #[] } := Heap.get?_push_size _ rfl
  have hS1 : (s.heap.push { cls := .type "list", data := .seq ([] : List Value).toArray }).get? S = some (setObj es ep t) := Heap.get?_push_of_some _ hS
  have hT1 : Shared.TypeIs { s with heap := s.heap.push { cls := .type "list", data := .seq ([] : List Value).toArray } } (.ref S) "set" := ⟨_, hS1, rfl⟩
  show wpAny _ A.in1 (Builtin.List.listExtendWith (.ref s.heap.objs.size) (.ref S) (.ref s.heap.objs.size)) _ _ _
  unfold Builtin.List.listExtendWith
  refine wpAny_bind (wpAny_typeOf hT1 ?_)
  have n1 : Builtin.List.listSameRef (.ref s.heap.objs.size) (.ref S) = false := by
    simp only [Builtin.List.listSameRef, beq_eq_false_iff_ne]
    exact Nat.ne_of_gt hlt
  have n2 : (Value.type "set" == Value.type "list") = false := by decide
  have n3 : (Value.type "set" == Value.type "tuple") = false := by decide
  simp only [n1, n2, n3, Bool.or_false, Bool.false_eq_true, if_false]
  refine wpAny_bind (iter_set hS1 hf hled hpl hsz fun it vals fp St h1 dr hperm O hst hk hfp hit hfr => ?_)
  have hlen : vals.length = es.size := by rw [hperm.length_eq]; simp
  have hL1 := hk _ _ hL
  have hLf : s.heap.objs.size ∉ fp := fun hm => by
    rcases hfp _ hm with e | e
    · exact absurd e (Nat.ne_of_gt hlt)
    · rw [hL] at e; cases e
  have hT2 : Shared.TypeIs { s with heap := h1, drawn := dr } (.ref S) "set" := ⟨_, hk _ _ hS1, rfl⟩
  have key : ∀ (h2 : Heap) (c₁ tk : Nat), St 0 h2 → (∀ b o, b ≠ s.heap.objs.size → h1.get? b = some o → h2.get? b = some o) → h2.get? s.heap.objs.size = some { cls := .type "list", data := .seq #[] c₁ } →
      codeAny (model prog w) A (.builtin "list.extend.loop" ⟨[.ref s.heap.objs.size, .ref it, .ref s.heap.objs.size], []⟩)
        (fun r s' => match r with | .ok (.ret v) => wpAny (model prog w) A (match v with | .ref a => load a >>= fun o => (match o.data with | .seq xs _ => pure xs.toList | _ => unsupported "internal:collect") | _ => unsupported "internal:collect") R E s' | .ok _ => False | .error e => E e s')
        { s with heap := h2, toks := tk, drawn := dr } := by
    intro h2 c₁ tk hst2 hk2 hL2
    refine codeAny_extend_loopS (O.walks (A := A.in1) hh).toS (by rw [hlen, sizeLine_eq]; omega) s.heap.objs.size hLf (.ref s.heap.objs.size) vals.length 0 _ #[] c₁ rfl (Nat.zero_le _) hst2 hL2 (ItemsOf.nil _) fun s' acc' c' hm hS' hacc => ?_
    rw [Moved.eq_with hm]
    show wpAny _ A (load s.heap.objs.size >>= _) _ _ _
    refine wpAny_bind (wpAny_load hS' ?_)
    have e : acc'.toList = vals := by
      refine List.ext_getElem (by rw [Array.length_toList]; exact hacc.1) fun i hi hi' => ?_
      have : vals[i]? = some acc'[i] := hacc.2 i acc'[i] (by rw [← Array.getElem?_toList]; simp at hi ⊢)
      rw [List.getElem?_eq_getElem hi'] at this
      simpa using (Option.some.inj this).symm
    refine wpAny_pure ?_
    rw [e]
    refine h s'.heap s'.toks dr vals hperm fun b o e => ?_
    have hb : b ≠ s.heap.objs.size := Nat.ne_of_lt (Heap.lt_size e)
    refine hm.heap b o (fun hmem => ?_) (hk2 b o hb (hk b o (Heap.get?_push_of_some _ e)))
    rcases List.mem_cons.mp hmem with e' | hmem
    · exact hb e'
    · rw [List.mem_singleton] at hmem
      subst hmem
      rw [Heap.get?_push_of_some _ e] at hfr; cases hfr
  refine wpAny_bind (wpAny_holding (set_hint hT2 ?_))
  refine wpAny_ite_split (fun zz => ?_) (fun zz => wpAny_pure ⟨plainId_quiet PySem.F.plain_extend_loop _, key _ 0 _ hst (fun b o zz e => e) hL1⟩)
  refine wpAny_bind (wpAny_rule ?_)
  refine wpAny_bind ?_
  show wpAny _ _ (updateSeq s.heap.objs.size (·.push .none) >>= fun zz => updateSeq s.heap.objs.size (·.pop)) _ _ _
  refine wpAny_bind (wpAny_updateSeq hL1 rfl ?_)
  have hL2 := Heap.get?_update_self (Obj.mapSeq (·.push Value.none)) hL1 rfl
  refine wpAny_updateSeq (hz := by seq_fits) hL2 rfl ?_
  have hL3 := Heap.get?_update_self (Obj.mapSeq (·.pop)) hL2 rfl
  refine wpAny_pure ⟨plainId_quiet PySem.F.plain_extend_loop _, key _ _ _ ?_ (fun b o hb e => ?_) hL3⟩
  · refine (O.walks (A := A) hh).frame 0 _ _ hst fun b hb o e => ?_
    have hbL : b ≠ s.heap.objs.size := fun h => hLf (h ▸ hb)
    exact (Heap.get?_update_other _ _ (Ne.symm hbL)).trans ((Heap.get?_update_other _ _ (Ne.symm hbL)).trans e)
  · exact (Heap.get?_update_other _ _ (Ne.symm hb)).trans ((Heap.get?_update_other _ _ (Ne.symm hb)).trans e)
end
end Mine
end

section
open PySem PySem.W PyProof.Rows PySem.Calls
set_option tactic.hygienic false
set_option linter.all false
namespace Mine

noncomputable def strSetP (prog : Program) (w : World) (seen : List Str) (o : Obj) : Prop := ∃ es ep t, o = setObj es ep t ∧ ElemsOf (PySem.strKind prog w) es.toList ∧ (es.toList.map fun e => strOf e.2).Nodup ∧ (∀ x, x ∈ (es.toList.map fun e => strOf e.2) ↔ x ∈ seen) ∧
  es.size ≤ seen.length ∧ t.fits es.size = true ∧ t.led = (!w.params.followText "set-order") ∧ (es.size ≠ 0 → t.plain = false)

theorem el_str {prog : Program} {w : World} {l : List (Int × Value)} (h : ElemsOf (PySem.strKind prog w) l) : ∀ v ∈ l.map (·.2), ∃ x t, v = .str x t := fun v hv => by
  obtain ⟨e, he, rfl⟩ := List.mem_map.mp hv
  obtain ⟨⟨k, hk, _⟩, _⟩ := h e he
  obtain ⟨t, e⟩ := Value.isStrOf_shape hk
  exact ⟨k, t, e⟩
theorem is_strOf {prog : Program} {w : World} {y : Str} {v : Value} (h : (PySem.strKind prog w).is y v = true) : strOf v = y := by
  obtain ⟨t, rfl⟩ := Value.isStrOf_shape h
  rfl

section
variable {prog : Program} {w : World} {A : Around} {E : Value → Shared → Prop} {g₀ g : Heap} {D : List Addr} {s₀ s : Shared} {μ : List Res}

theorem b_set_strs (hh : A.handled = none) (I : In g₀ D s₀ g μ s) {v : Value} {ss : List Str} {Q : Value → Shared → Prop} (hv : Rd g v (.list (ss.map .str))) (hn : ss.length < 1000)
    (h : ∀ S s', s₀.heap.get? S = none → In g₀ D s₀ g ((S, strSetP prog w ss) :: μ) s' → Q (.ref S) s') : wpAny (model prog w) A (call (.type "set") [v]) Q E s := by
  refine b_setG hh I hv (fun i => strSetP prog w (ss.take i)) ?_ (fun {A' E' i d x S ν s' Q'} _ _ hd hx I2 hq => ?_) fun S s' hS I2 => h S s' hS ?_
  · exact ⟨#[], 0, _, rfl, fun e he => by simp at he, by simp, by simp, by simp, rfl, rfl, by simp⟩
  · rw [List.getElem?_map] at hd
    obtain ⟨y, hy, rfl⟩ := Option.map_eq_some_iff.mp hd
    obtain ⟨tk, rfl⟩ := hx.str_inv
    obtain ⟨o, ho, es, ep, t, rfl, h1, h2, h3, h4, h5, h6, h7⟩ := I2.get (i := 0) rfl
    have htk : ss.take (i + 1) = ss.take i ++ [y] := by rw [List.take_add_one, hy]; rfl
    have htl : (ss.take i).length ≤ ss.length := by rw [List.length_take]; omega
    have hsb : scanBound = 4096 := rfl
    refine add_str (es := es) (ep := ep) (t := t) ho h1 h5 (by first | decide | exact lle ‹_› rfl | exact llt ‹_› rfl | exact lll ‹_› rfl | exact llm ‹_› rfl | omega) (fun hm => ?_) fun hno h' es' ep' t' hsb ho' hp hf hl hpl => ?_
    · refine hq _ _ ?_
      obtain ⟨e, he, hek⟩ := hm
      have hys : y ∈ ss.take i := (h3 y).mp (List.mem_map.mpr ⟨e, he, is_strOf hek⟩)
      have I3 := I2.tok (s.toks + 1)
      have I4 : In g₀ D s₀ g ((S, strSetP prog w (ss.take i)) :: ν) { s' with toks := s'.toks + 1 } := I2.tok _
      refine I4.imp (i := 0) rfl fun o' ho2 => ?_
      obtain ⟨es2, ep2, t2, e1, a1, a2, a3, a4, a5, a6, a7⟩ := ho2
      refine ⟨es2, ep2, t2, e1, a1, a2, fun x => ?_, ?_, a5, a6, a7⟩
      · rw [a3, htk, List.mem_append, List.mem_singleton]
        exact ⟨.inl, fun h => h.elim id fun e => e ▸ hys⟩
      · rw [htk, List.length_append]; exact Nat.le_succ_of_le a4
    · refine hq _ _ (I2.chg (i := 0) (P' := strSetP prog w (ss.take (i + 1))) rfl (fun b o hb e => (hsb.2 b hb).trans e) ho' ?_)
      have hmem : ∀ x, x ∈ (es'.toList.map fun e => strOf e.2) ↔ x ∈ (es.toList.map fun e => strOf e.2) ∨ x = y := fun x => by
        rw [(hp.map fun e => strOf e.2).mem_iff, List.map_append, List.mem_append]
        simp [strOf]
      have hyn : y ∉ (es.toList.map fun e => strOf e.2) := fun hm => by
        obtain ⟨e, he, hey⟩ := List.mem_map.mp hm
        obtain ⟨⟨k, hk, _⟩, _⟩ := h1 e he
        have := is_strOf hk
        rw [hey] at this
        subst this
        rw [hno e he] at hk; cases hk
      have hsz : es'.size = es.size + 1 := by rw [← Array.length_toList, hp.length_eq, List.length_append, Array.length_toList]; rfl
      refine ⟨es', ep', t', rfl, (h1.push (strKind_is prog w y tk) rfl).perm hp, ?_, fun x => ?_, ?_, hf, hl.trans h6, fun zz => hpl⟩
      · rw [(hp.map fun e => strOf e.2).nodup_iff, List.map_append, List.nodup_append]
        exact ⟨h2, by simp, fun a ha b hb e => hyn (by simp [strOf] at hb; rw [← hb, ← e]; exact ha)⟩
      · rw [hmem, h3, htk, List.mem_append, List.mem_singleton]
      · rw [htk, List.length_append, hsz]; exact Nat.succ_le_succ h4
  · rw [List.length_map, List.take_length] at I2
    exact I2

theorem b_sorted_set (hh : A.handled = none) (I : In g₀ D s₀ g μ s) {i : Nat} {S : Addr} {ss : List Str} (hi : μ[i]? = some (S, strSetP prog w ss)) (hn : ss.length < 64) {Q : Value → Shared → Prop}
    (h : ∀ g' s' r ss', Sub g g' → ss'.Nodup → (∀ x, x ∈ ss' ↔ x ∈ ss) → sortedS ss' = true → In g₀ D s₀ g' μ s' → Rd g' r (.list (ss'.map .str)) → Q r s') : wpAny (model prog w) A (call (.builtin "sorted") [.ref S]) Q E s := by
  obtain ⟨o, ho, es, ep, t, rfl, h1, h2, h3, h4, h5, h6, h7⟩ := I.get hi
  refine Calls.call_function_entry kind_sorted plain_sorted entry_sorted (args_sorted1 _) ?_
  unfold Builtin.«sorted»
  refine wpAny_bind (m := checkCount "sorted" 1 1 _) (wpAny_pure ?_)
  refine wpAny_bind (collect_set (A := A.in1) (show A.in1.handled = none from hh) ho h5 h6 h7 (by first | decide | exact lle ‹_› rfl | exact llt ‹_› rfl | exact lll ‹_› rfl | exact llm ‹_› rfl | omega) fun h' tk dr vals hp hk => ?_)
  have hl : vals.length = es.size := by rw [hp.length_eq]; simp
  refine wpAny_bind (wpAny_newList ?_ (by rw [hl, sizeLine_eq]; omega))
  have J1 := (I.ext (h' := h') (tk := tk) hk).drew dr
  have hstr : ∀ v ∈ vals, ∃ x t, v = .str x t := fun v hv => el_str h1 v (hp.mem_iff.mp hv)
  have hS := strsAre_map vals hstr
  have hoL : (h'.push { cls := .type "list", data := .seq vals.toArray }).get? h'.objs.size = some (seqObj "list" vals.toArray 0) := Heap.get?_push_size _ rfl
  have hfr : h'.get? h'.objs.size = none := get?_fresh h'
  refine wpAny_bind (wpAny_holding (wpAny_call_entry slot_list_sort ⟨_, hoL, rfl⟩ entry_list_sort (list_sort_treeK strKind_oneLt hoL hS.keysOf (fun v₁ v₂ rest e => keyKind_strs (by rw [← e]; exact hS)) (by first | decide | exact lle ‹_› rfl | exact llt ‹_› rfl | exact lll ‹_› rfl | exact llm ‹_› rfl | omega) fun st' hp' hs' => ⟨_, rfl, ?_⟩) (args_list_sort _)))
  obtain ⟨ss', a1, a2, a3⟩ := sorted_out_str hS hp' hs'
  generalize ((arrOf st').map (·.2)) = out at a1
  obtain ⟨e, he⟩ := sortedHeap_at (out := out) hoL
  have hk2 : ∀ b o, h'.get? b = some o → (sortedHeap (h'.push { cls := .type "list", data := .seq vals.toArray }) h'.objs.size vals out).get? b = some o := fun b o hb => by
    have hlt := Heap.lt_size hb
    rw [sortedHeap_old (Nat.ne_of_lt hlt) (by rw [Heap.size_push]; exact Nat.lt_succ_of_lt hlt)]
    exact Heap.get?_push_of_some _ hb
  obtain ⟨h0, J⟩ := J1.extNew (tk := tk) (P := listP out.toList) hk2 hfr he ⟨e, rfl⟩
  obtain ⟨g', hs, hd, J⟩ := J.frzLst h0 (strs_rds a1)
  have hperm : ss'.Perm (es.toList.map fun e => strOf e.2) := a2.trans (by
    have := hp.map strOf
    rw [List.map_map] at this
    exact this)
  exact wpAny_pure ⟨_, rfl, h g' _ _ ss' hs (hperm.nodup_iff.mpr h2) (fun x => (hperm.mem_iff).trans (h3 x)) a3 J hd⟩
end
end Mine
end

section
open PySem PySem.W PyProof.Rows PySem.Calls
set_option tactic.hygienic false
set_option linter.all false
namespace Mine

/-! where a new thing comes to lie in a small table -/
theorem slot_cases {t : SetTable} (hd : t.dummies = #[]) (j : Nat) : t.slot j = .empty ∨ ∃ i, t.slot j = .live i ∧ t.place[i]? = some j := by
  unfold SetTable.slot
  by_cases h : (t.place[SetTable.below t.place j]? == some j) = true
  · exact .inr ⟨_, if_pos h, by simpa using h⟩
  · refine .inl ?_
    show (if (t.place[SetTable.below t.place j]? == some j) = true then _ else _) = _
    rw [if_neg h, hd]
    rfl
theorem slot_free {t : SetTable} (hd : t.dummies = #[]) {j : Nat} (h : j ∉ t.place.toList) : t.slot j = .empty := by
  rcases slot_cases hd j with e | ⟨i, _, e⟩
  · exact e
  · exact absurd (by rw [← Array.getElem?_toList] at e; exact List.mem_of_getElem? e) h
theorem pig : ∀ (n : Nat) (l : List Nat), (∀ j, j < n → j ∈ l) → n ≤ l.length
  | 0, l, _ => Nat.zero_le _
  | n + 1, l, h => by
    have hn := h n (Nat.lt_succ_self n)
    have h1 := pig n (l.erase n) fun j hj => (List.mem_erase_of_ne (Nat.ne_of_lt hj)).mpr (h j (Nat.lt_succ_of_lt hj))
    rw [List.length_erase_of_mem hn] at h1
    exact Nat.le_trans (Nat.succ_le_succ h1) (Nat.le_of_eq (Nat.succ_pred_eq_of_pos (List.length_pos_of_mem hn)))
theorem free_place {l : List Nat} (h : l.length ≤ 3) : ∃ j, j < 8 ∧ j ∉ l := Classical.byContradiction fun hc =>
  absurd (Nat.le_trans (pig 8 l fun j hj => Classical.byContradiction fun hm => hc ⟨j, hj, hm⟩) h) (by decide)

inductive Reach (t : SetTable) : Nat → SetTable.Probe → Prop
  | here {m : Nat} {p : SetTable.Probe} : p.dummy = none → t.slot p.j = .empty → Reach t m p
  | step {m : Nat} {p : SetTable.Probe} {i : Nat} : p.dummy = none → t.slot p.j = .live i → t.place[i]? = some p.j → Reach t m (t.advance p) → Reach t (m + 1) p

noncomputable def stP (i pert : Nat) : SetTable.Probe := { j := i, more := 0, i := i, perturb := pert, dummy := none }
theorem adv_stP {t : SetTable} (hm : t.mask = 7) (i p : Nat) : t.advance (stP i p) = stP ((i * 5 + 1 + p / 32) % 8) (p / 32) := by
  unfold SetTable.advance stP SetTable.leap SetTable.runEnd
  rw [hm]
  have : ¬ ((i * 5 + 1 + p / 32) % (7 + 1) + 9 ≤ 7) := by omega
  simp [this]
theorem start_stP {t : SetTable} (hm : t.mask = 7) (h : Int) : t.probeStart h = stP (SetTable.bits h % 8) (SetTable.bits h) := by
  unfold SetTable.probeStart stP SetTable.runEnd
  rw [hm]
  have : ¬ (SetTable.bits h % (7 + 1) + 9 ≤ 7) := by omega
  simp [this]
noncomputable def orb : Nat → Nat → Nat
  | 0, i => i
  | k + 1, i => orb k ((i * 5 + 1) % 8)
theorem orb_all : ∀ i < 8, ∀ j < 8, ∃ k, k ≤ 7 ∧ orb k i = j := by decide
theorem reach_orb {t : SetTable} (hm : t.mask = 7) (hd : t.dummies = #[]) {z : Nat} (hz : t.slot z = .empty) : ∀ (m i : Nat), (∃ k, k ≤ m ∧ orb k i = z) → Reach t m (stP i 0)
  | m, i, ⟨k, hk, e⟩ => by
    rcases slot_cases hd i with h | ⟨q, h, hq⟩
    · exact .here rfl h
    · cases k with
      | zero =>
        have e : i = z := e
        rw [e, hz] at h; cases h
      | succ k =>
        cases m with
        | zero => omega
        | succ m =>
          refine .step rfl h hq ?_
          rw [adv_stP hm]
          exact reach_orb hm hd hz m _ ⟨k, by omega, e⟩
theorem reach_pert {t : SetTable} (hm : t.mask = 7) (hd : t.dummies = #[]) {z : Nat} (hz8 : z < 8) (hz : t.slot z = .empty) : ∀ (n i p : Nat), i < 8 → p < 32 ^ n → Reach t (7 + n) (stP i p)
  | 0, i, p, hi, hp => by
    have : p = 0 := by omega
    subst this
    exact reach_orb hm hd hz 7 i (orb_all i hi z hz8)
  | n + 1, i, p, hi, hp => by
    rcases slot_cases hd i with h | ⟨q, h, hq⟩
    · exact .here rfl h
    · refine .step rfl h hq ?_
      rw [adv_stP hm]
      refine reach_pert hm hd hz8 hz n _ _ (Nat.mod_lt _ (by first | decide | exact lle ‹_› rfl | exact llt ‹_› rfl | exact lll ‹_› rfl | exact llm ‹_› rfl | omega)) ?_
      rw [Nat.pow_succ] at hp
      exact Nat.div_lt_of_lt_mul (by first | decide | exact lle ‹_› rfl | exact llt ‹_› rfl | exact lll ‹_› rfl | exact llm ‹_› rfl | omega)
theorem reach_start {t : SetTable} (hm : t.mask = 7) (hd : t.dummies = #[]) (hn : t.place.size ≤ 3) (h : Int) : Reach t 20 (t.probeStart h) := by
  obtain ⟨z, hz8, hz⟩ := free_place (l := t.place.toList) (by simpa using hn)
  rw [start_stP hm]
  refine reach_pert hm hd hz8 (slot_free hd hz) 13 _ _ (Nat.mod_lt _ (by first | decide | exact lle ‹_› rfl | exact llt ‹_› rfl | exact lll ‹_› rfl | exact llm ‹_› rfl | omega)) ?_
  unfold SetTable.bits
  have h1 : h % (2 ^ 64 : Int) < 2 ^ 64 := Int.emod_lt_of_pos _ (by decide)
  have h2 : 0 ≤ h % (2 ^ 64 : Int) := Int.emod_nonneg _ (by decide)
  have h3 : (2 : Nat) ^ 64 < 32 ^ 13 := by decide
  omega

theorem go_slot {t : SetTable} {hashAt : Nat → Int} {h : Int} {fuel : Nat} {p : SetTable.Probe} : SetTable.probe.go t hashAt h (fuel + 1) p = SetTable.Slot.rec (motive := fun zz => Option SetTable.Met) (some (.empty p.j p.dummy)) (SetTable.probe.go t hashAt h fuel (t.advance { p with dummy := some p.j }))
    (fun i => if hashAt i == h then some (.candidate p.j i (t.advance p)) else SetTable.probe.go t hashAt h fuel (t.advance p)) (t.slot p.j) := by
  show (match t.slot p.j with | .empty => _ | .dummy => _ | .live i => _) = _
  cases t.slot p.j <;> rfl
theorem go_reach {t : SetTable} {hashAt : Nat → Int} {h : Int} : ∀ (m fuel : Nat) (p : SetTable.Probe), m < fuel → Reach t m p →
    (∃ j, SetTable.probe.go t hashAt h fuel p = some (.empty j none) ∧ t.slot j = .empty) ∨
    (∃ j i nx m', SetTable.probe.go t hashAt h fuel p = some (.candidate j i nx) ∧ t.slot j = .live i ∧ t.place[i]? = some j ∧ (hashAt i == h) = true ∧ m' < m ∧ Reach t m' nx)
  | m, 0, p, hf, _ => by omega
  | m, fuel + 1, p, hf, hr => by
    cases hr with
    | here h1 h2 =>
      refine .inl ⟨p.j, ?_, h2⟩
      rw [go_slot, h2, h1]
    | @step m _ i h1 h2 h3 h4 =>
      by_cases hh : (hashAt i == h) = true
      · refine .inr ⟨p.j, i, t.advance p, m, ?_, h2, h3, hh, by omega, h4⟩
        rw [go_slot, h2]
        exact if_pos hh
      · rcases go_reach (t := t) (hashAt := hashAt) (h := h) m fuel (t.advance p) (by first | decide | exact lle ‹_› rfl | exact llt ‹_› rfl | exact lll ‹_› rfl | exact llm ‹_› rfl | omega) h4 with ⟨j, e, hj⟩ | ⟨j, i', nx, m', e, a1, a2, a3, a4, a5⟩
        · refine .inl ⟨j, ?_, hj⟩
          rw [go_slot, h2]
          exact (if_neg hh).trans e
        · refine .inr ⟨j, i', nx, m', ?_, a1, a2, a3, by omega, a5⟩
          rw [go_slot, h2]
          exact (if_neg hh).trans e
theorem probe_reach {t : SetTable} {hashAt : Nat → Int} {h : Int} {m : Nat} {p : SetTable.Probe} (hm : t.mask = 7) (hr : Reach t m p) (h20 : m ≤ 20) :
    (∃ j, t.probe hashAt h p = some (.empty j none) ∧ t.slot j = .empty) ∨
    (∃ j i nx m', t.probe hashAt h p = some (.candidate j i nx) ∧ t.slot j = .live i ∧ t.place[i]? = some j ∧ (hashAt i == h) = true ∧ m' < m ∧ Reach t m' nx) := by
  unfold SetTable.probe
  exact go_reach m _ p (by rw [hm]; show m < 10 * (7 + 15); omega) hr

section
variable {prog : Program} {w : World} {A : Around} {E : Value → Shared → Prop} {s : Shared}
theorem stmt_tup {n : Nat} {a : Addr} {vs : List Value} (ht : IsTup s.heap a vs.toArray) (hi : ∀ v ∈ vs, ∀ {Q : Bool → Shared → Prop}, Q false s → wpAny (model prog w) A (ofAClassStatement n v) Q E s) {Q : Bool → Shared → Prop} (h : Q false s) :
    wpAny (model prog w) A (ofAClassStatement (n + 1) (.ref a)) Q E s := by
  obtain ⟨o, hoo, hc, k, hd⟩ := ht
  have hT : s.TypeIs (.ref a) "tuple" := ⟨o, hoo, hc⟩
  rw [ofAClassStatement]
  refine wpAny_bind (wpAny_typeOf hT ?_)
  simp only [beq_self_eq_true, if_true, pure_bind, Bool.not_true, Bool.false_eq_true, if_false]
  refine wpAny_bind (wpAny_seqItems hoo hd ?_)
  dsimp only
  rw [← Array.forIn_toList]
  refine wpAny_bind (wpAny_forIn_list _ (fun rest r s' => r.1 = none ∧ s' = s ∧ ∀ v ∈ rest, v ∈ vs) _ ?_ ?_ _ _ ⟨rfl, rfl, fun zz h => h⟩)
  · rintro v rest r s' ⟨hr1, rfl, hall⟩
    refine wpAny_bind (hi v (hall v (.head _)) ?_)
    simp only [Bool.false_eq_true, if_false]
    exact wpAny_pure ⟨rfl, rfl, fun u hu => hall u (.tail _ hu)⟩
  · rintro ⟨r1, r2⟩ s' ⟨hr1, rfl, _⟩
    simp only at hr1
    subst hr1
    exact wpAny_pure h
theorem stmt_str {m : Nat} {x : Str} {t : Tok} {Q : Bool → Shared → Prop} (h : Q false s) : wpAny (model prog w) A (ofAClassStatement m (.str x t)) Q E s := by
  cases m <;> exact wpAny_pure h
theorem stmt_tm : ∀ {n m : Nat} {t : Tm} {v : Value}, Ok n t → n ≤ m → Rd s.heap v t.d → ∀ {Q : Bool → Shared → Prop}, Q false s → wpAny (model prog w) A (ofAClassStatement m v) Q E s
  | 0, _, _, _, ho, _, _, _, _ => ho.elim
  | n + 1, 0, _, _, _, h, _, _, _ => by omega
  | n + 1, m + 1, .mk op ks, v, ho, hm, hv, Q, h => by
    rw [Tm.d_mk] at hv
    obtain ⟨a, vs, rfl, ht, hr⟩ := hv.tup_inv
    refine stmt_tup ht (fun u hu Q hQ => ?_) h
    obtain ⟨i, hi⟩ := List.mem_iff_getElem?.mp hu
    obtain ⟨d, hd, hud⟩ := hr.getV hi
    cases i with
    | zero =>
      simp only [List.getElem?_cons_zero, Option.some.injEq] at hd
      subst hd
      obtain ⟨t, rfl⟩ := hud.str_inv
      exact stmt_str hQ
    | succ i =>
      simp only [List.getElem?_cons_succ, List.getElem?_map] at hd
      obtain ⟨k, hk, rfl⟩ := Option.map_eq_some_iff.mp hd
      exact stmt_tm (ho.2.2.2 k (List.mem_of_getElem? hk)) (by first | decide | exact lle ‹_› rfl | exact llt ‹_› rfl | exact lll ‹_› rfl | exact llm ‹_› rfl | omega) hud hQ
theorem stmt_col {n m : Nat} {c : List Tm} {v : Value} (ho : ∀ t ∈ c, Ok n t) (hm : n ≤ m) (hv : Rd s.heap v (.tuple (c.map Tm.d))) {Q : Bool → Shared → Prop} (h : Q false s) : wpAny (model prog w) A (ofAClassStatement (m + 1) v) Q E s := by
  obtain ⟨a, vs, rfl, ht, hr⟩ := hv.tup_inv
  refine stmt_tup ht (fun u hu Q hQ => ?_) h
  obtain ⟨i, hi⟩ := List.mem_iff_getElem?.mp hu
  obtain ⟨d, hd, hud⟩ := hr.getV hi
  simp only [List.getElem?_map] at hd
  obtain ⟨k, hk, rfl⟩ := Option.map_eq_some_iff.mp hd
  exact stmt_tm (ho k (List.mem_of_getElem? hk)) hm hud hQ

theorem byval_tup {a : Addr} {x : Value} {r : List Value} {n : Nat} (ht : IsTup s.heap a (x :: r).toArray) (hx : ∀ {Q : Bool → Shared → Prop}, Q false s → wpAny (model prog w) A (hashByValue n x) Q E s) {Q : Bool → Shared → Prop} (h : Q false s) :
    wpAny (model prog w) A (hashByValue (n + 1) (.ref a)) Q E s := by
  obtain ⟨o, ho, hc, k, hd⟩ := ht
  have hT : s.TypeIs (.ref a) "tuple" := ⟨o, ho, hc⟩
  unfold hashByValue
  refine wpAny_bind (wpAny_specialOf hT F.slot_tuple_hash.lookup ?_)
  dsimp only
  refine wpAny_bind (wpAny_seqItems ho hd ?_)
  show wpAny _ _ (forIn (x :: r).toArray _ _ >>= _) _ _ s
  rw [← Array.forIn_toList]
  show wpAny _ _ (forIn (x :: r) _ _ >>= _) _ _ s
  rw [List.forIn_cons]
  refine wpAny_bind (wpAny_bind (wpAny_bind (hx ?_)))
  simp only [Bool.not_false, if_true]
  refine wpAny_pure ?_
  exact wpAny_pure (wpAny_pure h)
theorem byval_tm {m : Nat} {t : Tm} {v : Value} (hv : Rd s.heap v t.d) {Q : Bool → Shared → Prop} (h : Q false s) : wpAny (model prog w) A (hashByValue (m + 1) v) Q E s := by
  rw [Tm.d_eta] at hv
  obtain ⟨a, vs, rfl, ht, hr⟩ := hv.tup_inv
  obtain ⟨x, r, rfl, hx, _⟩ := hr.cases_cons
  obtain ⟨tk, rfl⟩ := hx.str_inv
  exact byval_tup ht (fun {Q} hq => by cases m <;> exact wpAny_pure hq) h
theorem byval_col {m : Nat} {c : List Tm} {v : Value} (hc : c ≠ []) (hv : Rd s.heap v (.tuple (c.map Tm.d))) {Q : Bool → Shared → Prop} (h : Q false s) : wpAny (model prog w) A (hashByValue (m + 2) v) Q E s := by
  obtain ⟨a, vs, rfl, ht, hr⟩ := hv.tup_inv
  cases c with
  | nil => exact absurd rfl hc
  | cons t c =>
    obtain ⟨x, r, rfl, hx, _⟩ := hr.cases_cons
    exact byval_tup ht (fun {Q} hq => byval_tm hx hq) h

open scoped Classical in
theorem not_seen {x : Addr} {c : List Tm} (hx : (colKind prog w).is s.heap c x) {stored : List Value} (hs : ∀ y ∈ stored, ∃ b d, y = .ref b ∧ (colKind prog w).is s.heap d b) {Q : Bool → Shared → Prop} (h : Q false s) :
    wpAny (model prog w) A (searchCouldBeSeen (.ref x) stored) Q E s := by
  unfold searchCouldBeSeen
  refine wpAny_bind (wpAny_forIn_list _ (fun rest r s' => r.1 = none ∧ s' = s ∧ ∀ v ∈ rest, v ∈ stored) _ ?_ ?_ _ _ ⟨rfl, rfl, fun zz h => h⟩)
  · rintro v rest r s' ⟨hr1, rfl, hall⟩
    obtain ⟨b, d, rfl, hd⟩ := hs v (hall v (.head _))
    have fin : (none : Option Bool) = none ∧ s' = s' ∧ ∀ v ∈ rest, v ∈ stored := ⟨rfl, rfl, fun u hu => hall u (.tail _ hu)⟩
    dsimp only
    split
    · exact wpAny_pure fin
    · refine wpAny_bind ((colKind prog w).quiet hx ?_)
      simp only [Bool.not_true, Bool.false_eq_true, if_false]
      refine wpAny_bind ((colKind prog w).quiet hd ?_)
      simp only [Bool.not_true, Bool.false_eq_true, if_false]
      refine wpAny_bind (stmt_col (n := 6) (m := 7) hx.1 (by first | decide | exact lle ‹_› rfl | exact llt ‹_› rfl | exact lll ‹_› rfl | exact llm ‹_› rfl | omega) hx.2 ?_)
      simp only [Bool.false_eq_true, if_false]
      refine wpAny_bind (stmt_col (n := 6) (m := 7) hd.1 (by first | decide | exact lle ‹_› rfl | exact llt ‹_› rfl | exact lll ‹_› rfl | exact llm ‹_› rfl | omega) hd.2 ?_)
      simp only [Bool.false_eq_true, if_false]
      exact wpAny_pure fin
  · rintro ⟨r1, r2⟩ s' ⟨hr1, rfl, _⟩
    simp only at hr1
    subst hr1
    exact wpAny_pure h
end
end Mine
end

section
open PySem PySem.W PyProof.Rows PySem.Calls
set_option tactic.hygienic false
set_option linter.all false
namespace Mine
noncomputable section
open scoped Classical

section
variable {prog : Program} {w : World} {A : Around} {E : Value → Shared → Prop} {s : Shared}

noncomputable def ColsNot (prog : Program) (w : World) (h : Heap) (c : List Tm) (es : Array (Int × Value)) : Prop := ∀ e ∈ es.toList, ∃ d b, e = ((colKind prog w).hash d, .ref b) ∧ (colKind prog w).is h d b ∧ d ≠ c

set_option tactic.hygienic true in
theorem col_search {S a : Addr} {ep : Nat} {es : Array (Int × Value)} {t : SetTable} {c : List Tm} (ho : s.heap.get? S = some (setObj es ep t)) (hf : t.fits es.size = true) (hm : t.mask = 7) (hroom : (colKind prog w).room A)
    (hc : (colKind prog w).is s.heap c a) (hno : ColsNot prog w s.heap c es) {Q : SetFound → Shared → Prop} (h : ∀ j, t.slot j = .empty → Q (.free j false) s) :
    ∀ (m fuel : Nat) (stand : Option SetTable.Probe), m < fuel → m ≤ 20 → Reach t m (stand.getD (t.probeStart ((colKind prog w).hash c))) → wpAny (model prog w) A (setSearchFrom S (.ref a) ((colKind prog w).hash c) true fuel stand) Q E s := by
  intro m
  induction m using Nat.strongRecOn with
  | _ m ih =>
    intro fuel stand hfu h20 hr
    cases fuel with
    | zero => omega
    | succ fuel =>
      have hfs : t.place.size = es.size := by
        simp only [SetTable.fits, Bool.and_eq_true, beq_iff_eq] at hf
        exact hf.1
      show wpAny (model prog w) A (setState S >>= _) Q E s
      refine wpAny_bind (wpAny_setState_of ho rfl hf ?_)
      dsimp only
      have hg : t.gaveWay = false := by unfold SetTable.gaveWay; rw [hm]; rfl
      rw [hg]
      simp only [Bool.false_eq_true, if_false]
      rcases probe_reach (hashAt := fun i => (es[i]?.map (·.1)).getD 0) (h := (colKind prog w).hash c) hm hr h20 with ⟨j, e, hj⟩ | ⟨j, i, nx, m', e, hl, hp, hh, hlt, hr'⟩
      · split
        · rename_i met heq
          have e2 := heq.symm.trans e
          cases e2
          exact wpAny_pure (h j hj)
        · rename_i hn
          exact absurd e (hn _)
      · split
        · rename_i met heq
          have e2 := heq.symm.trans e
          cases e2
          dsimp only
          have hlt2 : i < es.size := by rw [← hfs]; exact (Array.getElem?_eq_some_iff.mp hp).1
          obtain ⟨d, b, hee, hd, hdc⟩ := hno es[i] (by simp)
          have hei : es[i]? = some ((colKind prog w).hash d, .ref b) := by rw [Array.getElem?_eq_getElem hlt2, hee]
          have hst : ∀ y ∈ (List.map (fun x : Int × Value => x.snd) (Array.filter (fun x => x.fst == (colKind prog w).hash c) es).toList), ∃ b d, y = .ref b ∧ (colKind prog w).is s.heap d b := fun y hy => by
            obtain ⟨e, he, rfl⟩ := List.mem_map.mp hy
            rw [Array.toList_filter, List.mem_filter] at he
            obtain ⟨d', b', e', hd', _⟩ := hno e he.1
            exact ⟨b', d', by rw [e'], hd'⟩
          have hsame : t.sameMemory t.moves t.mask = some true := by unfold SetTable.sameMemory; rw [if_pos (by simp)]
          refine wpAny_ite_split (fun zz => wpAny_bind (not_seen hc hst ?_)) (fun zz => ?_)
          · simp only [Bool.false_eq_true, if_false]
            rw [hei]
            dsimp only
            refine wpAny_bind (wpAny_holding ((colKind prog w).eqBool hroom hd hc ?_))
            rw [decide_eq_false hdc]
            refine wpAny_bind (wpAny_setState_of ho rfl hf ?_)
            dsimp only
            rw [hsame]
            dsimp only
            rw [if_pos rfl, hl]
            dsimp only
            rw [hei]
            dsimp only
            refine wpAny_bind (wpAny_isSame_ref_self ?_)
            exact wpAny_bind (wpAny_pure (ih m' hlt fuel (some nx) (by first | decide | exact lle ‹_› rfl | exact llt ‹_› rfl | exact lll ‹_› rfl | exact llm ‹_› rfl | omega) (by first | decide | exact lle ‹_› rfl | exact llt ‹_› rfl | exact lll ‹_› rfl | exact llm ‹_› rfl | omega) hr'))
          · rw [hei]
            dsimp only
            refine wpAny_bind (wpAny_holding ((colKind prog w).eqBool hroom hd hc ?_))
            rw [decide_eq_false hdc]
            refine wpAny_bind (wpAny_setState_of ho rfl hf ?_)
            dsimp only
            rw [hsame]
            dsimp only
            rw [if_pos rfl, hl]
            dsimp only
            rw [hei]
            dsimp only
            refine wpAny_bind (wpAny_isSame_ref_self ?_)
            exact wpAny_bind (wpAny_pure (ih m' hlt fuel (some nx) (by first | decide | exact lle ‹_› rfl | exact llt ‹_› rfl | exact lll ‹_› rfl | exact llm ‹_› rfl | omega) (by first | decide | exact lle ‹_› rfl | exact llt ‹_› rfl | exact lll ‹_› rfl | exact llm ‹_› rfl | omega) hr'))
        · rename_i hn
          exact absurd e (hn _)

theorem put_facts {t : SetTable} (hm : t.mask = 7) (hd : t.dummies = #[]) (j : Nat) : (t.put j).1.mask = 7 ∧ (t.put j).1.dummies = #[] ∧ (t.put j).1.place.size = t.place.size + 1 := by
  refine ⟨hm, ?_, ?_⟩
  · show (if SetTable.has t.dummies j then SetTable.eraseAt t.dummies (SetTable.below t.dummies j) else t.dummies) = #[]
    rw [hd]; rfl
  · show (SetTable.insertAt t.place (SetTable.below t.place j) j).size = _
    have := (SetTable.insertAt_perm t.place (SetTable.below t.place j) j).length_eq
    simpa using this
theorem add_col {S a : Addr} {ep : Nat} {es : Array (Int × Value)} {t : SetTable} {c : List Tm} (ho : s.heap.get? S = some (setObj es ep t)) (hf : t.fits es.size = true) (hm : t.mask = 7) (hdm : t.dummies = #[]) (hn : es.size ≤ 3) (hroom : (colKind prog w).room A) (hc0 : c ≠ [])
    (hc : (colKind prog w).is s.heap c a) (hno : ColsNot prog w s.heap c es) {Q : Bool → Shared → Prop}
    (h : ∀ h' es' ep' t', Heap.SameBut S s.heap h' → h'.get? S = some (setObj es' ep' t') → es'.toList.Perm (es.toList ++ [((colKind prog w).hash c, .ref a)]) → t'.fits es'.size = true → t'.mask = 7 → t'.dummies = #[] → Q true { s with heap := h', toks := s.toks + (colKind prog w).draws c }) :
    wpAny (model prog w) A (setAdd S (.ref a)) Q E s := by
  have hfs : t.place.size = es.size := by
    simp only [SetTable.fits, Bool.and_eq_true, beq_iff_eq] at hf
    exact hf.1
  unfold setAdd
  refine wpAny_holding (wpAny_bind ((colKind prog w).pyHash hroom hc ?_))
  unfold setAddHashed setAddHashedIn
  refine wpAny_holding (wpAny_bind (wpAny_setState_of (s := { s with toks := s.toks + (colKind prog w).draws c }) ho rfl hf ?_))
  dsimp only
  have hbs : byScan (.ref a) es = false := rfl
  rw [hbs]
  simp only [Bool.false_eq_true, if_false]
  unfold setSearch
  refine wpAny_bind (col_search (s := { s with toks := s.toks + (colKind prog w).draws c }) ho hf hm hroom hc hno (fun j hj => ?_) 20 _ none (by first | decide | exact lle ‹_› rfl | exact llt ‹_› rfl | exact lll ‹_› rfl | exact llm ‹_› rfl | omega) (by first | decide | exact lle ‹_› rfl | exact llt ‹_› rfl | exact lll ‹_› rfl | exact llm ‹_› rfl | omega) (reach_start hm hdm (by first | decide | exact lle ‹_› rfl | exact llt ‹_› rfl | exact lll ‹_› rfl | exact llm ‹_› rfl | omega) _))
  dsimp only
  refine wpAny_bind (wpAny_setState_of (s := { s with toks := s.toks + (colKind prog w).draws c }) ho rfl hf ?_)
  dsimp only
  obtain ⟨p1, p2, p3⟩ := put_facts hm hdm j
  have hperm : (SetTable.insertAt es (t.put j).2 ((colKind prog w).hash c, Value.ref a)).toList.Perm (es.toList ++ [((colKind prog w).hash c, .ref a)]) := by
    have := SetTable.insertAt_perm es (t.put j).2 ((colKind prog w).hash c, Value.ref a)
    rw [Array.toList_push] at this
    exact this
  generalize hes : SetTable.insertAt es (t.put j).2 ((colKind prog w).hash c, Value.ref a) = es1 at hperm
  have hsz : es1.size = es.size + 1 := by rw [← Array.length_toList, hperm.length_eq, List.length_append, Array.length_toList]; rfl
  have fin : ∀ t2 : SetTable, t2.mask = 7 → t2.dummies = #[] → t2.place.size = t.place.size + 1 → wpAny (model prog w) A (do
      storeSet S es1 t2
      if (!false && t2.tooFull) = true then do
        setRelay S (SetTable.grown (es.size + 1))
        pure true
      else pure true) Q E { s with toks := s.toks + (colKind prog w).draws c } := by
    intro t2 a1 a2 a3
    have hfill : t2.fill = es.size + 1 := by unfold SetTable.fill; rw [a2, a3, hfs]; rfl
    have hfit : t2.fits es1.size = true := by
      unfold SetTable.fits
      rw [hfill, a1, a3, hfs, hsz]
      simp; omega
    have htf : t2.tooFull = false := by
      unfold SetTable.tooFull
      rw [hfill, a1]
      simp; omega
    refine wpAny_bind (wpAny_storeSet_of (s := { s with toks := s.toks + (colKind prog w).draws c }) ho rfl ?_ (by rw [sizeLine_eq]; omega))
    rw [htf]
    simp only [Bool.and_false, Bool.false_eq_true, if_false]
    have hput : (s.heap.update S (Obj.putSet es1 t2)).get? S = some (setObj es1 (ep + 1) t2) := by
      have := Heap.get?_update_self (Obj.putSet es1 t2) ho (by rw [putSet_of es1 t2 rfl]; rfl)
      rw [putSet_of es1 t2 rfl] at this
      exact this
    exact wpAny_pure (h _ es1 _ t2 (Heap.SameBut.update s.heap S _) hput hperm hfit a1 a2)
  refine wpAny_ite_split (fun zz => ?_) (fun zz => ?_)
  · refine wpAny_bind (byval_col (s := { s with toks := s.toks + (colKind prog w).draws c }) (m := 6) hc0 hc.2 ?_)
    simp only [Bool.false_eq_true, if_false]
    exact fin _ p1 p2 p3
  · refine wpAny_bind (wpAny_pure ?_)
    simp only [if_true]
    exact fin _ p1 p2 p3
end

section
variable {prog : Program} {w : World} {A : Around} {E : Value → Shared → Prop} {g₀ g : Heap} {D : List Addr} {s₀ s : Shared} {μ : List Res}
noncomputable def colSetP (prog : Program) (w : World) (g : Heap) (seen : List (List Tm)) (o : Obj) : Prop := ∃ es ep t, o = setObj es ep t ∧ (∀ e ∈ es.toList, ∃ d b, e = ((colKind prog w).hash d, .ref b) ∧ (∀ t ∈ d, Ok 6 t) ∧ Rd g (.ref b) (.tuple (d.map Tm.d)) ∧ d ∈ seen) ∧
  es.size = seen.length ∧ t.fits es.size = true ∧ t.mask = 7 ∧ t.dummies = #[]

theorem b_set_cols {n : Nat} (R : Room A n) (I : In g₀ D s₀ g μ s) {v : Value} {cs : List (List Tm)} {Q : Value → Shared → Prop} (hv : Rd g v (.list (cs.map fun c => .tuple (c.map Tm.d)))) (hn : cs.length ≤ 4) (hnd : cs.Nodup) (hok : ∀ c ∈ cs, c ≠ [] ∧ ∀ t ∈ c, Ok 6 t)
    (h : ∀ S s', s₀.heap.get? S = none → In g₀ D s₀ g ((S, colSetP prog w g cs) :: μ) s' → Q (.ref S) s') : wpAny (model prog w) A (call (.type "set") [v]) Q E s := by
  refine b_setG R.hd I hv (fun i => colSetP prog w g (cs.take i)) ?_ (fun {A' E' i d x S ν s' Q'} hA hu hd hx I2 hq => ?_) fun S s' hS I2 => h S s' hS ?_
  · exact ⟨#[], 0, _, rfl, fun e he => by simp at he, by simp, rfl, rfl, rfl⟩
  · rw [List.getElem?_map] at hd
    obtain ⟨c, hc, rfl⟩ := Option.map_eq_some_iff.mp hd
    obtain ⟨a, vs, rfl, ht, hr⟩ := id hx |>.tup_inv
    obtain ⟨hc0, hcok⟩ := hok c (List.mem_of_getElem? hc)
    obtain ⟨o, ho, es, ep, t, rfl, h1, h2, h3, h4, h5⟩ := I2.get (i := 0) rfl
    have hil := (List.getElem?_eq_some_iff.mp hc).1
    have htk : cs.take (i + 1) = cs.take i ++ [c] := by rw [List.take_add_one, hc]; rfl
    have htl : (cs.take i).length = i := by rw [List.length_take]; omega
    have hcn : c ∉ cs.take i := fun hm => by
      have hsub : (cs.take i ++ [c]).Nodup := by rw [← htk]; exact hnd.sublist (List.take_sublist _ _)
      rw [List.nodup_append] at hsub
      exact hsub.2.2 c hm c (by simp) rfl
    have hroom : (colKind prog w).room A' := by
      have := R.un
      show A'.units + 40 < cLine
      omega
    refine add_col (es := es) (ep := ep) (t := t) ho h3 h4 h5 (by first | decide | exact lle ‹_› rfl | exact llt ‹_› rfl | exact lll ‹_› rfl | exact llm ‹_› rfl | omega) hroom hc0 ⟨hcok, hx.mono I2.own.sub⟩ (fun e he => ?_) fun h' es' ep' t' hsb ho' hp hf hm hd => ?_
    · obtain ⟨d, b, e1, e2, e3, e4⟩ := h1 e he
      exact ⟨d, b, e1, ⟨e2, e3.mono I2.own.sub⟩, fun e => hcn (e ▸ e4)⟩
    · refine hq _ _ (I2.chg (i := 0) (P' := colSetP prog w g (cs.take (i + 1))) rfl (fun b o hb e => (hsb.2 b hb).trans e) ho' ⟨es', ep', t', rfl, fun e he => ?_, ?_, hf, hm, hd⟩)
      · rcases List.mem_append.mp (hp.mem_iff.mp he) with he | he
        · obtain ⟨d, b, e1, e2, e3, e4⟩ := h1 e he
          exact ⟨d, b, e1, e2, e3, by rw [htk]; exact List.mem_append_left _ e4⟩
        · rw [List.mem_singleton.mp he]
          exact ⟨c, a, rfl, hcok, hx, by rw [htk]; simp⟩
      · rw [← Array.length_toList, hp.length_eq, List.length_append, Array.length_toList, h2, htk, List.length_append]
        rfl
  · rw [List.length_map, List.take_length] at I2
    exact I2
theorem b_len_cols (I : In g₀ D s₀ g μ s) {i : Nat} {S : Addr} {g1 : Heap} {cs : List (List Tm)} (hi : μ[i]? = some (S, colSetP prog w g1 cs)) (hn : cs.length ≤ 4) {Q : Value → Shared → Prop} (h : ∀ s' t, In g₀ D s₀ g μ s' → Q (.int cs.length t) s') :
    wpAny (model prog w) A (call (.builtin "len") [.ref S]) Q E s := by
  obtain ⟨o, ho, es, ep, t, rfl, h1, h2, h3, h4, h5⟩ := I.get hi
  refine call_len_set ho ⟨rfl, rfl, rfl⟩ rfl h3 (by first | decide | exact lle ‹_› rfl | exact llt ‹_› rfl | exact lll ‹_› rfl | exact llm ‹_› rfl | omega) ?_
  rw [h2]
  exact h _ _ (I.tok _)
end
end
end Mine
end

section
open PySem PySem.W PyProof.Rows PySem.Calls
set_option tactic.hygienic false
set_option linter.all false
namespace Mine
section
variable {prog : Program} {w : World} {A : Around} {E : Value → Shared → Prop} {g₀ g : Heap} {D : List Addr} {s₀ s : Shared} {μ : List Res}

theorem In.freezeAll : ∀ (rs : List Res) {g : Heap} {s : Shared}, In g₀ D s₀ g (rs ++ μ) s → (∀ p ∈ rs, s₀.heap.get? p.1 = none) → ∃ g', Sub g g' ∧ (∀ p ∈ rs, ∃ o, g'.get? p.1 = some o ∧ p.2 o) ∧ In g₀ D s₀ g' μ s
  | [], g, s, I, _ => ⟨g, Sub.refl g, (fun zz h => nomatch h), I⟩
  | (a, P) :: r, g, s, I, hf => by
    obtain ⟨g1, o, h1, h2, h3, I1⟩ := In.freeze (a := a) (P := P) I (hf _ (.head _))
    obtain ⟨g2, h4, h5, I2⟩ := In.freezeAll r I1 fun p hp => hf p (.tail _ hp)
    refine ⟨g2, h1.trans h4, fun p hp => ?_, I2⟩
    rcases List.mem_cons.mp hp with rfl | hp
    · exact ⟨o, h4 _ _ h2, h3⟩
    · exact h5 p hp

theorem it_raw (hh : A.handled = none) (I : In g₀ D s₀ g μ s) {l : Addr} {vs : List Value} (hl : g.IsList l vs.toArray) {Q : Value → Shared → Prop}
    (h : ∀ it s', s₀.heap.get? it = none → (∀ target, Nexts prog w A g target (.ref it) vs.length (fun i => [(it, iterP SeqKind.lst.iter l i)]) (fun i zz v => vs[i]? = some v)) → In g₀ D s₀ g ([(it, iterP SeqKind.lst.iter l 0)] ++ μ) s' → Q (.ref it) s') :
    wpAny (model prog w) A (pyIter (.ref l)) Q E s :=
  wpAny_pyIter_list (SeqKind.at_sub (κ := .lst) hl I.own.sub) (h _ _ I.free (fun zz => Nexts.seq (κ := .lst) hh hl) (I.new (P := iterP SeqKind.lst.iter l 0) rfl))

theorem it_zip_raw (hh : A.handled = none) (I : In g₀ D s₀ g μ s) {l1 l2 : Addr} {xs ys : List Value} (t1 : g.IsList l1 xs.toArray) (t2 : g.IsList l2 ys.toArray) (hle : xs.length ≤ ys.length) {Q : Value → Shared → Prop}
    (h : ∀ g' it s' ρ, Sub g g' → (∀ p ∈ ρ 0, s₀.heap.get? p.1 = none) → (∀ elts ek ep, Nexts prog w A g' (.Tuple elts ek ep) it (min xs.length ys.length) ρ (fun i g v => ∃ x y T, v = .ref T ∧ xs[i]? = some x ∧ ys[i]? = some y ∧ g.get? T = some { cls := .type "tuple", data := .seq #[x, y] })) → In g₀ D s₀ g' (ρ 0 ++ μ) s' → Q it s') :
    wpAny (model prog w) A (call (.type "zip") [.ref l1, .ref l2]) (fun xv s₁ => wpAny (model prog w) A (pyIter xv) Q E s₁) E s := by
  refine b_zip_lst I t1 t2 fun g' s' z TI TO i1 i2 hs hTI f1 f2 f3 f4 I' => ?_
  have N := fun (elts : List Expr) (ek : Nat) (ep : Pos) => Nexts.zip (prog := prog) (w := w) (A := A) (κ₁ := .lst) (κ₂ := .lst) (elts := elts) (ek := ek) (ep := ep) (z := z) (TO := TO) hh (SeqKind.at_sub (κ := .lst) t1 hs) (SeqKind.at_sub (κ := .lst) t2 hs) hle hTI
  exact (N [] 0 ⟨0, 0, 0, 0⟩).self (i := 0) I' (h g' _ _ _ hs (fresh4 f1 f2 f3 f4) N I')

theorem as_raw (hh : A.handled = none) {env : Env} (I : In g₀ D s₀ g μ s) {e1 e2 : Expr} {ek : Nat} {ep : Pos} {T : Addr} {x y : Value} {Q : Unit → Shared → Prop} (hv : g.get? T = some { cls := .type "tuple", data := .seq #[x, y] })
    (hlen : (assignEach [e1, e2] env).length = 2) (hstar : (assignEach [e1, e2] env).findIdx? (·.1) = none) (hmap : (assignEach [e1, e2] env).map (·.2) = [assign e1 env, assign e2 env])
    (h : ∀ s', In g₀ D s₀ g μ s' → wpAny (model prog w) A (assign e1 env x) (fun zz s₁ => wpAny (model prog w) A (assign e2 env y) Q E s₁) E s') :
    wpAny (model prog w) A (assign (.Tuple [e1, e2] ek ep) env (.ref T)) Q E s := by
  have ht' : g.IsTuple T #[x, y] := ⟨_, hv, rfl, _, rfl⟩
  refine wpAny_assign_Tuple hh (SeqKind.at_sub (κ := .tup) (a := T) (vs := [x, y]) ht' I.own.sub) hlen hstar fun h' he => ?_
  rw [hmap]
  have I' := I.ext (h' := h') (tk := s.toks) fun b o e => he b o (ne_fresh e) e
  refine wpAny_assignInOrder_more (wpAny_mono (h _ I') (fun zz s₁ h₁ => ?_) fun zz zz e => e)
  exact wpAny_assignInOrder_more (wpAny_mono h₁ (fun zz s₂ h₂ => wpAny_assignInOrder_none h₂) fun zz zz e => e)

theorem In.listRaw {a : Addr} {vs : List Value} (I : In g₀ D s₀ g ((a, listP vs) :: μ) s) (ha : s₀.heap.get? a = none) : ∃ g', Sub g g' ∧ g'.IsList a vs.toArray ∧ In g₀ D s₀ g' μ s := by
  obtain ⟨g', o, h1, h2, ⟨n, rfl⟩, h4⟩ := I.freeze ha
  exact ⟨g', h1, ⟨_, h2, rfl, n, rfl⟩, h4⟩

noncomputable def CompX (prog : Program) (w : World) (A : Around) (g₀ : Heap) (D : List Addr) (s₀ : Shared) (elt target : Expr) (ifs : List Expr) (scope : Scope) (env : Env) (cl : List (Str × Addr)) (Q : Value → Shared → Prop) (it : Value) (s₂ : Shared) : Prop :=
  ∃ gb n ρ V g μ, ∃ J : Nat → List Value → Heap → List Res → Prop, Nexts prog w A gb target it n ρ V ∧ Sub gb g ∧ (∀ p ∈ ρ 0, s₀.heap.get? p.1 = none) ∧ n ≤ 2 ^ 20 ∧
      J 0 [] g μ ∧ In g₀ D s₀ g (ρ 0 ++ μ) s₂ ∧
      (∀ C i out g' μ' s' v m cm rest, i < n → Sub g g' → Sub gb g' → J i out g' μ' → V i g' v → In g₀ D s₀ g' (frC C (cellsFrom (C + 1) scope.names []) m cm ++ (μ' ++ rest)) s' →
        let cenv : Env := { scope := relabel scope env, locals := C, globals := env.globals, cells := cellsFrom (C + 1) scope.names cl, qual := env.qual, func := none, code := env.code, frame := env.frame, builtins := env.builtins }
        wpAny (model prog w) A (assign target cenv v) (fun zz s₂ => wpAny (model prog w) A (testsOf ifs cenv) (fun ok s₃ =>
          if ok = true then wpAny (model prog w) A (eval elt cenv) (fun y s₄ => ∃ g'' μ'' m' cm', Sub g' g'' ∧ In g₀ D s₀ g'' (frC C (cellsFrom (C + 1) scope.names []) m' cm' ++ (μ'' ++ rest)) s₄ ∧ J (i + 1) (out ++ [y]) g'' μ'') (fun zz zz => False) s₃
          else ∃ g'' μ'' m' cm', Sub g' g'' ∧ In g₀ D s₀ g'' (frC C (cellsFrom (C + 1) scope.names []) m' cm' ++ (μ'' ++ rest)) s₃ ∧ J (i + 1) out g'' μ'') (fun zz zz => False) s₂) (fun zz zz => False) s') ∧
      (∀ i out g' g'' μ', Sub g' g'' → J i out g' μ' → J i out g'' μ') ∧
      (∀ acc out g' μ' s', s₀.heap.get? acc = none → Sub g g' → J n out g' μ' → In g₀ D s₀ g' ((acc, listP out) :: μ') s' → Q (.ref acc) s')
theorem x_compX {env : Env} {elt target iter : Expr} {ifs : List Expr} {scope : Scope} {pos : Pos} {cl : List (Str × Addr)} {Q : Value → Shared → Prop}
    (hclos : closureFor scope env = pure cl) (hkind : scope.kind = .function) (hnames : ∀ x ∈ scope.names, x.2 = .local → scope.names.lookup x.1 = some .local)
    (hs : ∀ x, foldedSetIterable iter env x = pure x)
    (h : wpAny (model prog w) A (eval iter env) (fun xv s₁ => wpAny (model prog w) A (pyIter xv) (CompX prog w A g₀ D s₀ elt target ifs scope env cl Q) E s₁) E s) :
    wpAny (model prog w) A (eval (.ListComp elt [⟨target, iter, ifs, 0⟩] scope pos) env) Q E s := comp_rule hclos hkind hnames hs h
theorem CompX.pure {env : Env} {elt target : Expr} {scope : Scope} {cl : List (Str × Addr)} {Q : Value → Shared → Prop} {it : Value} {gb : Heap} {n : Nat} {ρ : Nat → List Res} {V : Nat → Heap → Value → Prop} (f : Nat → PyData)
    (N : Nexts prog w A gb target it n ρ V) (hg : Sub gb g) (hρ : ∀ p ∈ ρ 0, s₀.heap.get? p.1 = none) (hn : n ≤ 2 ^ 20) (I : In g₀ D s₀ g (ρ 0 ++ μ) s)
    (turn : ∀ (C : Addr) (i : Nat) (g' : Heap) (s' : Shared) (v : Value) (m cm : Str → Option Value) (rest : List Res), i < n → Sub g g' → V i g' v → In g₀ D s₀ g' (frC C (cellsFrom (C + 1) scope.names []) m cm ++ (μ ++ rest)) s' →
        let cenv : Env := cenvOf scope env C cl
        wpAny (model prog w) A (assign target cenv v) (fun zz s₂ => wpAny (model prog w) A (eval elt cenv) (fun y s₄ => ∃ g'' m' cm', Sub g' g'' ∧ In g₀ D s₀ g'' (frC C (cellsFrom (C + 1) scope.names []) m' cm' ++ (μ ++ rest)) s₄ ∧ Rd g'' y (f i)) (fun zz zz => False) s₂) (fun zz zz => False) s')
    (fin : ∀ g' y s', Sub g g' → Rd g' y (.list ((List.range n).map f)) → In g₀ D s₀ g' μ s' → Q y s') : CompX prog w A g₀ D s₀ elt target [] scope env cl Q it s := by
  refine ⟨gb, n, ρ, V, g, μ, fun i out g' μ' => μ' = μ ∧ Rds g' out ((List.range i).map f), N, hg, hρ, hn, ⟨rfl, .nil⟩, I, ?_, fun i out g' g'' μ' hs hK => ⟨hK.1, hK.2.mono hs⟩, ?_⟩
  · rintro C i out g' μ' s' v m cm rest hi hs _ ⟨rfl, hr⟩ hV I'
    refine wpAny_mono (turn C i g' s' v m cm rest hi hs hV I') (fun zz s₂ h₂ => tests_nil ?_) fun zz zz e => e
    rw [if_pos rfl]
    refine wpAny_mono h₂ (fun y s₄ ⟨g'', m', cm', h1, h2, h3⟩ => ⟨g'', μ', m', cm', h1, h2, rfl, ?_⟩) fun zz zz e => e
    rw [List.range_succ, List.map_append]
    exact (hr.mono h1).append (.one h3)
  · rintro acc out g' μ' s' hacc hs ⟨rfl, hr⟩ I'
    obtain ⟨g2, hs2, hd, I2⟩ := I'.frzLst hacc hr
    exact fin g2 _ s' (hs.trans hs2) hd I2
end
end Mine
end

section
open PySem PySem.W PyProof.Rows PySem.Calls
set_option tactic.hygienic false
set_option linter.all false
set_option maxRecDepth 100000
namespace Mine
section
variable {prog : Program} {w : World} {A : Around} {E : Value → Shared → Prop} {g₀ g : Heap} {D : List Addr} {s₀ s : Shared} {μ : List Res}
theorem Rds.rep {vs : List Value} {ds : List PyData} (h : Rds g vs ds) : ∀ k : Nat, Rds g (List.replicate k vs).flatten (List.replicate k ds).flatten
  | 0 => .nil
  | k + 1 => by
    rw [List.replicate_succ, List.replicate_succ, List.flatten_cons, List.flatten_cons]
    exact h.append (Rds.rep h k)
theorem o_mul_lst (I : In g₀ D s₀ g μ s) {v : Value} {ds : List PyData} {k : Nat} {u : Tok} {Q : Value → Shared → Prop} (hv : Rd g v (.list ds)) (hk : k ≤ 1000) (hn : ds.length ≤ 1000)
    (h : ∀ g' s' r, Sub g g' → In g₀ D s₀ g' μ s' → Rd g' r (.list (List.replicate k ds).flatten) → Q r s') : wpAny (model prog w) A (binaryOp .Mult v (.int (k : Int) u)) Q E s := by
  obtain ⟨l, vs, rfl, hl, hr⟩ := hv.lst_inv
  have hlen := hr.length
  have hl' := isList_sub hl I.own.sub
  obtain ⟨⟨cls, d, data, sl⟩, ho, hcl, c, hd⟩ := id hl'
  simp only at hcl hd
  subst hcl hd
  have hle : vs.toArray.size * ((k : Int)).toNat ≤ 2 ^ 24 := by
    have h1 : vs.length * k ≤ 1000 * 1000 := Nat.mul_le_mul (by first | decide | exact lle ‹_› rfl | exact llt ‹_› rfl | exact lll ‹_› rfl | exact llm ‹_› rfl | omega) hk
    rw [List.size_toArray, Int.toNat_natCast]
    omega
  have hlo : -(2 ^ 63 : Int) ≤ (k : Int) := by omega
  have hhi : (k : Int) < 2 ^ 63 := by omega
  generalize hx : (k : Int) = x at hle hlo hhi
  have hxk : x.toNat = k := by omega
  refine wpAny_binaryOp_repeat_ref (T := "list") (U := "int") (by decide) ⟨_, ho, rfl⟩ (fun s' => typeIs_int s' x u) noFill_list_mul PySem.F.fills_int_mul PySem.F.slot_int_rmul repeat_list PySem.F.slot_int_index.lookup
    (call_meets PySem.F.slot_int_rmul (typeIs_int s x u) PySem.F.entry_int_rmul (PySem.F.args_int_rmul_2 _ _) (lm_int_rmul_list_any x u l vs.toArray c d sl)
      ⟨ho, rfl, ⟨_, ho, rfl⟩, call_meets PySem.F.slot_list_mul ⟨_, ho, rfl⟩ PySem.F.entry_list_mul (PySem.F.args_list_mul_2 _ _)
        (lm_list_mul_any l vs.toArray c d sl x u (by simp [Builtin.List.listFitsIndex]; omega) (by first | decide | exact lle ‹_› rfl | exact llt ‹_› rfl | exact lll ‹_› rfl | exact llm ‹_› rfl | omega) (by simp [Builtin.List.listTooLong, sizeLine]; omega))
        ⟨ho, ?_⟩⟩)
  have e : (List.foldl (fun x1 x2 => x1 ++ x2) #[] (List.replicate (if vs.toArray.isEmpty = true then 0 else x.toNat) vs.toArray)) = (List.replicate k vs).flatten.toArray := by rw [hxk]; exact listMul_foldl_if vs.toArray k
  obtain ⟨g', h1, h2, h3⟩ := I.mkLst (hr.rep k)
  have fin := h g' _ _ h1 h3 h2
  rw [← e] at fin
  exact fin
theorem b_list_lst (I : In g₀ D s₀ g μ s) {v : Value} {ds : List PyData} {Q : Value → Shared → Prop} (hv : Rd g v (.list ds)) (hn : ds.length ≤ 1000)
    (h : ∀ g' s' r, Sub g g' → In g₀ D s₀ g' μ s' → Rd g' r (.list ds) → Q r s') : wpAny (model prog w) A (call (.type "list") [v]) Q E s := by
  obtain ⟨l, vs, rfl, hl, hr⟩ := hv.lst_inv
  have hlen := hr.length
  obtain ⟨o, ho, hc, n, hd⟩ := isList_sub hl I.own.sub
  refine call_list_seq l (.inl rfl) ho hc hd (fun h' c' hk hL => ?_) (by rw [List.size_toArray, sizeLine_eq]; omega)
  obtain ⟨h0, J⟩ := I.extNew (h' := h') (tk := s.toks) (P := listP vs) hk (get?_fresh s.heap) hL ⟨c', rfl⟩
  obtain ⟨g', hs, hd, J⟩ := J.frzLst h0 hr
  exact h g' _ _ hs J hd
end
end Mine
end

section
open PySem PySem.W PyProof.Rows PySem.Calls
set_option tactic.hygienic false
set_option linter.all false
set_option maxRecDepth 100000
namespace Mine
section
variable {prog : Program} {w : World} {A : Around} {E : Value → Shared → Prop} {g₀ g : Heap} {D : List Addr} {s₀ s : Shared} {μ : List Res} {env : Env}
theorem b_abs (I : In g₀ D s₀ g μ s) {a : Int} {t : Tok} {Q : Value → Shared → Prop} (h : ∀ s' u, In g₀ D s₀ g μ s' → Q (.int (if a < 0 then -a else a) u) s') : wpAny (model prog w) A (call (.builtin "abs") [.int a t]) Q E s :=
  call_abs_int fun u tk => h _ u (I.tok tk)

theorem s_rev {value stp : Expr} {p pos : Pos} {Q : Value → Shared → Prop}
    (h : wpAny (model prog w) A (eval value env) (fun o s₁ => wpAny (model prog w) A (eval stp env) (fun vs s₃ => ∃ g μ t ds, vs = .int (-1) t ∧ In g₀ D s₀ g μ s₃ ∧ Rd g o (.list ds) ∧ ds.length ≤ 1000 ∧ ∀ g' s' r, Sub g g' → In g₀ D s₀ g' μ s' → Rd g' r (.list ds.reverse) → Q r s') E s₁) E s) :
    wpAny (model prog w) A (eval (.Subscript value (.Slice none none (some stp) p) pos) env) Q E s := by
  refine Subscript_ (wpAny_mono h (fun o s₁ h₁ => wpAny_Slice ?_) fun zz zz e => e)
  rw [evalPart_none]
  refine wpAny_pure ?_
  refine wpAny_pure ?_
  refine wpAny_evalPart_some ?_
  refine wpAny_mono h₁ (fun vs s₃ h₃ => ?_) fun zz zz e => e
  obtain ⟨g, μ, t, ds, rfl, I, hv, hn, hQ⟩ := h₃
  obtain ⟨x, vs, rfl, ht, hr⟩ := hv.lst_inv
  have ht' := isList_sub ht I.own.sub
  have J := I.junk { cls := .type "slice", data := .fields #[.none, .none, .int (-1) t] }
  have ht'' := isList_sub ht J.own.sub
  have hl := hr.length
  refine tail_any (ops := [.ref x, .ref s₃.heap.objs.size]) (typeIs_push ht'.typeIs) slot_list_getitem.lookup ?_ (by with_unfolding_all rfl)
  refine wpAny_getItem_list_slice ht'' (Heap.IsSliceOf.new ..) .none .none (.int _ _) (by simp) ?_ (by rw [sizeLine_eq]; simp; omega)
  rw [krv_pick]
  obtain ⟨g', h1, h2, h3⟩ := J.mkLst (Rds.reverse hr)
  exact hQ g' _ _ h1 h3 h2
end
end Mine
end

section
open PySem PySem.W PyProof.Rows PySem.Calls
set_option tactic.hygienic false
set_option linter.all false
set_option maxRecDepth 100000
namespace Mine

noncomputable def fd (k : Nat) : FD := getF ((PySem.Challenge.pw_pq0032_01.main.body)[k]?.getD (.Pass ⟨0, 0, 0, 0⟩))

noncomputable def bnames : List Str := [Str.ofString "len", Str.ofString "sum", Str.ofString "sorted", Str.ofString "set", Str.ofString "tuple", Str.ofString "enumerate", Str.ofString "zip", Str.ofString "range", Str.ofString "abs", Str.ofString "str", Str.ofString "list"]
noncomputable def fns : List Nat := [5, 6, 7, 8, 9, 10, 11, 12, 13, 15, 16, 17, 18, 20, 21, 22, 23, 24, 25, 26, 27]
noncomputable def fnOf (x : Str) : Option Nat := fns.find? fun k => (fd k).name == x

theorem kdl {op : Str} {ks : List Tm} (h : ks.length ≤ 2) : (PyData.str op :: ks.map Tm.d).length < 2 ^ 20 := by
  rw [List.length_cons, List.length_map]; omega
theorem kdm {op : Str} {ks : List Tm} (h : ks.length ≤ 2) : (PyData.str op :: ks.map Tm.d).length ≤ 2 ^ 20 := Nat.le_of_lt (kdl h)
theorem mdl {α β : Type} {f : α → β} {xs : List α} {k : Nat} (h : xs.length ≤ k) (hk : Nat.ble (k + 1) (2 ^ 20) = true) : (xs.map f).length < 2 ^ 20 := by
  rw [List.length_map]; exact Nat.lt_of_le_of_lt h (Nat.le_of_ble_eq_true hk)
theorem mdm {α β : Type} {f : α → β} {xs : List α} {k : Nat} (h : xs.length ≤ k) (hk : Nat.ble (k + 1) (2 ^ 20) = true) : (xs.map f).length ≤ 2 ^ 20 := Nat.le_of_lt (mdl h hk)

noncomputable def nsc (L : Addr) (m : Str → Option Value) (c : Option Value) : List Res := [(L, nsP m), (L + 1, cellP c)]

structure Wd (h₀ : Heap) (mg mb : Str → Option Value) (F : Nat → Addr) : Prop extends Base h₀ mg mb where
  fr : ∀ x ∈ bnames, mg x = none
  fn : ∀ k ∈ fns, IsDef h₀ mg (fd k) (F k)

theorem fnOf_mem {x : Str} {k : Nat} (h : fnOf x = some k) : k ∈ fns ∧ (fd k).name = x := by
  unfold fnOf at h
  exact ⟨List.mem_of_find?_eq_some h, by have := List.find?_some h; simpa using this⟩

section
variable {prog : Program} {w : World} {A : Around} {E : Value → Shared → Prop} {g₀ g h₀ : Heap} {D : List Addr} {s₀ s : Shared} {μ : List Res} {env : Env} {mg mb : Str → Option Value} {F : Nat → Addr}

theorem x_def (W : Wd h₀ mg mb F) (hb : Sub h₀ g) (I : In g₀ D s₀ g μ s) {x : Str} {p pos : Pos} {e : Expr} {rest : List Expr} {k : Nat} {Q : Value → Shared → Prop} (hx : fnOf x = some k)
    (hk : env.scope.kind = .function) (hl : env.kindOf x = some .globalImplicit) (hg : env.globals = mainGlobals) (hd : (x == ("__debug__" : Str)) = false)
    (he : starEach (e :: rest) env = (false, eval e env) :: starEach rest env)
    (h : wpAny (model prog w) A (spliced (backTo pos (starEach (e :: rest) env))) (fun vs s₁ => Sub h₀ s₁.heap ∧ wpAny (model prog w) A (call (.ref (F k)) vs) Q E s₁) E s) :
    wpAny (model prog w) A (eval (.Call (.Name x p) (e :: rest) [] pos) env) Q E s := by
  obtain ⟨hm, rfl⟩ := fnOf_mem hx
  have hd' := W.fn k hm
  obtain ⟨o, pm, code, doc, ho, hdat, _⟩ := hd'.fn
  refine Call_ (n_glob W.toBase hb I hd'.glob hk hl hg hd (callWith_def hdat (wpAny_mono h (fun vs s₁ h₁ => ⟨h₁.1 _ _ ho, h₁.2⟩) fun zz zz e => e) he))

theorem x_bi (W : Wd h₀ mg mb F) (hb : Sub h₀ g) (I : In g₀ D s₀ g μ s) {x : Str} {p pos : Pos} {e : Expr} {rest : List Expr} {id : String} {Q : Value → Shared → Prop} (hx : x ∈ bnames) (hv : bootBuiltins x = some (.builtin id))
    (hk : env.scope.kind = .function) (hl : env.kindOf x = some .globalImplicit) (hg : env.globals = mainGlobals) (hbi : env.builtins = builtinsNs) (hn : x ≠ "__name__") (hd : (x == ("__debug__" : Str)) = false)
    (he : starEach (e :: rest) env = (false, eval e env) :: starEach rest env) (hp : (backTo pos (starEach rest env)).any (·.1) = false)
    (h : wpAny (model prog w) A (spliced (backTo pos (starEach (e :: rest) env))) (fun vs s₁ => wpAny (model prog w) A (call (.builtin id) vs) Q E s₁) E s) :
    wpAny (model prog w) A (eval (.Call (.Name x p) (e :: rest) [] pos) env) Q E s :=
  Call_ (n_builtin W.toBase hb I (W.fr x hx) hv hn hk hl hg hbi hd (PyProof.Rows.callWith_builtin1 h he hp))

theorem x_ty (W : Wd h₀ mg mb F) (hb : Sub h₀ g) (I : In g₀ D s₀ g μ s) {x : Str} {p pos : Pos} {e : Expr} {rest : List Expr} {T : String} {Q : Value → Shared → Prop} (hx : x ∈ bnames) (hv : bootBuiltins x = some (.type T))
    (hk : env.scope.kind = .function) (hl : env.kindOf x = some .globalImplicit) (hg : env.globals = mainGlobals) (hbi : env.builtins = builtinsNs) (hn : x ≠ "__name__") (hd : (x == ("__debug__" : Str)) = false)
    (he : starEach (e :: rest) env = (false, eval e env) :: starEach rest env) (hp : (backTo pos (starEach rest env)).any (·.1) = false)
    (h : wpAny (model prog w) A (spliced (backTo pos (starEach (e :: rest) env))) (fun vs s₁ => wpAny (model prog w) A (call (.type T) vs) Q E s₁) E s) :
    wpAny (model prog w) A (eval (.Call (.Name x p) (e :: rest) [] pos) env) Q E s := by
  refine Call_ (n_builtin W.toBase hb I (W.fr x hx) hv hn hk hl hg hbi hd ?_)
  refine PyProof.Rows.callWith_type ?_ ?_
  · rw [he]; show (false || (backTo pos (starEach rest env)).any (·.1)) = false; rw [hp]; rfl
  · rw [he] at h ⊢
    exact evalArgs_plain h
end

theorem execs_cons' {prog : Program} {w : World} {A : Around} {env : Env} {E : Value → Shared → Prop} {s : Shared} {st : Stmt} {rest : List Stmt} {Q : Flow → Shared → Prop}
    (h : ∀ Qk : Flow → Shared → Prop, (∀ f s', (match f with | .next => wpAny (model prog w) A (execs rest env) Q E s' | f => Q f s') → Qk f s') → wpAny (model prog w) A (exec st env) Qk E s) :
    wpAny (model prog w) A (execs (st :: rest) env) Q E s := wpAny_execs_cons (h _ fun zz zz x => x)

theorem opq {P Q : Flow → Shared → Prop} {f : Flow} {s : Shared} (h : ∀ f s, P f s → Q f s) (p : P f s) : Q f s := h f s p

noncomputable def retv : Flow → Value
  | .ret v => v
  | _ => .none

noncomputable def Pure (prog : Program) (w : World) (A : Around) (g : Heap) (f : Addr) (vals : List Value) (P : Heap → Value → Prop) : Prop :=
  ∀ (E : Value → Shared → Prop) (s : Shared) (Q : Value → Shared → Prop), Sub g s.heap → (∀ g' s' r, Step g [] s g' s' → Sub g' s'.heap → P g' r → Q r s') → wpAny (model prog w) A (call (.ref f) vals) Q E s
noncomputable def Eff1 (prog : Program) (w : World) (A : Around) (g : Heap) (f : Addr) (vals : List Value) (a : Addr) (P₀ : Obj → Prop) (P : Heap → (Obj → Prop) → Value → Prop) : Prop :=
  ∀ (E : Value → Shared → Prop) (s : Shared) (Q : Value → Shared → Prop), Own g [(a, P₀)] s.heap → (∀ g' s' r P', Step g [a] s g' s' → Sub g' s'.heap → (∃ o, s'.heap.get? a = some o ∧ P' o) → P g' P' r → Q r s') → wpAny (model prog w) A (call (.ref f) vals) Q E s

section
variable {prog : Program} {w : World} {A : Around} {E : Value → Shared → Prop} {g₀ g h₀ : Heap} {D : List Addr} {s₀ s : Shared} {μ : List Res} {mg mb : Str → Option Value} {F : Nat → Addr} {f a : Addr} {vals : List Value} {n k : Nat} {binds : List (Str × Value)}

theorem Pure.use {P : Heap → Value → Prop} (c : Pure prog w A g f vals P) (I : In g₀ D s₀ g μ s) {Q : Value → Shared → Prop} (h : ∀ g' s' r, Sub g g' → In g₀ D s₀ g' μ s' → P g' r → Q r s') :
    wpAny (model prog w) A (call (.ref f) vals) Q E s :=
  c E s Q I.own.sub fun g' s' r X hs p => h g' s' r X.le (I.call0 X hs) p

theorem Eff1.use {P₀ : Obj → Prop} {P : Heap → (Obj → Prop) → Value → Prop} (c : Eff1 prog w A g f vals a P₀ P) (I : In g₀ D s₀ g μ s) {i : Nat} (hi : μ[i]? = some (a, P₀)) {Q : Value → Shared → Prop}
    (h : ∀ g' s' r P', Sub g g' → In g₀ D s₀ g' (μ.set i (a, P')) s' → P g' P' r → Q r s') :
    wpAny (model prog w) A (call (.ref f) vals) Q E s := by
  refine c E s Q ⟨I.own.sub, fun p hp => ?_, by simp, fun p hp => ?_⟩ fun g' s' r P' X hs ho p => h g' s' r P' X.le (I.call1 hi X hs ho) p
  · rw [List.mem_singleton.mp hp]; exact I.get hi
  · rw [List.mem_singleton.mp hp]; exact I.own.off _ (List.mem_of_getElem? hi)

theorem Pure.of (W : Wd h₀ mg mb F) (k : Nat) (hk : k ∈ fns) (hb : Sub h₀ g) (R : Room A (n + 1)) (binds : List (Str × Value)) {P : Heap → Value → Prop}
    (hbind : ∀ pm code doc, bindArgs (docDef (fd k).name (fd k).params (fd k).body (fd k).scope pm code doc) ⟨vals, []⟩ = pure binds)
    (hkind : ∀ j, ∀ x ∈ binds, (fd k).scope.names.lookup x.1 = some .local ∨ ((fd k).scope.names.lookup x.1 = some .cell ∧ ((cellsFrom j (fd k).scope.names []).lookup x.1).isSome = true))
    (hnd : ((cellsFrom 0 (fd k).scope.names []).map (·.1)).Nodup)
    (hco : (fd k).scope.isCoroutine = false) (hgen : (fd k).scope.isGenerator = false) (hfk : (fd k).scope.kind = .function)
    (h : ∀ s L code s₁, ∀ Qk : Flow → Shared → Prop, (∀ fl s', (∃ g' μ', In g [] s g' μ' s' ∧ P g' (retv fl)) → Qk fl s') → let env := newEnv (fd k).scope L mainGlobals (cellsFrom (L + 1) (fd k).scope.names []) ((fd k).name ++ ".<locals>.") (some (F k)) code none builtinsNs;
      Room (A.deeper env) n → In g [] s g (frameRes env binds ++ []) s₁ →
      wpAny (model prog w) (A.deeper env) (execs (fd k).body env) Qk (fun zz zz => False) s₁) :
    Pure prog w A g (F k) vals P := fun E s Q hs hQ => by
  have O : Own g [] s.heap := ⟨hs, fun zz h => (nomatch h), List.nodup_nil, fun zz h => (nomatch h)⟩
  refine enter W.toBase (W.fn k hk) hb O R hbind hkind hnd (fun L code s₁ => ?_) hco hgen hfk
  intro env I
  refine wpAny_mono (h s L code s₁ _ (fun zz zz x => x) R.deeper I) (fun fl s' h' => ?_) fun zz zz e => e
  obtain ⟨g', μ', I', hP⟩ := h'
  exact hQ g' s' _ I'.step I'.own.sub hP

theorem Eff1.of (W : Wd h₀ mg mb F) (k : Nat) (hk : k ∈ fns) (hb : Sub h₀ g) (R : Room A (n + 1)) (binds : List (Str × Value)) {P₀ : Obj → Prop} {P : Heap → (Obj → Prop) → Value → Prop}
    (hbind : ∀ pm code doc, bindArgs (docDef (fd k).name (fd k).params (fd k).body (fd k).scope pm code doc) ⟨vals, []⟩ = pure binds)
    (hkind : ∀ j, ∀ x ∈ binds, (fd k).scope.names.lookup x.1 = some .local ∨ ((fd k).scope.names.lookup x.1 = some .cell ∧ ((cellsFrom j (fd k).scope.names []).lookup x.1).isSome = true))
    (hnd : ((cellsFrom 0 (fd k).scope.names []).map (·.1)).Nodup)
    (hco : (fd k).scope.isCoroutine = false) (hgen : (fd k).scope.isGenerator = false) (hfk : (fd k).scope.kind = .function)
    (h : ∀ s L code s₁, ∀ Qk : Flow → Shared → Prop, (∀ fl s', (∃ g' μ', ∃ i : Nat, ∃ P', In g [a] s g' μ' s' ∧ μ'[i]? = some (a, P') ∧ P g' P' (retv fl)) → Qk fl s') → let env := newEnv (fd k).scope L mainGlobals (cellsFrom (L + 1) (fd k).scope.names []) ((fd k).name ++ ".<locals>.") (some (F k)) code none builtinsNs;
      Room (A.deeper env) n → In g [a] s g (frameRes env binds ++ [(a, P₀)]) s₁ →
      wpAny (model prog w) (A.deeper env) (execs (fd k).body env) Qk (fun zz zz => False) s₁) :
    Eff1 prog w A g (F k) vals a P₀ P := fun E s Q O hQ => by
  refine enter W.toBase (W.fn k hk) hb O R hbind hkind hnd (fun L code s₁ => ?_) hco hgen hfk
  intro env I
  refine wpAny_mono (h s L code s₁ _ (fun zz zz x => x) R.deeper I) (fun fl s' h' => ?_) fun zz zz e => e
  obtain ⟨g', μ', i, P', I', hi, hP⟩ := h'
  exact hQ g' s' _ P' I'.step I'.own.sub (I'.get hi) hP
end
end Mine
end

section
open PySem PySem.W PyProof.Rows PySem.Calls
set_option tactic.hygienic false
set_option linter.all false
set_option maxRecDepth 100000
set_option maxHeartbeats 2000000
namespace Mine
section
variable {prog : Program} {w : World} {A : Around} {g h₀ : Heap} {mg mb : Str → Option Value} {F : Nat → Addr} {v : Value}

theorem w_isvar (W : Wd h₀ mg mb F) (hb : Sub h₀ g) (R : Room A 3) {n : Nat} {t : Tm} (hok : Ok n t) (hv : Rd g v t.d) :
    Pure prog w A g (F 5) [v] (fun zz r => r = .bool t.isVar) := by
  have hop := hok.op
  have hln := hok.ln
  obtain ⟨op, ks⟩ := t
  refine Pure.of W 5 (by decide) hb R [(Str.ofString "t", v)] (fun zz zz zz => rfl) (kindsX rfl) (by decide) rfl rfl rfl (fun s L code s₁ Qk hQ => ?_)
  intro env R I
  rw [Tm.d_mk] at hv
  have V : Rs g [(v, _)] := ⟨hv, trivial⟩
  change op.length ≤ 8 at hop
  change ks.length ≤ 2 at hln
  refine execs_cons' ?_; intro Qk hQ
  (with_reducible refine wpAny_Return_some ?_); (with_reducible refine wpAny_And2 ?_); refine wpAny_Compare1 ?_; refine x_bi W hb I (by decide) (by boot_by_name) rfl rfl rfl rfl (by decide) rfl rfl rfl ?_; refine args_cons ?_; refine n_local (i := 0) I rfl rfl rfl (by rfl) rfl ?_; (with_reducible refine args_nil ?_); refine b_len_tup I (Rs.h0 V) (by first | exact kdl ‹_› | exact kdm ‹_› | exact Nat.le_of_ble_eq_true rfl | exact mdl ‹_› rfl | exact mdm ‹_› rfl | (simp only [List.length_cons, List.length_nil, List.length_map, List.length_append, List.length_take, List.length_drop]; omega)) ?_; clear I; intro s t I; (with_reducible refine c_int I ?_; clear I; intro s t I); (with_reducible refine PyProof.Rows.eq_int ?_); (with_reducible refine wpAny_truthy_bool ?_)
  cases ks with
  | nil =>
    rw [if_pos (by rfl)]
    refine wpAny_Compare1 ?_; (with_reducible refine s_cut ?_); (with_reducible refine Subscript_ ?_); refine n_local (i := 0) I rfl rfl rfl (by rfl) rfl ?_; (with_reducible refine c_int I ?_; clear I; intro s t I); refine i_tup (k := 0) I (Rs.h0 V) rfl (by first | exact kdl ‹_› | exact kdm ‹_› | exact Nat.le_of_ble_eq_true rfl | exact mdl ‹_› rfl | exact mdm ‹_› rfl | (simp only [List.length_cons, List.length_nil, List.length_map, List.length_append, List.length_take, List.length_drop]; omega)) ?_; intro v hx; obtain ⟨t, rfl⟩ := Rd.str_inv hx; clear hx; refine wpAny_evalPart_none ?_; refine wpAny_evalPart_some ?_; (with_reducible refine c_int I ?_; clear I; intro s t I); (with_reducible refine Cut.str I ?_ ?_; (focus omega); clear I; intro s t I); (with_reducible refine c_str I ?_; clear I; intro s t I); (with_reducible refine PyProof.Rows.eq_str ?_); (with_reducible refine opq (by assumption) ?_); (with_reducible refine opq (by assumption) ?_)
    exact ⟨_, _, I, rfl⟩
  | cons a r =>
    rw [if_neg (by simp; omega)]
    (with_reducible refine opq (by assumption) ?_); (with_reducible refine opq (by assumption) ?_)
    refine ⟨_, _, I, ?_⟩
    show Value.bool _ = Value.bool _
    congr 1

end

end Mine
end

section
open PySem PySem.W PyProof.Rows PySem.Calls
set_option tactic.hygienic false
set_option linter.all false
set_option maxRecDepth 100000
set_option maxHeartbeats 2000000
namespace Mine
section
variable {prog : Program} {w : World} {A : Around} {g h₀ : Heap} {mg mb : Str → Option Value} {F : Nat → Addr} {v : Value}

theorem at?_app : ∀ (p : List Nat) (t : Tm) (k : Nat), t.at? (p ++ [k]) = (t.at? p).bind fun u => u.kids[k]?
  | [], t, k => by
    show (match t.kids[k]? with | some u => u.at? [] | none => none) = _
    cases h : t.kids[k]? <;> simp [Tm.at?, h]
  | j :: p, t, k => by
    rw [List.cons_append, Tm.at?, Tm.at?]
    cases h : t.kids[j]? with
    | none => rfl
    | some u => exact at?_app p u k

noncomputable def intD (k : Nat) : PyData := .int (k : Int)
noncomputable def pathD (p : List Nat) : PyData := .tuple (p.map intD)

theorem at?_append : ∀ (p q : List Nat) (t : Tm), t.at? (p ++ q) = (t.at? p).bind fun u => u.at? q
  | [], q, t => rfl
  | j :: p, q, t => by
    rw [List.cons_append, Tm.at?, Tm.at?]
    cases h : t.kids[j]? with
    | none => rfl
    | some u => exact at?_append p q u

theorem at?_step {t u : Tm} {p : List Nat} {i k : Nat} (hat : t.at? p = some u) (hk : p[i]? = some k) {tt : Tm} (h : t.at? (p.take i) = some tt) : ∃ kk, tt.kids[k]? = some kk ∧ t.at? (p.take (i + 1)) = some kk := by
  have e : p = p.take i ++ (k :: p.drop (i + 1)) := by
    have hlt := (List.getElem?_eq_some_iff.mp hk).1
    have : p[i] = k := (List.getElem?_eq_some_iff.mp hk).2
    rw [← this, List.getElem_cons_drop, List.take_append_drop]
  rw [e, at?_append, h, Option.bind_some, Tm.at?] at hat
  have e2 : p.take (i + 1) = p.take i ++ [k] := by rw [List.take_add_one, hk]; rfl
  cases hkk : tt.kids[k]? with
  | none => rw [hkk] at hat; cases hat
  | some kk => exact ⟨kk, rfl, by rw [e2, at?_app, h, Option.bind_some, hkk]⟩

theorem w_partAt (W : Wd h₀ mg mb F) (hb : Sub h₀ g) (R : Room A 4) {n : Nat} {t u : Tm} {p : List Nat} {vp : Value} (hok : Ok n t) (hv : Rd g v t.d) (hp : Rd g vp (pathD p)) (hpl : p.length ≤ 1000) (hat : t.at? p = some u) :
    Pure prog w A g (F 10) [v, vp] (fun g' r => Rd g' r u.d) := by
  refine Pure.of W 10 (by decide) hb R [(Str.ofString "t", v), (Str.ofString "path", vp)] (fun zz zz zz => rfl) (kindsX rfl) (by decide) rfl rfl rfl (fun s L code s₁ Qk hQ => ?_)
  intro env R I
  have V : Rs g [(v, t.d), (vp, .tuple (p.map intD))] := ⟨hv, hp, trivial⟩
  clear hp
  refine execs_cons' ?_; intro Qk hQ
  refine x_for I (fun zz => rfl) ?_; refine n_local (i := 0) I rfl rfl rfl (by rfl) rfl ?_; refine it_seq R.hd I (.inr (Rs.h1 V)) ?_; clear I; intro it s X
  refine ForK.of p intD (fun i g' μ' => ∃ m vt tt nn, μ' = [(L, nsP m)] ∧ m (Str.ofString "t") = some vt ∧ Rd g' vt tt.d ∧ t.at? (p.take i) = some tt ∧ Ok nn tt) (X _) rfl ⟨_, _, t, n, rfl, rfl, hv, rfl, hok⟩ (fun i x v g' μ' s' rest hx hs hv hK I Qk hQ => ?_) (fun i g' g'' μ' hs hK => ?_) (fun g s s' hs hK I => ?_)
  · obtain ⟨m, vt, tt, nn, rfl, H1, hvt, hatt, hok'⟩ := hK
    obtain ⟨tk, rfl⟩ := Rd.int_inv hv
    obtain ⟨kk, hkk, hat'⟩ := at?_step hat hx hatt
    have hln := hok'.ln
    have hxl := (List.getElem?_eq_some_iff.mp hkk).1
    rw [Tm.d_eta] at hvt
    clear V
    have V : Rs g' [(vt, .tuple (.str tt.op :: tt.kids.map Tm.d))] := ⟨hvt, trivial⟩
    replace hb := hb.trans hs
    clear hs
    (with_reducible refine wpAny_assign_Name ?_); refine st_local (i := 0) I rfl rfl rfl ?_; clear I; intro s I; (with_reducible refine execs_cons' ?_; intro Qk hQ); (with_reducible refine wpAny_If ?_); (with_reducible refine isTrue_not ?_); refine isTrue_chain ?_; (with_reducible refine c_int I ?_; clear I; intro s t I); (with_reducible refine test_link ?_); refine n_local (i := 0) I rfl rfl rfl (by rfl) rfl ?_; (with_reducible refine PyProof.Rows.le_int ?_); (with_reducible refine wpAny_truthy_bool ?_)
    refine ite_t (by simp) ?_
    refine test_last ?_; (with_reducible refine wpAny_BinOp ?_); refine x_bi W hb I (by decide) (by boot_by_name) rfl rfl rfl rfl (by decide) rfl rfl rfl ?_; refine args_cons ?_; refine n_local (i := 0) I rfl rfl rfl H1 rfl ?_; (with_reducible refine args_nil ?_); refine b_len_tup I (Rs.h0 V) (by first | exact kdl ‹_› | exact kdm ‹_› | exact Nat.le_of_ble_eq_true rfl | exact mdl ‹_› rfl | exact mdm ‹_› rfl | (simp only [List.length_cons, List.length_nil, List.length_map, List.length_append, List.length_take, List.length_drop]; omega)) ?_; clear I; intro s t I; (with_reducible refine c_int I ?_; clear I; intro s t I); (with_reducible refine o_sub I ?_; clear I; intro s t I); (with_reducible refine PyProof.Rows.lt_int ?_); (with_reducible refine wpAny_truthy_bool ?_)
    refine ite_f (by simp; omega) ?_
    (with_reducible refine wpAny_execs_nil ?_); (with_reducible refine opq (by assumption) ?_); (with_reducible refine execs_cons' ?_; intro Qk hQ); refine wpAny_Assign_Name ?_; (with_reducible refine Subscript_ ?_); refine n_local (i := 0) I rfl rfl rfl H1 rfl ?_; (with_reducible refine wpAny_BinOp ?_); refine n_local (i := 0) I rfl rfl rfl (by rfl) rfl ?_; (with_reducible refine c_int I ?_; clear I; intro s t I); (with_reducible refine o_add I ?_; clear I; intro s t I)
    refine i_tupN (k := x + 1) (d := kk.d) I (Rs.h0 V) (by first | decide | exact lle ‹_› rfl | exact llt ‹_› rfl | exact lll ‹_› rfl | exact llm ‹_› rfl | omega) (by simp [hkk]) (by simp; omega) ?_
    intro v hx
    refine st_local (i := 0) I rfl rfl rfl ?_; clear I; intro s I; (with_reducible refine opq (by assumption) ?_); (with_reducible refine wpAny_execs_nil ?_); (with_reducible refine opq (by assumption) ?_)
    cases nn with
    | zero => exact hok'.elim
    | succ nn => exact ⟨g', _, Sub.refl _, I, _, v, kk, nn, rfl, rfl, hx, hat', hok'.kid (List.mem_of_getElem? hkk)⟩
  · obtain ⟨m, vt, tt, nn, rfl, H1, hvt, hatt, hok'⟩ := hK
    exact ⟨m, vt, tt, nn, rfl, H1, hvt.mono hs, hatt, hok'⟩
  · obtain ⟨m, vt, tt, nn, rfl, H1, hvt, hatt, hok'⟩ := hK
    (with_reducible refine opq (by assumption) ?_); (with_reducible refine execs_cons' ?_; intro Qk hQ); (with_reducible refine wpAny_Return_some ?_); refine n_local (i := 0) I rfl rfl rfl H1 rfl ?_; (with_reducible refine opq (by assumption) ?_); (with_reducible refine opq (by assumption) ?_)
    refine ⟨_, _, I, ?_⟩
    rw [List.take_of_length_le (Nat.le_refl _), hat] at hatt
    cases hatt
    exact hvt
end

end Mine
end

section
open PySem PySem.W PyProof.Rows PySem.Calls
set_option tactic.hygienic false
set_option linter.all false
set_option maxRecDepth 100000
set_option maxHeartbeats 2000000
namespace Mine
section
variable {prog : Program} {w : World} {A : Around} {g h₀ : Heap} {mg mb : Str → Option Value} {F : Nat → Addr} {v : Value}

theorem w_replaced (W : Wd h₀ mg mb F) {u : Tm} : ∀ (p : List Nat) {n : Nat} {A : Around} {g : Heap} {v vp vu : Value} {t x : Tm}, Ok n t → Sub h₀ g → Room A (p.length + 6) → Rd g v t.d → Rd g vp (pathD p) → p.length ≤ 1000 → Rd g vu u.d → t.at? p = some x →
    Pure prog w A g (F 11) [v, vp, vu] (fun g' r => Rd g' r (t.put p u).d)
  | p, n, A, g, v0, vp, vu, t, x, hok, hb, R, hv, hp, hpl, hu, hat => by
    refine Pure.of W 11 (by decide) hb R [(Str.ofString "t", v0), (Str.ofString "path", vp), (Str.ofString "u", vu)] (fun zz zz zz => rfl) (kindsX rfl) (by decide) rfl rfl rfl (fun s L code s₁ Qk hQ => ?_)
    intro env R I
    have V : Rs g [(v0, t.d), (vp, .tuple (p.map intD)), (vu, u.d)] := ⟨hv, hp, hu, trivial⟩
    clear hp hv hu
    refine execs_cons' ?_; intro Qk hQ
    (with_reducible refine wpAny_If ?_); refine wpAny_isTrue_Compare1 ?_; refine n_local (i := 0) I rfl rfl rfl (by rfl) rfl ?_; (with_reducible refine Tuple_ ?_); (with_reducible refine args_nil ?_); refine d_tuple I .nil (by first | exact kdl ‹_› | exact kdm ‹_› | exact Nat.le_of_ble_eq_true rfl | exact mdl ‹_› rfl | exact mdm ‹_› rfl | (simp only [List.length_cons, List.length_nil, List.length_map, List.length_append, List.length_take, List.length_drop]; omega)) ?_; clear I; intro g s v hs I hx; replace hb := Sub.trans hb hs; replace V := Rs.mono V hs; clear hs; replace V := Rs.cons hx V; clear hx
    refine k_eq I (Rs.h2 V) (Rs.h0 V) ?_ ?_ ?_ R ?_
    · refine canLayAll_mem fun x hx => ?_
      obtain ⟨k, _, rfl⟩ := List.mem_map.mp hx; rfl
    · rfl
    · refine Nat.le_trans (Nat.succ_le_succ (depthAll_mem (n := 0) fun x hx => ?_)) (by first | decide | exact lle ‹_› rfl | exact llt ‹_› rfl | exact lll ‹_› rfl | exact llm ‹_› rfl | omega)
      obtain ⟨k, _, rfl⟩ := List.mem_map.mp hx; exact Nat.le_refl _
    cases p with
    | nil =>
      (with_reducible refine wpAny_truthy_bool ?_)
      refine ite_t (by rfl) ?_
      (with_reducible refine execs_cons' ?_; intro Qk hQ); (with_reducible refine wpAny_Return_some ?_); refine n_local (i := 0) I rfl rfl rfl (by rfl) rfl ?_; (with_reducible refine opq (by assumption) ?_); (with_reducible refine opq (by assumption) ?_); (with_reducible refine opq (by assumption) ?_)
      exact ⟨_, _, I, by rw [Tm.put]; exact Rs.h3 V⟩
    | cons k q =>
      (with_reducible refine wpAny_truthy_bool ?_)
      refine ite_f (by simp [PyData.eqv, PyData.eqvAll]) ?_
      rw [List.length_cons] at hpl
      rw [List.length_cons] at R
      have hln := hok.ln
      cases n with
      | zero => exact hok.elim
      | succ n =>
      obtain ⟨op, ks⟩ := t
      rw [Tm.at?] at hat
      change ks.length ≤ 2 at hln
      cases hk : (Tm.mk op ks).kids[k]? with
      | none => rw [hk] at hat; cases hat
      | some kk =>
      rw [hk] at hat
      have hkl : k < ks.length := (List.getElem?_eq_some_iff.mp hk).1
      have hkk : Ok n kk := hok.kid (List.mem_of_getElem? hk)
      have h1 : Rd g v0 (.tuple (.str op :: ks.map Tm.d)) := Tm.d_mk op ks ▸ (Rs.h1 V)
      replace V := Rs.cons h1 V
      clear h1
      (with_reducible refine wpAny_execs_nil ?_); (with_reducible refine opq (by assumption) ?_); (with_reducible refine execs_cons' ?_; intro Qk hQ); refine wpAny_Assign_Name ?_; refine x_def W hb I rfl rfl rfl rfl rfl rfl ?_; refine args_cons ?_; refine n_local (i := 0) I rfl rfl rfl (by rfl) rfl ?_; refine args_cons ?_; (with_reducible refine s_cut ?_); refine n_local (i := 0) I rfl rfl rfl (by rfl) rfl ?_; refine wpAny_evalPart_none ?_; refine wpAny_evalPart_some ?_; (with_reducible refine c_int I ?_; clear I; intro s t I); refine cut_tup_upto (a := 1) I (Rs.h3 V) (by first | exact kdl ‹_› | exact kdm ‹_› | exact Nat.le_of_ble_eq_true rfl | exact mdl ‹_› rfl | exact mdm ‹_› rfl | (simp only [List.length_cons, List.length_nil, List.length_map, List.length_append, List.length_take, List.length_drop]; omega)) ?_; clear I; intro g s v hs I hx; replace hb := Sub.trans hb hs; replace V := Rs.mono V hs; clear hs; replace V := Rs.cons hx V; clear hx; (with_reducible refine args_nil ?_)
      refine ⟨hb.trans I.own.sub, ?_⟩
      refine (w_partAt W hb R.dn hok (Rs.h3 V) (p := [k]) (Rs.h0 V) (by simp) (u := kk) ?_).use I ?_
      · show (match (Tm.mk op ks).kids[k]? with | some u => u.at? [] | none => none) = _
        rw [hk]; rfl
      clear I; intro g s kid hs I hx
      replace hb := Sub.trans hb hs; replace V := Rs.mono V hs; clear hs
      replace V := Rs.cons hx V; clear hx
      refine st_local (i := 0) I rfl rfl rfl ?_; clear I; intro s I; (with_reducible refine opq (by assumption) ?_); (with_reducible refine execs_cons' ?_; intro Qk hQ); (with_reducible refine wpAny_Return_some ?_); (with_reducible refine wpAny_BinOp ?_); (with_reducible refine wpAny_BinOp ?_); (with_reducible refine s_cut ?_); refine n_local (i := 0) I rfl rfl rfl (by rfl) rfl ?_; refine wpAny_evalPart_none ?_; refine wpAny_evalPart_some ?_; (with_reducible refine wpAny_BinOp ?_); (with_reducible refine Subscript_ ?_); refine n_local (i := 0) I rfl rfl rfl (by rfl) rfl ?_; (with_reducible refine c_int I ?_; clear I; intro s t I); refine i_tup (k := 0) I (Rs.h5 V) rfl (by first | exact kdl ‹_› | exact kdm ‹_› | exact Nat.le_of_ble_eq_true rfl | exact mdl ‹_› rfl | exact mdm ‹_› rfl | (simp only [List.length_cons, List.length_nil, List.length_map, List.length_append, List.length_take, List.length_drop]; omega)) ?_; intro v hx; obtain ⟨t, rfl⟩ := Rd.int_inv hx; clear hx; (with_reducible refine c_int I ?_; clear I; intro s t I); (with_reducible refine o_add I ?_; clear I; intro s t I)
      refine cut_tup_uptoN (a := k + 1) I (Rs.h2 V) (by first | decide | exact lle ‹_› rfl | exact llt ‹_› rfl | exact lll ‹_› rfl | exact llm ‹_› rfl | omega) (by simp; omega) ?_
      clear I; intro g s v1 hs I hx
      replace V : Rs _ [(kid, kk.d), (v0, PyData.tuple (PyData.str op :: List.map Tm.d ks)), (vp, PyData.tuple (List.map intD (k :: q))), (vu, u.d)] := ⟨Rs.h0 V, Rs.h2 V, Rs.h5 V, Rs.h6 V, trivial⟩
      replace hb := Sub.trans hb hs; replace V := Rs.mono V hs; clear hs
      replace V := Rs.cons hx V; clear hx
      (with_reducible refine Tuple_ ?_); refine args_cons ?_; refine x_def W hb I rfl rfl rfl rfl rfl rfl ?_; refine args_cons ?_; refine n_local (i := 0) I rfl rfl rfl (by rfl) rfl ?_; refine args_cons ?_; (with_reducible refine s_cut ?_); refine n_local (i := 0) I rfl rfl rfl (by rfl) rfl ?_; refine wpAny_evalPart_some ?_; (with_reducible refine c_int I ?_; clear I; intro s t I); refine wpAny_evalPart_none ?_; refine cut_tup_from (a := 1) I (Rs.h3 V) (by first | exact kdl ‹_› | exact kdm ‹_› | exact Nat.le_of_ble_eq_true rfl | exact mdl ‹_› rfl | exact mdm ‹_› rfl | (simp only [List.length_cons, List.length_nil, List.length_map, List.length_append, List.length_take, List.length_drop]; omega)) ?_; clear I; intro g s v hs I hx; replace hb := Sub.trans hb hs; replace V := Rs.mono V hs; clear hs; replace V := Rs.cons hx V; clear hx; refine args_cons ?_; refine n_local (i := 0) I rfl rfl rfl (by rfl) rfl ?_; (with_reducible refine args_nil ?_)
      refine ⟨hb.trans I.own.sub, ?_⟩
      refine (w_replaced W q hkk hb R.dn (Rs.h2 V) (Rs.h0 V) (by first | decide | exact lle ‹_› rfl | exact llt ‹_› rfl | exact lll ‹_› rfl | exact llm ‹_› rfl | omega) (Rs.h5 V) hat).use I ?_
      clear I; intro g s v2 hs I hx
      replace V := Rs.tl V
      replace hb := Sub.trans hb hs; replace V := Rs.mono V hs; clear hs
      replace V := Rs.cons hx V; clear hx
      (with_reducible refine args_nil ?_); refine d_tuple I (.cons (Rs.h0 V) .nil) (by first | exact kdl ‹_› | exact kdm ‹_› | exact Nat.le_of_ble_eq_true rfl | exact mdl ‹_› rfl | exact mdm ‹_› rfl | (simp only [List.length_cons, List.length_nil, List.length_map, List.length_append, List.length_take, List.length_drop]; omega)) ?_; clear I; intro g s v hs I hx; replace hb := Sub.trans hb hs; replace V := Rs.mono V hs; clear hs; replace V := Rs.cons hx V; clear hx; refine o_add_tup I (Rs.h2 V) (Rs.h0 V) (by first | exact kdl ‹_› | exact kdm ‹_› | exact Nat.le_of_ble_eq_true rfl | exact mdl ‹_› rfl | exact mdm ‹_› rfl | (simp only [List.length_cons, List.length_nil, List.length_map, List.length_append, List.length_take, List.length_drop]; omega)) ?_; clear I; intro g s v hs I hx; replace hb := Sub.trans hb hs; replace V := Rs.mono V hs; clear hs; replace V := Rs.cons hx V; clear hx; (with_reducible refine s_cut ?_); refine n_local (i := 0) I rfl rfl rfl (by rfl) rfl ?_; refine wpAny_evalPart_some ?_; (with_reducible refine wpAny_BinOp ?_); (with_reducible refine Subscript_ ?_); refine n_local (i := 0) I rfl rfl rfl (by rfl) rfl ?_; (with_reducible refine c_int I ?_; clear I; intro s t I); refine i_tup (k := 0) I (Rs.h6 V) rfl (by first | exact kdl ‹_› | exact kdm ‹_› | exact Nat.le_of_ble_eq_true rfl | exact mdl ‹_› rfl | exact mdm ‹_› rfl | (simp only [List.length_cons, List.length_nil, List.length_map, List.length_append, List.length_take, List.length_drop]; omega)) ?_; intro v hx; obtain ⟨t, rfl⟩ := Rd.int_inv hx; clear hx; (with_reducible refine c_int I ?_; clear I; intro s t I); (with_reducible refine o_add I ?_; clear I; intro s t I); refine wpAny_evalPart_none ?_
      refine cut_tup_fromN (a := k + 2) I (Rs.h5 V) (by first | decide | exact lle ‹_› rfl | exact llt ‹_› rfl | exact lll ‹_› rfl | exact llm ‹_› rfl | omega) (by simp; omega) ?_
      clear I; intro g s v3 hs I hx
      replace V : Rs _ [(_, PyData.tuple (List.take (k + 1) (PyData.str op :: List.map Tm.d ks) ++ [(kk.put q u).d]))] := ⟨Rs.h0 V, trivial⟩
      replace hb := Sub.trans hb hs; replace V := Rs.mono V hs; clear hs
      replace V := Rs.cons hx V; clear hx
      refine o_add_tup I (Rs.h1 V) (Rs.h0 V) (by first | exact kdl ‹_› | exact kdm ‹_› | exact Nat.le_of_ble_eq_true rfl | exact mdl ‹_› rfl | exact mdm ‹_› rfl | (simp only [List.length_cons, List.length_nil, List.length_map, List.length_append, List.length_take, List.length_drop]; omega)) ?_; clear I; intro g s v hs I hx; replace hb := Sub.trans hb hs; replace V := Rs.mono V hs; clear hs; replace V := Rs.cons hx V; clear hx; (with_reducible refine opq (by assumption) ?_); (with_reducible refine opq (by assumption) ?_)
      refine ⟨_, _, I, ?_⟩
      have e : (Tm.mk op ks).put (k :: q) u = .mk op (ks.set k (kk.put q u)) := by
        rw [Tm.put, hk]; rfl
      have e2 : List.take (k + 1) (PyData.str op :: List.map Tm.d ks) ++ [(kk.put q u).d] ++ List.drop (k + 2) (PyData.str op :: List.map Tm.d ks) = PyData.str op :: (ks.set k (kk.put q u)).map Tm.d := by
        rw [List.take_succ_cons, List.drop_succ_cons, List.map_set, List.set_eq_take_append_cons_drop, if_pos (by simpa using hkl)]
        simp
      rw [e, Tm.d_mk, ← e2]
      exact Rs.h0 V
end

end Mine
end

section
open PySem PySem.W PyProof.Rows PySem.Calls
set_option tactic.hygienic false
set_option linter.all false
set_option maxRecDepth 100000
set_option maxHeartbeats 2000000
namespace Mine
section
variable {prog : Program} {w : World} {A : Around} {g h₀ : Heap} {mg mb : Str → Option Value} {F : Nat → Addr} {v : Value}

mutual
theorem parts_len : ∀ t : Tm, t.parts.length = t.size
  | .mk op ks => by rw [Tm.parts, Tm.size, List.length_cons, partsL_len 0 ks]; omega
theorem partsL_len : ∀ (j : Nat) (ks : List Tm), (Tm.partsL j ks).length = Tm.sizeL ks
  | _, [] => rfl
  | j, t :: r => by rw [Tm.partsL, Tm.sizeL, List.length_append, List.length_map, parts_len t, partsL_len (j + 1) r]
end
theorem sizeL_le {b : Nat} : ∀ ks : List Tm, (∀ k ∈ ks, k.size ≤ b) → Tm.sizeL ks ≤ ks.length * b
  | [], _ => by simp [Tm.sizeL]
  | t :: r, h => by
    rw [Tm.sizeL, List.length_cons, Nat.succ_mul]
    have h1 := h t (.head _)
    have h2 := sizeL_le r fun k hk => h k (.tail _ hk)
    omega
theorem size_le : ∀ {n : Nat} {t : Tm}, Ok n t → t.size + 1 ≤ 2 ^ n
  | 0, _, h => h.elim
  | n + 1, .mk op ks, h => by
    have h1 := sizeL_le (b := 2 ^ n - 1) ks fun k hk => by have := size_le (h.2.2.2 k hk); omega
    have h2 : ks.length * (2 ^ n - 1) ≤ 2 * (2 ^ n - 1) := Nat.mul_le_mul_right _ h.2.2.1
    have h3 : 1 ≤ 2 ^ n := Nat.one_le_two_pow
    rw [Tm.size, Nat.pow_succ]; omega

mutual
theorem parts_dep : ∀ {n : Nat} (t : Tm), Ok n t → ∀ p ∈ t.parts, p.1.length + 1 ≤ n
  | 0, _, h => h.elim
  | n + 1, .mk op ks, h => by
    intro p hp
    rw [Tm.parts] at hp
    rcases List.mem_cons.mp hp with rfl | hp
    · simp
    · exact Nat.succ_le_succ (partsL_dep ks 0 h.2.2.2 p hp)
theorem partsL_dep : ∀ {n : Nat} (ks : List Tm) (j : Nat), (∀ k ∈ ks, Ok n k) → ∀ p ∈ Tm.partsL j ks, p.1.length ≤ n
  | _, [], _, _, p, hp => by simp [Tm.partsL] at hp
  | n, t :: r, j, h, p, hp => by
    rw [Tm.partsL] at hp
    rcases List.mem_append.mp hp with hp | hp
    · obtain ⟨q, hq, rfl⟩ := List.mem_map.mp hp
      have := parts_dep t (h t (.head _)) q hq
      simpa using this
    · exact partsL_dep r (j + 1) (fun k hk => h k (.tail _ hk)) p hp
end

theorem sizeL_take : ∀ (ks : List Tm) (i : Nat), Tm.sizeL (ks.take i) ≤ Tm.sizeL ks
  | [], i => by simp [Tm.sizeL]
  | t :: r, 0 => by simp [Tm.sizeL]
  | t :: r, i + 1 => by
    rw [List.take_succ_cons, Tm.sizeL, Tm.sizeL]
    exact Nat.add_le_add_left (sizeL_take r i) _

noncomputable def partD (p : List Nat × Tm) : PyData := .tuple [pathD p.1, p.2.d]
theorem partsL_snoc : ∀ (a : List Tm) (x : Tm) (j : Nat), Tm.partsL j (a ++ [x]) = Tm.partsL j a ++ x.parts.map fun p => ((j + a.length) :: p.1, p.2)
  | [], x, j => by simp [Tm.partsL]
  | y :: a, x, j => by
    rw [List.cons_append, Tm.partsL, Tm.partsL, partsL_snoc a x (j + 1), List.append_assoc, List.length_cons]
    congr 3
    funext p
    rw [show j + 1 + a.length = j + (a.length + 1) by omega]
theorem partsL_take {ks : List Tm} {i : Nat} {x : Tm} (h : ks[i]? = some x) : Tm.partsL 0 (ks.take (i + 1)) = Tm.partsL 0 (ks.take i) ++ x.parts.map fun p => (i :: p.1, p.2) := by
  have e : ks.take (i + 1) = ks.take i ++ [x] := by rw [List.take_add_one, h]; rfl
  have hl : (ks.take i).length = i := by rw [List.length_take]; have := (List.getElem?_eq_some_iff.mp h).1; omega
  rw [e, partsL_snoc, Nat.zero_add, hl]

theorem w_parts (W : Wd h₀ mg mb F) : ∀ (n : Nat) {A : Around} {g : Heap} {v : Value} {t : Tm}, n ≤ 10 → Ok n t → Sub h₀ g → Room A (n + 3) → Rd g v t.d →
    Pure prog w A g (F 9) [v] (fun g' r => Rd g' r (.list (t.parts.map partD)))
  | 0, _, _, _, _, _, h, _, _, _ => h.elim
  | n + 1, A, g, v, t, hn, hok, hb, R, hv => by
    have ih := @w_parts W n
    have hln := hok.ln
    have hsz := size_le hok
    have h2n : 2 ^ (n + 1) ≤ 2 ^ 10 := Nat.pow_le_pow_right (by first | decide | exact lle ‹_› rfl | exact llt ‹_› rfl | exact lll ‹_› rfl | exact llm ‹_› rfl | omega) hn
    have hkid : ∀ k ∈ t.kids, Ok n k := fun k hk => hok.kid hk
    obtain ⟨op, ks⟩ := t
    refine Pure.of W 9 (by decide) hb R [(Str.ofString "t", v)] (fun zz zz zz => rfl) (kindsX rfl) (by decide) rfl rfl rfl (fun s L code s₁ Qk hQ => ?_)
    intro env R I
    have V : Rs g [(v, .tuple (.str op :: ks.map Tm.d)), (v, (Tm.mk op ks).d)] := ⟨Tm.d_mk op ks ▸ hv, hv, trivial⟩
    clear hv
    change ks.length ≤ 2 at hln
    change ∀ k ∈ ks, Ok n k at hkid
    refine execs_cons' ?_; intro Qk hQ
    refine wpAny_Assign_Name ?_; (with_reducible refine List_ ?_); refine args_cons ?_; (with_reducible refine Tuple_ ?_); refine args_cons ?_; (with_reducible refine Tuple_ ?_); (with_reducible refine args_nil ?_); refine d_tuple I .nil (by first | exact kdl ‹_› | exact kdm ‹_› | exact Nat.le_of_ble_eq_true rfl | exact mdl ‹_› rfl | exact mdm ‹_› rfl | (simp only [List.length_cons, List.length_nil, List.length_map, List.length_append, List.length_take, List.length_drop]; omega)) ?_; clear I; intro g s v hs I hx; replace hb := Sub.trans hb hs; replace V := Rs.mono V hs; clear hs; replace V := Rs.cons hx V; clear hx; refine args_cons ?_; refine n_local (i := 0) I rfl rfl rfl (by rfl) rfl ?_; (with_reducible refine args_nil ?_); refine d_tuple I (.cons (Rs.h0 V) (.cons (Rs.h1 V) .nil)) (by first | exact kdl ‹_› | exact kdm ‹_› | exact Nat.le_of_ble_eq_true rfl | exact mdl ‹_› rfl | exact mdm ‹_› rfl | (simp only [List.length_cons, List.length_nil, List.length_map, List.length_append, List.length_take, List.length_drop]; omega)) ?_; clear I; intro g s v hs I hx; replace hb := Sub.trans hb hs; replace V := Rs.mono V hs; clear hs; replace V := Rs.cons hx V; clear hx; (with_reducible refine args_nil ?_)
    refine d_own I (by simp) ?_; clear I; intro s fa hfa I
    have L0 : Rds g [v] [partD ([], Tm.mk op ks)] := .one (by rw [partD, Tm.d_mk]; exact Rs.h0 V)
    refine st_local (i := 1) I rfl rfl rfl ?_; clear I; intro s I; (with_reducible refine opq (by assumption) ?_); (with_reducible refine execs_cons' ?_; intro Qk hQ); refine x_for I (fun zz => rfl) ?_; refine x_ty W hb I (by decide) (by boot_by_name) rfl rfl rfl rfl (by decide) rfl rfl rfl ?_; refine args_cons ?_; (with_reducible refine s_cut ?_); refine n_local (i := 1) I rfl rfl rfl (by rfl) rfl ?_; refine wpAny_evalPart_some ?_; (with_reducible refine c_int I ?_; clear I; intro s t I); refine wpAny_evalPart_none ?_; refine cut_tup_from (a := 1) I (Rs.h2 V) (by first | exact kdl ‹_› | exact kdm ‹_› | exact Nat.le_of_ble_eq_true rfl | exact mdl ‹_› rfl | exact mdm ‹_› rfl | (simp only [List.length_cons, List.length_nil, List.length_map, List.length_append, List.length_take, List.length_drop]; omega)) ?_; clear I; intro g s v hs I hx; replace hb := Sub.trans hb hs; replace V := Rs.mono V hs; replace L0 := L0.mono hs; clear hs; replace V := Rs.cons hx V; clear hx; (with_reducible refine args_nil ?_)
    refine it_enum R.hd I (.inr (Rs.h0 V)) ?_; clear I; intro it s X
    refine ForK.of ks.zipIdx (fun p => .tuple [.int p.2, p.1.d]) (fun i g' μ' => ∃ m c vs, μ' = (fa, listP vs) :: nsc L m c ∧ m (Str.ofString "found") = some (.ref fa) ∧ Rds g' vs ((([], Tm.mk op ks) :: Tm.partsL 0 (ks.take i)).map partD))
      (X _ _ _) (by simp [List.zipIdx_map]) ⟨_, _, _, rfl, rfl, L0⟩ (fun i x v g' μ' s' rest hx hs hv hK I Qk hQ => ?_) (fun i g' g'' μ' hs hK => ?_) (fun g' μ' s hs hK I => ?_)
    · obtain ⟨m, c, vs, rfl, H1, L0⟩ := hK
      obtain ⟨kk, j⟩ := x
      obtain ⟨hkk, rfl⟩ : ks[i]? = some kk ∧ i = j := by
        rw [List.getElem?_zipIdx] at hx
        obtain ⟨a, ha, e⟩ := Option.map_eq_some_iff.mp hx
        simp at e
        exact ⟨e.1 ▸ ha, e.2⟩
      replace hb := hb.trans hs
      clear hs V
      have HB := Sub.refl g'
      have V : Rs g' [(v, .tuple [.int i, kk.d])] := ⟨hv, trivial⟩
      clear hv
      refine as_pair R.hd I (Rs.h0 V) rfl rfl rfl ?_; clear I; intro s x y I hx hy; obtain ⟨t, rfl⟩ := Rd.int_inv hx; clear hx; replace V := Rs.cons hy V; clear hy; (with_reducible refine wpAny_assign_Name ?_); refine st_cell (i := 2) I rfl rfl rfl rfl ?_; clear I; intro s I; (with_reducible refine wpAny_assign_Name ?_); refine st_local (i := 1) I rfl rfl rfl ?_; clear I; intro s I; (with_reducible refine execs_cons' ?_; intro Qk hQ); refine wpAny_Expr_any ?_; refine MethodCall_ ?_; refine n_local (i := 1) I rfl rfl rfl H1 rfl ?_; refine lm_method (i := 0) I rfl PySem.F.slot_list_extend PySem.F.type_list_extend ?_; refine PyProof.Rows.callWith_method1 ?_; refine args_cons ?_; refine x_comp I rfl rfl (by decide) (fun zz => rfl) ?_; refine x_def W hb I rfl rfl rfl rfl rfl rfl ?_; refine args_cons ?_; refine n_local (i := 1) I rfl rfl rfl (by rfl) rfl ?_; (with_reducible refine args_nil ?_)
      refine ⟨hb.trans I.own.sub, ?_⟩
      have hkk' := hkid kk (List.mem_of_getElem? hkk)
      have hsk := size_le hkk'
      have h2 : 2 ^ n ≤ 2 ^ 10 := Nat.pow_le_pow_right (by first | decide | exact lle ‹_› rfl | exact llt ‹_› rfl | exact lll ‹_› rfl | exact llm ‹_› rfl | omega) (by first | decide | exact lle ‹_› rfl | exact llt ‹_› rfl | exact lll ‹_› rfl | exact llm ‹_› rfl | omega)
      refine (ih (by first | decide | exact lle ‹_› rfl | exact llt ‹_› rfl | exact lll ‹_› rfl | exact llm ‹_› rfl | omega) hkk' hb R.dn (Rs.h0 V)).use I ?_; clear I; intro g s r hs I hx
      replace hb := Sub.trans hb hs; replace V := Rs.mono V hs; replace L0 := L0.mono hs; replace HB := Sub.trans HB hs; clear hs
      replace V := Rs.cons hx V; clear hx
      refine it_seq R.hd I (.inl (Rs.h0 V)) ?_; clear I; intro it s X
      refine CompK.map kk.parts partD (fun p => partD (i :: p.1, p.2)) (X _) rfl (by rw [List.length_map, parts_len]; omega) (fun C x v g' s' m cm rest hx hs hv I => ?_) fun g hs y g s hs' hx I => ?_
      · intro cenv
        clear HB
        have HB := Sub.refl g'
        replace hb := Sub.trans hb hs; replace V := Rs.mono V hs; replace L0 := L0.mono hs; clear hs
        replace V := Rs.cons hv V
        rw [partD, pathD] at V
        have hxl := parts_dep _ hkk' _ hx
        refine as_pair R.hd I (Rs.h0 V) rfl rfl rfl ?_; clear I; intro s x y I hx hy; replace V := Rs.cons hx V; clear hx; replace V := Rs.cons hy V; clear hy; (with_reducible refine wpAny_assign_Name ?_); refine st_local (i := 0) I rfl rfl rfl ?_; clear I; intro s I; (with_reducible refine wpAny_assign_Name ?_); refine st_local (i := 0) I rfl rfl rfl ?_; clear I; intro s I; (with_reducible refine Tuple_ ?_); refine args_cons ?_; (with_reducible refine wpAny_BinOp ?_); (with_reducible refine Tuple_ ?_); refine args_cons ?_; refine n_cell (i := 3) I rfl rfl rfl rfl rfl ?_; (with_reducible refine args_nil ?_); refine d_tuple I (.cons Rd.int .nil) (by first | exact kdl ‹_› | exact kdm ‹_› | exact Nat.le_of_ble_eq_true rfl | exact mdl ‹_› rfl | exact mdm ‹_› rfl | (simp only [List.length_cons, List.length_nil, List.length_map, List.length_append, List.length_take, List.length_drop]; omega)) ?_; clear I; intro g s v hs I hx; replace hb := Sub.trans hb hs; replace V := Rs.mono V hs; replace L0 := L0.mono hs; replace HB := Sub.trans HB hs; clear hs; replace V := Rs.cons hx V; clear hx; refine n_local (i := 0) I rfl rfl rfl (by rfl) rfl ?_; refine o_add_tup I (Rs.h0 V) (Rs.h2 V) (by first | exact kdl ‹_› | exact kdm ‹_› | exact Nat.le_of_ble_eq_true rfl | exact mdl ‹_› rfl | exact mdm ‹_› rfl | (simp only [List.length_cons, List.length_nil, List.length_map, List.length_append, List.length_take, List.length_drop]; omega)) ?_; clear I; intro g s v hs I hx; replace hb := Sub.trans hb hs; replace V := Rs.mono V hs; replace L0 := L0.mono hs; replace HB := Sub.trans HB hs; clear hs; replace V := Rs.cons hx V; clear hx; refine args_cons ?_; refine n_local (i := 0) I rfl rfl rfl (by rfl) rfl ?_; (with_reducible refine args_nil ?_); refine d_tuple I (.cons (Rs.h0 V) (.cons (Rs.h2 V) .nil)) (by first | exact kdl ‹_› | exact kdm ‹_› | exact Nat.le_of_ble_eq_true rfl | exact mdl ‹_› rfl | exact mdm ‹_› rfl | (simp only [List.length_cons, List.length_nil, List.length_map, List.length_append, List.length_take, List.length_drop]; omega)) ?_; clear I; intro g s v hs I hx; replace hb := Sub.trans hb hs; replace V := Rs.mono V hs; replace L0 := L0.mono hs; replace HB := Sub.trans HB hs; clear hs; replace V := Rs.cons hx V; clear hx
        exact ⟨g, _, fun zz => none, HB, I, Rs.h0 V⟩
      · replace hs := Sub.trans hs hs'
        replace hb := Sub.trans hb hs; replace V := Rs.mono V hs; replace L0 := L0.mono hs; replace HB := Sub.trans HB hs; clear hs
        (with_reducible refine args_nil ?_)
        have hvl := L0.length
        have hpl := partsL_len 0 (ks.take i)
        refine b_extend_lst (i := 0) I rfl hx ?_ ?_
        · have h5 := congrArg List.length (show ks = ks.take i ++ ks.drop i from (List.take_append_drop i ks).symm)
          rw [List.length_map, List.length_cons] at hvl
          have h6 := partsL_len 0 ks
          have h7 : (Tm.partsL 0 (ks.take i)).length ≤ (Tm.partsL 0 ks).length := by
            rw [partsL_len, partsL_len]; exact sizeL_take ks i
          rw [Tm.size] at hsz
          rw [List.length_map, parts_len]
          omega
        clear I; intro s ws hr I
        (with_reducible refine opq (by assumption) ?_); (with_reducible refine wpAny_execs_nil ?_); (with_reducible refine opq (by assumption) ?_)
        refine ⟨_, (fa, listP _) :: nsc L _ _, HB, I, _, _, _, rfl, H1, ?_⟩
        rw [partsL_take hkk, ← List.cons_append, List.map_append, List.map_map]
        exact L0.append hr
    · obtain ⟨m, c, vs, rfl, H1, L0⟩ := hK
      exact ⟨m, c, vs, rfl, H1, L0.mono hs⟩
    · obtain ⟨m, c, vs, rfl, H1, L0⟩ := hK
      (with_reducible refine opq (by assumption) ?_); (with_reducible refine execs_cons' ?_; intro Qk hQ); (with_reducible refine wpAny_Return_some ?_); refine n_local (i := 1) I rfl rfl rfl H1 rfl ?_; (with_reducible refine opq (by assumption) ?_); (with_reducible refine opq (by assumption) ?_)
      obtain ⟨g2, hs2, hr, I2⟩ := I.frzLst hfa L0
      refine ⟨_, _, I2, ?_⟩
      rw [List.length_zipIdx, List.take_of_length_le (Nat.le_refl _)] at hr
      rw [Tm.parts]
      exact hr
end

end Mine
end

section
open PySem PySem.W PyProof.Rows PySem.Calls
set_option tactic.hygienic false
set_option linter.all false
set_option maxRecDepth 100000
set_option maxHeartbeats 2000000
namespace Mine
section
variable {prog : Program} {w : World} {A : Around} {g h₀ : Heap} {mg mb : Str → Option Value} {F : Nat → Addr} {v : Value}

theorem marksL_snoc : ∀ (a : List Tm) (x : Tm) (f : List Str), marksL (a ++ [x]) f = marksL a f ++ (marks x).filter fun m => !(marksL a f).contains m
  | [], x, f => by simp [marksL]
  | y :: a, x, f => by rw [List.cons_append, marksL, marksL, marksL_snoc a x]
theorem marksL_take {ks : List Tm} {i : Nat} {x : Tm} (h : ks[i]? = some x) : marksL (ks.take (i + 1)) [] = marksL (ks.take i) [] ++ (marks x).filter fun m => !(marksL (ks.take i) []).contains m := by
  have e : ks.take (i + 1) = ks.take i ++ [x] := by rw [List.take_add_one, h]; rfl
  rw [e, marksL_snoc]
mutual
theorem marks_ok : ∀ {n : Nat} (t : Tm), Ok n t → ∀ m ∈ marks t, PyData.strOk m = true
  | 0, _, h => h.elim
  | n + 1, .mk op ks, h => by
    intro m hm
    rw [marks] at hm
    split at hm
    · rw [List.mem_singleton.mp hm]; exact h.2.1
    · exact marksL_ok ks [] h.2.2.2 (fun zz h => nomatch h) m hm
theorem marksL_ok : ∀ {n : Nat} (ks : List Tm) (f : List Str), (∀ k ∈ ks, Ok n k) → (∀ m ∈ f, PyData.strOk m = true) → ∀ m ∈ marksL ks f, PyData.strOk m = true
  | _, [], f, _, hf, m, hm => hf m hm
  | n, t :: r, f, h, hf, m, hm => by
    rw [marksL] at hm
    refine marksL_ok r _ (fun k hk => h k (.tail _ hk)) (fun m hm => ?_) m hm
    rcases List.mem_append.mp hm with hm | hm
    · exact hf m hm
    · exact marks_ok t (h t (.head _)) m ((List.mem_filter.mp hm).1)
end
mutual
theorem marks_len : ∀ (t : Tm), (marks t).length ≤ t.size
  | .mk op ks => by
    rw [marks, Tm.size]
    split
    · simp
    · have := marksL_len ks []
      simp at this; omega
theorem marksL_len : ∀ (ks : List Tm) (f : List Str), (marksL ks f).length ≤ f.length + Tm.sizeL ks
  | [], f => by simp [marksL]
  | t :: r, f => by
    rw [marksL, Tm.sizeL]
    have h1 := marksL_len r (f ++ (marks t).filter fun m => !f.contains m)
    have h2 := marks_len t
    have h3 : ((marks t).filter fun m => !f.contains m).length ≤ (marks t).length := List.length_filter_le ..
    rw [List.length_append] at h1
    omega
end

theorem any_eqv_str (m : Str) : ∀ l : List Str, ((l.map PyData.str).any fun y => PyData.eqv y (.str m)) = l.contains m
  | [] => rfl
  | x :: r => by
    rw [List.map_cons, List.any_cons, any_eqv_str m r, List.contains_cons]
    congr 1
    show (x == m) = (m == x)
    exact Bool.beq_comm ..

theorem w_marks (W : Wd h₀ mg mb F) : ∀ (n : Nat) {A : Around} {g : Heap} {v : Value} {t : Tm}, n ≤ 10 → Ok n t → Sub h₀ g → Room A (n + 3) → Rd g v t.d →
    Pure prog w A g (F 24) [v] (fun g' r => Rd g' r (.list ((marks t).map .str)))
  | 0, _, _, _, _, _, h, _, _, _ => h.elim
  | n + 1, A, g, v, t, hn, hok, hb, R, hv => by
    have ih := @w_marks W n
    have hln := hok.ln
    have hop := hok.op
    have hsz := size_le hok
    have h2n : 2 ^ (n + 1) ≤ 2 ^ 10 := Nat.pow_le_pow_right (by first | decide | exact lle ‹_› rfl | exact llt ‹_› rfl | exact lll ‹_› rfl | exact llm ‹_› rfl | omega) hn
    have hkid : ∀ k ∈ t.kids, Ok n k := fun k hk => hok.kid hk
    obtain ⟨op, ks⟩ := t
    refine Pure.of W 24 (by decide) hb R [(Str.ofString "t", v)] (fun zz zz zz => rfl) (kindsX rfl) (by decide) rfl rfl rfl (fun s L code s₁ Qk hQ => ?_)
    intro env R I
    have V : Rs g [(v, .tuple (.str op :: ks.map Tm.d)), (v, (Tm.mk op ks).d)] := ⟨Tm.d_mk op ks ▸ hv, hv, trivial⟩
    clear hv
    change ks.length ≤ 2 at hln
    change op.length ≤ 8 at hop
    change ∀ k ∈ ks, Ok n k at hkid
    refine execs_cons' ?_; intro Qk hQ
    (with_reducible refine wpAny_If ?_); refine wpAny_isTrue_Compare1 ?_; (with_reducible refine s_cut ?_); (with_reducible refine Subscript_ ?_); refine n_local (i := 0) I rfl rfl rfl (by rfl) rfl ?_; (with_reducible refine c_int I ?_; clear I; intro s t I); refine i_tup (k := 0) I (Rs.h0 V) rfl (by first | exact kdl ‹_› | exact kdm ‹_› | exact Nat.le_of_ble_eq_true rfl | exact mdl ‹_› rfl | exact mdm ‹_› rfl | (simp only [List.length_cons, List.length_nil, List.length_map, List.length_append, List.length_take, List.length_drop]; omega)) ?_; intro v hx; obtain ⟨t, rfl⟩ := Rd.str_inv hx; clear hx; refine wpAny_evalPart_none ?_; refine wpAny_evalPart_some ?_; (with_reducible refine c_int I ?_; clear I; intro s t I); (with_reducible refine Cut.str I ?_ ?_; (focus omega); clear I; intro s t I); (with_reducible refine c_str I ?_; clear I; intro s t I); (with_reducible refine PyProof.Rows.eq_str ?_); (with_reducible refine wpAny_truthy_bool ?_)
    cases hvv : isV op with
    | true =>
      refine ite_t hvv ?_
      (with_reducible refine execs_cons' ?_; intro Qk hQ); (with_reducible refine wpAny_Return_some ?_); (with_reducible refine List_ ?_); refine args_cons ?_; (with_reducible refine Subscript_ ?_); refine n_local (i := 0) I rfl rfl rfl (by rfl) rfl ?_; (with_reducible refine c_int I ?_; clear I; intro s t I); refine i_tup (k := 0) I (Rs.h0 V) rfl (by first | exact kdl ‹_› | exact kdm ‹_› | exact Nat.le_of_ble_eq_true rfl | exact mdl ‹_› rfl | exact mdm ‹_› rfl | (simp only [List.length_cons, List.length_nil, List.length_map, List.length_append, List.length_take, List.length_drop]; omega)) ?_; intro v hx; obtain ⟨t, rfl⟩ := Rd.str_inv hx; clear hx; (with_reducible refine args_nil ?_)
      refine d_list I (.cons .str .nil) (by simp) ?_
      clear I; intro g s v hs I hx
      (with_reducible refine opq (by assumption) ?_); (with_reducible refine opq (by assumption) ?_); (with_reducible refine opq (by assumption) ?_)
      refine ⟨_, _, I, ?_⟩
      rw [marks, hvv]; exact hx
    | false =>
      refine ite_f (by rw [show (Txt.slice op none (some 1) == Str.ofString "?") = false from hvv]; decide) ?_
      (with_reducible refine wpAny_execs_nil ?_); (with_reducible refine opq (by assumption) ?_); (with_reducible refine execs_cons' ?_; intro Qk hQ); refine wpAny_Assign_Name ?_; (with_reducible refine List_ ?_); (with_reducible refine args_nil ?_)
      refine d_own I (by simp) ?_; clear I; intro s fa hfa I
      have L0 : Rds g [] [] := .nil
      refine st_cell (i := 2) I rfl rfl rfl rfl ?_; clear I; intro s I; (with_reducible refine opq (by assumption) ?_); (with_reducible refine execs_cons' ?_; intro Qk hQ); refine x_for I (fun zz => rfl) ?_; (with_reducible refine s_cut ?_); refine n_local (i := 1) I rfl rfl rfl (by rfl) rfl ?_; refine wpAny_evalPart_some ?_; (with_reducible refine c_int I ?_; clear I; intro s t I); refine wpAny_evalPart_none ?_; refine cut_tup_from (a := 1) I (Rs.h0 V) (by first | exact kdl ‹_› | exact kdm ‹_› | exact Nat.le_of_ble_eq_true rfl | exact mdl ‹_› rfl | exact mdm ‹_› rfl | (simp only [List.length_cons, List.length_nil, List.length_map, List.length_append, List.length_take, List.length_drop]; omega)) ?_; clear I; intro g s v hs I hx; replace hb := Sub.trans hb hs; replace V := Rs.mono V hs; replace L0 := L0.mono hs; clear hs; replace V := Rs.cons hx V; clear hx; refine it_seq R.hd I (.inr (Rs.h0 V)) ?_; clear I; intro it s X
      refine ForK.of ks Tm.d (fun i g' μ' => ∃ m vs, μ' = [(fa, listP vs), (L, nsP m), (L + 1, cellP (some (.ref fa)))] ∧ Rds g' vs ((marksL (ks.take i) []).map .str))
        (X _) rfl ⟨_, _, rfl, L0⟩ (fun i x v g' μ' s' rest hx hs hv hK I Qk hQ => ?_) (fun i g' g'' μ' hs hK => ?_) (fun g' μ' s hs hK I => ?_)
      · obtain ⟨m, vs, rfl, L0⟩ := hK
        replace hb := hb.trans hs
        clear hs V
        have HB := Sub.refl g'
        have V : Rs g' [(v, x.d)] := ⟨hv, trivial⟩
        clear hv
        have hxm := List.mem_of_getElem? hx
        have hkk' := hkid x hxm
        have hsk := size_le hkk'
        have hml := marks_len x
        have h2 : 2 ^ n ≤ 2 ^ 10 := Nat.pow_le_pow_right (by first | decide | exact lle ‹_› rfl | exact llt ‹_› rfl | exact lll ‹_› rfl | exact llm ‹_› rfl | omega) (by first | decide | exact lle ‹_› rfl | exact llt ‹_› rfl | exact lll ‹_› rfl | exact llm ‹_› rfl | omega)
        have htk := marksL_ok (ks.take i) [] (fun k hk => hkid k (List.mem_of_mem_take hk)) (fun zz h => nomatch h)
        (with_reducible refine wpAny_assign_Name ?_); refine st_local (i := 1) I rfl rfl rfl ?_; clear I; intro s I; (with_reducible refine execs_cons' ?_; intro Qk hQ); refine wpAny_Expr_any ?_; refine MethodCall_ ?_; refine n_cell (i := 2) I rfl rfl rfl rfl rfl ?_; refine lm_method (i := 0) I rfl PySem.F.slot_list_extend PySem.F.type_list_extend ?_; refine PyProof.Rows.callWith_method1 ?_; refine args_cons ?_; refine x_comp I rfl rfl (by decide) (fun zz => rfl) ?_; refine x_def W hb I rfl rfl rfl rfl rfl rfl ?_; refine args_cons ?_; refine n_local (i := 1) I rfl rfl rfl (by rfl) rfl ?_; (with_reducible refine args_nil ?_)
        refine ⟨hb.trans I.own.sub, ?_⟩
        refine (ih (by first | decide | exact lle ‹_› rfl | exact llt ‹_› rfl | exact lll ‹_› rfl | exact llm ‹_› rfl | omega) hkk' hb R.dn (Rs.h0 V)).use I ?_; clear I; intro g s r hs I hx'
        replace hb := Sub.trans hb hs; replace V := Rs.mono V hs; replace L0 := L0.mono hs; replace HB := Sub.trans HB hs; clear hs
        replace V := Rs.cons hx' V
        refine it_seq R.hd I (.inl (Rs.h0 V)) ?_; clear I; intro it s X
        refine CompK.opt (marks x) .str (fun m => if (!(marksL (ks.take i) []).contains m) = true then some (.str m) else none) (X _) rfl (by rw [List.length_map]; first | exact lle ‹_› rfl | exact llt ‹_› rfl | omega) (fun C y v g' s' m cm rest hy hs hv I => ?_) fun g hs y g s hs' hx' I => ?_
        · intro cenv
          clear HB
          have HB := Sub.refl g'
          replace hb := Sub.trans hb hs; replace V := Rs.mono V hs; replace L0 := L0.mono hs; clear hs
          obtain ⟨ty, rfl⟩ := Rd.str_inv hv
          (with_reducible refine wpAny_assign_Name ?_); refine st_local (i := 0) I rfl rfl rfl ?_; clear I; intro s I; (with_reducible refine tests_one ?_); refine wpAny_isTrue_Compare1 ?_; refine n_local (i := 0) I rfl rfl rfl (by rfl) rfl ?_; refine n_cell (i := 3) I rfl rfl rfl rfl rfl ?_
          refine own_notin (i := 1) I .str rfl L0 (marks_ok x hkk' y hy) (canLayAll_mem fun z hz => ?_) (Nat.zero_le _) R ?_
          · obtain ⟨w, hw, rfl⟩ := List.mem_map.mp hz
            exact htk w hw
          rw [any_eqv_str]
          (with_reducible refine wpAny_truthy_bool ?_)
          cases hc : (marksL (ks.take i) []).contains y with
          | false =>
            refine ite_t rfl ?_
            refine n_local (i := 0) I rfl rfl rfl (by rfl) rfl ?_
            exact ⟨_, _, fun zz => none, _, HB, I, .str, by simp⟩
          | true =>
            refine ite_f (by decide) ?_
            exact ⟨_, _, fun zz => none, HB, I, by simp⟩
        · replace hs := Sub.trans hs hs'
          replace hb := Sub.trans hb hs; replace V := Rs.mono V hs; replace L0 := L0.mono hs; replace HB := Sub.trans HB hs; clear hs
          (with_reducible refine args_nil ?_)
          have hvl := L0.length
          have e : (marks x).filterMap (fun m => if (!(marksL (ks.take i) []).contains m) = true then some (PyData.str m) else none) = ((marks x).filter fun m => !(marksL (ks.take i) []).contains m).map .str := by
            rw [← List.filterMap_eq_map, List.filterMap_filter]; rfl
          rw [e] at hx'
          refine b_extend_lst (i := 0) I rfl hx' ?_ ?_
          · have h5 := marksL_len (ks.take i) []
            have h6 := sizeL_take ks i
            have h7 := List.length_filter_le (fun m => !(marksL (ks.take i) []).contains m) (marks x)
            rw [List.length_map] at hvl ⊢
            rw [Tm.size] at hsz
            simp only [List.length_nil] at h5
            omega
          clear I; intro s ws hr I
          (with_reducible refine opq (by assumption) ?_); (with_reducible refine wpAny_execs_nil ?_); (with_reducible refine opq (by assumption) ?_)
          refine ⟨_, [(fa, listP _), (L, nsP _), (L + 1, cellP _)], HB, I, _, _, rfl, ?_⟩
          rw [marksL_take hx, List.map_append]
          exact L0.append hr
      · obtain ⟨m, vs, rfl, L0⟩ := hK
        exact ⟨m, vs, rfl, L0.mono hs⟩
      · obtain ⟨m, vs, rfl, L0⟩ := hK
        (with_reducible refine opq (by assumption) ?_); (with_reducible refine execs_cons' ?_; intro Qk hQ); (with_reducible refine wpAny_Return_some ?_); refine n_cell (i := 2) I rfl rfl rfl rfl rfl ?_; (with_reducible refine opq (by assumption) ?_); (with_reducible refine opq (by assumption) ?_)
        obtain ⟨g2, hs2, hr, I2⟩ := I.frzLst hfa L0
        refine ⟨_, _, I2, ?_⟩
        rw [List.take_of_length_le (Nat.le_refl _)] at hr
        rw [marks, hvv]
        exact hr
end

end Mine
end

section
open PySem PySem.W PyProof.Rows PySem.Calls
set_option tactic.hygienic false
set_option linter.all false
set_option maxRecDepth 100000
set_option maxHeartbeats 2000000
namespace Mine
section
variable {prog : Program} {w : World} {A : Around} {g h₀ : Heap} {mg mb : Str → Option Value} {F : Nat → Addr} {v : Value}

noncomputable section
open scoped Classical
theorem fitsL_snoc : ∀ (ws ns : List Tm) (w n : Tm) (b : Bd), ws.length = ns.length → fitsL (ws ++ [w]) (ns ++ [n]) b = ((fitsL ws ns b).1 && (fits w n (fitsL ws ns b).2).1, (fits w n (fitsL ws ns b).2).2)
  | [], [], w, n, b, _ => by simp [fitsL]
  | [], _ :: _, _, _, _, h => by simp at h
  | _ :: _, [], _, _, _, h => by simp at h
  | x :: ws, y :: ns, w, n, b, h => by
    rw [List.cons_append, List.cons_append, fitsL, fitsL, fitsL_snoc ws ns w n _ (by simpa using h)]
    simp [Bool.and_assoc]
theorem fits_mk (o : Str) (ks : List Tm) (n : Tm) (b : Bd) : fits (.mk o ks) n b = if isV o = true then (match b.lookup o with
      | some u => (decide (u = n), b)
      | none => (true, b ++ [(o, n)]))
    else if o ≠ n.op ∨ ks.length ≠ n.kids.length then (false, b) else fitsL ks n.kids b := by rw [fits] <;> rfl
theorem lookup_mem {o : Str} {u : Tm} : ∀ {b : Bd}, b.lookup o = some u → (o, u) ∈ b
  | [], h => by simp at h
  | (k, t) :: r, h => by
    rw [List.lookup_cons] at h
    cases e : o == k with
    | true => rw [e] at h; simp at h; rw [eq_of_beq e, h]; exact .head _
    | false => rw [e] at h; exact .tail _ (lookup_mem h)
mutual
theorem fits_ok {N : Nat} : ∀ (w n : Tm) (b : Bd), Ok N n → (∀ p ∈ b, Ok N p.2) → ∀ p ∈ (fits w n b).2, Ok N p.2
  | .mk o ks, n, b, hn, hb => by
    intro p hp
    rw [fits_mk] at hp
    split at hp
    · split at hp
      · exact hb p hp
      · rcases List.mem_append.mp hp with hp | hp
        · exact hb p hp
        · rw [List.mem_singleton.mp hp]; exact hn
    · split at hp
      · exact hb p hp
      · exact fitsL_ok ks n.kids b (fun k hk => by
          cases N with
          | zero => exact hn.elim
          | succ N => exact (hn.kid hk).mono (by first | decide | exact lle ‹_› rfl | exact llt ‹_› rfl | exact lll ‹_› rfl | exact llm ‹_› rfl | omega)) hb p hp
theorem fitsL_ok {N : Nat} : ∀ (ws ns : List Tm) (b : Bd), (∀ n ∈ ns, Ok N n) → (∀ p ∈ b, Ok N p.2) → ∀ p ∈ (fitsL ws ns b).2, Ok N p.2
  | [], ns, b, _, hb => by cases ns <;> simpa [fitsL] using hb
  | _ :: _, [], b, _, hb => by simpa [fitsL] using hb
  | w :: ws, n :: ns, b, hn, hb => by
    rw [fitsL]
    exact fitsL_ok ws ns _ (fun k hk => hn k (.tail _ hk)) (fits_ok w n b (hn n (.head _)) hb)
end
mutual
theorem fits_len : ∀ (w n : Tm) (b : Bd), (fits w n b).2.length ≤ b.length + w.size
  | .mk o ks, n, b => by
    rw [fits_mk, Tm.size]
    split
    · split
      · simp
      · simp
    · split
      · simp
      · have := fitsL_len ks n.kids b; omega
theorem fitsL_len : ∀ (ws ns : List Tm) (b : Bd), (fitsL ws ns b).2.length ≤ b.length + Tm.sizeL ws
  | [], ns, b => by cases ns <;> simp [fitsL]
  | _ :: _, [], b => by simp [fitsL]
  | w :: ws, n :: ns, b => by
    rw [fitsL, Tm.sizeL]
    have h1 := fits_len w n b
    have h2 := fitsL_len ws ns (fits w n b).2
    show (fitsL ws ns (fits w n b).2).2.length ≤ _
    omega
end
end

theorem sizeL_app : ∀ (a b : List Tm), Tm.sizeL (a ++ b) = Tm.sizeL a + Tm.sizeL b
  | [], b => by simp [Tm.sizeL]
  | t :: a, b => by rw [List.cons_append, Tm.sizeL, Tm.sizeL, sizeL_app a b]; omega
theorem sizeL_take1 {ks : List Tm} {i : Nat} {w : Tm} (h : ks[i]? = some w) : Tm.sizeL (ks.take (i + 1)) = Tm.sizeL (ks.take i) + w.size := by
  have e : ks.take (i + 1) = ks.take i ++ [w] := by rw [List.take_add_one, h]; rfl
  rw [e, sizeL_app, Tm.sizeL, Tm.sizeL]; omega

theorem any_false (rs : List Bool) : (!(rs.map PyData.bool).any fun y => PyData.eqv y (.bool false)) = rs.all id := by
  induction rs with
  | nil => rfl
  | cons r rs ih =>
    rw [List.map_cons, List.any_cons, Bool.not_or, ih, List.all_cons]
    cases r <;> rfl

theorem w_fits (W : Wd h₀ mg mb F) {N : Nat} (hN : N ≤ 10) {bd : Addr} : ∀ (n : Nat) {A : Around} {g : Heap} {vw vn : Value} {p t : Tm} {b : Bd} {kvs : List (Str × Value)}, n ≤ 10 → Ok n p → Ok N t → Sub h₀ g → Room A (n + 3) → Rd g vw p.d → Rd g vn t.d →
    BRd g kvs b → b.length + p.size ≤ 100000 → (∀ q ∈ b, Ok N q.2) →
    Eff1 prog w A g (F 23) [vw, vn, .ref bd] bd (dP (strKind prog w) bd kvs) (fun g' P' r => ∃ kvs', P' = dP (strKind prog w) bd kvs' ∧ BRd g' kvs' (fits p t b).2 ∧ r = .bool (fits p t b).1)
  | 0, _, _, _, _, _, _, _, _, _, h, _, _, _, _, _, _, _, _ => h.elim
  | n + 1, A, g, vw, vn, p, t, b, kvs, hn, hok, hokt, hb, R, hv, hvn, L0, hbl, hbo => by
    have ih := @w_fits W N hN bd n
    have hln := hok.ln
    have hop := hok.op
    have hlnt := hokt.ln
    have hopt := hokt.op
    have hsz := size_le hok
    have h2n : 2 ^ (n + 1) ≤ 2 ^ 10 := Nat.pow_le_pow_right (by decide) hn
    have hkid : ∀ k ∈ p.kids, Ok n k := fun k hk => hok.kid hk
    obtain ⟨op, ks⟩ := p
    obtain ⟨opt, kt⟩ := t
    have hkidt : ∀ k ∈ kt, Ok N k := fun k hk => by
      cases N with
      | zero => exact hokt.elim
      | succ N => exact (hokt.kid hk).mono (Nat.le_succ N)
    refine Eff1.of W 23 (by decide) hb R [(Str.ofString "wide", vw), (Str.ofString "narrow", vn), (Str.ofString "bound", .ref bd)] (fun zz zz zz => rfl) (kindsX rfl) (by decide) rfl rfl rfl (fun s L code s₁ Qk hQ => ?_)
    intro env R I
    have V : Rs g [(vw, .tuple (.str op :: ks.map Tm.d)), (vn, .tuple (.str opt :: kt.map Tm.d)), (vw, (Tm.mk op ks).d), (vn, (Tm.mk opt kt).d)] := ⟨Tm.d_mk op ks ▸ hv, Tm.d_mk opt kt ▸ hvn, hv, hvn, trivial⟩
    clear hv hvn
    change ks.length ≤ 2 at hln
    change op.length ≤ 8 at hop
    change ∀ k ∈ ks, Ok n k at hkid
    change kt.length ≤ 2 at hlnt
    change opt.length ≤ 8 at hopt
    refine execs_cons' ?_; intro Qk hQ
    (with_reducible refine wpAny_If ?_); refine wpAny_isTrue_Compare1 ?_; (with_reducible refine s_cut ?_); (with_reducible refine Subscript_ ?_); refine n_local (i := 0) I rfl rfl rfl (by rfl) rfl ?_; (with_reducible refine c_int I ?_; clear I; intro s t I); refine i_tup (k := 0) I (Rs.h0 V) rfl (by first | exact kdl ‹_› | exact kdm ‹_› | exact Nat.le_of_ble_eq_true rfl | exact mdl ‹_› rfl | exact mdm ‹_› rfl | (simp only [List.length_cons, List.length_nil, List.length_map, List.length_append, List.length_take, List.length_drop]; omega)) ?_; intro v hx; obtain ⟨t, rfl⟩ := Rd.str_inv hx; clear hx; refine wpAny_evalPart_none ?_; refine wpAny_evalPart_some ?_; (with_reducible refine c_int I ?_; clear I; intro s t I); (with_reducible refine Cut.str I ?_ ?_; (focus omega); clear I; intro s t I); (with_reducible refine c_str I ?_; clear I; intro s t I); (with_reducible refine PyProof.Rows.eq_str ?_); (with_reducible refine wpAny_truthy_bool ?_)
    have hkl := L0.len
    cases hvv : isV op with
    | true =>
      refine ite_t hvv ?_
      (with_reducible refine execs_cons' ?_; intro Qk hQ); (with_reducible refine wpAny_Return_some ?_); refine wpAny_Compare1 ?_; refine MethodCall_ ?_; refine n_cell (i := 1) I rfl rfl rfl rfl rfl ?_; refine dd_method PySem.F.slot_dict_setdefault PySem.F.type_dict_setdefault (I.dat (i := 2) rfl) ?_; refine PyProof.Rows.callWith_method1 ?_; refine args_cons ?_; (with_reducible refine Subscript_ ?_); refine n_local (i := 0) I rfl rfl rfl (by rfl) rfl ?_; (with_reducible refine c_int I ?_; clear I; intro s t I); refine i_tup (k := 0) I (Rs.h0 V) rfl (by first | exact kdl ‹_› | exact kdm ‹_› | exact Nat.le_of_ble_eq_true rfl | exact mdl ‹_› rfl | exact mdm ‹_› rfl | (simp only [List.length_cons, List.length_nil, List.length_map, List.length_append, List.length_take, List.length_drop]; omega)) ?_; intro v hx; obtain ⟨t, rfl⟩ := Rd.str_inv hx; clear hx; refine args_cons ?_; refine n_local (i := 0) I rfl rfl rfl (by rfl) rfl ?_; (with_reducible refine args_nil ?_)
      refine dd_setdef (i := 2) I rfl (strKind_is _ _ _ _) (PySem.F.args_dict_setdefault_3 _ _ _) (Nat.le_trans (Nat.le_of_eq hkl) (Nat.le_trans (Nat.le_trans (Nat.le_add_right _ _) hbl) (by decide))) ?_ ?_
      · intro s v0 hv0 I
        rcases L0.look (x := op) with ⟨h1, h2⟩ | ⟨u, tt, h1, h2, h3⟩
        · rw [h1] at hv0; cases hv0
        rw [h1] at hv0; cases hv0
        have hokk := hbo (op, tt) (lookup_mem h2)
        refine n_local (i := 0) I rfl rfl rfl (by rfl) rfl ?_
        refine k_eq I h3 (Rs.h3 V) hokk.lay hokt.lay (Nat.le_trans hokk.dep (Nat.le_trans hN (by decide))) R ?_
        (with_reducible refine opq (by assumption) ?_); (with_reducible refine opq (by assumption) ?_); (with_reducible refine opq (by assumption) ?_)
        refine ⟨_, _, 2, _, I, rfl, kvs, rfl, ?_, ?_⟩
        · rw [fits_mk, if_pos hvv, h2]; exact L0
        · rw [fits_mk, if_pos hvv, h2, Tm.eqv_d]; rfl
      · intro s hv0 I
        rcases L0.look (x := op) with ⟨h1, h2⟩ | ⟨u, tt, h1, h2, h3⟩
        · refine n_local (i := 0) I rfl rfl rfl (by rfl) rfl ?_
          refine k_eq I (Rs.h3 V) (Rs.h3 V) hokt.lay hokt.lay (Nat.le_trans hokt.dep (Nat.le_trans hN (by decide))) R ?_
          (with_reducible refine opq (by assumption) ?_); (with_reducible refine opq (by assumption) ?_); (with_reducible refine opq (by assumption) ?_)
          refine ⟨_, _, 2, _, I, rfl, _, rfl, ?_, ?_⟩
          · rw [fits_mk, if_pos hvv, h2]; exact L0.put h1 (Rs.h3 V)
          · rw [fits_mk, if_pos hvv, h2, Tm.eqv_d]; simp [retv]
        · rw [h1] at hv0; cases hv0
    | false =>
      refine ite_f (by rw [show (Txt.slice op none (some 1) == Str.ofString "?") = false from hvv]; decide) ?_
      (with_reducible refine wpAny_execs_nil ?_); (with_reducible refine opq (by assumption) ?_); (with_reducible refine execs_cons' ?_; intro Qk hQ); (with_reducible refine wpAny_If ?_); (with_reducible refine isTrue_or ?_); refine wpAny_isTrue_Compare1 ?_; (with_reducible refine Subscript_ ?_); refine n_local (i := 0) I rfl rfl rfl (by rfl) rfl ?_; (with_reducible refine c_int I ?_; clear I; intro s t I); refine i_tup (k := 0) I (Rs.h0 V) rfl (by first | exact kdl ‹_› | exact kdm ‹_› | exact Nat.le_of_ble_eq_true rfl | exact mdl ‹_› rfl | exact mdm ‹_› rfl | (simp only [List.length_cons, List.length_nil, List.length_map, List.length_append, List.length_take, List.length_drop]; omega)) ?_; intro v hx; obtain ⟨t, rfl⟩ := Rd.str_inv hx; clear hx; (with_reducible refine Subscript_ ?_); refine n_local (i := 0) I rfl rfl rfl (by rfl) rfl ?_; (with_reducible refine c_int I ?_; clear I; intro s t I); refine i_tup (k := 0) I (Rs.h1 V) rfl (by first | exact kdl ‹_› | exact kdm ‹_› | exact Nat.le_of_ble_eq_true rfl | exact mdl ‹_› rfl | exact mdm ‹_› rfl | (simp only [List.length_cons, List.length_nil, List.length_map, List.length_append, List.length_take, List.length_drop]; omega)) ?_; intro v hx; obtain ⟨t, rfl⟩ := Rd.str_inv hx; clear hx; (with_reducible refine PyProof.Rows.ne_str ?_); (with_reducible refine wpAny_truthy_bool ?_)
      have hng : ¬ isV op = true := by rw [hvv]; decide
      by_cases hoo : op = opt
      · subst hoo
        refine ite_f (by simp) ?_
        (with_reducible refine isTrue_or ?_); refine wpAny_isTrue_Compare1 ?_; refine x_bi W hb I (by decide) (by boot_by_name) rfl rfl rfl rfl (by decide) rfl rfl rfl ?_; refine args_cons ?_; refine n_local (i := 0) I rfl rfl rfl (by rfl) rfl ?_; (with_reducible refine args_nil ?_); refine b_len_tup I (Rs.h0 V) (by first | exact kdl ‹_› | exact kdm ‹_› | exact Nat.le_of_ble_eq_true rfl | exact mdl ‹_› rfl | exact mdm ‹_› rfl | (simp only [List.length_cons, List.length_nil, List.length_map, List.length_append, List.length_take, List.length_drop]; omega)) ?_; clear I; intro s t I; refine x_bi W hb I (by decide) (by boot_by_name) rfl rfl rfl rfl (by decide) rfl rfl rfl ?_; refine args_cons ?_; refine n_local (i := 0) I rfl rfl rfl (by rfl) rfl ?_; (with_reducible refine args_nil ?_); refine b_len_tup I (Rs.h1 V) (by first | exact kdl ‹_› | exact kdm ‹_› | exact Nat.le_of_ble_eq_true rfl | exact mdl ‹_› rfl | exact mdm ‹_› rfl | (simp only [List.length_cons, List.length_nil, List.length_map, List.length_append, List.length_take, List.length_drop]; omega)) ?_; clear I; intro s t I; (with_reducible refine PyProof.Rows.ne_int ?_); (with_reducible refine wpAny_truthy_bool ?_)
        by_cases hll : ks.length = kt.length
        · refine ite_f (by simp [hll]) ?_
          (with_reducible refine isTrue_or_nil ?_)
          refine ite_f (by decide) ?_
          (with_reducible refine wpAny_execs_nil ?_); (with_reducible refine opq (by assumption) ?_); (with_reducible refine execs_cons' ?_; intro Qk hQ); (with_reducible refine wpAny_Return_some ?_); refine wpAny_Compare1 ?_; (with_reducible refine c_bool ?_); refine x_comp I rfl rfl (by decide) (fun zz => rfl) ?_; refine x_ty W hb I (by decide) (by boot_by_name) rfl rfl rfl rfl (by decide) rfl rfl rfl ?_; refine args_cons ?_; (with_reducible refine s_cut ?_); refine n_local (i := 0) I rfl rfl rfl (by rfl) rfl ?_; refine wpAny_evalPart_some ?_; (with_reducible refine c_int I ?_; clear I; intro s t I); refine wpAny_evalPart_none ?_; refine cut_tup_from (a := 1) I (Rs.h0 V) (by first | exact kdl ‹_› | exact kdm ‹_› | exact Nat.le_of_ble_eq_true rfl | exact mdl ‹_› rfl | exact mdm ‹_› rfl | (simp only [List.length_cons, List.length_nil, List.length_map, List.length_append, List.length_take, List.length_drop]; omega)) ?_; clear I; intro g s v hs I hx; replace hb := Sub.trans hb hs; replace V := Rs.mono V hs; replace L0 := L0.mono hs; clear hs; replace V := Rs.cons hx V; clear hx; refine args_cons ?_; (with_reducible refine s_cut ?_); refine n_local (i := 0) I rfl rfl rfl (by rfl) rfl ?_; refine wpAny_evalPart_some ?_; (with_reducible refine c_int I ?_; clear I; intro s t I); refine wpAny_evalPart_none ?_; refine cut_tup_from (a := 1) I (Rs.h2 V) (by first | exact kdl ‹_› | exact kdm ‹_› | exact Nat.le_of_ble_eq_true rfl | exact mdl ‹_› rfl | exact mdm ‹_› rfl | (simp only [List.length_cons, List.length_nil, List.length_map, List.length_append, List.length_take, List.length_drop]; omega)) ?_; clear I; intro g s v hs I hx; replace hb := Sub.trans hb hs; replace V := Rs.mono V hs; replace L0 := L0.mono hs; clear hs; replace V := Rs.cons hx V; clear hx; (with_reducible refine args_nil ?_); refine it_zip_tup R.hd I (Rs.h1 V) (Rs.h0 V) (by show (ks.map Tm.d).length ≤ (kt.map Tm.d).length; rw [List.length_map, List.length_map]; exact Nat.le_of_eq hll) ?_; clear I; intro g it s hs X; replace hb := Sub.trans hb hs; replace V := Rs.mono V hs; replace L0 := L0.mono hs; clear hs
          refine CompK.st (ks.zip kt) (fun p => .tuple [p.1.d, p.2.d]) (fun i ds g' μ' => ∃ m kvs' rs, μ' = [(L, nsP m), (L + 1, cellP (some (.ref bd))), (bd, dP (strKind prog w) bd kvs')] ∧ BRd g' kvs' (fitsL (ks.take i) (kt.take i) b).2 ∧ ds = rs.map .bool ∧ rs.all id = (fitsL (ks.take i) (kt.take i) b).1)
            (X _ _ _) (by simp [zipD, List.zip_map]) (by simp [zipD]; exact Nat.le_trans (Nat.min_le_left _ _) (Nat.le_trans hln (by decide))) ⟨_, kvs, [], rfl, by simpa [fitsL] using L0, rfl, by simp [fitsL]⟩ (fun C i x v ds g' μ' s' m cm rest hx hs hv hK I => ?_) (fun i ds g' g'' μ' hs hK => ?_) (fun ds g' μ' hs hK y g'' s'' hs' hx I => ?_)
          · intro cenv
            obtain ⟨m1, kvs', rs, rfl, L0, rfl, hrs⟩ := hK
            replace hb := hb.trans hs
            clear hs V
            have HB := Sub.refl g'
            have V : Rs g' [(v, .tuple [x.1.d, x.2.d])] := ⟨hv, trivial⟩
            clear hv
            obtain ⟨w1, n1⟩ := x
            obtain ⟨hw, hn1⟩ := List.getElem?_zip_eq_some.mp hx
            simp only at hw hn1
            have hsx := sizeL_take1 hw
            have hfl := fitsL_len (ks.take i) (kt.take i) b
            have hst := sizeL_take ks (i + 1)
            have hfo := fitsL_ok (ks.take i) (kt.take i) b (fun k hk => hkidt k (List.mem_of_mem_take hk)) hbo
            have e1 : ks.take (i + 1) = ks.take i ++ [w1] := by rw [List.take_add_one, hw]; rfl
            have e2 : kt.take (i + 1) = kt.take i ++ [n1] := by rw [List.take_add_one, hn1]; rfl
            have e3 : (ks.take i).length = (kt.take i).length := by rw [List.length_take, List.length_take, hll]
            rw [Tm.size] at hbl
            refine as_pair R.hd I (Rs.h0 V) rfl rfl rfl ?_; clear I; intro s x y I hx hy; replace V := Rs.cons hx V; clear hx; replace V := Rs.cons hy V; clear hy; (with_reducible refine wpAny_assign_Name ?_); refine st_local (i := 0) I rfl rfl rfl ?_; clear I; intro s I; (with_reducible refine wpAny_assign_Name ?_); refine st_local (i := 0) I rfl rfl rfl ?_; clear I; intro s I; refine x_def W hb I rfl rfl rfl rfl rfl rfl ?_; refine args_cons ?_; refine n_local (i := 0) I rfl rfl rfl (by rfl) rfl ?_; refine args_cons ?_; refine n_local (i := 0) I rfl rfl rfl (by rfl) rfl ?_; refine args_cons ?_; refine n_cell (i := 2) I rfl rfl rfl rfl rfl ?_; (with_reducible refine args_nil ?_)
            refine ⟨hb.trans I.own.sub, ?_⟩
            refine (ih (Nat.le_of_succ_le hn) (hkid w1 (List.mem_of_getElem? hw)) (hkidt n1 (List.mem_of_getElem? hn1)) hb R.dn (Rs.h1 V) (Rs.h0 V) L0 (Nat.le_trans (Nat.add_le_add_right hfl _) (by rw [Nat.add_assoc, ← hsx]; exact Nat.le_trans (Nat.add_le_add_left (Nat.le_trans hst (Nat.le_add_left _ 1)) _) hbl)) hfo).use (i := 3) I rfl ?_
            clear I; intro g s r P' hs I hP
            obtain ⟨kvs2, rfl, L1, rfl⟩ := hP
            refine ⟨g, [(L, nsP _), (L + 1, cellP _), (bd, _)], _, fun zz => none, _, HB.trans hs, I, .bool, _, kvs2, rs ++ [(fits w1 n1 (fitsL (ks.take i) (kt.take i) b).2).1], rfl, ?_, ?_, ?_⟩
            · rw [e1, e2, fitsL_snoc _ _ _ _ _ e3]; exact L1
            · simp
            · rw [e1, e2, fitsL_snoc _ _ _ _ _ e3, List.all_append, hrs]; simp
          · obtain ⟨m1, kvs', rs, rfl, L0, h1, h2⟩ := hK
            exact ⟨m1, kvs', rs, rfl, L0.mono hs, h1, h2⟩
          · obtain ⟨m1, kvs', rs, rfl, L0, rfl, h2⟩ := hK
            replace hs := Sub.trans hs hs'
            refine k_notin I .bool hx rfl (canLayAll_mem fun z hz => ?_) (Nat.zero_le _) R ?_
            · obtain ⟨w, hw, rfl⟩ := List.mem_map.mp hz
              rfl
            rw [any_false, h2]
            have hz : (ks.zip kt).length = ks.length := by rw [List.length_zip, hll, Nat.min_self]
            rw [hz, List.take_of_length_le (Nat.le_refl _), hll, List.take_of_length_le (Nat.le_refl _)] at L0
            rw [hz, List.take_of_length_le (Nat.le_refl _), hll, List.take_of_length_le (Nat.le_refl _)]
            have hcc : ¬ (op ≠ (Tm.mk op kt).op ∨ ks.length ≠ (Tm.mk op kt).kids.length) := by
              rintro (h | h)
              · exact h rfl
              · exact h hll
            (with_reducible refine opq (by assumption) ?_); (with_reducible refine opq (by assumption) ?_)
            refine ⟨_, _, 2, _, I, rfl, kvs', rfl, ?_, ?_⟩
            · rw [fits_mk, if_neg hng, if_neg hcc]; exact L0.mono hs'
            · rw [fits_mk, if_neg hng, if_neg hcc]; rfl
        · refine ite_t (by simp; omega) ?_
          refine ite_t rfl ?_
          (with_reducible refine execs_cons' ?_; intro Qk hQ); (with_reducible refine wpAny_Return_some ?_); (with_reducible refine c_bool ?_); (with_reducible refine opq (by assumption) ?_); (with_reducible refine opq (by assumption) ?_); (with_reducible refine opq (by assumption) ?_)
          refine ⟨_, _, 2, _, I, rfl, kvs, rfl, ?_, ?_⟩
          · rw [fits_mk, if_neg hng, if_pos (.inr hll)]; exact L0
          · rw [fits_mk, if_neg hng, if_pos (.inr hll)]; rfl
      · refine ite_t (by simp [hoo]) ?_
        refine ite_t rfl ?_
        (with_reducible refine execs_cons' ?_; intro Qk hQ); (with_reducible refine wpAny_Return_some ?_); (with_reducible refine c_bool ?_); (with_reducible refine opq (by assumption) ?_); (with_reducible refine opq (by assumption) ?_); (with_reducible refine opq (by assumption) ?_)
        refine ⟨_, _, 2, _, I, rfl, kvs, rfl, ?_, ?_⟩
        · rw [fits_mk, if_neg hng, if_pos (.inl hoo)]; exact L0
        · rw [fits_mk, if_neg hng, if_pos (.inl hoo)]; rfl
end

end Mine
end

section
open PySem PySem.W PyProof.Rows PySem.Calls
set_option tactic.hygienic false
set_option linter.all false
set_option maxRecDepth 100000
set_option maxHeartbeats 2000000
namespace Mine
section
variable {prog : Program} {w : World} {A : Around} {g h₀ : Heap} {mg mb : Str → Option Value} {F : Nat → Addr} {v : Value}

theorem Rds.snoc_inv {g : Heap} {d : PyData} : ∀ {vs : List Value} {ds : List PyData}, Rds g vs (ds ++ [d]) → ∃ vs' v, vs = vs' ++ [v] ∧ Rds g vs' ds ∧ Rd g v d
  | vs, [], h => by
    obtain ⟨v, r, rfl, hv, hr⟩ := h.cases_cons
    exact ⟨[], v, by rw [hr.cases_nil]; rfl, .nil, hv⟩
  | vs, e :: ds, h => by
    obtain ⟨v, r, rfl, hv, hr⟩ := Rds.cases_cons h
    obtain ⟨vs', u, rfl, h1, h2⟩ := Rds.snoc_inv hr
    exact ⟨v :: vs', u, rfl, .cons hv h1, h2⟩

noncomputable def pairD (p : Tm × Tm) : PyData := .tuple [p.1.d, p.2.d]
noncomputable def wsize : List (Tm × Tm) → Nat
  | [] => 0
  | p :: w => p.1.size + wsize w
theorem wsize_app : ∀ (a b : List (Tm × Tm)), wsize (a ++ b) = wsize a + wsize b
  | [], b => by simp [wsize]
  | p :: a, b => by rw [List.cons_append, wsize, wsize, wsize_app a b, Nat.add_assoc]
theorem wsize_rev : ∀ (a : List (Tm × Tm)), wsize a.reverse = wsize a
  | [] => rfl
  | p :: a => by rw [List.reverse_cons, wsize_app, wsize_rev a, wsize, wsize, wsize]; omega
theorem wsize_zip : ∀ (a b : List Tm), wsize (a.zip b) ≤ Tm.sizeL a
  | [], b => by simp [wsize]
  | _ :: _, [] => by simp [wsize]
  | x :: a, y :: b => by rw [List.zip_cons_cons, wsize, Tm.sizeL]; have := wsize_zip a b; show x.size + _ ≤ _; omega
theorem size_pos (t : Tm) : 1 ≤ t.size := by cases t; rw [Tm.size]; omega
theorem wlen : ∀ (a : List (Tm × Tm)), a.length ≤ wsize a
  | [] => Nat.le_refl _
  | p :: a => by rw [List.length_cons, wsize]; have := wlen a; have := size_pos p.1; omega

theorem w_matched (W : Wd h₀ mg mb F) (hb : Sub h₀ g) (R : Room A 5) {N M : Nat} (hN : N ≤ 10) (hM : M ≤ 10) {p tt : Tm} {vt : Value} (hp : Ok N p) (ht : Ok M tt) (hv : Rd g v p.d) (hvt : Rd g vt tt.d) :
    Pure prog w A g (F 12) [v, vt] (fun zz r => if covers p tt = true then ∃ a, r = .ref a else r = .none) := by
  refine Pure.of W 12 (by decide) hb R [(Str.ofString "pattern", v), (Str.ofString "t", vt)] (fun zz zz zz => rfl) (kindsX rfl) (by decide) rfl rfl rfl (fun s L code s₁ Qk hQ => ?_)
  intro env R I
  have V : Rs g [(v, p.d), (vt, tt.d)] := ⟨hv, hvt, trivial⟩
  clear hv hvt
  refine execs_cons' ?_; intro Qk hQ
  refine x_two R.hd I rfl rfl rfl rfl ?_
  refine dd_empty W.toBase hb I ?_
  clear I; intro td s htd hlo I0 _
  have I := I0 _ (strKind prog w)
  clear I0
  (with_reducible refine List_ ?_); refine args_cons ?_; (with_reducible refine Tuple_ ?_); refine args_cons ?_; refine n_local (i := 1) I rfl rfl rfl (by rfl) rfl ?_; refine args_cons ?_; refine n_local (i := 1) I rfl rfl rfl (by rfl) rfl ?_; (with_reducible refine args_nil ?_); refine d_tuple I (.cons (Rs.h0 V) (.cons (Rs.h1 V) .nil)) (by first | exact kdl ‹_› | exact kdm ‹_› | exact Nat.le_of_ble_eq_true rfl | exact mdl ‹_› rfl | exact mdm ‹_› rfl | (simp only [List.length_cons, List.length_nil, List.length_map, List.length_append, List.length_take, List.length_drop]; omega)) ?_; clear I; intro g s v hs I hx; replace hb := Sub.trans hb hs; replace V := Rs.mono V hs; clear hs; replace V := Rs.cons hx V; clear hx; (with_reducible refine args_nil ?_)
  refine d_own I (by simp) ?_; clear I; intro s wl hwl I
  have L0 : Rds g [v] [pairD (p, tt)] := .one (Rs.h0 V)
  refine ⟨_, _, I, ?_⟩
  clear I; intro s I
  refine st_local (i := 2) I rfl rfl rfl ?_; clear I; intro s I; refine st_local (i := 2) I rfl rfl rfl ?_; clear I; intro s I; (with_reducible refine opq (by assumption) ?_); (with_reducible refine execs_cons' ?_; intro Qk hQ)
  have hps := size_le hp
  have h2N : 2 ^ N ≤ 2 ^ 10 := Nat.pow_le_pow_right (by decide) hN
  refine x_while I (fun n g' μ' => ∃ m vs kvs b ww, μ' = [(wl, listP vs), (td, dP (strKind prog w) td kvs), (L, nsP m)] ∧ m (Str.ofString "table") = some (.ref td) ∧ m (Str.ofString "waiting") = some (.ref wl) ∧ Rds g' vs (ww.reverse.map pairD) ∧ BRd g' kvs b ∧
      (∀ q ∈ ww, Ok 10 q.1 ∧ Ok 10 q.2) ∧ (∀ q ∈ b, Ok 10 q.2) ∧ wsize ww < n ∧ b.length + n ≤ p.size + 1 ∧ matchLoop n b ww = matchLoop (p.size + 1) [] [(p, tt)])
    (p.size + 1) ⟨_, _, [], [], [(p, tt)], rfl, rfl, rfl, L0, .nil, (by intro q hq; rw [List.mem_singleton.mp hq]; exact ⟨hp.mono hN, ht.mono hM⟩), (fun zz h => nomatch h), (by simp [wsize]), (by simp), rfl⟩ ?_
  rintro n g' μ' s' hs ⟨m, vs, kvs, b, ww, rfl, H1, H2, L0, L1, hww, hbo, hwn, hbn, hres⟩ I
  replace hb := hb.trans hs
  clear hs V
  have V : Rs g' [] := trivial
  have HB := Sub.refl g'
  have hvl := L0.length
  have hP10 : p.size + 1 ≤ 2 ^ 10 := Nat.le_trans hps h2N
  have hbl : b.length ≤ 2 ^ 10 := Nat.le_trans (Nat.le_add_right _ _) (Nat.le_trans hbn hP10)
  have hwl10 : ww.length ≤ 2 ^ 10 := Nat.le_trans (wlen ww) (Nat.le_trans (Nat.le_of_lt hwn) (Nat.le_trans (Nat.le_add_left _ _) (Nat.le_trans hbn hP10)))
  rw [List.length_map, List.length_reverse] at hvl
  cases ww with
  | nil =>
    obtain rfl := L0.cases_nil
    refine wpAny_isTrue_Compare1 ?_; refine x_bi W hb I (by decide) (by boot_by_name) rfl rfl rfl rfl (by decide) rfl rfl rfl ?_; refine args_cons ?_; refine n_local (i := 2) I rfl rfl rfl H2 rfl ?_; (with_reducible refine args_nil ?_); refine len_own (i := 0) I rfl (by decide) ?_; clear I; intro s t I; (with_reducible refine c_int I ?_; clear I; intro s t I); (with_reducible refine PyProof.Rows.gt_int ?_); (with_reducible refine wpAny_truthy_bool ?_)
    refine ite_f (by decide) ?_
    (with_reducible refine opq (by assumption) ?_); (with_reducible refine execs_cons' ?_; intro Qk hQ); (with_reducible refine wpAny_Return_some ?_); refine n_local (i := 2) I rfl rfl rfl H1 rfl ?_; (with_reducible refine opq (by assumption) ?_); (with_reducible refine opq (by assumption) ?_)
    refine ⟨_, _, I, ?_⟩
    have e : covers p tt = true := by
      unfold covers
      rw [← hres]
      cases n with
      | zero => exact absurd hwn (Nat.not_lt_zero _)
      | succ n => rfl
    rw [if_pos e]
    exact ⟨td, rfl⟩
  | cons q ww =>
    obtain ⟨a, c⟩ := q
    obtain ⟨hoa, hoc⟩ : Ok 10 a ∧ Ok 10 c := hww (a, c) (.head _)
    rw [List.reverse_cons, List.map_append] at L0
    obtain ⟨vs', v1, rfl, L0, hv1⟩ := Rds.snoc_inv L0
    replace V : Rs g' [(v1, .tuple [a.d, c.d])] := ⟨hv1, trivial⟩
    clear hv1
    have hoal := hoa.ln
    have hocl := hoc.ln
    have hoao := hoa.op
    have hoco := hoc.op
    refine wpAny_isTrue_Compare1 ?_; refine x_bi W hb I (by decide) (by boot_by_name) rfl rfl rfl rfl (by decide) rfl rfl rfl ?_; refine args_cons ?_; refine n_local (i := 2) I rfl rfl rfl H2 rfl ?_; (with_reducible refine args_nil ?_); refine len_own (i := 0) I rfl (Nat.lt_of_le_of_lt (Nat.le_trans (Nat.le_of_eq hvl) hwl10) (by decide)) ?_; clear I; intro s t I; (with_reducible refine c_int I ?_; clear I; intro s t I); (with_reducible refine PyProof.Rows.gt_int ?_); (with_reducible refine wpAny_truthy_bool ?_)
    refine ite_t (by simp) ?_
    (with_reducible refine execs_cons' ?_; intro Qk hQ); refine Assign_Tuple ?_; refine MethodCall_ ?_; refine n_local (i := 2) I rfl rfl rfl H2 rfl ?_; refine lm_method (i := 0) I rfl PySem.F.slot_list_pop PySem.F.type_list_pop ?_; refine PyProof.Rows.callWith_method0 ?_
    have hvl10 : vs'.length ≤ 2 ^ 10 := Nat.le_trans (Nat.le_add_right _ _) (Nat.le_trans (Nat.le_of_eq (List.length_append.symm.trans hvl)) hwl10)
    refine b_pop (i := 0) I rfl (Nat.le_trans hvl10 (by decide)) ?_
    clear I; intro s I
    refine as_pair R.hd I (Rs.h0 V) rfl rfl rfl ?_; clear I; intro s x y I hx hy; replace V := Rs.cons hx V; clear hx; replace V := Rs.cons hy V; clear hy; (with_reducible refine wpAny_assign_Name ?_); refine st_local (i := 2) I rfl rfl rfl ?_; clear I; intro s I; (with_reducible refine wpAny_assign_Name ?_); refine st_local (i := 2) I rfl rfl rfl ?_; clear I; intro s I; (with_reducible refine opq (by assumption) ?_); (with_reducible refine execs_cons' ?_; intro Qk hQ); (with_reducible refine wpAny_If ?_); refine isTrue_plain ?_; refine x_def W hb I rfl rfl rfl rfl rfl rfl ?_; refine args_cons ?_; refine n_local (i := 2) I rfl rfl rfl (by rfl) rfl ?_; (with_reducible refine args_nil ?_)
    replace V : Rs g' [(x, .tuple (.str a.op :: a.kids.map Tm.d)), (y, .tuple (.str c.op :: c.kids.map Tm.d)), (x, a.d), (y, c.d)] := ⟨Tm.d_eta a ▸ Rs.h1 V, Tm.d_eta c ▸ Rs.h0 V, Rs.h1 V, Rs.h0 V, trivial⟩
    refine ⟨hb.trans I.own.sub, ?_⟩
    refine (w_isvar W hb R.dn hoa (Rs.h2 V)).use I ?_; clear I; intro g s r hs I hP
    subst hP
    replace hb := Sub.trans hb hs; replace V := Rs.mono V hs; replace L0 := L0.mono hs; replace L1 := L1.mono hs; replace HB := Sub.trans HB hs; clear hs
    (with_reducible refine wpAny_truthy_bool ?_)
    have hkl := L1.len
    rw [wsize] at hwn
    change a.size + wsize ww < n at hwn
    have hasz := size_pos a
    cases n with
    | zero => exact absurd hwn (Nat.not_lt_zero _)
    | succ n =>
    have hwn2 : wsize ww < n := Nat.lt_of_succ_lt_succ (Nat.lt_of_le_of_lt (Nat.le_trans (Nat.le_of_eq (Nat.add_comm _ 1)) (Nat.add_le_add_right hasz _)) hwn)
    rw [matchLoop] at hres
    cases hvar : a.isVar with
    | true =>
      rw [hvar, if_pos rfl] at hres
      refine ite_t rfl ?_
      (with_reducible refine execs_cons' ?_; intro Qk hQ); (with_reducible refine wpAny_If ?_); refine wpAny_isTrue_Compare1 ?_; refine MethodCall_ ?_; refine n_local (i := 2) I rfl rfl rfl H1 rfl ?_; refine dd_method PySem.F.slot_dict_setdefault PySem.F.type_dict_setdefault (I.dat (i := 1) rfl) ?_; refine PyProof.Rows.callWith_method1 ?_; refine args_cons ?_; (with_reducible refine Subscript_ ?_); refine n_local (i := 2) I rfl rfl rfl (by rfl) rfl ?_; (with_reducible refine c_int I ?_; clear I; intro s t I); refine i_tup (k := 0) I (Rs.h0 V) rfl (by first | exact kdl ‹_› | exact kdm ‹_› | exact Nat.le_of_ble_eq_true rfl | exact mdl ‹_› rfl | exact mdm ‹_› rfl | (simp only [List.length_cons, List.length_nil, List.length_map, List.length_append, List.length_take, List.length_drop]; omega)) ?_; intro v hx; obtain ⟨t, rfl⟩ := Rd.str_inv hx; clear hx; refine args_cons ?_; refine n_local (i := 2) I rfl rfl rfl (by rfl) rfl ?_; (with_reducible refine args_nil ?_)
      refine dd_setdef (i := 1) I rfl (strKind_is _ _ _ _) (PySem.F.args_dict_setdefault_3 _ _ _) (Nat.le_trans (Nat.le_of_eq hkl) (Nat.le_trans hbl (by decide))) ?_ ?_
      · intro s v0 hv0 I
        rcases L1.look (x := a.op) with ⟨h1, h2⟩ | ⟨u, t1, h1, h2, h3⟩
        · rw [h1] at hv0; cases hv0
        rw [h1] at hv0; cases hv0
        rw [h2] at hres
        have hokk := hbo (a.op, t1) (lookup_mem h2)
        refine n_local (i := 2) I rfl rfl rfl (by rfl) rfl ?_
        refine k_ne I h3 (Rs.h3 V) hokk.lay hoc.lay (Nat.le_trans hokk.dep (by decide)) R ?_
        rw [Tm.eqv_d]
        (with_reducible refine wpAny_truthy_bool ?_)
        by_cases he : t1 = c
        · simp only [if_pos he] at hres
          refine ite_f (by simp [he]) ?_
          (with_reducible refine wpAny_execs_nil ?_); (with_reducible refine opq (by assumption) ?_); (with_reducible refine wpAny_execs_nil ?_); (with_reducible refine opq (by assumption) ?_); (with_reducible refine wpAny_execs_nil ?_)
          exact ⟨n, _, [(wl, listP _), (td, dP _ td _), (L, nsP _)], Nat.lt_succ_self n, HB, ⟨upd (upd m (Str.ofString "here") x) (Str.ofString "there") y, _, _, b, ww, rfl, H1, H2, L0, L1, fun q hq => hww q (.tail _ hq), hbo, hwn2, Nat.le_of_succ_le hbn, hres⟩, I⟩
        · simp only [if_neg he] at hres
          refine ite_t (by simp [he]) ?_
          (with_reducible refine execs_cons' ?_; intro Qk hQ); (with_reducible refine wpAny_Return_some ?_); (with_reducible refine c_none ?_); (with_reducible refine opq (by assumption) ?_); (with_reducible refine opq (by assumption) ?_); (with_reducible refine opq (by assumption) ?_); (with_reducible refine opq (by assumption) ?_); (with_reducible refine opq (by assumption) ?_)
          refine ⟨_, _, I, ?_⟩
          have e : covers p tt = false := by unfold covers; rw [← hres]; rfl
          rw [if_neg (by rw [e]; decide)]
          rfl
      · intro s hv0 I
        rcases L1.look (x := a.op) with ⟨h1, h2⟩ | ⟨u, t1, h1, h2, h3⟩
        · rw [h2] at hres
          refine n_local (i := 2) I rfl rfl rfl (by rfl) rfl ?_
          refine k_ne I (Rs.h3 V) (Rs.h3 V) hoc.lay hoc.lay (Nat.le_trans hoc.dep (by decide)) R ?_
          rw [Tm.eqv_d]
          (with_reducible refine wpAny_truthy_bool ?_)
          refine ite_f (by simp) ?_
          (with_reducible refine wpAny_execs_nil ?_); (with_reducible refine opq (by assumption) ?_); (with_reducible refine wpAny_execs_nil ?_); (with_reducible refine opq (by assumption) ?_); (with_reducible refine wpAny_execs_nil ?_)
          exact ⟨n, _, [(wl, listP _), (td, dP _ td _), (L, nsP _)], Nat.lt_succ_self n, HB, ⟨upd (upd m (Str.ofString "here") x) (Str.ofString "there") y, _, _, b ++ [(a.op, c)], ww, rfl, H1, H2, L0, L1.put h1 (Rs.h3 V), fun q hq => hww q (.tail _ hq), (by
            intro q hq
            rcases List.mem_append.mp hq with hq | hq
            · exact hbo q hq
            · rw [List.mem_singleton.mp hq]; exact hoc), hwn2, by rw [List.length_append, Nat.add_assoc, Nat.add_comm _ n]; exact hbn, hres⟩, I⟩
        · rw [h1] at hv0; cases hv0
    | false =>
      rw [hvar, if_neg (by decide)] at hres
      refine ite_f (by decide) ?_
      (with_reducible refine execs_cons' ?_; intro Qk hQ); (with_reducible refine wpAny_If ?_); (with_reducible refine isTrue_or ?_); refine wpAny_isTrue_Compare1 ?_; (with_reducible refine Subscript_ ?_); refine n_local (i := 2) I rfl rfl rfl (by rfl) rfl ?_; (with_reducible refine c_int I ?_; clear I; intro s t I); refine i_tup (k := 0) I (Rs.h0 V) rfl (by first | exact kdl ‹_› | exact kdm ‹_› | exact Nat.le_of_ble_eq_true rfl | exact mdl ‹_› rfl | exact mdm ‹_› rfl | (simp only [List.length_cons, List.length_nil, List.length_map, List.length_append, List.length_take, List.length_drop]; omega)) ?_; intro v hx; obtain ⟨t, rfl⟩ := Rd.str_inv hx; clear hx; (with_reducible refine Subscript_ ?_); refine n_local (i := 2) I rfl rfl rfl (by rfl) rfl ?_; (with_reducible refine c_int I ?_; clear I; intro s t I); refine i_tup (k := 0) I (Rs.h1 V) rfl (by first | exact kdl ‹_› | exact kdm ‹_› | exact Nat.le_of_ble_eq_true rfl | exact mdl ‹_› rfl | exact mdm ‹_› rfl | (simp only [List.length_cons, List.length_nil, List.length_map, List.length_append, List.length_take, List.length_drop]; omega)) ?_; intro v hx; obtain ⟨t, rfl⟩ := Rd.str_inv hx; clear hx; (with_reducible refine PyProof.Rows.ne_str ?_); (with_reducible refine wpAny_truthy_bool ?_)
      by_cases hoo : a.op = c.op
      · refine ite_f (by simp [hoo]) ?_
        (with_reducible refine isTrue_or ?_); refine wpAny_isTrue_Compare1 ?_; refine x_bi W hb I (by decide) (by boot_by_name) rfl rfl rfl rfl (by decide) rfl rfl rfl ?_; refine args_cons ?_; refine n_local (i := 2) I rfl rfl rfl (by rfl) rfl ?_; (with_reducible refine args_nil ?_); refine b_len_tup I (Rs.h0 V) (by first | exact kdl ‹_› | exact kdm ‹_› | exact Nat.le_of_ble_eq_true rfl | exact mdl ‹_› rfl | exact mdm ‹_› rfl | (simp only [List.length_cons, List.length_nil, List.length_map, List.length_append, List.length_take, List.length_drop]; omega)) ?_; clear I; intro s t I; refine x_bi W hb I (by decide) (by boot_by_name) rfl rfl rfl rfl (by decide) rfl rfl rfl ?_; refine args_cons ?_; refine n_local (i := 2) I rfl rfl rfl (by rfl) rfl ?_; (with_reducible refine args_nil ?_); refine b_len_tup I (Rs.h1 V) (by first | exact kdl ‹_› | exact kdm ‹_› | exact Nat.le_of_ble_eq_true rfl | exact mdl ‹_› rfl | exact mdm ‹_› rfl | (simp only [List.length_cons, List.length_nil, List.length_map, List.length_append, List.length_take, List.length_drop]; omega)) ?_; clear I; intro s t I; (with_reducible refine PyProof.Rows.ne_int ?_); (with_reducible refine wpAny_truthy_bool ?_)
        by_cases hll : a.kids.length = c.kids.length
        · have hcc : ¬ (a.op ≠ c.op ∨ a.kids.length ≠ c.kids.length) := by
            rintro (h | h)
            · exact h hoo
            · exact h hll
          rw [if_neg hcc] at hres
          refine ite_f (by simp [hll]) ?_
          (with_reducible refine isTrue_or_nil ?_)
          refine ite_f (by decide) ?_
          (with_reducible refine execs_cons' ?_; intro Qk hQ); refine wpAny_Expr_any ?_; refine MethodCall_ ?_; refine n_local (i := 2) I rfl rfl rfl H2 rfl ?_; refine lm_method (i := 0) I rfl PySem.F.slot_list_extend PySem.F.type_list_extend ?_; refine PyProof.Rows.callWith_method1 ?_; refine args_cons ?_; refine x_ty W hb I (by decide) (by boot_by_name) rfl rfl rfl rfl (by decide) rfl rfl rfl ?_; refine args_cons ?_; (with_reducible refine s_cut ?_); refine n_local (i := 2) I rfl rfl rfl (by rfl) rfl ?_; refine wpAny_evalPart_some ?_; (with_reducible refine c_int I ?_; clear I; intro s t I); refine wpAny_evalPart_none ?_; refine cut_tup_from (a := 1) I (Rs.h0 V) (by first | exact kdl ‹_› | exact kdm ‹_› | exact Nat.le_of_ble_eq_true rfl | exact mdl ‹_› rfl | exact mdm ‹_› rfl | (simp only [List.length_cons, List.length_nil, List.length_map, List.length_append, List.length_take, List.length_drop]; omega)) ?_; clear I; intro g s v hs I hx; replace hb := Sub.trans hb hs; replace V := Rs.mono V hs; replace L0 := L0.mono hs; replace L1 := L1.mono hs; replace HB := Sub.trans HB hs; clear hs; replace V := Rs.cons hx V; clear hx; refine args_cons ?_; (with_reducible refine s_cut ?_); refine n_local (i := 2) I rfl rfl rfl (by rfl) rfl ?_; refine wpAny_evalPart_some ?_; (with_reducible refine c_int I ?_; clear I; intro s t I); refine wpAny_evalPart_none ?_; refine cut_tup_from (a := 1) I (Rs.h2 V) (by first | exact kdl ‹_› | exact kdm ‹_› | exact Nat.le_of_ble_eq_true rfl | exact mdl ‹_› rfl | exact mdm ‹_› rfl | (simp only [List.length_cons, List.length_nil, List.length_map, List.length_append, List.length_take, List.length_drop]; omega)) ?_; clear I; intro g s v hs I hx; replace hb := Sub.trans hb hs; replace V := Rs.mono V hs; replace L0 := L0.mono hs; replace L1 := L1.mono hs; replace HB := Sub.trans HB hs; clear hs; replace V := Rs.cons hx V; clear hx; (with_reducible refine args_nil ?_)
          have hzl : (a.kids.zip c.kids).length ≤ 2 := by rw [List.length_zip]; exact Nat.le_trans (Nat.min_le_left _ _) hoal
          have hzs := wsize_zip a.kids c.kids
          have has : a.size = 1 + Tm.sizeL a.kids := by cases a; rfl
          refine ext_zip (j := 0) R.hd I rfl (Rs.h1 V) (Rs.h0 V) (by show (a.kids.map Tm.d).length = (c.kids.map Tm.d).length; rw [List.length_map, List.length_map]; exact hll) (by show vs'.length + (a.kids.map Tm.d).length ≤ _; rw [List.length_map]; exact Nat.le_trans (Nat.add_le_add hvl10 hoal) (by decide)) (fun g s ts hs hts I => ?_) (fun z s₁ h => args_nil h)
          replace hb := Sub.trans hb hs; replace V := Rs.mono V hs; replace L0 := L0.mono hs; replace L1 := L1.mono hs; replace HB := Sub.trans HB hs; clear hs
          (with_reducible refine opq (by assumption) ?_); (with_reducible refine wpAny_execs_nil ?_); (with_reducible refine opq (by assumption) ?_); (with_reducible refine wpAny_execs_nil ?_); (with_reducible refine opq (by assumption) ?_); (with_reducible refine wpAny_execs_nil ?_)
          refine ⟨n, _, [(wl, listP _), (td, dP _ td _), (L, nsP _)], Nat.lt_succ_self n, HB, ⟨upd (upd m (Str.ofString "here") x) (Str.ofString "there") y, _, _, b, (a.kids.zip c.kids).reverse ++ ww, rfl, H1, H2, ?_, L1, ?_, hbo, ?_, Nat.le_of_succ_le hbn, hres⟩, I⟩
          · rw [List.reverse_append, List.reverse_reverse, List.map_append]
            have e : zipD (List.drop 1 (PyData.str a.op :: List.map Tm.d a.kids)) (List.drop 1 (PyData.str c.op :: List.map Tm.d c.kids)) = (a.kids.zip c.kids).map pairD := by
              simp [zipD, List.zip_map, pairD]
            rw [e] at hts
            exact L0.append hts
          · intro q hq
            rcases List.mem_append.mp hq with hq | hq
            · obtain ⟨q1, q2⟩ := q
              have hq := List.mem_reverse.mp hq
              exact ⟨(hoa.kid (List.of_mem_zip hq).1).mono (by decide), (hoc.kid (List.of_mem_zip hq).2).mono (by decide)⟩
            · exact hww q (.tail _ hq)
          · rw [wsize_app, wsize_rev]; exact Nat.lt_of_succ_lt_succ (Nat.lt_of_le_of_lt (by rw [has, Nat.add_comm 1, Nat.add_right_comm]; exact Nat.succ_le_succ (Nat.add_le_add_right hzs _)) hwn)
        · rw [if_pos (.inr hll)] at hres
          refine ite_t (by simp; omega) ?_
          refine ite_t rfl ?_
          (with_reducible refine execs_cons' ?_; intro Qk hQ); (with_reducible refine wpAny_Return_some ?_); (with_reducible refine c_none ?_); (with_reducible refine opq (by assumption) ?_); (with_reducible refine opq (by assumption) ?_); (with_reducible refine opq (by assumption) ?_); (with_reducible refine opq (by assumption) ?_); (with_reducible refine opq (by assumption) ?_)
          refine ⟨_, _, I, ?_⟩
          have e : covers p tt = false := by unfold covers; rw [← hres]; rfl
          rw [if_neg (by rw [e]; decide)]
          rfl
      · rw [if_pos (.inl hoo)] at hres
        refine ite_t (by simp [hoo]) ?_
        refine ite_t rfl ?_
        (with_reducible refine execs_cons' ?_; intro Qk hQ); (with_reducible refine wpAny_Return_some ?_); (with_reducible refine c_none ?_); (with_reducible refine opq (by assumption) ?_); (with_reducible refine opq (by assumption) ?_); (with_reducible refine opq (by assumption) ?_); (with_reducible refine opq (by assumption) ?_); (with_reducible refine opq (by assumption) ?_)
        refine ⟨_, _, I, ?_⟩
        have e : covers p tt = false := by unfold covers; rw [← hres]; rfl
        rw [if_neg (by rw [e]; decide)]
        rfl
end

end Mine
end

section
open PySem PySem.W PyProof.Rows PySem.Calls
set_option tactic.hygienic false
set_option linter.all false
set_option maxRecDepth 100000
set_option maxHeartbeats 2000000
namespace Mine
section
variable {prog : Program} {w : World} {A : Around} {g h₀ : Heap} {mg mb : Str → Option Value} {F : Nat → Addr} {v : Value}

theorem w_covered (W : Wd h₀ mg mb F) (hb : Sub h₀ g) (R : Room A 6) {N M : Nat} (hN : N ≤ 10) (hM : M ≤ 10) {p t : Tm} {vt : Value} (hp : Ok N p) (ht : Ok M t) (hv : Rd g v p.d) (hvt : Rd g vt t.d) :
    Pure prog w A g (F 18) [vt, v] (fun zz r => r = .bool (covers p t)) := by
  refine Pure.of W 18 (by decide) hb R [(Str.ofString "narrow", vt), (Str.ofString "wide", v)] (fun zz zz zz => rfl) (kindsX rfl) (by decide) rfl rfl rfl (fun s L code s₁ Qk hQ => ?_)
  intro env R I
  have V : Rs g [(v, p.d), (vt, t.d)] := ⟨hv, hvt, trivial⟩
  clear hv hvt
  refine execs_cons' ?_; intro Qk hQ
  (with_reducible refine wpAny_Return_some ?_); refine wpAny_Compare1 ?_; refine x_def W hb I rfl rfl rfl rfl rfl rfl ?_; refine args_cons ?_; refine n_local (i := 0) I rfl rfl rfl (by rfl) rfl ?_; refine args_cons ?_; refine n_local (i := 0) I rfl rfl rfl (by rfl) rfl ?_; (with_reducible refine args_nil ?_)
  refine ⟨hb.trans I.own.sub, ?_⟩
  refine (w_matched W hb R.dn hN hM hp ht (Rs.h0 V) (Rs.h1 V)).use I ?_; clear I; intro g s r hs I hP
  replace hb := Sub.trans hb hs; replace V := Rs.mono V hs; clear hs
  (with_reducible refine c_none ?_)
  cases hc : covers p t with
  | true =>
    rw [if_pos hc] at hP
    obtain ⟨a, rfl⟩ := hP
    skip
    refine wpAny_isNot_other rfl (by simp) ?_
    (with_reducible refine opq (by assumption) ?_); (with_reducible refine opq (by assumption) ?_)
    exact ⟨_, _, I, by rw [hc]; rfl⟩
  | false =>
    rw [if_neg (by rw [hc]; decide)] at hP
    subst hP
    skip
    refine wpAny_isNot_self rfl ?_
    (with_reducible refine opq (by assumption) ?_); (with_reducible refine opq (by assumption) ?_)
    exact ⟨_, _, I, by rw [hc]; rfl⟩
end

end Mine
end

section
open PySem PySem.W PyProof.Rows PySem.Calls
set_option tactic.hygienic false
set_option linter.all false
set_option maxRecDepth 100000
set_option maxHeartbeats 2000000
namespace Mine
section
variable {prog : Program} {w : World} {A : Around} {g h₀ : Heap} {mg mb : Str → Option Value} {F : Nat → Addr} {v : Value}

noncomputable section
open scoped Classical
noncomputable def headD (t : Tm) : PyData := .tuple [.str t.op, .int ((t.kids.length + 1 : Nat) : Int)]
theorem eqv_head (a b : Tm) : PyData.eqv (headD a) (headD b) = sameHead a b := by
  simp only [headD, PyData.eqv, PyData.eqvAll, Bool.and_true, sameHead]
  congr 1
  by_cases h2 : a.kids.length = b.kids.length
  · simp [h2]
  · have h3 : (((a.kids.length + 1 : Nat) : Int) == ((b.kids.length + 1 : Nat) : Int)) = false := by
      rw [beq_eq_false_iff_ne]; omega
    rw [h3, beq_eq_false_iff_ne.mpr h2]

noncomputable def stepN (n : Nat) (c : List Tm) (names : List (List Tm)) (i : Nat) : List Tm × List (List Tm) :=
  (List.range i).foldl (fun (acc : List Tm × List (List Tm)) k => (acc.1 ++ [(commonAt n (column c k) acc.2).1], (commonAt n (column c k) acc.2).2)) ([], names)
theorem stepN_succ (n : Nat) (c : List Tm) (names : List (List Tm)) (i : Nat) : stepN n c names (i + 1) = ((stepN n c names i).1 ++ [(commonAt n (column c i) (stepN n c names i).2).1], (commonAt n (column c i) (stepN n c names i).2).2) := by
  unfold stepN
  rw [List.range_succ, List.foldl_append]; rfl
theorem stepN_fst (n : Nat) (c : List Tm) (names : List (List Tm)) : ∀ i, (stepN n c names i).1.length = i
  | 0 => by simp [stepN]
  | i + 1 => by rw [stepN_succ]; simp [stepN_fst n c names i]
theorem commonAt_alike {n : Nat} {c : List Tm} {names : List (List Tm)} (h : alike c = true) :
    commonAt (n + 1) c names = (.mk (c.headD (.mk default [])).op (stepN n c names (c.headD (.mk default [])).kids.length).1, (stepN n c names (c.headD (.mk default [])).kids.length).2) := by
  rw [commonAt, if_pos h]; rfl
theorem commonAt_apart {n : Nat} {c : List Tm} {names : List (List Tm)} (h : alike c = false) :
    commonAt (n + 1) c names = (.mk (vname ((if c ∈ names then names else names ++ [c]).idxOf c)) [], if c ∈ names then names else names ++ [c]) := by
  rw [commonAt, if_neg (by rw [h]; decide)]
theorem commonAt_len : ∀ {n : Nat} {c : List Tm} {names : List (List Tm)}, (∀ t ∈ c, Ok n t) → (commonAt n c names).2.length ≤ names.length + 2 ^ n
  | 0, c, names, h => by rw [commonAt]; exact Nat.le_add_right _ _
  | n + 1, c, names, h => by
    have h1 : 1 ≤ 2 ^ (n + 1) := Nat.one_le_two_pow
    cases ha : alike c with
    | false =>
      rw [commonAt_apart ha]
      show (if c ∈ names then names else names ++ [c]).length ≤ _
      split
      · omega
      · simp; omega
    | true =>
      rw [commonAt_alike ha]
      show (stepN n c names _).2.length ≤ _
      cases c with
      | nil => simp [stepN, Tm.kids]
      | cons t0 r =>
      have hl := (h t0 (.head _)).ln
      have key : ∀ i, i ≤ t0.kids.length → (stepN n (t0 :: r) names i).2.length ≤ names.length + i * 2 ^ n := by
        intro i
        induction i with
        | zero => intro _; simp [stepN]
        | succ i ih =>
          intro hi
          rw [stepN_succ]
          have h2 := ih (by first | decide | exact lle ‹_› rfl | exact llt ‹_› rfl | exact lll ‹_› rfl | exact llm ‹_› rfl | omega)
          have h3 := @commonAt_len n (column (t0 :: r) i) (stepN n (t0 :: r) names i).2 (fun q hq => by
            obtain ⟨t, ht, rfl⟩ := List.mem_map.mp hq
            have hal := List.all_eq_true.mp ha t ht
            simp only [List.headD_cons, sameHead, Bool.and_eq_true, beq_iff_eq] at hal
            refine (h t ht).kid ?_
            rw [List.getD_eq_getElem?_getD, List.getElem?_eq_getElem (by rw [hal.2]; omega)]
            exact List.getElem_mem _)
          show (commonAt n (column (t0 :: r) i) (stepN n (t0 :: r) names i).2).2.length ≤ _
          rw [Nat.succ_mul]; omega
      have h4 := key t0.kids.length (Nat.le_refl _)
      have h5 : t0.kids.length * 2 ^ n ≤ 2 * 2 ^ n := Nat.mul_le_mul_right _ hl
      rw [List.headD_cons, Nat.pow_succ]
      omega
theorem stepN_len {n : Nat} {c : List Tm} {names : List (List Tm)} {m : Nat} (h : ∀ k, k < m → ∀ q ∈ column c k, Ok n q) : ∀ i, i ≤ m → (stepN n c names i).2.length ≤ names.length + i * 2 ^ n
  | 0, _ => by simp [stepN]
  | i + 1, hi => by
    rw [stepN_succ]
    have h2 := stepN_len (names := names) h i (by first | decide | exact lle ‹_› rfl | exact llt ‹_› rfl | exact lll ‹_› rfl | exact llm ‹_› rfl | omega)
    have h3 := @commonAt_len n (column c i) (stepN n c names i).2 (h i (by first | decide | exact lle ‹_› rfl | exact llt ‹_› rfl | exact lll ‹_› rfl | exact llm ‹_› rfl | omega))
    show (commonAt n (column c i) (stepN n c names i).2).2.length ≤ _
    rw [Nat.succ_mul]; omega

theorem w_commonAt (W : Wd h₀ mg mb F) {d : Addr} : ∀ (n : Nat) {A : Around} {g : Heap} {v : Value} {c : List Tm} {names : List (List Tm)} {xs : NX}, n ≤ 6 → c ≠ [] → c.length ≤ 100 → (∀ t ∈ c, Ok n t) → names.length + 2 ^ n ≤ 1000 → Sub h₀ g → Room A (n + 3) → Rd g v (.tuple (c.map Tm.d)) → NRd g xs names →
    Eff1 prog w A g (F 17) [v, .ref d] d (tabP prog w d xs) (fun g' P' r => ∃ xs', P' = tabP prog w d xs' ∧ NRd g' xs' (commonAt n c names).2 ∧ Rd g' r (commonAt n c names).1.d)
  | 0, A, g, v, c, names, xs, hn, hc0, hcl, hok, hnl, hb, R, hv, L0 => by
    cases c with
    | nil => exact absurd rfl hc0
    | cons t r => exact (hok t (.head _)).elim
  | n + 1, A, g, v, c, names, xs, hn, hc0, hcl, hok, hnl, hb, R, hv, L0 => by
    have ih := @w_commonAt W d n
    refine Eff1.of W 17 (by decide) hb R [(Str.ofString "terms", v), (Str.ofString "names", .ref d)] (fun zz zz zz => rfl) (kindsX rfl) (by decide) rfl rfl rfl (fun s L code s₁ Qk hQ => ?_)
    intro env R I
    have V : Rs g [(v, .tuple (c.map Tm.d))] := ⟨hv, trivial⟩
    clear hv
    refine execs_cons' ?_; intro Qk hQ
    refine wpAny_Assign_Name ?_; refine x_comp I rfl rfl (by decide) (fun zz => rfl) ?_; refine n_cell (i := 3) I rfl rfl rfl rfl rfl ?_; refine it_seq R.hd I (.inr (Rs.h0 V)) ?_; clear I; intro it s X
    have hopl : ∀ t ∈ c, t.kids.length ≤ 2 := fun t ht => (hok t ht).ln
    have hR : ∃ n, Room (A.deeper env) n := ⟨_, R⟩
    refine CompK.map c Tm.d headD (X _) rfl (by simp; omega) (fun C x v g' s' m cm rest hx hs hv I => ?_) ?_
    · intro cenv
      have HB := Sub.refl g'
      replace hb := Sub.trans hb hs; replace V := Rs.mono V hs; replace L0 := L0.mono hs; clear hs
      have hxl := hopl x hx
      rw [Tm.d_eta] at hv
      replace V := Rs.cons hv V
      (with_reducible refine wpAny_assign_Name ?_); refine st_local (i := 0) I rfl rfl rfl ?_; clear I; intro s I; (with_reducible refine Tuple_ ?_); refine args_cons ?_; (with_reducible refine Subscript_ ?_); refine n_local (i := 0) I rfl rfl rfl (by rfl) rfl ?_; (with_reducible refine c_int I ?_; clear I; intro s t I); refine i_tup (k := 0) I (Rs.h0 V) rfl (by first | exact kdl ‹_› | exact kdm ‹_› | exact Nat.le_of_ble_eq_true rfl | exact mdl ‹_› rfl | exact mdm ‹_› rfl | (simp only [List.length_cons, List.length_nil, List.length_map, List.length_append, List.length_take, List.length_drop]; omega)) ?_; intro v hx; obtain ⟨t, rfl⟩ := Rd.str_inv hx; clear hx; refine args_cons ?_; refine x_bi W hb I (by decide) (by boot_by_name) rfl rfl rfl rfl (by decide) rfl rfl rfl ?_; refine args_cons ?_; refine n_local (i := 0) I rfl rfl rfl (by rfl) rfl ?_; (with_reducible refine args_nil ?_); refine b_len_tup I (Rs.h0 V) (by first | exact kdl ‹_› | exact kdm ‹_› | exact Nat.le_of_ble_eq_true rfl | exact mdl ‹_› rfl | exact mdm ‹_› rfl | (simp only [List.length_cons, List.length_nil, List.length_map, List.length_append, List.length_take, List.length_drop]; omega)) ?_; clear I; intro s t I; (with_reducible refine args_nil ?_); refine d_tuple I (.cons Rd.str (.cons Rd.int .nil)) (by first | exact kdl ‹_› | exact kdm ‹_› | exact Nat.le_of_ble_eq_true rfl | exact mdl ‹_› rfl | exact mdm ‹_› rfl | (simp only [List.length_cons, List.length_nil, List.length_map, List.length_append, List.length_take, List.length_drop]; omega)) ?_; clear I; intro g s v hs I hx; replace hb := Sub.trans hb hs; replace V := Rs.mono V hs; replace L0 := L0.mono hs; replace HB := Sub.trans HB hs; clear hs; replace V := Rs.cons hx V; clear hx
      refine ⟨g, _, fun zz => none, HB, I, ?_⟩
      have e : headD x = .tuple [.str x.op, .int ((PyData.str x.op :: x.kids.map Tm.d).length : Nat)] := by rw [headD]; simp
      rw [e]
      exact Rs.h0 V
    · intro g hs y g s hs' hx I
      replace hs := Sub.trans hs hs'
      replace hb := Sub.trans hb hs; replace V := Rs.mono V hs; replace L0 := L0.mono hs; clear hs
      replace V := Rs.cons hx V
      clear hx
      cases c with
      | nil => exact absurd rfl hc0
      | cons t0 r =>
      have hcl' := hcl
      rw [List.length_cons] at hcl
      refine st_cell (i := 1) I rfl rfl rfl rfl ?_; clear I; intro s I; (with_reducible refine opq (by assumption) ?_); (with_reducible refine execs_cons' ?_; intro Qk hQ); (with_reducible refine wpAny_If ?_); refine wpAny_isTrue_Compare1 ?_; refine x_comp I rfl rfl (by decide) (fun zz => rfl) ?_; refine n_cell (i := 1) I rfl rfl rfl rfl rfl ?_; refine it_seq R.hd I (.inl (Rs.h0 V)) ?_; clear I; intro it s X
      have hlay : ∀ t ∈ t0 :: r, (headD t).canLay0 = true := fun t ht => by
        show (PyData.strOk t.op && (true && true)) = true
        rw [(hok t ht).ok]; rfl
      have hdep : ∀ t : Tm, (headD t).depth ≤ 1 := fun t => Nat.le_refl _
      refine CompK.opt (t0 :: r) headD (fun t => if (!sameHead t t0) = true then some (headD t) else none) (X _) rfl (by rw [List.length_map, List.length_cons]; omega) (fun C x v g' s' m cm rest hx hs hv I => ?_) fun g hs y g s hs' hx' I => ?_
      · intro cenv
        clear X
        have HB := Sub.refl g'
        replace hb := Sub.trans hb hs; replace V := Rs.mono V hs; replace L0 := L0.mono hs; clear hs
        replace V := Rs.cons hv V
        (with_reducible refine wpAny_assign_Name ?_); refine st_local (i := 0) I rfl rfl rfl ?_; clear I; intro s I; (with_reducible refine tests_one ?_); refine wpAny_isTrue_Compare1 ?_; refine n_local (i := 0) I rfl rfl rfl (by rfl) rfl ?_; (with_reducible refine Subscript_ ?_); refine n_cell (i := 2) I rfl rfl rfl rfl rfl ?_; (with_reducible refine c_int I ?_; clear I; intro s t I); refine i_lst (k := 0) I (Rs.h1 V) rfl (by first | exact kdl ‹_› | exact kdm ‹_› | exact Nat.le_of_ble_eq_true rfl | exact mdl ‹_› rfl | exact mdm ‹_› rfl | (simp only [List.length_cons, List.length_nil, List.length_map, List.length_append, List.length_take, List.length_drop]; omega)) ?_; intro v hx; replace V := Rs.cons hx V; clear hx
        refine k_ne I (Rs.h1 V) (Rs.h0 V) (hlay x hx) (hlay t0 (.head _)) (Nat.le_trans (hdep x) (by first | decide | exact lle ‹_› rfl | exact llt ‹_› rfl | exact lll ‹_› rfl | exact llm ‹_› rfl | omega)) R ?_
        rw [eqv_head]
        (with_reducible refine wpAny_truthy_bool ?_)
        cases hc : sameHead x t0 with
        | false =>
          refine ite_t (by decide) ?_
          refine n_local (i := 0) I rfl rfl rfl (by rfl) rfl ?_
          exact ⟨_, _, fun zz => none, _, HB, I, Rs.h1 V, rfl⟩
        | true =>
          refine ite_f (by decide) ?_
          exact ⟨_, _, fun zz => none, HB, I, rfl⟩
      · replace hs := Sub.trans hs hs'
        clear X
        replace hb := Sub.trans hb hs; replace V := Rs.mono V hs; replace L0 := L0.mono hs; clear hs
        replace V := Rs.cons hx' V
        clear hx'
        (with_reducible refine List_ ?_); (with_reducible refine args_nil ?_)
        refine d_list I .nil (by simp) ?_
        clear I; intro g s v1 hs I hx
        replace hb := Sub.trans hb hs; replace V := Rs.mono V hs; replace L0 := L0.mono hs; clear hs
        refine k_eq I (Rs.h0 V) hx (canLayAll_mem fun z hz => ?_) rfl ?_ R ?_
        · obtain ⟨q, hq, e⟩ := List.mem_filterMap.mp hz
          split at e
          · cases e; exact hlay q hq
          · cases e
        · refine Nat.le_trans (Nat.succ_le_succ (depthAll_mem (n := 1) fun z hz => ?_)) (by first | decide | exact lle ‹_› rfl | exact llt ‹_› rfl | exact lll ‹_› rfl | exact llm ‹_› rfl | omega)
          obtain ⟨q, hq, e⟩ := List.mem_filterMap.mp hz
          split at e
          · cases e; exact hdep q
          · cases e
        clear hx
        have hal : PyData.eqv (.list ((t0 :: r).filterMap fun t => if (!sameHead t t0) = true then some (headD t) else none)) (.list []) = alike (t0 :: r) := by
          show PyData.eqvAll _ [] = _
          cases ha : alike (t0 :: r) with
          | true =>
            have : (t0 :: r).filterMap (fun t => if (!sameHead t t0) = true then some (headD t) else none) = [] := by
              rw [List.filterMap_eq_nil_iff]
              intro q hq
              have := List.all_eq_true.mp ha q hq
              simp only [List.headD_cons] at this
              rw [this]; rfl
            rw [this]; rfl
          | false =>
            cases hfm : (t0 :: r).filterMap (fun t => if (!sameHead t t0) = true then some (headD t) else none) with
            | cons _ _ => rfl
            | nil =>
              exfalso
              rw [List.filterMap_eq_nil_iff] at hfm
              have : alike (t0 :: r) = true := by
                refine List.all_eq_true.mpr fun q hq => ?_
                have := hfm q hq
                simp only [List.headD_cons]
                cases hd : sameHead q t0 with
                | true => rfl
                | false => rw [hd] at this; cases this
              rw [ha] at this; cases this
        rw [hal]
        (with_reducible refine wpAny_truthy_bool ?_)
        cases ha : alike (t0 :: r) with
        | true =>
          refine ite_t rfl ?_
          (with_reducible refine execs_cons' ?_; intro Qk hQ); refine x_compA I rfl rfl rfl (by decide) (fun zz => rfl) rfl rfl ?_; refine x_ty W hb I (by decide) (by boot_by_name) rfl rfl rfl rfl (by decide) rfl rfl rfl ?_; refine args_cons ?_; (with_reducible refine c_int I ?_; clear I; intro s t I); refine args_cons ?_; refine x_bi W hb I (by decide) (by boot_by_name) rfl rfl rfl rfl (by decide) rfl rfl rfl ?_; refine args_cons ?_; (with_reducible refine Subscript_ ?_); refine n_cell (i := 3) I rfl rfl rfl rfl rfl ?_; (with_reducible refine c_int I ?_; clear I; intro s t I); refine i_tup (k := 0) I (Rs.h2 V) rfl (by first | exact kdl ‹_› | exact kdm ‹_› | exact Nat.le_of_ble_eq_true rfl | exact mdl ‹_› rfl | exact mdm ‹_› rfl | (simp only [List.length_cons, List.length_nil, List.length_map, List.length_append, List.length_take, List.length_drop]; omega)) ?_; intro v hx; replace V := Rs.cons hx V; clear hx; (with_reducible refine args_nil ?_)
          have h0l := hopl t0 (.head _)
          have hall : ∀ q ∈ t0 :: r, q.op = t0.op ∧ q.kids.length = t0.kids.length := fun q hq => by
            have := List.all_eq_true.mp ha q hq
            simp only [List.headD_cons, sameHead, Bool.and_eq_true, beq_iff_eq] at this
            exact this
          replace V := Rs.cons (Tm.d_eta t0 ▸ Rs.h0 V) V
          refine b_len_tup I (Rs.h0 V) (by first | exact kdl ‹_› | exact kdm ‹_› | exact Nat.le_of_ble_eq_true rfl | exact mdl ‹_› rfl | exact mdm ‹_› rfl | (simp only [List.length_cons, List.length_nil, List.length_map, List.length_append, List.length_take, List.length_drop]; omega)) ?_; clear I; intro s t I; (with_reducible refine args_nil ?_)
          refine it_range2 (a := 1) R.hd I (by simp) (by simp; omega) ?_
          clear I; intro it s X
          refine CompK.map (List.range t0.kids.length) (fun i => .int ((1 + i : Nat) : Int)) (fun i => .tuple ((column (t0 :: r) i).map Tm.d)) (X _) (by simp [intsFrom]) (by simp [intsFrom]; omega) (fun C i v g' s' m cm rest hx hs hv I => ?_) ?_
          · intro cenv
            clear X
            have HB := Sub.refl g'
            have hil := List.mem_range.mp hx
            replace hb := Sub.trans hb hs; replace V := Rs.mono V hs; replace L0 := L0.mono hs; clear hs
            obtain ⟨tk, rfl⟩ := Rd.int_inv hv
            clear hv hx
            (with_reducible refine wpAny_assign_Name ?_); refine st_cell (i := 1) I rfl rfl rfl rfl ?_; clear I; intro s I; refine x_ty W hb I (by decide) (by boot_by_name) rfl rfl rfl rfl (by decide) rfl rfl rfl ?_; refine args_cons ?_; refine x_comp I rfl rfl (by decide) (fun zz => rfl) ?_; refine n_cell (i := 5) I rfl rfl rfl rfl rfl ?_; refine it_seq R.hd I (.inr (Rs.h4 V)) ?_; clear I; intro it s X
            refine CompK.map (t0 :: r) Tm.d (fun q => (q.kids.getD i (.mk default [])).d) (X _) rfl (by rw [List.length_map, List.length_cons]; omega) (fun C q v g' s' m cm rest hx hs hv I => ?_) fun g hs y g s hs' hx' I => ?_
            · intro cenv2
              clear X HB
              have HB := Sub.refl g'
              replace hb := Sub.trans hb hs; replace V := Rs.mono V hs; replace L0 := L0.mono hs; clear hs
              rw [Tm.d_eta] at hv
              replace V := Rs.cons hv V
              have hql := (hall q hx).2
              (with_reducible refine wpAny_assign_Name ?_); refine st_local (i := 0) I rfl rfl rfl ?_; clear I; intro s I; (with_reducible refine Subscript_ ?_); refine n_local (i := 0) I rfl rfl rfl (by rfl) rfl ?_; refine n_cell (i := 2) I rfl rfl rfl rfl rfl ?_
              have hq : (PyData.str q.op :: q.kids.map Tm.d)[i + 1]? = some (q.kids.getD i (.mk default [])).d := by
                rw [List.getElem?_cons_succ, List.getElem?_map, List.getElem?_eq_getElem (by first | decide | exact lle ‹_› rfl | exact llt ‹_› rfl | exact lll ‹_› rfl | exact llm ‹_› rfl | omega), List.getD_eq_getElem?_getD, List.getElem?_eq_getElem (by first | decide | exact lle ‹_› rfl | exact llt ‹_› rfl | exact lll ‹_› rfl | exact llm ‹_› rfl | omega)]; rfl
              refine i_tupN (k := i + 1) I (Rs.h0 V) (by first | decide | exact lle ‹_› rfl | exact llt ‹_› rfl | exact lll ‹_› rfl | exact llm ‹_› rfl | omega) hq (by simp; omega) ?_
              intro v hx
              exact ⟨_, _, fun zz => none, HB, I, hx⟩
            · replace hs := Sub.trans hs hs'
              clear X
              replace hb := Sub.trans hb hs; replace V := Rs.mono V hs; replace L0 := L0.mono hs; replace HB := Sub.trans HB hs; clear hs
              replace V := Rs.cons hx' V
              clear hx'
              (with_reducible refine args_nil ?_); refine b_tuple_lst I (Rs.h0 V) (by first | exact kdl ‹_› | exact kdm ‹_› | exact Nat.le_of_ble_eq_true rfl | exact mdl ‹_› rfl | exact mdm ‹_› rfl | (simp only [List.length_cons, List.length_nil, List.length_map, List.length_append, List.length_take, List.length_drop]; omega)) ?_; clear I; intro g s v hs I hx; replace hb := Sub.trans hb hs; replace V := Rs.mono V hs; replace L0 := L0.mono hs; replace HB := Sub.trans HB hs; clear hs; replace V := Rs.cons hx V; clear hx
              refine ⟨g, _, fun zz => some (.int ((1 + i : Nat) : Int) tk), HB, I, ?_⟩
              rw [column, List.map_map]; exact Rs.h0 V
          · intro g hs
            refine ⟨0, _, rfl, fun y g s hs' hx I => ?_⟩
            replace hs := Sub.trans hs hs'
            clear X
            replace V : Rs _ [(_, .list ((t0 :: r).map headD))] := ⟨Rs.h3 V, trivial⟩
            replace hb := Sub.trans hb hs; replace V := Rs.mono V hs; replace L0 := L0.mono hs; clear hs
            replace V := Rs.cons hx V
            clear hx
            (with_reducible refine opq (by assumption) ?_); (with_reducible refine execs_cons' ?_; intro Qk hQ); (with_reducible refine wpAny_Return_some ?_); (with_reducible refine wpAny_BinOp ?_); (with_reducible refine s_cut ?_); (with_reducible refine Subscript_ ?_); refine n_cell (i := 1) I rfl rfl rfl rfl rfl ?_; (with_reducible refine c_int I ?_; clear I; intro s t I); refine i_lst (k := 0) I (Rs.h1 V) rfl (by first | exact kdl ‹_› | exact kdm ‹_› | exact Nat.le_of_ble_eq_true rfl | exact mdl ‹_› rfl | exact mdm ‹_› rfl | (simp only [List.length_cons, List.length_nil, List.length_map, List.length_append, List.length_take, List.length_drop]; omega)) ?_; intro v hx; replace V := Rs.cons hx V; clear hx; refine wpAny_evalPart_none ?_; refine wpAny_evalPart_some ?_; (with_reducible refine c_int I ?_; clear I; intro s t I); refine cut_tup_upto (a := 1) I (Rs.h0 V) (by first | exact kdl ‹_› | exact kdm ‹_› | exact Nat.le_of_ble_eq_true rfl | exact mdl ‹_› rfl | exact mdm ‹_› rfl | (simp only [List.length_cons, List.length_nil, List.length_map, List.length_append, List.length_take, List.length_drop]; omega)) ?_; clear I; intro g s v hs I hx; replace hb := Sub.trans hb hs; replace V := Rs.mono V hs; replace L0 := L0.mono hs; clear hs; replace V := Rs.cons hx V; clear hx; refine x_ty W hb I (by decide) (by boot_by_name) rfl rfl rfl rfl (by decide) rfl rfl rfl ?_; refine args_cons ?_; refine x_comp I rfl rfl (by decide) (fun zz => rfl) ?_; refine n_local (i := 0) I rfl rfl rfl (by rfl) rfl ?_; refine it_seq R.hd I (.inl (Rs.h2 V)) ?_; clear I; intro it s X
            have hcol : ∀ k, k < t0.kids.length → ∀ q ∈ column (t0 :: r) k, Ok n q := fun k hk q hq => by
              obtain ⟨t, ht, rfl⟩ := List.mem_map.mp hq
              refine (hok t ht).kid ?_
              rw [List.getD_eq_getElem?_getD, List.getElem?_eq_getElem (by rw [(hall t ht).2]; exact hk)]
              exact List.getElem_mem _
            have hst : ∀ i, i ≤ t0.kids.length → (stepN n (t0 :: r) names i).2.length ≤ names.length + i * 2 ^ n := fun i hi => stepN_len hcol i hi
            refine CompK.st (List.range t0.kids.length) (fun i => .tuple ((column (t0 :: r) i).map Tm.d)) (fun i ds g' μ' => ∃ m1 vh xs', μ' = [(L, nsP m1), (L + 1 + 1 + 1, cellP vh), (L + 1 + 1, cellP (some (.ref d))), (L + 1, cellP (some _)), (d, tabP prog w d xs')] ∧ NRd g' xs' (stepN n (t0 :: r) names i).2 ∧ ds = (stepN n (t0 :: r) names i).1.map Tm.d)
              (X _) rfl (by simp; omega) ⟨_, _, xs, rfl, L0, rfl⟩ (fun C i x v ds g' μ' s' m cm rest hx hs hv hK I => ?_) (fun i ds g' g'' μ' hs hK => ?_) (fun ds g' μ' hs hK y g'' s'' hs' hx I => ?_)
            · intro cenv
              clear X
              obtain ⟨m1, vh, xs', rfl, L0, rfl⟩ := hK
              have hxr := (List.getElem?_eq_some_iff.mp hx).1
              have hxe := (List.getElem?_eq_some_iff.mp hx).2
              rw [List.length_range] at hxr
              rw [List.getElem_range] at hxe
              subst hxe
              replace hb := hb.trans hs
              clear hs V
              have HB := Sub.refl g'
              have V : Rs g' [(v, .tuple ((column (t0 :: r) i).map Tm.d))] := ⟨hv, trivial⟩
              clear hv
              have hsti := hst i (by first | decide | exact lle ‹_› rfl | exact llt ‹_› rfl | exact lll ‹_› rfl | exact llm ‹_› rfl | omega)
              have h2p : (i + 1) * 2 ^ n ≤ 2 * 2 ^ n := Nat.mul_le_mul_right _ (by first | decide | exact lle ‹_› rfl | exact llt ‹_› rfl | exact lll ‹_› rfl | exact llm ‹_› rfl | omega)
              rw [Nat.succ_mul] at h2p
              rw [Nat.pow_succ] at hnl
              (with_reducible refine wpAny_assign_Name ?_); refine st_local (i := 0) I rfl rfl rfl ?_; clear I; intro s I; refine x_def W hb I rfl rfl rfl rfl rfl rfl ?_; refine args_cons ?_; refine n_local (i := 0) I rfl rfl rfl (by rfl) rfl ?_; refine args_cons ?_; refine n_cell (i := 3) I rfl rfl rfl rfl rfl ?_; (with_reducible refine args_nil ?_)
              refine ⟨hb.trans I.own.sub, ?_⟩
              refine (ih (by first | decide | exact lle ‹_› rfl | exact llt ‹_› rfl | exact lll ‹_› rfl | exact llm ‹_› rfl | omega) (by simp [column]) (by rw [column, List.length_map, List.length_cons]; omega) (hcol i hxr) (by first | decide | exact lle ‹_› rfl | exact llt ‹_› rfl | exact lll ‹_› rfl | exact llm ‹_› rfl | omega) hb R.dn (Rs.h0 V) L0).use (i := 5) I rfl ?_
              clear I; intro g s rv P' hs I hP
              obtain ⟨xs2, rfl, L1, hrv⟩ := hP
              refine ⟨g, [(L, nsP _), (L + 1 + 1 + 1, cellP _), (L + 1 + 1, cellP _), (L + 1, cellP _), (d, _)], _, fun zz => none, _, HB.trans hs, I, hrv, m1, vh, xs2, rfl, ?_, ?_⟩
              · rw [stepN_succ]; exact L1
              · rw [stepN_succ, List.map_append]; rfl
            · obtain ⟨m1, vh, xs', rfl, h1, h2⟩ := hK
              exact ⟨m1, vh, xs', rfl, h1.mono hs, h2⟩
            · clear X
              obtain ⟨m1, vh, xs', rfl, L0, rfl⟩ := hK
              replace hs := Sub.trans hs hs'
              rw [List.length_range] at hx L0
              have hfl := stepN_fst n (t0 :: r) names t0.kids.length
              replace V : Rs _ [(_, .tuple [.str t0.op])] := ⟨Rs.h0 V, trivial⟩
              replace hb := hb.trans hs
              replace V := Rs.cons hx (Rs.mono V hs)
              replace L0 := L0.mono hs'
              clear hx hs
              (with_reducible refine args_nil ?_); refine b_tuple_lst I (Rs.h0 V) (by first | exact kdl ‹_› | exact kdm ‹_› | exact Nat.le_of_ble_eq_true rfl | exact mdl ‹_› rfl | exact mdm ‹_› rfl | (simp only [List.length_cons, List.length_nil, List.length_map, List.length_append, List.length_take, List.length_drop]; omega)) ?_; clear I; intro g s v hs I hx; replace hb := Sub.trans hb hs; replace V := Rs.mono V hs; replace L0 := L0.mono hs; clear hs; replace V := Rs.cons hx V; clear hx; refine o_add_tup I (Rs.h2 V) (Rs.h0 V) (by first | exact kdl ‹_› | exact kdm ‹_› | exact Nat.le_of_ble_eq_true rfl | exact mdl ‹_› rfl | exact mdm ‹_› rfl | (simp only [List.length_cons, List.length_nil, List.length_map, List.length_append, List.length_take, List.length_drop]; omega)) ?_; clear I; intro g s v hs I hx; replace hb := Sub.trans hb hs; replace V := Rs.mono V hs; replace L0 := L0.mono hs; clear hs; replace V := Rs.cons hx V; clear hx; (with_reducible refine opq (by assumption) ?_); (with_reducible refine opq (by assumption) ?_); (with_reducible refine opq (by assumption) ?_)
              refine ⟨_, _, 4, _, I, rfl, xs', rfl, ?_, ?_⟩
              · rw [commonAt_alike ha]
                exact L0.mono (by first | assumption | exact Sub.refl _)
              · rw [commonAt_alike ha, Tm.d_mk]
                exact Rs.h0 V
        | false =>
          refine ite_f (by decide) ?_
          (with_reducible refine wpAny_execs_nil ?_); (with_reducible refine opq (by assumption) ?_); (with_reducible refine execs_cons' ?_; intro Qk hQ); (with_reducible refine wpAny_If ?_); refine wpAny_isTrue_Compare1 ?_; refine n_cell (i := 3) I rfl rfl rfl rfl rfl ?_; refine n_cell (i := 2) I rfl rfl rfl rfl rfl ?_
          refine tb_notin (i := 4) R I rfl L0 (Rs.h2 V) (fun t ht => (hok t ht).mono (by first | decide | exact lle ‹_› rfl | exact llt ‹_› rfl | exact lll ‹_› rfl | exact llm ‹_› rfl | omega)) ?_
          clear I; intro s I
          (with_reducible refine wpAny_truthy_bool ?_)
          by_cases hin : (t0 :: r) ∈ names
          · refine ite_f (by simp [hin]) ?_
            (with_reducible refine wpAny_execs_nil ?_); (with_reducible refine opq (by assumption) ?_); (with_reducible refine execs_cons' ?_; intro Qk hQ); (with_reducible refine wpAny_Return_some ?_); (with_reducible refine Subscript_ ?_); refine n_cell (i := 2) I rfl rfl rfl rfl rfl ?_; refine n_cell (i := 3) I rfl rfl rfl rfl rfl ?_
            refine tb_item (i := 4) R I rfl L0 (Rs.h2 V) (fun t ht => (hok t ht).mono (by first | decide | exact lle ‹_› rfl | exact llt ‹_› rfl | exact lll ‹_› rfl | exact llm ‹_› rfl | omega)) hin ?_
            clear I; intro s vr I hvr
            (with_reducible refine opq (by assumption) ?_); (with_reducible refine opq (by assumption) ?_)
            refine ⟨_, _, 4, _, I, rfl, xs, rfl, ?_, ?_⟩
            · rw [commonAt_apart ha]
              show NRd g xs (if (t0 :: r) ∈ names then names else names ++ [t0 :: r])
              rw [if_pos hin]; exact L0
            · rw [commonAt_apart ha]
              show Rd g vr (Tm.mk (vname ((if (t0 :: r) ∈ names then names else names ++ [t0 :: r]).idxOf (t0 :: r))) []).d
              rw [if_pos hin]; exact hvr
          · have h2n : 1 ≤ 2 ^ (n + 1) := Nat.one_le_two_pow
            refine ite_t (by simp [hin]) ?_
            (with_reducible refine execs_cons' ?_; intro Qk hQ); refine wpAny_Assign_Subscript ?_; (with_reducible refine Tuple_ ?_); refine args_cons ?_
            refine f_name I fun s I => ?_
            refine x_bi W hb I (by decide) (by boot_by_name) rfl rfl rfl rfl (by decide) rfl rfl rfl ?_; refine args_cons ?_; refine n_cell (i := 2) I rfl rfl rfl rfl rfl ?_; (with_reducible refine args_nil ?_)
            refine tb_len (i := 4) I rfl L0 (by first | decide | exact lle ‹_› rfl | exact llt ‹_› rfl | exact lll ‹_› rfl | exact llm ‹_› rfl | omega) ?_
            clear I; intro s tk I
            refine ⟨names.length, tk, _, _, rfl, by omega, I, ?_⟩
            clear I; intro s tk2 I
            (with_reducible refine args_nil ?_); refine d_tuple I (.cons Rd.str .nil) (by first | exact kdl ‹_› | exact kdm ‹_› | exact Nat.le_of_ble_eq_true rfl | exact mdl ‹_› rfl | exact mdm ‹_› rfl | (simp only [List.length_cons, List.length_nil, List.length_map, List.length_append, List.length_take, List.length_drop]; omega)) ?_; clear I; intro g s v hs I hx; replace hb := Sub.trans hb hs; replace V := Rs.mono V hs; replace L0 := L0.mono hs; clear hs; replace V := Rs.cons hx V; clear hx; refine n_cell (i := 2) I rfl rfl rfl rfl rfl ?_; refine n_cell (i := 3) I rfl rfl rfl rfl rfl ?_
            have hvn : Rd g v (Tm.mk (vname names.length) []).d := by rw [Tm.d_mk]; exact Rs.h0 V
            refine tb_set (i := 4) R I rfl L0 (Rs.h3 V) (fun t ht => (hok t ht).mono (by first | decide | exact lle ‹_› rfl | exact llt ‹_› rfl | exact lll ‹_› rfl | exact llm ‹_› rfl | omega)) hin hvn (by first | decide | exact lle ‹_› rfl | exact llt ‹_› rfl | exact lll ‹_› rfl | exact llm ‹_› rfl | omega) ?_
            clear I; intro s xs2 L1 I
            (with_reducible refine opq (by assumption) ?_); (with_reducible refine wpAny_execs_nil ?_); (with_reducible refine opq (by assumption) ?_); (with_reducible refine execs_cons' ?_; intro Qk hQ); (with_reducible refine wpAny_Return_some ?_); (with_reducible refine Subscript_ ?_); refine n_cell (i := 2) I rfl rfl rfl rfl rfl ?_; refine n_cell (i := 3) I rfl rfl rfl rfl rfl ?_
            refine tb_item (i := 4) R I rfl L1 (Rs.h3 V) (fun t ht => (hok t ht).mono (by first | decide | exact lle ‹_› rfl | exact llt ‹_› rfl | exact lll ‹_› rfl | exact llm ‹_› rfl | omega)) (by simp) ?_
            clear I; intro s vr I hvr
            (with_reducible refine opq (by assumption) ?_); (with_reducible refine opq (by assumption) ?_)
            refine ⟨_, _, 4, _, I, rfl, xs2, rfl, ?_, ?_⟩
            · rw [commonAt_apart ha]
              show NRd _ xs2 (if (t0 :: r) ∈ names then names else names ++ [t0 :: r])
              rw [if_neg hin]; exact L1
            · rw [commonAt_apart ha]
              show Rd _ vr (Tm.mk (vname ((if (t0 :: r) ∈ names then names else names ++ [t0 :: r]).idxOf (t0 :: r))) []).d
              rw [if_neg hin]; exact hvr
end
end

end Mine
end

section
open PySem PySem.W PyProof.Rows PySem.Calls
set_option tactic.hygienic false
set_option linter.all false
set_option maxRecDepth 100000
set_option maxHeartbeats 2000000
namespace Mine
section
variable {prog : Program} {w : World} {A : Around} {g h₀ : Heap} {mg mb : Str → Option Value} {F : Nat → Addr} {v : Value}

noncomputable def lgg (n : Nat) (c : List Tm) : Tm := (commonAt n c []).1

theorem SeqAtD.mono {g g' : Heap} {v : Value} {ds : List PyData} (x : SeqAtD g v ds) (h : Sub g g') : SeqAtD g' v ds := x.imp (fun y => y.mono h) (fun y => y.mono h)

theorem w_commonOf (W : Wd h₀ mg mb F) (hb : Sub h₀ g) {n : Nat} (R : Room A (n + 5)) (hn : n ≤ 6) {c : List Tm} (hc0 : c ≠ []) (hcl : c.length ≤ 100) (hok : ∀ t ∈ c, Ok n t) (L0 : SeqAtD g v (c.map Tm.d)) :
    Pure prog w A g (F 16) [v] (fun g' r => Rd g' r (lgg n c).d) := by
  refine Pure.of W 16 (by decide) hb R [(Str.ofString "terms", v)] (fun zz zz zz => rfl) (kindsX rfl) (by decide) rfl rfl rfl (fun s L code s₁ Qk hQ => ?_)
  intro env R I
  have V : Rs g [] := trivial
  have h2n : 2 ^ n ≤ 2 ^ 6 := Nat.pow_le_pow_right (by first | decide | exact lle ‹_› rfl | exact llt ‹_› rfl | exact lll ‹_› rfl | exact llm ‹_› rfl | omega) hn
  refine execs_cons' ?_; intro Qk hQ
  (with_reducible refine wpAny_Return_some ?_); refine x_def W hb I rfl rfl rfl rfl rfl rfl ?_; refine args_cons ?_; refine x_ty W hb I (by decide) (by boot_by_name) rfl rfl rfl rfl (by decide) rfl rfl rfl ?_; refine args_cons ?_; refine n_local (i := 0) I rfl rfl rfl (by rfl) rfl ?_; (with_reducible refine args_nil ?_)
  refine b_tuple_any I L0 (by simp; omega) ?_
  clear I; intro g s r hs I hx
  replace hb := Sub.trans hb hs; replace V := Rs.mono V hs; replace L0 := L0.mono hs; clear hs
  replace V := Rs.cons hx V
  refine args_cons ?_
  refine dd_empty W.toBase hb I ?_
  clear I; intro td s htd hlo _ I
  replace I := I.imp (i := 0) rfl (tab_empty (prog := prog) (w := w) hlo)
  (with_reducible refine args_nil ?_)
  refine ⟨hb.trans I.own.sub, ?_⟩
  refine (w_commonAt W n hn hc0 hcl hok (by simp; omega) hb R.dn (Rs.h0 V) NRd.nil).use (i := 0) I rfl ?_
  clear I; intro g s rv P' hs I hP
  obtain ⟨xs2, rfl, L1, hrv⟩ := hP
  (with_reducible refine opq (by assumption) ?_); (with_reducible refine opq (by assumption) ?_)
  exact ⟨_, _, I, hrv⟩

theorem w_common (W : Wd h₀ mg mb F) (hb : Sub h₀ g) {n : Nat} (R : Room A (n + 7)) (hn : n ≤ 6) {a b : Tm} {va vb : Value} (ha : Ok n a) (hb2 : Ok n b) (hva : Rd g va a.d) (hvb : Rd g vb b.d) :
    Pure prog w A g (F 15) [va, vb] (fun g' r => Rd g' r (lgg n [a, b]).d) := by
  refine Pure.of W 15 (by decide) hb R [(Str.ofString "one", va), (Str.ofString "other", vb)] (fun zz zz zz => rfl) (kindsX rfl) (by decide) rfl rfl rfl (fun s L code s₁ Qk hQ => ?_)
  intro env R I
  have V : Rs g [(va, a.d), (vb, b.d)] := ⟨hva, hvb, trivial⟩
  refine execs_cons' ?_; intro Qk hQ
  (with_reducible refine wpAny_Return_some ?_); refine x_def W hb I rfl rfl rfl rfl rfl rfl ?_; refine args_cons ?_; (with_reducible refine Tuple_ ?_); refine args_cons ?_; refine n_local (i := 0) I rfl rfl rfl (by rfl) rfl ?_; refine args_cons ?_; refine n_local (i := 0) I rfl rfl rfl (by rfl) rfl ?_; (with_reducible refine args_nil ?_); refine d_tuple I (.cons (Rs.h0 V) (.cons (Rs.h1 V) .nil)) (by first | exact kdl ‹_› | exact kdm ‹_› | exact Nat.le_of_ble_eq_true rfl | exact mdl ‹_› rfl | exact mdm ‹_› rfl | (simp only [List.length_cons, List.length_nil, List.length_map, List.length_append, List.length_take, List.length_drop]; omega)) ?_; clear I; intro g s v hs I hx; replace hb := Sub.trans hb hs; replace V := Rs.mono V hs; clear hs; replace V := Rs.cons hx V; clear hx; (with_reducible refine args_nil ?_)
  refine ⟨hb.trans I.own.sub, ?_⟩
  refine (w_commonOf W hb (n := n) R.dn hn (c := [a, b]) (by simp) (by simp) (fun t ht => ?_) (.inr (Rs.h0 V))).use I ?_
  · rcases List.mem_cons.mp ht with rfl | ht
    · exact ha
    · rw [List.mem_singleton.mp ht]; exact hb2
  clear I; intro g s r hs I hx
  (with_reducible refine opq (by assumption) ?_); (with_reducible refine opq (by assumption) ?_)
  exact ⟨_, _, I, hx⟩
end

end Mine
end

section
open PySem PySem.W PyProof.Rows PySem.Calls
set_option tactic.hygienic false
set_option linter.all false
set_option maxRecDepth 100000
set_option maxHeartbeats 2000000
namespace Mine
section
variable {prog : Program} {w : World} {A : Around} {g h₀ : Heap} {mg mb : Str → Option Value} {F : Nat → Addr} {v : Value}

noncomputable def SRd (g : Heap) (kvs : List (Str × Value)) (n : Nat) : Prop :=
  ∃ vc, ∃ cells : List Int, ∃ t, kvs = [(Str.ofString "cells", vc), (Str.ofString "at", .int (n : Int) t)] ∧ Rd g vc (.list (cells.map PyData.int)) ∧ cells.length ≤ 50
theorem SRd.mono {g g' : Heap} {kvs : List (Str × Value)} {n : Nat} (x : SRd g kvs n) (h : Sub g g') : SRd g' kvs n := let ⟨vc, c, t, e, h1, h2⟩ := x; ⟨vc, c, t, e, h1.mono h, h2⟩

theorem fmod_nat {a : Int} {m : Nat} (h : 0 < m) : ∃ k : Nat, k < m ∧ a.fmod (m : Int) = (k : Int) := by
  have h1 : 0 ≤ a.fmod (m : Int) := Int.fmod_nonneg_of_pos _ (by first | decide | exact lle ‹_› rfl | exact llt ‹_› rfl | exact lll ‹_› rfl | exact llm ‹_› rfl | omega)
  have h2 : a.fmod (m : Int) < m := Int.fmod_lt_of_pos _ (by first | decide | exact lle ‹_› rfl | exact llt ‹_› rfl | exact lll ‹_› rfl | exact llm ‹_› rfl | omega)
  exact ⟨(a.fmod (m : Int)).toNat, by omega, by omega⟩

theorem w_draw (W : Wd h₀ mg mb F) (hb : Sub h₀ g) (R : Room A 3) {sd : Addr} {kvs : List (Str × Value)} {m n : Nat} {tm : Tok} (hm : 0 < m) (hn : n ≤ 1000) (L0 : SRd g kvs n) :
    Eff1 prog w A g (F 20) [.ref sd, .int m tm] sd (dP (strKind prog w) sd kvs) (fun g' P' r => ∃ kvs', ∃ k : Nat, ∃ t, P' = dP (strKind prog w) sd kvs' ∧ SRd g' kvs' (n + 1) ∧ k < m ∧ r = .int k t) := by
  obtain ⟨vc, cells, tt, rfl, hvc, hcl⟩ := L0
  refine Eff1.of W 20 (by decide) hb R [(Str.ofString "src", .ref sd), (Str.ofString "many", .int m tm)] (fun zz zz zz => rfl) (kindsX rfl) (by decide) rfl rfl rfl (fun s L code s₁ Qk hQ => ?_)
  intro env R I
  have V : Rs g [(vc, .list (cells.map PyData.int))] := ⟨hvc, trivial⟩
  refine execs_cons' ?_; intro Qk hQ
  refine wpAny_Assign_Name ?_; (with_reducible refine Subscript_ ?_); refine n_local (i := 0) I rfl rfl rfl (by rfl) rfl ?_; (with_reducible refine c_str I ?_; clear I; intro s t I)
  refine dd_item (v := .int (n : Int) tt) I (I.dat (i := 1) rfl) (strKind_is _ _ _ _) rfl ?_
  clear I; intro s I
  refine st_local (i := 0) I rfl rfl rfl ?_; clear I; intro s I; (with_reducible refine opq (by assumption) ?_); (with_reducible refine execs_cons' ?_; intro Qk hQ); refine wpAny_Assign_Subscript ?_; (with_reducible refine wpAny_BinOp ?_); refine n_local (i := 0) I rfl rfl rfl (by rfl) rfl ?_; (with_reducible refine c_int I ?_; clear I; intro s t I); (with_reducible refine o_add I ?_; clear I; intro s t I); refine n_local (i := 0) I rfl rfl rfl (by rfl) rfl ?_; (with_reducible refine c_str I ?_; clear I; intro s t I)
  refine dd_set (i := 1) I rfl (strKind_is _ _ _ _) (by simp) ?_
  clear I; intro s I
  replace I : In g [sd] _ g [(L, _), (sd, dP (strKind prog w) sd [(Str.ofString "cells", vc), (Str.ofString "at", .int ((n + 1 : Nat) : Int) _)])] s := I
  (with_reducible refine opq (by assumption) ?_); (with_reducible refine execs_cons' ?_; intro Qk hQ); (with_reducible refine wpAny_Return_some ?_); (with_reducible refine wpAny_BinOp ?_); (with_reducible refine IfExp_ ?_); refine wpAny_isTrue_Compare1 ?_; refine n_local (i := 0) I rfl rfl rfl (by rfl) rfl ?_; refine x_bi W hb I (by decide) (by boot_by_name) rfl rfl rfl rfl (by decide) rfl rfl rfl ?_; refine args_cons ?_; (with_reducible refine Subscript_ ?_); refine n_local (i := 0) I rfl rfl rfl (by rfl) rfl ?_; (with_reducible refine c_str I ?_; clear I; intro s t I)
  refine dd_item (v := vc) I (I.dat (i := 1) rfl) (strKind_is _ _ _ _) rfl ?_
  clear I; intro s I
  (with_reducible refine args_nil ?_); refine b_len_lst I (Rs.h0 V) (by first | exact kdl ‹_› | exact kdm ‹_› | exact Nat.le_of_ble_eq_true rfl | exact mdl ‹_› rfl | exact mdm ‹_› rfl | (simp only [List.length_cons, List.length_nil, List.length_map, List.length_append, List.length_take, List.length_drop]; omega)) ?_; clear I; intro s t I; (with_reducible refine PyProof.Rows.lt_int ?_); (with_reducible refine wpAny_truthy_bool ?_)
  by_cases hlt : n < cells.length
  · refine ite_t (by simp; omega) ?_
    (with_reducible refine Subscript_ ?_); (with_reducible refine Subscript_ ?_); refine n_local (i := 0) I rfl rfl rfl (by rfl) rfl ?_; (with_reducible refine c_str I ?_; clear I; intro s t I)
    refine dd_item (v := vc) I (I.dat (i := 1) rfl) (strKind_is _ _ _ _) rfl ?_
    clear I; intro s I
    refine n_local (i := 0) I rfl rfl rfl (by rfl) rfl ?_
    refine i_lst (k := n) (d := .int cells[n]) I (Rs.h0 V) (by simp [hlt]) (by simp; omega) ?_
    intro v hx
    obtain ⟨tv, rfl⟩ := hx.int_inv
    refine n_local (i := 0) I rfl rfl rfl (by rfl) rfl ?_
    refine o_mod I (by first | decide | exact lle ‹_› rfl | exact llt ‹_› rfl | exact lll ‹_› rfl | exact llm ‹_› rfl | omega) ?_
    clear I; intro s tr I
    obtain ⟨k, hk, e⟩ := fmod_nat (a := cells[n]) hm
    rw [e]
    (with_reducible refine opq (by assumption) ?_); (with_reducible refine opq (by assumption) ?_)
    exact ⟨_, _, 1, _, I, rfl, _, k, tr, rfl, ⟨vc, cells, _, rfl, hvc, hcl⟩, hk, rfl⟩
  · refine ite_f (by simp; omega) ?_
    (with_reducible refine wpAny_BinOp ?_); (with_reducible refine wpAny_BinOp ?_); (with_reducible refine wpAny_BinOp ?_); refine n_local (i := 0) I rfl rfl rfl (by rfl) rfl ?_; refine n_local (i := 0) I rfl rfl rfl (by rfl) rfl ?_
    refine o_mul (k := n) I rfl (by first | decide | exact lle ‹_› rfl | exact llt ‹_› rfl | exact lll ‹_› rfl | exact llm ‹_› rfl | omega) ?_
    clear I; intro s t1 I
    (with_reducible refine wpAny_BinOp ?_); (with_reducible refine c_int I ?_; clear I; intro s t I); refine n_local (i := 0) I rfl rfl rfl (by rfl) rfl ?_
    refine o_mul (k := 5) I rfl (by first | decide | exact lle ‹_› rfl | exact llt ‹_› rfl | exact lll ‹_› rfl | exact llm ‹_› rfl | omega) ?_
    clear I; intro s t2 I
    (with_reducible refine o_add I ?_; clear I; intro s t I); (with_reducible refine c_int I ?_; clear I; intro s t I); (with_reducible refine o_add I ?_; clear I; intro s t I); refine n_local (i := 0) I rfl rfl rfl (by rfl) rfl ?_
    refine o_mod I (by first | decide | exact lle ‹_› rfl | exact llt ‹_› rfl | exact lll ‹_› rfl | exact llm ‹_› rfl | omega) ?_
    clear I; intro s tr I
    obtain ⟨k, hk, e⟩ := fmod_nat (a := (n : Int) * n + 5 * n + 1) hm
    rw [e]
    (with_reducible refine opq (by assumption) ?_); (with_reducible refine opq (by assumption) ?_)
    exact ⟨_, _, 1, _, I, rfl, _, k, tr, rfl, ⟨vc, cells, _, rfl, hvc, hcl⟩, hk, rfl⟩
end

end Mine
end

section
open PySem PySem.W PyProof.Rows PySem.Calls
set_option tactic.hygienic false
set_option linter.all false
namespace Mine
theorem lt4 : ∀ k : Nat, k < 4 → (k = 0 ∨ k = 1 ∨ k = 2 ∨ k = 3) := by decide
theorem lt3 : ∀ k : Nat, k < 3 → (k = 0 ∨ k = 1 ∨ k = 2) := by decide

noncomputable def dar (op : Str) : Option Nat :=
  if op = Str.ofString "a" then some 0 else if op = Str.ofString "b" then some 0 else if op = Str.ofString "f" then some 1 else if op = Str.ofString "g" then some 2 else if op = Str.ofString "h" then some 1 else none
noncomputable def Gr : Nat → Tm → Prop
  | 0, _ => False
  | n + 1, .mk op ks => dar op = some ks.length ∧ op ≠ Str.ofString "h" ∧ ∀ k ∈ ks, Gr n k
set_option tactic.hygienic true in
theorem dar_cases {op : Str} {k : Nat} (h : dar op = some k) : (op = Str.ofString "a" ∧ k = 0) ∨ (op = Str.ofString "b" ∧ k = 0) ∨ (op = Str.ofString "f" ∧ k = 1) ∨ (op = Str.ofString "g" ∧ k = 2) ∨ (op = Str.ofString "h" ∧ k = 1) := by
  unfold dar at h
  split at h
  · rename_i e; cases h; exact .inl ⟨e, rfl⟩
  split at h
  · rename_i e; cases h; exact .inr (.inl ⟨e, rfl⟩)
  split at h
  · rename_i e; cases h; exact .inr (.inr (.inl ⟨e, rfl⟩))
  split at h
  · rename_i e; cases h; exact .inr (.inr (.inr (.inl ⟨e, rfl⟩)))
  split at h
  · rename_i e; cases h; exact .inr (.inr (.inr (.inr ⟨e, rfl⟩)))
  cases h
theorem dar_ok {op : Str} {k : Nat} (h : dar op = some k) : op.length ≤ 8 ∧ PyData.strOk op = true ∧ k ≤ 2 ∧ isV op = false := by
  rcases dar_cases h with ⟨rfl, rfl⟩ | ⟨rfl, rfl⟩ | ⟨rfl, rfl⟩ | ⟨rfl, rfl⟩ | ⟨rfl, rfl⟩ <;> exact ⟨by decide, by decide +kernel, by decide, by decide +kernel⟩
theorem Gr.ok : ∀ {n : Nat} {t : Tm}, Gr n t → Ok n t
  | 0, _, h => h.elim
  | n + 1, .mk op ks, h => ⟨(dar_ok h.1).1, (dar_ok h.1).2.1, (dar_ok h.1).2.2.1, fun k hk => (h.2.2 k hk).ok⟩
theorem Gr.mono : ∀ {n m : Nat} {t : Tm}, Gr n t → n ≤ m → Gr m t
  | 0, _, _, h, _ => h.elim
  | n + 1, 0, _, _, h => by omega
  | n + 1, m + 1, .mk op ks, h, hm => ⟨h.1, h.2.1, fun k hk => (h.2.2 k hk).mono (by first | decide | exact lle ‹_› rfl | exact llt ‹_› rfl | exact lll ‹_› rfl | exact llm ‹_› rfl | omega)⟩
noncomputable def Pv : Nat → Tm → Prop
  | 0, _ => False
  | n + 1, .mk op ks => ((isV op = true ∧ ks = [] ∧ op.length ≤ 8 ∧ PyData.strOk op = true) ∨ (dar op = some ks.length ∧ op ≠ Str.ofString "h")) ∧ ∀ k ∈ ks, Pv n k
theorem Gr.pv : ∀ {n : Nat} {t : Tm}, Gr n t → Pv n t
  | 0, _, h => h.elim
  | _ + 1, .mk _ _, h => ⟨.inr ⟨h.1, h.2.1⟩, fun k hk => (h.2.2 k hk).pv⟩
theorem Pv.ok : ∀ {n : Nat} {t : Tm}, Pv n t → Ok n t
  | 0, _, h => h.elim
  | _ + 1, .mk _ _, ⟨.inl ⟨_, h2, h3, h4⟩, h⟩ => ⟨h3, h4, by rw [h2]; decide, fun k hk => (h k hk).ok⟩
  | _ + 1, .mk _ _, ⟨.inr ⟨h1, _⟩, h⟩ => ⟨(dar_ok h1).1, (dar_ok h1).2.1, (dar_ok h1).2.2.1, fun k hk => (h k hk).ok⟩
theorem Pv.mono : ∀ {n m : Nat} {t : Tm}, Pv n t → n ≤ m → Pv m t
  | 0, _, _, h, _ => h.elim
  | _ + 1, 0, _, _, h => by omega
  | _ + 1, _ + 1, .mk _ _, h, hm => ⟨h.1, fun k hk => (h.2 k hk).mono (by first | decide | exact lle ‹_› rfl | exact llt ‹_› rfl | exact lll ‹_› rfl | exact llm ‹_› rfl | omega)⟩
end Mine
end

section
open PySem PySem.W PyProof.Rows PySem.Calls
set_option tactic.hygienic false
set_option linter.all false
set_option maxRecDepth 100000
set_option maxHeartbeats 2000000
namespace Mine
section
variable {prog : Program} {w : World} {A : Around} {g h₀ : Heap} {mg mb : Str → Option Value} {F : Nat → Addr} {v : Value}

noncomputable def drF (prog : Program) (w : World) (L sd : Addr) (m : Str → Option Value) (fl : Nat) (tf : Tok) (kvs : List (Str × Value)) : List Res :=
  [(L, nsP m), (L + 1 + 1, cellP (some (.int (fl : Int) tf))), (L + 1, cellP (some (.ref sd))), (sd, dP (strKind prog w) sd kvs)]
theorem w_drawn (W : Wd h₀ mg mb F) {sd : Addr} : ∀ (fl : Nat) {A : Around} {g : Heap} {kvs : List (Str × Value)} {n : Nat} {tf : Tok}, fl ≤ 4 → Sub h₀ g → Room A (fl + 5) → n + 2 ^ (fl + 1) ≤ 1000 → SRd g kvs n →
    Eff1 prog w A g (F 21) [.ref sd, .int (fl : Int) tf] sd (dP (strKind prog w) sd kvs) (fun g' P' r => ∃ kvs', ∃ n' : Nat, ∃ t : Tm, P' = dP (strKind prog w) sd kvs' ∧ SRd g' kvs' n' ∧ n' + 1 ≤ n + 2 ^ (fl + 1) ∧ Gr (fl + 1) t ∧ Rd g' r t.d) := by
  intro fl
  induction fl using Nat.strongRecOn with
  | _ fl ih =>
    intro A g0 kvs n tf hfl hb R hn L0
    refine Eff1.of W 21 (by decide) hb R [(Str.ofString "src", .ref sd), (Str.ofString "floors", .int (fl : Int) tf)] (fun zz zz zz => rfl) (kindsX rfl) (by decide) rfl rfl rfl (fun s0 L code s₁ Qk hQ => ?_)
    intro env R I
    have V : Rs g0 [] := trivial
    have h2p : 1 ≤ 2 ^ fl := Nat.one_le_two_pow
    have hn1 : n ≤ 1000 := Nat.le_trans (Nat.le_add_right _ _) hn
    rw [Nat.pow_succ] at hn
    refine execs_cons' ?_; intro Qk hQ
    refine wpAny_Assign_Name ?_
    refine wpAny_mono (Q := fun v s1 => ∃ k : Nat, ∃ tk g1 kvs1, v = .int (k : Int) tk ∧ k < 4 ∧ (2 ≤ k → 0 < fl) ∧ Sub g0 g1 ∧ SRd g1 kvs1 (n + 1) ∧ In g0 [sd] s0 g1 (drF prog w L sd (bindL env.kindOf [(Str.ofString "src", .ref sd), (Str.ofString "floors", .int (fl : Int) tf)] fun zz => none) fl tf kvs1) s1) ?_ (fun v s1 h1 => ?_) fun zz zz e => e
    · (with_reducible refine IfExp_ ?_); refine wpAny_isTrue_Compare1 ?_; refine n_cell (i := 1) I rfl rfl rfl rfl rfl ?_; (with_reducible refine c_int I ?_; clear I; intro s t I); (with_reducible refine PyProof.Rows.gt_int ?_); (with_reducible refine wpAny_truthy_bool ?_)
      by_cases h0 : 0 < fl
      · refine ite_t (decide_eq_true (Int.natCast_pos.mpr h0)) ?_
        refine x_def W hb I rfl rfl rfl rfl rfl rfl ?_; refine args_cons ?_; refine n_cell (i := 2) I rfl rfl rfl rfl rfl ?_; refine args_cons ?_; (with_reducible refine c_int I ?_; clear I; intro s t I); (with_reducible refine args_nil ?_)
        refine ⟨hb.trans I.own.sub, ?_⟩
        refine (w_draw W hb (m := 4) R.dn (by decide) (hn1) L0).use (i := 3) I rfl ?_
        clear I; intro g s r P' hs I hP
        obtain ⟨kvs1, k, tk, rfl, L1, hk, rfl⟩ := hP
        exact ⟨k, tk, g, kvs1, rfl, hk, fun zz => h0, hs, L1, I⟩
      · refine ite_f (fun h => h0 (Int.natCast_pos.mp (of_decide_eq_true h))) ?_
        refine x_def W hb I rfl rfl rfl rfl rfl rfl ?_; refine args_cons ?_; refine n_cell (i := 2) I rfl rfl rfl rfl rfl ?_; refine args_cons ?_; (with_reducible refine c_int I ?_; clear I; intro s t I); (with_reducible refine args_nil ?_)
        refine ⟨hb.trans I.own.sub, ?_⟩
        refine (w_draw W hb (m := 2) R.dn (by decide) (hn1) L0).use (i := 3) I rfl ?_
        clear I; intro g s r P' hs I hP
        obtain ⟨kvs1, k, tk, rfl, L1, hk, rfl⟩ := hP
        exact ⟨k, tk, g, kvs1, rfl, Nat.lt_of_lt_of_le hk (by decide), fun h => absurd hk (Nat.not_lt.mpr h), hs, L1, I⟩
    obtain ⟨k, tk, g1, kvs1, rfl, hk4, hkf, hs, L1, I⟩ := h1
    replace hb := Sub.trans hb hs; replace V := Rs.mono V hs; replace L0 := L0.mono hs; clear hs
    refine st_local (i := 0) I rfl rfl rfl ?_; clear I; intro s I; (with_reducible refine opq (by assumption) ?_); (with_reducible refine execs_cons' ?_; intro Qk hQ); refine wpAny_Assign_Name ?_; (with_reducible refine IfExp_ ?_); refine wpAny_isTrue_Compare1 ?_; refine n_local (i := 0) I rfl rfl rfl (by rfl) rfl ?_; (with_reducible refine c_int I ?_; clear I; intro s t I); (with_reducible refine PyProof.Rows.lt_int ?_); (with_reducible refine wpAny_truthy_bool ?_)
    refine ite_wp (Q' := fun v s2 => ∃ (ts : List Tm) (kvs2 : List (Str × Value)) (g2 : Heap) (n2 : Nat) (m2 : Str → Option Value), Sub h₀ g2 ∧ m2 (Str.ofString "way") = some (.int (k : Int) tk) ∧ Rd g2 v (.list (ts.map Tm.d)) ∧ ts.length = (if k < 2 then 0 else if k = 2 then 2 else 1) ∧ (∀ t ∈ ts, Gr fl t) ∧ SRd g2 kvs2 n2 ∧ n2 + 1 ≤ n + 2 ^ (fl + 1) ∧
      In g0 [sd] s0 g2 (drF prog w L sd m2 fl tf kvs2) s2) ?_ (fun v s2 h2 => ?_)
    · by_cases hk2 : k < 2
      · refine ite_t (decide_eq_true (Int.ofNat_lt.mpr hk2)) ?_
        (with_reducible refine List_ ?_); (with_reducible refine args_nil ?_)
        refine d_list I .nil (by simp) ?_
        clear I; intro g s v hs I hx
        replace hb := Sub.trans hb hs; replace V := Rs.mono V hs; replace L0 := L0.mono hs; replace L1 := L1.mono hs; clear hs
        refine ⟨[], kvs1, g, n + 1, _, hb, rfl, hx, by rw [if_pos hk2]; rfl, (fun zz h => nomatch h), L1, ?_, I⟩
        rw [Nat.pow_succ]; exact Nat.add_le_add_left (Nat.mul_le_mul_right 2 h2p) n
      · refine ite_f (fun h => hk2 (Int.ofNat_lt.mp (of_decide_eq_true h))) ?_
        refine x_comp I rfl rfl (by decide) (fun zz => rfl) ?_; refine x_ty W hb I (by decide) (by boot_by_name) rfl rfl rfl rfl (by decide) rfl rfl rfl ?_; refine args_cons ?_; (with_reducible refine Subscript_ ?_); (with_reducible refine List_ ?_); refine args_cons ?_; (with_reducible refine c_int I ?_; clear I; intro s t I); refine args_cons ?_; (with_reducible refine c_int I ?_; clear I; intro s t I); (with_reducible refine args_nil ?_)
        refine d_list I (.cons .int (.cons .int .nil)) (by simp) ?_
        clear I; intro g s v hs I hx
        replace hb := Sub.trans hb hs; replace V := Rs.mono V hs; replace L0 := L0.mono hs; replace L1 := L1.mono hs; clear hs
        replace V := Rs.cons hx V
        clear hx
        (with_reducible refine wpAny_BinOp ?_); (with_reducible refine c_int I ?_; clear I; intro s t I); refine n_local (i := 0) I rfl rfl rfl (by rfl) rfl ?_; (with_reducible refine o_sub I ?_; clear I; intro s t I)
        have hk23 : k = 2 ∨ k = 3 := (Nat.lt_or_eq_of_le (Nat.le_of_lt_succ hk4)).imp (fun h => Nat.le_antisymm (Nat.le_of_lt_succ h) (Nat.le_of_not_lt hk2)) id
        have hfl0 := hkf (Nat.le_of_not_lt hk2)
        obtain ⟨fl', rfl⟩ : ∃ fl', fl = fl' + 1 := ⟨fl - 1, (Nat.sub_add_cancel hfl0).symm⟩
        refine i_lstN (k := 3 - k) (d := .int ((if k = 2 then 2 else 1 : Nat) : Int)) I (Rs.h0 V) (by rcases hk23 with rfl | rfl <;> rfl) (by rcases hk23 with rfl | rfl <;> rfl) (by simp) ?_
        intro v hx
        obtain ⟨tv, rfl⟩ := hx.int_inv
        clear hx
        (with_reducible refine args_nil ?_)
        have hm2 : (if k = 2 then 2 else 1 : Nat) ≤ 2 := by split <;> decide
        generalize hmm : (if k = 2 then 2 else 1 : Nat) = mm at hm2
        refine it_range1 R.hd I (Nat.le_trans hm2 (by decide)) ?_
        clear I; intro it s X
        refine CompK.st (List.range mm) (fun i => .int ((0 + i : Nat) : Int)) (fun i ds g' μ' => ∃ (m1 : Str → Option Value) (kvs' : List (Str × Value)) (n' : Nat) (ts : List Tm), μ' = (drF prog w L sd m1 (fl' + 1) tf kvs') ∧ m1 (Str.ofString "way") = some (.int (k : Int) tk) ∧ SRd g' kvs' n' ∧ n' + i ≤ n + 1 + i * 2 ^ (fl' + 1) ∧ ts.length = i ∧ (∀ t ∈ ts, Gr (fl' + 1) t) ∧ ds = ts.map Tm.d)
          (X _) (by simp [intsFrom]) (by simp [intsFrom]; exact Nat.le_trans hm2 (by decide)) ⟨_, kvs1, n + 1, [], rfl, rfl, L1, Nat.add_le_add_left (Nat.zero_le _) _, rfl, (fun zz h => nomatch h), rfl⟩ (fun C i x v ds g' μ' s' m cm rest hx hs hv hK I => ?_) (fun i ds g' g'' μ' hs hK => ?_) (fun ds g' μ' hs hK y g'' s'' hs' hx I => ?_)
        · intro cenv
          clear X L1
          obtain ⟨m1, kvs', n', ts, rfl, H1, L1, hn', htl, hgr, rfl⟩ := hK
          have hxr := (List.getElem?_eq_some_iff.mp hx).1
          rw [List.length_range] at hxr
          replace hb := hb.trans hs
          clear hs V
          have HB := Sub.refl g'
          have V : Rs g' [] := trivial
          obtain ⟨ti, rfl⟩ := Rd.int_inv hv
          clear hv hx
          have h3 : i * 2 ^ (fl' + 1) + 1 ≤ 2 ^ (fl' + 1) + i := by
            rcases Nat.lt_or_eq_of_le (Nat.le_of_lt_succ (Nat.lt_of_lt_of_le hxr hm2)) with h | rfl
            · obtain rfl := Nat.lt_one_iff.mp h
              rw [Nat.zero_mul]; exact Nat.one_le_two_pow
            · rw [Nat.one_mul]; exact Nat.le_refl _
          have hA : n' ≤ n + 2 ^ (fl' + 1) := by
            have h4 := Nat.le_trans hn' (show n + 1 + i * 2 ^ (fl' + 1) ≤ n + (2 ^ (fl' + 1) + i) by rw [Nat.add_assoc, Nat.add_comm 1]; exact Nat.add_le_add_left h3 n)
            rw [← Nat.add_assoc] at h4
            exact Nat.le_of_add_le_add_right h4
          (with_reducible refine wpAny_assign_Name ?_); refine st_local (i := 0) I rfl rfl rfl ?_; clear I; intro s I; refine x_def W hb I rfl rfl rfl rfl rfl rfl ?_; refine args_cons ?_; refine n_cell (i := 3) I rfl rfl rfl rfl rfl ?_; refine args_cons ?_; (with_reducible refine wpAny_BinOp ?_); refine n_cell (i := 2) I rfl rfl rfl rfl rfl ?_; (with_reducible refine c_int I ?_; clear I; intro s t I); (with_reducible refine o_sub I ?_; clear I; intro s t I); (with_reducible refine args_nil ?_)
          refine ⟨hb.trans I.own.sub, ?_⟩
          rw [show (((fl' + 1 : Nat) : Int) - 1) = (fl' : Int) from Int.add_sub_cancel (fl' : Int) 1]
          refine (ih fl' (Nat.lt_succ_self fl') (Nat.le_of_succ_le hfl) hb R.dn (Nat.le_trans (Nat.add_le_add_right hA _) (by rw [Nat.add_assoc, ← Nat.mul_two]; exact hn)) L1).use (i := 4) I rfl ?_
          clear I; intro g s r P' hs I hP
          obtain ⟨kvs3, n3, t3, rfl, L3, hn3, hg3, hr3⟩ := hP
          refine ⟨g, drF prog w L sd _ _ _ _, _, fun zz => none, _, HB.trans hs, I, hr3, m1, kvs3, n3, ts ++ [t3], rfl, H1, L3, ?_, by simp [htl], ?_, by simp⟩
          · rw [Nat.succ_mul, ← Nat.add_assoc (n + 1), Nat.add_comm i 1, ← Nat.add_assoc]
            exact Nat.le_trans (Nat.add_le_add_right hn3 i) (by rw [Nat.add_right_comm]; exact Nat.add_le_add_right hn' _)
          · intro t ht
            rcases List.mem_append.mp ht with ht | ht
            · exact hgr t ht
            · rw [List.mem_singleton.mp ht]; exact hg3
        · obtain ⟨m1, kvs', n', ts, rfl, h1, h2, h3⟩ := hK
          exact ⟨m1, kvs', n', ts, rfl, h1, h2.mono hs, h3⟩
        · obtain ⟨m1, kvs', n', ts, rfl, h1, h2, h3, h4, h5, rfl⟩ := hK
          rw [List.length_range] at h3 h4
          refine ⟨ts, kvs', g'', n', m1, (hb.trans hs).trans hs', h1, hx, ?_, h5, h2.mono hs', ?_, I⟩
          · rw [if_neg hk2]; exact h4
          · rw [Nat.pow_succ 2 (fl' + 1)]
            have h7 : 1 ≤ mm := by rw [← hmm]; split <;> decide
            rcases Nat.lt_or_eq_of_le hm2 with h | rfl
            · obtain rfl := Nat.le_antisymm (Nat.le_of_lt_succ h) h7
              exact Nat.le_trans h3 (by rw [Nat.one_mul, Nat.add_assoc, Nat.mul_two]; exact Nat.add_le_add_left (Nat.add_le_add_right Nat.one_le_two_pow _) _)
            · exact Nat.le_of_succ_le_succ (Nat.le_trans h3 (Nat.le_of_eq (by rw [Nat.mul_comm 2, Nat.add_right_comm])))
    · obtain ⟨ts, kvs2, g2, n2, m2, hb, H1, hx, htl, hgr, L2, hn2, I⟩ := h2
      clear V
      have V : Rs g2 [(v, .list (ts.map Tm.d))] := ⟨hx, trivial⟩
      have HB := Sub.refl g2
      have htl2 : ts.length ≤ 2 := by
        rw [htl]
        split
        · decide
        · split <;> decide
      refine st_local (i := 0) I rfl rfl rfl ?_; clear I; intro s I; (with_reducible refine opq (by assumption) ?_); (with_reducible refine execs_cons' ?_; intro Qk hQ); (with_reducible refine wpAny_Return_some ?_); (with_reducible refine wpAny_BinOp ?_); (with_reducible refine Tuple_ ?_); refine args_cons ?_; (with_reducible refine Subscript_ ?_); (with_reducible refine c_str I ?_; clear I; intro s t I); refine n_local (i := 0) I rfl rfl rfl H1 rfl ?_
      refine i_str (c := ([97, 98, 103, 102] : List Nat).getD k 0) I (by rw [Bool.or_eq_false_iff]; constructor <;> simp <;> omega) (by rcases lt4 k hk4 with rfl | rfl | rfl | rfl <;> decide +kernel) ?_
      clear I; intro s tc I
      (with_reducible refine args_nil ?_); refine d_tuple I (.cons Rd.str .nil) (by first | exact kdl ‹_› | exact kdm ‹_› | exact Nat.le_of_ble_eq_true rfl | exact mdl ‹_› rfl | exact mdm ‹_› rfl | (simp only [List.length_cons, List.length_nil, List.length_map, List.length_append, List.length_take, List.length_drop]; omega)) ?_; clear I; intro g s v hs I hx; replace hb := Sub.trans hb hs; replace V := Rs.mono V hs; replace HB := Sub.trans HB hs; clear hs; replace V := Rs.cons hx V; clear hx; refine x_ty W hb I (by decide) (by boot_by_name) rfl rfl rfl rfl (by decide) rfl rfl rfl ?_; refine args_cons ?_; refine n_local (i := 0) I rfl rfl rfl (by rfl) rfl ?_; (with_reducible refine args_nil ?_); refine b_tuple_lst I (Rs.h1 V) (by first | exact kdl ‹_› | exact kdm ‹_› | exact Nat.le_of_ble_eq_true rfl | exact mdl ‹_› rfl | exact mdm ‹_› rfl | (simp only [List.length_cons, List.length_nil, List.length_map, List.length_append, List.length_take, List.length_drop]; omega)) ?_; clear I; intro g s v hs I hx; replace hb := Sub.trans hb hs; replace V := Rs.mono V hs; replace HB := Sub.trans HB hs; clear hs; replace V := Rs.cons hx V; clear hx; refine o_add_tup I (Rs.h1 V) (Rs.h0 V) (by first | exact kdl ‹_› | exact kdm ‹_› | exact Nat.le_of_ble_eq_true rfl | exact mdl ‹_› rfl | exact mdm ‹_› rfl | (simp only [List.length_cons, List.length_nil, List.length_map, List.length_append, List.length_take, List.length_drop]; omega)) ?_; clear I; intro g s v hs I hx; replace hb := Sub.trans hb hs; replace V := Rs.mono V hs; replace HB := Sub.trans HB hs; clear hs; replace V := Rs.cons hx V; clear hx; (with_reducible refine opq (by assumption) ?_); (with_reducible refine opq (by assumption) ?_)
      refine ⟨_, _, 3, _, I, rfl, kvs2, n2, .mk ⟨#[([97, 98, 103, 102] : List Nat).getD k 0]⟩ ts, rfl, L2.mono HB, hn2, ?_, ?_⟩
      · refine ⟨?_, ?_, hgr⟩
        · rw [htl]
          rcases lt4 k hk4 with rfl | rfl | rfl | rfl <;> decide +kernel
        · rcases lt4 k hk4 with rfl | rfl | rfl | rfl <;> decide +kernel
      · rw [Tm.d_mk]; exact Rs.h0 V
end

end Mine
end

section
open PySem PySem.W PyProof.Rows PySem.Calls
set_option tactic.hygienic false
set_option linter.all false
namespace Mine

/-! the laid patterns, floor by floor -/
noncomputable def fT (t : Tm) : Tm := .mk (Str.ofString "f") [t]
noncomputable def gT (a b : Tm) : Tm := .mk (Str.ofString "g") [a, b]
noncomputable def row1 : List Tm := [.mk (Str.ofString "a") [], .mk (Str.ofString "b") [], .mk (Str.ofString "?p") [], .mk (Str.ofString "?q") []]
noncomputable def pairsAt (rows : List (List Tm)) (j : Nat) : List Tm := (rows.getD j []).flatMap fun one => (rows.getD (rows.length - 2 - j) []).map (gT one)
noncomputable def nextRow (rows : List (List Tm)) : List Tm := (rows.getD (rows.length - 1) []).map fT ++ (List.range (rows.length - 1)).flatMap (pairsAt rows)
noncomputable def lrows : Nat → List (List Tm)
  | 0 => [row1]
  | n + 1 => lrows n ++ [nextRow (lrows n)]
theorem lrows_len : ∀ n, (lrows n).length = n + 1
  | 0 => rfl
  | n + 1 => by rw [lrows, List.length_append, lrows_len n]; rfl
theorem lrows_small {n : Nat} (h : n ≤ 3) : ∀ r ∈ lrows n, r.length ≤ 52 ∧ 4 ≤ r.length := by
  have : n = 0 ∨ n = 1 ∨ n = 2 ∨ n = 3 := lt4 n (Nat.lt_succ_of_le ‹_›)
  rcases this with rfl | rfl | rfl | rfl <;> decide
theorem dar_f : dar (Str.ofString "f") = some 1 := by decide
theorem dar_g : dar (Str.ofString "g") = some 2 := by decide
theorem pv_f {n : Nat} {t : Tm} (h : Pv n t) : Pv (n + 1) (fT t) := ⟨.inr ⟨dar_f, by decide⟩, fun k hk => by rw [List.mem_singleton.mp hk]; exact h⟩
theorem pv_g {n : Nat} {a b : Tm} (ha : Pv n a) (hb : Pv n b) : Pv (n + 1) (gT a b) := ⟨.inr ⟨dar_g, by decide⟩, fun k hk => by
  rcases List.mem_cons.mp hk with rfl | hk
  · exact ha
  · rw [List.mem_singleton.mp hk]; exact hb⟩
theorem row1_pv : ∀ t ∈ row1, Pv 1 t := by
  intro t ht
  simp only [row1, List.mem_cons, List.not_mem_nil, or_false] at ht
  rcases ht with rfl | rfl | rfl | rfl
  · exact ⟨.inr ⟨by decide, by decide⟩, fun zz h => nomatch h⟩
  · exact ⟨.inr ⟨by decide, by decide⟩, fun zz h => nomatch h⟩
  · exact ⟨.inl ⟨by decide +kernel, rfl, by decide, by decide +kernel⟩, fun zz h => nomatch h⟩
  · exact ⟨.inl ⟨by decide +kernel, rfl, by decide, by decide +kernel⟩, fun zz h => nomatch h⟩
theorem getD_pv {rows : List (List Tm)} {n j : Nat} (h : ∀ r ∈ rows, ∀ t ∈ r, Pv n t) : ∀ t ∈ rows.getD j [], Pv n t := by
  intro t ht
  rw [List.getD_eq_getElem?_getD] at ht
  cases e : rows[j]? with
  | none => rw [e] at ht; simp at ht
  | some r => rw [e] at ht; exact h r (List.mem_of_getElem? e) t ht
theorem nextRow_pv {rows : List (List Tm)} {n : Nat} (h : ∀ r ∈ rows, ∀ t ∈ r, Pv n t) : ∀ t ∈ nextRow rows, Pv (n + 1) t := by
  intro t ht
  unfold nextRow at ht
  rcases List.mem_append.mp ht with ht | ht
  · obtain ⟨u, hu, rfl⟩ := List.mem_map.mp ht
    exact pv_f (getD_pv h u hu)
  · obtain ⟨j, _, ht⟩ := List.mem_flatMap.mp ht
    obtain ⟨one, h1, ht⟩ := List.mem_flatMap.mp ht
    obtain ⟨o2, h2, rfl⟩ := List.mem_map.mp ht
    exact pv_g (getD_pv h one h1) (getD_pv h o2 h2)
theorem lrows_pv : ∀ n, ∀ r ∈ lrows n, ∀ t ∈ r, Pv (n + 1) t
  | 0 => by intro r hr; rw [List.mem_singleton.mp hr]; exact row1_pv
  | n + 1 => by
    intro r hr t ht
    rcases List.mem_append.mp hr with hr | hr
    · exact (lrows_pv n r hr t ht).mono (by first | decide | exact lle ‹_› rfl | exact llt ‹_› rfl | exact lll ‹_› rfl | exact llm ‹_› rfl | omega)
    · rw [List.mem_singleton.mp hr] at ht
      exact nextRow_pv (lrows_pv n) t ht
end Mine
end

section
open PySem PySem.W PyProof.Rows PySem.Calls
set_option tactic.hygienic false
set_option linter.all false
namespace Mine
theorem valueAt_cons {K : Type} [DecidableEq K] (a : K) (b : Value) (r : List (K × Value)) (k : K) : valueAt ((a, b) :: r) k = if a = k then some b else valueAt r k := by
  by_cases h : a = k
  · simp [valueAt, h]
  · simp [valueAt, h]
theorem valueAt_map {K : Type} [DecidableEq K] (k k' : K) (v : Value) : ∀ kvs : List (K × Value), valueAt (kvs.map fun kv => if kv.1 = k then (kv.1, v) else kv) k' = if k' = k then (if (kvs.any fun kv => decide (kv.1 = k)) = true then some v else none) else valueAt kvs k'
  | [] => by by_cases h : k' = k <;> simp [valueAt, h]
  | (a, b) :: r => by
    have ih := valueAt_map k k' v r
    rw [List.map_cons]
    by_cases h1 : a = k
    · subst h1
      rw [if_pos rfl, valueAt_cons, valueAt_cons, ih]
      by_cases h2 : k' = a
      · subst h2; simp
      · have : ¬ a = k' := fun e => h2 e.symm
        simp [h2, this]
    · rw [if_neg h1, valueAt_cons, valueAt_cons, ih]
      by_cases h2 : k' = k
      · subst h2
        rw [if_neg h1, if_pos rfl, if_pos rfl, List.any_cons, decide_eq_false h1, Bool.false_or]
      · simp [h2]
theorem valueAt_app {K : Type} [DecidableEq K] (k k' : K) (v : Value) : ∀ kvs : List (K × Value), (kvs.any fun kv => decide (kv.1 = k)) = false → valueAt (kvs ++ [(k, v)]) k' = if k' = k then some v else valueAt kvs k'
  | [], _ => by
    rw [List.nil_append, valueAt_cons]
    by_cases h : k' = k
    · subst h; simp
    · have : ¬ k = k' := fun e => h e.symm
      simp [h, this]
  | (a, b) :: r, h => by
    rw [List.any_cons, Bool.or_eq_false_iff] at h
    have hne : ¬ a = k := of_decide_eq_false h.1
    rw [List.cons_append, valueAt_cons, valueAt_cons, valueAt_app k k' v r h.2]
    by_cases h2 : k' = k
    · subst h2; simp [hne]
    · simp [h2]
theorem valueAt_stored {K : Type} [DecidableEq K] (k k' : K) (v : Value) (kvs : List (K × Value)) : valueAt (stored kvs k v) k' = if k' = k then some v else valueAt kvs k' := by
  unfold stored
  cases h : kvs.any fun kv => decide (kv.1 = k) with
  | true => rw [if_pos rfl, valueAt_map, h, if_pos rfl]
  | false => rw [if_neg (by decide), valueAt_app _ _ _ _ h]
end Mine
end

section
open PySem PySem.W PyProof.Rows PySem.Calls
set_option tactic.hygienic false
set_option linter.all false
set_option maxRecDepth 100000
set_option maxHeartbeats 2000000
namespace Mine
section
variable {prog : Program} {w : World} {A : Around} {g h₀ : Heap} {mg mb : Str → Option Value} {F : Nat → Addr} {v : Value}

noncomputable def RowsRd (g : Heap) (kvs : List (Int × Value)) (rows : List (List Tm)) : Prop :=
  kvs.map (·.1) = (List.range rows.length).map (fun i => ((i + 1 : Nat) : Int)) ∧ ∀ (i : Nat) (r : List Tm), rows[i]? = some r → ∃ v, valueAt kvs ((i + 1 : Nat) : Int) = some v ∧ Rd g v (.list (r.map Tm.d))
theorem RowsRd.mono {g g' : Heap} {kvs : List (Int × Value)} {rows : List (List Tm)} (x : RowsRd g kvs rows) (h : Sub g g') : RowsRd g' kvs rows :=
  ⟨x.1, fun i r hr => let ⟨v, h1, h2⟩ := x.2 i r hr; ⟨v, h1, h2.mono h⟩⟩

theorem ne_row {i j : Nat} (h : j < i + 1) : ¬ ((j + 1 : Nat) : Int) = ((2 + i : Nat) : Int) := fun e => absurd (Int.ofNat.inj e) (Nat.ne_of_lt (Nat.lt_of_le_of_lt h (Nat.lt_of_lt_of_eq (Nat.lt_succ_self (i + 1)) (Nat.add_comm i 2))))
theorem row_pred (i : Nat) : ((2 + i : Nat) : Int) - 1 = ((i + 1 : Nat) : Int) := by
  rw [Nat.add_comm 2 i]; exact Int.add_sub_cancel ((i + 1 : Nat) : Int) 1
theorem row_sub {i j : Nat} (h : j < i) : ((2 + i : Nat) : Int) - 1 - ((j + 1 : Nat) : Int) = ((i - 1 - j + 1 : Nat) : Int) := by
  rw [row_pred, ← Int.ofNat_sub (Nat.succ_le_succ (Nat.le_of_lt h)), Nat.succ_sub_succ, Nat.sub_sub, Nat.add_comm 1 j, ← Nat.sub_sub, Nat.sub_add_cancel (Nat.sub_pos_of_lt h)]
theorem row_big {a b j k : Nat} (h1 : a ≤ 52 + j * 2704 + k * 52) (hj : j ≤ 3) (hk : k ≤ 52) (hb : b ≤ 52) : a + b ≤ 2 ^ 20 :=
  Nat.le_trans (Nat.add_le_add (Nat.le_trans h1 (Nat.add_le_add (Nat.add_le_add_left (Nat.mul_le_mul_right 2704 hj) 52) (Nat.mul_le_mul_right 52 hk))) hb) (by decide)
theorem pairsAt_eq {rows : List (List Tm)} {i j : Nat} {ra rb : List Tm} (hl : rows.length = i + 1) (ha : rows[j]? = some ra) (hb : rows[i - 1 - j]? = some rb) : pairsAt rows j = ra.flatMap fun one => rb.map (gT one) := by
  unfold pairsAt
  rw [show rows.length - 2 - j = i - 1 - j by rw [hl]; exact congrArg (· - j) (Nat.add_sub_add_right i 1 1), List.getD_eq_getElem?_getD, List.getD_eq_getElem?_getD, ha, hb]
  rfl
theorem rows_more {g g' : Heap} {kvs : List (Int × Value)} {i : Nat} {v : Value} {last : List Tm} (hl : (lrows i).length = i + 1) (x : RowsRd g kvs (lrows i)) (hs : Sub g g') (hv : valueAt (stored kvs ((2 + i : Nat) : Int) v) ((2 + i : Nat) : Int) = some v)
    (LT : last = (lrows i).getD ((lrows i).length - 1) []) (hd : Rd g' v (.list ((last.map fT ++ (List.range i).flatMap (pairsAt (lrows i))).map Tm.d))) : RowsRd g' (stored kvs ((2 + i : Nat) : Int) v) (lrows (i + 1)) := by
  have hnk : (kvs.any fun kv => decide (kv.1 = ((2 + i : Nat) : Int))) = false := by
    rw [List.any_eq_false]
    intro kv hkv
    have : kv.1 ∈ kvs.map (·.1) := List.mem_map_of_mem hkv
    rw [x.1] at this
    obtain ⟨q, hq, e⟩ := List.mem_map.mp this
    rw [List.mem_range] at hq
    rw [← e]
    exact fun e => ne_row (hl ▸ hq) (of_decide_eq_true e)
  have est : stored kvs ((2 + i : Nat) : Int) v = kvs ++ [(((2 + i : Nat) : Int), v)] := by
    unfold stored
    rw [if_neg (by rw [hnk]; exact Bool.false_ne_true)]
  refine ⟨?_, fun j r hr => ?_⟩
  · rw [est, List.map_append, x.1, lrows_len, lrows_len, List.range_succ (n := i + 1), List.map_append]
    simp
    omega
  · by_cases hj : j < i + 1
    · have hr' : (lrows i)[j]? = some r := by
        rw [lrows, List.getElem?_append_left (by rw [hl]; exact hj)] at hr
        exact hr
      obtain ⟨u, h1, h2⟩ := x.2 j r hr'
      refine ⟨u, ?_, h2.mono hs⟩
      rw [valueAt_stored, if_neg (ne_row hj)]
      exact h1
    · have hjl := (List.getElem?_eq_some_iff.mp hr).1
      rw [lrows_len] at hjl
      have : j = i + 1 := Nat.le_antisymm (Nat.le_of_lt_succ hjl) (Nat.le_of_not_lt hj)
      subst this
      have er : r = nextRow (lrows i) := by
        rw [lrows, List.getElem?_append_right (by rw [hl]; exact Nat.le_refl _), hl, Nat.sub_self] at hr
        exact (Option.some.inj hr).symm
      refine ⟨v, by rw [show ((i + 1 + 1 : Nat) : Int) = ((2 + i : Nat) : Int) from congrArg (fun n : Nat => (n : Int)) (Nat.add_comm i 2)]; exact hv, ?_⟩
      rw [er, nextRow, ← LT, hl, Nat.add_sub_cancel]
      exact hd

theorem w_laid (W : Wd h₀ mg mb F) (hb : Sub h₀ g) (R : Room A 3) {most : Nat} {tm : Tok} (hm1 : 1 ≤ most) (hm : most ≤ 4) :
    Pure prog w A g (F 22) [.int (most : Int) tm] (fun g' r => ∃ ts : List Tm, Rd g' r (.list (ts.map Tm.d)) ∧ 0 < ts.length ∧ ts.length ≤ 1000 ∧ ∀ t ∈ ts, Pv 4 t) := by
  refine Pure.of W 22 (by decide) hb R [(Str.ofString "most", .int (most : Int) tm)] (fun zz zz zz => rfl) (kindsX rfl) (by decide) rfl rfl rfl (fun s0 L code s₁ Qk hQ => ?_)
  intro env R I
  have V : Rs g [] := trivial
  refine execs_cons' ?_; intro Qk hQ
  refine wpAny_Assign_Name ?_
  refine dd_disp (K := Int) (knd := PySem.intKind prog w) W.toBase hb I ?_ ?_ ?_ ?_ ?_
  · rfl
  · rfl
  · exact List.cons_ne_nil _ _
  · exact Nat.le_of_ble_eq_true rfl
  clear I; intro rd s hrd I
  refine pairTrees_cons_walk ?_
  (with_reducible refine c_int I ?_; clear I; intro s t I); (with_reducible refine List_ ?_); refine args_cons ?_; (with_reducible refine Tuple_ ?_); refine args_cons ?_; (with_reducible refine c_str I ?_; clear I; intro s t I); (with_reducible refine args_nil ?_); refine d_tuple I (.cons Rd.str .nil) (by first | exact kdl ‹_› | exact kdm ‹_› | exact Nat.le_of_ble_eq_true rfl | exact mdl ‹_› rfl | exact mdm ‹_› rfl | (simp only [List.length_cons, List.length_nil, List.length_map, List.length_append, List.length_take, List.length_drop]; omega)) ?_; clear I; intro g s v hs I hx; replace hb := Sub.trans hb hs; replace V := Rs.mono V hs; clear hs; replace V := Rs.cons hx V; clear hx; refine args_cons ?_; (with_reducible refine Tuple_ ?_); refine args_cons ?_; (with_reducible refine c_str I ?_; clear I; intro s t I); (with_reducible refine args_nil ?_); refine d_tuple I (.cons Rd.str .nil) (by first | exact kdl ‹_› | exact kdm ‹_› | exact Nat.le_of_ble_eq_true rfl | exact mdl ‹_› rfl | exact mdm ‹_› rfl | (simp only [List.length_cons, List.length_nil, List.length_map, List.length_append, List.length_take, List.length_drop]; omega)) ?_; clear I; intro g s v hs I hx; replace hb := Sub.trans hb hs; replace V := Rs.mono V hs; clear hs; replace V := Rs.cons hx V; clear hx; refine args_cons ?_; (with_reducible refine Tuple_ ?_); refine args_cons ?_; (with_reducible refine c_str I ?_; clear I; intro s t I); (with_reducible refine args_nil ?_); refine d_tuple I (.cons Rd.str .nil) (by first | exact kdl ‹_› | exact kdm ‹_› | exact Nat.le_of_ble_eq_true rfl | exact mdl ‹_› rfl | exact mdm ‹_› rfl | (simp only [List.length_cons, List.length_nil, List.length_map, List.length_append, List.length_take, List.length_drop]; omega)) ?_; clear I; intro g s v hs I hx; replace hb := Sub.trans hb hs; replace V := Rs.mono V hs; clear hs; replace V := Rs.cons hx V; clear hx; refine args_cons ?_; (with_reducible refine Tuple_ ?_); refine args_cons ?_; (with_reducible refine c_str I ?_; clear I; intro s t I); (with_reducible refine args_nil ?_); refine d_tuple I (.cons Rd.str .nil) (by first | exact kdl ‹_› | exact kdm ‹_› | exact Nat.le_of_ble_eq_true rfl | exact mdl ‹_› rfl | exact mdm ‹_› rfl | (simp only [List.length_cons, List.length_nil, List.length_map, List.length_append, List.length_take, List.length_drop]; omega)) ?_; clear I; intro g s v hs I hx; replace hb := Sub.trans hb hs; replace V := Rs.mono V hs; clear hs; replace V := Rs.cons hx V; clear hx; (with_reducible refine args_nil ?_)
  refine d_list I (.cons (Rs.h3 V) (.cons (Rs.h2 V) (.cons (Rs.h1 V) (.cons (Rs.h0 V) .nil)))) (by simp) ?_
  clear I; intro g s lv hs I hx
  replace hb := Sub.trans hb hs; replace V := Rs.mono V hs; clear hs
  replace V : Rs g [] := trivial
  refine pairTrees_nil_walk ?_
  refine ⟨g, _, [(1, lv)], 0, carries_intKeyPairs prog w [(.int 1 _, lv)] rfl, I, rfl, fun s I => ?_⟩
  replace I : In _ [] s0 g [(rd, dP (PySem.intKind prog w) rd [(1, lv)]), (L, _), (L + 1, _)] s := I
  have L0 : RowsRd g [(1, lv)] (lrows 0) := by
    refine ⟨rfl, fun i r hr => ?_⟩
    cases i with
    | zero =>
      simp only [lrows, List.getElem?_cons_zero, Option.some.injEq] at hr
      subst hr
      exact ⟨lv, rfl, hx⟩
    | succ i => simp [lrows] at hr
  clear hx
  refine st_local (i := 1) I rfl rfl rfl ?_; clear I; intro s I; (with_reducible refine opq (by assumption) ?_); (with_reducible refine execs_cons' ?_; intro Qk hQ); refine x_for I (fun zz => rfl) ?_; refine x_ty W hb I (by decide) (by boot_by_name) rfl rfl rfl rfl (by decide) rfl rfl rfl ?_; refine args_cons ?_; (with_reducible refine c_int I ?_; clear I; intro s t I); refine args_cons ?_; (with_reducible refine wpAny_BinOp ?_); refine n_local (i := 1) I rfl rfl rfl (by rfl) rfl ?_; (with_reducible refine c_int I ?_; clear I; intro s t I); (with_reducible refine o_add I ?_; clear I; intro s t I); (with_reducible refine args_nil ?_)
  have hm3 : most - 1 ≤ 3 := Nat.sub_le_sub_right hm 1
  have e1 : ((most : Int) + 1) = ((most + 1 : Nat) : Int) := rfl
  rw [e1]
  refine it_range2 (a := 2) (n := most + 1) R.hd I (Nat.succ_le_succ hm1) (Nat.le_trans (Nat.succ_le_succ hm) (by decide)) ?_
  clear I; intro it s X
  refine ForK.of (List.range (most - 1)) (fun i => .int ((2 + i : Nat) : Int)) (fun i g' μ' => ∃ m kvs c, μ' = (rd, dP (PySem.intKind prog w) rd kvs) :: nsc L m c ∧ m (Str.ofString "rows") = some (.ref rd) ∧ RowsRd g' kvs (lrows i))
    (X _) (by simp [intsFrom]) ⟨_, [(1, lv)], _, rfl, rfl, L0⟩ (fun i x v g' μ' s' rest hx hs hv hK I Qk hQ => ?_) (fun i g' g'' μ' hs hK => ?_) (fun g' μ' s hs hK I => ?_)
  · obtain ⟨m, kvs, c, rfl, H1, L0⟩ := hK
    have hxr := (List.getElem?_eq_some_iff.mp hx).1
    have hxe := (List.getElem?_eq_some_iff.mp hx).2
    rw [List.length_range] at hxr
    rw [List.getElem_range] at hxe
    subst hxe
    obtain ⟨tv, rfl⟩ := Rd.int_inv hv
    replace hb := hb.trans hs
    clear hs hv hx X V
    have V : Rs g' [] := trivial
    have HB := Sub.refl g'
    have hrl := lrows_len i
    have hi3 : i ≤ 3 := Nat.le_of_lt (Nat.lt_of_lt_of_le hxr hm3)
    have hsm := lrows_small (n := i) hi3
    obtain ⟨last, hlast⟩ : ∃ r, (lrows i)[i]? = some r := ⟨_, List.getElem?_eq_getElem (Nat.lt_of_lt_of_eq (Nat.lt_succ_self i) hrl.symm)⟩
    obtain ⟨vl, hvl, hrdl⟩ := L0.2 i last hlast
    have hll := hsm last (List.mem_of_getElem? hlast)
    refine wpAny_assign_Name ?_
    refine st_local (i := 1) I rfl rfl rfl ?_
    clear I; intro s I
    refine execs_cons' ?_; intro Qk hQ
    refine wpAny_Assign_Subscript ?_
    refine x_compO I rfl rfl (by decide) (fun zz => rfl) ?_
    (with_reducible refine Subscript_ ?_); refine n_local (i := 1) I rfl rfl rfl H1 rfl ?_; (with_reducible refine wpAny_BinOp ?_); refine n_local (i := 1) I rfl rfl rfl (by rfl) rfl ?_; (with_reducible refine c_int I ?_; clear I; intro s t I); (with_reducible refine o_sub I ?_; clear I; intro s t I)
    have e2 : ((2 + i : Nat) : Int) - 1 = ((i + 1 : Nat) : Int) := row_pred i
    rw [e2]
    refine dd_item (v := vl) I (I.dat (i := 0) rfl) (intKind_is _ _ _ _) hvl ?_
    clear I; intro s I
    replace V := Rs.cons hrdl V
    refine it_seq R.hd I (.inl (Rs.h0 V)) ?_; clear I; intro it s X
    refine CompK.map last Tm.d (fun t => (fT t).d) (X _) rfl (mdm hll.1 rfl) (fun C x v g' s' m cm rest hx hs hv I => ?_) fun g hs acc out s hacc hout I => ?_
    · intro cenv
      clear HB
      have HB := Sub.refl g'
      replace hb := Sub.trans hb hs; replace V := Rs.mono V hs; replace L0 := L0.mono hs; clear hs
      replace V := Rs.cons hv V
      (with_reducible refine wpAny_assign_Name ?_); refine st_local (i := 0) I rfl rfl rfl ?_; clear I; intro s I; (with_reducible refine Tuple_ ?_); refine args_cons ?_; (with_reducible refine c_str I ?_; clear I; intro s t I); refine args_cons ?_; refine n_local (i := 0) I rfl rfl rfl (by rfl) rfl ?_; (with_reducible refine args_nil ?_); refine d_tuple I (.cons Rd.str (.cons (Rs.h0 V) .nil)) (by first | exact kdl ‹_› | exact kdm ‹_› | exact Nat.le_of_ble_eq_true rfl | exact mdl ‹_› rfl | exact mdm ‹_› rfl | (simp only [List.length_cons, List.length_nil, List.length_map, List.length_append, List.length_take, List.length_drop]; omega)) ?_; clear I; intro g s v hs I hx; replace hb := Sub.trans hb hs; replace V := Rs.mono V hs; replace L0 := L0.mono hs; replace HB := Sub.trans HB hs; clear hs; replace V := Rs.cons hx V; clear hx
      refine ⟨g, _, fun zz => none, HB, I, ?_⟩
      rw [fT, Tm.d_mk]; exact Rs.h0 V
    · clear X
      have L1 : Rds g out ((last.map fT).map Tm.d) := by rw [List.map_map]; exact hout
      clear hout
      replace hrdl := hrdl.mono hs
      replace L0 := L0.mono hs
      replace hb := Sub.trans hb hs; replace V := Rs.mono V hs; replace HB := Sub.trans HB hs; clear hs
      refine n_local (i := 2) I rfl rfl rfl H1 rfl ?_; refine n_local (i := 2) I rfl rfl rfl (by rfl) rfl ?_
      refine dd_set (i := 1) I rfl (intKind_is _ _ _ _) ?_ ?_
      · have := congrArg List.length L0.1
        rw [List.length_map, List.length_map, List.length_range, hrl] at this
        exact Nat.le_trans (Nat.le_of_eq this) (Nat.le_trans (Nat.succ_le_succ hi3) (by decide))
      clear I; intro s I
      have F1 : valueAt (stored kvs ((2 + i : Nat) : Int) (.ref acc)) ((2 + i : Nat) : Int) = some (.ref acc) := by rw [valueAt_stored, if_pos rfl]
      have F2 : ∀ j r, (lrows i)[j]? = some r → ∃ v, valueAt (stored kvs ((2 + i : Nat) : Int) (.ref acc)) ((j + 1 : Nat) : Int) = some v ∧ Rd g v (.list (r.map Tm.d)) := fun j r hr => by
        have hj := (List.getElem?_eq_some_iff.mp hr).1
        rw [valueAt_stored, if_neg (ne_row (hrl ▸ hj))]
        exact L0.2 j r hr
      have hkl := congrArg List.length L0.1
      generalize hkv : stored kvs ((2 + i : Nat) : Int) (.ref acc) = kvs' at I F1 F2
      (with_reducible refine opq (by assumption) ?_); (with_reducible refine execs_cons' ?_; intro Qk hQ); refine x_for I (fun zz => rfl) ?_; refine x_ty W hb I (by decide) (by boot_by_name) rfl rfl rfl rfl (by decide) rfl rfl rfl ?_; refine args_cons ?_; (with_reducible refine c_int I ?_; clear I; intro s t I); refine args_cons ?_; (with_reducible refine wpAny_BinOp ?_); refine n_local (i := 2) I rfl rfl rfl (by rfl) rfl ?_; (with_reducible refine c_int I ?_; clear I; intro s t I); (with_reducible refine o_sub I ?_; clear I; intro s t I); (with_reducible refine args_nil ?_)
      have e3 : ((2 + i : Nat) : Int) - 1 = ((1 + i : Nat) : Int) := (row_pred i).trans (congrArg (fun n : Nat => (n : Int)) (Nat.add_comm i 1))
      rw [e3]
      refine it_range2 (a := 1) (n := 1 + i) R.hd I (Nat.le_add_right 1 i) (Nat.le_trans (Nat.add_le_add_left hi3 1) (by decide)) ?_
      clear I; intro it s X
      have LT : last = (lrows i).getD ((lrows i).length - 1) [] := by rw [hrl, Nat.add_sub_cancel, List.getD_eq_getElem?_getD, hlast]; rfl
      refine ForK.of (List.range i) (fun j => .int ((1 + j : Nat) : Int)) (fun j g' μ' => ∃ m c vs, μ' = (acc, listP vs) :: (rd, dP (PySem.intKind prog w) rd kvs') :: (nsc L m c ++ rest) ∧ m (Str.ofString "rows") = some (.ref rd) ∧ m (Str.ofString "many") = some (.int ((2 + i : Nat) : Int) tv) ∧ vs.length ≤ 52 + j * 2704 ∧ Rds g' vs ((last.map fT ++ (List.range j).flatMap (pairsAt (lrows i))).map Tm.d))
        (X _) (by simp [intsFrom]) ⟨upd _ (Str.ofString "many") (.int ((2 + i : Nat) : Int) tv), _, out, rfl, H1, rfl, (by have := L1.length; rw [List.length_map, List.length_map] at this; exact Nat.le_trans (Nat.le_of_eq this) hll.1), by simpa using L1⟩ (fun j x v g' μ' s' rest2 hx hs hv hK I Qk hQ => ?_) (fun j g' g'' μ' hs hK => ?_) (fun g' μ' s hs hK I => ?_)
      · obtain ⟨m, c, vs, rfl, H1, H2, hvl, L1⟩ := hK
        have hxr := (List.getElem?_eq_some_iff.mp hx).1
        have hxe := (List.getElem?_eq_some_iff.mp hx).2
        rw [List.length_range] at hxr
        rw [List.getElem_range] at hxe
        subst hxe
        obtain ⟨tj, rfl⟩ := Rd.int_inv hv
        replace hb := hb.trans hs
        obtain ⟨ra, hra⟩ : ∃ r, (lrows i)[j]? = some r := ⟨_, List.getElem?_eq_getElem (Nat.lt_of_lt_of_eq (Nat.lt_succ_of_lt hxr) hrl.symm)⟩
        obtain ⟨rb, hrb⟩ : ∃ r, (lrows i)[i - 1 - j]? = some r := ⟨_, List.getElem?_eq_getElem (Nat.lt_of_lt_of_eq (Nat.lt_succ_of_le (Nat.le_trans (Nat.sub_le _ _) (Nat.sub_le _ _))) hrl.symm)⟩
        obtain ⟨va, hva, hda⟩ := F2 j ra hra
        obtain ⟨vb, hvb, hdb⟩ := F2 (i - 1 - j) rb hrb
        have hla := hsm ra (List.mem_of_getElem? hra)
        have hlb := hsm rb (List.mem_of_getElem? hrb)
        replace hda := hda.mono hs
        replace hdb := hdb.mono hs
        clear hs hv hx X V HB
        have V : Rs g' [(va, .list (ra.map Tm.d)), (vb, .list (rb.map Tm.d))] := ⟨hda, hdb, trivial⟩
        have HB := Sub.refl g'
        have e4 : ((1 + j : Nat) : Int) = ((j + 1 : Nat) : Int) := congrArg (fun n : Nat => (n : Int)) (Nat.add_comm 1 j)
        rw [e4]
        (with_reducible refine wpAny_assign_Name ?_); refine st_local (i := 2) I rfl rfl rfl ?_; clear I; intro s I; (with_reducible refine execs_cons' ?_; intro Qk hQ); refine x_for I (fun zz => rfl) ?_; (with_reducible refine Subscript_ ?_); refine n_local (i := 2) I rfl rfl rfl H1 rfl ?_; refine n_local (i := 2) I rfl rfl rfl (by rfl) rfl ?_
        refine dd_item (v := va) I (I.dat (i := 1) rfl) (intKind_is _ _ _ _) hva ?_
        clear I; intro s I
        refine it_seq R.hd I (.inl (Rs.h0 V)) ?_; clear I; intro it s X
        refine ForK.of ra Tm.d (fun k g' μ' => ∃ m c vs, μ' = (acc, listP vs) :: (rd, dP (PySem.intKind prog w) rd kvs') :: (nsc L m c ++ (rest ++ rest2)) ∧ m (Str.ofString "rows") = some (.ref rd) ∧ m (Str.ofString "many") = some (.int ((2 + i : Nat) : Int) tv) ∧ m (Str.ofString "first") = some (.int ((j + 1 : Nat) : Int) tj) ∧ vs.length ≤ 52 + j * 2704 + k * 52 ∧
            Rds g' vs ((last.map fT ++ (List.range j).flatMap (pairsAt (lrows i)) ++ (ra.take k).flatMap fun one => rb.map (gT one)).map Tm.d))
          (X _) rfl ⟨upd m (Str.ofString "first") (.int ((j + 1 : Nat) : Int) tj), c, vs, rfl, H1, H2, rfl, Nat.le_trans hvl (Nat.le_add_right _ _), by simpa using L1⟩ (fun k x v g' μ' s' rest3 hx hs hv hK I Qk hQ => ?_) (fun k g' g'' μ' hs hK => ?_) (fun g' μ' s hs hK I => ?_)
        · obtain ⟨m, c, vs, rfl, H1, H2, H3, hvl2, L1⟩ := hK
          have hkr := (List.getElem?_eq_some_iff.mp hx).1
          clear HB
          have HB := Sub.refl g'
          replace hb := hb.trans hs
          replace V := Rs.cons hv (Rs.mono V hs)
          clear hs hv X
          refine wpAny_assign_Name ?_
          refine st_cell (i := 3) I rfl rfl rfl rfl ?_
          clear I; intro s I
          refine execs_cons' ?_; intro Qk hQ
          refine wpAny_Expr_any ?_; refine MethodCall_ ?_; (with_reducible refine Subscript_ ?_); refine n_local (i := 2) I rfl rfl rfl H1 rfl ?_; refine n_local (i := 2) I rfl rfl rfl H2 rfl ?_
          refine dd_item (v := .ref acc) I (I.dat (i := 1) rfl) (intKind_is _ _ _ _) F1 ?_
          clear I; intro s I
          refine lm_method (i := 0) I rfl PySem.F.slot_list_extend PySem.F.type_list_extend ?_; refine PyProof.Rows.callWith_method1 ?_; refine args_cons ?_; refine x_comp I rfl rfl (by decide) (fun zz => rfl) ?_; (with_reducible refine Subscript_ ?_); refine n_local (i := 2) I rfl rfl rfl H1 rfl ?_; (with_reducible refine wpAny_BinOp ?_); (with_reducible refine wpAny_BinOp ?_); refine n_local (i := 2) I rfl rfl rfl H2 rfl ?_; (with_reducible refine c_int I ?_; clear I; intro s t I); (with_reducible refine o_sub I ?_; clear I; intro s t I); refine n_local (i := 2) I rfl rfl rfl H3 rfl ?_; (with_reducible refine o_sub I ?_; clear I; intro s t I)
          have e5 := row_sub hxr
          rw [e5]
          refine dd_item (v := vb) I (I.dat (i := 1) rfl) (intKind_is _ _ _ _) hvb ?_
          clear I; intro s I
          refine it_seq R.hd I (.inl (Rs.h2 V)) ?_; clear I; intro it s X
          refine CompK.map rb Tm.d (fun t => (gT x t).d) (X _) rfl (mdm hlb.1 rfl) (fun C y v g' s' m cm rest hy hs hv I => ?_) fun g hs y g s hs' hx' I => ?_
          · intro cenv
            clear HB
            have HB := Sub.refl g'
            replace hb := Sub.trans hb hs; replace V := Rs.mono V hs; replace L1 := L1.mono hs; clear hs
            replace V := Rs.cons hv V
            (with_reducible refine wpAny_assign_Name ?_); refine st_local (i := 0) I rfl rfl rfl ?_; clear I; intro s I; (with_reducible refine Tuple_ ?_); refine args_cons ?_; (with_reducible refine c_str I ?_; clear I; intro s t I); refine args_cons ?_; refine n_cell (i := 4) I rfl rfl rfl rfl rfl ?_; refine args_cons ?_; refine n_local (i := 0) I rfl rfl rfl (by rfl) rfl ?_; (with_reducible refine args_nil ?_); refine d_tuple I (.cons Rd.str (.cons (Rs.h1 V) (.cons (Rs.h0 V) .nil))) (by first | exact kdl ‹_› | exact kdm ‹_› | exact Nat.le_of_ble_eq_true rfl | exact mdl ‹_› rfl | exact mdm ‹_› rfl | (simp only [List.length_cons, List.length_nil, List.length_map, List.length_append, List.length_take, List.length_drop]; omega)) ?_; clear I; intro g s v hs I hx; replace hb := Sub.trans hb hs; replace V := Rs.mono V hs; replace L1 := L1.mono hs; replace HB := Sub.trans HB hs; clear hs; replace V := Rs.cons hx V; clear hx
            refine ⟨g, _, fun zz => none, HB, I, ?_⟩
            rw [gT, Tm.d_mk]; exact Rs.h0 V
          · replace hs := Sub.trans hs hs'
            clear X
            replace hb := Sub.trans hb hs; replace V := Rs.mono V hs; replace L1 := L1.mono hs; replace HB := Sub.trans HB hs; clear hs
            (with_reducible refine args_nil ?_)
            refine b_extend_lst (es := rb.map fun t => (gT x t).d) (i := 0) I rfl hx' (by rw [List.length_map]; exact row_big hvl2 (Nat.le_of_lt (Nat.lt_of_lt_of_le hxr hi3)) (Nat.le_of_lt (Nat.lt_of_lt_of_le hkr hla.1)) hlb.1) ?_
            clear I; intro s ws hw I
            (with_reducible refine opq (by assumption) ?_); (with_reducible refine wpAny_execs_nil ?_); (with_reducible refine opq (by assumption) ?_)
            refine ⟨_, (acc, listP _) :: (rd, dP (PySem.intKind prog w) rd kvs') :: (nsc L m _ ++ (rest ++ rest2)), HB, I, m, _, _, rfl, H1, H2, H3, ?_, ?_⟩
            · have := hw.length
              rw [List.length_map] at this
              rw [List.length_append, Nat.succ_mul, ← Nat.add_assoc, this]
              exact Nat.add_le_add hvl2 hlb.1
            · rw [List.take_add_one, hx, List.flatMap_append, ← List.append_assoc, List.map_append]
              refine L1.append ?_
              simpa [Function.comp_def] using hw
        · obtain ⟨m, c, vs, rfl, h1, h2, h3, h4, h5⟩ := hK
          exact ⟨m, c, vs, rfl, h1, h2, h3, h4, h5.mono hs⟩
        · obtain ⟨m, c, vs, rfl, h1, h2, h3, h4, h5⟩ := hK
          (with_reducible refine opq (by assumption) ?_); (with_reducible refine wpAny_execs_nil ?_); (with_reducible refine opq (by assumption) ?_)
          refine ⟨_, (acc, listP _) :: (rd, dP (PySem.intKind prog w) rd kvs') :: (nsc L m c ++ rest), hs, I, m, c, _, rfl, h1, h2, by rw [Nat.succ_mul, ← Nat.add_assoc]; exact Nat.le_trans h4 (Nat.add_le_add_left (Nat.mul_le_mul_right 52 hla.1) _), ?_⟩
          rw [List.take_length] at h5
          rw [List.range_succ, List.flatMap_append, List.flatMap_singleton, pairsAt_eq hrl hra hrb, ← List.append_assoc]
          exact h5
      · obtain ⟨m, c, vs, rfl, h1, h2, hvl, h3⟩ := hK
        exact ⟨m, c, vs, rfl, h1, h2, hvl, h3.mono hs⟩
      · obtain ⟨m, c, vs, rfl, H1, H2, hvl, L1⟩ := hK
        rw [List.length_range] at L1
        obtain ⟨g2, hs2, hd, I⟩ := I.frzLst hacc L1
        (with_reducible refine opq (by assumption) ?_); (with_reducible refine wpAny_execs_nil ?_); (with_reducible refine opq (by assumption) ?_)
        refine ⟨g2, [(rd, dP (PySem.intKind prog w) rd kvs'), (L, nsP m), (L + 1, cellP c)], (HB.trans hs).trans hs2, I, m, kvs', c, rfl, H1, ?_⟩
        rw [← hkv]
        exact rows_more hrl L0 (hs.trans hs2) (by rw [hkv]; exact F1) LT hd
  · obtain ⟨m, kvs, c, rfl, h1, h2⟩ := hK
    exact ⟨m, kvs, c, rfl, h1, h2.mono hs⟩
  · obtain ⟨m, kvs, c, rfl, H1, L0⟩ := hK
    rw [List.length_range] at L0
    replace hb := hb.trans hs
    clear hs V X
    have V : Rs g' [] := trivial
    have HB := Sub.refl g'
    have hlen := lrows_len (most - 1)
    have hsm := lrows_small (n := most - 1) hm3
    have hpv := lrows_pv (most - 1)
    have hkl := congrArg List.length L0.1
    simp only [List.length_map, List.length_range] at hkl
    (with_reducible refine opq (by assumption) ?_); (with_reducible refine execs_cons' ?_; intro Qk hQ); refine wpAny_Assign_Name ?_; (with_reducible refine List_ ?_); (with_reducible refine args_nil ?_)
    refine d_own I (by simp) ?_
    clear I; intro s fa hfa I
    refine st_local (i := 2) I rfl rfl rfl ?_; clear I; intro s I; (with_reducible refine opq (by assumption) ?_); (with_reducible refine execs_cons' ?_; intro Qk hQ); refine x_for I (fun zz => rfl) ?_; refine x_bi W hb I (by decide) (by boot_by_name) rfl rfl rfl rfl (by decide) rfl rfl rfl ?_; refine args_cons ?_; refine n_local (i := 2) I rfl rfl rfl H1 rfl ?_; (with_reducible refine args_nil ?_)
    refine b_sorted_keys R.hd I (I.dat (i := 1) rfl) (by rw [hkl, hlen]; exact Nat.lt_of_le_of_lt (Nat.succ_le_succ hm3) (by decide)) ?_
    clear I; intro g s r ns hs hperm hpw I hx
    replace L0 := L0.mono hs
    replace hb := Sub.trans hb hs; replace V := Rs.mono V hs; replace HB := Sub.trans HB hs; clear hs
    have hnl := hperm.length_eq
    rw [List.length_map] at hnl
    have hn1 : ns.length = most - 1 + 1 := hnl.trans (hkl.trans hlen)
    have hn4 : ns.length ≤ 4 := Nat.le_trans (Nat.le_of_eq hn1) (Nat.succ_le_succ hm3)
    refine it_seq R.hd I (.inl hx) ?_
    clear I; intro it s X
    refine ForK.of ns PyData.int (fun k g' μ' => ∃ m ts vs c, μ' = (fa, listP vs) :: (rd, dP (PySem.intKind prog w) rd kvs) :: nsc L m c ∧ m (Str.ofString "rows") = some (.ref rd) ∧ m (Str.ofString "found") = some (.ref fa) ∧ Rds g' vs (ts.map Tm.d) ∧ 4 * k ≤ ts.length ∧ ts.length ≤ 52 * k ∧ ∀ t ∈ ts, Pv 4 t)
      (X _) rfl ⟨upd m (Str.ofString "found") (.ref fa), [], [], c, rfl, H1, rfl, .nil, by simp, by simp, fun zz h => nomatch h⟩ (fun i x v g' μ' s' rest hx hs hv hK I Qk hQ => ?_) (fun i g' g'' μ' hs hK => ?_) (fun g' μ' s hs hK I => ?_)
    · obtain ⟨m, ts, vs, c, rfl, H1, H2, L1, hc1, hc2, hc3⟩ := hK
      have hil := (List.getElem?_eq_some_iff.mp hx).1
      have hmem := hperm.mem_iff.mp (List.mem_of_getElem? hx)
      rw [L0.1] at hmem
      obtain ⟨q, hq, rfl⟩ := List.mem_map.mp hmem
      rw [List.mem_range] at hq
      obtain ⟨row, hrow⟩ : ∃ r, (lrows (most - 1))[q]? = some r := ⟨_, List.getElem?_eq_getElem hq⟩
      obtain ⟨vr, hvr, hdr⟩ := L0.2 q row hrow
      replace hdr := hdr.mono hs
      have hrl := hsm row (List.mem_of_getElem? hrow)
      have hrp := hpv row (List.mem_of_getElem? hrow)
      obtain ⟨tv, rfl⟩ := Rd.int_inv hv
      clear HB
      have HB := Sub.refl g'
      replace hb := hb.trans hs
      clear hs hv hx X V
      have V : Rs g' [(vr, .list (row.map Tm.d))] := ⟨hdr, trivial⟩
      refine wpAny_assign_Name ?_
      refine st_local (i := 2) I rfl rfl rfl ?_
      clear I; intro s I
      refine execs_cons' ?_; intro Qk hQ
      refine wpAny_Expr_any ?_; refine MethodCall_ ?_; refine n_local (i := 2) I rfl rfl rfl H2 rfl ?_; refine lm_method (i := 0) I rfl PySem.F.slot_list_extend PySem.F.type_list_extend ?_; refine PyProof.Rows.callWith_method1 ?_; refine args_cons ?_; (with_reducible refine Subscript_ ?_); refine n_local (i := 2) I rfl rfl rfl H1 rfl ?_; refine n_local (i := 2) I rfl rfl rfl (by rfl) rfl ?_
      refine dd_item (v := vr) I (I.dat (i := 1) rfl) (intKind_is _ _ _ _) hvr ?_
      clear I; intro s I
      (with_reducible refine args_nil ?_)
      have hvl := L1.length
      rw [List.length_map] at hvl
      refine b_extend_lst (i := 0) I rfl hdr (by rw [List.length_map, hvl]; exact Nat.le_trans (Nat.add_le_add (Nat.le_trans hc2 (Nat.mul_le_mul_left 52 (Nat.le_of_lt (Nat.lt_of_lt_of_le hil hn4)))) hrl.1) (by decide)) ?_
      clear I; intro s ws hw I
      (with_reducible refine opq (by assumption) ?_); (with_reducible refine wpAny_execs_nil ?_); (with_reducible refine opq (by assumption) ?_)
      refine ⟨_, (fa, listP _) :: (rd, dP (PySem.intKind prog w) rd kvs) :: nsc L _ _, HB, I, _, ts ++ row, _, _, rfl, H1, H2, ?_, ?_, ?_, ?_⟩
      · rw [List.map_append]; exact L1.append hw
      · rw [List.length_append, Nat.mul_succ]; exact Nat.add_le_add hc1 hrl.2
      · rw [List.length_append, Nat.mul_succ]; exact Nat.add_le_add hc2 hrl.1
      · intro t ht
        rcases List.mem_append.mp ht with ht | ht
        · exact hc3 t ht
        · exact (hrp t ht).mono (Nat.succ_le_succ hm3)
    · obtain ⟨m, ts, vs, c, rfl, h1, h2, h3, h4, h5, h6⟩ := hK
      exact ⟨m, ts, vs, c, rfl, h1, h2, h3.mono hs, h4, h5, h6⟩
    · obtain ⟨m, ts, vs, c, rfl, H1, H2, L1, hc1, hc2, hc3⟩ := hK
      obtain ⟨g2, hs2, hd, I⟩ := I.frzLst hfa L1
      (with_reducible refine opq (by assumption) ?_); (with_reducible refine execs_cons' ?_; intro Qk hQ); (with_reducible refine wpAny_Return_some ?_); refine n_local (i := 1) I rfl rfl rfl H2 rfl ?_; (with_reducible refine opq (by assumption) ?_); (with_reducible refine opq (by assumption) ?_)
      exact ⟨_, _, I, ts, hd, Nat.lt_of_lt_of_le (Nat.mul_pos (by decide) (Nat.lt_of_lt_of_eq (Nat.succ_pos _) hn1.symm)) hc1, Nat.le_trans hc2 (Nat.le_trans (Nat.mul_le_mul_left 52 hn4) (by decide)), hc3⟩
end

end Mine
end

section
open PySem PySem.W PyProof.Rows PySem.Calls
set_option tactic.hygienic false
set_option linter.all false
namespace Mine
noncomputable section
open scoped Classical

/-! the plain law, 1: what common_at tells, with a table of names that is done -/
abbrev tm0 : Tm := .mk default []
abbrev hdT (c : List Tm) : Tm := c.headD (.mk default [])
noncomputable def gen (ν : List Tm → Str) : Nat → List Tm → Tm
  | 0, _ => .mk default []
  | n + 1, c => if alike c = true then .mk (hdT c).op ((List.range (hdT c).kids.length).map fun k => gen ν n (column c k)) else .mk (ν c) []
noncomputable def dis : Nat → List Tm → List (List Tm)
  | 0, _ => []
  | n + 1, c => if alike c = true then (List.range (hdT c).kids.length).flatMap fun k => dis n (column c k) else [c]
noncomputable def add1 (names : List (List Tm)) (c : List Tm) : List (List Tm) := if c ∈ names then names else names ++ [c]
noncomputable def addAll (names cs : List (List Tm)) : List (List Tm) := cs.foldl add1 names
noncomputable def nu (names : List (List Tm)) (c : List Tm) : Str := vname (names.idxOf c)
noncomputable def tab (n : Nat) (c : List Tm) : List (List Tm) := addAll [] (dis n c)

theorem addAll_app (N a b : List (List Tm)) : addAll N (a ++ b) = addAll (addAll N a) b := by unfold addAll; rw [List.foldl_append]
theorem addAll_cons (N : List (List Tm)) (c : List Tm) (b : List (List Tm)) : addAll N (c :: b) = addAll (add1 N c) b := rfl
theorem add1_pre (N : List (List Tm)) (c : List Tm) : ∃ m, add1 N c = N ++ m := by
  unfold add1
  split
  · exact ⟨[], by simp⟩
  · exact ⟨[c], rfl⟩
theorem addAll_pre : ∀ (cs N : List (List Tm)), ∃ m, addAll N cs = N ++ m
  | [], N => ⟨[], by simp [addAll]⟩
  | c :: r, N => by
    obtain ⟨m, hm⟩ := add1_pre N c
    obtain ⟨m', hm'⟩ := addAll_pre r (add1 N c)
    exact ⟨m ++ m', by rw [addAll_cons, hm', hm, List.append_assoc]⟩
set_option tactic.hygienic true in
theorem mem_add1 {N : List (List Tm)} {c x : List Tm} : x ∈ add1 N c ↔ x ∈ N ∨ x = c := by
  unfold add1
  split
  · rename_i h
    exact ⟨.inl, fun e => e.elim id fun e => e ▸ h⟩
  · simp
theorem mem_addAll {x : List Tm} : ∀ {cs N : List (List Tm)}, x ∈ addAll N cs ↔ x ∈ N ∨ x ∈ cs
  | [], N => by simp [addAll]
  | c :: r, N => by rw [addAll_cons, mem_addAll, mem_add1, List.mem_cons, or_assoc]
set_option tactic.hygienic true in
theorem add1_nodup {N : List (List Tm)} {c : List Tm} (h : N.Nodup) : (add1 N c).Nodup := by
  unfold add1
  split
  · exact h
  · rename_i hc
    rw [List.nodup_append]
    exact ⟨h, by simp, fun a ha b hb e => by rw [List.mem_singleton.mp hb] at e; exact hc (e ▸ ha)⟩
theorem addAll_nodup : ∀ {cs N : List (List Tm)}, N.Nodup → (addAll N cs).Nodup
  | [], _, h => h
  | c :: r, N, h => by rw [addAll_cons]; exact addAll_nodup (add1_nodup h)
theorem add1_len (N : List (List Tm)) (c : List Tm) : (add1 N c).length ≤ N.length + 1 := by unfold add1; split <;> simp
theorem addAll_len : ∀ (cs N : List (List Tm)), (addAll N cs).length ≤ N.length + cs.length
  | [], N => by simp [addAll]
  | c :: r, N => by
    rw [addAll_cons]
    have h1 := addAll_len r (add1 N c)
    have h2 := add1_len N c
    rw [List.length_cons]; omega
theorem idx_pre {N m : List (List Tm)} {c : List Tm} (h : c ∈ N) : (N ++ m).idxOf c = N.idxOf c := by rw [List.idxOf_append, if_pos h]

theorem commonAt_gen : ∀ (n : Nat) (c : List Tm) (names N m : List (List Tm)), N = addAll names (dis n c) ++ m → commonAt n c names = (gen (nu N) n c, addAll names (dis n c))
  | 0, c, names, N, m, _ => rfl
  | n + 1, c, names, N, m, h => by
    by_cases ha : alike c = true
    · have key : ∀ (ks : List Nat) (acc : List Tm) (names : List (List Tm)), (∃ m, N = addAll names (ks.flatMap fun k => dis n (column c k)) ++ m) →
          ks.foldl (fun (acc : List Tm × List (List Tm)) k => (acc.1 ++ [(commonAt n (column c k) acc.2).1], (commonAt n (column c k) acc.2).2)) (acc, names) =
            (acc ++ ks.map (fun k => gen (nu N) n (column c k)), addAll names (ks.flatMap fun k => dis n (column c k))) := by
        intro ks
        induction ks with
        | nil => intro acc names _; simp [addAll]
        | cons k ks ih =>
          rintro acc names ⟨m, hm⟩
          rw [List.flatMap_cons, addAll_app] at hm
          obtain ⟨m', hm'⟩ := addAll_pre (ks.flatMap fun k => dis n (column c k)) (addAll names (dis n (column c k)))
          have e := commonAt_gen n (column c k) names N (m' ++ m) (by rw [hm, hm', List.append_assoc])
          rw [List.foldl_cons, e]
          simp only
          rw [ih _ _ ⟨m, hm⟩, List.flatMap_cons, addAll_app, List.map_cons, List.append_assoc]
          rfl
      have hd : dis (n + 1) c = (List.range (hdT c).kids.length).flatMap fun k => dis n (column c k) := by rw [dis, if_pos ha]
      rw [hd] at h ⊢
      rw [commonAt, if_pos ha, gen, if_pos ha]
      have := key (List.range (hdT c).kids.length) [] names ⟨m, h⟩
      rw [List.nil_append] at this
      simp only [this]
    · have hd : dis (n + 1) c = [c] := by rw [dis, if_neg ha]
      rw [hd] at h ⊢
      rw [commonAt, if_neg ha, gen, if_neg ha]
      have e1 : addAll names [c] = add1 names c := rfl
      rw [e1] at h ⊢
      have hc : c ∈ add1 names c := mem_add1.mpr (.inr rfl)
      unfold nu
      rw [h, idx_pre hc]
      rfl
noncomputable def lggT (n : Nat) (c : List Tm) : Tm := gen (nu (tab n c)) n c
theorem commonAt_lgg (n : Nat) (c : List Tm) : (commonAt n c []).1 = lggT n c := by
  rw [commonAt_gen n c [] (tab n c) [] (by unfold tab; simp)]
  rfl

/-! heads alike -/
noncomputable def SH (a b : Tm) : Prop := a.op = b.op ∧ a.kids.length = b.kids.length
theorem sameHead_iff {a b : Tm} : sameHead a b = true ↔ SH a b := by unfold sameHead SH; simp
theorem SH.symm {a b : Tm} (h : SH a b) : SH b a := ⟨h.1.symm, h.2.symm⟩
theorem SH.trans {a b c : Tm} (h : SH a b) (k : SH b c) : SH a c := ⟨h.1.trans k.1, h.2.trans k.2⟩
theorem alike_hd {c : List Tm} : alike c = true ↔ ∀ t ∈ c, SH t (hdT c) := by
  unfold alike
  rw [List.all_eq_true]
  exact ⟨fun h t ht => sameHead_iff.mp (h t ht), fun h t ht => sameHead_iff.mpr (h t ht)⟩
theorem hdT_mem {c : List Tm} (h : c ≠ []) : hdT c ∈ c := by cases c with
  | nil => exact absurd rfl h
  | cons a r => exact List.mem_cons_self
theorem alike_iff {c : List Tm} (h : c ≠ []) : alike c = true ↔ ∀ a ∈ c, ∀ b ∈ c, SH a b := by
  rw [alike_hd]
  exact ⟨fun k a ha b hb => (k a ha).trans (k b hb).symm, fun k t ht => k t ht _ (hdT_mem h)⟩

theorem gr_kid {n : Nat} {t k : Tm} (h : Gr (n + 1) t) (hk : k ∈ t.kids) : Gr n k := by cases t; exact h.2.2 k hk
theorem gr_op {n : Nat} {t : Tm} (h : Gr n t) : dar t.op = some t.kids.length ∧ t.op ≠ Str.ofString "h" ∧ isV t.op = false := by
  cases n with
  | zero => exact h.elim
  | succ n => cases t; exact ⟨h.1, h.2.1, (dar_ok h.1).2.2.2⟩
theorem kid_mem {t : Tm} {k : Nat} (h : k < t.kids.length) : t.kids.getD k tm0 ∈ t.kids := by
  rw [List.getD_eq_getElem?_getD, List.getElem?_eq_getElem h]; exact List.getElem_mem h
theorem col_gr {n : Nat} {c : List Tm} (h : ∀ t ∈ c, Gr (n + 1) t) (ha : alike c = true) {k : Nat} (hk : k < (hdT c).kids.length) : ∀ t ∈ column c k, Gr n t := by
  intro t ht
  obtain ⟨u, hu, rfl⟩ := List.mem_map.mp ht
  have := (alike_hd.mp ha u hu).2
  exact gr_kid (h u hu) (kid_mem (by first | decide | exact lle ‹_› rfl | exact llt ‹_› rfl | exact lll ‹_› rfl | exact llm ‹_› rfl | omega))
theorem col_ne {c : List Tm} (h : c ≠ []) (k : Nat) : column c k ≠ [] := by unfold column; simpa using h
theorem col_len (c : List Tm) (k : Nat) : (column c k).length = c.length := by unfold column; simp

/-! what is told hangs on the names alone -/
theorem stab {ν : List Tm → Str} : ∀ {n m : Nat} {c : List Tm}, c ≠ [] → (∀ t ∈ c, Gr n t) → n ≤ m → gen ν n c = gen ν m c ∧ dis n c = dis m c
  | 0, _, c, hc, h, _ => (h _ (hdT_mem hc)).elim
  | n + 1, 0, _, _, _, h => by omega
  | n + 1, m + 1, c, hc, h, hm => by
    by_cases ha : alike c = true
    · rw [gen, gen, dis, dis, if_pos ha, if_pos ha, if_pos ha, if_pos ha]
      have key : ∀ k ∈ List.range (hdT c).kids.length, gen ν n (column c k) = gen ν m (column c k) ∧ dis n (column c k) = dis m (column c k) := fun k hk =>
        stab (col_ne hc k) (col_gr h ha (List.mem_range.mp hk)) (by first | decide | exact lle ‹_› rfl | exact llt ‹_› rfl | exact lll ‹_› rfl | exact llm ‹_› rfl | omega)
      refine ⟨?_, ?_⟩
      · congr 1
        exact List.map_congr_left fun k hk => (key k hk).1
      · rw [List.flatMap_def, List.flatMap_def]
        congr 1
        exact List.map_congr_left fun k hk => (key k hk).2
    · rw [gen, gen, dis, dis, if_neg ha, if_neg ha, if_neg ha, if_neg ha]
      exact ⟨rfl, rfl⟩

theorem dis_sub {n : Nat} {c : List Tm} (ha : alike c = true) {k : Nat} (hk : k < (hdT c).kids.length) {x : List Tm} (hx : x ∈ dis n (column c k)) : x ∈ dis (n + 1) c := by
  rw [dis, if_pos ha, List.mem_flatMap]
  exact ⟨k, List.mem_range.mpr hk, hx⟩
theorem dis_self {n : Nat} {c : List Tm} (ha : ¬ alike c = true) : c ∈ dis (n + 1) c := by rw [dis, if_neg ha]; simp
theorem dis_len : ∀ {n : Nat} {c : List Tm}, c ≠ [] → (∀ t ∈ c, Gr n t) → (dis n c).length ≤ 2 ^ n
  | 0, _, _, _ => by simp [dis]
  | n + 1, c, hc, h => by
    by_cases ha : alike c = true
    · rw [dis, if_pos ha, List.length_flatMap]
      have h2 : (hdT c).kids.length ≤ 2 := (h _ (hdT_mem hc)).ok.ln
      have key : ∀ k, k < (hdT c).kids.length → (dis n (column c k)).length ≤ 2 ^ n := fun k hk => dis_len (col_ne hc k) (col_gr h ha hk)
      rw [Nat.pow_succ]
      rcases lt3 _ (Nat.lt_succ_of_le (show (hdT c).kids.length ≤ 2 by assumption)) with e | e | e
      · rw [e]; simp
      · rw [e] at key ⊢
        have := key 0 (by first | decide | exact lle ‹_› rfl | exact llt ‹_› rfl | exact lll ‹_› rfl | exact llm ‹_› rfl | omega)
        simp [List.range_succ]; omega
      · rw [e] at key ⊢
        have := key 0 (by first | decide | exact lle ‹_› rfl | exact llt ‹_› rfl | exact lll ‹_› rfl | exact llm ‹_› rfl | omega)
        have := key 1 (by first | decide | exact lle ‹_› rfl | exact llt ‹_› rfl | exact lll ‹_› rfl | exact llm ‹_› rfl | omega)
        simp [List.range_succ]; omega
    · rw [dis, if_neg ha]
      have : 1 ≤ 2 ^ (n + 1) := Nat.one_le_two_pow
      simpa using this
theorem dis_props : ∀ {n : Nat} {c : List Tm}, c ≠ [] → (∀ t ∈ c, Gr n t) → ∀ x ∈ dis n c, x.length = c.length ∧ (∀ t ∈ x, Gr n t) ∧ alike x = false
  | 0, c, hc, h => (h _ (hdT_mem hc)).elim
  | n + 1, c, hc, h => by
    intro x hx
    by_cases ha : alike c = true
    · rw [dis, if_pos ha, List.mem_flatMap] at hx
      obtain ⟨k, hk, hx⟩ := hx
      obtain ⟨h1, h2, h3⟩ := dis_props (col_ne hc k) (col_gr h ha (List.mem_range.mp hk)) x hx
      exact ⟨by rw [h1, col_len], fun t ht => (h2 t ht).mono (by first | decide | exact lle ‹_› rfl | exact llt ‹_› rfl | exact lll ‹_› rfl | exact llm ‹_› rfl | omega), h3⟩
    · rw [dis, if_neg ha, List.mem_singleton] at hx
      subst hx
      exact ⟨rfl, h, by simpa using ha⟩
end
end Mine
end

section
open PySem PySem.W PyProof.Rows PySem.Calls
set_option tactic.hygienic false
set_option linter.all false
namespace Mine
noncomputable section
open scoped Classical

/-! the plain law, 2: rows turned, renamed, joined -/
theorem vname_inj : ∀ a < 32, ∀ b < 32, vname a = vname b → a = b := by decide +kernel
theorem vname_isV : ∀ a < 32, isV (vname a) = true := by decide +kernel

theorem idx_map {F : List Tm → List Tm} {x : List Tm} : ∀ {l : List (List Tm)}, (∀ y ∈ l, F y = F x → y = x) → (l.map F).idxOf (F x) = l.idxOf x
  | [], _ => rfl
  | a :: r, h => by
    rw [List.map_cons, List.idxOf_cons, List.idxOf_cons, idx_map fun y hy => h y (.tail _ hy)]
    by_cases e : a = x
    · subst e; simp
    · have e' : ¬ F a = F x := fun k => e (h a (.head _) k)
      have h1 : (a == x) = false := by simpa using e
      have h2 : (F a == F x) = false := by simpa using e'
      rw [h1, h2]
theorem add1_map {F : List Tm → List Tm} {N : List (List Tm)} {c : List Tm} (h : ∀ y ∈ N, F y = F c → y = c) : add1 (N.map F) (F c) = (add1 N c).map F := by
  unfold add1
  by_cases hc : c ∈ N
  · rw [if_pos hc, if_pos (List.mem_map_of_mem hc)]
  · rw [if_neg hc, if_neg ?_, List.map_append]
    · rfl
    · intro hm
      obtain ⟨y, hy, e⟩ := List.mem_map.mp hm
      exact hc (h y hy e ▸ hy)
theorem addAll_map {F : List Tm → List Tm} : ∀ {cs N : List (List Tm)}, (∀ y ∈ N ++ cs, ∀ z ∈ N ++ cs, F y = F z → y = z) → addAll (N.map F) (cs.map F) = (addAll N cs).map F
  | [], _, _ => rfl
  | c :: r, N, h => by
    rw [List.map_cons, addAll_cons, addAll_cons, add1_map fun y hy e => h y (by simp [hy]) c (by simp) e]
    refine addAll_map fun y hy z hz e => h y ?_ z ?_ e
    · rcases List.mem_append.mp hy with hy | hy
      · rcases mem_add1.mp hy with hy | rfl <;> simp [*]
      · simp [hy]
    · rcases List.mem_append.mp hz with hz | hz
      · rcases mem_add1.mp hz with hz | rfl <;> simp [*]
      · simp [hz]

theorem renL_mapP (ρ : Str → Str) : ∀ ks : List Tm, Tm.renL ρ ks = ks.map (Tm.ren ρ)
  | [] => rfl
  | k :: r => by rw [Tm.renL, renL_mapP ρ r]; rfl
theorem ren_mkP (ρ : Str → Str) (op : Str) (ks : List Tm) : (Tm.mk op ks).ren ρ = .mk (ρ op) (ks.map (Tm.ren ρ)) := by rw [Tm.ren, renL_mapP]
theorem ren_op (ρ : Str → Str) (t : Tm) : (t.ren ρ).op = ρ t.op := by cases t; rw [ren_mkP]; rfl
theorem ren_kids (ρ : Str → Str) (t : Tm) : (t.ren ρ).kids = t.kids.map (Tm.ren ρ) := by cases t; rw [ren_mkP]; rfl
theorem ren_id : ∀ t : Tm, t.ren id = t := Tm.ind fun op ks ih => by
  rw [ren_mkP]
  congr 1
  conv => rhs; rw [← List.map_id ks]
  exact List.map_congr_left fun k hk => ih k hk

section
variable (F : List Tm → List Tm) (V : Nat → List Tm → Prop) (ρ : Str → Str)
structure Hom : Prop where
  zero : ∀ c, ¬ V 0 c
  same : ∀ n c, V (n + 1) c → alike (F c) = alike c
  down : ∀ n c, V (n + 1) c → alike c = true → (hdT (F c)).op = ρ (hdT c).op ∧ (hdT (F c)).kids.length = (hdT c).kids.length ∧ ∀ k, k < (hdT c).kids.length → column (F c) k = F (column c k) ∧ V n (column c k)
  inj : ∀ n m c d, V n c → V m d → F c = F d → c = d
variable {F V ρ}
theorem Hom.dis (H : Hom F V ρ) : ∀ (n : Nat) (c : List Tm), V n c → Mine.dis n (F c) = (Mine.dis n c).map F ∧ (∀ x ∈ Mine.dis n c, ∃ k, V k x)
  | 0, c, h => (H.zero c h).elim
  | n + 1, c, h => by
    have e := H.same n c h
    by_cases ha : alike c = true
    · obtain ⟨_, h2, h3⟩ := H.down n c h ha
      have ha' : alike (F c) = true := e.trans ha
      rw [Mine.dis, Mine.dis, if_pos ha, if_pos ha', h2, List.map_flatMap]
      refine ⟨?_, fun x hx => ?_⟩
      · rw [List.flatMap_def, List.flatMap_def]
        congr 1
        refine List.map_congr_left fun k hk => ?_
        obtain ⟨h4, h5⟩ := h3 k (List.mem_range.mp hk)
        rw [h4]; exact (H.dis n _ h5).1
      · obtain ⟨k, hk, hx⟩ := List.mem_flatMap.mp hx
        exact (H.dis n _ (h3 k (List.mem_range.mp hk)).2).2 x hx
    · have ha' : ¬ alike (F c) = true := by rw [e]; exact ha
      rw [Mine.dis, Mine.dis, if_neg ha, if_neg ha']
      exact ⟨rfl, fun x hx => ⟨n + 1, by rw [List.mem_singleton.mp hx]; exact h⟩⟩
theorem Hom.gen (H : Hom F V ρ) {ν ν' : List Tm → Str} : ∀ (n : Nat) (c : List Tm), V n c → (∀ x ∈ Mine.dis n c, ν' (F x) = ρ (ν x)) → Mine.gen ν' n (F c) = (Mine.gen ν n c).ren ρ
  | 0, c, h, _ => (H.zero c h).elim
  | n + 1, c, h, hν => by
    have e := H.same n c h
    by_cases ha : alike c = true
    · obtain ⟨h1, h2, h3⟩ := H.down n c h ha
      have ha' : alike (F c) = true := e.trans ha
      rw [Mine.gen, Mine.gen, if_pos ha, if_pos ha', ren_mkP, h1, h2, List.map_map]
      congr 1
      refine List.map_congr_left fun k hk => ?_
      obtain ⟨h4, h5⟩ := h3 k (List.mem_range.mp hk)
      rw [h4]; exact H.gen n _ h5 fun x hx => hν x (dis_sub ha (List.mem_range.mp hk) hx)
    · have ha' : ¬ alike (F c) = true := by rw [e]; exact ha
      rw [Mine.gen, Mine.gen, if_neg ha, if_neg ha', ren_mkP, hν c (dis_self ha)]
      rfl
theorem Hom.lgg (H : Hom F V ρ) {n : Nat} {c : List Tm} (h : V n c) (hρ : ∀ k, k < 32 → ρ (vname k) = vname k) (hl : (tab n c).length ≤ 32) : lggT n (F c) = (lggT n c).ren ρ := by
  obtain ⟨h1, h2⟩ := H.dis n c h
  have hinj : ∀ y ∈ Mine.dis n c, ∀ z ∈ Mine.dis n c, F y = F z → y = z := fun y hy z hz e => by
    obtain ⟨a, ha⟩ := h2 y hy
    obtain ⟨b, hb⟩ := h2 z hz
    exact H.inj a b y z ha hb e
  have ht : tab n (F c) = (tab n c).map F := by
    unfold tab
    rw [h1]
    exact addAll_map (N := []) (by simpa using hinj)
  unfold lggT
  refine H.gen n c h fun x hx => ?_
  have hm : x ∈ tab n c := by unfold tab; exact mem_addAll.mpr (.inr hx)
  have hx' : nu (tab n (F c)) (F x) = nu (tab n c) x := by
    unfold nu
    rw [ht, idx_map fun y hy e => hinj y (by
      unfold tab at hy
      rcases mem_addAll.mp hy with hy | hy
      · simp at hy
      · exact hy) x hx e]
  rw [hx']
  unfold nu
  exact (hρ _ (Nat.lt_of_lt_of_le (List.idxOf_lt_length_of_mem hm) hl)).symm
end
theorem tab_len {n : Nat} {c : List Tm} (hn : n ≤ 5) (hc : c ≠ []) (h : ∀ t ∈ c, Gr n t) : (tab n c).length ≤ 32 := by
  have h1 := addAll_len (dis n c) []
  have h2 := dis_len hc h
  have h3 : 2 ^ n ≤ 2 ^ 5 := Nat.pow_le_pow_right (by first | decide | exact lle ‹_› rfl | exact llt ‹_› rfl | exact lll ‹_› rfl | exact llm ‹_› rfl | omega) hn
  unfold tab
  simp at h1
  omega

/-! turned rows -/
theorem map_getD {α β : Type} (f : α → β) (l : List α) (i : Nat) (a : α) : (l.map f).getD i (f a) = f (l.getD i a) := by
  rw [List.getD_eq_getElem?_getD, List.getD_eq_getElem?_getD, List.getElem?_map]
  cases l[i]? <;> rfl
theorem getD_any {α : Type} {l : List α} {i : Nat} (h : i < l.length) (a b : α) : l.getD i a = l.getD i b := by
  rw [List.getD_eq_getElem?_getD, List.getD_eq_getElem?_getD, List.getElem?_eq_getElem h]; rfl
noncomputable def pick (π : List Nat) (c : List Tm) : List Tm := π.map fun i => c.getD i tm0
theorem pick_mem {π : List Nat} {c : List Tm} (h1 : ∀ i ∈ π, i < c.length) (h2 : ∀ i, i < c.length → i ∈ π) {t : Tm} : t ∈ pick π c ↔ t ∈ c := by
  unfold pick
  rw [List.mem_map]
  constructor
  · rintro ⟨i, hi, rfl⟩
    rw [List.getD_eq_getElem?_getD, List.getElem?_eq_getElem (h1 i hi)]
    exact List.getElem_mem _
  · intro h
    obtain ⟨i, hi, rfl⟩ := List.mem_iff_getElem.mp h
    exact ⟨i, h2 i hi, by rw [List.getD_eq_getElem?_getD, List.getElem?_eq_getElem hi]; rfl⟩
theorem alike_mem {c d : List Tm} (hc : c ≠ []) (h : ∀ t, t ∈ c ↔ t ∈ d) : alike c = alike d := by
  have hd : d ≠ [] := fun e => by
    have := (h _).mp (hdT_mem hc)
    rw [e] at this; cases this
  rw [Bool.eq_iff_iff, alike_iff hc, alike_iff hd]
  exact ⟨fun k a ha b hb => k a ((h a).mpr ha) b ((h b).mpr hb), fun k a ha b hb => k a ((h a).mp ha) b ((h b).mp hb)⟩
theorem hom_pick {π : List Nat} {m : Nat} (hm : 0 < m) (h1 : ∀ i ∈ π, i < m) (h2 : ∀ i, i < m → i ∈ π) : Hom (pick π) (fun n c => c.length = m ∧ ∀ t ∈ c, Gr n t) id where
  zero := fun c h => by
    have hc : c ≠ [] := fun e => by rw [e] at h; simp at h; omega
    exact h.2 _ (hdT_mem hc)
  same := fun n c h => by
    have hc : c ≠ [] := fun e => by rw [e] at h; simp at h; omega
    exact (alike_mem hc fun t => (pick_mem (by rw [h.1]; exact h1) (by rw [h.1]; exact h2)).symm).symm
  down := fun n c h ha => by
    have hc : c ≠ [] := fun e => by rw [e] at h; simp at h; omega
    have hp := @pick_mem π c (by rw [h.1]; exact h1) (by rw [h.1]; exact h2)
    have hpc : pick π c ≠ [] := fun e => by
      have := hp.mpr (hdT_mem hc)
      rw [e] at this; cases this
    have hs := alike_hd.mp ha _ (hp.mp (hdT_mem hpc))
    refine ⟨hs.1, hs.2, fun k hk => ⟨?_, by rw [col_len]; exact h.1, col_gr h.2 ha hk⟩⟩
    unfold column pick
    rw [List.map_map]
    refine List.map_congr_left fun i hi => ?_
    have hlt : i < c.length := by rw [h.1]; exact h1 i hi
    show (c.getD i tm0).kids.getD k (.mk default []) = (c.map fun t => t.kids.getD k (.mk default [])).getD i tm0
    rw [← map_getD (fun t : Tm => t.kids.getD k (.mk default [])) c i tm0]
    exact getD_any (by simpa using hlt) _ _
  inj := fun n k c d hc hd e => by
    refine List.ext_getElem (hc.1.trans hd.1.symm) fun i hi hi' => ?_
    have hm' := h2 i (by rw [← hc.1]; exact hi)
    obtain ⟨j, hj, rfl⟩ := List.mem_iff_getElem.mp hm'
    have h3 := congrArg (fun l => l[j]?) e
    unfold pick at h3
    simp only [List.getElem?_map, List.getElem?_eq_getElem hj, Option.map_some, Option.some.injEq] at h3
    rw [List.getD_eq_getElem?_getD, List.getD_eq_getElem?_getD, List.getElem?_eq_getElem hi, List.getElem?_eq_getElem hi'] at h3
    exact h3
theorem lgg_pick {π : List Nat} {n : Nat} {c : List Tm} (hn : n ≤ 5) (hc : c ≠ []) (h : ∀ t ∈ c, Gr n t) (h1 : ∀ i ∈ π, i < c.length) (h2 : ∀ i, i < c.length → i ∈ π) : lggT n (pick π c) = lggT n c := by
  have hp : 0 < c.length := List.length_pos_iff.mpr hc
  rw [(hom_pick hp h1 h2).lgg (n := n) (c := c) ⟨rfl, h⟩ (fun zz zz => rfl) (tab_len hn hc h), ren_id]

/-! renamed rows -/
theorem hom_ren {ρ : Str → Str} (hρ : ∀ a b ka kb, dar a = some ka → a ≠ Str.ofString "h" → dar b = some kb → b ≠ Str.ofString "h" → ρ a = ρ b → a = b) :
    Hom (fun c => c.map (Tm.ren ρ)) (fun n c => c ≠ [] ∧ ∀ t ∈ c, Gr n t) ρ where
  zero := fun c h => h.2 _ (hdT_mem h.1)
  same := fun n c h => by
    have hc' : c.map (Tm.ren ρ) ≠ [] := by simpa using h.1
    rw [Bool.eq_iff_iff, alike_iff hc', alike_iff h.1]
    constructor
    · intro k a ha b hb
      have := k _ (List.mem_map_of_mem ha) _ (List.mem_map_of_mem hb)
      obtain ⟨e1, e2⟩ := this
      rw [ren_op, ren_op] at e1
      rw [ren_kids, ren_kids, List.length_map, List.length_map] at e2
      have ga := gr_op (h.2 a ha)
      have gb := gr_op (h.2 b hb)
      exact ⟨hρ _ _ _ _ ga.1 ga.2.1 gb.1 gb.2.1 e1, e2⟩
    · intro k x hx y hy
      obtain ⟨a, ha, rfl⟩ := List.mem_map.mp hx
      obtain ⟨b, hb, rfl⟩ := List.mem_map.mp hy
      obtain ⟨e1, e2⟩ := k a ha b hb
      refine ⟨by rw [ren_op, ren_op, e1], by rw [ren_kids, ren_kids, List.length_map, List.length_map, e2]⟩
  down := fun n c h ha => by
    have hh : hdT (c.map (Tm.ren ρ)) = (hdT c).ren ρ := by
      cases c with
      | nil => exact absurd rfl h.1
      | cons a r => rfl
    rw [hh, ren_op, ren_kids, List.length_map]
    refine ⟨rfl, rfl, fun k hk => ⟨?_, col_ne h.1 k, col_gr h.2 ha hk⟩⟩
    show column (c.map (Tm.ren ρ)) k = (column c k).map (Tm.ren ρ)
    unfold column
    rw [List.map_map, List.map_map]
    refine List.map_congr_left fun t ht => ?_
    have hkt : k < t.kids.length := by rw [(alike_hd.mp ha t ht).2]; exact hk
    show (t.ren ρ).kids.getD k (.mk default []) = (t.kids.getD k (.mk default [])).ren ρ
    rw [ren_kids, ← map_getD (Tm.ren ρ)]
    exact getD_any (by simpa using hkt) _ _
  inj := fun n m c d hc hd e => by
    have key : ∀ (n m : Nat) (a b : Tm), Gr n a → Gr m b → a.ren ρ = b.ren ρ → a = b := by
      intro n
      induction n with
      | zero => intro m a b h; exact h.elim
      | succ n ih =>
        intro m a b ha hb e
        cases m with
        | zero => exact hb.elim
        | succ m =>
          have e1 := congrArg Tm.op e
          have e2 := congrArg Tm.kids e
          rw [ren_op, ren_op] at e1
          rw [ren_kids, ren_kids] at e2
          have ga := gr_op ha
          have gb := gr_op hb
          have h1 := hρ _ _ _ _ ga.1 ga.2.1 gb.1 gb.2.1 e1
          have h2 : a.kids = b.kids := by
            have hl : a.kids.length = b.kids.length := by simpa using congrArg List.length e2
            refine List.ext_getElem hl fun i hi hi' => ?_
            have h3 := congrArg (fun l => l[i]?) e2
            simp only [List.getElem?_map, List.getElem?_eq_getElem hi, List.getElem?_eq_getElem hi', Option.map_some, Option.some.injEq] at h3
            exact ih m _ _ (gr_kid ha (List.getElem_mem hi)) (gr_kid hb (List.getElem_mem hi')) h3
          cases a; cases b
          simp only [Tm.op, Tm.kids] at h1 h2
          rw [h1, h2]
    have e : c.map (Tm.ren ρ) = d.map (Tm.ren ρ) := e
    have hl : c.length = d.length := by simpa using congrArg List.length e
    refine List.ext_getElem hl fun i hi hi' => ?_
    have h3 := congrArg (fun l => l[i]?) e
    simp only [List.getElem?_map, List.getElem?_eq_getElem hi, List.getElem?_eq_getElem hi', Option.map_some, Option.some.injEq] at h3
    exact key n m _ _ (hc.2 _ (List.getElem_mem hi)) (hd.2 _ (List.getElem_mem hi')) h3
theorem lgg_ren {ρ : Str → Str} (hρ : ∀ a b ka kb, dar a = some ka → a ≠ Str.ofString "h" → dar b = some kb → b ≠ Str.ofString "h" → ρ a = ρ b → a = b) (hv : ∀ k, k < 32 → ρ (vname k) = vname k)
    {n : Nat} {c : List Tm} (hn : n ≤ 5) (hc : c ≠ []) (h : ∀ t ∈ c, Gr n t) : lggT n (c.map (Tm.ren ρ)) = (lggT n c).ren ρ :=
  (hom_ren hρ).lgg (n := n) (c := c) ⟨hc, h⟩ hv (tab_len hn hc h)
end
end Mine
end

section
open PySem PySem.W PyProof.Rows PySem.Calls
set_option tactic.hygienic false
set_option linter.all false
namespace Mine
noncomputable section
open scoped Classical

/-! the plain law, 3: two by two -/
theorem nu_inj {N : List (List Tm)} (hN : N.length ≤ 32) {x y : List Tm} (hx : x ∈ N) (hy : y ∈ N) (e : nu N x = nu N y) : x = y := by
  have h1 := List.idxOf_lt_length_of_mem hx
  have h2 := List.idxOf_lt_length_of_mem hy
  have e1 := vname_inj _ (Nat.lt_of_lt_of_le h1 hN) _ (Nat.lt_of_lt_of_le h2 hN) e
  have h3 := List.getElem_idxOf h1
  have h4 := List.getElem_idxOf h2
  rw [← h3, ← h4]
  simp only [e1]
theorem nu_isV {N : List (List Tm)} (hN : N.length ≤ 32) {x : List Tm} (hx : x ∈ N) : isV (nu N x) = true := vname_isV _ (Nat.lt_of_lt_of_le (List.idxOf_lt_length_of_mem hx) hN)

theorem gen_alike {ν : List Tm → Str} {n : Nat} {c : List Tm} (ha : alike c = true) : gen ν (n + 1) c = .mk (hdT c).op ((List.range (hdT c).kids.length).map fun k => gen ν n (column c k)) := by rw [gen, if_pos ha]
theorem gen_apart {ν : List Tm → Str} {n : Nat} {c : List Tm} (ha : ¬ alike c = true) : gen ν (n + 1) c = .mk (ν c) [] := by rw [gen, if_neg ha]
theorem gen_SH {ν : List Tm → Str} {n : Nat} {c : List Tm} (ha : alike c = true) : SH (gen ν (n + 1) c) (hdT c) := by
  rw [gen_alike ha]
  exact ⟨rfl, by simp [Tm.kids]⟩
theorem gen_kid {ν : List Tm → Str} {n : Nat} {c : List Tm} (ha : alike c = true) {k : Nat} (hk : k < (hdT c).kids.length) (d : Tm) : (gen ν (n + 1) c).kids.getD k d = gen ν n (column c k) := by
  rw [gen_alike ha]
  show ((List.range (hdT c).kids.length).map fun k => gen ν n (column c k)).getD k d = _
  rw [List.getD_eq_getElem?_getD, List.getElem?_map, List.getElem?_range hk]
  rfl
theorem tm_ext {a b : Tm} (h1 : a.op = b.op) (h2 : a.kids = b.kids) : a = b := by
  cases a; cases b
  simp only [Tm.op, Tm.kids] at h1 h2
  rw [h1, h2]
theorem kids_ext {a b : Tm} (h1 : a.op = b.op) (h2 : a.kids.length = b.kids.length) (h3 : ∀ k, k < a.kids.length → a.kids.getD k tm0 = b.kids.getD k tm0) : a = b := by
  refine tm_ext h1 (List.ext_getElem h2 fun i hi hi' => ?_)
  have := h3 i hi
  rw [List.getD_eq_getElem?_getD, List.getD_eq_getElem?_getD, List.getElem?_eq_getElem hi, List.getElem?_eq_getElem hi'] at this
  exact this
theorem col_get {c : List Tm} {k i : Nat} (hi : i < c.length) : (column c k).getD i tm0 = (c.getD i tm0).kids.getD k tm0 := by
  unfold column
  rw [List.getD_eq_getElem?_getD, List.getElem?_map, List.getElem?_eq_getElem hi, List.getD_eq_getElem?_getD (l := c), List.getElem?_eq_getElem hi]
  rfl
theorem getD_mem {c : List Tm} {i : Nat} (hi : i < c.length) : c.getD i tm0 ∈ c := by
  rw [List.getD_eq_getElem?_getD, List.getElem?_eq_getElem hi]
  exact List.getElem_mem hi
theorem list_ext {c d : List Tm} (h : c.length = d.length) (k : ∀ i, i < c.length → c.getD i tm0 = d.getD i tm0) : c = d := by
  refine List.ext_getElem h fun i hi hi' => ?_
  have := k i hi
  rw [List.getD_eq_getElem?_getD, List.getD_eq_getElem?_getD, List.getElem?_eq_getElem hi, List.getElem?_eq_getElem hi'] at this
  exact this

theorem gen_inj {N : List (List Tm)} (hN : N.length ≤ 32) : ∀ (n : Nat) (c d : List Tm), c ≠ [] → c.length = d.length → (∀ t ∈ c, Gr n t) → (∀ t ∈ d, Gr n t) → (∀ x ∈ dis n c, x ∈ N) → (∀ x ∈ dis n d, x ∈ N) → gen (nu N) n c = gen (nu N) n d → c = d
  | 0, c, d, hc, _, h, _, _, _, _ => (h _ (hdT_mem hc)).elim
  | n + 1, c, d, hc, hl, hgc, hgd, hdc, hdd, e => by
    have hd : d ≠ [] := fun e => by rw [e] at hl; exact hc (List.length_eq_zero_iff.mp hl)
    by_cases ha : alike c = true
    · by_cases hb : alike d = true
      · have s1 := gen_SH (ν := nu N) (n := n) ha
        have s2 := gen_SH (ν := nu N) (n := n) hb
        have s3 : SH (hdT c) (hdT d) := s1.symm.trans (e ▸ s2)
        have key : ∀ k, k < (hdT c).kids.length → column c k = column d k := fun k hk => by
          have hk' : k < (hdT d).kids.length := by rw [← s3.2]; exact hk
          refine gen_inj hN n _ _ (col_ne hc k) (by rw [col_len, col_len, hl]) (col_gr hgc ha hk) (col_gr hgd hb hk') (fun x hx => hdc x (dis_sub ha hk hx)) (fun x hx => hdd x (dis_sub hb hk' hx)) ?_
          rw [← gen_kid ha hk tm0, ← gen_kid hb hk' tm0, e]
        refine list_ext hl fun i hi => ?_
        have a1 := alike_hd.mp ha _ (getD_mem hi)
        have a2 := alike_hd.mp hb _ (getD_mem (c := d) (i := i) (by first | decide | exact lle ‹_› rfl | exact llt ‹_› rfl | exact lll ‹_› rfl | exact llm ‹_› rfl | omega))
        refine kids_ext (a1.1.trans (s3.1.trans a2.1.symm)) (a1.2.trans (s3.2.trans a2.2.symm)) fun k hk => ?_
        have := key k (by rw [← a1.2]; exact hk)
        rw [← col_get hi, ← col_get (by first | decide | exact lle ‹_› rfl | exact llt ‹_› rfl | exact lll ‹_› rfl | exact llm ‹_› rfl | omega), this]
      · exfalso
        have s1 := gen_SH (ν := nu N) (n := n) ha
        rw [e, gen_apart hb] at s1
        have h1 := nu_isV hN (hdd d (dis_self hb))
        have h2 := (gr_op (hgc _ (hdT_mem hc))).2.2
        have h3 : nu N d = (hdT c).op := s1.1
        rw [h3, h2] at h1
        cases h1
    · by_cases hb : alike d = true
      · exfalso
        have s1 := gen_SH (ν := nu N) (n := n) hb
        rw [← e, gen_apart ha] at s1
        have h1 := nu_isV hN (hdc c (dis_self ha))
        have h2 := (gr_op (hgd _ (hdT_mem hd))).2.2
        have h3 : nu N c = (hdT d).op := s1.1
        rw [h3, h2] at h1
        cases h1
      · rw [gen_apart ha, gen_apart hb] at e
        exact nu_inj hN (hdc c (dis_self ha)) (hdd d (dis_self hb)) (congrArg Tm.op e)

noncomputable def joinF (N : List (List Tm)) (K : Nat) (c : List Tm) : List Tm := [gen (nu N) K c.dropLast, c.getLastD tm0]
theorem joinF_app (N : List (List Tm)) (K : Nat) (s : List Tm) (t : Tm) : joinF N K (s ++ [t]) = [gen (nu N) K s, t] := by
  unfold joinF
  rw [List.dropLast_concat, List.getLastD_concat]
theorem hdT_app {s : List Tm} (h : s ≠ []) (t : Tm) : hdT (s ++ [t]) = hdT s := by
  cases s with
  | nil => exact absurd rfl h
  | cons a r => rfl
noncomputable def joinV (N : List (List Tm)) (K m n : Nat) (c : List Tm) : Prop := ∃ s t, c = s ++ [t] ∧ s.length = m ∧ n ≤ K ∧ (∀ x ∈ s, Gr n x) ∧ Gr n t ∧ ∀ x ∈ dis n s, x ∈ N
theorem hom_join {N : List (List Tm)} (hN : N.length ≤ 32) {K m : Nat} (hm : 0 < m) : Hom (joinF N K) (joinV N K m) id where
  zero := fun c ⟨s, t, _, _, _, _, h, _⟩ => h
  same := fun n c ⟨s, t, e, hs, hn, hgs, hgt, hd⟩ => by
    subst e
    have hs0 : s ≠ [] := fun e => by rw [e] at hs; simp at hs; omega
    rw [joinF_app, ← (stab hs0 hgs hn).1, Bool.eq_iff_iff, alike_iff (by simp), alike_iff (by simp)]
    constructor
    · intro k
      have h1 : SH (gen (nu N) (n + 1) s) t := k _ (by simp) _ (by simp)
      by_cases ha : alike s = true
      · have h2 : SH (hdT s) t := (gen_SH (ν := nu N) (n := n) ha).symm.trans h1
        have h3 : ∀ a ∈ s ++ [t], SH a t := fun a hx => by
          rcases List.mem_append.mp hx with hx | hx
          · exact (alike_hd.mp ha a hx).trans h2
          · rw [List.mem_singleton.mp hx]; exact ⟨rfl, rfl⟩
        exact fun a hx b hy => (h3 a hx).trans (h3 b hy).symm
      · exfalso
        rw [gen_apart ha] at h1
        have h2 := nu_isV hN (hd s (dis_self ha))
        have h3 : nu N s = t.op := h1.1
        rw [h3, (gr_op hgt).2.2] at h2
        cases h2
    · intro k
      have ha : alike s = true := (alike_iff hs0).mpr fun a hx b hy => k a (by simp [hx]) b (by simp [hy])
      have h1 : SH (gen (nu N) (n + 1) s) t := (gen_SH ha).trans (k _ (List.mem_append_left _ (hdT_mem hs0)) _ (by simp))
      intro a hx b hy
      have h3 : ∀ a ∈ [gen (nu N) (n + 1) s, t], SH a t := fun a hx => by
        rcases List.mem_cons.mp hx with rfl | hx
        · exact h1
        · rw [List.mem_singleton.mp hx]; exact ⟨rfl, rfl⟩
      exact (h3 a hx).trans (h3 b hy).symm
  down := fun n c ⟨s, t, e, hs, hn, hgs, hgt, hd⟩ hall => by
    subst e
    have hs0 : s ≠ [] := fun e => by rw [e] at hs; simp at hs; omega
    have hk := (alike_iff (c := s ++ [t]) (by simp)).mp hall
    have ha : alike s = true := (alike_iff hs0).mpr fun a hx b hy => hk a (by simp [hx]) b (by simp [hy])
    have hst : SH (hdT s) t := hk _ (List.mem_append_left _ (hdT_mem hs0)) _ (by simp)
    have hsh := gen_SH (ν := nu N) (n := n) ha
    rw [joinF_app, ← (stab hs0 hgs hn).1, hdT_app hs0]
    refine ⟨hsh.1, hsh.2, fun k hk => ?_⟩
    have hcol : column (s ++ [t]) k = column s k ++ [t.kids.getD k tm0] := by unfold column; rw [List.map_append]; rfl
    have hcg := col_gr hgs ha hk
    refine ⟨?_, column s k, t.kids.getD k tm0, hcol, by rw [col_len]; exact hs, by omega, hcg, gr_kid hgt (kid_mem (by rw [← hst.2]; exact hk)), fun x hx => hd x (dis_sub ha hk hx)⟩
    rw [hcol, joinF_app, ← (stab (ν := nu N) (col_ne hs0 k) hcg (m := K) (by first | decide | exact lle ‹_› rfl | exact llt ‹_› rfl | exact lll ‹_› rfl | exact llm ‹_› rfl | omega)).1, ← gen_kid ha hk tm0]
    rfl
  inj := fun n k c d ⟨s, t, e, hs, hn, hgs, hgt, hds⟩ ⟨s', t', e', hs', hn', hgs', hgt', hds'⟩ h => by
    subst e; subst e'
    have hs0 : s ≠ [] := fun e => by rw [e] at hs; simp at hs; omega
    have hs0' : s' ≠ [] := fun e => by rw [e] at hs'; simp at hs'; omega
    rw [joinF_app, joinF_app] at h
    simp only [List.cons.injEq, and_true] at h
    have e1 := gen_inj hN K s s' hs0 (hs.trans hs'.symm) (fun x hx => (hgs x hx).mono hn) (fun x hx => (hgs' x hx).mono hn') (by rw [← (stab (ν := nu N) hs0 hgs hn).2]; exact hds) (by rw [← (stab (ν := nu N) hs0' hgs' hn').2]; exact hds') h.1
    rw [e1, h.2]
theorem lgg_join {n : Nat} {s : List Tm} {t : Tm} (hn : n ≤ 5) (hs : s ≠ []) (hgs : ∀ x ∈ s, Gr n x) (hgt : Gr n t) : lggT n [lggT n s, t] = lggT n (s ++ [t]) := by
  have hl := tab_len hn hs hgs
  have h := (hom_join hl (K := n) (m := s.length) (List.length_pos_iff.mpr hs)).lgg (n := n) (c := s ++ [t]) ⟨s, t, rfl, rfl, Nat.le_refl _, hgs, hgt, fun x hx => mem_addAll.mpr (.inr hx)⟩ (fun zz zz => rfl)
    (tab_len hn (by simp) fun x hx => by
      rcases List.mem_append.mp hx with hx | hx
      · exact hgs x hx
      · rw [List.mem_singleton.mp hx]; exact hgt)
  rw [ren_id, joinF_app] at h
  exact h
theorem gen_one {ν : List Tm → Str} : ∀ {n : Nat} {t : Tm}, Gr n t → gen ν n [t] = t
  | 0, _, h => h.elim
  | n + 1, t, h => by
    have ha : alike [t] = true := alike_hd.mpr fun u hu => by rw [List.mem_singleton.mp hu]; exact ⟨rfl, rfl⟩
    refine kids_ext (gen_SH ha).1 (gen_SH ha).2 fun k hk => ?_
    have hk : k < t.kids.length := by rw [(gen_SH ha).2] at hk; exact hk
    rw [gen_kid ha hk]
    exact gen_one (gr_kid h (kid_mem hk))
theorem lgg_one {n : Nat} {t : Tm} (h : Gr n t) : lggT n [t] = t := gen_one h
theorem lgg_fold {n : Nat} (hn : n ≤ 5) : ∀ {r s : List Tm}, s ≠ [] → (∀ x ∈ s, Gr n x) → (∀ x ∈ r, Gr n x) → r.foldl (fun step t => lggT n [step, t]) (lggT n s) = lggT n (s ++ r)
  | [], s, _, _, _ => by simp
  | t :: r, s, hs, hgs, hgr => by
    rw [List.foldl_cons, lgg_join hn hs hgs (hgr t (.head _)), lgg_fold hn (by simp) (fun x hx => by
      rcases List.mem_append.mp hx with hx | hx
      · exact hgs x hx
      · rw [List.mem_singleton.mp hx]; exact hgr t (.head _)) fun x hx => hgr x (.tail _ hx), List.append_assoc]
    rfl
end
end Mine
end

section
open PySem PySem.W PyProof.Rows PySem.Calls
set_option tactic.hygienic false
set_option linter.all false
namespace Mine
noncomputable section
open scoped Classical

/-! the plain law, 4: parts in the places of the marks; what fits -/
noncomputable def app (σ : Str → Tm) (p : Tm) : Tm := p.subst fun x => some (σ x)
theorem app_mk (σ : Str → Tm) (op : Str) (ks : List Tm) : app σ (.mk op ks) = if (ks.isEmpty && isV op) = true then σ op else .mk op (ks.map (app σ)) := by
  unfold app
  rw [subst_mk]
  rfl
theorem app_var (σ : Str → Tm) {op : Str} (h : isV op = true) : app σ (.mk op []) = σ op := by
  rw [app_mk, if_pos (by simp [h])]
theorem app_op (σ : Str → Tm) {op : Str} {ks : List Tm} (h : isV op = false) : app σ (.mk op ks) = .mk op (ks.map (app σ)) := by
  rw [app_mk, if_neg (by simp [h])]
theorem pv_cases {n : Nat} {op : Str} {ks : List Tm} (h : Pv (n + 1) (.mk op ks)) : (isV op = true ∧ ks = []) ∨ (isV op = false ∧ dar op = some ks.length ∧ op ≠ Str.ofString "h") := by
  rcases h.1 with ⟨h1, h2, _⟩ | ⟨h1, h2⟩
  · exact .inl ⟨h1, h2⟩
  · exact .inr ⟨(dar_ok h1).2.2.2, h1, h2⟩
theorem pv_kid {n : Nat} {op : Str} {ks : List Tm} (h : Pv (n + 1) (.mk op ks)) {k : Tm} (hk : k ∈ ks) : Pv n k := h.2 k hk

noncomputable def Agr (b : Bd) (σ : Str → Tm) : Prop := ∀ x u, b.lookup x = some u → σ x = u
theorem Agr.nil (σ : Str → Tm) : Agr [] σ := fun x u h => by simp at h
noncomputable def ofB (b : Bd) (x : Str) : Tm := (b.lookup x).getD tm0
theorem agr_ofB (b : Bd) : Agr b (ofB b) := fun x u h => by unfold ofB; rw [h]; rfl
theorem lookup_app {b : Bd} {x y : Str} {u : Tm} : (b ++ [(y, u)]).lookup x = (b.lookup x).or (if x = y then some u else none) := by
  induction b with
  | nil =>
    rw [List.nil_append, List.lookup_cons]
    by_cases e : x = y
    · subst e; simp
    · have : (x == y) = false := by simpa using e
      rw [this]; simp [e]
  | cons p r ih =>
    obtain ⟨k, v⟩ := p
    rw [List.cons_append, List.lookup_cons, List.lookup_cons, ih]
    cases (x == k) <;> rfl

theorem fits_mkP (o : Str) (ks : List Tm) (n : Tm) (b : Bd) : fits (.mk o ks) n b = if isV o = true then (match b.lookup o with
      | some u => (decide (u = n), b)
      | none => (true, b ++ [(o, n)]))
    else if o ≠ n.op ∨ ks.length ≠ n.kids.length then (false, b) else fitsL ks n.kids b := by (rw [fits]) <;> rfl
theorem fitsL_cons (w : Tm) (ws : List Tm) (n : Tm) (ns : List Tm) (b : Bd) : fitsL (w :: ws) (n :: ns) b = ((fits w n b).1 && (fitsL ws ns (fits w n b).2).1, (fitsL ws ns (fits w n b).2).2) := by rw [fitsL]

theorem fits_complete {σ : Str → Tm} : ∀ (n : Nat) (p t : Tm) (b : Bd), Pv n p → Agr b σ → app σ p = t → (fits p t b).1 = true ∧ Agr (fits p t b).2 σ
  | 0, _, _, _, h, _, _ => h.elim
  | n + 1, .mk op ks, t, b, h, hb, e => by
    rcases pv_cases h with ⟨hv, rfl⟩ | ⟨hv, _, _⟩
    · rw [app_var σ hv] at e
      rw [fits_mkP, if_pos hv]
      cases hl : b.lookup op with
      | some u =>
        have := hb op u hl
        exact ⟨by simp [← this, e], hb⟩
      | none =>
        refine ⟨rfl, fun x u hx => ?_⟩
        rw [lookup_app] at hx
        cases hx' : b.lookup x with
        | some v =>
          rw [hx'] at hx
          simp at hx
          exact hx ▸ hb x v hx'
        | none =>
          rw [hx'] at hx
          by_cases ex : x = op
          · subst ex
            simp at hx
            rw [e, hx]
          · simp [ex] at hx
    · rw [app_op σ hv] at e
      subst e
      rw [fits_mkP, if_neg (by simp [hv]), if_neg (by simp [Tm.op, Tm.kids])]
      have key : ∀ (ks : List Tm) (b : Bd), (∀ k ∈ ks, Pv n k) → Agr b σ → (fitsL ks (ks.map (app σ)) b).1 = true ∧ Agr (fitsL ks (ks.map (app σ)) b).2 σ := by
        intro ks
        induction ks with
        | nil => intro b _ hb; simp [fitsL, hb]
        | cons k r ih =>
          intro b hk hb
          obtain ⟨h1, h2⟩ := fits_complete n k (app σ k) b (hk k (.head _)) hb rfl
          obtain ⟨h3, h4⟩ := ih (fits k (app σ k) b).2 (fun x hx => hk x (.tail _ hx)) h2
          rw [List.map_cons, fitsL_cons]
          exact ⟨by rw [h1, h3]; rfl, h4⟩
      exact key ks b (fun k hk => pv_kid h hk) hb

theorem vars_mk (op : Str) (ks : List Tm) : (Tm.mk op ks).vars = if (ks.isEmpty && isV op) = true then [op] else Tm.varsL ks := by rw [Tm.vars]
theorem fits_sound : ∀ (n : Nat) (p t : Tm) (b : Bd), Pv n p → (fits p t b).1 = true →
    (∀ x u, b.lookup x = some u → (fits p t b).2.lookup x = some u) ∧ (∀ x ∈ p.vars, ((fits p t b).2.lookup x).isSome = true) ∧ ∀ σ, Agr (fits p t b).2 σ → app σ p = t
  | 0, _, _, _, h, _ => h.elim
  | n + 1, .mk op ks, t, b, h, hf => by
    rcases pv_cases h with ⟨hv, rfl⟩ | ⟨hv, _, _⟩
    · rw [fits_mkP, if_pos hv] at hf ⊢
      rw [vars_mk, if_pos (by simp [hv])]
      cases hl : b.lookup op with
      | some u =>
        rw [hl] at hf
        have hu : u = t := by simpa using hf
        refine ⟨fun x u h => h, fun x hx => ?_, fun σ hσ => ?_⟩
        · rw [List.mem_singleton.mp hx, hl]; rfl
        · rw [app_var σ hv, hσ op u hl, hu]
      | none =>
        refine ⟨fun x u h => ?_, fun x hx => ?_, fun σ hσ => ?_⟩
        · rw [lookup_app, h]; rfl
        · rw [List.mem_singleton.mp hx, lookup_app, hl]; simp
        · rw [app_var σ hv]
          exact hσ op t (by rw [lookup_app, hl]; simp)
    · rw [fits_mkP, if_neg (by simp [hv])] at hf ⊢
      by_cases hc : op ≠ t.op ∨ ks.length ≠ t.kids.length
      · rw [if_pos hc] at hf; cases hf
      rw [if_neg hc] at hf ⊢
      simp only [ne_eq, not_or, Classical.not_not] at hc
      have key : ∀ (ks ts : List Tm) (b : Bd), (∀ k ∈ ks, Pv n k) → ks.length = ts.length → (fitsL ks ts b).1 = true →
          (∀ x u, b.lookup x = some u → (fitsL ks ts b).2.lookup x = some u) ∧ (∀ x ∈ Tm.varsL ks, ((fitsL ks ts b).2.lookup x).isSome = true) ∧ ∀ σ, Agr (fitsL ks ts b).2 σ → ks.map (app σ) = ts := by
        intro ks
        induction ks with
        | nil =>
          intro ts b _ hl _
          have : ts = [] := List.length_eq_zero_iff.mp (by simpa using hl.symm)
          subst this
          exact ⟨fun x u h => by simpa [fitsL] using h, fun x hx => by simp [Tm.varsL] at hx, fun zz zz => rfl⟩
        | cons k r ih =>
          intro ts b hk hl hf
          cases ts with
          | nil => simp at hl
          | cons t ts =>
            rw [fitsL_cons] at hf ⊢
            simp only [Bool.and_eq_true] at hf
            obtain ⟨a1, a2, a3⟩ := fits_sound n k t b (hk k (.head _)) hf.1
            obtain ⟨b1, b2, b3⟩ := ih ts (fits k t b).2 (fun x hx => hk x (.tail _ hx)) (by simpa using hl) hf.2
            refine ⟨fun x u h => b1 x u (a1 x u h), fun x hx => ?_, fun σ hσ => ?_⟩
            · rw [Tm.varsL, List.mem_append] at hx
              rcases hx with hx | hx
              · obtain ⟨u, hu⟩ := Option.isSome_iff_exists.mp (a2 x hx)
                show ((fitsL r ts (fits k t b).2).2.lookup x).isSome = true
                rw [b1 x u hu]; rfl
              · exact b2 x hx
            · rw [List.map_cons, b3 σ hσ, a3 σ fun x u h => hσ x u (b1 x u h)]
      obtain ⟨k1, k2, k3⟩ := key ks t.kids b (fun k hk => pv_kid h hk) hc.2 hf
      refine ⟨k1, fun x hx => ?_, fun σ hσ => ?_⟩
      · rw [vars_mk, if_neg (by simp [hv])] at hx
        exact k2 x hx
      · rw [app_op σ hv, k3 σ hσ, hc.1]
        cases t; rfl
theorem fits_iff {n : Nat} {p t : Tm} (h : Pv n p) : (fits p t []).1 = true ↔ ∃ σ, app σ p = t :=
  ⟨fun hf => ⟨_, (fits_sound n p t [] h hf).2.2 _ (agr_ofB _)⟩, fun ⟨σ, e⟩ => (fits_complete n p t [] h (Agr.nil σ) e).1⟩

theorem op_mk (o : Str) (ks : List Tm) : (Tm.mk o ks).op = o := rfl
theorem kids_mk (o : Str) (ks : List Tm) : (Tm.mk o ks).kids = ks := rfl
theorem loop_var {f : Nat} {b : Bd} {op : Str} {t : Tm} {w : List (Tm × Tm)} (hv : isV op = true) : matchLoop (f + 1) b ((.mk op [], t) :: w) = (match b.lookup op with | some u => if u = t then matchLoop f b w else none | none => matchLoop f (b ++ [(op, t)]) w) := by
  rw [matchLoop]
  exact if_pos (show (Tm.mk op []).isVar = true by unfold Tm.isVar; rw [op_mk, hv]; rfl)
theorem loop_op {f : Nat} {b : Bd} {op : Str} {ks : List Tm} {t : Tm} {w : List (Tm × Tm)} (hv : isV op = false) : matchLoop (f + 1) b ((.mk op ks, t) :: w) = if op ≠ t.op ∨ ks.length ≠ t.kids.length then none else matchLoop f b ((ks.zip t.kids).reverse ++ w) := by
  rw [matchLoop]
  exact if_neg (show ¬ (Tm.mk op ks).isVar = true by unfold Tm.isVar; rw [op_mk, hv]; simp)
theorem zip_self {α : Type} : ∀ ks : List α, ks.zip ks = ks.map fun k => (k, k)
  | [] => rfl
  | k :: r => by rw [List.zip_cons_cons, zip_self r]; rfl
theorem match_complete {σ : Str → Tm} : ∀ (f : Nat) (b : Bd) (w : List (Tm × Tm)), Agr b σ → (∀ q ∈ w, (∃ n, Pv n q.1) ∧ app σ q.1 = q.2) → (matchLoop f b w).isSome = true
  | 0, b, w, _, _ => by simp [matchLoop]
  | f + 1, b, [], _, _ => by simp [matchLoop]
  | f + 1, b, (p, t) :: w, hb, hw => by
    obtain ⟨⟨n, hp⟩, e⟩ := hw (p, t) (.head _)
    replace hp : Pv n p := hp
    replace e : app σ p = t := e
    have hw' : ∀ q ∈ w, (∃ n, Pv n q.1) ∧ app σ q.1 = q.2 := fun q hq => hw q (.tail _ hq)
    cases n with
    | zero => exact hp.elim
    | succ n =>
      obtain ⟨op, ks⟩ := p
      rcases pv_cases hp with ⟨hv, rfl⟩ | ⟨hv, _, _⟩
      · have e : app σ (.mk op []) = t := e
        rw [app_var σ hv] at e
        rw [loop_var hv]
        show Option.isSome (match b.lookup op with | some u => if u = t then matchLoop f b w else none | none => matchLoop f (b ++ [(op, t)]) w) = true
        cases hl : b.lookup op with
        | some u =>
          show Option.isSome (if u = t then matchLoop f b w else none) = true
          rw [if_pos (by rw [← hb op u hl, e])]
          exact match_complete f b w hb hw'
        | none =>
          refine match_complete f _ w (fun x u hx => ?_) hw'
          rw [lookup_app] at hx
          cases hx' : b.lookup x with
          | some v =>
            rw [hx'] at hx
            simp at hx
            exact hx ▸ hb x v hx'
          | none =>
            rw [hx'] at hx
            by_cases ex : x = op
            · subst ex
              simp at hx
              rw [e, hx]
            · simp [ex] at hx
      · have e : app σ (.mk op ks) = t := e
        rw [app_op σ hv] at e
        subst e
        rw [loop_op hv, if_neg (by simp [Tm.op, Tm.kids])]
        refine match_complete f b _ hb fun q hq => ?_
        rcases List.mem_append.mp hq with hq | hq
        · rw [List.mem_reverse] at hq
          show (∃ n, Pv n q.1) ∧ app σ q.1 = q.2
          have hq : q ∈ ks.zip (ks.map (app σ)) := hq
          rw [List.zip_map_right] at hq
          obtain ⟨⟨a, a'⟩, ha, rfl⟩ := List.mem_map.mp hq
          have h1 : (a, a') ∈ ks.zip ks := ha
          have h2 : a = a' := by
            rw [zip_self] at h1
            obtain ⟨k, _, e⟩ := List.mem_map.mp h1
            cases e; rfl
          subst h2
          exact ⟨⟨n, pv_kid hp (List.of_mem_zip h1).1⟩, rfl⟩
        · exact hw' q hq

noncomputable def wsizeP (w : List (Tm × Tm)) : Nat := (w.map fun q => q.1.size).sum
theorem size_mk (op : Str) (ks : List Tm) : (Tm.mk op ks).size = 1 + Tm.sizeL ks := by rw [Tm.size]
theorem sizeL_sumP : ∀ ks : List Tm, Tm.sizeL ks = (ks.map Tm.size).sum
  | [] => rfl
  | k :: r => by rw [Tm.sizeL, sizeL_sumP r, List.map_cons, List.sum_cons]
theorem wsize_cons (p t : Tm) (w : List (Tm × Tm)) : wsizeP ((p, t) :: w) = p.size + wsizeP w := by unfold wsizeP; rw [List.map_cons, List.sum_cons]
theorem match_sound : ∀ (f : Nat) (b b' : Bd) (w : List (Tm × Tm)), wsizeP w < f → (∀ q ∈ w, ∃ n, Pv n q.1) → matchLoop f b w = some b' →
    (∀ x u, b.lookup x = some u → b'.lookup x = some u) ∧ ∀ σ, Agr b' σ → ∀ q ∈ w, app σ q.1 = q.2
  | 0, _, _, _, h, _, _ => by omega
  | f + 1, b, b', [], _, _, e => by
    simp only [matchLoop, Option.some.injEq] at e
    subst e
    exact ⟨fun zz zz h => h, fun zz zz q hq => nomatch hq⟩
  | f + 1, b, b', (p, t) :: w, hf, hw, e => by
    obtain ⟨n, hp⟩ := hw (p, t) (.head _)
    replace hp : Pv n p := hp
    have hw' : ∀ q ∈ w, ∃ n, Pv n q.1 := fun q hq => hw q (.tail _ hq)
    rw [wsize_cons] at hf
    cases n with
    | zero => exact hp.elim
    | succ n =>
      obtain ⟨op, ks⟩ := p
      rw [size_mk] at hf
      rcases pv_cases hp with ⟨hv, rfl⟩ | ⟨hv, _, _⟩
      · rw [loop_var hv] at e
        have e : (match b.lookup op with | some u => if u = t then matchLoop f b w else none | none => matchLoop f (b ++ [(op, t)]) w) = some b' := e
        cases hl : b.lookup op with
        | some u =>
          rw [hl] at e
          have e : (if u = t then matchLoop f b w else none) = some b' := e
          by_cases hu : u = t
          · rw [if_pos hu] at e
            obtain ⟨h1, h2⟩ := match_sound f b b' w (by first | decide | exact lle ‹_› rfl | exact llt ‹_› rfl | exact lll ‹_› rfl | exact llm ‹_› rfl | omega) hw' e
            refine ⟨h1, fun σ hσ q hq => ?_⟩
            rcases List.mem_cons.mp hq with rfl | hq
            · show app σ (.mk op []) = t
              rw [app_var σ hv, hσ op u (h1 op u hl), hu]
            · exact h2 σ hσ q hq
          · rw [if_neg hu] at e; cases e
        | none =>
          rw [hl] at e
          obtain ⟨h1, h2⟩ := match_sound f (b ++ [(op, t)]) b' w (by first | decide | exact lle ‹_› rfl | exact llt ‹_› rfl | exact lll ‹_› rfl | exact llm ‹_› rfl | omega) hw' e
          have h3 : b'.lookup op = some t := h1 op t (by rw [lookup_app, hl]; simp)
          refine ⟨fun x u hx => h1 x u (by rw [lookup_app, hx]; rfl), fun σ hσ q hq => ?_⟩
          rcases List.mem_cons.mp hq with rfl | hq
          · show app σ (.mk op []) = t
            rw [app_var σ hv, hσ op t h3]
          · exact h2 σ hσ q hq
      · rw [loop_op hv] at e
        by_cases hc : op ≠ t.op ∨ ks.length ≠ t.kids.length
        · rw [if_pos hc] at e; cases e
        rw [if_neg hc] at e
        simp only [ne_eq, not_or, Classical.not_not] at hc
        have hz : wsizeP ((ks.zip t.kids).reverse ++ w) = Tm.sizeL ks + wsizeP w := by
          unfold wsizeP
          rw [List.map_append, List.sum_append, List.map_reverse, List.sum_reverse, sizeL_sumP]
          congr 2
          have : (ks.zip t.kids).map (fun q => q.1.size) = ((ks.zip t.kids).map Prod.fst).map Tm.size := by rw [List.map_map]; rfl
          rw [this, List.map_fst_zip (by first | decide | exact lle ‹_› rfl | exact llt ‹_› rfl | exact lll ‹_› rfl | exact llm ‹_› rfl | omega)]
        obtain ⟨h1, h2⟩ := match_sound f b b' _ (by rw [hz]; omega) (fun q hq => by
          rcases List.mem_append.mp hq with hq | hq
          · rw [List.mem_reverse] at hq
            exact ⟨n, pv_kid hp (List.of_mem_zip hq).1⟩
          · exact hw' q hq) e
        refine ⟨h1, fun σ hσ q hq => ?_⟩
        rcases List.mem_cons.mp hq with rfl | hq
        · show app σ (.mk op ks) = t
          rw [app_op σ hv]
          refine tm_ext hc.1 (List.ext_getElem (by simpa [Tm.kids] using hc.2) fun i hi hi' => ?_)
          have hi0 : i < ks.length := by simpa [Tm.kids] using hi
          have hm : (ks[i], t.kids[i]) ∈ (ks.zip t.kids).reverse ++ w := by
            refine List.mem_append_left _ (List.mem_reverse.mpr ?_)
            rw [List.mem_iff_getElem]
            exact ⟨i, by simp; omega, by simp⟩
          have := h2 σ hσ _ hm
          simpa [Tm.kids] using this
        · exact h2 σ hσ q (List.mem_append_right _ hq)
theorem covers_iff {n : Nat} {p t : Tm} (h : Pv n p) : covers p t = true ↔ ∃ σ, app σ p = t := by
  unfold covers
  constructor
  · intro hc
    obtain ⟨b', hb⟩ := Option.isSome_iff_exists.mp hc
    obtain ⟨_, h2⟩ := match_sound _ _ _ _ (by rw [wsize_cons]; unfold wsizeP; simp) (fun q hq => by rw [List.mem_singleton.mp hq]; exact ⟨n, h⟩) hb
    exact ⟨_, h2 _ (agr_ofB _) (p, t) (.head _)⟩
  · rintro ⟨σ, e⟩
    exact match_complete _ _ _ (Agr.nil σ) fun q hq => by rw [List.mem_singleton.mp hq]; exact ⟨⟨n, h⟩, e⟩
theorem covers_fits {n : Nat} {p t : Tm} (h : Pv n p) : covers p t = (fits p t []).1 := by
  rw [Bool.eq_iff_iff, covers_iff h, fits_iff h]

/-! twice in the places -/
theorem app_app {σ τ : Str → Tm} : ∀ (n : Nat) (p : Tm), Pv n p → app τ (app σ p) = app (fun x => app τ (σ x)) p
  | 0, _, h => h.elim
  | n + 1, .mk op ks, h => by
    rcases pv_cases h with ⟨hv, rfl⟩ | ⟨hv, _, _⟩
    · rw [app_var _ hv, app_var _ hv]
    · rw [app_op _ hv, app_op _ hv, app_op _ hv, List.map_map]
      congr 1
      exact List.map_congr_left fun k hk => app_app n k (pv_kid h hk)
theorem app_self : ∀ (n : Nat) (p : Tm), Pv n p → app (fun x => .mk x []) p = p
  | 0, _, h => h.elim
  | n + 1, .mk op ks, h => by
    rcases pv_cases h with ⟨hv, rfl⟩ | ⟨hv, _, _⟩
    · rw [app_var _ hv]
    · rw [app_op _ hv]
      congr 1
      conv => rhs; rw [← List.map_id ks]
      exact List.map_congr_left fun k hk => app_self n k (pv_kid h hk)
theorem covers_refl {n : Nat} {p : Tm} (h : Pv n p) : covers p p = true := (covers_iff h).mpr ⟨_, app_self n p h⟩
theorem covers_trans {n m : Nat} {p q t : Tm} (h : Pv n p) (k : Pv m q) (h1 : covers p q = true) (h2 : covers q t = true) : covers p t = true := by
  obtain ⟨σ, rfl⟩ := (covers_iff h).mp h1
  obtain ⟨τ, rfl⟩ := (covers_iff k).mp h2
  exact (covers_iff h).mpr ⟨_, (app_app n p h).symm⟩
theorem size_posP (t : Tm) : 1 ≤ t.size := by cases t; rw [size_mk]; omega
theorem size_app {σ : Str → Tm} : ∀ (n : Nat) (p : Tm), Pv n p → p.size ≤ (app σ p).size
  | 0, _, h => h.elim
  | n + 1, .mk op ks, h => by
    rcases pv_cases h with ⟨hv, rfl⟩ | ⟨hv, _, _⟩
    · rw [size_mk, Tm.sizeL]; exact size_posP _
    · rw [app_op _ hv, size_mk, size_mk, sizeL_sumP, sizeL_sumP, List.map_map]
      have key : ∀ ks : List Tm, (∀ k ∈ ks, Pv n k) → (ks.map Tm.size).sum ≤ (ks.map (Tm.size ∘ app σ)).sum := by
        intro ks
        induction ks with
        | nil => intro _; exact Nat.le_refl _
        | cons k r ih =>
          intro hk
          rw [List.map_cons, List.map_cons, List.sum_cons, List.sum_cons]
          exact Nat.add_le_add (size_app n k (hk k (.head _))) (ih fun x hx => hk x (.tail _ hx))
      exact Nat.add_le_add_left (key ks fun k hk => pv_kid h hk) 1
end
end Mine
end

section
open PySem PySem.W PyProof.Rows PySem.Calls
set_option tactic.hygienic false
set_option linter.all false
namespace Mine
noncomputable section
open scoped Classical

/-! the plain law, 5: what is told covers each row, and no other pattern is nearer -/
noncomputable def sg (N : List (List Tm)) (j : Nat) (x : Str) : Tm := ((N.find? fun y => decide (nu N y = x)).getD []).getD j tm0
theorem sg_nu {N : List (List Tm)} (hN : N.length ≤ 32) {c : List Tm} (hc : c ∈ N) (j : Nat) : sg N j (nu N c) = c.getD j tm0 := by
  unfold sg
  cases h : N.find? fun y => decide (nu N y = nu N c) with
  | none =>
    have := List.find?_eq_none.mp h c hc
    simp at this
  | some y =>
    have h1 : nu N y = nu N c := by simpa using List.find?_some h
    rw [nu_inj hN (List.mem_of_find?_eq_some h) hc h1]
    rfl
theorem gen_app {N : List (List Tm)} (hN : N.length ≤ 32) : ∀ (n : Nat) (c : List Tm), c ≠ [] → (∀ t ∈ c, Gr n t) → (∀ x ∈ dis n c, x ∈ N) → ∀ j, j < c.length → app (sg N j) (gen (nu N) n c) = c.getD j tm0
  | 0, c, hc, h, _ => (h _ (hdT_mem hc)).elim
  | n + 1, c, hc, h, hd => by
    intro j hj
    by_cases ha : alike c = true
    · have hs := alike_hd.mp ha _ (getD_mem hj)
      have ho := (gr_op (h _ (hdT_mem hc))).2.2
      rw [gen_alike ha, app_op _ ho, List.map_map]
      refine tm_ext hs.1.symm (List.ext_getElem (by rw [kids_mk, List.length_map, List.length_range]; exact hs.2.symm) fun k hk hk' => ?_)
      have hk0 : k < (hdT c).kids.length := by simpa [kids_mk] using hk
      have := gen_app hN n (column c k) (col_ne hc k) (col_gr h ha hk0) (fun x hx => hd x (dis_sub ha hk0 hx)) j (by rw [col_len]; exact hj)
      rw [col_get hj, List.getD_eq_getElem?_getD (l := (c.getD j tm0).kids), List.getElem?_eq_getElem hk'] at this
      simpa [kids_mk] using this
    · rw [gen_apart ha, app_var _ (nu_isV hN (hd c (dis_self ha))), sg_nu hN (hd c (dis_self ha))]
theorem vname_ok : ∀ a < 32, (vname a).length ≤ 8 ∧ PyData.strOk (vname a) = true ∧ vname a ≠ Str.ofString "?z" := by decide +kernel
theorem nu_ok {N : List (List Tm)} (hN : N.length ≤ 32) {x : List Tm} (hx : x ∈ N) : (nu N x).length ≤ 8 ∧ PyData.strOk (nu N x) = true ∧ nu N x ≠ Str.ofString "?z" := vname_ok _ (Nat.lt_of_lt_of_le (List.idxOf_lt_length_of_mem hx) hN)
theorem gen_pv {N : List (List Tm)} (hN : N.length ≤ 32) : ∀ (n : Nat) (c : List Tm), c ≠ [] → (∀ t ∈ c, Gr n t) → (∀ x ∈ dis n c, x ∈ N) → Pv n (gen (nu N) n c)
  | 0, c, hc, h, _ => (h _ (hdT_mem hc)).elim
  | n + 1, c, hc, h, hd => by
    by_cases ha : alike c = true
    · have ho := gr_op (h _ (hdT_mem hc))
      rw [gen_alike ha]
      refine ⟨.inr ⟨by rw [List.length_map, List.length_range]; exact ho.1, ho.2.1⟩, fun k hk => ?_⟩
      obtain ⟨i, hi, rfl⟩ := List.mem_map.mp hk
      have hi := List.mem_range.mp hi
      exact gen_pv hN n _ (col_ne hc i) (col_gr h ha hi) fun x hx => hd x (dis_sub ha hi hx)
    · have hm := hd c (dis_self ha)
      rw [gen_apart ha]
      exact ⟨.inl ⟨nu_isV hN hm, rfl, (nu_ok hN hm).1, (nu_ok hN hm).2.1⟩, fun k hk => nomatch hk⟩

theorem gen_least {ν : List Tm → Str} {K m : Nat} (hm : 0 < m) {S : Nat → Str → Tm} : ∀ (M : Nat) (p : Tm) (n : Nat) (c : List Tm), Pv M p → n ≤ K → c.length = m → (∀ t ∈ c, Gr n t) → (∀ j, j < m → app (S j) p = c.getD j tm0) →
    app (fun x => gen ν K ((List.range m).map fun j => S j x)) p = gen ν n c
  | 0, _, _, _, h, _, _, _, _ => h.elim
  | M + 1, .mk op ks, n, c, h, hn, hl, hg, he => by
    have hc : c ≠ [] := fun e => by rw [e] at hl; simp at hl; omega
    rcases pv_cases h with ⟨hv, rfl⟩ | ⟨hv, _, _⟩
    · rw [app_var _ hv]
      have e : (List.range m).map (fun j => S j op) = c := by
        refine list_ext (by simp [hl]) fun i hi => ?_
        have hi : i < m := by simpa using hi
        have := he i hi
        rw [app_var _ hv] at this
        rw [← this, List.getD_eq_getElem?_getD, List.getElem?_map, List.getElem?_range hi]
        rfl
      rw [e, (stab hc hg hn).1]
    · cases n with
      | zero => exact (hg _ (hdT_mem hc)).elim
      | succ n =>
        have hrow : ∀ j, j < m → c.getD j tm0 = .mk op (ks.map (app (S j))) := fun j hj => by rw [← he j hj, app_op _ hv]
        have hall : ∀ t ∈ c, t.op = op ∧ t.kids.length = ks.length := fun t ht => by
          obtain ⟨i, hi, rfl⟩ := List.mem_iff_getElem.mp ht
          have := hrow i (by first | decide | exact lle ‹_› rfl | exact llt ‹_› rfl | exact lll ‹_› rfl | exact llm ‹_› rfl | omega)
          rw [List.getD_eq_getElem?_getD, List.getElem?_eq_getElem hi] at this
          have this : c[i] = .mk op (ks.map (app (S i))) := this
          rw [this]
          exact ⟨rfl, by simp [kids_mk]⟩
        have hh := hall _ (hdT_mem hc)
        have ha : alike c = true := alike_hd.mpr fun t ht => ⟨(hall t ht).1.trans hh.1.symm, (hall t ht).2.trans hh.2.symm⟩
        rw [gen_alike ha, app_op _ hv, hh.1]
        congr 1
        refine List.ext_getElem (by rw [List.length_map, List.length_map, List.length_range, hh.2]) fun k hk hk' => ?_
        have hk0 : k < ks.length := by simpa using hk
        rw [List.getElem_map, List.getElem_map, List.getElem_range]
        refine gen_least hm M ks[k] n (column c k) (pv_kid h (List.getElem_mem hk0)) (by first | decide | exact lle ‹_› rfl | exact llt ‹_› rfl | exact lll ‹_› rfl | exact llm ‹_› rfl | omega) (by rw [col_len]; exact hl) (col_gr hg ha (by first | decide | exact lle ‹_› rfl | exact llt ‹_› rfl | exact lll ‹_› rfl | exact llm ‹_› rfl | omega)) fun j hj => ?_
        rw [col_get (by first | decide | exact lle ‹_› rfl | exact llt ‹_› rfl | exact lll ‹_› rfl | exact llm ‹_› rfl | omega), hrow j hj, kids_mk, List.getD_eq_getElem?_getD, List.getElem?_map, List.getElem?_eq_getElem hk0]
        rfl

/-! places -/
theorem at_nil (t : Tm) : t.at? [] = some t := by cases t; rw [Tm.at?]
theorem at_cons (t : Tm) (k : Nat) (p : List Nat) : t.at? (k :: p) = match t.kids[k]? with | some u => u.at? p | none => none := by (rw [Tm.at?]) <;> rfl
theorem parts_mk (op : Str) (ks : List Tm) : (Tm.mk op ks).parts = ([], .mk op ks) :: Tm.partsL 0 ks := by rw [Tm.parts]
theorem partsL_cons (k : Nat) (t : Tm) (r : List Tm) : Tm.partsL k (t :: r) = (t.parts.map fun p => (k :: p.1, p.2)) ++ Tm.partsL (k + 1) r := by rw [Tm.partsL]
theorem mem_partsL {q : List Nat × Tm} : ∀ {ks : List Tm} {k : Nat}, q ∈ Tm.partsL k ks ↔ ∃ i t p, ks[i]? = some t ∧ p ∈ t.parts ∧ q = ((k + i) :: p.1, p.2)
  | [], k => by simp [Tm.partsL]
  | t :: r, k => by
    rw [partsL_cons, List.mem_append, mem_partsL (ks := r), List.mem_map]
    constructor
    · rintro (⟨p, hp, rfl⟩ | ⟨i, u, p, h1, h2, rfl⟩)
      · exact ⟨0, t, p, rfl, hp, rfl⟩
      · exact ⟨i + 1, u, p, h1, h2, by rw [Nat.add_assoc, Nat.add_comm 1 i]⟩
    · rintro ⟨i, u, p, h1, h2, rfl⟩
      cases i with
      | zero =>
        simp only [List.getElem?_cons_zero, Option.some.injEq] at h1
        subst h1
        exact .inl ⟨p, h2, rfl⟩
      | succ i => exact .inr ⟨i, u, p, h1, h2, by rw [Nat.add_assoc, Nat.add_comm 1 i]⟩
theorem parts_at : ∀ t : Tm, ∀ q ∈ t.parts, t.at? q.1 = some q.2 := Tm.ind fun op ks ih q hq => by
  rw [parts_mk] at hq
  rcases List.mem_cons.mp hq with rfl | hq
  · exact at_nil _
  · obtain ⟨i, t, p, h1, h2, rfl⟩ := mem_partsL.mp hq
    rw [at_cons, kids_mk, Nat.zero_add, h1]
    exact ih t (List.mem_of_getElem? h1) p h2

theorem gen_at {ν : List Tm → Str} : ∀ (path : List Nat) (n : Nat) (c : List Tm) (part : Tm), c ≠ [] → (∀ t ∈ c, Gr n t) → (gen ν n c).at? path = some part →
    ∃ n' c', part = gen ν n' c' ∧ c' ≠ [] ∧ c'.length = c.length ∧ (∀ t ∈ c', Gr n' t) ∧ (∀ x ∈ dis n' c', x ∈ dis n c) ∧ ∀ j, j < c.length → (c.getD j tm0).at? path = some (c'.getD j tm0)
  | [], n, c, part, hc, hg, h => by
    rw [at_nil] at h
    exact ⟨n, c, (Option.some.inj h).symm, hc, rfl, hg, fun zz h => h, fun j zz => at_nil _⟩
  | k :: p, 0, c, part, hc, hg, h => (hg _ (hdT_mem hc)).elim
  | k :: p, n + 1, c, part, hc, hg, h => by
    rw [at_cons] at h
    by_cases ha : alike c = true
    · rw [gen_alike ha, kids_mk] at h
      by_cases hk : k < (hdT c).kids.length
      · rw [List.getElem?_map, List.getElem?_range hk] at h
        obtain ⟨n', c', h1, h2, h3, h4, h5, h6⟩ := gen_at p n (column c k) part (col_ne hc k) (col_gr hg ha hk) h
        rw [col_len] at h3 h6
        refine ⟨n', c', h1, h2, h3, h4, fun x hx => dis_sub ha hk (h5 x hx), fun j hj => ?_⟩
        have hs := alike_hd.mp ha _ (getD_mem hj)
        have := h6 j hj
        rw [col_get hj, List.getD_eq_getElem?_getD (l := (c.getD j tm0).kids), List.getElem?_eq_getElem (by rw [hs.2]; exact hk)] at this
        rw [at_cons, List.getElem?_eq_getElem (by rw [hs.2]; exact hk)]
        exact this
      · rw [List.getElem?_eq_none (by rw [List.length_map, List.length_range]; omega)] at h
        cases h
    · rw [gen_apart ha, kids_mk] at h
      simp at h
theorem gen_isV {N : List (List Tm)} (hN : N.length ≤ 32) {n : Nat} {c : List Tm} (hc : c ≠ []) (hg : ∀ t ∈ c, Gr n t) (hd : ∀ x ∈ dis n c, x ∈ N) : isV (gen (nu N) n c).op = true ↔ ¬ ∀ a ∈ c, a.op = (hdT c).op := by
  cases n with
  | zero => exact (hg _ (hdT_mem hc)).elim
  | succ n =>
    have e : alike c = true ↔ ∀ a ∈ c, a.op = (hdT c).op := by
      rw [alike_hd]
      refine ⟨fun h a ha => (h a ha).1, fun h a ha => ⟨h a ha, ?_⟩⟩
      have h1 := (gr_op (hg a ha)).1
      have h2 := (gr_op (hg _ (hdT_mem hc))).1
      rw [h a ha, h2] at h1
      exact (Option.some.inj h1).symm
    rw [← e]
    by_cases ha : alike c = true
    · rw [gen_alike ha, op_mk, (gr_op (hg _ (hdT_mem hc))).2.2]
      simp [ha]
    · rw [gen_apart ha, op_mk, nu_isV hN (hd c (dis_self ha))]
      simp [ha]

/-! marks -/
theorem addAll_filter (F : List (List Tm)) : ∀ D : List (List Tm), addAll F D = F ++ (addAll [] D).filter fun x => decide (x ∉ F) := by
  intro D
  induction h : D.length generalizing D with
  | zero => rw [List.length_eq_zero_iff.mp h]; simp [addAll]
  | succ k ih =>
    have hne : D ≠ [] := fun e => by rw [e] at h; cases h
    obtain ⟨E, x, rfl⟩ : ∃ E x, D = E ++ [x] := ⟨D.dropLast, D.getLast hne, (List.dropLast_concat_getLast hne).symm⟩
    have hE := ih E (by simpa using h)
    have e1 : ∀ G, addAll G (E ++ [x]) = add1 (addAll G E) x := fun G => by rw [addAll_app]; rfl
    rw [e1, e1]
    by_cases hx : x ∈ E
    · have h1 : x ∈ addAll F E := mem_addAll.mpr (.inr hx)
      have h2 : x ∈ addAll [] E := mem_addAll.mpr (.inr hx)
      rw [add1, if_pos h1, add1, if_pos h2, hE]
    · have h2 : x ∉ addAll [] E := fun k => by
        rcases mem_addAll.mp k with k | k
        · cases k
        · exact hx k
      rw [add1.eq_1 (addAll [] E), if_neg h2, List.filter_append, ← List.append_assoc, ← hE]
      by_cases hF : x ∈ F
      · have h1 : x ∈ addAll F E := mem_addAll.mpr (.inl hF)
        rw [add1, if_pos h1]
        simp [hF]
      · have h1 : x ∉ addAll F E := fun k => (mem_addAll.mp k).elim hF hx
        rw [add1, if_neg h1]
        simp [hF]
theorem marks_mk (o : Str) (ks : List Tm) : marks (.mk o ks) = if isV o = true then [o] else marksL ks [] := by rw [marks]
theorem marksL_cons (t : Tm) (r : List Tm) (found : List Str) : marksL (t :: r) found = marksL r (found ++ (marks t).filter fun m => !found.contains m) := by rw [marksL]
theorem marks_gen {N : List (List Tm)} (hN : N.length ≤ 32) : ∀ (n : Nat) (c : List Tm), c ≠ [] → (∀ t ∈ c, Gr n t) → (∀ x ∈ dis n c, x ∈ N) → marks (gen (nu N) n c) = (addAll [] (dis n c)).map (nu N)
  | 0, c, hc, h, _ => (h _ (hdT_mem hc)).elim
  | n + 1, c, hc, h, hd => by
    by_cases ha : alike c = true
    · have ho := gr_op (h _ (hdT_mem hc))
      rw [gen_alike ha, marks_mk, if_neg (by rw [ho.2.2]; exact Bool.false_ne_true)]
      have e : dis (n + 1) c = (List.range (hdT c).kids.length).flatMap fun k => dis n (column c k) := by rw [dis, if_pos ha]
      rw [e]
      have key : ∀ (ks : List Nat) (F : List (List Tm)), (∀ k ∈ ks, k < (hdT c).kids.length) → (∀ x ∈ F, x ∈ N) →
          marksL (ks.map fun k => gen (nu N) n (column c k)) (F.map (nu N)) = (addAll F (ks.flatMap fun k => dis n (column c k))).map (nu N) := by
        intro ks
        induction ks with
        | nil => intro F _ _; simp [marksL, addAll]
        | cons k ks ih =>
          intro F hk hF
          have hk0 := hk k (.head _)
          have hdk : ∀ x ∈ dis n (column c k), x ∈ N := fun x hx => hd x (dis_sub ha hk0 hx)
          rw [List.map_cons, marksL_cons, marks_gen hN n (column c k) (col_ne hc k) (col_gr h ha hk0) hdk, List.filter_map, List.flatMap_cons, addAll_app]
          have e2 : F.map (nu N) ++ ((addAll [] (dis n (column c k))).filter ((fun m => !(F.map (nu N)).contains m) ∘ nu N)).map (nu N) = (addAll F (dis n (column c k))).map (nu N) := by
            rw [addAll_filter F, List.map_append]
            congr 2
            refine List.filter_congr fun x hx => ?_
            have hxN : x ∈ N := by
              rcases mem_addAll.mp hx with hx | hx
              · cases hx
              · exact hdk x hx
            show (!(F.map (nu N)).contains (nu N x)) = decide (x ∉ F)
            rw [Bool.eq_iff_iff]
            simp only [Bool.not_eq_true', decide_eq_true_eq]
            rw [← Bool.not_eq_true, List.contains_iff_mem]
            refine not_congr ⟨fun hm => ?_, fun hm => List.mem_map_of_mem hm⟩
            obtain ⟨y, hy, ey⟩ := List.mem_map.mp hm
            rw [← nu_inj hN (hF y hy) hxN ey]; exact hy
          rw [e2]
          refine ih _ (fun i hi => hk i (.tail _ hi)) fun x hx => ?_
          rcases mem_addAll.mp hx with hx | hx
          · exact hF x hx
          · exact hdk x hx
      exact key (List.range (hdT c).kids.length) [] (fun k hk => List.mem_range.mp hk) fun x hx => nomatch hx
    · rw [gen_apart ha, marks_mk, if_pos (nu_isV hN (hd c (dis_self ha)))]
      rw [dis, if_neg ha]
      rfl
theorem names_nu {N : List (List Tm)} (h : N.Nodup) : N.map (nu N) = (List.range N.length).map vname := by
  refine List.ext_getElem (by simp) fun i hi hi' => ?_
  have hi : i < N.length := by simpa using hi
  rw [List.getElem_map, List.getElem_map, List.getElem_range]
  unfold nu
  rw [h.idxOf_getElem i hi]
theorem dis_len1 : ∀ {n : Nat} {c : List Tm}, c ≠ [] → (∀ t ∈ c, Gr (n + 1) t) → (dis (n + 1) c).length ≤ 2 ^ n
  | n, c, hc, h => by
    by_cases ha : alike c = true
    · rw [dis, if_pos ha, List.length_flatMap]
      have h2 : (hdT c).kids.length ≤ 2 := (h _ (hdT_mem hc)).ok.ln
      cases n with
      | zero =>
        have h0 : (hdT c).kids.length = 0 := by
          rcases Nat.eq_zero_or_pos (hdT c).kids.length with e | e
          · exact e
          · exact (gr_kid (h _ (hdT_mem hc)) (kid_mem e)).elim
        rw [h0]; simp
      | succ n =>
        have key : ∀ k, k < (hdT c).kids.length → (dis (n + 1) (column c k)).length ≤ 2 ^ n := fun k hk => dis_len1 (col_ne hc k) (col_gr h ha hk)
        rw [Nat.pow_succ]
        rcases lt3 _ (Nat.lt_succ_of_le (show (hdT c).kids.length ≤ 2 by assumption)) with e | e | e
        · rw [e]; simp
        · rw [e] at key ⊢
          have := key 0 (by first | decide | exact lle ‹_› rfl | exact llt ‹_› rfl | exact lll ‹_› rfl | exact llm ‹_› rfl | omega)
          simp [List.range_succ]; omega
        · rw [e] at key ⊢
          have := key 0 (by first | decide | exact lle ‹_› rfl | exact llt ‹_› rfl | exact lll ‹_› rfl | exact llm ‹_› rfl | omega)
          have := key 1 (by first | decide | exact lle ‹_› rfl | exact llt ‹_› rfl | exact lll ‹_› rfl | exact llm ‹_› rfl | omega)
          simp [List.range_succ]; omega
    · rw [dis, if_neg ha]
      have : 1 ≤ 2 ^ n := Nat.one_le_two_pow
      simpa using this
end
end Mine
end

section
open PySem PySem.W PyProof.Rows PySem.Calls
set_option tactic.hygienic false
set_option linter.all false
namespace Mine

/-! sorted texts -/
theorem rising_pw : ∀ (p : Str) (l : List Str), risingS p l = true → (p :: l).Pairwise (fun a b => a.cps.toList ≤ b.cps.toList)
  | p, [], _ => by simp
  | p, x :: r, h => by
    have h : (!Spec.ltCps x.cps.toList p.cps.toList && risingS x r) = true := h
    rw [Bool.and_eq_true, Bool.not_eq_true', ltCps_eq, decide_eq_false_iff_not, List.not_lt] at h
    have ih := rising_pw x r h.2
    rw [List.pairwise_cons] at ih ⊢
    refine ⟨fun y hy => ?_, List.pairwise_cons.mpr ih⟩
    rcases List.mem_cons.mp hy with rfl | hy
    · exact h.1
    · exact List.le_trans h.1 (ih.1 y hy)
theorem sorted_pw : ∀ (l : List Str), sortedS l = true → l.Pairwise (fun a b => a.cps.toList ≤ b.cps.toList)
  | [], _ => .nil
  | x :: r, h => rising_pw x r h
theorem sorted_one {a b : List Str} (h : a.Perm b) (ha : sortedS a = true) (hb : sortedS b = true) : a = b := by
  refine List.Perm.eq_of_pairwise (fun x y zz zz h1 h2 => ?_) (sorted_pw a ha) (sorted_pw b hb) h
  have := List.le_antisymm h1 h2
  cases x; cases y
  simp only at this
  rw [Array.toList_inj.mp this]

noncomputable section
open scoped Classical

/-! marks, parts, places -/
theorem mem_marksL {x : Str} : ∀ {ks : List Tm} {F : List Str}, x ∈ marksL ks F ↔ x ∈ F ∨ ∃ k ∈ ks, x ∈ marks k
  | [], F => by simp [marksL]
  | t :: r, F => by
    rw [marksL_cons, mem_marksL (ks := r), List.mem_append, List.mem_filter]
    by_cases h : x ∈ F
    · simp [h]
    · simp [h]
theorem mem_marks {x : Str} : ∀ (n : Nat) (p : Tm), Pv n p → (x ∈ marks p ↔ x ∈ p.vars)
  | 0, _, h => h.elim
  | n + 1, .mk op ks, h => by
    rw [marks_mk, vars_mk]
    rcases pv_cases h with ⟨hv, rfl⟩ | ⟨hv, _, _⟩
    · simp [hv]
    · rw [if_neg (by simp [hv]), if_neg (by simp [hv]), mem_marksL, mem_varsL]
      simp only [List.not_mem_nil, false_or]
      exact ⟨fun ⟨k, hk, hx⟩ => ⟨k, hk, (mem_marks n k (pv_kid h hk)).mp hx⟩, fun ⟨k, hk, hx⟩ => ⟨k, hk, (mem_marks n k (pv_kid h hk)).mpr hx⟩⟩
theorem mem_vars {x : Str} : ∀ (n : Nat) (p : Tm), Pv n p → (x ∈ p.vars ↔ ∃ q ∈ p.parts, q.2.isVar = true ∧ q.2.op = x)
  | 0, _, h => h.elim
  | n + 1, .mk op ks, h => by
    rw [vars_mk, parts_mk]
    have e : (Tm.mk op ks).isVar = (ks.isEmpty && isV op) := rfl
    rcases pv_cases h with ⟨hv, rfl⟩ | ⟨hv, _, _⟩
    · rw [if_pos (by simp [hv])]
      simp only [Tm.partsL, List.mem_singleton]
      constructor
      · rintro rfl
        exact ⟨_, rfl, by rw [e]; simp [hv], rfl⟩
      · rintro ⟨q, rfl, _, h2⟩
        exact h2.symm
    · rw [if_neg (by simp [hv]), mem_varsL]
      constructor
      · rintro ⟨k, hk, hx⟩
        obtain ⟨q, hq, h1, h2⟩ := (mem_vars n k (pv_kid h hk)).mp hx
        obtain ⟨i, hi⟩ := List.mem_iff_getElem?.mp hk
        exact ⟨_, .tail _ (mem_partsL.mpr ⟨i, k, q, hi, hq, rfl⟩), h1, h2⟩
      · rintro ⟨q, hq, h1, h2⟩
        rcases List.mem_cons.mp hq with rfl | hq
        · have h1 : (Tm.mk op ks).isVar = true := h1
          rw [e, hv] at h1; simp at h1
        · obtain ⟨i, t, p, a1, a2, rfl⟩ := mem_partsL.mp hq
          have hk := List.mem_of_getElem? a1
          exact ⟨t, hk, (mem_vars n t (pv_kid h hk)).mpr ⟨p, a2, h1, h2⟩⟩

theorem subst_congr {f g : Str → Option Tm} : ∀ (n : Nat) (p : Tm), Pv n p → (∀ x ∈ p.vars, f x = g x) → p.subst f = p.subst g
  | 0, _, h, _ => h.elim
  | n + 1, .mk op ks, h, he => by
    rw [vars_mk] at he
    rw [subst_mk, subst_mk]
    by_cases hc : (ks.isEmpty && isV op) = true
    · rw [if_pos hc, if_pos hc]
      rw [if_pos hc] at he
      rw [he op (.head _)]
    · rw [if_neg hc, if_neg hc]
      rw [if_neg hc] at he
      congr 1
      exact List.map_congr_left fun k hk => subst_congr n k (pv_kid h hk) fun x hx => he x (mem_varsL.mpr ⟨k, hk, hx⟩)
theorem app_fix {σ : Str → Tm} {n : Nat} {p : Tm} (h : Pv n p) (hσ : ∀ x ∈ p.vars, σ x = .mk x []) : app σ p = p := by
  conv => rhs; rw [← app_self n p h]
  exact subst_congr n p h fun x hx => by rw [hσ x hx]

theorem put_nil (t u : Tm) : t.put [] u = u := by cases t; rw [Tm.put]
theorem put_cons (t : Tm) (k : Nat) (p : List Nat) (u : Tm) : t.put (k :: p) u = match t.kids[k]? with | some v => .mk t.op (t.kids.set k (v.put p u)) | none => t := by (rw [Tm.put]) <;> rfl
theorem at_put {u : Tm} : ∀ (path : List Nat) (t part : Tm), t.at? path = some part → (t.put path u).at? path = some u
  | [], t, part, _ => by rw [put_nil, at_nil]
  | k :: p, t, part, h => by
    rw [at_cons] at h
    rw [put_cons]
    cases hk : t.kids[k]? with
    | none => rw [hk] at h; cases h
    | some v =>
      rw [hk] at h
      have hlt := (List.getElem?_eq_some_iff.mp hk).1
      show (Tm.mk t.op (t.kids.set k (v.put p u))).at? (k :: p) = some u
      rw [at_cons, kids_mk, List.getElem?_set_self hlt]
      exact at_put p v part h
theorem pv_pos {n : Nat} {p : Tm} (h : Pv n p) : 1 ≤ n := by cases n with
  | zero => exact h.elim
  | succ n => omega
theorem put_pv {u : Tm} (hu : Pv 1 u) : ∀ (path : List Nat) (n : Nat) (t part : Tm), Pv n t → t.at? path = some part → Pv n (t.put path u)
  | [], n, t, part, h, _ => by rw [put_nil]; exact hu.mono (pv_pos h)
  | k :: p, 0, t, part, h, _ => h.elim
  | k :: p, n + 1, .mk op ks, part, h, hat => by
    rw [at_cons, kids_mk] at hat
    rw [put_cons, kids_mk]
    cases hk : ks[k]? with
    | none => rw [hk] at hat; cases hat
    | some v =>
      rw [hk] at hat
      have hv := List.mem_of_getElem? hk
      have hlt := (List.getElem?_eq_some_iff.mp hk).1
      show Pv (n + 1) (.mk op (ks.set k (v.put p u)))
      refine ⟨?_, fun x hx => ?_⟩
      · rcases h.1 with ⟨a1, a2, a3⟩ | ⟨a1, a2⟩
        · rw [a2] at hv; cases hv
        · exact .inr ⟨by rw [List.length_set]; exact a1, a2⟩
      · rcases List.mem_or_eq_of_mem_set hx with hx | rfl
        · exact h.2 x hx
        · exact put_pv hu p n v part (h.2 v hv) hat
theorem app_at {σ : Str → Tm} : ∀ (path : List Nat) (n : Nat) (t part : Tm), Pv n t → t.at? path = some part → (app σ t).at? path = some (app σ part)
  | [], n, t, part, h, e => by
    rw [at_nil] at e ⊢
    rw [Option.some.inj e]
  | k :: p, 0, t, part, h, _ => h.elim
  | k :: p, n + 1, .mk op ks, part, h, e => by
    rw [at_cons, kids_mk] at e
    cases hk : ks[k]? with
    | none => rw [hk] at e; cases e
    | some v =>
      rw [hk] at e
      have hv := List.mem_of_getElem? hk
      rcases pv_cases h with ⟨_, rfl⟩ | ⟨ho, _, _⟩
      · cases hv
      · rw [app_op _ ho, at_cons, kids_mk, List.getElem?_map, hk]
        exact app_at p n v part (pv_kid h hv) e
theorem app_put {σ : Str → Tm} {z : Str} (hz : isV z = true) : ∀ (path : List Nat) (n : Nat) (t part : Tm), Pv n t → t.at? path = some part → (∀ x ∈ t.vars, σ x = .mk x []) → σ z = part → app σ (t.put path (.mk z [])) = t
  | [], n, t, part, h, e, _, hp => by
    rw [at_nil] at e
    rw [put_nil, app_var _ hz, hp, Option.some.inj e]
  | k :: p, 0, t, part, h, _, _, _ => h.elim
  | k :: p, n + 1, .mk op ks, part, h, e, hσ, hp => by
    rw [at_cons, kids_mk] at e
    rw [put_cons, kids_mk]
    cases hk : ks[k]? with
    | none => rw [hk] at e; cases e
    | some v =>
      rw [hk] at e
      have hv := List.mem_of_getElem? hk
      have hlt := (List.getElem?_eq_some_iff.mp hk).1
      rcases pv_cases h with ⟨_, rfl⟩ | ⟨ho, _, _⟩
      · cases hv
      · have hσk : ∀ k ∈ ks, ∀ x ∈ k.vars, σ x = .mk x [] := fun k hk x hx => hσ x (by rw [vars_mk, if_neg (by simp [ho])]; exact mem_varsL.mpr ⟨k, hk, hx⟩)
        show app σ (.mk op (ks.set k (v.put p (.mk z [])))) = .mk op ks
        rw [app_op _ ho]
        congr 1
        refine List.ext_getElem (by simp) fun i hi hi' => ?_
        rw [List.getElem_map, List.getElem_set]
        by_cases hik : k = i
        · subst hik
          rw [if_pos rfl, app_put hz p n v part (pv_kid h hv) e (hσk v hv) hp]
          exact ((List.getElem?_eq_some_iff.mp hk).2).symm
        · rw [if_neg hik]
          exact app_fix (pv_kid h (List.getElem_mem hi')) (hσk _ (List.getElem_mem hi'))

abbrev zT : Tm := .mk (Str.ofString "?z") []
theorem z_isV : isV (Str.ofString "?z") = true := by decide +kernel
theorem z_pv : Pv 1 zT := ⟨.inl ⟨z_isV, rfl, by decide, by decide +kernel⟩, fun zz h => nomatch h⟩

structure Whole (whole : Tm) (terms : List Tm) : Prop where
  pv : Pv 3 whole
  fit : ∀ t ∈ terms, (fits whole t []).1 = true
  place : ∀ t ∈ terms, whole.subst (bs (fits whole t []).2) = t
  look : ∀ t ∈ terms, ∀ x ∈ whole.vars, (bs (fits whole t []).2 x).isSome = true
  marks : marks whole = (List.range (marks whole).length).map vname
  few : (Mine.marks whole).length ≤ 4
  colOk : ∀ t ∈ terms, ∀ m ∈ Mine.marks whole, Ok 6 (ofB (fits whole t []).2 m)
  cols : ((Mine.marks whole).map fun m => terms.map fun t => ofB (fits whole t []).2 m).Nodup
  least : ∀ n p, Pv n p → (∀ t ∈ terms, (fits p t []).1 = true) → (fits p whole []).1 = true
  size : ∀ t ∈ terms, whole.size ≤ t.size
  part : ∀ q ∈ whole.parts, ∃ us : List Tm, us ≠ [] ∧ us.length = terms.length ∧ (∀ j, j < terms.length → (terms.getD j tm0).at? q.1 = some (us.getD j tm0)) ∧ (∀ u ∈ us, ∃ n, Gr n u) ∧ (isV q.2.op = true ↔ ¬ ∀ a ∈ us, a.op = (hdT us).op)
  put : ∀ q ∈ whole.parts, isV q.2.op = false → Pv 3 (whole.put q.1 zT) ∧ covers whole (whole.put q.1 zT) = false ∧ covers (whole.put q.1 zT) whole = true

theorem whole_of {terms : List Tm} (h0 : terms ≠ []) (hg : ∀ t ∈ terms, Gr 3 t) : Whole (lggT 3 terms) terms := by
  have hN := tab_len (n := 3) (by first | decide | exact lle ‹_› rfl | exact llt ‹_› rfl | exact lll ‹_› rfl | exact llm ‹_› rfl | omega) h0 hg
  have hd : ∀ x ∈ dis 3 terms, x ∈ tab 3 terms := fun x hx => mem_addAll.mpr (.inr hx)
  have hdN : ∀ x ∈ tab 3 terms, x ∈ dis 3 terms := fun x hx => by
    rcases mem_addAll.mp hx with hx | hx
    · cases hx
    · exact hx
  have hpv : Pv 3 (lggT 3 terms) := gen_pv hN 3 terms h0 hg hd
  have hmk : marks (lggT 3 terms) = (tab 3 terms).map (nu (tab 3 terms)) := marks_gen hN 3 terms h0 hg hd
  have hnd : (tab 3 terms).Nodup := addAll_nodup List.nodup_nil
  have happ : ∀ j, j < terms.length → app (sg (tab 3 terms) j) (lggT 3 terms) = terms.getD j tm0 := gen_app hN 3 terms h0 hg hd
  have hidx : ∀ t ∈ terms, ∃ j, j < terms.length ∧ t = terms.getD j tm0 := fun t ht => by
    obtain ⟨j, hj, rfl⟩ := List.mem_iff_getElem.mp ht
    exact ⟨j, hj, by rw [List.getD_eq_getElem?_getD, List.getElem?_eq_getElem hj]; rfl⟩
  have hfit : ∀ t ∈ terms, (fits (lggT 3 terms) t []).1 = true := fun t ht => by
    obtain ⟨j, hj, rfl⟩ := hidx t ht
    exact (fits_complete 3 _ _ [] hpv (Agr.nil _) (happ j hj)).1
  have hlook : ∀ j, j < terms.length → ∀ x ∈ (lggT 3 terms).vars, (fits (lggT 3 terms) (terms.getD j tm0) []).2.lookup x = some (sg (tab 3 terms) j x) := fun j hj x hx => by
    have h1 := fits_complete 3 _ _ [] hpv (Agr.nil _) (happ j hj)
    obtain ⟨u, hu⟩ := Option.isSome_iff_exists.mp ((fits_sound 3 _ _ [] hpv h1.1).2.1 x hx)
    rw [hu, h1.2 x u hu]
  have hvm : ∀ x, x ∈ (lggT 3 terms).vars ↔ x ∈ marks (lggT 3 terms) := fun x => (mem_marks 3 _ hpv).symm
  refine ⟨hpv, hfit, fun t ht => ?_, fun t ht x hx => ?_, ?_, ?_, ?_, ?_, ?_, ?_, ?_, ?_⟩
  · obtain ⟨j, hj, rfl⟩ := hidx t ht
    rw [← happ j hj, happ j hj]
    conv => rhs; rw [← happ j hj]
    exact subst_congr 3 _ hpv fun x hx => hlook j hj x hx
  · obtain ⟨j, hj, rfl⟩ := hidx t ht
    show ((fits (lggT 3 terms) (terms.getD j tm0) []).2.lookup x).isSome = true
    rw [hlook j hj x hx]; rfl
  · rw [hmk, List.length_map]; exact names_nu hnd
  · rw [hmk, List.length_map]
    have h1 := addAll_len (dis 3 terms) []
    have h2 : (dis 3 terms).length ≤ 4 := dis_len1 (n := 2) h0 hg
    unfold tab
    simp at h1
    omega
  · intro t ht m hm
    obtain ⟨j, hj, rfl⟩ := hidx t ht
    have hmv := (hvm m).mpr hm
    rw [hmk] at hm
    obtain ⟨y, hy, rfl⟩ := List.mem_map.mp hm
    have hyp := dis_props h0 hg y (hdN y hy)
    unfold ofB
    rw [hlook j hj _ hmv, sg_nu hN hy]
    exact ((hyp.2.1 _ (getD_mem (by rw [hyp.1]; exact hj))).ok).mono (by first | decide | exact lle ‹_› rfl | exact llt ‹_› rfl | exact lll ‹_› rfl | exact llm ‹_› rfl | omega)
  · have e : ((marks (lggT 3 terms)).map fun m => terms.map fun t => ofB (fits (lggT 3 terms) t []).2 m) = tab 3 terms := by
      rw [hmk, List.map_map]
      conv => rhs; rw [← List.map_id (tab 3 terms)]
      refine List.map_congr_left fun y hy => ?_
      have hyl := (dis_props h0 hg y (hdN y hy)).1
      have hyv : nu (tab 3 terms) y ∈ (lggT 3 terms).vars := (hvm _).mpr (by rw [hmk]; exact List.mem_map_of_mem hy)
      refine list_ext (by simp [hyl]) fun i hi => ?_
      have hi : i < terms.length := by simpa using hi
      have e1 : (terms.map fun t => ofB (fits (lggT 3 terms) t []).2 (nu (tab 3 terms) y)).getD i tm0 = ofB (fits (lggT 3 terms) (terms.getD i tm0) []).2 (nu (tab 3 terms) y) := by
        rw [List.getD_eq_getElem?_getD, List.getElem?_map, List.getElem?_eq_getElem hi, List.getD_eq_getElem?_getD, List.getElem?_eq_getElem hi]
        rfl
      show (terms.map fun t => ofB (fits (lggT 3 terms) t []).2 (nu (tab 3 terms) y)).getD i tm0 = y.getD i tm0
      rw [e1]
      unfold ofB
      rw [hlook i hi _ hyv, sg_nu hN hy]
      rfl
    rw [e]; exact hnd
  · intro n p hp hf
    rw [fits_iff hp]
    have hS : ∀ j : Nat, ∃ σ : Str → Tm, j < terms.length → app σ p = terms.getD j tm0 := fun j => by
      by_cases hj : j < terms.length
      · obtain ⟨σ, hσ⟩ := (fits_iff hp).mp (hf _ (getD_mem hj))
        exact ⟨σ, fun zz => hσ⟩
      · exact ⟨fun zz => tm0, fun h => absurd h hj⟩
    exact ⟨_, gen_least (List.length_pos_iff.mpr h0) (S := fun j => Classical.choose (hS j)) n p 3 terms hp (Nat.le_refl 3) rfl hg fun j hj => Classical.choose_spec (hS j) hj⟩
  · intro t ht
    obtain ⟨j, hj, rfl⟩ := hidx t ht
    rw [← happ j hj]
    conv => rhs; rw [happ j hj, ← happ j hj]
    exact size_app 3 _ hpv
  · intro q hq
    obtain ⟨n', c', h1, h2, h3, h4, h5, h6⟩ := gen_at q.1 3 terms q.2 h0 hg (parts_at _ q hq)
    refine ⟨c', h2, h3, h6, fun u hu => ⟨n', h4 u hu⟩, ?_⟩
    rw [h1]
    exact gen_isV hN h2 h4 fun x hx => hd x (h5 x hx)
  · intro q hq hv
    have hat := parts_at _ q hq
    have hpp := put_pv z_pv q.1 3 _ _ hpv hat
    refine ⟨hpp, ?_, ?_⟩
    · rw [← Bool.not_eq_true, covers_iff hpv]
      rintro ⟨σ, e⟩
      have h1 := app_at (σ := σ) q.1 3 _ _ hpv hat
      rw [e, at_put q.1 _ _ hat] at h1
      have h2 := Option.some.inj h1
      have h3 : q.2 = .mk q.2.op q.2.kids := by cases q.2; rfl
      rw [h3, app_op _ hv] at h2
      have h4 : Str.ofString "?z" = q.2.op := congrArg Tm.op h2
      rw [← h4, z_isV] at hv
      cases hv
    · rw [covers_iff hpp]
      refine ⟨fun x => if x = Str.ofString "?z" then q.2 else .mk x [], app_put z_isV q.1 3 _ _ hpv hat (fun x hx => ?_) (if_pos rfl)⟩
      rw [hvm, hmk] at hx
      obtain ⟨y, hy, rfl⟩ := List.mem_map.mp hx
      exact if_neg (nu_ok hN hy).2.2
end
end Mine
end

section
open PySem PySem.W PyProof.Rows PySem.Calls
set_option tactic.hygienic false
set_option linter.all false
namespace Mine
noncomputable section
open scoped Classical

/-! the plain law, 7: what the law asks of rows -/
theorem pick_range (c : List Tm) : pick (List.range c.length) c = c := by
  refine list_ext (by simp [pick]) fun i hi => ?_
  have hi : i < c.length := by simpa [pick] using hi
  unfold pick
  rw [List.getD_eq_getElem?_getD, List.getElem?_map, List.getElem?_range hi]
  rfl
noncomputable def rowOf (c : List Tm) (k : Nat) : List Tm := c.drop k ++ c.take k ++ [c.getD k tm0]
noncomputable def rowπ (m k : Nat) : List Nat := (List.range m).drop k ++ (List.range m).take k ++ [k]
theorem row_pick (c : List Tm) (k : Nat) : rowOf c k = pick (rowπ c.length k) c := by
  unfold rowOf rowπ pick
  rw [List.map_append, List.map_append, List.map_drop, List.map_take]
  have := pick_range c
  unfold pick at this
  rw [this]
  rfl
theorem rowπ_mem {m k : Nat} (hk : k < m) {i : Nat} : i ∈ rowπ m k ↔ i < m := by
  unfold rowπ
  have e : i ∈ (List.range m).drop k ++ (List.range m).take k ↔ i ∈ List.range m := by
    rw [List.mem_append, or_comm, ← List.mem_append, List.take_append_drop]
  rw [List.mem_append, e, List.mem_singleton, List.mem_range]
  exact ⟨fun h => h.elim id fun e => e ▸ hk, .inl⟩
theorem row_gr {n : Nat} {c : List Tm} {k : Nat} (hk : k < c.length) (h : ∀ t ∈ c, Gr n t) : ∀ t ∈ rowOf c k, Gr n t := by
  intro t ht
  rw [row_pick, pick_mem (fun i hi => (rowπ_mem hk).mp hi) fun i hi => (rowπ_mem hk).mpr hi] at ht
  exact h t ht
theorem row_lgg {c : List Tm} {k : Nat} (hk : k < c.length) (h : ∀ t ∈ c, Gr 3 t) : lggT 3 (rowOf c k) = lggT 3 c := by
  rw [row_pick]
  exact lgg_pick (by first | decide | exact lle ‹_› rfl | exact llt ‹_› rfl | exact lll ‹_› rfl | exact llm ‹_› rfl | omega) (fun e => by rw [e] at hk; simp at hk) h (fun i hi => (rowπ_mem hk).mp hi) fun i hi => (rowπ_mem hk).mpr hi
theorem row_rev {c : List Tm} {k : Nat} (hk : k < c.length) (h : ∀ t ∈ c, Gr 3 t) : lggT 3 (rowOf c k).reverse = lggT 3 c := by
  have e : (rowOf c k).reverse = pick (rowπ c.length k).reverse c := by rw [row_pick]; unfold pick; rw [List.map_reverse]
  rw [e]
  exact lgg_pick (by first | decide | exact lle ‹_› rfl | exact llt ‹_› rfl | exact lll ‹_› rfl | exact llm ‹_› rfl | omega) (fun e => by rw [e] at hk; simp at hk) h (fun i hi => (rowπ_mem hk).mp (List.mem_reverse.mp hi)) fun i hi => List.mem_reverse.mpr ((rowπ_mem hk).mpr hi)
theorem lgg_pv {c : List Tm} (hc : c ≠ []) (h : ∀ t ∈ c, Gr 3 t) : Pv 3 (lggT 3 c) := (whole_of hc h).pv
theorem lgg_take {c : List Tm} (h : ∀ t ∈ c, Gr 3 t) {a : Tm} {r : List Tm} (e : c = a :: r) (i : Nat) : (r.take i).foldl (fun step t => lggT 3 [step, t]) a = lggT 3 (a :: r.take i) := by
  subst e
  have := lgg_fold (n := 3) (by first | decide | exact lle ‹_› rfl | exact llt ‹_› rfl | exact lll ‹_› rfl | exact llm ‹_› rfl | omega) (s := [a]) (r := r.take i) (by simp) (fun x hx => by rw [List.mem_singleton.mp hx]; exact h a (.head _)) fun x hx => h x (.tail _ (List.take_subset i r hx))
  rw [lgg_one (h a (.head _))] at this
  exact this

noncomputable def rho (x : Str) : Str := if x = Str.ofString "a" then Str.ofString "b" else if x = Str.ofString "b" then Str.ofString "a" else if x = Str.ofString "f" then Str.ofString "h" else x
theorem rho_inj : ∀ a b ka kb, dar a = some ka → a ≠ Str.ofString "h" → dar b = some kb → b ≠ Str.ofString "h" → rho a = rho b → a = b := by
  intro a b ka kb ha ha' hb hb' e
  have e1 : rho (Str.ofString "a") = Str.ofString "b" := by decide +kernel
  have e2 : rho (Str.ofString "b") = Str.ofString "a" := by decide +kernel
  have e3 : rho (Str.ofString "f") = Str.ofString "h" := by decide +kernel
  have e4 : rho (Str.ofString "g") = Str.ofString "g" := by decide +kernel
  rcases dar_cases ha with ⟨rfl, _⟩ | ⟨rfl, _⟩ | ⟨rfl, _⟩ | ⟨rfl, _⟩ | ⟨rfl, _⟩ <;> rcases dar_cases hb with ⟨rfl, _⟩ | ⟨rfl, _⟩ | ⟨rfl, _⟩ | ⟨rfl, _⟩ | ⟨rfl, _⟩ <;>
    first
      | rfl
      | exact absurd rfl ha'
      | exact absurd rfl hb'
      | (rw [e1, e2] at e; exact absurd e (by decide +kernel))
      | (rw [e1, e3] at e; exact absurd e (by decide +kernel))
      | (rw [e1, e4] at e; exact absurd e (by decide +kernel))
      | (rw [e2, e1] at e; exact absurd e (by decide +kernel))
      | (rw [e2, e3] at e; exact absurd e (by decide +kernel))
      | (rw [e2, e4] at e; exact absurd e (by decide +kernel))
      | (rw [e3, e1] at e; exact absurd e (by decide +kernel))
      | (rw [e3, e2] at e; exact absurd e (by decide +kernel))
      | (rw [e3, e4] at e; exact absurd e (by decide +kernel))
      | (rw [e4, e1] at e; exact absurd e (by decide +kernel))
      | (rw [e4, e2] at e; exact absurd e (by decide +kernel))
      | (rw [e4, e3] at e; exact absurd e (by decide +kernel))
theorem rho_v : ∀ k, k < 32 → rho (vname k) = vname k := by decide +kernel
theorem ren_lgg {c : List Tm} (hc : c ≠ []) (h : ∀ t ∈ c, Gr 3 t) : lggT 3 (c.map (Tm.ren rho)) = (lggT 3 c).ren rho := lgg_ren rho_inj rho_v (by first | decide | exact lle ‹_› rfl | exact llt ‹_› rfl | exact lll ‹_› rfl | exact llm ‹_› rfl | omega) hc h
theorem rho_ok {x : Str} (h : x.length ≤ 8 ∧ PyData.strOk x = true) : (rho x).length ≤ 8 ∧ PyData.strOk (rho x) = true := by
  unfold rho
  split
  · exact ⟨by decide +kernel, by decide +kernel⟩
  split
  · exact ⟨by decide +kernel, by decide +kernel⟩
  split
  · exact ⟨by decide +kernel, by decide +kernel⟩
  exact h
theorem ok_ren : ∀ {n : Nat} {t : Tm}, Ok n t → Ok n (t.ren rho)
  | 0, _, h => h.elim
  | n + 1, .mk op ks, h => by
    rw [ren_mkP]
    have := rho_ok ⟨h.1, h.2.1⟩
    refine ⟨this.1, this.2, by rw [List.length_map]; exact h.2.2.1, fun k hk => ?_⟩
    obtain ⟨u, hu, rfl⟩ := List.mem_map.mp hk
    exact ok_ren (h.2.2.2 u hu)
end
end Mine
end

section
open PySem PySem.W PyProof.Rows PySem.Calls
set_option tactic.hygienic false
set_option linter.all false
set_option maxRecDepth 100000
set_option maxHeartbeats 2000000
namespace Mine
section
variable {prog : Program} {w : World} {A : Around} {g h₀ : Heap} {mg mb : Str → Option Value} {F : Nat → Addr} {v : Value}

theorem ok_part : ∀ (t : Tm) (n : Nat), Ok n t → ∀ q ∈ t.parts, Ok n q.2 := Tm.ind fun op ks ih n h q hq => by
  cases n with
  | zero => exact h.elim
  | succ n =>
    rw [parts_mk] at hq
    rcases List.mem_cons.mp hq with rfl | hq
    · exact h
    · obtain ⟨i, t, p, h1, h2, rfl⟩ := mem_partsL.mp hq
      have hk := List.mem_of_getElem? h1
      exact (ih t hk n (h.2.2.2 t hk) p h2).mono (by first | decide | exact lle ‹_› rfl | exact llt ‹_› rfl | exact lll ‹_› rfl | exact llm ‹_› rfl | omega)
theorem w_variables (W : Wd h₀ mg mb F) (hb : Sub h₀ g) {n : Nat} (hn : n ≤ 5) (R : Room A (n + 6)) {t : Tm} (hok : Ok n t) (hv : Rd g v t.d) :
    Pure prog w A g (F 7) [v] (fun g' r => ∃ ss : List Str, ss.Nodup ∧ (∀ x, x ∈ ss ↔ ∃ q ∈ t.parts, q.2.isVar = true ∧ q.2.op = x) ∧ sortedS ss = true ∧ Rd g' r (.list (ss.map .str))) := by
  refine Pure.of W 7 (by decide) hb R [(Str.ofString "t", v)] (fun zz zz zz => rfl) (kindsX rfl) (by decide) rfl rfl rfl (fun s L code s₁ Qk hQ => ?_)
  intro env R I
  have V : Rs g [(v, t.d)] := ⟨hv, trivial⟩
  refine execs_cons' ?_; intro Qk hQ
  (with_reducible refine wpAny_Return_some ?_); refine x_bi W hb I (by decide) (by boot_by_name) rfl rfl rfl rfl (by decide) rfl rfl rfl ?_; refine args_cons ?_; refine x_ty W hb I (by decide) (by boot_by_name) rfl rfl rfl rfl (by decide) rfl rfl rfl ?_; refine args_cons ?_; refine x_comp I rfl rfl (by decide) (fun zz => rfl) ?_; refine x_def W hb I rfl rfl rfl rfl rfl rfl ?_; refine args_cons ?_; refine n_local (i := 0) I rfl rfl rfl (by rfl) rfl ?_; (with_reducible refine args_nil ?_)
  refine ⟨hb.trans I.own.sub, ?_⟩
  refine (w_parts W n (by first | decide | exact lle ‹_› rfl | exact llt ‹_› rfl | exact lll ‹_› rfl | exact llm ‹_› rfl | omega) hok hb R.dn (Rs.h0 V)).use I ?_; clear I; intro g s r hs I hx
  replace hb := Sub.trans hb hs; replace V := Rs.mono V hs; clear hs
  replace V := Rs.cons hx V; clear hx
  refine it_seq R.hd I (.inl (Rs.h0 V)) ?_; clear I; intro it s X
  have hsz := size_le hok
  have h2n : 2 ^ n ≤ 2 ^ 5 := Nat.pow_le_pow_right (by first | decide | exact lle ‹_› rfl | exact llt ‹_› rfl | exact lll ‹_› rfl | exact llm ‹_› rfl | omega) hn
  refine CompK.opt t.parts partD (fun q => if q.2.isVar = true then some (PyData.str q.2.op) else none) (X _) rfl (by rw [List.length_map, parts_len]; omega) (fun C q v g' s' m cm rest hq hs hv I => ?_) fun g hs y g s hs' hx' I => ?_
  · intro cenv
    have HB := Sub.refl g'
    replace hb := Sub.trans hb hs; replace V := Rs.mono V hs; clear hs
    replace V := Rs.cons hv V
    rw [partD, pathD, Tm.d_eta q.2] at V
    have hokq := ok_part t n hok q hq
    have hln := hokq.ln
    refine as_pair R.hd I (Rs.h0 V) rfl rfl rfl ?_; clear I; intro s x y I hx hy; replace V := Rs.cons hx V; clear hx; replace V := Rs.cons hy V; clear hy; (with_reducible refine wpAny_assign_Name ?_); refine st_local (i := 0) I rfl rfl rfl ?_; clear I; intro s I; (with_reducible refine wpAny_assign_Name ?_); refine st_local (i := 0) I rfl rfl rfl ?_; clear I; intro s I; (with_reducible refine tests_one ?_); refine isTrue_plain ?_; refine x_def W hb I rfl rfl rfl rfl rfl rfl ?_; refine args_cons ?_; refine n_local (i := 0) I rfl rfl rfl (by rfl) rfl ?_; (with_reducible refine args_nil ?_)
    refine ⟨hb.trans I.own.sub, ?_⟩
    refine (w_isvar W hb R.dn hokq (by rw [Tm.d_eta]; exact Rs.h0 V)).use I ?_; clear I; intro g s r hs I hP
    subst hP
    replace hb := Sub.trans hb hs; replace V := Rs.mono V hs; replace HB := Sub.trans HB hs; clear hs
    (with_reducible refine wpAny_truthy_bool ?_)
    cases hc : q.2.isVar with
    | false =>
      refine ite_f (by decide) ?_
      exact ⟨_, _, fun zz => none, HB, I, by simp⟩
    | true =>
      refine ite_t rfl ?_
      (with_reducible refine Subscript_ ?_); refine n_local (i := 0) I rfl rfl rfl (by rfl) rfl ?_; (with_reducible refine c_int I ?_; clear I; intro s t I); refine i_tup (k := 0) I (Rs.h0 V) rfl (by first | exact kdl ‹_› | exact kdm ‹_› | exact Nat.le_of_ble_eq_true rfl | exact mdl ‹_› rfl | exact mdm ‹_› rfl | (simp only [List.length_cons, List.length_nil, List.length_map, List.length_append, List.length_take, List.length_drop]; omega)) ?_; intro v hx; obtain ⟨t, rfl⟩ := Rd.str_inv hx; clear hx
      exact ⟨_, _, fun zz => none, _, HB, I, .str, by simp⟩
  · replace hs := Sub.trans hs hs'
    replace hb := Sub.trans hb hs; replace V := Rs.mono V hs; clear hs
    have e : t.parts.filterMap (fun q => if q.2.isVar = true then some (PyData.str q.2.op) else none) = ((t.parts.filter fun q => q.2.isVar).map fun q => q.2.op).map .str := by
      rw [List.map_map, ← List.filterMap_eq_map, List.filterMap_filter]; rfl
    rw [e] at hx'
    have hfl : ((t.parts.filter fun q => q.2.isVar).map fun q => q.2.op).length ≤ 31 := by
      have h1 := List.length_filter_le (fun q : List Nat × Tm => q.2.isVar) t.parts
      rw [List.length_map]
      rw [parts_len] at h1
      omega
    (with_reducible refine args_nil ?_)
    refine b_set_strs R.hd I hx' (by first | decide | exact lle ‹_› rfl | exact llt ‹_› rfl | exact lll ‹_› rfl | exact llm ‹_› rfl | omega) ?_
    clear I; intro S s hS I
    (with_reducible refine args_nil ?_)
    refine b_sorted_set R.hd I (i := 0) rfl (by first | decide | exact lle ‹_› rfl | exact llt ‹_› rfl | exact lll ‹_› rfl | exact llm ‹_› rfl | omega) ?_
    clear I; intro g s r ss hs h1 h2 h3 I hr
    (with_reducible refine opq (by assumption) ?_); (with_reducible refine opq (by assumption) ?_)
    refine ⟨_, _, I, ss, h1, fun x => ?_, h3, hr⟩
    rw [h2, List.mem_map]
    constructor
    · rintro ⟨q, hq, rfl⟩
      rw [List.mem_filter] at hq
      exact ⟨q, hq.1, hq.2, rfl⟩
    · rintro ⟨q, hq, h4, rfl⟩
      exact ⟨q, List.mem_filter.mpr ⟨hq, h4⟩, rfl⟩
end

end Mine
end

section
open PySem PySem.W PyProof.Rows PySem.Calls
set_option tactic.hygienic false
set_option linter.all false
set_option maxRecDepth 100000
set_option maxHeartbeats 2000000
namespace Mine
section
variable {prog : Program} {w : World} {A : Around} {g h₀ : Heap} {mg mb : Str → Option Value} {F : Nat → Addr} {v : Value}

theorem Eff1.useMid {E : Value → Shared → Prop} {g₀ : Heap} {D : List Addr} {s₀ s : Shared} {f a : Addr} {vals : List Value} {P₀ : Obj → Prop} {P : Heap → (Obj → Prop) → Value → Prop} {pre tabs rest : List Res} (c : Eff1 prog w A g f vals a P₀ P) (I : In g₀ D s₀ g (pre ++ (tabs ++ rest)) s) {i : Nat} (hi : tabs[i]? = some (a, P₀)) {Q : Value → Shared → Prop}
    (h : ∀ g' s' r P', Sub g g' → In g₀ D s₀ g' (pre ++ (tabs.set i (a, P') ++ rest)) s' → P g' P' r → Q r s') : wpAny (model prog w) A (call (.ref f) vals) Q E s := by
  have hlt := (List.getElem?_eq_some_iff.mp hi).1
  refine c.use I (i := pre.length + i) ?_ fun g' s' r P' hs I' hP => h g' s' r P' hs ?_ hP
  · rw [List.getElem?_append_right (by first | decide | exact lle ‹_› rfl | exact llt ‹_› rfl | exact lll ‹_› rfl | exact llm ‹_› rfl | omega), Nat.add_sub_cancel_left, List.getElem?_append_left hlt]; exact hi
  · rw [List.set_append_right _ _ (by first | decide | exact lle ‹_› rfl | exact llt ‹_› rfl | exact lll ‹_› rfl | exact llm ‹_› rfl | omega), Nat.add_sub_cancel_left, List.set_append_left _ _ hlt] at I'
    exact I'

noncomputable def tbs (prog : Program) (w : World) (as : List Addr) (K : List (List (Str × Value))) : List Res := (as.zip K).map fun p => (p.1, dP (PySem.strKind prog w) p.1 p.2)
theorem tbs_nil (as : List Addr) : (as.map fun a => (a, dP (PySem.strKind prog w) a [])) = tbs prog w as (List.replicate as.length []) := by
  induction as with
  | nil => rfl
  | cons a r ih => unfold tbs at ih ⊢; rw [List.map_cons, ih]; rfl
theorem tbs_get {as : List Addr} {K : List (List (Str × Value))} {i : Nat} {a : Addr} {k : List (Str × Value)} (h1 : as[i]? = some a) (h2 : K[i]? = some k) : (tbs prog w as K)[i]? = some (a, dP (PySem.strKind prog w) a k) := by
  unfold tbs
  rw [List.getElem?_map, zip_getElem? h1 h2]
  rfl
theorem tbs_set {as : List Addr} {K : List (List (Str × Value))} {i : Nat} {a : Addr} {k : List (Str × Value)} (h1 : as[i]? = some a) (hl : K.length = as.length) : (tbs prog w as K).set i (a, dP (PySem.strKind prog w) a k) = tbs prog w as (K.set i k) := by
  have hi := (List.getElem?_eq_some_iff.mp h1).1
  refine List.ext_getElem? fun j => ?_
  rw [List.getElem?_set]
  by_cases h : i = j
  · subst h
    rw [if_pos rfl, if_pos (by unfold tbs; simp; omega), tbs_get h1 (by rw [List.getElem?_set_self (by first | decide | exact lle ‹_› rfl | exact llt ‹_› rfl | exact lll ‹_› rfl | exact llm ‹_› rfl | omega)])]
  · rw [if_neg h]
    by_cases hj : j < as.length
    · have e1 := List.getElem?_eq_getElem hj
      have e2 : K[j]? = some K[j] := List.getElem?_eq_getElem (by first | decide | exact lle ‹_› rfl | exact llt ‹_› rfl | exact lll ‹_› rfl | exact llm ‹_› rfl | omega)
      rw [tbs_get e1 e2, tbs_get e1 (by rw [List.getElem?_set_ne h]; exact e2)]
    · rw [List.getElem?_eq_none (by unfold tbs; simp; omega), List.getElem?_eq_none (by unfold tbs; simp; omega)]
theorem trues_rd {g : Heap} (n : Nat) : Rds g (List.replicate n (.bool true)) (List.replicate n (.bool true)) := by
  induction n with
  | zero => exact .nil
  | succ n ih => exact .cons .bool ih

noncomputable def lsF (L acc : Addr) (vw : Value) (M : Str → Option Value) (c : Option Value) : List Res := [(L, nsP M), (L + 1 + 1 + 1, cellP c), (L + 1 + 1, cellP (some (.ref acc))), (L + 1, cellP (some vw))]

theorem w_least (W : Wd h₀ mg mb F) {g0 : Heap} (hb : Sub h₀ g0) (R : Room A 12) {whole : Tm} {terms : List Tm} {vw vt : Value} (hW : Whole whole terms) (h0 : terms ≠ []) (hlen : terms.length ≤ 4) (hg : ∀ t ∈ terms, Gr 3 t) (hvw : Rd g0 vw whole.d) (hvt : Rd g0 vt (.list (terms.map Tm.d))) :
    Pure prog w A g0 (F 25) [vw, vt] (fun zz r => r = .bool true) := by
  refine Pure.of W 25 (by decide) hb R [(Str.ofString "whole", vw), (Str.ofString "terms", vt)] (fun zz zz zz => rfl) (kindsX rfl) (by decide) rfl rfl rfl (fun s0 L code s₁ Qk hQ => ?_)
  intro env R I
  have V : Rs g0 [(vw, whole.d), (vt, .list (terms.map Tm.d))] := ⟨hvw, hvt, trivial⟩
  have hwok := hW.pv.ok
  have hwsz := size_le hwok
  have hgok : ∀ t ∈ terms, Ok 3 t := fun t ht => (hg t ht).ok
  (try with_reducible refine opq (by assumption) ?_); refine execs_cons' ?_; intro Qk hQ
  (with_reducible refine wpAny_If ?_); refine wpAny_isTrue_Compare1 ?_; refine x_comp I rfl rfl (by decide) (fun zz => rfl) ?_; refine n_local (i := 0) I rfl rfl rfl (by rfl) rfl ?_; refine it_seq R.hd I (.inl (Rs.h1 V)) ?_; clear I; intro it s X
  refine CompK.opt terms Tm.d (fun t => none) (X _) rfl (by rw [List.length_map]; first | exact lle ‹_› rfl | exact llt ‹_› rfl | omega) (fun C t v g' s' m cm rest ht hs hv I => ?_) fun g hs y g s hs' hx I => ?_
  · intro cenv
    have HB := Sub.refl g'
    replace hb := Sub.trans hb hs; replace V := Rs.mono V hs; clear hs
    replace V := Rs.cons hv V
    (with_reducible refine wpAny_assign_Name ?_); refine st_local (i := 0) I rfl rfl rfl ?_; clear I; intro s I; (with_reducible refine tests_one ?_); (with_reducible refine isTrue_not ?_); refine isTrue_plain ?_; refine x_def W hb I rfl rfl rfl rfl rfl rfl ?_; refine args_cons ?_; refine n_cell (i := 4) I rfl rfl rfl rfl rfl ?_; refine args_cons ?_; refine n_local (i := 0) I rfl rfl rfl (by rfl) rfl ?_; refine args_cons ?_
    refine dd_empty W.toBase hb I ?_
    clear I; intro bd s hbd _ I _
    replace I := I Str (PySem.strKind prog w)
    (with_reducible refine args_nil ?_)
    refine ⟨hb.trans I.own.sub, ?_⟩
    refine (w_fits W (N := 3) (by first | decide | exact lle ‹_› rfl | exact llt ‹_› rfl | exact lll ‹_› rfl | exact llm ‹_› rfl | omega) 3 (by first | decide | exact lle ‹_› rfl | exact llt ‹_› rfl | exact lll ‹_› rfl | exact llm ‹_› rfl | omega) hwok (hgok t ht) hb R.dn (Rs.h1 V) (Rs.h0 V) BRd.nil (by simp; omega) (fun zz h => nomatch h)).use (i := 0) I rfl ?_
    clear I; intro g s r P' hs I hP
    obtain ⟨kvs', rfl, _, rfl⟩ := hP
    replace hb := Sub.trans hb hs; replace V := Rs.mono V hs; replace HB := Sub.trans HB hs; clear hs
    rw [hW.fit t ht]
    (with_reducible refine wpAny_truthy_bool ?_)
    refine ite_f (by decide) ?_
    replace I := I.sub (List.sublist_cons_self _ _)
    exact ⟨_, _, fun zz => none, HB, I, rfl⟩
  · replace hs := Sub.trans hs hs'
    rw [show terms.filterMap (fun zz => (none : Option PyData)) = [] from List.filterMap_eq_nil_iff.mpr fun zz zz => rfl] at hx
    replace hb := Sub.trans hb hs; replace V := Rs.mono V hs; clear hs
    (with_reducible refine List_ ?_); (with_reducible refine args_nil ?_)
    refine d_list I .nil (by simp) ?_
    clear I; intro g s v hs I hx2
    replace hx := hx.mono hs
    replace hb := Sub.trans hb hs; replace V := Rs.mono V hs; clear hs
    refine k_ne I hx hx2 rfl rfl (by decide) R ?_
    clear hx hx2
    (with_reducible refine wpAny_truthy_bool ?_)
    refine ite_f (by decide) ?_
    refine wpAny_execs_nil ?_; refine opq (by assumption) ?_
    (try with_reducible refine opq (by assumption) ?_); refine execs_cons' ?_; intro Qk hQ
    refine wpAny_Assign_Name ?_
    refine comp_rule (g₀ := g0) (D := []) (s₀ := s0) rfl rfl (by decide) (fun zz => rfl) ?_
    refine n_local (i := 0) I rfl rfl rfl (by rfl) rfl ?_; refine it_seq R.hd I (.inl (Rs.h1 V)) ?_; clear I; intro it s X
    obtain ⟨gb, ρ, N, hgb, hρ, I⟩ := X (Expr.Name (Str.ofString "t") { line := 109, col := 21, endLine := 109, endCol := 22 })
    clear X
    refine ⟨gb, _, ρ, VS (terms.map Tm.d), g, _, fun i out g' μ' => ∃ ads : List Addr, out = ads.reverse.map Value.ref ∧ ads.length = i ∧ (∀ a ∈ ads, s0.heap.get? a = none) ∧ μ' = (ads.map fun a => (a, dP (PySem.strKind prog w) a [])) ++ frameRes env [(Str.ofString "whole", vw), (Str.ofString "terms", vt)], N, hgb, hρ, by rw [List.length_map]; omega, ⟨[], rfl, rfl, (fun zz h => nomatch h), rfl⟩, I, fun C i out g' μ' s' v m cm rest hi hs hs2 hK hV I => ?_, fun i out g' g'' μ' hs hK => hK, fun acc out g' μ' s' hacc hs hK I => ?_⟩
    · intro cenv
      obtain ⟨ads, rfl, hal, haf, rfl⟩ := hK
      have HB := Sub.refl g'
      replace hb := Sub.trans hb hs; replace V := Rs.mono V hs; clear hs
      (with_reducible refine wpAny_assign_Name ?_); refine st_local (i := 0) I rfl rfl rfl ?_; clear I; intro s I; (with_reducible refine tests_nil ?_)
      refine ite_t rfl ?_
      refine dd_empty W.toBase hb I ?_
      clear I; intro bd s hbd _ I _
      replace I := I Str (PySem.strKind prog w)
      exact ⟨g', (bd, dP (PySem.strKind prog w) bd []) :: _, _, fun zz => none, HB, I.perm (List.Perm.swap _ _ _), bd :: ads, by simp, by simp [hal], fun a ha => by
        rcases List.mem_cons.mp ha with rfl | ha
        · exact hbd
        · exact haf a ha, rfl⟩
    · obtain ⟨ads, rfl, hal, haf, rfl⟩ := hK
      obtain ⟨g2, hs2, hL2, I⟩ := I.listRaw hacc
      replace hs := hs.trans hs2
      replace hb := Sub.trans hb hs; replace V := Rs.mono V hs; clear hs
      replace I := I.perm ((List.perm_append_comm).trans (List.Perm.append_left _ ((List.reverse_perm ads).symm.map fun a => (a, dP (PySem.strKind prog w) a []))))
      rw [List.length_map] at hal
      have hal2 : ads.reverse.length = terms.length := by rw [List.length_reverse]; exact hal
      replace haf : ∀ a ∈ ads.reverse, s0.heap.get? a = none := fun a ha => haf a (List.mem_reverse.mp ha)
      generalize ads.reverse = as at hL2 hal2 haf I
      clear hal N hρ hgb
      obtain ⟨lt, tvs, et, hlt, htr⟩ := (Rs.h1 V).lst_inv
      subst et
      refine st_cell (i := 2) I rfl rfl rfl rfl ?_
      clear I; intro s I
      have hframe : ∃ (M : Str → Option Value) (c3 : Option Value), M (Str.ofString "terms") = some (Value.ref lt) ∧ In g0 [] s0 g2 (lsF L acc vw M c3 ++ as.map fun a => (a, dP (PySem.strKind prog w) a [])) s := ⟨_, _, rfl, I⟩
      clear I
      obtain ⟨M, c3, hM, I⟩ := hframe
      (try with_reducible refine opq (by assumption) ?_); refine execs_cons' ?_; intro Qk hQ
      refine comp_assign (g₀ := g0) (D := []) (s₀ := s0) rfl rfl rfl (by decide) (fun zz => rfl) rfl rfl ?_
      refine x_ty W hb I (by decide) (by boot_by_name) rfl rfl rfl rfl (by decide) rfl rfl rfl ?_; refine args_cons ?_; refine n_local (i := 0) I rfl rfl rfl (by first | exact hM | rfl) rfl ?_; refine args_cons ?_; refine n_cell (i := 2) I rfl rfl rfl rfl rfl ?_; (with_reducible refine args_nil ?_)
      refine it_zip_raw R.hd I (isList_sub hlt (Sub.refl _)) hL2 (by have := htr.length; rw [List.length_map] at this ⊢; omega) fun g3 it s3 ρ hs hρ N I => ?_
      rw [tbs_nil] at I
      refine ⟨g3, _, ρ, _, g3, _, fun i out g' μ' => ∃ K : List (List (Str × Value)), K.length = terms.length ∧ μ' = lsF L acc vw M c3 ++ tbs prog w as K ∧ out = List.replicate i (.bool true) ∧
          (∀ j t, j < i → terms[j]? = some t → BRd g' (K.getD j []) (fits whole t []).2) ∧ ∀ j, i ≤ j → K.getD j [] = [],
        N _ _ _, Sub.refl _, hρ, by rw [List.length_map]; omega, ⟨_, by rw [List.length_replicate]; exact hal2, rfl, rfl, fun j t h => by omega, fun j zz => by rw [List.getD_eq_getElem?_getD]; by_cases h : j < as.length <;> simp [h]⟩, I, fun C i out g' μ' s' v m cm rest hi hs2 zz hK hV I => ?_, fun i out g' g'' μ' hs hK => ?_, fun acc2 out g' μ' s' hacc2 hs2 hK I => ?_⟩
      · intro cenv
        obtain ⟨K, hKl, rfl, rfl, hK1, hK2⟩ := hK
        obtain ⟨x, yv, T, rfl, hx, hy, hT⟩ := hV
        rw [List.getElem?_map] at hy
        obtain ⟨a, ha, rfl⟩ := Option.map_eq_some_iff.mp hy
        obtain ⟨d, hd, hxd⟩ := htr.getV hx
        rw [List.getElem?_map] at hd
        obtain ⟨t, ht, rfl⟩ := Option.map_eq_some_iff.mp hd
        have htm := List.mem_of_getElem? ht
        have hil := (List.getElem?_eq_some_iff.mp ht).1
        replace hs := hs.trans hs2
        replace hb := hb.trans hs
        replace V : Rs g' [(x, t.d), (vw, whole.d)] := ⟨hxd.mono hs, (Rs.h0 V).mono hs, trivial⟩
        have HB := Sub.refl g'
        clear X N
        refine as_raw R.hd I hT rfl rfl rfl ?_
        clear I; intro s I
        (with_reducible refine wpAny_assign_Name ?_); refine st_local (i := 0) I rfl rfl rfl ?_; clear I; intro s I; (with_reducible refine wpAny_assign_Name ?_); refine st_local (i := 0) I rfl rfl rfl ?_; clear I; intro s I; (with_reducible refine tests_nil ?_)
        refine ite_t rfl ?_
        refine x_def W hb I rfl rfl rfl rfl rfl rfl ?_; refine args_cons ?_; refine n_cell (i := 4) I rfl rfl rfl rfl rfl ?_; refine args_cons ?_; refine n_local (i := 0) I rfl rfl rfl (by first | exact hM | rfl) rfl ?_; refine args_cons ?_; refine n_local (i := 0) I rfl rfl rfl (by first | exact hM | rfl) rfl ?_; (with_reducible refine args_nil ?_)
        refine ⟨hb.trans I.own.sub, ?_⟩
        have hKi : K[i]? = some [] := by
          have := hK2 i (Nat.le_refl _)
          rw [List.getD_eq_getElem?_getD] at this
          rw [List.getElem?_eq_getElem (by first | decide | exact lle ‹_› rfl | exact llt ‹_› rfl | exact lll ‹_› rfl | exact llm ‹_› rfl | omega)] at this ⊢
          exact congrArg some this
        refine (w_fits W (N := 3) (by first | decide | exact lle ‹_› rfl | exact llt ‹_› rfl | exact lll ‹_› rfl | exact llm ‹_› rfl | omega) 3 (by first | decide | exact lle ‹_› rfl | exact llt ‹_› rfl | exact lll ‹_› rfl | exact llm ‹_› rfl | omega) hwok (hgok t htm) hb R.dn (Rs.h1 V) (Rs.h0 V) BRd.nil (by simp; omega) (fun zz h => nomatch h)).useMid (pre := [(C, _), (L, _), (L + 1 + 1 + 1, _), (L + 1 + 1, _), (L + 1, _)]) (tabs := tbs prog w as K) (i := i) I (tbs_get ha hKi) ?_
        clear I; intro g s r P' hs3 I hP
        obtain ⟨kvs', rfl, hbr, rfl⟩ := hP
        rw [tbs_set ha (by first | decide | exact lle ‹_› rfl | exact llt ‹_› rfl | exact lll ‹_› rfl | exact llm ‹_› rfl | omega)] at I
        rw [hW.fit t htm]
        refine ⟨g, _, _, fun zz => none, hs3, I, K.set i kvs', by simp [hKl], rfl, by rw [List.replicate_succ'], fun j u hj hu => ?_, fun j hj => ?_⟩
        · by_cases e : j = i
          · subst e
            rw [ht] at hu
            cases hu
            rw [List.getD_eq_getElem?_getD, List.getElem?_set_self (by first | decide | exact lle ‹_› rfl | exact llt ‹_› rfl | exact lll ‹_› rfl | exact llm ‹_› rfl | omega)]
            exact hbr
          · rw [List.getD_eq_getElem?_getD, List.getElem?_set_ne (Ne.symm e), ← List.getD_eq_getElem?_getD]
            exact (hK1 j u (by first | decide | exact lle ‹_› rfl | exact llt ‹_› rfl | exact lll ‹_› rfl | exact llm ‹_› rfl | omega) hu).mono hs3
        · rw [List.getD_eq_getElem?_getD, List.getElem?_set_ne (by first | decide | exact lle ‹_› rfl | exact llt ‹_› rfl | exact lll ‹_› rfl | exact llm ‹_› rfl | omega), ← List.getD_eq_getElem?_getD]
          exact hK2 j (by first | decide | exact lle ‹_› rfl | exact llt ‹_› rfl | exact lll ‹_› rfl | exact llm ‹_› rfl | omega)
      · obtain ⟨K, h1, h2, h3, h4, h5⟩ := hK
        exact ⟨K, h1, h2, h3, fun j t hj ht => (h4 j t hj ht).mono hs, h5⟩
      · obtain ⟨K, hKl, rfl, rfl, hK1, hK2⟩ := hK
        have hnn : min tvs.length (as.map Value.ref).length = terms.length := by
          have := htr.length
          rw [List.length_map] at this ⊢
          omega
        rw [hnn] at I hK1
        refine ⟨0, _, rfl, fun s I => ?_⟩
        rw [hnn] at I
        obtain ⟨g4, hs4, hdr, I⟩ := I.frzLst hacc2 (trues_rd terms.length)
        obtain ⟨g5, hs5, hT5, I⟩ := In.freezeAll (tbs prog w as K) (I.perm (List.perm_append_comm (l₁ := [_, _, _, _]))) (fun p hp => by
          obtain ⟨q, hq, rfl⟩ := List.mem_map.mp hp
          exact haf q.1 (List.of_mem_zip hq).1)
        have hF : ∀ (j : Nat) (a : Addr) (t : Tm), as[j]? = some a → terms[j]? = some t → ∃ kvs, FDict (PySem.strKind prog w) g5 a kvs ∧ BRd g5 kvs (fits whole t []).2 := fun j a t ha ht => by
          have hjl := (List.getElem?_eq_some_iff.mp ht).1
          have e2 : K[j]? = some K[j] := List.getElem?_eq_getElem (by first | decide | exact lle ‹_› rfl | exact llt ‹_› rfl | exact lll ‹_› rfl | exact llm ‹_› rfl | omega)
          obtain ⟨o, ho, hP⟩ := hT5 _ (List.mem_of_getElem? (tbs_get ha e2))
          refine ⟨K[j], ⟨o, ho, hP⟩, ?_⟩
          have := hK1 j t hjl ht
          rw [List.getD_eq_getElem?_getD, e2] at this
          exact this.mono (hs4.trans hs5)
        replace hs := ((hs.trans hs2).trans hs4).trans hs5
        have hrows := hdr.mono hs5
        replace hL2 := isList_sub hL2 hs
        replace hb := Sub.trans hb hs; replace V := Rs.mono V hs; clear hs
        replace V := Rs.cons hrows V
        clear hrows hT5 hdr hK1 hK2 N X hρ
        (with_reducible refine opq (by assumption) ?_); (with_reducible refine execs_cons' ?_; intro Qk hQ); refine wpAny_Assign_Name ?_; refine x_def W hb I rfl rfl rfl rfl rfl rfl ?_; refine args_cons ?_; refine n_cell (i := 3) I rfl rfl rfl rfl rfl ?_; (with_reducible refine args_nil ?_)
        refine ⟨hb.trans I.own.sub, ?_⟩
        refine (w_marks W 3 (by first | decide | exact lle ‹_› rfl | exact llt ‹_› rfl | exact lll ‹_› rfl | exact llm ‹_› rfl | omega) hwok hb R.dn (Rs.h1 V)).use I ?_; clear I; intro g s r hs I hx
        replace hF : ∀ (j : Nat) (a : Addr) (t : Tm), as[j]? = some a → terms[j]? = some t → ∃ kvs, FDict (PySem.strKind prog w) g a kvs ∧ BRd g kvs (fits whole t []).2 := fun j a t h1 h2 => by
          obtain ⟨kvs, h3, h4⟩ := hF j a t h1 h2
          exact ⟨kvs, h3.mono hs, h4.mono hs⟩
        replace hL2 := isList_sub hL2 hs
        replace hb := Sub.trans hb hs; replace V := Rs.mono V hs; clear hs
        replace V := Rs.cons hx V
        clear hx
        have hmk := hW.marks
        have hmf := hW.few
        refine st_local (i := 0) I rfl rfl rfl ?_; clear I; intro s I; (with_reducible refine opq (by assumption) ?_); (with_reducible refine execs_cons' ?_; intro Qk hQ); refine x_compA I rfl rfl rfl (by decide) (fun zz => rfl) rfl rfl ?_; refine n_local (i := 0) I rfl rfl rfl (by first | exact hM | rfl) rfl ?_; refine it_seq R.hd I (.inl (Rs.h0 V)) ?_; clear I; intro it s X
        refine CompK.map (marks whole) PyData.str (fun m => .tuple ((terms.map fun t => ofB (fits whole t []).2 m).map Tm.d)) (X _) rfl (by rw [List.length_map]; first | exact lle ‹_› rfl | exact llt ‹_› rfl | omega) (fun C x v g' s' m cm rest hx hs hv I => ?_) fun g' hs => ⟨0, _, rfl, fun y g3 s hs' hx I => ?_⟩
        · intro cenv
          have hF' : ∀ (j : Nat) (a : Addr) (t : Tm), as[j]? = some a → terms[j]? = some t → ∃ kvs, FDict (PySem.strKind prog w) g' a kvs ∧ BRd g' kvs (fits whole t []).2 := fun j a t h1 h2 => by
            obtain ⟨kvs, h3, h4⟩ := hF j a t h1 h2
            exact ⟨kvs, h3.mono hs, h4.mono hs⟩
          have hL3 := isList_sub hL2 hs
          have HB := Sub.refl g'
          obtain ⟨tx, rfl⟩ := Rd.str_inv hv
          clear hv X
          replace hb := Sub.trans hb hs; replace V := Rs.mono V hs; clear hs
          refine wpAny_assign_Name ?_
          refine st_cell (i := 1) I rfl rfl rfl rfl ?_
          clear I; intro s I
          refine x_ty W hb I (by decide) (by boot_by_name) rfl rfl rfl rfl (by decide) rfl rfl rfl ?_
          refine args_cons ?_
          refine x_compX (g₀ := g0) (D := []) (s₀ := s0) rfl rfl (by decide) (fun zz => rfl) ?_
          first | refine n_free (i := 4) I rfl rfl rfl rfl rfl ?_ | refine n_cell (i := 4) I rfl rfl rfl rfl rfl ?_
          refine it_raw R.hd I hL3 fun it s hit N I => ?_
          refine CompX.pure (fun i => ((terms.map fun t => ofB (fits whole t []).2 x).map Tm.d).getD i .none) (N _) (Sub.refl _) (fun p hp => by rw [List.mem_singleton.mp hp]; exact hit) (by rw [List.length_map]; first | exact lle ‹_› rfl | exact llt ‹_› rfl | omega) I (fun C2 i g2 s2 v2 m2 cm2 rest2 hi hs2 hV I => ?_) fun g2 y s2 hs2 hy I => ?_
          · intro cenv2
            rw [List.getElem?_map] at hV
            obtain ⟨a, ha, rfl⟩ := Option.map_eq_some_iff.mp hV
            have hil := (List.getElem?_eq_some_iff.mp ha).1
            have ht : terms[i]? = some terms[i] := List.getElem?_eq_getElem (by first | decide | exact lle ‹_› rfl | exact llt ‹_› rfl | exact lll ‹_› rfl | exact llm ‹_› rfl | omega)
            obtain ⟨kvs, T, hbr⟩ := hF' i a _ ha ht
            replace T := T.mono hs2
            have hxv : x ∈ whole.vars := (mem_marks 3 whole hW.pv).mp hx
            have hlk := hW.look _ (List.mem_of_getElem? ht) x hxv
            obtain ⟨val, u, hval, hu, hvu⟩ : ∃ v t, valueAt kvs x = some v ∧ (fits whole terms[i] []).2.lookup x = some t ∧ Rd g2 v t.d := by
              rcases (hbr.mono hs2).look (x := x) with ⟨_, h2⟩ | h2
              · have hlk : ((fits whole terms[i] []).2.lookup x).isSome = true := hlk
                rw [h2] at hlk; cases hlk
              · exact h2
            refine wpAny_assign_Name ?_
            refine st_local (i := 0) I rfl rfl rfl ?_
            clear I; intro s I
            refine Subscript_ ?_
            refine n_local (i := 0) I rfl rfl rfl rfl rfl ?_
            first | refine n_free (i := 2) I rfl rfl rfl rfl rfl ?_ | refine n_cell (i := 2) I rfl rfl rfl rfl rfl ?_
            refine dd_item (v := val) I (T.at I) (strKind_is _ _ _ _) hval ?_
            clear I; intro s I
            refine ⟨g2, _, fun zz => none, Sub.refl g2, I, ?_⟩
            have e : ((terms.map fun t => ofB (fits whole t []).2 x).map Tm.d).getD i .none = u.d := by
              rw [List.getD_eq_getElem?_getD, List.map_map, List.getElem?_map, ht]
              show (ofB (fits whole terms[i] []).2 x).d = u.d
              unfold ofB
              rw [hu]; rfl
            rw [e]
            exact hvu
          · refine args_nil ?_
            refine b_tuple_lst I hy (by rw [List.length_map, List.length_range, List.length_map]; omega) ?_
            clear I; intro g s v hs3 I hx2
            refine ⟨g, _, fun zz => some (.str x tx), hs2.trans hs3, I, ?_⟩
            have e : (List.range (as.map Value.ref).length).map (fun i => ((terms.map fun t => ofB (fits whole t []).2 x).map Tm.d).getD i .none) = (terms.map fun t => ofB (fits whole t []).2 x).map Tm.d := by
              refine List.ext_getElem (by simp [hal2]) fun i hi hi' => ?_
              rw [List.getElem_map, List.getElem_range, List.getD_eq_getElem?_getD, List.getElem?_eq_getElem hi']
              rfl
            rw [e] at hx2
            exact hx2
        · clear hF hL2 hlt htr
          replace hs := hs.trans hs'
          replace hb := Sub.trans hb hs; replace V := Rs.mono V hs; clear hs
          replace V := Rs.cons hx V
          clear hx X
          (try with_reducible refine opq (by assumption) ?_); refine execs_cons' ?_; intro Qk hQ
          (with_reducible refine wpAny_If ?_); (with_reducible refine isTrue_or ?_); refine wpAny_isTrue_Compare1 ?_; refine n_local (i := 0) I rfl rfl rfl (by first | exact hM | rfl) rfl ?_; refine x_comp I rfl rfl (by decide) (fun zz => rfl) ?_; refine x_ty W hb I (by decide) (by boot_by_name) rfl rfl rfl rfl (by decide) rfl rfl rfl ?_; refine args_cons ?_; refine x_bi W hb I (by decide) (by boot_by_name) rfl rfl rfl rfl (by decide) rfl rfl rfl ?_; refine args_cons ?_; refine n_local (i := 0) I rfl rfl rfl (by first | exact hM | rfl) rfl ?_; (with_reducible refine args_nil ?_); refine b_len_lst I (Rs.h1 V) (by first | exact kdl ‹_› | exact kdm ‹_› | exact Nat.le_of_ble_eq_true rfl | exact mdl ‹_› rfl | exact mdm ‹_› rfl | (simp only [List.length_cons, List.length_nil, List.length_map, List.length_append, List.length_take, List.length_drop]; omega)) ?_; clear I; intro s t I; (with_reducible refine args_nil ?_)
          rw [List.length_map]
          refine it_range1 R.hd I (by first | decide | exact lle ‹_› rfl | exact llt ‹_› rfl | exact lll ‹_› rfl | exact llm ‹_› rfl | omega) ?_
          clear I; intro it s X
          refine CompK.map (List.range (marks whole).length) (fun i => .int ((0 + i : Nat) : Int)) (fun i => PyData.str (vname i)) (X _) (by simp [intsFrom]) (by simp [intsFrom]; omega) (fun C i v g' s' m cm rest hi hs hv I => ?_) fun g hs y g s hs' hx I => ?_
          · intro cenv
            have hil := List.mem_range.mp hi
            have HB := Sub.refl g'
            obtain ⟨ti, rfl⟩ := Rd.int_inv hv
            clear hv X
            replace hb := Sub.trans hb hs; replace V := Rs.mono V hs; clear hs
            rw [Nat.zero_add]
            (with_reducible refine wpAny_assign_Name ?_); refine st_local (i := 0) I rfl rfl rfl ?_; clear I; intro s I; (with_reducible refine wpAny_BinOp ?_); (with_reducible refine c_str I ?_; clear I; intro s t I); refine x_ty W hb I (by decide) (by boot_by_name) rfl rfl rfl rfl (by decide) rfl rfl rfl ?_; refine args_cons ?_; refine n_local (i := 0) I rfl rfl rfl (by first | exact hM | rfl) rfl ?_; (with_reducible refine args_nil ?_)
            refine s_name I (by first | decide | exact lle ‹_› rfl | exact llt ‹_› rfl | exact lll ‹_› rfl | exact llm ‹_› rfl | omega) ?_
            clear I; intro s ts I
            skip
            have hl1 : (Str.ofString "?").length = 1 := by decide
            have hl2 : (Str.ofString (toString i)).length ≤ i + 2 := ofString_len_nat i
            refine o_add_str I (by first | decide | exact lle ‹_› rfl | exact llt ‹_› rfl | exact lll ‹_› rfl | exact llm ‹_› rfl | omega) ?_
            clear I; intro s ts2 I
            exact ⟨g', _, fun zz => none, HB, I, .str⟩
          · replace hs := hs.trans hs'
            clear X
            replace hb := Sub.trans hb hs; replace V := Rs.mono V hs; clear hs
            have hlay1 : PyData.canLayAll0 ((marks whole).map PyData.str) = true := canLayAll_mem fun z hz => by
              obtain ⟨q, hq, rfl⟩ := List.mem_map.mp hz
              exact marks_ok whole hwok q hq
            have hlay2 : PyData.canLayAll0 ((List.range (marks whole).length).map fun i => PyData.str (vname i)) = true := canLayAll_mem fun z hz => by
              obtain ⟨q, hq, rfl⟩ := List.mem_map.mp hz
              exact (vname_ok q (by have := List.mem_range.mp hq; omega)).2.1
            refine k_ne I (Rs.h1 V) hx hlay1 hlay2 (Nat.le_trans (Nat.succ_le_succ (depthAll_mem (n := 1) fun z hz => by
              obtain ⟨q, hq, rfl⟩ := List.mem_map.mp hz
              exact Nat.zero_le _)) (by decide)) R ?_
            have e : PyData.eqv (.list ((marks whole).map .str)) (.list ((List.range (marks whole).length).map fun i => PyData.str (vname i))) = true := by
              show PyData.eqvAll ((marks whole).map .str) ((List.range (marks whole).length).map fun i => PyData.str (vname i)) = true
              have e2 : (List.range (marks whole).length).map (fun i => PyData.str (vname i)) = ((List.range (marks whole).length).map vname).map .str := by rw [List.map_map]; rfl
              rw [e2, ← hmk, Tm.eqvAll_str]
              simp
            rw [e]
            clear hx
            (with_reducible refine wpAny_truthy_bool ?_)
            refine ite_f (by decide) ?_
            (with_reducible refine isTrue_or ?_); refine wpAny_isTrue_Compare1 ?_; refine x_bi W hb I (by decide) (by boot_by_name) rfl rfl rfl rfl (by decide) rfl rfl rfl ?_; refine args_cons ?_; refine x_ty W hb I (by decide) (by boot_by_name) rfl rfl rfl rfl (by decide) rfl rfl rfl ?_; refine args_cons ?_; refine n_local (i := 0) I rfl rfl rfl (by first | exact hM | rfl) rfl ?_; (with_reducible refine args_nil ?_)
            have hcs : (marks whole).map (fun m => PyData.tuple ((terms.map fun t => ofB (fits whole t []).2 m).map Tm.d)) = ((marks whole).map fun m => terms.map fun t => ofB (fits whole t []).2 m).map fun c => .tuple (c.map Tm.d) := by rw [List.map_map]; rfl
            refine b_set_cols R I (by rw [← hcs]; exact Rs.h0 V) (by rw [List.length_map]; exact hmf) hW.cols (fun c hc => ?_) ?_
            · obtain ⟨m, hm, rfl⟩ := List.mem_map.mp hc
              refine ⟨by simpa using h0, fun t ht => ?_⟩
              obtain ⟨u, hu, rfl⟩ := List.mem_map.mp ht
              exact hW.colOk u hu m hm
            clear I; intro S s hS I
            refine args_nil ?_
            refine b_len_cols I (i := 0) rfl (by rw [List.length_map]; exact hmf) ?_
            clear I; intro s tl I
            replace I := I.sub (List.sublist_cons_self _ _)
            refine x_bi W hb I (by decide) (by boot_by_name) rfl rfl rfl rfl (by decide) rfl rfl rfl ?_; refine args_cons ?_; refine n_local (i := 0) I rfl rfl rfl (by first | exact hM | rfl) rfl ?_; (with_reducible refine args_nil ?_); refine b_len_lst I (Rs.h0 V) (by first | exact kdl ‹_› | exact kdm ‹_› | exact Nat.le_of_ble_eq_true rfl | exact mdl ‹_› rfl | exact mdm ‹_› rfl | (simp only [List.length_cons, List.length_nil, List.length_map, List.length_append, List.length_take, List.length_drop]; omega)) ?_; clear I; intro s t I; (with_reducible refine PyProof.Rows.ne_int ?_); (with_reducible refine wpAny_truthy_bool ?_)
            rw [List.length_map, List.length_map]
            refine ite_f (by simp) ?_
            (with_reducible refine isTrue_or ?_); refine wpAny_isTrue_Compare1 ?_; (with_reducible refine c_bool ?_); refine n_local (i := 0) I rfl rfl rfl (by first | exact hM | rfl) rfl ?_
            refine k_in I .bool (Rs.h2 V) rfl (canLayAll_mem fun z hz => by rw [List.eq_of_mem_replicate hz]; rfl) (by decide) R ?_
            have e2 : ((List.replicate terms.length (PyData.bool true)).any fun y => PyData.eqv y (.bool false)) = false := by
              rw [List.any_eq_false]
              intro z hz
              rw [List.eq_of_mem_replicate hz]
              decide
            rw [e2]
            (with_reducible refine wpAny_truthy_bool ?_)
            refine ite_f (by decide) ?_
            obtain ⟨M, hM, I⟩ : ∃ M, M (Str.ofString "terms") = some (Value.ref lt) ∧ In g0 [] s0 g (lsF L acc vw M c3) s := ⟨_, hM, I⟩
            replace V : Rs g [(vw, whole.d), (Value.ref lt, PyData.list (List.map Tm.d terms))] := ⟨Rs.h3 V, Rs.h4 V, trivial⟩
            clear e e2 hlay1 hlay2 hcs hmk hmf
            (with_reducible refine isTrue_or_nil ?_)
            refine ite_f (by decide) ?_
            (with_reducible refine wpAny_execs_nil ?_); (with_reducible refine opq (by assumption) ?_); (with_reducible refine execs_cons' ?_; intro Qk hQ); refine x_for I (fun zz => rfl) ?_; refine x_def W hb I rfl rfl rfl rfl rfl rfl ?_; refine args_cons ?_; (with_reducible refine c_int I ?_; clear I; intro s t I); (with_reducible refine args_nil ?_)
            refine ⟨hb.trans I.own.sub, ?_⟩
            refine (w_laid W hb R.dn (most := 4) (by first | decide | exact lle ‹_› rfl | exact llt ‹_› rfl | exact lll ‹_› rfl | exact llm ‹_› rfl | omega) (by first | decide | exact lle ‹_› rfl | exact llt ‹_› rfl | exact lll ‹_› rfl | exact llm ‹_› rfl | omega)).use I ?_
            clear I; intro g s r hs I hP
            obtain ⟨ts, hx, hl0, hl1, hpv⟩ := hP
            replace hb := Sub.trans hb hs; replace V := Rs.mono V hs; clear hs
            refine it_seq R.hd I (.inl hx) ?_
            clear I; intro it s X
            refine ForK.of ts Tm.d (fun i g' μ' => ∃ c, μ' = lsF L acc vw M c) (X _) rfl ⟨c3, rfl⟩ (fun i x v g' μ' s' rest hx hs hv hK I Qk hQ => ?_) (fun i g' g'' μ' hs hK => hK) (fun g' μ' s hs hK I => ?_)
            · obtain ⟨c, rfl⟩ := hK
              have hxm := List.mem_of_getElem? hx
              have hpx := hpv x hxm
              have hxok := hpx.ok
              have hxsz := size_le hxok
              have HB := Sub.refl g'
              clear X
              replace hb := Sub.trans hb hs; replace V := Rs.mono V hs; clear hs
              replace V := Rs.cons hv V
              refine wpAny_assign_Name ?_
              refine st_cell (i := 1) I rfl rfl rfl rfl ?_
              clear I; intro s I
              (try with_reducible refine opq (by assumption) ?_); refine execs_cons' ?_; intro Qk hQ
              (with_reducible refine wpAny_If ?_); (with_reducible refine isTrue_and ?_); refine wpAny_isTrue_Compare1 ?_; refine x_comp I rfl rfl (by decide) (fun zz => rfl) ?_; refine n_local (i := 0) I rfl rfl rfl (by assumption) rfl ?_; refine it_seq R.hd I (.inl (Rs.h2 V)) ?_; clear I; intro it s X
              refine CompK.opt terms Tm.d (fun t => if (fits x t []).1 = true then none else some t.d) (X _) rfl (by rw [List.length_map]; first | exact lle ‹_› rfl | exact llt ‹_› rfl | omega) (fun C t v g' s' m cm rest ht hs hv I => ?_) fun g hs y g s hs' hx I => ?_
              · intro cenv
                clear HB
                have HB := Sub.refl g'
                clear X
                replace hb := Sub.trans hb hs; replace V := Rs.mono V hs; clear hs
                replace V := Rs.cons hv V
                (with_reducible refine wpAny_assign_Name ?_); refine st_local (i := 0) I rfl rfl rfl ?_; clear I; intro s I; (with_reducible refine tests_one ?_); (with_reducible refine isTrue_not ?_); refine isTrue_plain ?_; refine x_def W hb I rfl rfl rfl rfl rfl rfl ?_; refine args_cons ?_; refine n_cell (i := 2) I rfl rfl rfl rfl rfl ?_; refine args_cons ?_; refine n_local (i := 0) I rfl rfl rfl (by rfl) rfl ?_; refine args_cons ?_
                refine dd_empty W.toBase hb I ?_
                clear I; intro bd s hbd _ I _
                replace I := I Str (PySem.strKind prog w)
                (with_reducible refine args_nil ?_)
                refine ⟨hb.trans I.own.sub, ?_⟩
                refine (w_fits W (N := 3) (by first | decide | exact lle ‹_› rfl | exact llt ‹_› rfl | exact lll ‹_› rfl | exact llm ‹_› rfl | omega) 4 (by first | decide | exact lle ‹_› rfl | exact llt ‹_› rfl | exact lll ‹_› rfl | exact llm ‹_› rfl | omega) hxok (hgok t ht) hb R.dn (Rs.h1 V) (Rs.h0 V) BRd.nil (by simp; omega) (fun zz h => nomatch h)).use (i := 0) I rfl ?_
                clear I; intro g s r P' hs I hP
                obtain ⟨kvs', rfl, _, rfl⟩ := hP
                replace hb := Sub.trans hb hs; replace V := Rs.mono V hs; replace HB := Sub.trans HB hs; clear hs
                replace I := I.sub (List.sublist_cons_self _ _)
                (with_reducible refine wpAny_truthy_bool ?_)
                cases hc : (fits x t []).1 with
                | true =>
                  refine ite_f (by decide) ?_
                  exact ⟨_, _, fun zz => none, HB, I, rfl⟩
                | false =>
                  refine ite_t (by decide) ?_
                  refine n_local (i := 0) I rfl rfl rfl (by rfl) rfl ?_
                  exact ⟨_, _, fun zz => none, _, HB, I, Rs.h0 V, rfl⟩
              · replace hs := hs.trans hs'
                clear X
                replace hb := Sub.trans hb hs; replace V := Rs.mono V hs; replace HB := Sub.trans HB hs; clear hs
                (with_reducible refine List_ ?_); (with_reducible refine args_nil ?_)
                refine d_list I .nil (by simp) ?_
                clear I; intro g s v2 hs I hx2
                replace hx := hx.mono hs
                replace hb := Sub.trans hb hs; replace V := Rs.mono V hs; replace HB := Sub.trans HB hs; clear hs
                have hsub : ∀ z ∈ terms.filterMap (fun t => if (fits x t []).1 = true then none else some t.d), ∃ t ∈ terms, z = t.d ∧ ¬ (fits x t []).1 = true := fun z hz => by
                  obtain ⟨t, ht, e⟩ := List.mem_filterMap.mp hz
                  by_cases hc : (fits x t []).1 = true
                  · rw [if_pos hc] at e; cases e
                  · rw [if_neg hc] at e
                    exact ⟨t, ht, (Option.some.inj e).symm, hc⟩
                refine k_eq I hx hx2 (canLayAll_mem fun z hz => by
                  obtain ⟨t, ht, rfl, _⟩ := hsub z hz
                  exact (hgok t ht).lay) rfl (Nat.le_trans (Nat.succ_le_succ (depthAll_mem (n := 3) fun z hz => by
                  obtain ⟨t, ht, rfl, _⟩ := hsub z hz
                  exact (hgok t ht).dep)) (by decide)) R ?_
                clear hx hx2
                by_cases hall : ∀ t ∈ terms, (fits x t []).1 = true
                · have e : terms.filterMap (fun t => if (fits x t []).1 = true then none else some t.d) = [] := by
                    rw [List.filterMap_eq_nil_iff]
                    intro t ht
                    rw [if_pos (hall t ht)]
                  rw [e]
                  (with_reducible refine wpAny_truthy_bool ?_)
                  refine ite_t (by decide) ?_
                  (with_reducible refine isTrue_and ?_); (with_reducible refine isTrue_not ?_); refine isTrue_plain ?_; refine x_def W hb I rfl rfl rfl rfl rfl rfl ?_; refine args_cons ?_; refine n_cell (i := 1) I rfl rfl rfl rfl rfl ?_; refine args_cons ?_; refine n_cell (i := 3) I rfl rfl rfl rfl rfl ?_; refine args_cons ?_
                  refine dd_empty W.toBase hb I ?_
                  clear I; intro bd s hbd _ I _
                  replace I := I Str (PySem.strKind prog w)
                  (with_reducible refine args_nil ?_)
                  refine ⟨hb.trans I.own.sub, ?_⟩
                  refine (w_fits W (N := 3) (by first | decide | exact lle ‹_› rfl | exact llt ‹_› rfl | exact lll ‹_› rfl | exact llm ‹_› rfl | omega) 4 (by first | decide | exact lle ‹_› rfl | exact llt ‹_› rfl | exact lll ‹_› rfl | exact llm ‹_› rfl | omega) hxok hwok hb R.dn (Rs.h0 V) (Rs.h1 V) BRd.nil (by simp; omega) (fun zz h => nomatch h)).use (i := 0) I rfl ?_
                  clear I; intro g s r P' hs I hP
                  obtain ⟨kvs', rfl, _, rfl⟩ := hP
                  replace hb := Sub.trans hb hs; replace V := Rs.mono V hs; replace HB := Sub.trans HB hs; clear hs
                  rw [hW.least 4 x hpx hall]
                  replace I := I.sub (List.sublist_cons_self _ _)
                  (with_reducible refine wpAny_truthy_bool ?_)
                  refine ite_f (by decide) ?_
                  refine ite_f (by decide) ?_
                  (with_reducible refine wpAny_execs_nil ?_); (with_reducible refine opq (by assumption) ?_); (with_reducible refine wpAny_execs_nil ?_); (with_reducible refine opq (by assumption) ?_)
                  exact ⟨_, lsF L acc vw M _, HB, I, _, rfl⟩
                · have e : PyData.eqv (.list (terms.filterMap (fun t => if (fits x t []).1 = true then none else some t.d))) (.list []) = false := by
                    cases hls : terms.filterMap (fun t => if (fits x t []).1 = true then none else some t.d) with
                    | nil =>
                      exfalso
                      apply hall
                      intro t ht
                      rw [List.filterMap_eq_nil_iff] at hls
                      have := hls t ht
                      by_cases hc : (fits x t []).1 = true
                      · exact hc
                      · rw [if_neg hc] at this; cases this
                    | cons a l => rfl
                  rw [e]
                  (with_reducible refine wpAny_truthy_bool ?_)
                  refine ite_f (by decide) ?_
                  refine ite_f (by decide) ?_
                  (with_reducible refine wpAny_execs_nil ?_); (with_reducible refine opq (by assumption) ?_); (with_reducible refine wpAny_execs_nil ?_); (with_reducible refine opq (by assumption) ?_)
                  exact ⟨_, lsF L acc vw M _, HB, I, _, rfl⟩
            · obtain ⟨c, rfl⟩ := hK
              (with_reducible refine opq (by assumption) ?_); (with_reducible refine execs_cons' ?_; intro Qk hQ); (with_reducible refine wpAny_Return_some ?_); (with_reducible refine c_bool ?_); (with_reducible refine opq (by assumption) ?_); (with_reducible refine opq (by assumption) ?_)
              exact ⟨_, _, I, rfl⟩
end

end Mine
end

section
open PySem PySem.W PyProof.Rows PySem.Calls
set_option tactic.hygienic false
set_option linter.all false
set_option maxRecDepth 100000
set_option maxHeartbeats 2000000
namespace Mine
section
variable {prog : Program} {w : World} {A : Around} {g h₀ : Heap} {mg mb : Str → Option Value} {F : Nat → Addr} {v : Value}

theorem w_placed (W : Wd h₀ mg mb F) {b : Bd} {kvs : List (Str × Value)} {dt : Addr} : ∀ (n : Nat) {A : Around} {g : Heap} {v : Value} {t : Tm}, Ok n t → Sub h₀ g → Room A (n + 5) → Rd g v t.d → FDict (strKind prog w) g dt kvs → BRd g kvs b → (∀ x ∈ t.vars, (bs b x).isSome = true) →
    Pure prog w A g (F 8) [v, .ref dt] (fun g' r => Rd g' r (t.subst (bs b)).d)
  | 0, _, _, _, _, h, _, _, _, _, _, _ => h.elim
  | n + 1, A, g, v, t, hok, hb, R, hv, T, L0, hbd => by
    have ih := @w_placed W b kvs dt n
    have hln := hok.ln
    have hkid : ∀ k ∈ t.kids, Ok n k := fun k hk => hok.kid hk
    obtain ⟨op, ks⟩ := t
    refine Pure.of W 8 (by decide) hb R [(Str.ofString "pattern", v), (Str.ofString "table", .ref dt)] (fun zz zz zz => rfl) (kindsX rfl) (by decide) rfl rfl rfl (fun s L code s₁ Qk hQ => ?_)
    intro env R I
    have V : Rs g [(v, .tuple (.str op :: ks.map Tm.d)), (v, (Tm.mk op ks).d)] := ⟨Tm.d_mk op ks ▸ hv, hv, trivial⟩
    clear hv
    change ks.length ≤ 2 at hln
    change ∀ k ∈ ks, Ok n k at hkid
    (try with_reducible refine opq (by assumption) ?_); refine execs_cons' ?_; intro Qk hQ
    (with_reducible refine wpAny_If ?_); (with_reducible refine isTrue_not ?_); refine isTrue_plain ?_; refine x_def W hb I rfl rfl rfl rfl rfl rfl ?_; refine args_cons ?_; refine n_local (i := 0) I rfl rfl rfl (by rfl) rfl ?_; (with_reducible refine args_nil ?_)
    refine ⟨hb.trans I.own.sub, ?_⟩
    refine (w_isvar W hb R.dn hok (Rs.h1 V)).use I ?_; clear I; intro g s r hs I hP
    subst hP
    replace hb := Sub.trans hb hs; replace V := Rs.mono V hs; replace L0 := L0.mono hs; replace T := FDict.mono T hs; clear hs
    (with_reducible refine wpAny_truthy_bool ?_)
    cases hvar : (Tm.mk op ks).isVar with
    | false =>
      refine ite_t (by decide) ?_
      (with_reducible refine execs_cons' ?_; intro Qk hQ); (with_reducible refine wpAny_Return_some ?_); (with_reducible refine wpAny_BinOp ?_); (with_reducible refine Tuple_ ?_); refine args_cons ?_; (with_reducible refine Subscript_ ?_); refine n_local (i := 0) I rfl rfl rfl (by rfl) rfl ?_; (with_reducible refine c_int I ?_; clear I; intro s t I); refine i_tup (k := 0) I (Rs.h0 V) rfl (by first | exact kdl ‹_› | exact kdm ‹_› | exact Nat.le_of_ble_eq_true rfl | exact mdl ‹_› rfl | exact mdm ‹_› rfl | (simp only [List.length_cons, List.length_nil, List.length_map, List.length_append, List.length_take, List.length_drop]; omega)) ?_; intro v hx; obtain ⟨t, rfl⟩ := Rd.str_inv hx; clear hx; (with_reducible refine args_nil ?_); refine d_tuple I (.cons Rd.str .nil) (by first | exact kdl ‹_› | exact kdm ‹_› | exact Nat.le_of_ble_eq_true rfl | exact mdl ‹_› rfl | exact mdm ‹_› rfl | (simp only [List.length_cons, List.length_nil, List.length_map, List.length_append, List.length_take, List.length_drop]; omega)) ?_; clear I; intro g s v hs I hx; replace hb := Sub.trans hb hs; replace V := Rs.mono V hs; replace L0 := L0.mono hs; replace T := FDict.mono T hs; clear hs; replace V := Rs.cons hx V; clear hx; refine x_ty W hb I (by decide) (by boot_by_name) rfl rfl rfl rfl (by decide) rfl rfl rfl ?_; refine args_cons ?_; refine x_comp I rfl rfl (by decide) (fun zz => rfl) ?_; (with_reducible refine s_cut ?_); refine n_local (i := 0) I rfl rfl rfl (by rfl) rfl ?_; refine wpAny_evalPart_some ?_; (with_reducible refine c_int I ?_; clear I; intro s t I); refine wpAny_evalPart_none ?_; refine cut_tup_from (a := 1) I (Rs.h1 V) (by first | exact kdl ‹_› | exact kdm ‹_› | exact Nat.le_of_ble_eq_true rfl | exact mdl ‹_› rfl | exact mdm ‹_› rfl | (simp only [List.length_cons, List.length_nil, List.length_map, List.length_append, List.length_take, List.length_drop]; omega)) ?_; clear I; intro g s v hs I hx; replace hb := Sub.trans hb hs; replace V := Rs.mono V hs; replace L0 := L0.mono hs; replace T := FDict.mono T hs; clear hs; replace V := Rs.cons hx V; clear hx; refine it_seq R.hd I (.inr (Rs.h0 V)) ?_; clear I; intro it s X
      have hcond : (ks.isEmpty && isV op) = false := hvar
      refine CompK.map ks Tm.d (fun k => (k.subst (bs b)).d) (X _) (by simp) (by simp; omega) (fun C x v g' s' m cm rest hx hs hv I => ?_) fun g hs y g s hs' hx I => ?_
      · intro cenv
        replace hb := Sub.trans hb hs; replace V := Rs.mono V hs; replace L0 := L0.mono hs; replace T := FDict.mono T hs; clear hs
        replace V := Rs.cons hv V
        (with_reducible refine wpAny_assign_Name ?_); refine st_local (i := 0) I rfl rfl rfl ?_; clear I; intro s I; refine x_def W hb I rfl rfl rfl rfl rfl rfl ?_; refine args_cons ?_; refine n_local (i := 0) I rfl rfl rfl (by rfl) rfl ?_; refine args_cons ?_; refine n_cell (i := 2) I rfl rfl rfl rfl rfl ?_; (with_reducible refine args_nil ?_)
        refine ⟨hb.trans I.own.sub, ?_⟩
        refine (ih (hkid x hx) hb R.dn (Rs.h0 V) T L0 (fun y hy => hbd y ?_)).use I ?_
        · rw [Tm.vars, hcond]; exact mem_varsL.mpr ⟨x, hx, hy⟩
        clear I; intro g s r hs I hP
        exact ⟨g, _, fun zz => none, hs, I, hP⟩
      · replace hs := Sub.trans hs hs'
        replace hb := Sub.trans hb hs; replace V := Rs.mono V hs; replace L0 := L0.mono hs; replace T := FDict.mono T hs; clear hs
        replace V := Rs.cons hx V; clear hx
        (with_reducible refine args_nil ?_); refine b_tuple_lst I (Rs.h0 V) (by first | exact kdl ‹_› | exact kdm ‹_› | exact Nat.le_of_ble_eq_true rfl | exact mdl ‹_› rfl | exact mdm ‹_› rfl | (simp only [List.length_cons, List.length_nil, List.length_map, List.length_append, List.length_take, List.length_drop]; omega)) ?_; clear I; intro g s v hs I hx; replace hb := Sub.trans hb hs; replace V := Rs.mono V hs; replace L0 := L0.mono hs; replace T := FDict.mono T hs; clear hs; replace V := Rs.cons hx V; clear hx; refine o_add_tup I (Rs.h3 V) (Rs.h0 V) (by first | exact kdl ‹_› | exact kdm ‹_› | exact Nat.le_of_ble_eq_true rfl | exact mdl ‹_› rfl | exact mdm ‹_› rfl | (simp only [List.length_cons, List.length_nil, List.length_map, List.length_append, List.length_take, List.length_drop]; omega)) ?_; clear I; intro g s v hs I hx; replace hb := Sub.trans hb hs; replace V := Rs.mono V hs; replace L0 := L0.mono hs; replace T := FDict.mono T hs; clear hs; replace V := Rs.cons hx V; clear hx; (with_reducible refine opq (by assumption) ?_); (with_reducible refine opq (by assumption) ?_); (with_reducible refine opq (by assumption) ?_)
        refine ⟨_, _, I, ?_⟩
        rw [subst_mk, hcond, if_neg (by decide), Tm.d_mk, List.map_map]
        exact Rs.h0 V
    | true =>
      refine ite_f (by decide) ?_
      have hcond : (ks.isEmpty && isV op) = true := hvar
      have hb1 : (bs b op).isSome = true := hbd op (by rw [Tm.vars, hcond]; exact List.mem_singleton.mpr rfl)
      (with_reducible refine wpAny_execs_nil ?_); (with_reducible refine opq (by assumption) ?_); (with_reducible refine execs_cons' ?_; intro Qk hQ); (with_reducible refine wpAny_If ?_); refine wpAny_isTrue_Compare1 ?_; (with_reducible refine Subscript_ ?_); refine n_local (i := 0) I rfl rfl rfl (by rfl) rfl ?_; (with_reducible refine c_int I ?_; clear I; intro s t I); refine i_tup (k := 0) I (Rs.h0 V) rfl (by first | exact kdl ‹_› | exact kdm ‹_› | exact Nat.le_of_ble_eq_true rfl | exact mdl ‹_› rfl | exact mdm ‹_› rfl | (simp only [List.length_cons, List.length_nil, List.length_map, List.length_append, List.length_take, List.length_drop]; omega)) ?_; intro v hx; obtain ⟨t, rfl⟩ := Rd.str_inv hx; clear hx; refine n_cell (i := 1) I rfl rfl rfl rfl rfl ?_; refine dd_notin I (T.at I) (strKind_is _ _ _ _) ?_; clear I; intro s I; (with_reducible refine wpAny_truthy_bool ?_)
      rcases L0.look (x := op) with ⟨h1, h2⟩ | ⟨u, tt, h1, h2, h3⟩
      · unfold bs at hb1; rw [h2] at hb1; cases hb1
      rw [h1]
      refine ite_f (by simp) ?_
      (with_reducible refine wpAny_execs_nil ?_); (with_reducible refine opq (by assumption) ?_); (with_reducible refine execs_cons' ?_; intro Qk hQ); (with_reducible refine wpAny_Return_some ?_); (with_reducible refine Subscript_ ?_); refine n_cell (i := 1) I rfl rfl rfl rfl rfl ?_; (with_reducible refine Subscript_ ?_); refine n_local (i := 0) I rfl rfl rfl (by rfl) rfl ?_; (with_reducible refine c_int I ?_; clear I; intro s t I); refine i_tup (k := 0) I (Rs.h0 V) rfl (by first | exact kdl ‹_› | exact kdm ‹_› | exact Nat.le_of_ble_eq_true rfl | exact mdl ‹_› rfl | exact mdm ‹_› rfl | (simp only [List.length_cons, List.length_nil, List.length_map, List.length_append, List.length_take, List.length_drop]; omega)) ?_; intro v hx; obtain ⟨t, rfl⟩ := Rd.str_inv hx; clear hx
      refine dd_item I (T.at I) (strKind_is _ _ _ _) h1 ?_
      clear I; intro s I
      (with_reducible refine opq (by assumption) ?_); (with_reducible refine opq (by assumption) ?_)
      refine ⟨_, _, I, ?_⟩
      rw [subst_mk, hcond, if_pos rfl, show bs b op = some tt from h2]
      exact h3
end

end Mine
end

section
open PySem PySem.W PyProof.Rows PySem.Calls
set_option tactic.hygienic false
set_option linter.all false
set_option maxRecDepth 100000
set_option maxHeartbeats 2000000
namespace Mine
section
variable {prog : Program} {w : World} {A : Around} {g h₀ : Heap} {mg mb : Str → Option Value} {F : Nat → Addr} {v : Value}

theorem renL_map (ρ : Str → Str) : ∀ ks : List Tm, Tm.renL ρ ks = ks.map (Tm.ren ρ)
  | [] => rfl
  | k :: r => by rw [Tm.renL, renL_map ρ r]; rfl
theorem ren_mk (ρ : Str → Str) (op : Str) (ks : List Tm) : (Tm.mk op ks).ren ρ = .mk (ρ op) (ks.map (Tm.ren ρ)) := by rw [Tm.ren, renL_map]

theorem w_ren (W : Wd h₀ mg mb F) {ρ : Str → Str} {kvs : List (Str × Value)} (hρ : ∀ x t, ∃ t', (valueAt kvs x).getD (.str x t) = .str (ρ x) t') {dt : Addr} : ∀ (n : Nat) {A : Around} {g : Heap} {v : Value} {t : Tm}, Ok n t → Sub h₀ g → Room A (n + 3) → Rd g v t.d → FDict (strKind prog w) g dt kvs →
    Pure prog w A g (F 13) [v, .ref dt] (fun g' r => Rd g' r (t.ren ρ).d)
  | 0, _, _, _, _, h, _, _, _, _ => h.elim
  | n + 1, A, g, v, t, hok, hb, R, hv, T => by
    have ih := @w_ren W ρ kvs hρ dt n
    have hln := hok.ln
    have hkid : ∀ k ∈ t.kids, Ok n k := fun k hk => hok.kid hk
    obtain ⟨op, ks⟩ := t
    refine Pure.of W 13 (by decide) hb R [(Str.ofString "t", v), (Str.ofString "table", .ref dt)] (fun zz zz zz => rfl) (kindsX rfl) (by decide) rfl rfl rfl (fun s L code s₁ Qk hQ => ?_)
    intro env R I
    rw [Tm.d_mk] at hv
    have V : Rs g [(v, _)] := ⟨hv, trivial⟩
    clear hv
    change ks.length ≤ 2 at hln
    change ∀ k ∈ ks, Ok n k at hkid
    (try with_reducible refine opq (by assumption) ?_); refine execs_cons' ?_; intro Qk hQ
    (with_reducible refine wpAny_Return_some ?_); (with_reducible refine wpAny_BinOp ?_); (with_reducible refine Tuple_ ?_); refine args_cons ?_; refine MethodCall_ ?_; refine n_cell (i := 1) I rfl rfl rfl rfl rfl ?_; refine dd_method PySem.F.slot_dict_get PySem.F.type_dict_get (T.at I) ?_; refine PyProof.Rows.callWith_method1 ?_; refine args_cons ?_; (with_reducible refine Subscript_ ?_); refine n_local (i := 0) I rfl rfl rfl (by rfl) rfl ?_; (with_reducible refine c_int I ?_; clear I; intro s t I); refine i_tup (k := 0) I (Rs.h0 V) rfl (by first | exact kdl ‹_› | exact kdm ‹_› | exact Nat.le_of_ble_eq_true rfl | exact mdl ‹_› rfl | exact mdm ‹_› rfl | (simp only [List.length_cons, List.length_nil, List.length_map, List.length_append, List.length_take, List.length_drop]; omega)) ?_; intro v hx; obtain ⟨t, rfl⟩ := Rd.str_inv hx; clear hx; refine args_cons ?_; (with_reducible refine Subscript_ ?_); refine n_local (i := 0) I rfl rfl rfl (by rfl) rfl ?_; (with_reducible refine c_int I ?_; clear I; intro s t I); refine i_tup (k := 0) I (Rs.h0 V) rfl (by first | exact kdl ‹_› | exact kdm ‹_› | exact Nat.le_of_ble_eq_true rfl | exact mdl ‹_› rfl | exact mdm ‹_› rfl | (simp only [List.length_cons, List.length_nil, List.length_map, List.length_append, List.length_take, List.length_drop]; omega)) ?_; intro v hx; obtain ⟨t, rfl⟩ := Rd.str_inv hx; clear hx; (with_reducible refine args_nil ?_)
    refine dd_get2 I (T.at I) (strKind_is _ _ _ _) ?_; clear I; intro s I
    obtain ⟨t', e⟩ := hρ op ‹Tok›
    rw [e]; clear e
    (with_reducible refine args_nil ?_); refine d_tuple I (.cons Rd.str .nil) (by first | exact kdl ‹_› | exact kdm ‹_› | exact Nat.le_of_ble_eq_true rfl | exact mdl ‹_› rfl | exact mdm ‹_› rfl | (simp only [List.length_cons, List.length_nil, List.length_map, List.length_append, List.length_take, List.length_drop]; omega)) ?_; clear I; intro g s v hs I hx; replace hb := Sub.trans hb hs; replace V := Rs.mono V hs; replace T := FDict.mono T hs; clear hs; replace V := Rs.cons hx V; clear hx; refine x_ty W hb I (by decide) (by boot_by_name) rfl rfl rfl rfl (by decide) rfl rfl rfl ?_; refine args_cons ?_; refine x_comp I rfl rfl (by decide) (fun zz => rfl) ?_; (with_reducible refine s_cut ?_); refine n_local (i := 0) I rfl rfl rfl (by rfl) rfl ?_; refine wpAny_evalPart_some ?_; (with_reducible refine c_int I ?_; clear I; intro s t I); refine wpAny_evalPart_none ?_; refine cut_tup_from (a := 1) I (Rs.h1 V) (by first | exact kdl ‹_› | exact kdm ‹_› | exact Nat.le_of_ble_eq_true rfl | exact mdl ‹_› rfl | exact mdm ‹_› rfl | (simp only [List.length_cons, List.length_nil, List.length_map, List.length_append, List.length_take, List.length_drop]; omega)) ?_; clear I; intro g s v hs I hx; replace hb := Sub.trans hb hs; replace V := Rs.mono V hs; replace T := FDict.mono T hs; clear hs; replace V := Rs.cons hx V; clear hx; refine it_seq R.hd I (.inr (Rs.h0 V)) ?_; clear I; intro it s X
    refine CompK.map ks Tm.d (fun k => (k.ren ρ).d) (X _) (by simp) (by simp; omega) (fun C x v g' s' m cm rest hx hs hv I => ?_) fun g hs y g s hs' hx I => ?_
    · intro cenv
      replace hb := Sub.trans hb hs; replace V := Rs.mono V hs; replace T := FDict.mono T hs; clear hs
      replace V := Rs.cons hv V
      (with_reducible refine wpAny_assign_Name ?_); refine st_local (i := 0) I rfl rfl rfl ?_; clear I; intro s I; refine x_def W hb I rfl rfl rfl rfl rfl rfl ?_; refine args_cons ?_; refine n_local (i := 0) I rfl rfl rfl (by rfl) rfl ?_; refine args_cons ?_; refine n_cell (i := 2) I rfl rfl rfl rfl rfl ?_; (with_reducible refine args_nil ?_)
      refine ⟨hb.trans I.own.sub, ?_⟩
      refine (ih (hkid x hx) hb R.dn (Rs.h0 V) T).use I ?_; clear I; intro g s r hs I hP
      exact ⟨g, _, fun zz => none, hs, I, hP⟩
    · replace hs := Sub.trans hs hs'
      replace hb := Sub.trans hb hs; replace V := Rs.mono V hs; replace T := FDict.mono T hs; clear hs
      replace V := Rs.cons hx V; clear hx
      (with_reducible refine args_nil ?_); refine b_tuple_lst I (Rs.h0 V) (by first | exact kdl ‹_› | exact kdm ‹_› | exact Nat.le_of_ble_eq_true rfl | exact mdl ‹_› rfl | exact mdm ‹_› rfl | (simp only [List.length_cons, List.length_nil, List.length_map, List.length_append, List.length_take, List.length_drop]; omega)) ?_; clear I; intro g s v hs I hx; replace hb := Sub.trans hb hs; replace V := Rs.mono V hs; replace T := FDict.mono T hs; clear hs; replace V := Rs.cons hx V; clear hx; refine o_add_tup I (Rs.h3 V) (Rs.h0 V) (by first | exact kdl ‹_› | exact kdm ‹_› | exact Nat.le_of_ble_eq_true rfl | exact mdl ‹_› rfl | exact mdm ‹_› rfl | (simp only [List.length_cons, List.length_nil, List.length_map, List.length_append, List.length_take, List.length_drop]; omega)) ?_; clear I; intro g s v hs I hx; replace hb := Sub.trans hb hs; replace V := Rs.mono V hs; replace T := FDict.mono T hs; clear hs; replace V := Rs.cons hx V; clear hx; (with_reducible refine opq (by assumption) ?_); (with_reducible refine opq (by assumption) ?_)
      refine ⟨_, _, I, ?_⟩
      rw [ren_mk, Tm.d_mk, List.map_map]
      exact Rs.h0 V
end

end Mine
end

section
open PySem PySem.W PyProof.Rows PySem.Calls
set_option tactic.hygienic false
set_option linter.all false
set_option maxRecDepth 100000
set_option maxHeartbeats 2000000
namespace Mine
theorem sizeL_sum : ∀ ks : List Tm, (Tm.sizeL ks : Int) = (ks.map fun k => (k.size : Int)).sum
  | [] => rfl
  | k :: r => by rw [Tm.sizeL, List.map_cons, List.sum_cons, ← sizeL_sum r]; omega
theorem size_sum (op : Str) (ks : List Tm) : ((Tm.mk op ks).size : Int) = 1 + (ks.map fun k => (k.size : Int)).sum := by
  rw [← sizeL_sum, Tm.size]; omega

section
variable {prog : Program} {w : World} {A : Around} {g h₀ : Heap} {mg mb : Str → Option Value} {F : Nat → Addr} {v : Value}

theorem w_size (W : Wd h₀ mg mb F) : ∀ (n : Nat) {A : Around} {g : Heap} {v : Value} {t : Tm}, Ok n t → Sub h₀ g → Room A (n + 3) → Rd g v t.d →
    Pure prog w A g (F 6) [v] (fun zz r => ∃ k, r = .int (t.size : Int) k)
  | 0, _, _, _, _, h, _, _, _ => h.elim
  | n + 1, A, g, v, t, hok, hb, R, hv => by
    have ih := @w_size W n
    have hln := hok.ln
    have hkid : ∀ k ∈ t.kids, Ok n k := fun k hk => hok.kid hk
    obtain ⟨op, ks⟩ := t
    refine Pure.of W 6 (by decide) hb R [(Str.ofString "t", v)] (fun zz zz zz => rfl) (kindsX rfl) (by decide) rfl rfl rfl (fun s L code s₁ Qk hQ => ?_)
    intro env R I
    rw [Tm.d_mk] at hv
    have V : Rs g [(v, _)] := ⟨hv, trivial⟩
    change ks.length ≤ 2 at hln
    change ∀ k ∈ ks, Ok n k at hkid
    (try with_reducible refine opq (by assumption) ?_); refine execs_cons' ?_; intro Qk hQ
    (with_reducible refine wpAny_Return_some ?_); (with_reducible refine wpAny_BinOp ?_); (with_reducible refine c_int I ?_; clear I; intro s t I); refine x_bi W hb I (by decide) (by boot_by_name) rfl rfl rfl rfl (by decide) rfl rfl rfl ?_; refine args_cons ?_; refine x_comp I rfl rfl (by decide) (fun zz => rfl) ?_; (with_reducible refine s_cut ?_); refine n_local (i := 0) I rfl rfl rfl (by rfl) rfl ?_; refine wpAny_evalPart_some ?_; (with_reducible refine c_int I ?_; clear I; intro s t I); refine wpAny_evalPart_none ?_; refine cut_tup_from (a := 1) I (Rs.h0 V) (by first | exact kdl ‹_› | exact kdm ‹_› | exact Nat.le_of_ble_eq_true rfl | exact mdl ‹_› rfl | exact mdm ‹_› rfl | (simp only [List.length_cons, List.length_nil, List.length_map, List.length_append, List.length_take, List.length_drop]; omega)) ?_; clear I; intro g s v hs I hx; replace hb := Sub.trans hb hs; replace V := Rs.mono V hs; clear hs; replace V := Rs.cons hx V; clear hx; refine it_seq R.hd I (.inr (Rs.h0 V)) ?_; clear I; intro it s X
    refine CompK.map ks Tm.d (fun k => .int k.size) (X _) (by simp) (by simp; omega) (fun C x v g' s' m cm rest hx hs hv I => ?_) fun g hs y g s hs' hx I => ?_
    · intro cenv
      replace hb := Sub.trans hb hs; replace V := Rs.mono V hs; clear hs
      replace V := Rs.cons hv V
      (with_reducible refine wpAny_assign_Name ?_); refine st_local (i := 0) I rfl rfl rfl ?_; clear I; intro s I; refine x_def W hb I rfl rfl rfl rfl rfl rfl ?_; refine args_cons ?_; refine n_local (i := 0) I rfl rfl rfl (by rfl) rfl ?_; (with_reducible refine args_nil ?_)
      refine ⟨hb.trans I.own.sub, ?_⟩
      refine (ih (hkid x hx) hb R.dn (Rs.h0 V)).use I ?_; clear I; intro g s r hs I hP
      obtain ⟨k, rfl⟩ := hP
      exact ⟨g, _, fun zz => none, hs, I, .int⟩
    · replace hs := Sub.trans hs hs'
      rw [show ks.map (fun k => PyData.int k.size) = (ks.map fun k => (k.size : Int)).map .int by simp] at hx
      replace hb := Sub.trans hb hs; replace V := Rs.mono V hs; clear hs
      replace V := Rs.cons hx V; clear hx
      (with_reducible refine args_nil ?_); refine sum_ints R.hd I (Rs.h0 V) ?_; clear I; intro s t I; (with_reducible refine o_add I ?_; clear I; intro s t I); (with_reducible refine opq (by assumption) ?_); (with_reducible refine opq (by assumption) ?_)
      exact ⟨_, _, I, t, by rw [size_sum]; rfl⟩
end

end Mine
end

section
open PySem PySem.W PyProof.Rows PySem.Calls
set_option tactic.hygienic false
set_option linter.all false
set_option maxRecDepth 100000
set_option maxHeartbeats 2000000
namespace Mine
section
variable {prog : Program} {w : World} {A : Around} {g h₀ : Heap} {mg mb : Str → Option Value} {F : Nat → Addr} {v : Value}

theorem map_range {α : Type} (f : Tm → α) (c : List Tm) : (List.range c.length).map (fun j => f (c.getD j tm0)) = c.map f := by
  refine List.ext_getElem (by simp) fun i hi hi' => ?_
  have hi : i < c.length := by simpa using hi
  rw [List.getElem_map, List.getElem_map, List.getElem_range, List.getD_eq_getElem?_getD, List.getElem?_eq_getElem hi]
  rfl

theorem w_within (W : Wd h₀ mg mb F) {g0 : Heap} (hb : Sub h₀ g0) (R : Room A 14) {whole : Tm} {terms : List Tm} {vw vt : Value} (hW : Whole whole terms) (h0 : terms ≠ []) (hlen : terms.length ≤ 4) (hg : ∀ t ∈ terms, Gr 3 t) (hvw : Rd g0 vw whole.d) (hvt : Rd g0 vt (.list (terms.map Tm.d))) :
    Pure prog w A g0 (F 26) [vw, vt] (fun zz r => r = .bool true) := by
  refine Pure.of W 26 (by decide) hb R [(Str.ofString "whole", vw), (Str.ofString "terms", vt)] (fun zz zz zz => rfl) (kindsX rfl) (by decide) rfl rfl rfl (fun s0 L code s₁ Qk hQ => ?_)
  intro env R I
  have V : Rs g0 [(vw, whole.d), (vt, .list (terms.map Tm.d))] := ⟨hvw, hvt, trivial⟩
  have hwok := hW.pv.ok
  have hwsz := size_le hwok
  have hgok : ∀ t ∈ terms, Ok 3 t := fun t ht => (hg t ht).ok
  (try with_reducible refine opq (by assumption) ?_); refine execs_cons' ?_; intro Qk hQ
  refine x_for I (fun zz => rfl) ?_; refine n_local (i := 0) I rfl rfl rfl (by rfl) rfl ?_; refine it_seq R.hd I (.inl (Rs.h1 V)) ?_; clear I; intro it s X
  refine ForK.of terms Tm.d (fun i g' μ' => ∃ m c, μ' = nsc L m c ∧ m (Str.ofString "whole") = some vw ∧ m (Str.ofString "terms") = some vt) (X _) rfl ⟨_, _, rfl, rfl, rfl⟩ (fun i t v g' μ' s' rest ht hs hv hK I Qk hQ => ?_) (fun i g' g'' μ' hs hK => hK) (fun g' μ' s hs hK I => ?_)
  · obtain ⟨m, c, rfl, H1, H2⟩ := hK
    have htm := List.mem_of_getElem? ht
    have hokt := hgok t htm
    have HB := Sub.refl g'
    clear X
    replace hb := Sub.trans hb hs; replace V := Rs.mono V hs; clear hs
    replace V := Rs.cons hv V
    refine wpAny_assign_Name ?_
    refine st_local (i := 0) I rfl rfl rfl ?_
    clear I; intro s I
    (try with_reducible refine opq (by assumption) ?_); refine execs_cons' ?_; intro Qk hQ
    refine wpAny_Assign_Name ?_
    refine dd_empty W.toBase hb I ?_
    clear I; intro bd s hbd _ I _
    replace I := I Str (PySem.strKind prog w)
    refine st_local (i := 1) I rfl rfl rfl ?_; clear I; intro s I; (with_reducible refine opq (by assumption) ?_); (with_reducible refine execs_cons' ?_; intro Qk hQ); (with_reducible refine wpAny_If ?_); (with_reducible refine isTrue_or ?_); (with_reducible refine isTrue_not ?_); refine isTrue_plain ?_; refine x_def W hb I rfl rfl rfl rfl rfl rfl ?_; refine args_cons ?_; refine n_local (i := 1) I rfl rfl rfl H1 rfl ?_; refine args_cons ?_; refine n_local (i := 1) I rfl rfl rfl (by rfl) rfl ?_; refine args_cons ?_; refine n_local (i := 1) I rfl rfl rfl (by rfl) rfl ?_; (with_reducible refine args_nil ?_)
    refine ⟨hb.trans I.own.sub, ?_⟩
    refine (w_fits W (N := 3) (by first | decide | exact lle ‹_› rfl | exact llt ‹_› rfl | exact lll ‹_› rfl | exact llm ‹_› rfl | omega) 3 (by first | decide | exact lle ‹_› rfl | exact llt ‹_› rfl | exact lll ‹_› rfl | exact llm ‹_› rfl | omega) hwok hokt hb R.dn (Rs.h1 V) (Rs.h0 V) BRd.nil (by simp; omega) (fun zz h => nomatch h)).use (i := 0) I rfl ?_
    clear I; intro g s r P' hs I hP
    obtain ⟨kvs', rfl, hbr, rfl⟩ := hP
    replace hb := Sub.trans hb hs; replace V := Rs.mono V hs; replace HB := Sub.trans HB hs; clear hs
    rw [hW.fit t htm]
    obtain ⟨g2, o, hs, hgo, hPo, I⟩ := In.freeze (a := bd) I hbd
    have T : FDict (PySem.strKind prog w) g2 bd kvs' := ⟨o, hgo, hPo⟩
    replace hbr := hbr.mono hs
    replace hb := Sub.trans hb hs; replace V := Rs.mono V hs; replace HB := Sub.trans HB hs; clear hs
    (with_reducible refine wpAny_truthy_bool ?_)
    refine ite_f (by decide) ?_
    (with_reducible refine isTrue_or ?_); refine wpAny_isTrue_Compare1 ?_; refine x_def W hb I rfl rfl rfl rfl rfl rfl ?_; refine args_cons ?_; refine n_local (i := 0) I rfl rfl rfl H1 rfl ?_; refine args_cons ?_; refine n_local (i := 0) I rfl rfl rfl (by rfl) rfl ?_; (with_reducible refine args_nil ?_)
    refine ⟨hb.trans I.own.sub, ?_⟩
    refine (w_placed W 3 hwok hb R.dn (Rs.h1 V) T hbr (hW.look t htm)).use I ?_; clear I; intro g s r hs I hx
    rw [hW.place t htm] at hx
    clear hbr
    replace hb := Sub.trans hb hs; replace V := Rs.mono V hs; replace T := FDict.mono T hs; replace HB := Sub.trans HB hs; clear hs
    refine n_local (i := 0) I rfl rfl rfl (by rfl) rfl ?_
    refine k_ne I hx (Rs.h0 V) hokt.lay hokt.lay (Nat.le_trans hokt.dep (by decide)) R ?_
    clear hx
    have ett : PyData.eqv t.d t.d = true := by rw [Tm.eqv_d]; simp
    rw [ett]
    (with_reducible refine wpAny_truthy_bool ?_)
    refine ite_f (by decide) ?_
    (with_reducible refine isTrue_or ?_); refine wpAny_isTrue_Compare1 ?_; refine x_def W hb I rfl rfl rfl rfl rfl rfl ?_; refine args_cons ?_; refine n_local (i := 0) I rfl rfl rfl H1 rfl ?_; (with_reducible refine args_nil ?_)
    refine ⟨hb.trans I.own.sub, ?_⟩
    refine (w_size W 3 hwok hb R.dn (Rs.h1 V)).use I ?_; clear I; intro g s r hs I hP
    obtain ⟨tk1, rfl⟩ := hP
    replace hb := Sub.trans hb hs; replace V := Rs.mono V hs; replace T := FDict.mono T hs; replace HB := Sub.trans HB hs; clear hs
    refine x_def W hb I rfl rfl rfl rfl rfl rfl ?_; refine args_cons ?_; refine n_local (i := 0) I rfl rfl rfl (by rfl) rfl ?_; (with_reducible refine args_nil ?_)
    refine ⟨hb.trans I.own.sub, ?_⟩
    refine (w_size W 3 hokt hb R.dn (Rs.h0 V)).use I ?_; clear I; intro g s r hs I hP
    obtain ⟨tk2, rfl⟩ := hP
    replace hb := Sub.trans hb hs; replace V := Rs.mono V hs; replace T := FDict.mono T hs; replace HB := Sub.trans HB hs; clear hs
    have hsz := hW.size t htm
    (with_reducible refine PyProof.Rows.gt_int ?_); (with_reducible refine wpAny_truthy_bool ?_)
    refine ite_f (by simp; omega) ?_
    (with_reducible refine isTrue_or_nil ?_)
    refine ite_f (by decide) ?_
    (with_reducible refine wpAny_execs_nil ?_); (with_reducible refine opq (by assumption) ?_); (with_reducible refine wpAny_execs_nil ?_); (with_reducible refine opq (by assumption) ?_)
    exact ⟨_, nsc L _ _, HB, I, _, _, rfl, H1, H2⟩
  · obtain ⟨m, c, rfl, H1, H2⟩ := hK
    clear X
    replace hb := Sub.trans hb hs; replace V := Rs.mono V hs; clear hs
    (with_reducible refine opq (by assumption) ?_); (with_reducible refine execs_cons' ?_; intro Qk hQ); refine x_for I (fun zz => rfl) ?_; refine x_def W hb I rfl rfl rfl rfl rfl rfl ?_; refine args_cons ?_; refine n_local (i := 0) I rfl rfl rfl H1 rfl ?_; (with_reducible refine args_nil ?_)
    refine ⟨hb.trans I.own.sub, ?_⟩
    refine (w_parts W 3 (by first | decide | exact lle ‹_› rfl | exact llt ‹_› rfl | exact lll ‹_› rfl | exact llm ‹_› rfl | omega) hwok hb R.dn (Rs.h0 V)).use I ?_; clear I; intro g s r hs I hx
    replace hb := Sub.trans hb hs; replace V := Rs.mono V hs; clear hs
    replace V := Rs.cons hx V; clear hx
    refine it_seq R.hd I (.inl (Rs.h0 V)) ?_; clear I; intro it s X
    refine ForK.of whole.parts partD (fun i g' μ' => ∃ m c, μ' = nsc L m c ∧ m (Str.ofString "whole") = some vw ∧ m (Str.ofString "terms") = some vt) (X _) rfl ⟨_, _, rfl, H1, H2⟩ (fun i q v g' μ' s' rest hq hs hv hK I Qk hQ => ?_) (fun i g' g'' μ' hs hK => hK) (fun g' μ' s hs hK I => ?_)
    · clear H1 H2
      obtain ⟨m, c, rfl, H1, H2⟩ := hK
      have hqm := List.mem_of_getElem? hq
      have HB := Sub.refl g'
      clear X
      replace hb := Sub.trans hb hs; replace V := Rs.mono V hs; clear hs
      replace V := Rs.cons hv V
      rw [partD, pathD, Tm.d_eta q.2] at V
      have hokq := ok_part whole 3 hwok q hqm
      have hln := hokq.ln
      have hop := hokq.op
      have hat := parts_at whole q hqm
      have hpl := parts_dep whole hwok q hqm
      obtain ⟨us, hus0, husl, husat, husg, husv⟩ := hW.part q hqm
      refine as_pair R.hd I (Rs.h0 V) rfl rfl rfl ?_; clear I; intro s x y I hx hy; replace V := Rs.cons hx V; clear hx; replace V := Rs.cons hy V; clear hy; (with_reducible refine wpAny_assign_Name ?_); refine st_cell (i := 1) I rfl rfl rfl rfl ?_; clear I; intro s I; (with_reducible refine wpAny_assign_Name ?_); refine st_local (i := 0) I rfl rfl rfl ?_; clear I; intro s I; (with_reducible refine execs_cons' ?_; intro Qk hQ); refine x_compA I rfl rfl rfl (by decide) (fun zz => rfl) rfl rfl ?_; refine n_local (i := 0) I rfl rfl rfl H2 rfl ?_; refine it_seq R.hd I (.inl (Rs.h5 V)) ?_; clear I; intro it s X
      refine CompK.map (List.range terms.length) (fun j => (terms.getD j tm0).d) (fun j => PyData.str (us.getD j tm0).op) (X _) (map_range Tm.d terms).symm (by rw [List.length_map]; first | exact lle ‹_› rfl | exact llt ‹_› rfl | omega) (fun C j v2 g' s' m2 cm rest2 hj hs hv I => ?_) fun g' hs => ⟨0, _, rfl, fun y2 g s hs' hx I => ?_⟩
      · intro cenv
        clear HB
        have HB := Sub.refl g'
        have hjl := List.mem_range.mp hj
        clear X
        replace hb := Sub.trans hb hs; replace V := Rs.mono V hs; clear hs
        replace V := Rs.cons hv V
        (with_reducible refine wpAny_assign_Name ?_); refine st_local (i := 0) I rfl rfl rfl ?_; clear I; intro s I; (with_reducible refine Subscript_ ?_); refine x_def W hb I rfl rfl rfl rfl rfl rfl ?_; refine args_cons ?_; refine n_local (i := 0) I rfl rfl rfl (by rfl) rfl ?_; refine args_cons ?_; refine n_cell (i := 2) I rfl rfl rfl rfl rfl ?_; (with_reducible refine args_nil ?_)
        refine ⟨hb.trans I.own.sub, ?_⟩
        refine (w_partAt W hb R.dn (hgok _ (getD_mem hjl)) (Rs.h0 V) (Rs.h2 V) (by first | decide | exact lle ‹_› rfl | exact llt ‹_› rfl | exact lll ‹_› rfl | exact llm ‹_› rfl | omega) (husat j hjl)).use I ?_; clear I; intro g s r hs I hx
        rw [Tm.d_eta] at hx
        obtain ⟨nu, hgu⟩ := husg (us.getD j tm0) (getD_mem (by first | decide | exact lle ‹_› rfl | exact llt ‹_› rfl | exact lll ‹_› rfl | exact llm ‹_› rfl | omega))
        have hlu := hgu.ok.ln
        replace hb := Sub.trans hb hs; replace V := Rs.mono V hs; replace HB := Sub.trans HB hs; clear hs
        replace V := Rs.cons hx V
        clear hx
        (with_reducible refine c_int I ?_; clear I; intro s t I); refine i_tup (k := 0) I (Rs.h0 V) rfl (by first | exact kdl ‹_› | exact kdm ‹_› | exact Nat.le_of_ble_eq_true rfl | exact mdl ‹_› rfl | exact mdm ‹_› rfl | (simp only [List.length_cons, List.length_nil, List.length_map, List.length_append, List.length_take, List.length_drop]; omega)) ?_; intro v hx; obtain ⟨t, rfl⟩ := Rd.str_inv hx; clear hx
        exact ⟨_, _, fun zz => none, HB, I, .str⟩
      · replace hs := hs.trans hs'
        have e : (List.range terms.length).map (fun j => PyData.str (us.getD j tm0).op) = (us.map Tm.op).map .str := by rw [← husl, map_range (fun u => PyData.str u.op), List.map_map]; rfl
        rw [e] at hx
        clear X
        replace hb := Sub.trans hb hs; replace V := Rs.mono V hs; replace HB := Sub.trans HB hs; clear hs
        replace V := Rs.cons hx V
        clear hx
        (try with_reducible refine opq (by assumption) ?_); refine execs_cons' ?_; intro Qk hQ
        (with_reducible refine wpAny_If ?_); refine wpAny_isTrue_Compare1 ?_; refine wpAny_Compare1 ?_; (with_reducible refine s_cut ?_); (with_reducible refine Subscript_ ?_); refine n_local (i := 0) I rfl rfl rfl (by rfl) rfl ?_; (with_reducible refine c_int I ?_; clear I; intro s t I); refine i_tup (k := 0) I (Rs.h1 V) rfl (by first | exact kdl ‹_› | exact kdm ‹_› | exact Nat.le_of_ble_eq_true rfl | exact mdl ‹_› rfl | exact mdm ‹_› rfl | (simp only [List.length_cons, List.length_nil, List.length_map, List.length_append, List.length_take, List.length_drop]; omega)) ?_; intro v hx; obtain ⟨t, rfl⟩ := Rd.str_inv hx; clear hx; refine wpAny_evalPart_none ?_; refine wpAny_evalPart_some ?_; (with_reducible refine c_int I ?_; clear I; intro s t I); (with_reducible refine Cut.str I ?_ ?_; (focus omega); clear I; intro s t I); (with_reducible refine c_str I ?_; clear I; intro s t I); (with_reducible refine PyProof.Rows.eq_str ?_); refine wpAny_Compare1 ?_; refine n_local (i := 0) I rfl rfl rfl (by rfl) rfl ?_; (with_reducible refine wpAny_BinOp ?_); (with_reducible refine s_cut ?_); refine n_local (i := 0) I rfl rfl rfl (by rfl) rfl ?_; refine wpAny_evalPart_none ?_; refine wpAny_evalPart_some ?_; (with_reducible refine c_int I ?_; clear I; intro s t I)
        have hul : ((us.map Tm.op).map PyData.str).length = us.length := by simp
        refine Cut.lstUpto (b := 1) I (Rs.h0 V) (by rw [hul]; omega) ?_
        clear I; intro g s v3 hs I hx2
        replace hb := Sub.trans hb hs; replace V := Rs.mono V hs; replace HB := Sub.trans HB hs; clear hs
        replace V := Rs.cons hx2 V
        clear hx2
        refine x_bi W hb I (by decide) (by boot_by_name) rfl rfl rfl rfl (by decide) rfl rfl rfl ?_; refine args_cons ?_; refine n_local (i := 0) I rfl rfl rfl (by rfl) rfl ?_; (with_reducible refine args_nil ?_); refine b_len_lst I (Rs.h1 V) (by first | decide | exact lle ‹_› rfl | exact llt ‹_› rfl | exact lll ‹_› rfl | exact llm ‹_› rfl | omega) ?_; clear I; intro s t I
        rw [hul]
        refine o_mul_lst (k := us.length) I (Rs.h0 V) (by first | decide | exact lle ‹_› rfl | exact llt ‹_› rfl | exact lll ‹_› rfl | exact llm ‹_› rfl | omega) (by rw [List.length_take]; omega) ?_
        clear I; intro g s v4 hs I hx2
        replace hb := Sub.trans hb hs; replace V := Rs.mono V hs; replace HB := Sub.trans HB hs; clear hs
        have hrep : (List.replicate us.length (((us.map Tm.op).map PyData.str).take 1)).flatten = (List.replicate us.length (hdT us).op).map .str := by
          cases us with
          | nil => exact absurd rfl hus0
          | cons a r =>
            show (List.replicate _ [PyData.str a.op]).flatten = _
            rw [List.flatten_replicate_singleton, List.map_replicate]
            rfl
        rw [hrep] at hx2
        have hstr : ∀ l : List Str, (∀ z ∈ l, ∃ u ∈ us, z = u.op) → PyData.canLayAll0 (l.map PyData.str) = true := fun l hl => canLayAll_mem fun z hz => by
          obtain ⟨y, hy, rfl⟩ := List.mem_map.mp hz
          obtain ⟨u, hu, rfl⟩ := hl y hy
          obtain ⟨nu, hgu⟩ := husg u hu
          exact hgu.ok.ok
        refine k_eq I (Rs.h1 V) hx2 (hstr _ fun z hz => by
          obtain ⟨u, hu, e⟩ := List.mem_map.mp hz
          exact ⟨u, hu, e.symm⟩) (hstr _ fun z hz => ⟨hdT us, hdT_mem hus0, List.eq_of_mem_replicate hz⟩) (Nat.le_trans (Nat.succ_le_succ (depthAll_mem (n := 1) fun z hz => by
            obtain ⟨u, hu, rfl⟩ := List.mem_map.mp hz
            exact Nat.zero_le _)) (by decide)) R ?_
        clear hx2
        have hY : PyData.eqv (.list ((us.map Tm.op).map .str)) (.list ((List.replicate us.length (hdT us).op).map .str)) = !isV q.2.op := by
          show PyData.eqvAll ((us.map Tm.op).map .str) ((List.replicate us.length (hdT us).op).map .str) = _
          rw [Tm.eqvAll_str]
          have hP : us.map Tm.op = List.replicate us.length (hdT us).op ↔ ∀ a ∈ us, a.op = (hdT us).op := by
            rw [List.eq_replicate_iff]
            constructor
            · intro h a ha
              exact h.2 _ (List.mem_map_of_mem ha)
            · intro h
              refine ⟨by simp, fun b hb => ?_⟩
              obtain ⟨a, ha, rfl⟩ := List.mem_map.mp hb
              exact h a ha
          rw [Bool.eq_iff_iff, decide_eq_true_iff, hP, Bool.not_eq_true', ← Bool.not_eq_true, husv, Classical.not_not]
        rw [hY]
        refine PyProof.Rows.eq_bool ?_
        have hX : (Txt.slice q.2.op none (some 1) == Str.ofString "?") = isV q.2.op := rfl
        rw [hX]
        (with_reducible refine wpAny_truthy_bool ?_)
        refine ite_f (by cases isV q.2.op <;> decide) ?_
        (with_reducible refine wpAny_execs_nil ?_); (with_reducible refine opq (by assumption) ?_); (with_reducible refine execs_cons' ?_; intro Qk hQ); refine wpAny_Assign_Name ?_; refine x_def W hb I rfl rfl rfl rfl rfl rfl ?_; refine args_cons ?_; refine n_local (i := 0) I rfl rfl rfl H1 rfl ?_; refine args_cons ?_; refine n_cell (i := 1) I rfl rfl rfl rfl rfl ?_; refine args_cons ?_; (with_reducible refine Tuple_ ?_); refine args_cons ?_; (with_reducible refine c_str I ?_; clear I; intro s t I); (with_reducible refine args_nil ?_); refine d_tuple I (.cons Rd.str .nil) (by first | exact kdl ‹_› | exact kdm ‹_› | exact Nat.le_of_ble_eq_true rfl | exact mdl ‹_› rfl | exact mdm ‹_› rfl | (simp only [List.length_cons, List.length_nil, List.length_map, List.length_append, List.length_take, List.length_drop]; omega)) ?_; clear I; intro g s v hs I hx; replace hb := Sub.trans hb hs; replace V := Rs.mono V hs; replace HB := Sub.trans HB hs; clear hs; replace V := Rs.cons hx V; clear hx; (with_reducible refine args_nil ?_)
        refine ⟨hb.trans I.own.sub, ?_⟩
        refine (w_replaced W (u := zT) q.1 hwok hb R.dn (Rs.h7 V) (Rs.h4 V) (by first | decide | exact lle ‹_› rfl | exact llt ‹_› rfl | exact lll ‹_› rfl | exact llm ‹_› rfl | omega) (by rw [Tm.d_mk]; exact Rs.h0 V) hat).use I ?_; clear I; intro g s r2 hs I hx
        replace hb := Sub.trans hb hs; replace V := Rs.mono V hs; replace HB := Sub.trans HB hs; clear hs
        replace V : Rs g [(r2, (whole.put q.1 zT).d), (y, PyData.tuple (PyData.str q.2.op :: List.map Tm.d q.2.kids)), (vw, whole.d), (vt, PyData.list (List.map Tm.d terms))] := ⟨hx, Rs.h3 V, Rs.h7 V, Rs.h8 V, trivial⟩
        clear hx hrep hstr hY hX e
        refine st_local (i := 0) I rfl rfl rfl ?_; clear I; intro s I; (with_reducible refine opq (by assumption) ?_); (with_reducible refine execs_cons' ?_; intro Qk hQ); (with_reducible refine wpAny_If ?_); (with_reducible refine isTrue_and ?_); refine wpAny_isTrue_Compare1 ?_; (with_reducible refine s_cut ?_); (with_reducible refine Subscript_ ?_); refine n_local (i := 0) I rfl rfl rfl (by rfl) rfl ?_; (with_reducible refine c_int I ?_; clear I; intro s t I); refine i_tup (k := 0) I (Rs.h1 V) rfl (by first | exact kdl ‹_› | exact kdm ‹_› | exact Nat.le_of_ble_eq_true rfl | exact mdl ‹_› rfl | exact mdm ‹_› rfl | (simp only [List.length_cons, List.length_nil, List.length_map, List.length_append, List.length_take, List.length_drop]; omega)) ?_; intro v hx; obtain ⟨t, rfl⟩ := Rd.str_inv hx; clear hx; refine wpAny_evalPart_none ?_; refine wpAny_evalPart_some ?_; (with_reducible refine c_int I ?_; clear I; intro s t I); (with_reducible refine Cut.str I ?_ ?_; (focus omega); clear I; intro s t I); (with_reducible refine c_str I ?_; clear I; intro s t I); (with_reducible refine PyProof.Rows.ne_str ?_); (with_reducible refine wpAny_truthy_bool ?_)
        have hX : (Txt.slice q.2.op none (some 1) != Str.ofString "?") = !isV q.2.op := rfl
        rw [hX]
        cases hv : isV q.2.op with
        | true =>
          refine ite_f (by decide) ?_
          refine ite_f (by decide) ?_
          (with_reducible refine wpAny_execs_nil ?_); (with_reducible refine opq (by assumption) ?_); (with_reducible refine wpAny_execs_nil ?_); (with_reducible refine opq (by assumption) ?_)
          exact ⟨_, nsc L _ _, HB, I, _, _, rfl, H1, H2⟩
        | false =>
          obtain ⟨hp1, hp2, hp3⟩ := hW.put q hqm hv
          refine ite_t (by decide) ?_
          (with_reducible refine isTrue_and ?_); (with_reducible refine isTrue_or ?_); refine isTrue_plain ?_; refine x_def W hb I rfl rfl rfl rfl rfl rfl ?_; refine args_cons ?_; refine n_local (i := 0) I rfl rfl rfl (by rfl) rfl ?_; refine args_cons ?_; refine n_local (i := 0) I rfl rfl rfl H1 rfl ?_; (with_reducible refine args_nil ?_)
          refine ⟨hb.trans I.own.sub, ?_⟩
          refine (w_covered W hb R.dn (N := 3) (M := 3) (by first | decide | exact lle ‹_› rfl | exact llt ‹_› rfl | exact lll ‹_› rfl | exact llm ‹_› rfl | omega) (by first | decide | exact lle ‹_› rfl | exact llt ‹_› rfl | exact lll ‹_› rfl | exact llm ‹_› rfl | omega) hwok hp1.ok (Rs.h2 V) (Rs.h0 V)).use I ?_; clear I; intro g s r3 hs I hP
          subst hP
          replace hb := Sub.trans hb hs; replace V := Rs.mono V hs; replace HB := Sub.trans HB hs; clear hs
          rw [hp2]
          (with_reducible refine wpAny_truthy_bool ?_)
          refine ite_f (by decide) ?_
          (with_reducible refine isTrue_or ?_); (with_reducible refine isTrue_not ?_); refine isTrue_plain ?_; refine x_def W hb I rfl rfl rfl rfl rfl rfl ?_; refine args_cons ?_; refine n_local (i := 0) I rfl rfl rfl H1 rfl ?_; refine args_cons ?_; refine n_local (i := 0) I rfl rfl rfl (by rfl) rfl ?_; (with_reducible refine args_nil ?_)
          refine ⟨hb.trans I.own.sub, ?_⟩
          refine (w_covered W hb R.dn (N := 3) (M := 3) (by first | decide | exact lle ‹_› rfl | exact llt ‹_› rfl | exact lll ‹_› rfl | exact llm ‹_› rfl | omega) (by first | decide | exact lle ‹_› rfl | exact llt ‹_› rfl | exact lll ‹_› rfl | exact llm ‹_› rfl | omega) hp1.ok hwok (Rs.h0 V) (Rs.h2 V)).use I ?_; clear I; intro g s r3 hs I hP
          subst hP
          replace hb := Sub.trans hb hs; replace V := Rs.mono V hs; replace HB := Sub.trans HB hs; clear hs
          rw [hp3]
          (with_reducible refine wpAny_truthy_bool ?_)
          refine ite_f (by decide) ?_
          (with_reducible refine isTrue_or_nil ?_)
          refine ite_f (by decide) ?_
          refine ite_f (by decide) ?_
          (with_reducible refine wpAny_execs_nil ?_); (with_reducible refine opq (by assumption) ?_); (with_reducible refine wpAny_execs_nil ?_); (with_reducible refine opq (by assumption) ?_)
          exact ⟨_, nsc L _ _, HB, I, _, _, rfl, H1, H2⟩
    · clear H1 H2
      obtain ⟨m, c, rfl, H1, H2⟩ := hK
      clear X
      replace hb := Sub.trans hb hs; replace V := Rs.mono V hs; clear hs
      (with_reducible refine opq (by assumption) ?_); (with_reducible refine execs_cons' ?_; intro Qk hQ); (with_reducible refine wpAny_Return_some ?_); refine wpAny_Compare1 ?_; refine x_ty W hb I (by decide) (by boot_by_name) rfl rfl rfl rfl (by decide) rfl rfl rfl ?_; refine args_cons ?_; refine x_def W hb I rfl rfl rfl rfl rfl rfl ?_; refine args_cons ?_; refine n_local (i := 0) I rfl rfl rfl H1 rfl ?_; (with_reducible refine args_nil ?_)
      refine ⟨hb.trans I.own.sub, ?_⟩
      refine (w_variables W hb (n := 3) (by first | decide | exact lle ‹_› rfl | exact llt ‹_› rfl | exact lll ‹_› rfl | exact llm ‹_› rfl | omega) R.dn hwok (Rs.h1 V)).use I ?_; clear I; intro g s r1 hs I hP
      obtain ⟨ss, s1, s2, s3, hx⟩ := hP
      have hmk := hW.marks
      have hmf := hW.few
      have hmnd : (marks whole).Nodup := by
        rw [hmk]
        exact (show ∀ k ≤ 4, ((List.range k).map vname).Nodup by decide +kernel) _ hmf
      have hperm : ss.Perm (marks whole) := (List.perm_ext_iff_of_nodup s1 hmnd).mpr fun x => by rw [s2, mem_marks 3 whole hW.pv, mem_vars 3 whole hW.pv]
      have hsl := hperm.length_eq
      replace hb := Sub.trans hb hs; replace V := Rs.mono V hs; clear hs
      (with_reducible refine args_nil ?_)
      refine b_list_lst I hx (by rw [List.length_map]; first | exact lle ‹_› rfl | exact llt ‹_› rfl | omega) ?_
      clear I hx; intro g s r2 hs I hx
      replace hb := Sub.trans hb hs; replace V := Rs.mono V hs; clear hs
      replace V := Rs.cons hx V
      clear hx
      refine x_bi W hb I (by decide) (by boot_by_name) rfl rfl rfl rfl (by decide) rfl rfl rfl ?_; refine args_cons ?_; refine x_def W hb I rfl rfl rfl rfl rfl rfl ?_; refine args_cons ?_; refine n_local (i := 0) I rfl rfl rfl H1 rfl ?_; (with_reducible refine args_nil ?_)
      refine ⟨hb.trans I.own.sub, ?_⟩
      refine (w_marks W 3 (by first | decide | exact lle ‹_› rfl | exact llt ‹_› rfl | exact lll ‹_› rfl | exact llm ‹_› rfl | omega) hwok hb R.dn (Rs.h2 V)).use I ?_; clear I; intro g s r3 hs I hx
      replace hb := Sub.trans hb hs; replace V := Rs.mono V hs; clear hs
      (with_reducible refine args_nil ?_)
      refine b_sorted_strs I hx (by first | decide | exact lle ‹_› rfl | exact llt ‹_› rfl | exact lll ‹_› rfl | exact llm ‹_› rfl | omega) ?_
      clear I hx; intro g s r4 ss' hs p1 p2 I hx
      replace hb := Sub.trans hb hs; replace V := Rs.mono V hs; clear hs
      have hss : ss = ss' := sorted_one (hperm.trans p1.symm) s3 p2
      subst hss
      have hlay : PyData.canLayAll0 (ss.map PyData.str) = true := canLayAll_mem fun z hz => by
        obtain ⟨x, hx, rfl⟩ := List.mem_map.mp hz
        exact marks_ok whole hwok x (hperm.mem_iff.mp hx)
      refine k_eq I (Rs.h0 V) hx hlay hlay (Nat.le_trans (Nat.succ_le_succ (depthAll_mem (n := 1) fun z hz => by
        obtain ⟨u, hu, rfl⟩ := List.mem_map.mp hz
        exact Nat.zero_le _)) (by decide)) R ?_
      have e : PyData.eqv (.list (ss.map .str)) (.list (ss.map .str)) = true := by
        show PyData.eqvAll (ss.map .str) (ss.map .str) = true
        rw [Tm.eqvAll_str]; simp
      rw [e]
      (with_reducible refine opq (by assumption) ?_); (with_reducible refine opq (by assumption) ?_)
      exact ⟨_, _, I, rfl⟩
end

end Mine
end

section
open PySem PySem.W PyProof.Rows PySem.Calls
set_option tactic.hygienic false
set_option linter.all false
set_option maxRecDepth 100000
set_option maxHeartbeats 2000000
namespace Mine
section
variable {prog : Program} {w : World} {A : Around} {g h₀ : Heap} {mg mb : Str → Option Value} {F : Nat → Addr} {v : Value}

theorem eqvAll_self : ∀ {xs : List PyData}, (∀ x ∈ xs, PyData.eqv x x = true) → PyData.eqvAll xs xs = true
  | [], _ => rfl
  | x :: r, h => by
    show (PyData.eqv x x && PyData.eqvAll r r) = true
    rw [h x (.head _), eqvAll_self fun y hy => h y (.tail _ hy)]; rfl

noncomputable def lawF (prog : Program) (w : World) (L sd : Addr) (M : Str → Option Value) (kvs : List (Str × Value)) (c7 c6 c5 c4 c3 c2 c1 : Option Value) : List Res :=
  [(L, nsP M), (sd, dP (PySem.strKind prog w) sd kvs), (L + 1 + 1 + 1 + 1 + 1 + 1 + 1, cellP c7), (L + 1 + 1 + 1 + 1 + 1 + 1, cellP c6), (L + 1 + 1 + 1 + 1 + 1, cellP c5), (L + 1 + 1 + 1 + 1, cellP c4), (L + 1 + 1 + 1, cellP c3), (L + 1 + 1, cellP c2), (L + 1, cellP c1)]

theorem law_c (W : Wd h₀ mg mb F) {g0 : Heap} {s0 s : Shared} (hb : Sub h₀ g) (R : Room A 28) {L sd : Addr} {code : Value} {M : Str → Option Value} {kvs : List (Str × Value)} {c7 c6 c5 c4 c3 c2 : Option Value} {whole : Tm} {terms : List Tm} {vw vt : Value} {n : Nat}
    (I : In g0 [] s0 g (lawF prog w L sd M kvs c7 c6 c5 c4 c3 c2 (some (.ref sd))) s) (L0 : SRd g kvs n) (hn : n ≤ 100)
    (H1 : M (Str.ofString "whole") = some vw) (H2 : M (Str.ofString "terms") = some vt) (hvw : Rd g vw whole.d) (hvt : Rd g vt (.list (terms.map Tm.d))) (hw : Pv 4 whole) (h0 : terms ≠ []) (hlen : terms.length ≤ 4) (hg : ∀ t ∈ terms, Gr 3 t) :
    let env := newEnv (fd 27).scope L mainGlobals (cellsFrom (L + 1) (fd 27).scope.names []) ((fd 27).name ++ ".<locals>.") (some (F 27)) code none builtinsNs
    wpAny (model prog w) A (execs ((fd 27).body.drop 10) env) (fun fl s' => ∃ g' μ', In g0 [] s0 g' μ' s' ∧ retv fl = .bool true) (fun zz zz => False) s := by
  intro env
  have V : Rs g [(vw, whole.d), (vt, .list (terms.map Tm.d))] := ⟨hvw, hvt, trivial⟩
  (try with_reducible refine opq (by assumption) ?_); refine execs_cons' ?_; intro Qk hQ
  refine wpAny_Assign_Name ?_; refine x_def W hb I rfl rfl rfl rfl rfl rfl ?_; refine args_cons ?_; (with_reducible refine c_int I ?_; clear I; intro s t I); (with_reducible refine args_nil ?_)
  refine ⟨hb.trans I.own.sub, ?_⟩
  refine (w_laid W hb R.dn (most := 3) (by first | decide | exact lle ‹_› rfl | exact llt ‹_› rfl | exact lll ‹_› rfl | exact llm ‹_› rfl | omega) (by first | decide | exact lle ‹_› rfl | exact llt ‹_› rfl | exact lll ‹_› rfl | exact llm ‹_› rfl | omega)).use I ?_
  clear I; intro g s r hs I hP
  obtain ⟨ts, hx, hl0, hl1, hpv⟩ := hP
  replace hb := Sub.trans hb hs; replace V := Rs.mono V hs; replace L0 := L0.mono hs; clear hs
  replace V := Rs.cons hx V
  clear hx
  refine st_cell (i := 5) I rfl rfl rfl rfl ?_; clear I; intro s I; (with_reducible refine opq (by assumption) ?_); (with_reducible refine execs_cons' ?_; intro Qk hQ); refine wpAny_Assign_Name ?_; (with_reducible refine wpAny_BinOp ?_); (with_reducible refine wpAny_BinOp ?_); (with_reducible refine List_ ?_); refine args_cons ?_; refine n_local (i := 0) I rfl rfl rfl H1 rfl ?_; (with_reducible refine args_nil ?_)
  refine d_list I (.cons (Rs.h1 V) .nil) (by simp) ?_
  clear I; intro g s v1 hs I hx
  replace hb := Sub.trans hb hs; replace V := Rs.mono V hs; replace L0 := L0.mono hs; clear hs
  replace V := Rs.cons hx V
  clear hx
  (with_reducible refine s_cut ?_); refine n_local (i := 0) I rfl rfl rfl H2 rfl ?_; refine wpAny_evalPart_none ?_; refine wpAny_evalPart_some ?_; (with_reducible refine c_int I ?_; clear I; intro s t I)
  refine Cut.lstUpto (b := 1) I (Rs.h3 V) (by rw [List.length_map]; first | exact lle ‹_› rfl | exact llt ‹_› rfl | omega) ?_
  clear I; intro g s v2 hs I hx
  replace hb := Sub.trans hb hs; replace V := Rs.mono V hs; replace L0 := L0.mono hs; clear hs
  replace V := Rs.cons hx V
  clear hx
  refine o_add_lst I (Rs.h1 V) (Rs.h0 V) (by first | exact kdl ‹_› | exact kdm ‹_› | exact Nat.le_of_ble_eq_true rfl | exact mdl ‹_› rfl | exact mdm ‹_› rfl | (simp only [List.length_cons, List.length_nil, List.length_map, List.length_append, List.length_take, List.length_drop]; omega)) ?_; clear I; intro g s v hs I hx; replace hb := Sub.trans hb hs; replace V := Rs.mono V hs; replace L0 := L0.mono hs; clear hs; replace V := Rs.cons hx V; clear hx; refine x_comp I rfl rfl (by decide) (fun zz => rfl) ?_; refine x_ty W hb I (by decide) (by boot_by_name) rfl rfl rfl rfl (by decide) rfl rfl rfl ?_; refine args_cons ?_; (with_reducible refine c_int I ?_; clear I; intro s t I); (with_reducible refine args_nil ?_)
  replace V : Rs g [(_, PyData.list ([whole.d] ++ (terms.map Tm.d).take 1)), (r, .list (ts.map Tm.d))] := ⟨Rs.h0 V, Rs.h3 V, trivial⟩
  replace I : In g0 [] s0 g (lawF prog w L sd M kvs c7 c6 c5 (some r) c3 c2 (some (.ref sd))) s := I
  refine it_range1 (n := 3) R.hd I (by first | decide | exact lle ‹_› rfl | exact llt ‹_› rfl | exact lll ‹_› rfl | exact llm ‹_› rfl | omega) ?_
  clear I; intro it s X
  refine CompK.st (List.range 3) (fun i => .int ((0 + i : Nat) : Int)) (fun i ds g' μ' => ∃ (kvs' : List (Str × Value)) (n' : Nat) (us : List Tm), μ' = (lawF prog w L sd M kvs' c7 c6 c5 (some r) c3 c2 (some (.ref sd))) ∧ SRd g' kvs' n' ∧ n' ≤ n + i ∧ us.length = i ∧ (∀ t ∈ us, Pv 4 t) ∧ ds = us.map Tm.d)
    (X _) (by simp [intsFrom]) (by simp [intsFrom]) ⟨kvs, n, [], rfl, L0, by omega, rfl, (fun zz h => nomatch h), rfl⟩ (fun C i x v ds g' μ' s' m cm rest hx hs hv hK I => ?_) (fun i ds g' g'' μ' hs hK => ?_) (fun ds g' μ' hs hK y g'' s'' hs' hx I => ?_)
  · intro cenv
    clear X L0
    obtain ⟨kvs', n', us, rfl, L0, hn', hul, hup, rfl⟩ := hK
    have hxr := (List.getElem?_eq_some_iff.mp hx).1
    rw [List.length_range] at hxr
    have HB := Sub.refl g'
    obtain ⟨ti, rfl⟩ := Rd.int_inv hv
    clear hv hx
    replace hb := hb.trans hs
    replace V := Rs.mono V hs
    clear hs
    (with_reducible refine wpAny_assign_Name ?_); refine st_local (i := 0) I rfl rfl rfl ?_; clear I; intro s I; (with_reducible refine Subscript_ ?_); refine n_cell (i := 6) I rfl rfl rfl rfl rfl ?_; refine x_def W hb I rfl rfl rfl rfl rfl rfl ?_; refine args_cons ?_; refine n_cell (i := 9) I rfl rfl rfl rfl rfl ?_; refine args_cons ?_; refine x_bi W hb I (by decide) (by boot_by_name) rfl rfl rfl rfl (by decide) rfl rfl rfl ?_; refine args_cons ?_; refine n_cell (i := 6) I rfl rfl rfl rfl rfl ?_; (with_reducible refine args_nil ?_); refine b_len_lst I (Rs.h1 V) (by first | exact kdl ‹_› | exact kdm ‹_› | exact Nat.le_of_ble_eq_true rfl | exact mdl ‹_› rfl | exact mdm ‹_› rfl | (simp only [List.length_cons, List.length_nil, List.length_map, List.length_append, List.length_take, List.length_drop]; omega)) ?_; clear I; intro s t I; (with_reducible refine args_nil ?_)
    rw [List.length_map]
    refine ⟨hb.trans I.own.sub, ?_⟩
    refine (w_draw W hb (m := ts.length) R.dn (by first | decide | exact lle ‹_› rfl | exact llt ‹_› rfl | exact lll ‹_› rfl | exact llm ‹_› rfl | omega) (by first | decide | exact lle ‹_› rfl | exact llt ‹_› rfl | exact lll ‹_› rfl | exact llm ‹_› rfl | omega) L0).use (i := 2) I rfl ?_
    clear I; intro g s r2 P' hs I hP
    obtain ⟨kvs3, k, tk, rfl, L3, hk, rfl⟩ := hP
    clear L0
    replace hb := Sub.trans hb hs; replace V := Rs.mono V hs; replace HB := Sub.trans HB hs; clear hs
    skip
    refine i_lst (k := k) (d := ts[k].d) I (Rs.h1 V) (by simp [hk]) (by rw [List.length_map]; first | exact lle ‹_› rfl | exact llt ‹_› rfl | omega) ?_
    intro v4 hx
    refine ⟨g, (lawF prog w L sd _ _ _ _ _ _ _ _ _), _, fun zz => none, _, HB, I, hx, kvs3, _, us ++ [ts[k]], rfl, L3, by omega, by simp [hul], ?_, by simp⟩
    intro t ht
    rcases List.mem_append.mp ht with ht | ht
    · exact hup t ht
    · rw [List.mem_singleton.mp ht]; exact hpv _ (List.getElem_mem hk)
  · obtain ⟨kvs', n', us, rfl, h1, h2, h3, h4, rfl⟩ := hK
    exact ⟨kvs', n', us, rfl, h1.mono hs, h2, h3, h4, rfl⟩
  · clear L0
    obtain ⟨kvs', n', us, rfl, _, _, hul, hup, rfl⟩ := hK
    rw [List.length_range] at hul
    clear X
    replace hs := hs.trans hs'
    replace hb := Sub.trans hb hs; replace V := Rs.mono V hs; clear hs
    skip
    refine o_add_lst I (Rs.h0 V) hx (by rw [List.length_append, List.length_take, List.length_map, List.length_map]; simp; omega) ?_
    clear I; intro g s v5 hs I hx2
    replace hb := Sub.trans hb hs; replace V := Rs.mono V hs; clear hs
    have hsm : [whole.d] ++ (terms.map Tm.d).take 1 ++ us.map Tm.d = ([whole] ++ terms.take 1 ++ us).map Tm.d := by rw [List.map_append, List.map_append, List.map_take]; rfl
    rw [hsm] at hx2
    have hsp : ∀ t ∈ [whole] ++ terms.take 1 ++ us, Pv 4 t := by
      intro t ht
      rcases List.mem_append.mp ht with ht | ht
      · rcases List.mem_append.mp ht with ht | ht
        · rw [List.mem_singleton.mp ht]; exact hw
        · exact ((hg t (List.take_subset _ _ ht)).pv).mono (by first | decide | exact lle ‹_› rfl | exact llt ‹_› rfl | exact lll ‹_› rfl | exact llm ‹_› rfl | omega)
      · exact hup t ht
    have hsl : ([whole] ++ terms.take 1 ++ us).length ≤ 5 := by
      rw [List.length_append, List.length_append, List.length_take]
      simp; omega
    generalize [whole] ++ terms.take 1 ++ us = sms at hx2 hsp hsl
    replace V : Rs g [(v5, .list (sms.map Tm.d))] := ⟨hx2, trivial⟩
    clear hx2 hx hsm
    refine st_cell (i := 4) I rfl rfl rfl rfl ?_; clear I; intro s I; (with_reducible refine opq (by assumption) ?_); (with_reducible refine execs_cons' ?_; intro Qk hQ); refine wpAny_Assign_Name ?_; refine x_comp I rfl rfl (by decide) (fun zz => rfl) ?_; refine n_cell (i := 4) I rfl rfl rfl rfl rfl ?_; refine it_seq R.hd I (.inl (Rs.h0 V)) ?_; clear I; intro it s X
    replace X : ∀ target : Expr, It prog w A g0 [] s0 target it (sms.map Tm.d) g (lawF prog w L sd M kvs' c7 c6 (some v5) (some r) c3 c2 (some (.ref sd))) s := X
    have hok : ∀ t ∈ sms, Ok 4 t := fun t ht => (hsp t ht).ok
    refine CompK.map sms Tm.d (fun one => .list (sms.map fun other => .bool (covers other one))) (X _) rfl (by rw [List.length_map]; first | exact lle ‹_› rfl | exact llt ‹_› rfl | omega) (fun C t v g' s' m cm rest ht hs hv I => ?_) fun g hs yt g s hs' hx I => ?_
    · intro cenv
      have HB := Sub.refl g'
      clear X
      replace hb := Sub.trans hb hs; replace V := Rs.mono V hs; clear hs
      replace V := Rs.cons hv V
      refine wpAny_assign_Name ?_
      refine st_cell (i := 1) I rfl rfl rfl rfl ?_
      clear I; intro s I
      refine x_comp I rfl rfl (by decide) (fun zz => rfl) ?_; refine n_cell (i := 6) I rfl rfl rfl rfl rfl ?_; refine it_seq R.hd I (.inl (Rs.h1 V)) ?_; clear I; intro it s X
      refine CompK.map sms Tm.d (fun other => .bool (covers other t)) (X _) rfl (by rw [List.length_map]; first | exact lle ‹_› rfl | exact llt ‹_› rfl | omega) (fun C2 t2 v2 g' s' m2 cm2 rest2 ht2 hs hv2 I => ?_) fun g hs y g s hs' hx I => ?_
      · intro cenv2
        clear HB
        have HB := Sub.refl g'
        clear X
        replace hb := Sub.trans hb hs; replace V := Rs.mono V hs; clear hs
        replace V := Rs.cons hv2 V
        (with_reducible refine wpAny_assign_Name ?_); refine st_local (i := 0) I rfl rfl rfl ?_; clear I; intro s I; refine x_def W hb I rfl rfl rfl rfl rfl rfl ?_; refine args_cons ?_; refine n_cell (i := 2) I rfl rfl rfl rfl rfl ?_; refine args_cons ?_; refine n_local (i := 0) I rfl rfl rfl (by rfl) rfl ?_; (with_reducible refine args_nil ?_)
        refine ⟨hb.trans I.own.sub, ?_⟩
        refine (w_covered W hb R.dn (N := 4) (M := 4) (by first | decide | exact lle ‹_› rfl | exact llt ‹_› rfl | exact lll ‹_› rfl | exact llm ‹_› rfl | omega) (by first | decide | exact lle ‹_› rfl | exact llt ‹_› rfl | exact lll ‹_› rfl | exact llm ‹_› rfl | omega) (hok t2 ht2) (hok t ht) (Rs.h0 V) (Rs.h1 V)).use I ?_
        clear I; intro g s r hs I hr
        subst hr
        exact ⟨g, _, fun zz => none, HB.trans hs, I, .bool⟩
      · exact ⟨g, _, fun zz => some v, HB.trans (hs.trans hs'), I, hx⟩
    replace hs := hs.trans hs'
    clear X
    replace hb := Sub.trans hb hs; replace V := Rs.mono V hs; clear hs
    replace V := Rs.cons hx V
    clear hx
    refine st_cell (i := 3) I rfl rfl rfl rfl ?_; clear I; intro s I; (with_reducible refine opq (by assumption) ?_); (with_reducible refine execs_cons' ?_; intro Qk hQ); (with_reducible refine wpAny_If ?_); refine wpAny_isTrue_Compare1 ?_; refine n_cell (i := 3) I rfl rfl rfl rfl rfl ?_; refine x_comp I rfl rfl (by decide) (fun zz => rfl) ?_; refine n_cell (i := 4) I rfl rfl rfl rfl rfl ?_; refine it_seq R.hd I (.inl (Rs.h1 V)) ?_; clear I; intro it s X
    replace X : ∀ target : Expr, It prog w A g0 [] s0 target it (sms.map Tm.d) g (lawF prog w L sd M kvs' c7 (some yt) (some v5) (some r) c3 c2 (some (.ref sd))) s := X
    refine CompK.map sms Tm.d (fun one => .list (sms.map fun other => .bool (covers other one))) (X _) rfl (by rw [List.length_map]; first | exact lle ‹_› rfl | exact llt ‹_› rfl | omega) (fun C t v g' s' m cm rest ht hs hv I => ?_) fun g hs y2 g s hs' hx I => ?_
    · intro cenv
      have HB := Sub.refl g'
      clear X
      replace hb := Sub.trans hb hs; replace V := Rs.mono V hs; clear hs
      replace V := Rs.cons hv V
      refine wpAny_assign_Name ?_
      refine st_cell (i := 1) I rfl rfl rfl rfl ?_
      clear I; intro s I
      refine x_comp I rfl rfl (by decide) (fun zz => rfl) ?_; refine n_cell (i := 6) I rfl rfl rfl rfl rfl ?_; refine it_seq R.hd I (.inl (Rs.h2 V)) ?_; clear I; intro it s X
      refine CompK.map sms Tm.d (fun other => .bool (covers other t)) (X _) rfl (by rw [List.length_map]; first | exact lle ‹_› rfl | exact llt ‹_› rfl | omega) (fun C2 t2 v2 g' s' m2 cm2 rest2 ht2 hs hv2 I => ?_) fun g hs y g s hs' hx I => ?_
      · intro cenv2
        clear HB
        have HB := Sub.refl g'
        clear X
        replace hb := Sub.trans hb hs; replace V := Rs.mono V hs; clear hs
        replace V := Rs.cons hv2 V
        (with_reducible refine wpAny_assign_Name ?_); refine st_local (i := 0) I rfl rfl rfl ?_; clear I; intro s I; refine x_def W hb I rfl rfl rfl rfl rfl rfl ?_; refine args_cons ?_; refine n_local (i := 0) I rfl rfl rfl (by rfl) rfl ?_; refine args_cons ?_; refine n_cell (i := 2) I rfl rfl rfl rfl rfl ?_; refine args_cons ?_
        refine dd_empty W.toBase hb I ?_
        clear I; intro bd s hbd _ I _
        replace I := I Str (PySem.strKind prog w)
        (with_reducible refine args_nil ?_)
        refine ⟨hb.trans I.own.sub, ?_⟩
        have hsz := size_le (hok t2 ht2)
        refine (w_fits W (N := 4) (by first | decide | exact lle ‹_› rfl | exact llt ‹_› rfl | exact lll ‹_› rfl | exact llm ‹_› rfl | omega) 4 (by first | decide | exact lle ‹_› rfl | exact llt ‹_› rfl | exact lll ‹_› rfl | exact llm ‹_› rfl | omega) (hok t2 ht2) (hok t ht) hb R.dn (Rs.h0 V) (Rs.h1 V) BRd.nil (by simp; omega) (fun zz h => nomatch h)).use (i := 0) I rfl ?_
        clear I; intro g s r P' hs I hP
        obtain ⟨kvs2, rfl, _, rfl⟩ := hP
        replace I := I.sub (List.sublist_cons_self _ _)
        refine ⟨g, _, fun zz => none, HB.trans hs, I, ?_⟩
        rw [covers_fits (hsp t2 ht2)]
        exact .bool
      · exact ⟨g, _, fun zz => some v, HB.trans (hs.trans hs'), I, hx⟩
    replace hs := hs.trans hs'
    clear X
    replace hb := Sub.trans hb hs; replace V := Rs.mono V hs; clear hs
    have hlay : (PyData.list (sms.map fun one => .list (sms.map fun other => .bool (covers other one)))).canLay0 = true := canLayAll_mem fun z hz => by
      obtain ⟨a, _, rfl⟩ := List.mem_map.mp hz
      exact canLayAll_mem fun z hz => by
        obtain ⟨b, _, rfl⟩ := List.mem_map.mp hz
        rfl
    have hself : PyData.eqv (.list (sms.map fun one => .list (sms.map fun other => .bool (covers other one)))) (.list (sms.map fun one => .list (sms.map fun other => .bool (covers other one)))) = true := eqvAll_self fun z hz => by
      obtain ⟨a, _, rfl⟩ := List.mem_map.mp hz
      exact eqvAll_self fun z hz => by
        obtain ⟨b, _, rfl⟩ := List.mem_map.mp hz
        exact beq_self_eq_true _
    refine k_ne I (Rs.h0 V) hx hlay hlay (Nat.le_trans (Nat.succ_le_succ (depthAll_mem (n := 1) fun z hz => by
      obtain ⟨u, hu, rfl⟩ := List.mem_map.mp hz
      exact Nat.succ_le_succ (depthAll_mem (n := 0) fun z hz => by
        obtain ⟨u, hu, rfl⟩ := List.mem_map.mp hz
        exact Nat.le_refl _))) (by decide)) R ?_
    rw [hself]
    clear hx hlay hself
    (with_reducible refine wpAny_truthy_bool ?_)
    refine ite_f (by decide) ?_
    (with_reducible refine wpAny_execs_nil ?_); (with_reducible refine opq (by assumption) ?_); (with_reducible refine execs_cons' ?_; intro Qk hQ); refine x_for I (fun zz => rfl) ?_; refine x_ty W hb I (by decide) (by boot_by_name) rfl rfl rfl rfl (by decide) rfl rfl rfl ?_; refine args_cons ?_; refine n_cell (i := 3) I rfl rfl rfl rfl rfl ?_; (with_reducible refine args_nil ?_)
    refine it_enum R.hd I (.inl (Rs.h0 V)) ?_; clear I; intro it s X
    refine ForK.of sms.zipIdx (fun p => .tuple [.int p.2, .list (sms.map fun other => .bool (covers other p.1))]) (fun i g' μ' => ∃ m cj cr, μ' = (lawF prog w L sd m kvs' cj (some yt) (some v5) (some r) c3 cr (some (.ref sd))))
      (X _ _ _) (by simp [List.zipIdx_map]) ⟨_, _, _, rfl⟩ (fun i x v g' μ' s' rest hx hs hv hK I Qk hQ => ?_) (fun i g' g'' μ' hs hK => hK) (fun g' μ' s hs hK I => ?_)
    · obtain ⟨m, cj, cr, rfl⟩ := hK
      obtain ⟨one, ii⟩ := x
      obtain ⟨hone, rfl⟩ : sms[i]? = some one ∧ i = ii := by
        rw [List.getElem?_zipIdx] at hx
        obtain ⟨a, ha, e⟩ := Option.map_eq_some_iff.mp hx
        simp at e
        exact ⟨e.1 ▸ ha, e.2⟩
      have hil := (List.getElem?_eq_some_iff.mp hone).1
      have hom := List.mem_of_getElem? hone
      replace hb := hb.trans hs
      replace V := Rs.mono V hs
      clear hs X
      have HB := Sub.refl g'
      replace V := Rs.cons hv V
      clear hv
      refine as_pair R.hd I (Rs.h0 V) rfl rfl rfl ?_; clear I; intro s x y I hx hy; obtain ⟨t, rfl⟩ := Rd.int_inv hx; clear hx; replace V := Rs.cons hy V; clear hy; (with_reducible refine wpAny_assign_Name ?_); refine st_local (i := 0) I rfl rfl rfl ?_; clear I; intro s I; (with_reducible refine wpAny_assign_Name ?_); refine st_cell (i := 7) I rfl rfl rfl rfl ?_; clear I; intro s I; (with_reducible refine execs_cons' ?_; intro Qk hQ); refine x_for I (fun zz => rfl) ?_; refine x_ty W hb I (by decide) (by boot_by_name) rfl rfl rfl rfl (by decide) rfl rfl rfl ?_; refine args_cons ?_; refine x_bi W hb I (by decide) (by boot_by_name) rfl rfl rfl rfl (by decide) rfl rfl rfl ?_; refine args_cons ?_; refine n_cell (i := 4) I rfl rfl rfl rfl rfl ?_; (with_reducible refine args_nil ?_); refine b_len_lst I (Rs.h3 V) (by first | exact kdl ‹_› | exact kdm ‹_› | exact Nat.le_of_ble_eq_true rfl | exact mdl ‹_› rfl | exact mdm ‹_› rfl | (simp only [List.length_cons, List.length_nil, List.length_map, List.length_append, List.length_take, List.length_drop]; omega)) ?_; clear I; intro s t I; (with_reducible refine args_nil ?_)
      rw [List.length_map]
      refine it_range1 (n := sms.length) R.hd I (by first | decide | exact lle ‹_› rfl | exact llt ‹_› rfl | exact lll ‹_› rfl | exact llm ‹_› rfl | omega) ?_
      clear I; intro it s X
      replace V : Rs g' [(y, .list (sms.map fun other => .bool (covers other one))), (yt, .list (sms.map fun one => .list (sms.map fun other => .bool (covers other one)))), (v5, .list (sms.map Tm.d))] := ⟨Rs.h0 V, Rs.h2 V, Rs.h3 V, trivial⟩
      refine ForK.of (List.range sms.length) (fun j => .int ((0 + j : Nat) : Int)) (fun j g'' μ'' => ∃ m cj t, m (Str.ofString "i") = some (.int (i : Int) t) ∧ μ'' = (lawF prog w L sd m kvs' cj (some yt) (some v5) (some r) c3 (some y) (some (.ref sd))) ++ rest)
        (X _) (by simp [intsFrom]) ⟨_, _, _, rfl, rfl⟩ (fun j x v g' μ' s' rest2 hx hs hv hK I Qk hQ => ?_) (fun zz zz zz zz zz hK => ?_) (fun g' μ' s hs hK I => ?_)
      · obtain ⟨m2, cj2, t2, H3, rfl⟩ := hK
        obtain ⟨hjl, hxj⟩ := List.getElem?_eq_some_iff.mp hx
        rw [List.length_range] at hjl
        rw [List.getElem_range] at hxj
        subst hxj
        rw [Nat.zero_add] at hv
        obtain ⟨tj, rfl⟩ := Rd.int_inv hv
        clear X hv hx HB
        have HB := Sub.refl g'
        replace hb := hb.trans hs
        replace V := Rs.mono V hs
        clear hs
        have hjm : sms[j] ∈ sms := List.getElem_mem hjl
        (with_reducible refine wpAny_assign_Name ?_); refine st_cell (i := 2) I rfl rfl rfl rfl ?_; clear I; intro s I; (with_reducible refine execs_cons' ?_; intro Qk hQ); (with_reducible refine wpAny_If ?_); (with_reducible refine isTrue_or ?_); (with_reducible refine isTrue_not ?_); refine isTrue_plain ?_; (with_reducible refine Subscript_ ?_); refine n_cell (i := 7) I rfl rfl rfl rfl rfl ?_; refine n_local (i := 0) I rfl rfl rfl H3 rfl ?_
        refine i_lst (k := i) (d := .bool (covers one one)) I (Rs.h0 V) (by simp [hone]) (by rw [List.length_map]; first | exact lle ‹_› rfl | exact llt ‹_› rfl | omega) ?_
        intro vb hx
        obtain rfl := Rd.bool_inv hx
        rw [covers_refl (hsp one hom)]
        (with_reducible refine wpAny_truthy_bool ?_)
        refine ite_f (by decide) ?_
        (with_reducible refine isTrue_or ?_); (with_reducible refine isTrue_and ?_); refine isTrue_plain ?_; (with_reducible refine Subscript_ ?_); refine n_cell (i := 7) I rfl rfl rfl rfl rfl ?_; refine n_cell (i := 2) I rfl rfl rfl rfl rfl ?_
        refine i_lst (k := j) (d := .bool (covers sms[j] one)) I (Rs.h0 V) (by simp [hjl]) (by rw [List.length_map]; first | exact lle ‹_› rfl | exact llt ‹_› rfl | omega) ?_
        clear hx
        intro vb hx
        obtain rfl := Rd.bool_inv hx
        clear hx
        cases hc1 : covers sms[j] one
        · (with_reducible refine wpAny_truthy_bool ?_)
          refine ite_f (by decide) ?_
          skip
          refine ite_f (by decide) ?_
          (with_reducible refine isTrue_or_nil ?_)
          refine ite_f (by decide) ?_
          (with_reducible refine wpAny_execs_nil ?_); (with_reducible refine opq (by assumption) ?_); (with_reducible refine wpAny_execs_nil ?_); (with_reducible refine opq (by assumption) ?_)
          exact ⟨_, (lawF prog w L sd _ kvs' _ (some yt) (some v5) (some r) c3 _ (some (.ref sd))) ++ rest, HB, I, _, _, _, H3, rfl⟩
        · (with_reducible refine wpAny_truthy_bool ?_)
          refine ite_t rfl ?_
          (with_reducible refine isTrue_and ?_); refine wpAny_isTrue_Compare1 ?_; refine x_comp I rfl rfl (by decide) (fun zz => rfl) ?_; refine x_ty W hb I (by decide) (by boot_by_name) rfl rfl rfl rfl (by decide) rfl rfl rfl ?_; refine args_cons ?_; refine x_bi W hb I (by decide) (by boot_by_name) rfl rfl rfl rfl (by decide) rfl rfl rfl ?_; refine args_cons ?_; refine n_cell (i := 4) I rfl rfl rfl rfl rfl ?_; (with_reducible refine args_nil ?_); refine b_len_lst I (Rs.h2 V) (by first | exact kdl ‹_› | exact kdm ‹_› | exact Nat.le_of_ble_eq_true rfl | exact mdl ‹_› rfl | exact mdm ‹_› rfl | (simp only [List.length_cons, List.length_nil, List.length_map, List.length_append, List.length_take, List.length_drop]; omega)) ?_; clear I; intro s t I; (with_reducible refine args_nil ?_)
          rw [List.length_map]
          refine it_range1 (n := sms.length) R.hd I (by first | decide | exact lle ‹_› rfl | exact llt ‹_› rfl | exact lll ‹_› rfl | exact llm ‹_› rfl | omega) ?_
          clear I; intro it s X
          refine CompK.opt (List.range sms.length) (fun j => .int ((0 + j : Nat) : Int)) (fun zz => none) (X _) (by simp [intsFrom]) (by simp [intsFrom]; omega) (fun C k v g' s' m cm rest hk hs hv I => ?_) fun g hs y2 g s hs' hx I => ?_
          · intro cenv
            have hkl := List.mem_range.mp hk
            rw [Nat.zero_add] at hv
            obtain ⟨tk, rfl⟩ := Rd.int_inv hv
            clear X hv HB
            have HB := Sub.refl g'
            replace hb := hb.trans hs
            replace V := Rs.mono V hs
            clear hs
            (with_reducible refine wpAny_assign_Name ?_); refine st_local (i := 0) I rfl rfl rfl ?_; clear I; intro s I; (with_reducible refine tests_one ?_); (with_reducible refine isTrue_and ?_); refine isTrue_plain ?_; (with_reducible refine Subscript_ ?_); (with_reducible refine Subscript_ ?_); refine n_cell (i := 4) I rfl rfl rfl rfl rfl ?_; refine n_cell (i := 3) I rfl rfl rfl rfl rfl ?_
            refine i_lst (k := j) (d := .list (sms.map fun other => .bool (covers other sms[j]))) I (Rs.h1 V) (by simp [hjl]) (by rw [List.length_map]; first | exact lle ‹_› rfl | exact llt ‹_› rfl | omega) ?_
            intro vb hx
            refine n_local (i := 0) I rfl rfl rfl (by rfl) rfl ?_
            refine i_lst (k := k) (d := .bool (covers sms[k] sms[j])) I hx (by simp [hkl]) (by rw [List.length_map]; first | exact lle ‹_› rfl | exact llt ‹_› rfl | omega) ?_
            clear hx
            intro vb hx
            obtain rfl := Rd.bool_inv hx
            clear hx
            cases hc2 : covers sms[k] sms[j]
            · (with_reducible refine wpAny_truthy_bool ?_)
              refine ite_f (by decide) ?_
              refine ite_f (by decide) ?_
              exact ⟨_, _, fun zz => none, HB, I, rfl⟩
            · (with_reducible refine wpAny_truthy_bool ?_)
              refine ite_t rfl ?_
              (with_reducible refine isTrue_and ?_); (with_reducible refine isTrue_not ?_); refine isTrue_plain ?_; (with_reducible refine Subscript_ ?_); refine n_cell (i := 8) I rfl rfl rfl rfl rfl ?_; refine n_local (i := 0) I rfl rfl rfl (by rfl) rfl ?_
              refine i_lst (k := k) (d := .bool (covers sms[k] one)) I (Rs.h0 V) (by simp [hkl]) (by rw [List.length_map]; first | exact lle ‹_› rfl | exact llt ‹_› rfl | omega) ?_
              intro vb hx
              obtain rfl := Rd.bool_inv hx
              rw [covers_trans (hsp _ (List.getElem_mem hkl)) (hsp _ hjm) hc2 hc1]
              (with_reducible refine wpAny_truthy_bool ?_)
              refine ite_f (by decide) ?_
              refine ite_f (by decide) ?_
              exact ⟨_, _, fun zz => none, HB, I, rfl⟩
          · replace hs := hs.trans hs'
            rw [show (List.range sms.length).filterMap (fun zz => (none : Option PyData)) = [] from List.filterMap_eq_nil_iff.mpr fun zz zz => rfl] at hx
            clear X
            replace hb := Sub.trans hb hs; replace V := Rs.mono V hs; replace HB := Sub.trans HB hs; clear hs
            (with_reducible refine List_ ?_); (with_reducible refine args_nil ?_)
            refine d_list I .nil (by simp) ?_
            clear I; intro g s v hs I hx2
            replace hx := hx.mono hs
            replace hb := Sub.trans hb hs; replace V := Rs.mono V hs; replace HB := Sub.trans HB hs; clear hs
            refine k_ne I hx hx2 rfl rfl (by decide) R ?_
            clear hx hx2
            (with_reducible refine wpAny_truthy_bool ?_)
            refine ite_f (by decide) ?_
            skip
            refine ite_f (by decide) ?_
            (with_reducible refine isTrue_or_nil ?_)
            refine ite_f (by decide) ?_
            (with_reducible refine wpAny_execs_nil ?_); (with_reducible refine opq (by assumption) ?_); (with_reducible refine wpAny_execs_nil ?_); (with_reducible refine opq (by assumption) ?_)
            exact ⟨_, (lawF prog w L sd _ kvs' _ (some yt) (some v5) (some r) c3 _ (some (.ref sd))) ++ rest, HB, I, _, _, _, H3, rfl⟩
      · exact hK
      · obtain ⟨m2, cj2, t2, H3, rfl⟩ := hK
        (with_reducible refine opq (by assumption) ?_); (with_reducible refine wpAny_execs_nil ?_); (with_reducible refine opq (by assumption) ?_)
        exact ⟨_, (lawF prog w L sd _ kvs' _ (some yt) (some v5) (some r) c3 _ (some (.ref sd))), HB.trans hs, I, _, _, _, rfl⟩
    · obtain ⟨m, cj, cr, rfl⟩ := hK
      (with_reducible refine opq (by assumption) ?_); (with_reducible refine execs_cons' ?_; intro Qk hQ); (with_reducible refine wpAny_Return_some ?_); (with_reducible refine c_bool ?_); (with_reducible refine opq (by assumption) ?_)
      exact ⟨_, _, I, rfl⟩
end

end Mine
end

section
open PySem PySem.W PyProof.Rows PySem.Calls
set_option tactic.hygienic false
set_option linter.all false
set_option maxRecDepth 100000
set_option maxHeartbeats 2000000
namespace Mine
section
variable {prog : Program} {w : World} {A : Around} {g h₀ : Heap} {mg mb : Str → Option Value} {F : Nat → Addr} {v : Value}

theorem lgg_eq (n : Nat) (c : List Tm) : lgg n c = lggT n c := commonAt_lgg n c

theorem rho_get (t1 t2 t3 : Tok) (x : Str) (t : Tok) : ∃ t', (valueAt [(Str.ofString "a", Value.str (Str.ofString "b") t1), (Str.ofString "b", .str (Str.ofString "a") t2), (Str.ofString "f", .str (Str.ofString "h") t3)] x).getD (.str x t) = .str (rho x) t' := by
  unfold valueAt rho
  by_cases h1 : x = Str.ofString "a"
  · subst h1; exact ⟨t1, by rw [List.find?_cons_of_pos (by simp), if_pos rfl]; rfl⟩
  rw [List.find?_cons_of_neg (by simpa using fun h => h1 h.symm), if_neg h1]
  by_cases h2 : x = Str.ofString "b"
  · subst h2; exact ⟨t2, by rw [List.find?_cons_of_pos (by simp), if_pos rfl]; rfl⟩
  rw [List.find?_cons_of_neg (by simpa using fun h => h2 h.symm), if_neg h2]
  by_cases h3 : x = Str.ofString "f"
  · subst h3; exact ⟨t3, by rw [List.find?_cons_of_pos (by simp), if_pos rfl]; rfl⟩
  rw [List.find?_cons_of_neg (by simpa using fun h => h3 h.symm), if_neg h3]
  exact ⟨t, rfl⟩

theorem law_d (W : Wd h₀ mg mb F) {g0 : Heap} {s0 s : Shared} (hb : Sub h₀ g) (R : Room A 28) {L sd : Addr} {code : Value} {M : Str → Option Value} {kvs ks : List (Str × Value)} {c7 c6 c5 c4 c2 : Option Value} {terms : List Tm} {vw vt : Value} {n : Nat} {od : Addr}
    (I : In g0 [] s0 g (lawF prog w L sd M kvs c7 c6 c5 c4 (some (.ref od)) c2 (some (.ref sd))) s) (L0 : SRd g kvs n) (hn : n ≤ 100)
    (H1 : M (Str.ofString "whole") = some vw) (H2 : M (Str.ofString "terms") = some vt) (hvw : Rd g vw (lggT 3 terms).d) (hvt : Rd g vt (.list (terms.map Tm.d)))
    (T : FDict (PySem.strKind prog w) g od ks) (hρ : ∀ x t, ∃ t', (valueAt ks x).getD (.str x t) = .str (rho x) t') (hlen : terms.length ≤ 4) (h0 : terms ≠ []) (hg : ∀ t ∈ terms, Gr 3 t) :
    let env := newEnv (fd 27).scope L mainGlobals (cellsFrom (L + 1) (fd 27).scope.names []) ((fd 27).name ++ ".<locals>.") (some (F 27)) code none builtinsNs
    wpAny (model prog w) A (execs ((fd 27).body.drop 9) env) (fun fl s' => ∃ g' μ', In g0 [] s0 g' μ' s' ∧ retv fl = .bool true) (fun zz zz => False) s := by
  intro env
  have hwp : Pv 3 (lggT 3 terms) := lgg_pv h0 hg
  have hwok := hwp.ok
  have hok : ∀ t ∈ terms, Ok 3 t := fun t ht => (hg t ht).ok
  have V : Rs g [(vw, (lggT 3 terms).d), (vt, .list (terms.map Tm.d))] := ⟨hvw, hvt, trivial⟩
  (try with_reducible refine opq (by assumption) ?_); refine execs_cons' ?_; intro Qk hQ
  (with_reducible refine wpAny_If ?_); (with_reducible refine isTrue_or ?_); refine wpAny_isTrue_Compare1 ?_; refine x_def W hb I rfl rfl rfl rfl rfl rfl ?_; refine args_cons ?_; refine x_comp I rfl rfl (by decide) (fun zz => rfl) ?_; refine n_local (i := 0) I rfl rfl rfl H2 rfl ?_; refine it_seq R.hd I (.inl (Rs.h1 V)) ?_; clear I; intro it s X
  refine CompK.map terms Tm.d (fun t => (t.ren rho).d) (X _) rfl (by rw [List.length_map]; first | exact lle ‹_› rfl | exact llt ‹_› rfl | omega) (fun C t v g' s' m cm rest ht hs hv I => ?_) fun g hs y g s hs' hx I => ?_
  · intro cenv
    have HB := Sub.refl g'
    clear X
    replace hb := Sub.trans hb hs; replace V := Rs.mono V hs; replace L0 := L0.mono hs; replace T := FDict.mono T hs; clear hs
    replace V := Rs.cons hv V
    (with_reducible refine wpAny_assign_Name ?_); refine st_local (i := 0) I rfl rfl rfl ?_; clear I; intro s I; refine x_def W hb I rfl rfl rfl rfl rfl rfl ?_; refine args_cons ?_; refine n_local (i := 0) I rfl rfl rfl (by rfl) rfl ?_; refine args_cons ?_; refine n_cell (i := 7) I rfl rfl rfl rfl rfl ?_; (with_reducible refine args_nil ?_)
    refine ⟨hb.trans I.own.sub, ?_⟩
    refine (w_ren W hρ 3 (hok t ht) hb R.dn (Rs.h0 V) T).use I ?_
    clear I; intro g s r hs I hx
    replace hb := Sub.trans hb hs; replace V := Rs.mono V hs; replace L0 := L0.mono hs; replace T := FDict.mono T hs; replace HB := Sub.trans HB hs; clear hs
    exact ⟨g, _, fun zz => none, HB, I, hx⟩
  replace hs := hs.trans hs'
  clear X
  replace hb := Sub.trans hb hs; replace V := Rs.mono V hs; replace L0 := L0.mono hs; replace T := FDict.mono T hs; clear hs
  have e : terms.map (fun t => (t.ren rho).d) = (terms.map (Tm.ren rho)).map Tm.d := by rw [List.map_map]; rfl
  rw [e] at hx
  clear e
  replace V := Rs.cons hx V
  clear hx
  (with_reducible refine args_nil ?_)
  refine ⟨hb.trans I.own.sub, ?_⟩
  have hokr : ∀ t ∈ terms.map (Tm.ren rho), Ok 3 t := fun t ht => by
    obtain ⟨u, hu, rfl⟩ := List.mem_map.mp ht
    exact ok_ren (hok u hu)
  refine (w_commonOf W hb (n := 3) R.dn (by first | decide | exact lle ‹_› rfl | exact llt ‹_› rfl | exact lll ‹_› rfl | exact llm ‹_› rfl | omega) (by simpa using h0) (by rw [List.length_map]; first | exact lle ‹_› rfl | exact llt ‹_› rfl | omega) hokr (.inl (Rs.h0 V))).use I ?_
  clear I; intro g s r1 hs I hx
  rw [lgg_eq, ren_lgg h0 hg] at hx
  replace hb := Sub.trans hb hs; replace V := Rs.mono V hs; replace L0 := L0.mono hs; replace T := FDict.mono T hs; clear hs
  replace V := Rs.cons hx V
  clear hx
  refine x_def W hb I rfl rfl rfl rfl rfl rfl ?_; refine args_cons ?_; refine n_local (i := 0) I rfl rfl rfl H1 rfl ?_; refine args_cons ?_; refine n_cell (i := 6) I rfl rfl rfl rfl rfl ?_; (with_reducible refine args_nil ?_)
  refine ⟨hb.trans I.own.sub, ?_⟩
  refine (w_ren W hρ 3 hwok hb R.dn (Rs.h2 V) T).use I ?_
  clear I; intro g s r2 hs I hx
  replace hb := Sub.trans hb hs; replace V := Rs.mono V hs; replace L0 := L0.mono hs; replace T := FDict.mono T hs; clear hs
  have hok2 : Ok 3 ((lggT 3 terms).ren rho) := ok_ren hwok
  have eww : PyData.eqv ((lggT 3 terms).ren rho).d ((lggT 3 terms).ren rho).d = true := by rw [Tm.eqv_d]; simp
  refine k_ne I (Rs.h0 V) hx hok2.lay hok2.lay (Nat.le_trans hok2.dep (by decide)) R ?_
  rw [eww]
  clear hx
  (with_reducible refine wpAny_truthy_bool ?_)
  refine ite_f (by decide) ?_
  (with_reducible refine isTrue_or ?_); (with_reducible refine isTrue_not ?_); refine isTrue_plain ?_; refine x_def W hb I rfl rfl rfl rfl rfl rfl ?_; refine args_cons ?_; refine n_local (i := 0) I rfl rfl rfl H1 rfl ?_; refine args_cons ?_; refine n_local (i := 0) I rfl rfl rfl H2 rfl ?_; (with_reducible refine args_nil ?_)
  refine ⟨hb.trans I.own.sub, ?_⟩
  refine (w_within W hb R.dn (whole_of h0 hg) h0 hlen hg (Rs.h2 V) (Rs.h3 V)).use I ?_
  clear I; intro g s r3 hs I hr
  subst hr
  replace hb := Sub.trans hb hs; replace V := Rs.mono V hs; replace L0 := L0.mono hs; replace T := FDict.mono T hs; clear hs
  (with_reducible refine wpAny_truthy_bool ?_)
  refine ite_f (by decide) ?_
  (with_reducible refine isTrue_or_nil ?_)
  refine ite_f (by decide) ?_
  refine wpAny_execs_nil ?_; refine opq (by assumption) ?_
  exact law_c W hb R I L0 hn H1 H2 (Rs.h2 V) (Rs.h3 V) (hwp.mono (by first | decide | exact lle ‹_› rfl | exact llt ‹_› rfl | exact lll ‹_› rfl | exact llm ‹_› rfl | omega)) h0 hlen hg

theorem law_b (W : Wd h₀ mg mb F) {g0 : Heap} {s0 s : Shared} (hb : Sub h₀ g) (R : Room A 28) {L sd : Addr} {code : Value} {M : Str → Option Value} {kvs : List (Str × Value)} {c7 c6 c5 c4 c3 c2 : Option Value} {terms : List Tm} {vw vt : Value} {n k : Nat} {tk : Tok}
    (I : In g0 [] s0 g (lawF prog w L sd M kvs c7 c6 c5 c4 c3 c2 (some (.ref sd))) s) (L0 : SRd g kvs n) (hn : n ≤ 100)
    (H1 : M (Str.ofString "whole") = some vw) (H2 : M (Str.ofString "terms") = some vt) (H3 : M (Str.ofString "turn") = some (.int (k : Int) tk)) (hvw : Rd g vw (lggT 3 terms).d) (hvt : Rd g vt (.list (terms.map Tm.d))) (hlen : terms.length ≤ 4) (hk : k < terms.length) (hg : ∀ t ∈ terms, Gr 3 t) :
    let env := newEnv (fd 27).scope L mainGlobals (cellsFrom (L + 1) (fd 27).scope.names []) ((fd 27).name ++ ".<locals>.") (some (F 27)) code none builtinsNs
    wpAny (model prog w) A (execs ((fd 27).body.drop 4) env) (fun fl s' => ∃ g' μ', In g0 [] s0 g' μ' s' ∧ retv fl = .bool true) (fun zz zz => False) s := by
  intro env
  have h0 : terms ≠ [] := fun e => by rw [e] at hk; simp at hk
  have hwp : Pv 3 (lggT 3 terms) := lgg_pv h0 hg
  have hwok := hwp.ok
  have hrow := row_gr hk hg
  have hrl := row_lgg hk hg
  have hrr := row_rev hk hg
  have V : Rs g [(vw, (lggT 3 terms).d), (vt, .list (terms.map Tm.d))] := ⟨hvw, hvt, trivial⟩
  (try with_reducible refine opq (by assumption) ?_); refine execs_cons' ?_; intro Qk hQ
  refine wpAny_Assign_Name ?_
  refine wpAny_BinOp ?_
  (with_reducible refine wpAny_BinOp ?_); (with_reducible refine s_cut ?_); refine n_local (i := 0) I rfl rfl rfl H2 rfl ?_; refine wpAny_evalPart_some ?_; refine n_local (i := 0) I rfl rfl rfl H3 rfl ?_; refine wpAny_evalPart_none ?_
  refine Cut.lstFrom (a := k) I (Rs.h1 V) (by rw [List.length_map]; first | exact lle ‹_› rfl | exact llt ‹_› rfl | omega) (by rw [List.length_map]; first | exact lle ‹_› rfl | exact llt ‹_› rfl | omega) ?_
  clear I; intro g s v1 hs I hx
  replace hb := Sub.trans hb hs; replace V := Rs.mono V hs; replace L0 := L0.mono hs; clear hs
  replace V := Rs.cons hx V
  clear hx
  (with_reducible refine s_cut ?_); refine n_local (i := 0) I rfl rfl rfl H2 rfl ?_; refine wpAny_evalPart_none ?_; refine wpAny_evalPart_some ?_; refine n_local (i := 0) I rfl rfl rfl H3 rfl ?_
  refine Cut.lstUpto (b := k) I (Rs.h2 V) (by rw [List.length_map]; first | exact lle ‹_› rfl | exact llt ‹_› rfl | omega) ?_
  clear I; intro g s v2 hs I hx
  replace hb := Sub.trans hb hs; replace V := Rs.mono V hs; replace L0 := L0.mono hs; clear hs
  replace V := Rs.cons hx V
  clear hx
  refine o_add_lst I (Rs.h1 V) (Rs.h0 V) (by first | exact kdl ‹_› | exact kdm ‹_› | exact Nat.le_of_ble_eq_true rfl | exact mdl ‹_› rfl | exact mdm ‹_› rfl | (simp only [List.length_cons, List.length_nil, List.length_map, List.length_append, List.length_take, List.length_drop]; omega)) ?_; clear I; intro g s v hs I hx; replace hb := Sub.trans hb hs; replace V := Rs.mono V hs; replace L0 := L0.mono hs; clear hs; replace V := Rs.cons hx V; clear hx; (with_reducible refine List_ ?_); refine args_cons ?_; (with_reducible refine Subscript_ ?_); refine n_local (i := 0) I rfl rfl rfl H2 rfl ?_; refine n_local (i := 0) I rfl rfl rfl H3 rfl ?_
  refine i_lst (k := k) (d := (terms.getD k tm0).d) I (Rs.h4 V) (by rw [List.getElem?_map, List.getD_eq_getElem?_getD, List.getElem?_eq_getElem hk]; rfl) (by rw [List.length_map]; first | exact lle ‹_› rfl | exact llt ‹_› rfl | omega) ?_
  intro v4 hx
  replace V := Rs.cons hx V
  clear hx
  (with_reducible refine args_nil ?_)
  refine d_list I (.cons (Rs.h0 V) .nil) (by simp) ?_
  clear I; intro g s v5 hs I hx
  replace hb := Sub.trans hb hs; replace V := Rs.mono V hs; replace L0 := L0.mono hs; clear hs
  replace V := Rs.cons hx V
  clear hx
  refine o_add_lst I (Rs.h2 V) (Rs.h0 V) (by first | exact kdl ‹_› | exact kdm ‹_› | exact Nat.le_of_ble_eq_true rfl | exact mdl ‹_› rfl | exact mdm ‹_› rfl | (simp only [List.length_cons, List.length_nil, List.length_map, List.length_append, List.length_take, List.length_drop]; omega)) ?_; clear I; intro g s v hs I hx; replace hb := Sub.trans hb hs; replace V := Rs.mono V hs; replace L0 := L0.mono hs; clear hs; replace V := Rs.cons hx V; clear hx; refine st_cell (i := 7) I rfl rfl rfl rfl ?_; clear I; intro s I; (with_reducible refine opq (by assumption) ?_); (with_reducible refine execs_cons' ?_; intro Qk hQ); refine wpAny_Assign_Name ?_; (with_reducible refine Subscript_ ?_); refine n_cell (i := 7) I rfl rfl rfl rfl rfl ?_; (with_reducible refine c_int I ?_; clear I; intro s t I)
  have hx := Rs.h0 V
  have e : List.drop k (List.map Tm.d terms) ++ List.take k (List.map Tm.d terms) ++ [(terms.getD k tm0).d] = (rowOf terms k).map Tm.d := by
    unfold rowOf
    rw [List.map_append, List.map_append, List.map_drop, List.map_take]; rfl
  rw [e] at hx
  clear e
  have hrlen : (rowOf terms k).length = terms.length + 1 := by
    unfold rowOf
    rw [List.length_append, List.length_append, List.length_drop, List.length_take, List.length_singleton]; omega
  replace V : Rs g [(v, .list ((rowOf terms k).map Tm.d)), (vw, (lggT 3 terms).d), (vt, .list (terms.map Tm.d))] := ⟨hx, Rs.h6 V, Rs.h7 V, trivial⟩
  clear hx
  obtain ⟨a, r, hrow2⟩ : ∃ a r, rowOf terms k = a :: r := by
    cases h : rowOf terms k with
    | nil => rw [h] at hrlen; simp at hrlen
    | cons a r => exact ⟨a, r, rfl⟩
  rw [hrow2] at hrow hrl hrr hrlen V
  clear hrow2
  rw [List.length_cons] at hrlen
  refine i_lst (k := 0) (d := a.d) I (Rs.h0 V) rfl (by rw [List.length_map, List.length_cons]; omega) ?_
  intro va hx
  replace V := Rs.cons hx V
  clear hx
  refine st_local (i := 0) I rfl rfl rfl ?_; clear I; intro s I; (with_reducible refine opq (by assumption) ?_); (with_reducible refine execs_cons' ?_; intro Qk hQ); refine x_for I (fun zz => rfl) ?_; (with_reducible refine s_cut ?_); refine n_cell (i := 7) I rfl rfl rfl rfl rfl ?_; refine wpAny_evalPart_some ?_; (with_reducible refine c_int I ?_; clear I; intro s t I); refine wpAny_evalPart_none ?_
  refine Cut.lstFrom (a := 1) I (Rs.h1 V) (by rw [List.length_map, List.length_cons]; omega) (by rw [List.length_map, List.length_cons]; omega) ?_
  clear I; intro g s v6 hs I hx
  replace hb := Sub.trans hb hs; replace V := Rs.mono V hs; replace L0 := L0.mono hs; clear hs
  rw [List.map_cons, List.drop_succ_cons, List.drop_zero] at hx
  replace V := Rs.cons hx V
  clear hx
  refine it_seq R.hd I (.inl (Rs.h0 V)) ?_; clear I; intro it s X
  refine ForK.of r Tm.d (fun i g' μ' => ∃ m vs, m (Str.ofString "whole") = some vw ∧ m (Str.ofString "terms") = some vt ∧ m (Str.ofString "step") = some vs ∧ Rd g' vs ((r.take i).foldl (fun step t => lggT 3 [step, t]) a).d ∧ μ' = (lawF prog w L sd m kvs c7 c6 c5 c4 c3 (some v) (some (.ref sd))))
    (X _) rfl ⟨_, _, H1, H2, rfl, Rs.h1 V, rfl⟩ (fun i x vx g' μ' s' rest hx hs hv hK I Qk hQ => ?_) (fun i g' g'' μ' hs hK => ?_) (fun g' μ' s hs hK I => ?_)
  · clear H1 H2 H3
    obtain ⟨m, vs, H1, H2, H3, hst, rfl⟩ := hK
    have hxm := List.mem_of_getElem? hx
    have HB := Sub.refl g'
    clear X
    replace hb := Sub.trans hb hs; replace V := Rs.mono V hs; replace L0 := L0.mono hs; clear hs
    replace V : Rs g' [(vx, x.d), (vs, ((r.take i).foldl (fun step t => lggT 3 [step, t]) a).d)] := ⟨hv, hst, trivial⟩
    clear hv hst
    (with_reducible refine wpAny_assign_Name ?_); refine st_local (i := 0) I rfl rfl rfl ?_; clear I; intro s I; (with_reducible refine execs_cons' ?_; intro Qk hQ); refine wpAny_Assign_Name ?_; refine x_def W hb I rfl rfl rfl rfl rfl rfl ?_; refine args_cons ?_; refine n_local (i := 0) I rfl rfl rfl H3 rfl ?_; refine args_cons ?_; refine n_local (i := 0) I rfl rfl rfl (by rfl) rfl ?_; (with_reducible refine args_nil ?_)
    refine ⟨hb.trans I.own.sub, ?_⟩
    have hfold := lgg_take hrow rfl i
    have hok1 : Ok 3 ((r.take i).foldl (fun step t => lggT 3 [step, t]) a) := by
      rw [hfold]
      refine (lgg_pv (by simp) fun t ht => ?_).ok
      rcases List.mem_cons.mp ht with rfl | ht
      · exact hrow _ (.head _)
      · exact hrow _ (.tail _ (List.take_subset _ _ ht))
    refine (w_common W hb (n := 3) R.dn (by first | decide | exact lle ‹_› rfl | exact llt ‹_› rfl | exact lll ‹_› rfl | exact llm ‹_› rfl | omega) hok1 (hrow x (.tail _ hxm)).ok (Rs.h1 V) (Rs.h0 V)).use I ?_
    clear I; intro g s vs2 hs I hx2
    rw [lgg_eq] at hx2
    replace hb := Sub.trans hb hs; replace V := Rs.mono V hs; replace L0 := L0.mono hs; replace HB := Sub.trans HB hs; clear hs
    refine st_local (i := 0) I rfl rfl rfl ?_; clear I; intro s I; (with_reducible refine opq (by assumption) ?_); (with_reducible refine wpAny_execs_nil ?_); (with_reducible refine opq (by assumption) ?_)
    refine ⟨_, (lawF prog w L sd _ kvs c7 c6 c5 c4 c3 _ (some (.ref sd))), HB, I, upd (upd m (Str.ofString "t") vx) (Str.ofString "step") vs2, vs2, H1, H2, rfl, ?_, rfl⟩
    rw [List.take_add_one, hx, Option.toList, List.foldl_append]
    exact hx2
  · obtain ⟨m, vs, H1, H2, H3, hst, rfl⟩ := hK
    exact ⟨m, vs, H1, H2, H3, hst.mono hs, rfl⟩
  · clear H1 H2 H3
    obtain ⟨m, vs, H1, H2, H3, hst, rfl⟩ := hK
    rw [List.take_of_length_le (Nat.le_refl _)] at hst
    have hfold := lgg_take hrow rfl r.length
    rw [List.take_of_length_le (Nat.le_refl _)] at hfold
    rw [hfold, hrl] at hst
    clear hfold X
    replace hb := Sub.trans hb hs; replace V := Rs.mono V hs; replace L0 := L0.mono hs; clear hs
    replace V : Rs g' [(v, .list ((a :: r).map Tm.d)), (vw, (lggT 3 terms).d), (vt, .list (terms.map Tm.d)), (vs, (lggT 3 terms).d)] := ⟨Rs.h2 V, Rs.h3 V, Rs.h4 V, hst, trivial⟩
    clear hst
    have hrok : ∀ t ∈ a :: r, Ok 3 t := fun t ht => (hrow t ht).ok
    have eww : PyData.eqv (lggT 3 terms).d (lggT 3 terms).d = true := by rw [Tm.eqv_d]; simp
    (with_reducible refine opq (by assumption) ?_); (with_reducible refine execs_cons' ?_; intro Qk hQ); (with_reducible refine wpAny_If ?_); (with_reducible refine isTrue_or ?_); refine wpAny_isTrue_Compare1 ?_; refine x_def W hb I rfl rfl rfl rfl rfl rfl ?_; refine args_cons ?_; refine n_cell (i := 7) I rfl rfl rfl rfl rfl ?_; (with_reducible refine args_nil ?_)
    refine ⟨hb.trans I.own.sub, ?_⟩
    refine (w_commonOf W hb (n := 3) R.dn (by first | decide | exact lle ‹_› rfl | exact llt ‹_› rfl | exact lll ‹_› rfl | exact llm ‹_› rfl | omega) (by simp) (by rw [List.length_cons]; omega) hrok (.inl (Rs.h0 V))).use I ?_
    clear I; intro g s r1 hs I hx
    rw [lgg_eq, hrl] at hx
    replace hb := Sub.trans hb hs; replace V := Rs.mono V hs; replace L0 := L0.mono hs; clear hs
    refine n_local (i := 0) I rfl rfl rfl H1 rfl ?_
    refine k_ne I hx (Rs.h1 V) hwok.lay hwok.lay (Nat.le_trans hwok.dep (by decide)) R ?_
    clear hx
    rw [eww]
    (with_reducible refine wpAny_truthy_bool ?_)
    refine ite_f (by decide) ?_
    (with_reducible refine isTrue_or ?_); refine wpAny_isTrue_Compare1 ?_; refine x_def W hb I rfl rfl rfl rfl rfl rfl ?_; refine args_cons ?_; refine s_rev (g₀ := g0) (D := []) (s₀ := s0) ?_; refine n_cell (i := 7) I rfl rfl rfl rfl rfl ?_
    refine PyProof.Rows.UnaryOp_ ?_
    (with_reducible refine c_int I ?_; clear I; intro s t I)
    refine PyProof.Rows.neg_int ?_
    refine ⟨_, _, _, _, rfl, I.tok _, Rs.h0 V, by rw [List.length_map, List.length_cons]; omega, fun g s rv hs I' hx => ?_⟩
    replace I := I'
    clear I'
    rw [← List.map_reverse] at hx
    replace hb := Sub.trans hb hs; replace V := Rs.mono V hs; replace L0 := L0.mono hs; clear hs
    replace V := Rs.cons hx V
    clear hx
    (with_reducible refine args_nil ?_)
    refine ⟨hb.trans I.own.sub, ?_⟩
    refine (w_commonOf W hb (n := 3) R.dn (by first | decide | exact lle ‹_› rfl | exact llt ‹_› rfl | exact lll ‹_› rfl | exact llm ‹_› rfl | omega) (by simp) (by rw [List.length_reverse, List.length_cons]; omega) (fun t ht => hrok t (List.mem_reverse.mp ht)) (.inl (Rs.h0 V))).use I ?_
    clear I; intro g s r1 hs I hx
    rw [lgg_eq, hrr] at hx
    replace hb := Sub.trans hb hs; replace V := Rs.mono V hs; replace L0 := L0.mono hs; clear hs
    refine n_local (i := 0) I rfl rfl rfl H1 rfl ?_
    refine k_ne I hx (Rs.h2 V) hwok.lay hwok.lay (Nat.le_trans hwok.dep (by decide)) R ?_
    clear hx
    rw [eww]
    (with_reducible refine wpAny_truthy_bool ?_)
    refine ite_f (by decide) ?_
    (with_reducible refine isTrue_or ?_); refine wpAny_isTrue_Compare1 ?_; refine n_local (i := 0) I rfl rfl rfl H3 rfl ?_; refine n_local (i := 0) I rfl rfl rfl H1 rfl ?_
    refine k_ne I (Rs.h4 V) (Rs.h2 V) hwok.lay hwok.lay (Nat.le_trans hwok.dep (by decide)) R ?_
    rw [eww]
    (with_reducible refine wpAny_truthy_bool ?_)
    refine ite_f (by decide) ?_
    (with_reducible refine isTrue_or_nil ?_)
    refine ite_f (by decide) ?_
    refine wpAny_execs_nil ?_; refine opq (by assumption) ?_
    (try with_reducible refine opq (by assumption) ?_); refine execs_cons' ?_; intro Qk hQ
    refine wpAny_Assign_Name ?_
    refine dd_disp (K := Str) (knd := PySem.strKind prog w) W.toBase hb I ?_ ?_ ?_ ?_ ?_
    · rfl
    · rfl
    · exact List.cons_ne_nil _ _
    · exact Nat.le_of_ble_eq_true rfl
    clear I; intro od s hod I
    refine pairTrees_cons_walk ?_
    (with_reducible refine c_str I ?_; clear I; intro s t I); (with_reducible refine c_str I ?_; clear I; intro s t I)
    refine pairTrees_cons_walk ?_
    (with_reducible refine c_str I ?_; clear I; intro s t I); (with_reducible refine c_str I ?_; clear I; intro s t I)
    refine pairTrees_cons_walk ?_
    (with_reducible refine c_str I ?_; clear I; intro s t I); (with_reducible refine c_str I ?_; clear I; intro s t I)
    refine pairTrees_nil_walk ?_
    refine ⟨g, _, [(Str.ofString "a", .str (Str.ofString "b") _), (Str.ofString "b", .str (Str.ofString "a") _), (Str.ofString "f", .str (Str.ofString "h") _)], 0, carries_strPairs prog w [(.str _ _, _), (.str _ _, _), (.str _ _, _)] rfl, I, rfl, fun s I => ?_⟩
    obtain ⟨g2, o, hs, hgo, hPo, I⟩ := In.freeze (a := od) I hod
    replace hb := Sub.trans hb hs; replace V := Rs.mono V hs; replace L0 := L0.mono hs; clear hs
    refine st_cell (i := 6) I rfl rfl rfl rfl ?_
    clear I; intro s I
    refine opq (by assumption) ?_
    exact law_d W hb R I L0 hn H1 H2 (Rs.h2 V) (Rs.h3 V) ⟨o, hgo, hPo⟩ (rho_get _ _ _) hlen h0 hg
end

end Mine
end

section
open PySem PySem.W PyProof.Rows PySem.Calls
set_option tactic.hygienic false
set_option linter.all false
set_option maxRecDepth 100000
set_option maxHeartbeats 2000000
namespace Mine
section
variable {prog : Program} {w : World} {A : Around} {g h₀ : Heap} {mg mb : Str → Option Value} {F : Nat → Addr} {v : Value}


theorem w_law (W : Wd h₀ mg mb F) {g0 : Heap} (hb : Sub h₀ g0) (R : Room A 30) {ns : List Int} {v : Value} (hv : Rd g0 v (.list (ns.map .int))) (hn : ns.length ≤ 63) :
    Pure prog w A g0 (F 27) [v] (fun zz r => r = .bool true) := by
  refine Pure.of W 27 (by decide) hb R [(Str.ofString "script", v)] (fun zz zz zz => rfl) (kindsX rfl) (by decide) rfl rfl rfl (fun s0 L code s₁ Qk hQ => ?_)
  intro env R I
  have V : Rs g0 [(v, .list (ns.map .int))] := ⟨hv, trivial⟩
  (try with_reducible refine opq (by assumption) ?_); refine execs_cons' ?_; intro Qk hQ
  refine wpAny_Assign_Name ?_
  refine dd_disp (K := Str) (knd := PySem.strKind prog w) W.toBase hb I ?_ ?_ ?_ ?_ ?_
  · rfl
  · rfl
  · exact List.cons_ne_nil _ _
  · exact Nat.le_of_ble_eq_true rfl
  clear I; intro sd s hsd I
  refine pairTrees_cons_walk ?_
  (with_reducible refine c_str I ?_; clear I; intro s t I); refine x_comp I rfl rfl (by decide) (fun zz => rfl) ?_; (with_reducible refine s_cut ?_); refine n_local (i := 1) I rfl rfl rfl (by rfl) rfl ?_; refine wpAny_evalPart_none ?_; refine wpAny_evalPart_some ?_; (with_reducible refine c_int I ?_; clear I; intro s t I)
  refine Cut.lstUpto (b := 50) I (Rs.h0 V) (by rw [List.length_map]; first | exact lle ‹_› rfl | exact llt ‹_› rfl | omega) ?_
  clear I; intro g s v2 hs I hx
  replace hb := Sub.trans hb hs; replace V := Rs.mono V hs; clear hs
  rw [← List.map_take] at hx
  replace V := Rs.cons hx V
  clear hx
  refine it_seq R.hd I (.inl (Rs.h0 V)) ?_; clear I; intro it s X
  refine CompK.map (ns.take 50) PyData.int (fun n => .int ((if n < 0 then -n else n).fmod 1000003)) (X _) rfl (by rw [List.length_map, List.length_take]; omega) (fun C n v g' s' m cm rest hn hs hv I => ?_) fun g hs y g s hs' hx I => ?_
  · intro cenv
    have HB := Sub.refl g'
    obtain ⟨tn, rfl⟩ := Rd.int_inv hv
    clear hv X
    replace hb := Sub.trans hb hs; replace V := Rs.mono V hs; clear hs
    (with_reducible refine wpAny_assign_Name ?_); refine st_local (i := 0) I rfl rfl rfl ?_; clear I; intro s I; (with_reducible refine wpAny_BinOp ?_); refine x_bi W hb I (by decide) (by boot_by_name) rfl rfl rfl rfl (by decide) rfl rfl rfl ?_; refine args_cons ?_; refine n_local (i := 0) I rfl rfl rfl (by rfl) rfl ?_; (with_reducible refine args_nil ?_)
    refine b_abs I ?_
    clear I; intro s ta I
    (with_reducible refine c_int I ?_; clear I; intro s t I)
    refine o_mod I (by decide) ?_
    clear I; intro s tb I
    exact ⟨g', _, fun zz => none, HB, I, .int⟩
  replace hs := hs.trans hs'
  clear X
  replace hb := Sub.trans hb hs; replace V := Rs.mono V hs; clear hs
  refine pairTrees_cons_walk ?_
  (with_reducible refine c_str I ?_; clear I; intro s t I); (with_reducible refine c_int I ?_; clear I; intro s t I)
  refine pairTrees_nil_walk ?_
  refine ⟨g, _, [(Str.ofString "cells", y), (Str.ofString "at", .int 0 _)], 0, carries_strPairs prog w [(.str _ _, y), (.str _ _, .int 0 _)] rfl, I, rfl, fun s I => ?_⟩
  have L0 : SRd g [(Str.ofString "cells", y), (Str.ofString "at", .int ((0 : Nat) : Int) t)] 0 := ⟨y, (ns.take 50).map fun n => (if n < 0 then -n else n).fmod 1000003, t, rfl, by rw [List.map_map]; exact hx, by rw [List.length_map, List.length_take]; omega⟩
  obtain ⟨M, c7, c6, c5, c4, c3, c2, c1, I⟩ : ∃ M c7 c6 c5 c4 c3 c2 c1, In g0 [] s0 g [(L, nsP M), (sd, dP (PySem.strKind prog w) sd [(Str.ofString "cells", y), (Str.ofString "at", Value.int ((0 : Nat) : Int) t)]), (L + 1 + 1 + 1 + 1 + 1 + 1 + 1, cellP c7), (L + 1 + 1 + 1 + 1 + 1 + 1, cellP c6), (L + 1 + 1 + 1 + 1 + 1, cellP c5), (L + 1 + 1 + 1 + 1, cellP c4), (L + 1 + 1 + 1, cellP c3), (L + 1 + 1, cellP c2), (L + 1, cellP c1)] s :=
    ⟨_, _, _, _, _, _, _, _, I.perm (List.Perm.swap _ _ _)⟩
  generalize hkvs : [(Str.ofString "cells", y), (Str.ofString "at", Value.int ((0 : Nat) : Int) t)] = kvs at L0 I
  clear hkvs hx
  replace V : Rs g [] := trivial
  refine st_cell (i := 8) I rfl rfl rfl rfl ?_; clear I; intro s I; (with_reducible refine opq (by assumption) ?_); (with_reducible refine execs_cons' ?_; intro Qk hQ); refine x_compA I rfl rfl rfl (by decide) (fun zz => rfl) rfl rfl ?_; refine x_ty W hb I (by decide) (by boot_by_name) rfl rfl rfl rfl (by decide) rfl rfl rfl ?_; refine args_cons ?_; (with_reducible refine wpAny_BinOp ?_); (with_reducible refine c_int I ?_; clear I; intro s t I); refine x_def W hb I rfl rfl rfl rfl rfl rfl ?_; refine args_cons ?_; refine n_cell (i := 8) I rfl rfl rfl rfl rfl ?_; refine args_cons ?_; (with_reducible refine c_int I ?_; clear I; intro s t I); (with_reducible refine args_nil ?_)
  refine ⟨hb.trans I.own.sub, ?_⟩
  refine (w_draw W hb (m := 4) R.dn (by first | decide | exact lle ‹_› rfl | exact llt ‹_› rfl | exact lll ‹_› rfl | exact llm ‹_› rfl | omega) (by first | decide | exact lle ‹_› rfl | exact llt ‹_› rfl | exact lll ‹_› rfl | exact llm ‹_› rfl | omega) L0).use (i := 1) I rfl ?_
  clear I; intro g s r P' hs I hP
  obtain ⟨kvs1, k, tk, rfl, L1, hk4, rfl⟩ := hP
  clear L0
  replace hb := Sub.trans hb hs; replace V := Rs.mono V hs; clear hs
  (with_reducible refine o_add I ?_; clear I; intro s t I); (with_reducible refine args_nil ?_)
  rw [show ((1 : Int) + (k : Int)) = ((1 + k : Nat) : Int) by omega]
  refine it_range1 R.hd I (by first | decide | exact lle ‹_› rfl | exact llt ‹_› rfl | exact lll ‹_› rfl | exact llm ‹_› rfl | omega) ?_
  clear I; intro it s X
  refine CompK.st (List.range (1 + k)) (fun i => .int ((0 + i : Nat) : Int)) (fun i ds g' μ' => ∃ (kvs' : List (Str × Value)) (n' : Nat) (ts : List Tm), μ' = (lawF prog w L sd M kvs' c7 c6 c5 c4 c3 c2 (some (.ref sd))) ∧ SRd g' kvs' n' ∧ n' ≤ 1 + i * 8 ∧ ts.length = i ∧ (∀ t ∈ ts, Gr 3 t) ∧ ds = ts.map Tm.d)
    (X _) (by simp [intsFrom]) (by simp [intsFrom]; omega) ⟨kvs1, 1, [], rfl, L1, by omega, rfl, (fun zz h => nomatch h), rfl⟩ (fun C i x v ds g' μ' s' m cm rest hx hs hv hK I => ?_) (fun i ds g' g'' μ' hs hK => ?_) (fun ds g' μ' hs hK => ?_)
  · intro cenv
    clear X L1
    obtain ⟨kvs', n', ts, rfl, L1, hn', htl, hgr, rfl⟩ := hK
    have hxr := (List.getElem?_eq_some_iff.mp hx).1
    rw [List.length_range] at hxr
    have HB := Sub.refl g'
    obtain ⟨ti, rfl⟩ := Rd.int_inv hv
    clear hv hx
    replace hb := Sub.trans hb hs; replace V := Rs.mono V hs; clear hs
    (with_reducible refine wpAny_assign_Name ?_); refine st_local (i := 0) I rfl rfl rfl ?_; clear I; intro s I; refine x_def W hb I rfl rfl rfl rfl rfl rfl ?_; refine args_cons ?_; refine n_cell (i := 9) I rfl rfl rfl rfl rfl ?_; refine args_cons ?_; (with_reducible refine c_int I ?_; clear I; intro s t I); (with_reducible refine args_nil ?_)
    refine ⟨hb.trans I.own.sub, ?_⟩
    refine (w_drawn W 2 (by first | decide | exact lle ‹_› rfl | exact llt ‹_› rfl | exact lll ‹_› rfl | exact llm ‹_› rfl | omega) hb R.dn (by first | decide | exact lle ‹_› rfl | exact llt ‹_› rfl | exact lll ‹_› rfl | exact llm ‹_› rfl | omega) L1).use (i := 2) I rfl ?_
    clear I; intro g s r P' hs I hP
    obtain ⟨kvs3, n3, t3, rfl, L3, hn3, hg3, hr3⟩ := hP
    refine ⟨g, (lawF prog w L sd _ _ _ _ _ _ _ _ _), _, fun zz => none, _, HB.trans hs, I, hr3, kvs3, n3, ts ++ [t3], rfl, L3, ?_, by simp [htl], ?_, by simp⟩
    · have : (2 : Nat) ^ (2 + 1) = 8 := rfl
      omega
    · intro t ht
      rcases List.mem_append.mp ht with ht | ht
      · exact hgr t ht
      · rw [List.mem_singleton.mp ht]; exact hg3
  · obtain ⟨kvs', n', ts, rfl, h1, h2, h3, h4, rfl⟩ := hK
    exact ⟨kvs', n', ts, rfl, h1.mono hs, h2, h3, h4, rfl⟩
  · obtain ⟨kvs', n', ts, rfl, L0, h2, h3, hg, rfl⟩ := hK
    rw [List.length_range] at h2 h3
    refine ⟨0, _, rfl, fun vt g3 s hs' hx I => ?_⟩
    clear X L1
    replace hs := hs.trans hs'
    replace L0 := L0.mono hs'
    replace hb := Sub.trans hb hs; replace V := Rs.mono V hs; clear hs
    replace V : Rs g3 [(vt, .list (ts.map Tm.d))] := ⟨hx, trivial⟩
    clear hx
    have hok : ∀ t ∈ ts, Ok 3 t := fun t ht => (hg t ht).ok
    have h0 : ts ≠ [] := fun e => by rw [e] at h3; simp at h3; omega
    (with_reducible refine opq (by assumption) ?_); (with_reducible refine execs_cons' ?_; intro Qk hQ); refine x_two R.hd I rfl rfl rfl rfl ?_; refine x_def W hb I rfl rfl rfl rfl rfl rfl ?_; refine args_cons ?_; refine n_local (i := 0) I rfl rfl rfl (by rfl) rfl ?_; (with_reducible refine args_nil ?_)
    refine ⟨hb.trans I.own.sub, ?_⟩
    refine (w_commonOf W hb (n := 3) R.dn (by first | decide | exact lle ‹_› rfl | exact llt ‹_› rfl | exact lll ‹_› rfl | exact llm ‹_› rfl | omega) h0 (by first | decide | exact lle ‹_› rfl | exact llt ‹_› rfl | exact lll ‹_› rfl | exact llm ‹_› rfl | omega) hok (.inl (Rs.h0 V))).use I ?_
    clear I; intro g s vw hs I hx
    rw [lgg_eq] at hx
    replace hb := Sub.trans hb hs; replace V := Rs.mono V hs; replace L0 := L0.mono hs; clear hs
    replace V := Rs.cons hx V
    clear hx
    refine x_def W hb I rfl rfl rfl rfl rfl rfl ?_; refine args_cons ?_; refine n_cell (i := 8) I rfl rfl rfl rfl rfl ?_; refine args_cons ?_; refine x_bi W hb I (by decide) (by boot_by_name) rfl rfl rfl rfl (by decide) rfl rfl rfl ?_; refine args_cons ?_; refine n_local (i := 0) I rfl rfl rfl (by rfl) rfl ?_; (with_reducible refine args_nil ?_); refine b_len_lst I (Rs.h1 V) (by first | exact kdl ‹_› | exact kdm ‹_› | exact Nat.le_of_ble_eq_true rfl | exact mdl ‹_› rfl | exact mdm ‹_› rfl | (simp only [List.length_cons, List.length_nil, List.length_map, List.length_append, List.length_take, List.length_drop]; omega)) ?_; clear I; intro s t I; (with_reducible refine args_nil ?_)
    rw [List.length_map]
    refine ⟨hb.trans I.own.sub, ?_⟩
    refine (w_draw W hb (m := ts.length) R.dn (by first | decide | exact lle ‹_› rfl | exact llt ‹_› rfl | exact lll ‹_› rfl | exact llm ‹_› rfl | omega) (by first | decide | exact lle ‹_› rfl | exact llt ‹_› rfl | exact lll ‹_› rfl | exact llm ‹_› rfl | omega) L0).use (i := 1) I rfl ?_
    clear I; intro g s r P' hs I hP
    obtain ⟨kvs3, kt, tkt, rfl, L3, hkt, rfl⟩ := hP
    clear L0
    replace hb := Sub.trans hb hs; replace V := Rs.mono V hs; clear hs
    refine ⟨_, _, I, fun s I => ?_⟩
    refine st_local (i := 0) I rfl rfl rfl ?_; clear I; intro s I; refine st_local (i := 0) I rfl rfl rfl ?_; clear I; intro s I; (with_reducible refine opq (by assumption) ?_); (with_reducible refine execs_cons' ?_; intro Qk hQ); (with_reducible refine wpAny_If ?_); (with_reducible refine isTrue_not ?_); refine isTrue_plain ?_; refine x_def W hb I rfl rfl rfl rfl rfl rfl ?_; refine args_cons ?_; refine n_local (i := 0) I rfl rfl rfl (by rfl) rfl ?_; refine args_cons ?_; refine n_local (i := 0) I rfl rfl rfl (by rfl) rfl ?_; (with_reducible refine args_nil ?_)
    refine ⟨hb.trans I.own.sub, ?_⟩
    refine (w_least W hb R.dn (whole_of h0 hg) h0 (by first | decide | exact lle ‹_› rfl | exact llt ‹_› rfl | exact lll ‹_› rfl | exact llm ‹_› rfl | omega) hg (Rs.h0 V) (Rs.h1 V)).use I ?_
    clear I; intro g s r3 hs I hr
    subst hr
    replace L3 := L3.mono hs
    replace hb := Sub.trans hb hs; replace V := Rs.mono V hs; clear hs
    (with_reducible refine wpAny_truthy_bool ?_)
    refine ite_f (by decide) ?_
    refine wpAny_execs_nil ?_; refine opq (by assumption) ?_
    show wpAny _ _ _ _ _ _
    refine wpAny_mono (law_b W hb R.dn (vw := vw) (vt := vt) (terms := ts) (k := kt) (tk := tkt) I L3 (by first | decide | exact lle ‹_› rfl | exact llt ‹_› rfl | exact lll ‹_› rfl | exact llm ‹_› rfl | omega) rfl rfl rfl (Rs.h0 V) (Rs.h1 V) (by first | decide | exact lle ‹_› rfl | exact llt ‹_› rfl | exact lll ‹_› rfl | exact llm ‹_› rfl | omega) hkt hg) (fun fl s' h => ?_) fun zz zz e => e
    exact opq (by assumption) h
end

end Mine
end

open PySem PySem.W PyProof.Rows
set_option tactic.hygienic false
set_option linter.all false
set_option maxRecDepth 100000
set_option maxHeartbeats 8000000
namespace Mine
section
theorem wd_of {p : Program} {loose : List Str} {mean : ExcName → Option Value} {mg mb : Str → Option Value} {h : Heap} {fa : Addr} (T : Top p loose mean mg mb h) (hr : (((recsOf p).drop 1).map fun d => (d.name, d.params, d.body, d.scope)) = fns.map fun k => ((fd k).name, (fd k).params, (fd k).body, (fd k).scope))
    (hf : ∀ x ∈ bnames, x ∉ startupNames ∧ x ∉ loose ∧ x ∉ (recsOf p).map (·.name) ∧ x ∉ (litsOf p).map (·.1) ∧ x ∉ (clssOf p loose).map (·.name)) (hmg : mg (fd 27).name = some (.ref fa)) :
    ∃ F : Nat → Addr, Wd h mg mb F ∧ F 27 = fa := by
  have key : ∀ k, ∃ a, k ∈ fns → IsDef h mg (fd k) a := fun k => by
    by_cases hk : k ∈ fns
    · have hm : ((fd k).name, (fd k).params, (fd k).body, (fd k).scope) ∈ ((recsOf p).drop 1).map fun d => (d.name, d.params, d.body, d.scope) := by
        rw [hr]; exact List.mem_map.mpr ⟨k, hk, rfl⟩
      obtain ⟨d, hd, e⟩ := List.mem_map.mp hm
      injection e with e1 e
      injection e with e2 e
      injection e with e3 e4
      obtain ⟨a, o, pm, code, doc, h1, h2, h3, h4⟩ := T.fn d (List.mem_of_mem_drop hd)
      rw [e1] at h1 h4
      rw [e1, e2, e3, e4] at h3
      exact ⟨a, fun zz => ⟨h1, o, pm, code, doc, h2, h3, h4⟩⟩
    · exact ⟨fa, fun h => absurd h hk⟩
  obtain ⟨F, hF⟩ := Classical.axiomOfChoice key
  refine ⟨F, ⟨⟨T.g, T.b, T.nolimit, T.builtins⟩, fun x hx => ?_, hF⟩, ?_⟩
  · obtain ⟨h1, h2, h3, h4, h5⟩ := hf x hx
    exact T.free x h1 h2 h3 h4 h5
  · have e := (hF 27 (by decide)).glob
    rw [hmg] at e
    injection e with e
    injection e with e
    exact e.symm
end
theorem said_ok : OpenLaw.wellSaid PySem.Challenge.rw_pq0032_01 = true := by
  unfold OpenLaw.wellSaid OpenRow.wellSaid OpenRow.partSaid looksOpen
  repeat' with_reducible apply look_both
  all_goals decide +kernel
noncomputable def view : Program := { PySem.Challenge.pw_pq0032_01 with main := { PySem.Challenge.pw_pq0032_01.main with body := ([0, 2, 3, 5, 6, 7, 8, 9, 10, 11, 12, 13, 15, 16, 17, 18, 20, 21, 22, 23, 24, 25, 26, 27] : List Nat).filterMap fun i => PySem.Challenge.pw_pq0032_01.main.body[i]? } }
end Mine
set_option tactic.hygienic true in
theorem PySem.Challenge.cw_pq0032_01_holds : PySem.Challenge.rw_pq0032_01.Holds := by
  w_on
  refine holds_law Mine.said_ok fun said => ?_
  refine W.holds_open (q := Mine.view) (loose := []) (Xt := fun s => xlAt Mine.view [] s && recOk (RowW.records (OpenRow.toRowW (OpenLaw.row PySem.Challenge.rw_pq0032_01))) s) (XP := XL Mine.view []) (Yf := Hook.obs Hook.none) (Ya := Hook.val Hook.none) (YP := Hook.says Hook.none) (N := 2400) ?hl (Hook.of Hook.none) (Hook.keeps Hook.none) (fun s e => xl_of s (Bool.and_eq_true_iff.mp e).1) XL.keeps (by rfl) (by rfl) (by rfl) (fun s e => recFacts_of (Bool.and_eq_true_iff.mp e).2) (by rfl) (by first | assumption | decide +kernel) (by decide +kernel) ⟨rfl, rfl, rfl, rfl, rfl, by decide +kernel⟩ ?hw ?hc
  case hl => intro w; kernel_rfl
  case hw => w_witness2
  intro w s₀ s₁ mg mb G Y fa o pm cd doc dV kV ho hd hcd hD hmg hg args vals as hpre hlay hrd hwl hlo
  refine Ground.open G ?_
  intro T B D TE TW
  wrow_args hpre hlay hrd hwl hlo
  rename_i ws _ _ _ _ _ _ _ _ _ _ _ _ r0 _ _ _ _
  clear ho hd hcd
  obtain ⟨F, W, rfl⟩ := Mine.wd_of T (by rfl) (by decide +kernel) hmg
  show wpAny _ callerA (call (.ref (F 27)) [_]) _ _ _
  refine Mine.w_law W (fun zz zz h => h) (A := callerA) ⟨rfl, by decide, by decide⟩ ⟨_, r0⟩ (by omega) _ s₁ _ (fun zz zz h => h) (fun g' s' r X hs hr => ?_)
  subst hr
  refine GoodW.toG ⟨.inl ⟨_, .bool true, [], rfl, fun zz => rfl, ReadsW.bool _, by wrow_post, fun zz => ⟨.nil, fun zz h => nomatch h⟩⟩, fun b o hb => X.keep b o (fun h => nomatch h) hb, X.same.2, X.same.1.trans hg⟩

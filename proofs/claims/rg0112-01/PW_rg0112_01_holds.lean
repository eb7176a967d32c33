import PyProof.Rows.All
import Wide.All
import OpenK.AllK
import Wide.FinOn
import PyProof.FactsAll.tuple_iterator
import Lean
import PySem.Challenge.RW_rg0112_01
set_option Elab.async false
section
open PySem PySem.W PyProof.Rows
set_option maxRecDepth 100000
namespace Mine

noncomputable abbrev Ev (h h' : Heap) : Prop := ∀ b o, h.get? b = some o → h'.get? b = some o
theorem Ev.refl (h : Heap) : Ev h h := fun _ _ e => e
theorem Ev.trans {a b c : Heap} (x : Ev a b) (y : Ev b c) : Ev a c := fun _ _ e => y _ _ (x _ _ e)
theorem Ev.push (h : Heap) (o : Obj) : Ev h (h.push o) := fun _ _ e => Heap.get?_push_of_some _ e

/-- the part of a heap at the addresses that p takes -/
noncomputable def restr (h : Heap) (p : Addr → Bool) : Heap := ⟨Array.ofFn (n := h.objs.size) fun i => if p i then h.objs[i] else { cls := .none, data := .freed }, h.life⟩
theorem restr_get (h : Heap) (p : Addr → Bool) (a : Addr) : (restr h p).get? a = if p a = true then h.get? a else none := by
  cases hg : (restr h p).get? a with
  | some o =>
    obtain ⟨e1, e2⟩ := Heap.get?_some_iff.mp hg
    unfold restr at e1
    simp only [Array.getElem?_ofFn] at e1
    split at e1
    · rename_i hlt
      cases hp : p a with
      | true =>
        rw [if_pos rfl]
        simp only [hp, if_true, Option.some.injEq] at e1
        subst e1
        exact (Heap.get?_some_iff.mpr ⟨Array.getElem?_eq_getElem hlt, e2⟩).symm
      | false =>
        simp only [hp, Bool.false_eq_true, if_false, Option.some.injEq] at e1
        subst e1
        cases e2
    · cases e1
  | none =>
    cases hp : p a with
    | false => rw [if_neg Bool.false_ne_true]
    | true =>
      rw [if_pos rfl]
      cases hh : h.get? a with
      | none => rfl
      | some o =>
        exfalso
        obtain ⟨e1, e2⟩ := Heap.get?_some_iff.mp hh
        have hlt := Heap.lt_size hh
        have : (restr h p).get? a = some o := Heap.get?_some_iff.mpr ⟨by
          unfold restr
          simp only [Array.getElem?_ofFn]
          rw [dif_pos hlt]
          simp only [hp, if_true]
          rw [Array.getElem?_eq_getElem hlt] at e1
          exact e1, e2⟩
        rw [hg] at this; cases this

/-- the frozen part grows, by what is not in S -/
noncomputable def Gr (S T T' : Heap) : Prop := Ev T T' ∧ ∀ a o, T'.get? a = some o → T.get? a = some o ∨ S.get? a = none
theorem Gr.refl (S T : Heap) : Gr S T T := ⟨Ev.refl _, fun _ _ e => .inl e⟩
theorem Gr.trans {S T T' T'' : Heap} (x : Gr S T T') (y : Gr S T' T'') : Gr S T T'' :=
  ⟨x.1.trans y.1, fun a o e => (y.2 a o e).elim (fun e => x.2 a o e) .inr⟩
theorem Gr.weak {S S' T T' : Heap} (x : Gr S' T T') (k : Ev S S') : Gr S T T' :=
  ⟨x.1, fun a o e => (x.2 a o e).imp id fun n => by
    cases q : S.get? a with
    | none => rfl
    | some o' => rw [k a o' q] at n; cases n⟩

noncomputable abbrev Own := List (Addr × (Obj → Prop))

structure St (S T h : Heap) (own : Own) : Prop where
  kS : Ev S h
  kT : Ev T h
  ow : ∀ p ∈ own, ∃ o, h.get? p.1 = some o ∧ p.2 o
  nd : (own.map (·.1)).Nodup
  fS : ∀ p ∈ own, S.get? p.1 = none
  fT : ∀ p ∈ own, T.get? p.1 = none

theorem none_of_ev {T h : Heap} (k : Ev T h) {a : Addr} (e : h.get? a = none) : T.get? a = none := by
  cases q : T.get? a with
  | none => rfl
  | some o => rw [k a o q] at e; cases e
theorem get_size (h : Heap) : h.get? h.objs.size = none := by
  cases q : h.get? h.objs.size with
  | none => rfl
  | some o => exact absurd (Heap.lt_size q) (Nat.lt_irrefl _)

namespace St
variable {S T h : Heap} {own : Own}

theorem start (k : Ev T h) : St h T h [] := ⟨Ev.refl _, k, fun _ hp => (nomatch hp), List.nodup_nil, fun _ hp => (nomatch hp), fun _ hp => (nomatch hp)⟩

theorem grow (X : St S T h own) {h' : Heap} (k : Ev h h') : St S T h' own :=
  ⟨X.kS.trans k, X.kT.trans k, fun p hp => let ⟨o, a, b⟩ := X.ow p hp; ⟨o, k _ _ a, b⟩, X.nd, X.fS, X.fT⟩

theorem at' (X : St S T h own) {i : Nat} {d : Addr} {P : Obj → Prop} (hi : own[i]? = some (d, P)) : ∃ o, h.get? d = some o ∧ P o := X.ow _ (List.mem_of_getElem? hi)

theorem lt (X : St S T h own) {p : Addr × (Obj → Prop)} (hp : p ∈ own) : p.1 < h.objs.size := let ⟨_, a, _⟩ := X.ow p hp; Heap.lt_size a

theorem alloc (X : St S T h own) {o : Obj} {P : Obj → Prop} (hP : P o) (hf : o.isFreed = false) : St S T (h.push o) ((h.objs.size, P) :: own) := by
  have G := X.grow (Ev.push h o)
  refine ⟨G.kS, G.kT, fun p hp => ?_, ?_, fun p hp => ?_, fun p hp => ?_⟩
  · rcases List.mem_cons.mp hp with rfl | hp
    · exact ⟨o, Heap.get?_push_size _ hf, hP⟩
    · exact G.ow p hp
  · rw [List.map_cons, List.nodup_cons]
    refine ⟨fun hm => ?_, X.nd⟩
    obtain ⟨p, hp, e⟩ := List.mem_map.mp hm
    exact absurd (X.lt hp) (by rw [e]; exact Nat.lt_irrefl _)
  · rcases List.mem_cons.mp hp with rfl | hp
    · exact none_of_ev X.kS (get_size h)
    · exact X.fS p hp
  · rcases List.mem_cons.mp hp with rfl | hp
    · exact none_of_ev X.kT (get_size h)
    · exact X.fT p hp

/-- what lies in the heap, not owned and not of S, may be frozen -/
theorem freezeBy (X : St S T h own) (q : Addr → Bool) (hq : ∀ p ∈ own, q p.1 = false) (hS : ∀ a, q a = true → S.get? a = none) :
    ∃ T', Gr S T T' ∧ St S T' h own ∧ ∀ a o, q a = true → h.get? a = some o → T'.get? a = some o := by
  let T' := restr h fun a => (T.get? a).isSome || q a
  have hT' : ∀ a o, T'.get? a = some o ↔ h.get? a = some o ∧ ((T.get? a).isSome || q a) = true := fun a o => by
    show (restr h _).get? a = some o ↔ _
    rw [restr_get]
    by_cases hc : ((T.get? a).isSome || q a) = true
    · rw [if_pos hc]; exact ⟨fun e => ⟨e, hc⟩, fun e => e.1⟩
    · rw [if_neg hc]; exact ⟨fun e => (by cases e), fun e => absurd e.2 hc⟩
  refine ⟨T', ⟨fun b o e => (hT' b o).mpr ⟨X.kT b o e, by rw [e]; rfl⟩, fun a o e => ?_⟩, ⟨X.kS, fun b o e => ((hT' b o).mp e).1, X.ow, X.nd, X.fS, fun p hp => ?_⟩, fun a o hqa e => (hT' a o).mpr ⟨e, by rw [hqa, Bool.or_true]⟩⟩
  · obtain ⟨e1, e2⟩ := (hT' a o).mp e
    rcases Bool.or_eq_true_iff.mp e2 with e2 | e2
    · obtain ⟨o', ho'⟩ := Option.isSome_iff_exists.mp e2
      have := X.kT a o' ho'
      rw [e1] at this; cases this
      exact .inl ho'
    · exact .inr (hS a e2)
  · cases z : T'.get? p.1 with
    | none => rfl
    | some o =>
      obtain ⟨_, e2⟩ := (hT' _ o).mp z
      rw [X.fT p hp, hq p hp] at e2
      cases e2

/-- a new frozen object -/
theorem fresh (X : St S T h own) {o : Obj} (hf : o.isFreed = false) : ∃ T', Gr S T T' ∧ T'.get? h.objs.size = some o ∧ St S T' (h.push o) own := by
  have G := X.grow (Ev.push h o)
  obtain ⟨T', g, x, k⟩ := G.freezeBy (fun a => a == h.objs.size) (fun p hp => by
    have := Nat.ne_of_lt (X.lt hp)
    simpa using this) (fun a ha => by
      rw [beq_iff_eq.mp ha]; exact none_of_ev X.kS (get_size h))
  exact ⟨T', g, k _ _ (beq_self_eq_true _) (Heap.get?_push_size _ hf), x⟩

theorem set (X : St S T h own) {i : Nat} {d : Addr} {P P' : Obj → Prop} (hi : own[i]? = some (d, P)) {h' : Heap} (k : Heap.ExtBut d h h') (hP : ∃ o, h'.get? d = some o ∧ P' o) :
    St S T h' (own.set i (d, P')) := by
  have hm : (d, P) ∈ own := List.mem_of_getElem? hi
  have hlt : i < own.length := (List.getElem?_eq_some_iff.mp hi).1
  have hid : own[i] = (d, P) := (List.getElem?_eq_some_iff.mp hi).2
  have hmap : (own.set i (d, P')).map (·.1) = own.map (·.1) := by
    rw [List.map_set]
    show (own.map (·.1)).set i d = _
    refine List.ext_getElem? fun j => ?_
    rw [List.getElem?_set]
    split
    · rename_i e; subst e
      rw [List.length_map, if_pos hlt, List.getElem?_map, hi]; rfl
    · rfl
  have hmem : ∀ p ∈ own.set i (d, P'), p = (d, P') ∨ (p ∈ own ∧ p.1 ≠ d) := fun p hp => by
    obtain ⟨j, hj⟩ := List.mem_iff_getElem?.mp hp
    rw [List.getElem?_set] at hj
    split at hj
    · exact .inl (Option.some.inj hj).symm
    · rename_i hne
      refine .inr ⟨List.mem_of_getElem? hj, fun e => hne ?_⟩
      have h1 : (own.map (·.1))[i]? = some d := by rw [List.getElem?_map, hi]; rfl
      have h2 : (own.map (·.1))[j]? = some d := by rw [List.getElem?_map, hj, ← e]; rfl
      exact (List.getElem?_inj (by rw [List.length_map]; exact hlt) X.nd).mp (h1.trans h2.symm)
  have nS := X.fS _ hm
  have nT := X.fT _ hm
  refine ⟨fun b o e => k b o (fun z => by subst z; rw [nS] at e; cases e) (X.kS b o e), fun b o e => k b o (fun z => by subst z; rw [nT] at e; cases e) (X.kT b o e), fun p hp => ?_, by rw [hmap]; exact X.nd, fun p hp => ?_, fun p hp => ?_⟩
  · rcases hmem p hp with rfl | ⟨hp, hne⟩
    · exact hP
    · obtain ⟨o, a, b⟩ := X.ow p hp
      exact ⟨o, k _ _ hne a, b⟩
  · rcases hmem p hp with rfl | ⟨hp, _⟩
    · exact nS
    · exact X.fS p hp
  · rcases hmem p hp with rfl | ⟨hp, _⟩
    · exact nT
    · exact X.fT p hp

theorem sub (X : St S T h own) {own' : Own} (hs : own'.Sublist own) : St S T h own' :=
  ⟨X.kS, X.kT, fun p hp => X.ow p (hs.subset hp), X.nd.sublist (hs.map _), fun p hp => X.fS p (hs.subset hp), fun p hp => X.fT p (hs.subset hp)⟩
theorem perm (X : St S T h own) {own' : Own} (hs : own'.Perm own) : St S T h own' :=
  ⟨X.kS, X.kT, fun p hp => X.ow p (hs.mem_iff.mp hp), (hs.map _).nodup_iff.mpr X.nd, fun p hp => X.fS p (hs.mem_iff.mp hp), fun p hp => X.fT p (hs.mem_iff.mp hp)⟩
theorem swap {a b : Addr × (Obj → Prop)} (X : St S T h (a :: b :: own)) : St S T h (b :: a :: own) := X.perm (List.Perm.swap ..)
theorem tail {a : Addr × (Obj → Prop)} (X : St S T h (a :: own)) : St S T h own := X.sub (List.sublist_cons_self ..)
theorem drop1 {a b : Addr × (Obj → Prop)} (X : St S T h (a :: b :: own)) : St S T h (a :: own) := X.swap.tail

/-- the second owned object is frozen -/
theorem freeze1 {f : Addr × (Obj → Prop)} {d : Addr} {P : Obj → Prop} (X : St S T h (f :: (d, P) :: own)) : ∃ T' o, Gr S T T' ∧ T'.get? d = some o ∧ P o ∧ St S T' h (f :: own) := by
  obtain ⟨o, ho, hP⟩ := X.ow (d, P) (by simp)
  have nd := X.nd
  simp only [List.map_cons, List.nodup_cons, List.mem_cons, not_or] at nd
  obtain ⟨T', g, x, k⟩ := X.drop1.freezeBy (fun a => a == d) (fun p hp => by
    rcases List.mem_cons.mp hp with rfl | hp
    · simpa using nd.1.1
    · have : p.1 ≠ d := fun e => nd.2.1 (by rw [← e]; exact List.mem_map_of_mem hp)
      simpa using this) (fun a ha => by rw [beq_iff_eq.mp ha]; exact X.fS (d, P) (by simp))
  exact ⟨T', o, g, k _ _ (beq_self_eq_true _) ho, hP, x⟩

/-- behind a call that kept all -/
theorem call (X : St S T h own) {h' T' : Heap} (k : Ev h h') (g : Gr h T T') (kT : Ev T' h') : Gr S T T' ∧ St S T' h' own :=
  ⟨g.weak X.kS, X.kS.trans k, kT, fun p hp => let ⟨o, a, b⟩ := X.ow p hp; ⟨o, k _ _ a, b⟩, X.nd, X.fS, fun p hp => by
    cases q : T'.get? p.1 with
    | none => rfl
    | some o =>
      rcases g.2 _ _ q with e | e
      · rw [X.fT p hp] at e; cases e
      · obtain ⟨o', a, _⟩ := X.ow p hp
        rw [e] at a; cases a⟩
end St

/-- a frame's names -/
noncomputable def NsO (m : Str → Option Value) (o : Obj) : Prop := ∃ es ep, o.data = .dict es ep ∧ StrKeys es ∧ ∀ name, nsFind es name = m name
theorem nsO_iff {h : Heap} {a : Addr} {m : Str → Option Value} : h.Ns a m ↔ ∃ o, h.get? a = some o ∧ NsO m o :=
  ⟨fun h => by obtain ⟨o, es, ep, e, r⟩ := h; exact ⟨o, e, es, ep, r⟩, fun h => by obtain ⟨o, e, es, ep, r⟩ := h; exact ⟨o, es, ep, e, r⟩⟩
noncomputable def CellO (v : Option Value) (o : Obj) : Prop := o.data = .cell v
noncomputable def LstO (xs : List Value) (o : Obj) : Prop := ∃ n, o = { cls := .type "list", data := .seq xs.toArray n }
noncomputable abbrev FS (S T h : Heap) (L : Addr) (m : Str → Option Value) (own : Own) : Prop := St S T h ((L, NsO m) :: own)

theorem St.ns {S T h : Heap} {L : Addr} {m : Str → Option Value} {own : Own} (X : FS S T h L m own) : h.Ns L m := nsO_iff.mpr (X.ow (L, NsO m) (by simp))
theorem St.setNs {S T h h' : Heap} {L : Addr} {m m' : Str → Option Value} {own : Own} (X : FS S T h L m own) (hn : h'.Ns L m') (hs : Heap.SameBut L h h') : FS S T h' L m' own :=
  X.set (i := 0) rfl hs.extBut (nsO_iff.mp hn)

end Mine
end

section
open PySem PySem.W PySem.Calls PyProof.Rows
set_option maxRecDepth 100000
namespace Mine

noncomputable abbrev PR : Program := PySem.Challenge.rw_rg0112_01.row.prog

/-! the text's defs, by their place -/
noncomputable def dStmt (i : Nat) : Stmt := (PySem.Challenge.rw_rg0112_01.row.prog.main.body[i]?).getD (.Pass ⟨0, 0, 0, 0⟩)
noncomputable def dName : Stmt → Str
  | .FunctionDef (name := n) .. => n
  | _ => Str.empty
noncomputable def dParams : Stmt → Arguments
  | .FunctionDef (args := a) .. => a
  | _ => default
noncomputable def dBody : Stmt → List Stmt
  | .FunctionDef (body := b) .. => b
  | _ => []
noncomputable def dScope : Stmt → Scope
  | .FunctionDef (scope := s) .. => s
  | _ => default

noncomputable def Same (s s' : Shared) : Prop := s'.gens = s.gens ∧ s'.os = s.os ∧ s'.os = s.os
theorem Same.refl (s : Shared) : Same s s := ⟨rfl, rfl, rfl⟩
theorem Same.trans {a b c : Shared} (x : Same a b) (y : Same b c) : Same a c := ⟨y.1.trans x.1, y.2.1.trans x.2.1, y.2.2.trans x.2.2⟩

structure Fx (S T₀ : Heap) (s₀ : Shared) (T : Heap) (L : Addr) (m : Str → Option Value) (own : Own) (s : Shared) : Prop where
  st : FS S T s.heap L m own
  gr : Gr S T₀ T
  sm : Same s₀ s

/-- room for d calls more -/
structure Room (A : Around) (d : Nat) : Prop where
  hh : A.handled = none
  hd : A.depth + d < recursionLimit
  hu : A.units + 8 * d < cLine
theorem Room.mono {A : Around} {d d' : Nat} (r : Room A d) (h : d' ≤ d) : Room A d' := ⟨r.hh, by have := r.hd; lia, by have := r.hu; lia⟩
theorem Room.u {A : Around} {d : Nat} (r : Room A d) : A.units < cLine := by have := r.hu; lia

/-- what a call wants and gives -/
noncomputable def Spec (w : World) (f : Addr) (d : Nat) (args : List Value) (T : Heap) (s : Shared) (Post : Heap → Value → Prop) : Prop :=
  ∀ (A : Around) (Q E : Value → Shared → Prop), Room A d →
    (∀ r s' T', Same s s' → Ev s.heap s'.heap → Gr s.heap T T' → Ev T' s'.heap → Post T' r → Q r s') →
    wpAny (model PR w) A (call (.ref f) args) Q E s

/-- the end of a body -/
noncomputable def Done (S T₀ : Heap) (s₀ : Shared) (Post : Heap → Value → Prop) (r : Value) (s' : Shared) : Prop :=
  ∃ T', Same s₀ s' ∧ Ev S s'.heap ∧ Gr S T₀ T' ∧ Ev T' s'.heap ∧ Post T' r

noncomputable def retOf : Flow → Value
  | .ret v => v
  | _ => .none

noncomputable def envF (scope : Scope) (q : Str) (L f : Addr) (cd : Value) : Env :=
  { scope, locals := L, globals := mainGlobals, cells := cellsFrom (L + 1) scope.names [], qual := q ++ ".<locals>.", func := some f, code := cd, frame := some L, builtins := builtinsNs }

noncomputable def FnAt (h : Heap) (f : Addr) (name : Str) (params : Arguments) (body : List Stmt) (scope : Scope) : Prop :=
  ∃ o doc pm an cdv ct, h.get? f = some o ∧ o.data = .func (fnOf name name params body scope .none .none doc pm an cdv ct) ∧ h.CodeRec cdv name
theorem FnAt.keeps {h h' : Heap} {f : Addr} {name : Str} {params : Arguments} {body : List Stmt} {scope : Scope} (x : FnAt h f name params body scope) (k : Ev h h') : FnAt h' f name params body scope :=
  by
  obtain ⟨o, doc, pm, an, cdv, ct, a, b, c⟩ := x
  exact ⟨o, doc, pm, an, cdv, ct, k _ _ a, b, c.keeps k⟩

/-- where the top put them -/
noncomputable def globTab : List (Str × Value) := [(Str.ofString "is_variable", .ref 62), (Str.ofString "variables", .ref 67), (Str.ofString "parts", .ref 72), (Str.ofString "filled", .ref 77), (Str.ofString "followed", .ref 84),
  (Str.ofString "is_within", .ref 91), (Str.ofString "begun", .ref 98), (Str.ofString "in_turn", .ref 103), (Str.ofString "worked_out", .ref 108), (Str.ofString "unified", .ref 115), (Str.ofString "_law_names", .ref 116),
  (Str.ofString "_law_pull", .ref 123), (Str.ofString "_law_leaf", .ref 130), (Str.ofString "_law_drawn", .ref 137), (Str.ofString "_law_leaves", .ref 142), (Str.ofString "_law_is_bare", .ref 149)]
noncomputable def fnTab : List (Nat × Addr) := [(4, 62), (5, 67), (6, 72), (10, 77), (11, 84), (12, 91), (13, 98), (14, 103), (15, 108), (16, 115), (19, 123), (20, 130), (21, 137), (22, 142), (23, 149)]
noncomputable def bootTab : List (Str × Value) := [(Str.ofString "len", .builtin "len"), (Str.ofString "sorted", .builtin "sorted"), (Str.ofString "set", .type "set"), (Str.ofString "enumerate", .type "enumerate"), (Str.ofString "zip", .type "zip"),
  (Str.ofString "list", .type "list"), (Str.ofString "tuple", .type "tuple"), (Str.ofString "sum", .builtin "sum"), (Str.ofString "max", .builtin "max"), (Str.ofString "int", .type "int")]

/-- the text's own things, frozen -/
structure Gnd (w : World) (T : Heap) : Prop where
  lim : T.NoLimit
  glob : ∃ mg mb, T.Ns mainGlobals mg ∧ T.Ns builtinsNs mb ∧ (∀ p ∈ globTab, mg p.1 = some p.2) ∧ (∀ p ∈ bootTab, mg p.1 = none ∧ mb p.1 = some p.2) ∧
    (∃ t, mg (Str.ofString "MOST_SIZE") = some (.int 10000 t)) ∧ ∃ t, mg (Str.ofString "MOST_LEVELS") = some (.int 200 t)
  sys : ∃ o, T.get? sysModules = some o
  fns : ∀ p ∈ fnTab, FnAt T p.2 (dName (dStmt p.1)) (dParams (dStmt p.1)) (dBody (dStmt p.1)) (dScope (dStmt p.1))
theorem Gnd.keeps {w : World} {T T' : Heap} (G : Gnd w T) (k : Ev T T') : Gnd w T' :=
  ⟨G.lim.keeps k, by obtain ⟨mg, mb, a, b, r⟩ := G.glob; exact ⟨mg, mb, a.keeps k, b.keeps k, r⟩, by obtain ⟨o, e⟩ := G.sys; exact ⟨o, k _ _ e⟩, fun p hp => (G.fns p hp).keeps k⟩

theorem Fx.tok {S T₀ : Heap} {s₀ s : Shared} {T : Heap} {L : Addr} {m : Str → Option Value} {own : Own} (X : Fx S T₀ s₀ T L m own s) (t : Nat) : Fx S T₀ s₀ T L m own { s with toks := t } := ⟨X.st, X.gr, X.sm⟩
theorem Fx.to {S T₀ : Heap} {s₀ s : Shared} {T T' : Heap} {L L' : Addr} {m m' : Str → Option Value} {own own' : Own} (X : Fx S T₀ s₀ T L m own s) {h' : Heap} {t : Nat} (F : FS S T' h' L' m' own') (g : Gr S T T') :
    Fx S T₀ s₀ T' L' m' own' { s with heap := h', toks := t } := ⟨F, X.gr.trans g, X.sm⟩
theorem Fx.to' {S T₀ : Heap} {s₀ s : Shared} {T : Heap} {L L' : Addr} {m m' : Str → Option Value} {own own' : Own} (X : Fx S T₀ s₀ T L m own s) {h' : Heap} {t : Nat} (F : FS S T h' L' m' own') :
    Fx S T₀ s₀ T L' m' own' { s with heap := h', toks := t } := ⟨F, X.gr, X.sm⟩

/-- a body's end from its state -/
theorem Fx.done {S T₀ : Heap} {s₀ s : Shared} {T : Heap} {L : Addr} {m : Str → Option Value} {own : Own} (X : Fx S T₀ s₀ T L m own s) {Post : Heap → Value → Prop} {r : Value} (h : Post T r) : Done S T₀ s₀ Post r s :=
  ⟨T, X.sm, X.st.kS, X.gr, X.st.kT, h⟩

noncomputable def cellsOwn (scope : Scope) (L : Addr) (cm : Str → Option Value) : Own := (cellsFrom (L + 1) scope.names []).map fun p => (p.2, CellO (cm p.1))

theorem lookup_mem_nodup {α : Type} : ∀ {l : List (Str × α)}, (l.map (·.1)).Nodup → ∀ {n : Str} {c : α}, (n, c) ∈ l → l.lookup n = some c
  | (k, v) :: r, hn, n, c, hm => by
    rw [List.lookup_cons]
    rw [List.map_cons, List.nodup_cons] at hn
    rcases List.mem_cons.mp hm with e | hm
    · cases e; simp
    · have : n ≠ k := fun e => hn.1 (e ▸ List.mem_map_of_mem (f := (·.1)) hm)
      rw [show (n == k) = false from by simpa using this]
      exact lookup_mem_nodup hn.2 hm

theorem cellsFrom_names : ∀ (names : List (Str × NameKind)) (n k : Nat) (acc acc' : List (Str × Addr)), acc.map (·.1) = acc'.map (·.1) → (cellsFrom n names acc).map (·.1) = (cellsFrom k names acc').map (·.1)
  | [], _, _, _, _, e => e
  | (x, kind) :: r, n, k, acc, acc', e => by
    unfold cellsFrom
    split
    · exact cellsFrom_names r _ _ _ _ (by rw [List.map_cons, List.map_cons, e])
    · exact cellsFrom_names r _ _ _ _ e

theorem enter {w : World} {f : Addr} {d : Nat} {name : Str} {params : Arguments} {body : List Stmt} {scope : Scope} {args : List Value} {T : Heap} {s : Shared} {Post : Heap → Value → Prop} {binds : List (Str × Value)}
    (hF : FnAt T f name params body scope) (hlim : T.NoLimit) (kT : Ev T s.heap)
    (hbind : ∀ doc pm an cdv ct, bindArgs (fnOf name name params body scope .none .none doc pm an cdv ct) ⟨args, []⟩ = pure binds)
    (hkind : (binds.all fun y => scope.names.lookup y.1 == some .local || scope.names.lookup y.1 == some .cell) = true)
    (hnd : ((cellsFrom 0 scope.names []).map (·.1)).Nodup)
    (h : ∀ (A : Around) (cd : Value) (s₁ : Shared) (E : Value → Shared → Prop) (S : Heap) (L : Addr) (Q : Flow → Shared → Prop), Ev s.heap S → Room A d →
      Fx S T s T L (bindL (envF scope name L f cd).kindOf binds fun _ => none) (cellsOwn scope L (bindC (envF scope name L f cd).kindOf binds fun _ => none)) s₁ →
      (∀ fl s', Done S T s Post (retOf fl) s' → Q fl s') → wpAny (model PR w) A (execs body (envF scope name L f cd)) Q E s₁)
    (hco : scope.isCoroutine = false := by rfl) (hgen : scope.isGenerator = false := by rfl) (hk : scope.kind = .function := by rfl) :
    Spec w f (d + 1) args T s Post := by
  intro A Q E ⟨hh, hd, hu⟩ hQ
  obtain ⟨o, doc, pm, an, cdv, ct, ho, hdat, hcd⟩ := hF
  refine wpAny_call ?_
  refine codeAny_call_cells (fd := fnOf name name params body scope .none .none doc pm an cdv ct) (body := body) (binds := binds) (by lia) (kT _ _ ho) hdat (hlim.keeps kT) (hcd.keeps kT) rfl (hbind _ _ _ _ _) rfl (kindsX hkind _) (fun s₁ I => ?_) hco hgen hk
  have e : callEnvC (fnOf name name params body scope .none .none doc pm an cdv ct) s.heap.objs.size f = envF scope name s.heap.objs.size f cdv := rfl
  rw [e] at I ⊢
  have hsame := I.toInCall.same
  refine wpAny_mono (h (A.deeper (envF scope name s.heap.objs.size f cdv)) cdv s₁ _ s.heap s.heap.objs.size (fun fl s' => Done s.heap T s Post (retOf fl) s') (Ev.refl _) ⟨hh, by show A.depth + 1 + d < _; lia, by show A.units + 3 + 8 * d < _; lia⟩ ⟨⟨I.toInCall.keep, kT.trans I.toInCall.keep, fun p hp => ?_, ?_, fun p hp => ?_, fun p hp => ?_⟩, Gr.refl _ _, ?_⟩ fun _ _ x => x) (fun fl s' hd' => ?_) fun _ _ x => x
  · rcases List.mem_cons.mp hp with rfl | hp
    · exact nsO_iff.mp I.toInCall.ns
    · obtain ⟨q, hq, rfl⟩ := List.mem_map.mp hp
      have hnd' : ((cellsFrom (s.heap.objs.size + 1) scope.names []).map (·.1)).Nodup := by rw [← cellsFrom_names scope.names 0 _ [] [] rfl]; exact hnd
      exact I.cell q.1 q.2 (lookup_mem_nodup (l := cellsFrom (s.heap.objs.size + 1) scope.names []) hnd' hq)
  · rw [List.map_cons, List.nodup_cons]
    refine ⟨fun hm => ?_, ?_⟩
    · obtain ⟨p, hp, e⟩ := List.mem_map.mp hm
      obtain ⟨q, hq, rfl⟩ := List.mem_map.mp hp
      exact absurd (I.above q.1 q.2 hq) (by have e' : q.2 = s.heap.objs.size := e; rw [e']; exact Nat.lt_irrefl _)
    · show ((cellsOwn scope s.heap.objs.size _).map (·.1)).Nodup
      unfold cellsOwn
      rw [List.map_map]
      exact List.pairwise_map.mpr I.apart
  · rcases List.mem_cons.mp hp with rfl | hp
    · exact get_size _
    · obtain ⟨q, hq, rfl⟩ := List.mem_map.mp hp
      have := I.above q.1 q.2 hq
      cases z : s.heap.get? q.2 with
      | none => rfl
      | some o => exact absurd (Heap.lt_size z) (Nat.not_lt.mpr (Nat.le_of_lt this))
  · refine none_of_ev kT ?_
    rcases List.mem_cons.mp hp with rfl | hp
    · exact get_size _
    · obtain ⟨q, hq, rfl⟩ := List.mem_map.mp hp
      have := I.above q.1 q.2 hq
      cases z : s.heap.get? q.2 with
      | none => rfl
      | some o => exact absurd (Heap.lt_size z) (Nat.not_lt.mpr (Nat.le_of_lt this))
  · obtain ⟨h', t, e⟩ := hsame
    rw [e]; exact ⟨rfl, rfl, rfl⟩
  · obtain ⟨T', a, b, c, d', e⟩ := hd'
    cases fl <;> exact hQ _ _ _ a b c d' e

section
variable {w : World} {A : Around} {E : Value → Shared → Prop} {S T₀ T : Heap} {s₀ s : Shared} {L : Addr} {m : Str → Option Value} {own : Own} {env : Env}

theorem e_glob {x : Str} {pos : Pos} {v : Value} {Q : Value → Shared → Prop} (X : Fx S T₀ s₀ T L m own s) (G : Gnd w T) (hv : globTab.lookup x = some v) (h : Q v s)
    (hk : env.scope.kind = .function := by rfl) (hx : env.kindOf x = some .globalImplicit := by rfl) (hg : env.globals = mainGlobals := by rfl) (hd : (x == ("__debug__" : Str)) = false := by decide) :
    wpAny (model PR w) A (eval (.Name x pos) env) Q E s := by
  obtain ⟨mg, mb, a, _, b, _⟩ := G.glob
  exact Name_function_global hk hx (loadGlobal_global (mg := mg) (by rw [hg]; exact (a.keeps X.st.kT)) (b _ (mem_of_lookup hv)) h) hd
theorem e_boot {x : Str} {pos : Pos} {v : Value} {Q : Value → Shared → Prop} (X : Fx S T₀ s₀ T L m own s) (G : Gnd w T) (hv : bootTab.lookup x = some v) (h : Q v s)
    (hk : env.scope.kind = .function := by rfl) (hx : env.kindOf x = some .globalImplicit := by rfl) (hg : env.globals = mainGlobals := by rfl) (hb : env.builtins = builtinsNs := by rfl) (hd : (x == ("__debug__" : Str)) = false := by decide) :
    wpAny (model PR w) A (eval (.Name x pos) env) Q E s := by
  obtain ⟨mg, mb, a, b, _, c, _⟩ := G.glob
  exact Name_function_global hk hx (loadGlobal_builtin (mg := mg) (mb := mb) (by rw [hg]; exact a.keeps X.st.kT) (c _ (mem_of_lookup hv)).1 (by rw [hb]; exact b.keeps X.st.kT) (c _ (mem_of_lookup hv)).2 h) hd
theorem e_loc {x : Str} {pos : Pos} {v : Value} {Q : Value → Shared → Prop} (X : Fx S T₀ s₀ T L m own s) (hv : m x = some v) (h : Q v s)
    (hL : env.locals = L := by rfl) (hk : env.scope.kind = .function := by rfl) (hx : env.kindOf x = some .local := by rfl) (hd : (x == ("__debug__" : Str)) = false := by decide) :
    wpAny (model PR w) A (eval (.Name x pos) env) Q E s := wpAny_Name (wpAny_loadName_local hk hx (by rw [hL]; exact X.st.ns) hv h) hd
theorem e_cell {x : Str} {pos : Pos} {c : Addr} {v : Value} {i : Nat} {Q : Value → Shared → Prop} (X : Fx S T₀ s₀ T L m own s) (hi : own[i]? = some (c, CellO (some v))) (h : Q v s)
    (hc : env.cells.lookup x = some c := by rfl) (hk : env.scope.kind = .function := by rfl) (hx : env.kindOf x = some .cell := by rfl) (hd : (x == ("__debug__" : Str)) = false := by decide) :
    wpAny (model PR w) A (eval (.Name x pos) env) Q E s := wpAny_Name (wpAny_loadName_cell hk hx hc (X.st.at' (i := i + 1) hi) h) hd
theorem e_cellT {x : Str} {pos : Pos} {c : Addr} {v : Value} {Q : Value → Shared → Prop} (X : Fx S T₀ s₀ T L m own s) (hi : T.IsCell c (some v)) (h : Q v s)
    (hc : env.cells.lookup x = some c := by rfl) (hk : env.scope.kind = .function := by rfl) (hx : env.kindOf x = some .cell := by rfl) (hd : (x == ("__debug__" : Str)) = false := by decide) :
    wpAny (model PR w) A (eval (.Name x pos) env) Q E s := wpAny_Name (wpAny_loadName_cell hk hx hc (hi.keeps X.st.kT) h) hd
theorem e_free {x : Str} {pos : Pos} {c : Addr} {v : Value} {i : Nat} {Q : Value → Shared → Prop} (X : Fx S T₀ s₀ T L m own s) (hi : own[i]? = some (c, CellO (some v))) (h : Q v s)
    (hc : env.cells.lookup x = some c := by rfl) (hk : env.scope.kind = .function := by rfl) (hx : env.kindOf x = some .free := by rfl) (hn : (x == ("__classdict__" : Str)) = false := by decide) (hd : (x == ("__debug__" : Str)) = false := by decide) :
    wpAny (model PR w) A (eval (.Name x pos) env) Q E s := wpAny_Name (wpAny_loadName_free hk hx hc (X.st.at' (i := i + 1) hi) h hn) hd

theorem Fx.call {s' : Shared} {T' : Heap} (X : Fx S T₀ s₀ T L m own s) (sm : Same s s') (k : Ev s.heap s'.heap) (g : Gr s.heap T T') (kT : Ev T' s'.heap) : Fx S T₀ s₀ T' L m own s' :=
  let ⟨a, b⟩ := X.st.call k g kT; ⟨b, X.gr.trans a, X.sm.trans sm⟩
theorem use_spec {f : Addr} {d : Nat} {args : List Value} {Post : Heap → Value → Prop} {Q : Value → Shared → Prop} (X : Fx S T₀ s₀ T L m own s) (sp : Spec w f d args T s Post) (r : Room A d)
    (h : ∀ r s' T', Fx S T₀ s₀ T' L m own s' → Ev T T' → Post T' r → Q r s') : wpAny (model PR w) A (call (.ref f) args) Q E s :=
  sp A Q E r fun r s' T' sm k g kT post => h r s' T' (X.call sm k g kT) g.1 post

theorem Gnd.fn (G : Gnd w T) {i : Nat} {f : Addr} (h : (i, f) ∈ fnTab) : FnAt T f (dName (dStmt i)) (dParams (dStmt i)) (dBody (dStmt i)) (dScope (dStmt i)) := G.fns _ h
theorem Gnd.isFn (G : Gnd w T) {f : Addr} (h : f ∈ fnTab.map (·.2)) : ∃ o fd, T.get? f = some o ∧ o.data = .func fd := by
  obtain ⟨p, hp, rfl⟩ := List.mem_map.mp h
  obtain ⟨o, doc, pm, an, cdv, ct, a, b, _⟩ := G.fns p hp
  exact ⟨o, _, a, b⟩

/-- a call of a def of the text's, by its name -/
theorem e_call {x : Str} {p pos : Pos} {e : Expr} {rest : List Expr} {f : Addr} {Q : Value → Shared → Prop} (X : Fx S T₀ s₀ T L m own s) (G : Gnd w T) (hv : globTab.lookup x = some (.ref f)) (hf : f ∈ fnTab.map (·.2))
    (h : wpAny (model PR w) A (spliced (backTo pos (starEach (e :: rest) env))) (fun vs s₁ => Ev T s₁.heap ∧ wpAny (model PR w) A (call (.ref f) vs) Q E s₁) E s)
    (hk : env.scope.kind = .function := by rfl) (hx : env.kindOf x = some .globalImplicit := by rfl) (hg : env.globals = mainGlobals := by rfl) (hd : (x == ("__debug__" : Str)) = false := by decide)
    (he : starEach (e :: rest) env = (false, eval e env) :: starEach rest env := by rfl) :
    wpAny (model PR w) A (eval (.Call (.Name x p) (e :: rest) [] pos) env) Q E s := by
  obtain ⟨o, fd, ho, hdat⟩ := G.isFn hf
  refine Call_ (e_glob X G hv ?_ hk hx hg hd)
  exact callWith_def hdat (wpAny_mono h (fun vs s₁ ⟨a, b⟩ => ⟨a _ _ ho, b⟩) fun _ _ x => x) he

noncomputable def upd (m : Str → Option Value) (x : Str) (v : Value) : Str → Option Value := fun y => if y = x then some v else m y

theorem s_loc {x : Str} {v : Value} {Q : Unit → Shared → Prop} (X : Fx S T₀ s₀ T L m own s) (h : ∀ s', Fx S T₀ s₀ T L (upd m x v) own s' → Q () s')
    (hL : env.locals = L := by rfl) (hk : env.scope.kind = .function := by rfl) (hx : env.kindOf x = some .local := by rfl) :
    wpAny (model PR w) A (storeName env x v) Q E s :=
  wpAny_storeName_local (m := m) hx (by rw [hL]; exact X.st.ns) (fun h' hn hs => h _ (X.to' (X.st.setNs (by rw [← hL]; exact hn) (by rw [← hL]; exact hs)))) (by rw [hk]; rfl)
theorem s_cell {x : Str} {v : Value} {v₀ : Option Value} {c : Addr} {i : Nat} {Q : Unit → Shared → Prop} (X : Fx S T₀ s₀ T L m own s) (hi : own[i]? = some (c, CellO v₀)) (h : ∀ s', Fx S T₀ s₀ T L m (own.set i (c, CellO (some v))) s' → Q () s')
    (hc : env.cells.lookup x = some c := by rfl) (hk : env.scope.kind = .function := by rfl) (hx : env.kindOf x = some .cell := by rfl) :
    wpAny (model PR w) A (storeName env x v) Q E s :=
  wpAny_storeName_cell hk hx hc (X.st.at' (i := i + 1) hi) fun h' hc' hs => h _ ⟨X.st.set (i := i + 1) (P' := CellO (some v)) hi hs.extBut hc', X.gr, X.sm⟩
end

end Mine
end

section
open PySem PySem.W PySem.Calls PyProof.Rows
set_option maxRecDepth 100000
namespace Mine

/-- the heap grows, nothing else turns -/
structure Up (s s' : Shared) : Prop where
  sm : Same s s'
  ev : Ev s.heap s'.heap
theorem Up.refl (s : Shared) : Up s s := ⟨Same.refl _, Ev.refl _⟩
theorem Up.trans {a b c : Shared} (x : Up a b) (y : Up b c) : Up a c := ⟨x.sm.trans y.sm, x.ev.trans y.ev⟩
theorem Up.tk {s : Shared} {t : Nat} : Up s { s with toks := t } := ⟨⟨rfl, rfl, rfl⟩, Ev.refl _⟩
theorem Up.hp {s : Shared} {h : Heap} {t : Nat} (k : Ev s.heap h) : Up s { s with heap := h, toks := t } := ⟨⟨rfl, rfl, rfl⟩, k⟩

section
variable {w : World} {A : Around} {E : Value → Shared → Prop} {S T₀ T : Heap} {s₀ s s' : Shared} {L : Addr} {m : Str → Option Value} {own : Own} {env : Env} {Q : Value → Shared → Prop} {pos : Pos}

theorem Fx.up (X : Fx S T₀ s₀ T L m own s) (u : Up s s') : Fx S T₀ s₀ T L m own s' := ⟨X.st.grow u.ev, X.gr, X.sm.trans u.sm⟩

/-- a new frozen object -/
theorem Fx.new (X : Fx S T₀ s₀ T L m own s) {o : Obj} (hf : o.isFreed = false) : ∃ T', Ev T T' ∧ T'.get? s.heap.objs.size = some o ∧ Fx S T₀ s₀ T' L m own { s with heap := s.heap.push o } := by
  obtain ⟨T', g, e, x⟩ := X.st.fresh hf
  exact ⟨T', g.1, e, x, X.gr.trans g, X.sm⟩

/-! constants -/
theorem e_int {i : Int} {k : Nat} (h : ∀ t s', Up s s' → Q (.int i t) s') : wpAny (model PR w) A (eval (.Constant (.int i) k pos) env) Q E s := wpAny_Constant_int (h _ _ Up.tk)
theorem e_str {x : Str} {k : Nat} (h : ∀ t s', Up s s' → Q (.str x t) s') : wpAny (model PR w) A (eval (.Constant (.str x) k pos) env) Q E s := Constant_str (h _ _ Up.tk)

/-! what the rules below want of a value -/
inductive LenQ (Q : Value → Shared → Prop) (v : Value) (s₁ : Shared) : Prop
  | mk (a : Addr) (xs : Array Value) (hv : v = .ref a) (ht : IsTup s₁.heap a xs ∨ s₁.heap.IsList a xs) (hz : xs.size < 2 ^ 40) (h : ∀ t s', Up s₁ s' → Q (.int xs.size t) s')
inductive ItemQ (k : Int) (Q : Value → Shared → Prop) (v : Value) (s₁ : Shared) : Prop
  | mk (a : Addr) (xs : Array Value) (j : Nat) (x : Value) (hv : v = .ref a) (ht : IsTup s₁.heap a xs) (hj : seqIndex? k xs.size = some j) (hx : xs[j]? = some x) (h : ∀ s', Up s₁ s' → Q x s')
inductive StrToQ (k : Int) (Q : Value → Shared → Prop) (v : Value) (s₁ : Shared) : Prop
  | mk (x : Str) (t : Tok) (hv : v = .str x t) (hz : x.length ≤ 1000) (h : ∀ t' s', Up s₁ s' → Q (.str (Txt.slice x none (some k)) t') s')

/-! len -/
theorem e_len {p : Pos} {e : Expr} (X : Fx S T₀ s₀ T L m own s) (G : Gnd w T)
    (h : wpAny (model PR w) A (eval e env) (LenQ Q) E s)
    (hk : env.scope.kind = .function := by rfl) (hx : env.kindOf (Str.ofString "len") = some .globalImplicit := by rfl) (hg : env.globals = mainGlobals := by rfl) (hb : env.builtins = builtinsNs := by rfl)
    (he : starEach [e] env = [(false, eval e env)] := by rfl) :
    wpAny (model PR w) A (eval (.Call (.Name (Str.ofString "len") p) [e] [] pos) env) Q E s := by
  refine Call_ (e_boot X G (v := .builtin "len") (by rfl) ?_ hk hx hg hb)
  refine callWith_builtin1 (args_cons (wpAny_mono h (fun v s₁ h₁ => args_nil ?_) fun _ _ x => x) he) he
  obtain ⟨a, xs, rfl, hxs, hz, hQ⟩ := h₁
  have hz' : (xs.size : Int) < 2 ^ 63 := by lia
  rcases hxs with hxs | hxs
  · exact len_tuple hxs hz' (hQ _ _ Up.tk)
  · exact call_len_list hxs hz' (hQ _ _ Up.tk)

theorem sub_tail {value slice : Expr} {o i : Value} {C id : String} {ops : List Value} (hT : s.TypeIs o C)
    (hl : typeLookup (.type C) "__getitem__" = pure (some (.builtin id))) (h : wpAny (model PR w) A (getItem o i) Q E s) (hs : subscripted slice false o i = operate ops (getItem o i)) :
    wpAny (model PR w) A (subscriptTail value slice o i) Q E s := by
  unfold subscriptTail
  refine wpAny_bind ?_
  rw [getitemInPython_of_ne hT.not_modules]
  refine wpAny_bind (wpAny_specialOf hT hl ?_)
  have fin : wpAny (model PR w) A (subscripted slice false o i) (fun r s₃ => wpAny (model PR w) A (letTemporaryGo value o r >>= fun _ => pure r) Q E s₃) E s := by
    rw [hs]
    exact wpAny_operating (wpAny_mono h (fun r s₃ h₃ => wpAny_bind (wpAny_letTemporaryGo (wpAny_pure h₃))) fun _ _ x => x)
  first
    | exact wpAny_pure (wpAny_bind fin)
    | exact wpAny_bind (wpAny_pure (wpAny_bind fin))
    | exact wpAny_bind fin

/-! an item of a tuple at a written place -/
theorem e_item {value : Expr} {p : Pos} {k : Int} {n : Nat}
    (h : wpAny (model PR w) A (eval value env) (ItemQ k Q) E s)
    (hlo : -(2 ^ 63) ≤ k := by decide) (hhi : k < 2 ^ 63 := by decide) :
    wpAny (model PR w) A (eval (.Subscript value (.Constant (.int k) n p) pos) env) Q E s := by
  refine Subscript_ (wpAny_mono h (fun v s₁ h₁ => wpAny_Constant_int ?_) fun _ _ x => x)
  obtain ⟨a, xs, j, x, rfl, ht, hj, hx, hQ⟩ := h₁
  exact sub_tail (s := { s₁ with toks := s₁.toks + 1 }) ht.typeIs slot_tuple_getitem.lookup (getItem_tuple ht hlo hhi hj hx (hQ _ Up.tk)) (by with_unfolding_all rfl)

/-! a text's first sign(s) -/
theorem e_strTo {value : Expr} {p p2 : Pos} {k : Int} {n : Nat}
    (h : wpAny (model PR w) A (eval value env) (StrToQ k Q) E s)
    (hg : ∀ x t r, letTemporaryGo value (.str x t) r = pure () := by intro _ _ _; with_unfolding_all rfl) :
    wpAny (model PR w) A (eval (.Subscript value (.Slice none (some (.Constant (.int k) n p)) none p2) pos) env) Q E s := by
  refine Subscript_ (wpAny_mono h (fun v s₁ h₁ => wpAny_Slice (evalPart_none_step ((evalPart_some_step (wpAny_Constant_int (evalPart_none_step ?_)))))) fun _ _ x => x)
  obtain ⟨x, t, rfl, hz, hQ⟩ := h₁
  exact tail_of_ItemOn (s := { s₁ with heap := s₁.heap.push { cls := .type "slice", data := .fields #[.none, .int k s₁.toks, .none] }, toks := s₁.toks + 1 }) (SBH.sliceItem_ns (s := { s₁ with toks := s₁.toks + 1 }) (P := fun h => Ev s₁.heap h) (fun h ob k => k.trans (Ev.push _ _)) (Ev.refl _) (fun h' t' k' ev => hQ t' _ (Up.hp ev)) (by rw [sizeLine_eq]; lia)) (by with_unfolding_all rfl) (fun r => hg _ _ r)

end
end Mine
end

section
open PySem PySem.W PySem.Calls PyProof.Rows
set_option maxRecDepth 100000
namespace Mine

noncomputable def LIterO (l : Addr) (i : Nat) (o : Obj) : Prop := o.cls = .type "list_iterator" ∧ o.data = .fields #[.ref l, .int i 0]
noncomputable def TIterO (t : Addr) (i : Nat) (o : Obj) : Prop := o.cls = .type "tuple_iterator" ∧ o.data = .fields #[.ref t, .int i 0]
noncomputable def EnumO (it : Addr) (i : Int) (o : Obj) : Prop := ∃ old, o = { cls := .type "enumerate", dict := none, data := .fields #[.none, .bool false, .ref it, rawInt i, .none, old], slots := #[] }

/-- an iterator: what it owns behind i items, what the i-th item is -/
structure Iter (w : World) (Tb : Heap) (tgt : Expr) (I : Addr) (n : Nat) (ent : Nat → Own) (P : Nat → Heap → Value → Prop) : Prop where
  next : ∀ {A : Around} {S T₀ T : Heap} {s₀ s : Shared} {L : Addr} {m : Str → Option Value} {own : Own} {i : Nat} {Q : Value → Shared → Prop} {E : Value → Shared → Prop},
    A.handled = none → Ev Tb T → i < n → Fx S T₀ s₀ T L m (ent i ++ own) s → (∀ v s' T', Fx S T₀ s₀ T' L m (ent (i + 1) ++ own) s' → Ev T T' → P i T' v → Q v s') →
    wpAny (model PR w) A (pyNext (.ref I)) (fun r s₁ => ∃ v, r = some v ∧ wpAny (model PR w) A (letOwnedTupleGo tgt (.ref I) v) (fun _ s' => Q v s') E s₁) E s
  done : ∀ {A : Around} {S T₀ T : Heap} {s₀ s : Shared} {L : Addr} {m : Str → Option Value} {own : Own} {Q : Option Value → Shared → Prop} {E : Value → Shared → Prop},
    A.handled = none → Ev Tb T → Fx S T₀ s₀ T L m (ent n ++ own) s → (∀ s', Fx S T₀ s₀ T L m own s' → Q none s') → wpAny (model PR w) A (pyNext (.ref I)) Q E s
  self : ∀ {A : Around} {S T₀ T : Heap} {s₀ s : Shared} {L : Addr} {m : Str → Option Value} {own : Own} {Q : Value → Shared → Prop} {E : Value → Shared → Prop},
    Fx S T₀ s₀ T L m (ent 0 ++ own) s → Q (.ref I) s → wpAny (model PR w) A (pyIter (.ref I)) Q E s

theorem St.ext0 {S T h h' : Heap} {f : Addr × (Obj → Prop)} {d : Addr} {P : Obj → Prop} {own : Own} (X : St S T h (f :: (d, P) :: own)) (k : Heap.ExtBut d h h') : St S T h' (f :: own) := by
  have Y := X.drop1
  have nS := X.fS (d, P) (by simp)
  have nT := X.fT (d, P) (by simp)
  have hne : ∀ p ∈ f :: own, p.1 ≠ d := fun p hp e => by
    have nd := X.nd
    simp only [List.map_cons, List.nodup_cons, List.mem_cons, not_or] at nd
    rcases List.mem_cons.mp hp with rfl | hp
    · exact nd.1.1 e
    · exact nd.2.1 (e ▸ List.mem_map_of_mem hp)
  exact ⟨fun b o e => k b o (fun z => by subst z; rw [nS] at e; cases e) (X.kS b o e), fun b o e => k b o (fun z => by subst z; rw [nT] at e; cases e) (X.kT b o e),
    fun p hp => let ⟨o, a, b⟩ := Y.ow p hp; ⟨o, k _ _ (hne p hp) a, b⟩, Y.nd, Y.fS, Y.fT⟩

theorem letOwned_other {w : World} {A : Around} {E : Value → Shared → Prop} {s : Shared} {tgt : Expr} {I : Addr} {v : Value} {C : String} {Q : Unit → Shared → Prop} {o : Obj} (ho : s.heap.get? I = some o) (hc : o.cls = .type C)
    (hn : ["enumerate", "zip", "dict_itemiterator", "dict_reverseitemiterator", "odict_iterator", "itertools.zip_longest", "itertools.pairwise"].contains C = false) (h : Q () s) :
    wpAny (model PR w) A (letOwnedTupleGo tgt (.ref I) v) Q E s := by
  have core : wpAny (model PR w) A (do
      let (.ref r, .ref a) := (Value.ref I, v) | return
      let o ← load r
      match o.cls, o.data with
      | .type n, .fields vs =>
        if ["enumerate", "zip", "dict_itemiterator", "dict_reverseitemiterator", "odict_iterator", "itertools.zip_longest", "itertools.pairwise"].contains n && vs[0]? == some (rawInt a) then
          rule "for.unpacks-the-owned-tuple"
          updateField r 0 .none
      | _, _ => pure ()) Q E s := by
    cases v <;> try exact wpAny_pure h
    refine wpAny_bind (wpAny_load ho ?_)
    rw [hc]
    cases hd : o.data <;> try exact wpAny_pure h
    simp only [hn, Bool.false_and, Bool.false_eq_true, if_false]
    exact wpAny_pure h
  unfold letOwnedTupleGo
  split
  · exact core
  · exact core
  · exact wpAny_pure h

theorem Iter.list {w : World} {Tb : Heap} {tgt : Expr} {I l : Addr} {xs : List Value} (hl : Tb.IsList l xs.toArray) :
    Iter w Tb tgt I xs.length (fun i => [(I, LIterO l i)]) (fun i _ v => xs[i]? = some v) where
  next := by
    intro A S T₀ T s₀ s L m own i Q E hh kb hi X h
    have hit : s.heap.IsListIter I l i := X.st.at' (i := 1) rfl
    have hlh : s.heap.IsList l xs.toArray := let ⟨o, a, b⟩ := hl; ⟨o, X.st.kT _ _ (kb _ _ a), b⟩
    refine wpAny_pyNext_list_item hit hlh (x := xs[i]) (by simp [hi]) fun h' hit' hs' => ⟨_, rfl, ?_⟩
    obtain ⟨o, ho, hc, _⟩ := id hit'
    refine letOwned_other (s := { s with heap := h' }) ho hc (by decide) ?_
    exact h _ _ T (X.to' (t := s.toks) (X.st.set (i := 1) rfl hs'.extBut hit')) (Ev.refl _) (by simp [hi])
  done := by
    intro A S T₀ T s₀ s L m own Q E hh kb X h
    have hit : s.heap.IsListIter I l xs.length := X.st.at' (i := 1) rfl
    have hlh : s.heap.IsList l xs.toArray := let ⟨o, a, b⟩ := hl; ⟨o, X.st.kT _ _ (kb _ _ a), b⟩
    refine wpAny_pyNext_list_end hh hit hlh (by simp) fun h' he => ?_
    exact h _ (X.to' (t := s.toks) (X.st.ext0 he))
  self := by
    intro A S T₀ T s₀ s L m own Q E X h
    exact wpAny_pyIter_listiter (X.st.at' (i := 1) rfl : s.heap.IsListIter I l 0) h

theorem entry_ti_iter : entryFor table "tuple_iterator.__iter__" = some Builtin.«dict_keyiterator.__iter__» := entryFor_alias (id' := "dict_keyiterator.__iter__") (by kernel_rfl) rfl (by decide +kernel) (by kernel_rfl)

theorem Iter.tup {w : World} {Tb : Heap} {tgt : Expr} {I l : Addr} {xs : List Value} (hl : IsTup Tb l xs.toArray) :
    Iter w Tb tgt I xs.length (fun i => [(I, TIterO l i)]) (fun i _ v => xs[i]? = some v) where
  next := by
    intro A S T₀ T s₀ s L m own i Q E hh kb hi X h
    have hit : IsTupIter s.heap I l i := X.st.at' (i := 1) rfl
    have hlh : IsTup s.heap l xs.toArray := (hl.keeps kb).keeps X.st.kT
    refine next_tuple_item hit hlh (x := xs[i]) (by simp [hi]) fun h' hit' hs' => ⟨_, rfl, ?_⟩
    obtain ⟨o, ho, hc, _⟩ := id hit'
    refine letOwned_other (s := { s with heap := h' }) ho hc (by decide) ?_
    exact h _ _ T (X.to' (t := s.toks) (X.st.set (i := 1) rfl hs'.extBut hit')) (Ev.refl _) (by simp [hi])
  done := by
    intro A S T₀ T s₀ s L m own Q E hh kb X h
    have hit : IsTupIter s.heap I l xs.length := X.st.at' (i := 1) rfl
    have hlh : IsTup s.heap l xs.toArray := (hl.keeps kb).keeps X.st.kT
    refine next_tuple_end hh hit hlh (by simp) fun h' he => ?_
    exact h _ (X.to' (t := s.toks) (X.st.ext0 he))
  self := by
    intro A S T₀ T s₀ s L m own Q E X h
    have hit : IsTupIter s.heap I l 0 := X.st.at' (i := 1) rfl
    refine wpAny_pyIter_slot hit.typeIs PySem.F.slot_tuple_iterator_iter (wpAny_call_entry PySem.F.slot_tuple_iterator_iter hit.typeIs entry_ti_iter ?_ (PySem.F.args_tuple_iterator_iter_1 _))
    show wpAny _ _ (ret (.ref I)) _ _ s
    exact wpAny_pure ⟨_, rfl, "tuple_iterator", _, hit.typeIs, slot_tupleiter_next.lookup, h⟩
end Mine
end

section
open PySem PySem.W PySem.Calls PyProof.Rows
set_option maxRecDepth 100000
namespace Mine

section
variable {prog : Program} {w : World} {A : Around} {E : Value → Shared → Prop} {s : Shared}
theorem nextOf_tup_item {it t : Addr} {i : Nat} {items : Array Value} {x : Value} {Q : Value → Shared → Prop} (hit : IsTupIter s.heap it t i) (ht : IsTup s.heap t items) (hx : items[i]? = some x)
    (hQ : ∀ h', IsTupIter h' it t (i + 1) → Heap.SameBut it s.heap h' → Q x { s with heap := h' }) : wpAny (model prog w) A (Builtin.SmallTypes.nextOf (.ref it)) Q E s := by
  obtain ⟨o, ho, hc, hd⟩ := id hit
  obtain ⟨ol, hol, _, nl, hdl⟩ := ht
  unfold Builtin.SmallTypes.nextOf
  refine wpAny_bind (wpAny_callSpecial?_slot (name := Str.ofString "__next__") hit.typeIs slot_tupleiter_next (wpAny_call_entry slot_tupleiter_next hit.typeIs entry_tupleiter_next ?_ (args_tupleiter_next _)))
  refine wpAny_bind (m := field (.ref it) 0) (wpAny_field ho hd (x := .ref t) rfl ?_)
  rw [if_neg (show ¬ ((Value.ref t == Value.none) = true) from Bool.false_ne_true)]
  refine wpAny_bind (m := field (.ref it) 1) (wpAny_field ho hd (x := .int i 0) rfl ?_)
  refine wpAny_bind (m := seqItems? (.ref t)) (wpAny_seqItems hol hdl ?_)
  simp only [Int.toNat_natCast, hx]
  refine wpAny_bind (wpAny_setField ho hd (by simp) (wpAny_pure ⟨x, rfl, wpAny_pure (hQ _ ?_ (Heap.SameBut.update ..))⟩))
  exact ⟨_, Heap.get?_update_self _ ho (Obj.isFreed_of_fields (Obj.data_mapFields hd _)), (Obj.cls_mapFields ..).trans hc, by rw [Obj.data_mapFields hd]; simp [rawInt]⟩

theorem nextOf_tup_end {it t : Addr} {i : Nat} {items : Array Value} {Q : Value → Shared → Prop} (hh : A.handled = none) (hit : IsTupIter s.heap it t i) (ht : IsTup s.heap t items) (hx : items[i]? = none)
    (hE : ∀ h' e, Heap.ExtBut it s.heap h' → (∃ o, h'.get? e = some o ∧ o.cls = .type "StopIteration") → E (.ref e) { s with heap := h' }) : wpAny (model prog w) A (Builtin.SmallTypes.nextOf (.ref it)) Q E s := by
  obtain ⟨o, ho, hc, hd⟩ := id hit
  obtain ⟨ol, hol, _, nl, hdl⟩ := ht
  unfold Builtin.SmallTypes.nextOf
  refine wpAny_bind (wpAny_callSpecial?_slot (name := Str.ofString "__next__") hit.typeIs slot_tupleiter_next (wpAny_call_entry slot_tupleiter_next hit.typeIs entry_tupleiter_next ?_ (args_tupleiter_next _)))
  refine wpAny_bind (m := field (.ref it) 0) (wpAny_field ho hd (x := .ref t) rfl ?_)
  rw [if_neg (show ¬ ((Value.ref t == Value.none) = true) from Bool.false_ne_true)]
  refine wpAny_bind (m := field (.ref it) 1) (wpAny_field ho hd (x := .int i 0) rfl ?_)
  refine wpAny_bind (m := seqItems? (.ref t)) (wpAny_seqItems hol hdl ?_)
  simp only [Int.toNat_natCast, hx]
  refine wpAny_bind (wpAny_rule (wpAny_bind (wpAny_setField ho hd (by simp) ?_)))
  refine wpAny_bind (m := newExc (.type "StopIteration") []) ?_
  simp only [newExc, newTuple]
  refine wpAny_bind (wpAny_newObj_type ?_ (by size_fits))
  refine wpAny_bind (m := firstArgMember _ _) (wpAny_of_eq (a := Value.none) (by first | rfl | (simp only [firstArgMember]; rfl)) ?_)
  refine wpAny_newObj_type ?_ (by size_fits)
  simp only [raiseNew]
  refine wpAny_bind (wpAny_handled ?_)
  first | rw [show A.in1.handled = none from hh] | rw [hh]
  refine wpAny_bind (wpAny_pure (wpAny_throw ?_))
  exact hE _ _ (((Heap.SameBut.update ..).extBut.push _).push _) ⟨_, Heap.get?_push_size _ rfl, rfl⟩
end

theorem drawsTup {prog : Program} {w : World} {A : Around} (hh : A.handled = none) (it t : Addr) (hne : t ≠ it) (items : Array Value) :
    Draws prog w A it [it, t] items.size (fun i v => items[i]? = some v) (fun i h => IsTupIter h it t i ∧ IsTup h t items) where
  live := fun _ _ st => let ⟨o, ho, _⟩ := st.1; ⟨o, ho⟩
  frame := fun _ _ _ ⟨⟨o, a, b⟩, o', a', b'⟩ hk => ⟨⟨o, hk it (by simp) o a, b⟩, o', hk t (by simp) o' a', b'⟩
  item := fun i s Q E hi st hQ => nextOf_tup_item st.1 st.2 (x := items[i]) (by simp [hi]) fun h' hit' hs' => hQ _ h' s.toks (by simp [hi]) ⟨hit', st.2.extBut hs'.extBut hne⟩ hs'
  done := fun s Q E st hE => nextOf_tup_end hh st.1 st.2 (by simp) hE

/-- enumerate over a frozen tuple, its pairs unpacked -/
theorem Iter.enum {w : World} {Tb : Heap} {elts : List Expr} {kx : Nat} {pos : Pos} {e it t : Addr} {xs : List Value} (ht : IsTup Tb t xs.toArray) :
    Iter w Tb (.Tuple elts kx pos) e xs.length (fun i => [(e, EnumO it i), (it, TIterO t i)]) (fun i T v => ∃ a tk x, v = .ref a ∧ xs[i]? = some x ∧ IsTup T a #[.int i tk, x]) where
  next := by
    intro A S T₀ T s₀ s L m own i Q E hh kb hi X h
    obtain ⟨oe, hoe, old, rfl⟩ := X.st.at' (i := 1) (d := e) (P := EnumO it i) rfl
    have hit : IsTupIter s.heap it t i := X.st.at' (i := 2) rfl
    have hlh : IsTup s.heap t xs.toArray := (ht.keeps kb).keeps X.st.kT
    have nd := X.st.nd
    simp only [List.cons_append, List.nil_append, List.map_cons, List.nodup_cons, List.mem_cons, not_or] at nd
    have hne : e ≠ it := nd.2.1.1
    have tne : ∀ p ∈ ([(e, EnumO it i), (it, TIterO t i)] : Own), t ≠ p.1 := fun p hp q => by
      obtain ⟨o, ho, _⟩ := ht
      have := X.st.fT p (List.mem_cons_of_mem _ (List.mem_append_left _ hp))
      rw [← q, kb _ _ ho] at this; cases this
    have t1 : t ≠ e := tne (e, EnumO it i) (by simp)
    have t2 : t ≠ it := tne (it, TIterO t i) (by simp)
    refine wpAny_pyNext_enum_itemD (drawsTup (A := A.in1) hh it t t2 xs.toArray) hoe ⟨hit, hlh⟩ (by simpa using hi) hne (by simp [hne, t1.symm]) fun x h' tk hx ho hst hT hsz hk => ⟨_, rfl, ?_⟩
    refine wpAny_letOwnedTupleGo_enum ho fun h₂ he₂ hs₂ => ?_
    replace hs₂ : Heap.SameBut e h' h₂ := hs₂
    -- the heap but for e and it
    have keep : ∀ b o, b ≠ e → b ≠ it → s.heap.get? b = some o → h₂.get? b = some o := fun b o h1 h2 q => hs₂.extBut b o h1 (hk b o h1 h2 q)
    have hT₂ : h₂.get? s.heap.objs.size = some { cls := .type "tuple", data := .seq #[.int i tk, x] } := hs₂.extBut _ _ (Nat.ne_of_gt (Heap.lt_size hoe)) hT
    have lie : ∀ {H : Heap}, Ev H s.heap → H.get? s.heap.objs.size = none := fun k => none_of_ev k (get_size _)
    have F1 : FS S T h₂ L m ([(e, EnumO it ((i : Nat) + 1 : Nat)), (it, TIterO t (i + 1))] ++ own) := by
      refine ⟨fun b o q => keep b o (fun z => ?_) (fun z => ?_) (X.st.kS b o q), fun b o q => keep b o (fun z => ?_) (fun z => ?_) (X.st.kT b o q), fun p hp => ?_, X.st.nd, fun p hp => ?_, fun p hp => ?_⟩
      · subst z; have := X.st.fS (b, EnumO it i) (by simp); rw [q] at this; cases this
      · subst z; have := X.st.fS (b, TIterO t i) (by simp); rw [q] at this; cases this
      · subst z; have := X.st.fT (b, EnumO it i) (by simp); rw [q] at this; cases this
      · subst z; have := X.st.fT (b, TIterO t i) (by simp); rw [q] at this; cases this
      · simp only [List.cons_append, List.nil_append, List.mem_cons] at hp
        rcases hp with rfl | rfl | rfl | hp
        · obtain ⟨o, a, b⟩ := X.st.ow (L, NsO m) (by simp)
          exact ⟨o, keep _ _ (by simpa using nd.1.1) (by simpa using nd.1.2.1) a, b⟩
        · exact ⟨_, he₂, x, by simp⟩
        · obtain ⟨o, a, b⟩ := hst.1
          exact ⟨o, hs₂.extBut _ _ (Ne.symm hne) a, b⟩
        · obtain ⟨o, a, b⟩ := X.st.ow p (by simp [hp])
          exact ⟨o, keep _ _ (fun z => nd.2.1.2 (z ▸ List.mem_map_of_mem hp)) (fun z => nd.2.2.1 (z ▸ List.mem_map_of_mem hp)) a, b⟩
      · simp only [List.cons_append, List.nil_append, List.mem_cons] at hp
        rcases hp with rfl | rfl | rfl | hp
        · exact X.st.fS _ (by simp)
        · exact X.st.fS (e, EnumO it i) (by simp)
        · exact X.st.fS (it, TIterO t i) (by simp)
        · exact X.st.fS p (by simp [hp])
      · simp only [List.cons_append, List.nil_append, List.mem_cons] at hp
        rcases hp with rfl | rfl | rfl | hp
        · exact X.st.fT _ (by simp)
        · exact X.st.fT (e, EnumO it i) (by simp)
        · exact X.st.fT (it, TIterO t i) (by simp)
        · exact X.st.fT p (by simp [hp])
    obtain ⟨T', g, F2, kk⟩ := F1.freezeBy (fun a => a == s.heap.objs.size) (fun p hp => by
      have hp' : p.1 ∈ (((L, NsO m) :: ([(e, EnumO it i), (it, TIterO t i)] ++ own)) : Own).map (·.1) := by
        have : p.1 ∈ (((L, NsO m) :: ([(e, EnumO it ((i : Nat) + 1 : Nat)), (it, TIterO t (i + 1))] ++ own)) : Own).map (·.1) := List.mem_map_of_mem hp
        simpa using this
      obtain ⟨q, hq, e1⟩ := List.mem_map.mp hp'
      have := X.st.lt hq
      rw [e1] at this
      simpa using Nat.ne_of_lt this) (fun a ha => by rw [beq_iff_eq.mp ha]; exact lie X.st.kS)
    refine h _ _ T' (X.to F2 g) g.1 ⟨_, tk, x, rfl, by simpa using hx, _, kk _ _ (beq_self_eq_true _) hT₂, rfl, _, rfl⟩
  done := by
    intro A S T₀ T s₀ s L m own Q E hh kb X h
    obtain ⟨oe, hoe, old, rfl⟩ := X.st.at' (i := 1) (d := e) (P := EnumO it xs.length) rfl
    have hit : IsTupIter s.heap it t xs.length := X.st.at' (i := 2) rfl
    have hlh : IsTup s.heap t xs.toArray := (ht.keeps kb).keeps X.st.kT
    have t2 : t ≠ it := fun q => by
      obtain ⟨o, ho, _⟩ := ht
      have := X.st.fT (it, TIterO t xs.length) (by simp)
      rw [← q, kb _ _ ho] at this; cases this
    have hst : IsTupIter s.heap it t xs.toArray.size ∧ IsTup s.heap t xs.toArray := ⟨by simpa using hit, hlh⟩
    refine wpAny_pyNext_enum_endD (drawsTup (A := A.in1) hh it t t2 xs.toArray) hoe hst fun h' he => ?_
    exact h _ (X.to' (t := s.toks) ((X.st.drop1).ext0 he))
  self := by
    intro A S T₀ T s₀ s L m own Q E X h
    obtain ⟨oe, hoe, old, rfl⟩ := X.st.at' (i := 1) (d := e) (P := EnumO it (0 : Nat)) rfl
    exact wpAny_pyIter_enum hoe h
end Mine
end

section
open PySem PySem.W PySem.Calls PyProof.Rows
set_option maxRecDepth 100000
namespace Mine

/-! what the rules below want of a value -/
inductive TupQ (Q : Value → Shared → Prop) (vs : List Value) (s₁ : Shared) : Prop
  | mk (T : Heap) (m : Str → Option Value) (own : Own) (S T₀ : Heap) (s₀ : Shared) (L : Addr) (X : Fx S T₀ s₀ T L m own s₁) (hz : vs.length ≤ 1000) (h : ∀ a T' s', Fx S T₀ s₀ T' L m own s' → Ev T T' → IsTup T' a vs.toArray → Q (.ref a) s')
inductive LstQ (Q : Value → Shared → Prop) (vs : List Value) (s₁ : Shared) : Prop
  | mk (T : Heap) (m : Str → Option Value) (own : Own) (S T₀ : Heap) (s₀ : Shared) (L : Addr) (X : Fx S T₀ s₀ T L m own s₁) (hz : vs.length ≤ 1000) (h : ∀ a s', Fx S T₀ s₀ T L m ((a, LstO vs) :: own) s' → Q (.ref a) s')
inductive FromQ (k : Nat) (Q : Value → Shared → Prop) (v : Value) (s₁ : Shared) : Prop
  | mk (a : Addr) (xs : List Value) (T : Heap) (m : Str → Option Value) (own : Own) (S T₀ : Heap) (s₀ : Shared) (L : Addr) (hv : v = .ref a) (X : Fx S T₀ s₀ T L m own s₁) (ht : IsTup T a xs.toArray) (h1 : 1 ≤ k) (h2 : k ≤ xs.length) (hz : xs.length ≤ 1000)
      (h : ∀ b T' s', Fx S T₀ s₀ T' L m own s' → Ev T T' → IsTup T' b (xs.drop k).toArray → Q (.ref b) s')

theorem mark_none (A : Around) : A.mark none = A := rfl

inductive ForNext (S T₀ : Heap) (s₀ : Shared) (L : Addr) (T : Heap) (ent : Own) (K : Heap → (Str → Option Value) → Own → Prop) (s₃ : Shared) : Prop
  | mk (T' : Heap) (m' : Str → Option Value) (own' : Own) (k : Ev T T') (X : Fx S T₀ s₀ T' L m' (ent ++ own') s₃) (h : K T' m' own')

section
variable {w : World} {A : Around} {S T₀ Tb : Heap} {s₀ s : Shared} {L : Addr} {env : Env} {tgt : Expr} {I : Addr} {n : Nat} {ent : Nat → Own} {P : Nat → Heap → Value → Prop}

theorem loop_for {body : List Stmt} {R : Result → Shared → Prop} (It : Iter w Tb tgt I n ent P) (hh : A.handled = none) (K : Nat → Heap → (Str → Option Value) → Own → Prop)
    (mono : ∀ i T T' m own, Ev T T' → K i T m own → K i T' m own)
    (turn : ∀ i T m own s v (E : Value → Shared → Prop), i < n → Ev Tb T → Fx S T₀ s₀ T L m (ent (i + 1) ++ own) s → P i T v → K i T m own →
      ∀ Q : Flow → Shared → Prop, (∀ s₃, ForNext S T₀ s₀ L T (ent (i + 1)) (K (i + 1)) s₃ → Q .next s₃ ∧ Q .cont s₃) → (∀ v s₃, R (.ok (.ret v)) s₃ → Q (.ret v) s₃) →
      wpAny (model PR w) A (assign tgt env v) (fun _ s₂ => wpAny (model PR w) A (execs body env) Q E s₂) E s)
    (fin : ∀ T m own s, Ev Tb T → Fx S T₀ s₀ T L m own s → K n T m own → R (.ok .next) s)
    {T : Heap} {m : Str → Option Value} {own : Own} (kb : Ev Tb T) (X : Fx S T₀ s₀ T L m (ent 0 ++ own) s) (h0 : K 0 T m own) :
    codeAny (model PR w) A (.forLoop tgt (.ref I) body [] env) R s := by
  refine codeAny_loop' (R := R) rfl (fun k s => ∃ i T m own, k = n - i ∧ i ≤ n ∧ Ev Tb T ∧ Fx S T₀ s₀ T L m (ent i ++ own) s ∧ K i T m own) (fun k s hI => ?_) (n - 0) ⟨0, T, m, own, rfl, Nat.zero_le _, kb, X, h0⟩
  obtain ⟨i, T, m, own, rfl, hi, kb, X, hK⟩ := hI
  show wpAny _ A ((forTurn tgt (.ref I) body [] env).onRaise (fun x => do noteFrame x env; theTreesLotGoes x)) _ _ s
  refine wpAny_noted ?_
  simp only [forTurn]
  refine wpAny_bind (wpAny_standAt (wpAny_bind (wpAny_onRaise ?_)))
  by_cases hlt : i < n
  · refine wpAny_mono (It.next (Q := fun v s' => wpAny (model PR w) A (assign tgt env v) (fun _ s₂ => wpAny (model PR w) A (execs body env) (fun f s₃ => match f with
        | .next | .cont => ∃ T' m' own', Ev Tb T' ∧ Fx S T₀ s₀ T' L m' (ent (i + 1) ++ own') s₃ ∧ K (i + 1) T' m' own'
        | .brk => False
        | .ret v => R (.ok (.ret v)) s₃) (notedBy (model PR w) A env fun e s' => R (.error e) s') s₂) (notedBy (model PR w) A env fun e s' => R (.error e) s') s') hh kb hlt X fun v s' T' X' k hP => ?_) (fun r s₁ h₁ => ?_) fun _ _ h' => wpAny_standAt h'
    · refine wpAny_mono (turn i T' m own s' v _ hlt (kb.trans k) X' hP (mono _ _ _ _ _ k hK) (fun f s₃ => match f with
        | .next | .cont => ForNext S T₀ s₀ L T' (ent (i + 1)) (K (i + 1)) s₃
        | .brk => False
        | .ret v => R (.ok (.ret v)) s₃) (fun _ h => ⟨h, h⟩) fun _ _ h => h) (fun _ s₂ h₂ => wpAny_mono h₂ (fun f s₃ h₃ => ?_) fun _ _ x => x) fun _ _ x => x
      cases f with
      | next => obtain ⟨T₂, m', own', a, b, c⟩ := h₃; exact ⟨T₂, m', own', (kb.trans k).trans a, b, c⟩
      | cont => obtain ⟨T₂, m', own', a, b, c⟩ := h₃; exact ⟨T₂, m', own', (kb.trans k).trans a, b, c⟩
      | brk => exact h₃
      | ret v => exact h₃
    · obtain ⟨v, rfl, h₁⟩ := h₁
      refine wpAny_bind (wpAny_mono h₁ (fun _ s₂ h₂ => wpAny_bind (wpAny_mono h₂ (fun _ s₃ h₃ => wpAny_bind (wpAny_mono h₃ (fun f s₄ h₄ => ?_) fun _ _ x => x)) fun _ _ x => x)) fun _ _ x => x)
      have nx : (∃ T' m' own', Ev Tb T' ∧ Fx S T₀ s₀ T' L m' (ent (i + 1) ++ own') s₄ ∧ K (i + 1) T' m' own') →
          ∃ m, m < n - i ∧ ∃ i T m_1 own, m = n - i ∧ i ≤ n ∧ Ev Tb T ∧ Fx S T₀ s₀ T L m_1 (ent i ++ own) s₄ ∧ K i T m_1 own := fun ⟨T', m', own', a, b, c⟩ =>
        ⟨n - (i + 1), by lia, i + 1, T', m', own', rfl, hlt, a, b, c⟩
      cases f with
      | next => exact wpAny_pure (.inl ⟨rfl, nx h₄⟩)
      | cont => exact wpAny_pure (.inl ⟨rfl, nx h₄⟩)
      | brk => exact h₄.elim
      | ret v => exact wpAny_pure h₄
  · have hin : i = n := by lia
    subst hin
    refine It.done hh kb X fun s' X' => ?_
    exact wpAny_pure (.inr ⟨rfl, codeAny_block (wpAny_pure (fin T m own s' kb X' hK))⟩)
end

section
variable {w : World} {A : Around} {E : Value → Shared → Prop} {S T₀ T : Heap} {s₀ s : Shared} {L : Addr} {m : Str → Option Value} {own : Own} {env : Env} {Q : Value → Shared → Prop} {pos : Pos}

theorem e_cellM {x : Str} {c : Addr} {v : Value} (X : Fx S T₀ s₀ T L m own s) (hi : (c, CellO (some v)) ∈ own) (h : Q v s)
    (hc : env.cells.lookup x = some c := by rfl) (hk : env.scope.kind = .function := by rfl) (hx : env.kindOf x = some .cell := by rfl) (hd : (x == ("__debug__" : Str)) = false := by decide) :
    wpAny (model PR w) A (eval (.Name x pos) env) Q E s := wpAny_Name (wpAny_loadName_cell hk hx hc (X.st.ow _ (List.mem_cons_of_mem _ hi)) h) hd

/-- pyIter of a frozen list, tuple -/
theorem iter_list {l : Addr} {xs : List Value} (X : Fx S T₀ s₀ T L m own s) (hl : T.IsList l xs.toArray) (h : ∀ I s', Fx S T₀ s₀ T L m ((I, LIterO l 0) :: own) s' → Q (.ref I) s') : wpAny (model PR w) A (pyIter (.ref l)) Q E s := by
  have hlh : s.heap.IsList l xs.toArray := let ⟨o, a, b⟩ := hl; ⟨o, X.st.kT _ _ a, b⟩
  exact wpAny_pyIter_list hlh (h _ _ ⟨(X.st.alloc (P := LIterO l 0) ⟨rfl, rfl⟩ rfl).swap, X.gr, X.sm⟩)
theorem iter_tup {l : Addr} {xs : List Value} (X : Fx S T₀ s₀ T L m own s) (hl : IsTup T l xs.toArray) (h : ∀ I s', Fx S T₀ s₀ T L m ((I, TIterO l 0) :: own) s' → Q (.ref I) s') : wpAny (model PR w) A (pyIter (.ref l)) Q E s :=
  iter_tuple (hl.keeps X.st.kT) (h _ _ ⟨(X.st.alloc (P := TIterO l 0) ⟨rfl, rfl⟩ rfl).swap, X.gr, X.sm⟩)

/-- displays -/
theorem e_tuple {elts : List Expr} {k : Nat} (h : wpAny (model PR w) A (spliced (backTo pos (starEach elts env))) (TupQ Q) E s) : wpAny (model PR w) A (eval (.Tuple elts k pos) env) Q E s := by
  refine Tuple_ (wpAny_mono h (fun vs s₁ h₁ => ?_) fun _ _ x => x)
  obtain ⟨T, m, own, S, T₀, s₀, L, X, hz, hQ⟩ := h₁
  obtain ⟨T', k, e, X'⟩ := X.new (o := { cls := .type "tuple", data := .seq vs.toArray }) rfl
  exact wpAny_newObj_type (hQ _ T' _ X' k ⟨_, e, rfl, _, rfl⟩) (by show vs.toArray.size ≤ sizeLine; rw [List.size_toArray, sizeLine_eq]; lia)
theorem e_list {elts : List Expr} (h : wpAny (model PR w) A (spliced (backTo pos (starEach elts env))) (LstQ Q) E s) : wpAny (model PR w) A (eval (.List elts pos) env) Q E s := by
  refine List_ (wpAny_mono h (fun vs s₁ h₁ => ?_) fun _ _ x => x)
  obtain ⟨T, m, own, S, T₀, s₀, L, X, hz, hQ⟩ := h₁
  exact wpAny_newObj_type (hQ _ _ ⟨(X.st.alloc (P := LstO vs) ⟨0, rfl⟩ rfl).swap, X.gr, X.sm⟩) (by show vs.toArray.size ≤ sizeLine; rw [List.size_toArray, sizeLine_eq]; lia)

/-- a list of our own is frozen -/
theorem Fx.freezeL {l : Addr} {xs : List Value} (X : Fx S T₀ s₀ T L m ((l, LstO xs) :: own) s) : ∃ T', Ev T T' ∧ T'.PlainList l xs.toArray ∧ Fx S T₀ s₀ T' L m own s := by
  obtain ⟨T', o, g, ho, ⟨n, e⟩, x⟩ := X.st.freeze1
  subst e
  exact ⟨T', g.1, ⟨n, ho⟩, x, X.gr.trans g, X.sm⟩
theorem Fx.drop {p : Addr × (Obj → Prop)} (X : Fx S T₀ s₀ T L m (p :: own) s) : Fx S T₀ s₀ T L m own s := ⟨X.st.drop1, X.gr, X.sm⟩

/-- a tuple from a place on -/
theorem e_from {value : Expr} {p p2 : Pos} {k : Nat} {n : Nat}
    (h : wpAny (model PR w) A (eval value env) (FromQ k Q) E s) :
    wpAny (model PR w) A (eval (.Subscript value (.Slice (some (.Constant (.int k) n p)) none none p2) pos) env) Q E s := by
  refine Subscript_ (wpAny_mono h (fun v s₁ h₁ => wpAny_Slice (evalPart_some_step (wpAny_Constant_int (evalPart_none_step ((evalPart_none_step ?_)))))) fun _ _ x => x)
  obtain ⟨a, xs, T, m, own, S, T₀, s₀, L, rfl, X, ht, h1, h2, hz, hQ⟩ := h₁
  have ht' := (ht.keeps X.st.kT).push { cls := .type "slice", data := .fields #[.int k s₁.toks, .none, .none] }
  have X1 : Fx S T₀ s₀ T L m own { s₁ with heap := s₁.heap.push { cls := .type "slice", data := .fields #[.int k s₁.toks, .none, .none] }, toks := s₁.toks + 1 } := X.up (Up.hp (Ev.push _ _))
  refine sub_tail (s := { s₁ with heap := s₁.heap.push { cls := .type "slice", data := .fields #[.int k s₁.toks, .none, .none] }, toks := s₁.toks + 1 }) ht'.typeIs slot_tuple_getitem.lookup
    (getItem_tuple_from (s := { s₁ with heap := s₁.heap.push { cls := .type "slice", data := .fields #[.int k s₁.toks, .none, .none] }, toks := s₁.toks + 1 }) ht' (Heap.IsSliceOf.new ..) h1 (by simpa using h2) ?_ (by rw [sizeLine_eq]; simp; lia)) (by with_unfolding_all rfl)
  obtain ⟨T', kT, e, X'⟩ := X1.new (o := { cls := .type "tuple", data := .seq (xs.toArray.toList.drop k).toArray }) rfl
  exact hQ _ T' _ X' kT ⟨_, e, rfl, _, rfl⟩
end
end Mine
end

section
open PySem PySem.W PySem.Calls PyProof.Rows
set_option maxRecDepth 100000
namespace Mine

/-- the tests of a clause -/
noncomputable def testsOf (ifs : List Expr) (env : Env) : Sem Bool := forIn ifs true fun c r => if r = true then do let ok ← isTrue c env (eval c env); pure (ForInStep.yield ok) else pure (ForInStep.yield r)

inductive CompNext (S T₀ : Heap) (s₀ : Shared) (C : Addr) (T' : Heap) (own' : Own) (J : Heap → List Value → Prop) (ys : List Value) (s₄ : Shared) : Prop
  | mk (T'' : Heap) (mC' : Str → Option Value) (k : Ev T' T'') (X : Fx S T₀ s₀ T'' C mC' own' s₄) (h : J T'' ys)
/-- what a list comprehension of one clause wants behind pyIter -/
inductive CompGo (w : World) (A : Around) (env : Env) (scope : Scope) (cl : List (Str × Addr)) (tgt : Expr) (ifs : List Expr) (elt : Expr) (Q : Value → Shared → Prop) (it : Value) (s₂ : Shared) : Prop
  | mk {I : Addr} {n : Nat} {ent : Nat → Own} {P : Nat → Heap → Value → Prop} {Tb T : Heap} {m : Str → Option Value} {own : Own} {S T₀ : Heap} {s₀ : Shared} {L : Addr}
      (J : Nat → Heap → List Value → Prop) (hI : it = .ref I) (It : Iter w Tb tgt I n ent P) (kb : Ev Tb T) (X : Fx S T₀ s₀ T L m (ent 0 ++ own) s₂) (hn : n ≤ 1000) (hh : A.handled = none) (h0 : J 0 T [])
      (mono : ∀ i T T' ys, Ev T T' → J i T ys → J i T' ys)
      (turn : ∀ (C : Addr) (i : Nat) (T' : Heap) (mC : Str → Option Value) (own' : Own) (s' : Shared) (v : Value) (ys : List Value) (E : Value → Shared → Prop), i < n → Ev T T' → Fx S T₀ s₀ T' C mC own' s' → (∀ p ∈ own, p ∈ own') →
        P i T' v → J i T' ys → ys.length ≤ i →
        ∀ (Qy : Value → Shared → Prop) (Qn : Shared → Prop), (∀ y s₄, CompNext S T₀ s₀ C T' own' (J (i + 1)) (ys ++ [y]) s₄ → Qy y s₄) → (∀ s₃, CompNext S T₀ s₀ C T' own' (J (i + 1)) ys s₃ → Qn s₃) →
        wpAny (model PR w) A (assign tgt (compEnvC scope cl C env) v) (fun _ s₂ => wpAny (model PR w) A (testsOf ifs (compEnvC scope cl C env)) (fun ok s₃ =>
          if ok = true then wpAny (model PR w) A (eval elt (compEnvC scope cl C env)) Qy E s₃
          else Qn s₃) E s₂) E s')
      (fin : ∀ D ys T' s', Ev T T' → Fx S T₀ s₀ T' L m ((D, LstO ys) :: own) s' → J n T' ys → ys.length ≤ n → Q (.ref D) s') : CompGo w A env scope cl tgt ifs elt Q it s₂

section
variable {w : World} {A : Around} {S T₀ Tb : Heap} {s₀ s : Shared} {env : Env}

theorem St.setAt {S T h h' : Heap} {a b : Own} {d : Addr} {P P' : Obj → Prop} (X : St S T h (a ++ (d, P) :: b)) (k : Heap.ExtBut d h h') (hP : ∃ o, h'.get? d = some o ∧ P' o) : St S T h' (a ++ (d, P') :: b) := by
  have := X.set (i := a.length) (d := d) (P := P) (P' := P') (by simp) k hP
  simpa using this

theorem append_own {D x : Value} {d : Addr} {E : Value → Shared → Prop} {T : Heap} {a b : Own} {ys : List Value} {Q : Value → Shared → Prop} (hD : D = .ref d) (X : St S T s.heap (a ++ (d, LstO ys) :: b)) (hz : ys.length ≤ 100000)
    (h : ∀ h', St S T h' (a ++ (d, LstO (ys ++ [x])) :: b) → Q .none { s with heap := h' }) : wpAny (model PR w) A (call (.builtin "list.append") [D, x]) Q E s := by
  subst hD
  obtain ⟨o, ho, n, rfl⟩ := X.ow (d, LstO ys) (by simp)
  refine wpAny_list_append_plain (items := ys.toArray) ⟨n, ho⟩ (fun h' ⟨n', e⟩ hs => h h' (X.setAt hs.extBut ⟨_, e, n', by simp⟩)) (by rw [sizeLine_eq]; simp; lia)

theorem compLoop_go {elt tgt iter : Expr} {ifs : List Expr} {scope scope' : Scope} {cl : List (Str × Addr)} {pos : Pos} {R : Result → Shared → Prop} {I : Addr} {n : Nat} {ent : Nat → Own} {P : Nat → Heap → Value → Prop} {T : Heap} {own : Own} {L C D : Addr}
    {m mC : Str → Option Value} (J : Nat → Heap → List Value → Prop) (It : Iter w Tb tgt I n ent P) (kb : Ev Tb T) (hn : n ≤ 1000) (hh : A.handled = none) (mono : ∀ i T T' ys, Ev T T' → J i T ys → J i T' ys)
    (turn : ∀ (i : Nat) (T' : Heap) (mC : Str → Option Value) (own' : Own) (s' : Shared) (v : Value) (ys : List Value) (E : Value → Shared → Prop), i < n → Ev T T' → Fx S T₀ s₀ T' C mC own' s' → (∀ p ∈ own, p ∈ own') →
        P i T' v → J i T' ys → ys.length ≤ i →
        wpAny (model PR w) A (assign tgt (compEnvC scope cl C env) v) (fun _ s₂ => wpAny (model PR w) A (testsOf ifs (compEnvC scope cl C env)) (fun ok s₃ =>
          if ok = true then wpAny (model PR w) A (eval elt (compEnvC scope cl C env)) (fun y s₄ => ∃ T'' mC', Ev T' T'' ∧ Fx S T₀ s₀ T'' C mC' own' s₄ ∧ J (i + 1) T'' (ys ++ [y])) E s₃
          else ∃ T'' mC', Ev T' T'' ∧ Fx S T₀ s₀ T'' C mC' own' s₃ ∧ J (i + 1) T'' ys) E s₂) E s')
    (fin : ∀ mC ys T' s', Ev T T' → Fx S T₀ s₀ T' C mC ((D, LstO ys) :: (L, NsO m) :: own) s' → J n T' ys → ys.length ≤ n → R (.ok .next) s')
    (X : Fx S T₀ s₀ T C mC (ent 0 ++ (D, LstO []) :: (L, NsO m) :: own) s) (h0 : J 0 T []) :
    codeAny (model PR w) A (.compLoop (.ListComp elt [⟨tgt, iter, ifs, 0⟩] scope' pos) 0 (.ref I) (.ref D) (compEnvC scope cl C env)) R s := by
  refine codeAny_loop rfl (fun k s => ∃ i T' mC ys, k = n - i ∧ i ≤ n ∧ Ev T T' ∧ Fx S T₀ s₀ T' C mC (ent i ++ (D, LstO ys) :: (L, NsO m) :: own) s ∧ J i T' ys ∧ ys.length ≤ i) (fun k s hI => ?_) (n - 0) ⟨0, T, mC, [], rfl, Nat.zero_le _, Ev.refl _, X, h0, Nat.le_refl _⟩
  obtain ⟨i, T', mC, ys, rfl, hi, kT, X, hJ, hy⟩ := hI
  show wpAny _ A ((compTurn (.ListComp elt [⟨tgt, iter, ifs, 0⟩] scope' pos) 0 (.ref I) (.ref D) (compEnvC scope cl C env)).onRaise (fun x => do noteFrame x (compEnvC scope cl C env); theTreesLotGoes x)) _ _ s
  refine wpAny_noted ?_
  rw [compTurn_list]
  refine wpAny_bind (wpAny_standAt (wpAny_bind ?_))
  by_cases hlt : i < n
  · refine wpAny_mono (It.next (Q := fun v s' => wpAny (model PR w) A (assign tgt (compEnvC scope cl C env) v) (fun _ s₂ => wpAny (model PR w) A (testsOf ifs (compEnvC scope cl C env)) (fun ok s₃ =>
          if ok = true then wpAny (model PR w) A (eval elt (compEnvC scope cl C env)) (fun y s₄ => ∃ T'' mC', Ev T T'' ∧ Fx S T₀ s₀ T'' C mC' (ent (i + 1) ++ (D, LstO ys) :: (L, NsO m) :: own) s₄ ∧ J (i + 1) T'' (ys ++ [y])) (notedBy (model PR w) A (compEnvC scope cl C env) fun e s' => R (.error e) s') s₃
          else ∃ T'' mC', Ev T T'' ∧ Fx S T₀ s₀ T'' C mC' (ent (i + 1) ++ (D, LstO ys) :: (L, NsO m) :: own) s₃ ∧ J (i + 1) T'' ys) (notedBy (model PR w) A (compEnvC scope cl C env) fun e s' => R (.error e) s') s₂) (notedBy (model PR w) A (compEnvC scope cl C env) fun e s' => R (.error e) s') s')
        hh (kb.trans kT) hlt X fun v s' T₂ X' k hP => ?_) (fun r s₁ h₁ => ?_) fun _ _ x => x
    · refine wpAny_mono (turn i T₂ mC _ s' v ys _ hlt (kT.trans k) X' (fun p hp => by simp [hp]) hP (mono _ _ _ _ k hJ) hy) (fun _ s₂ h₂ => wpAny_mono h₂ (fun ok s₃ h₃ => ?_) fun _ _ x => x) fun _ _ x => x
      cases ok with
      | true =>
        simp only [if_true] at h₃ ⊢
        exact wpAny_mono h₃ (fun y s₄ ⟨T₃, m', a, b, c⟩ => ⟨T₃, m', (kT.trans k).trans a, b, c⟩) fun _ _ x => x
      | false =>
        simp only [Bool.false_eq_true, if_false] at h₃ ⊢
        obtain ⟨T₃, m', a, b, c⟩ := h₃
        exact ⟨T₃, m', (kT.trans k).trans a, b, c⟩
    · obtain ⟨v, rfl, h₁⟩ := h₁
      refine wpAny_bind (wpAny_mono h₁ (fun _ s₂ h₂ => wpAny_bind (wpAny_mono h₂ (fun _ s₃ h₃ => ?_) fun _ _ x => x)) fun _ _ x => x)
      refine wpAny_bind (m := testsOf ifs (compEnvC scope cl C env)) (wpAny_mono h₃ (fun ok s₄ h₄ => ?_) fun _ _ x => x)
      cases ok with
      | false =>
        simp only [Bool.false_eq_true, if_false] at h₄ ⊢
        obtain ⟨T₃, m', a, b, c⟩ := h₄
        refine wpAny_pure ⟨rfl, n - (i + 1), by lia, i + 1, T₃, m', ys, rfl, hlt, a, b, c, by lia⟩
      | true =>
        simp only [if_true] at h₄ ⊢
        refine wpAny_bind (wpAny_bind (wpAny_mono h₄ (fun y s₅ ⟨T₃, m', a, b, c⟩ => ?_) fun _ _ x => x))
        refine wpAny_bind (append_own (a := (C, NsO m') :: ent (i + 1)) rfl b.st (by lia) fun h' X' => ?_)
        refine wpAny_pure (wpAny_pure ⟨rfl, n - (i + 1), by lia, i + 1, T₃, m', ys ++ [y], rfl, hlt, a, ⟨X', b.gr, b.sm⟩, c, by simp; lia⟩)
  · have hin : i = n := by lia
    subst hin
    refine It.done hh (kb.trans kT) X fun s' X' => ?_
    exact wpAny_pure (fin mC ys T' s' kT X' hJ hy)

theorem comp_list {elt tgt iter : Expr} {ifs : List Expr} {scope : Scope} {cl : List (Str × Addr)} {pos : Pos} {E : Value → Shared → Prop} {Q : Value → Shared → Prop}
    (h : wpAny (model PR w) A (eval iter env) (fun x s₁ => wpAny (model PR w) A (pyIter x) (fun it s₂ => CompGo w A env scope cl tgt ifs elt Q it s₂) E s₁) E s)
    (hclos : closureFor scope env = pure cl := by with_unfolding_all rfl) (hcell : ∀ y ∈ scope.names, y.2 ≠ .cell := by decide) (hkind : scope.kind = .function := by rfl)
    (hnames : ∀ y ∈ scope.names, y.2 = .local → scope.names.lookup y.1 = some .local := by decide) (hs : ∀ x, foldedSetIterable iter env x = pure x := by intro _; rfl) :
    wpAny (model PR w) A (eval (.ListComp elt [⟨tgt, iter, ifs, 0⟩] scope pos) env) Q E s := by
  rw [eval_ListComp]
  refine wpAny_comprehension_free rfl hs hclos hkind hnames (wpAny_mono h (fun x s₁ h₁ => wpAny_mono h₁ (fun it s₂ h₂ => ?_) fun _ _ x => x) fun _ _ x => x)
  obtain ⟨J, rfl, It, kb, X, hn, hh, h0, mono, turn, fin⟩ := h₂
  rename_i I n ent P Tb T m own S T₀ s₀ L
  have XD := X.st.alloc (P := LstO []) (o := { cls := .type "list", data := .seq ([] : List Value).toArray }) ⟨0, rfl⟩ rfl
  refine wpAny_newObj_type (wpAny_newFunctionEnv hcell (by intro y hy; simp at hy) (fun h₁ hns hsb => ?_) hkind)
  dsimp only at hns hsb
  generalize hH2 : s₂.heap.push { cls := .type "list", dict := none, data := .seq ([] : List Value).toArray } = H2 at hns hsb XD
  have XC := XD.alloc (P := NsO fun _ => none) (o := { cls := .type "dict", data := .dict #[] }) ⟨#[], 0, rfl, fun _ he => by simp at he, fun _ => rfl⟩ rfl
  have XC' : St S T h₁ ((H2.objs.size, NsO fun x => ([] : List (Str × Value)).reverse.lookup x) :: (s₂.heap.objs.size, LstO []) :: (L, NsO m) :: (ent 0 ++ own)) := XC.set (i := 0) rfl hsb.extBut (nsO_iff.mp hns)
  have XF : ∀ {t : Nat}, Fx S T₀ s₀ T H2.objs.size (fun x => ([] : List (Str × Value)).reverse.lookup x) (ent 0 ++ (s₂.heap.objs.size, LstO []) :: (L, NsO m) :: own) { s₂ with heap := h₁, toks := t } := fun {t} =>
    ⟨XC'.perm (List.Perm.cons _ (by
      refine List.Perm.trans List.perm_middle ?_
      exact List.Perm.cons _ List.perm_middle)), X.gr, X.sm⟩
  have loop : ∀ s₃ : Shared, s₃ = { s₂ with heap := h₁, toks := s₂.toks + ([] : List (Str × Value)).length } →
      codeAny (model PR w) A (.compLoop (.ListComp elt [⟨tgt, iter, ifs, 0⟩] scope pos) 0 (.ref I) (.ref s₂.heap.objs.size) (compEnvC scope cl H2.objs.size env)) (compPost (model PR w) A E none Q (.ref s₂.heap.objs.size) H2.objs.size) s₃ := by
    rintro s₃ rfl
    refine compLoop_go J It kb hn hh mono (fun i T' mC own' s' v ys E hi k X ho hP hJ hy => turn H2.objs.size i T' mC own' s' v ys E hi k X ho hP hJ hy _ _ (fun _ _ ⟨a, b, c, d, e⟩ => ⟨a, b, c, d, e⟩) fun _ ⟨a, b, c, d, e⟩ => ⟨a, b, c, d, e⟩) (fun mC ys T' s' k X' hJ hy => ?_) XF h0
    refine ⟨mC, X'.st.ns, fun h' hs' => fin _ ys T' _ k ?_ hJ hy⟩
    exact ⟨((X'.st.swap).ext0 hs'.extBut).swap, X'.gr, X'.sm⟩
  exact codeAny_compStart_list (loop _ rfl) (It.self XF (loop _ rfl))
end
end Mine
end

section
open PySem PySem.W PySem.Calls PyProof.Rows
open AutoSeq1 (wpAny_loadPart')
set_option maxRecDepth 100000
namespace Mine

theorem meets_enum_tup (t : Addr) (items : Array Value) (n : Nat) (dct : Option Addr) (sl : Array (Option Value)) :
    Meets (Builtin.«enumerate.__new__» ⟨[.type "enumerate", .ref t], []⟩) (fun _ R s => s.heap.get? t = some { cls := .type "tuple", dict := dct, data := .seq items n, slots := sl } ∧
      R (.ok (.ret (.ref (s.heap.push { cls := .type "tuple_iterator", data := .fields #[.ref t, .int 0 0] }).objs.size)))
        { s with heap := (s.heap.push { cls := .type "tuple_iterator", data := .fields #[.ref t, .int 0 0] }).push { cls := .type "enumerate", data := .fields #[.none, .bool false, .ref s.heap.objs.size, rawInt 0, .none, .none] } }) :=
  .of_wp fun prog w A R s h => by
    obtain ⟨hp, g, d, tk, os⟩ := s; obtain ⟨ht, h⟩ := h
    have hsub := sub_enumerate
    have hT : IsTup (Shared.heap ⟨hp, g, d, tk, os⟩) t items := ⟨_, ht, rfl, n, rfl⟩
    wp_walk using wpAny_loadPart' ht
    refine wpAny_stack_any fun st => wpAny_pure ?_
    split
    · rename_i c _ _ _ _ _
      cases (c == Value.type "enumerate")
      · wp_walk using wpAny_loadPart' ht, iter_tuple hT
        exact ⟨_, rfl, h⟩
      · wp_walk using wpAny_loadPart' ht, iter_tuple hT
        exact ⟨_, rfl, h⟩
    · wp_walk using wpAny_loadPart' ht, iter_tuple hT
      exact ⟨_, rfl, h⟩

section
variable {w : World} {A : Around} {E : Value → Shared → Prop} {S T₀ T : Heap} {s₀ s : Shared} {L : Addr} {m : Str → Option Value} {own : Own} {env : Env} {Q : Value → Shared → Prop} {pos : Pos}

theorem call_enum_tup {t : Addr} {xs : List Value} (X : Fx S T₀ s₀ T L m own s) (ht : IsTup T t xs.toArray)
    (h : ∀ e it s', Fx S T₀ s₀ T L m ([(e, EnumO it (0 : Nat)), (it, TIterO t 0)] ++ own) s' → Q (.ref e) s') : wpAny (model PR w) A (call (.type "enumerate") [.ref t]) Q E s := by
  obtain ⟨⟨c, dct, dt, sl⟩, hl, hc, n, hd⟩ := ht
  replace hc : c = .type "tuple" := hc
  replace hd : dt = .seq xs.toArray n := hd
  subst hc hd
  refine callType_new PySem.F.called_enumerate (by decide) (PySem.F.typeCall_enumerate_1 _) (PySem.F.newCall_enumerate_1 _) (fun obj => PySem.F.args_object_init_2 obj _) PySem.F.entry_enumerate_new
    (meets_enum_tup t xs.toArray n dct sl) ⟨X.st.kT _ _ hl, ?_⟩
  have X1 := X.st.alloc (P := TIterO t 0) (o := { cls := .type "tuple_iterator", data := .fields #[.ref t, .int 0 0] }) ⟨rfl, rfl⟩ rfl
  have X2 := X1.alloc (P := EnumO s.heap.objs.size (0 : Nat)) (o := { cls := .type "enumerate", data := .fields #[.none, .bool false, .ref s.heap.objs.size, rawInt 0, .none, .none] }) ⟨.none, rfl⟩ rfl
  refine ⟨⟨_, Heap.get?_push_size _ rfl, rfl⟩, h _ s.heap.objs.size _ ⟨X2.perm ?_, X.gr, X.sm⟩⟩
  exact (List.perm_middle (l₁ := [(_, EnumO s.heap.objs.size (0 : Nat)), (s.heap.objs.size, TIterO t 0)])).symm

/-- two tuples as one -/
theorem add_tup {t b : Addr} {vs ws : List Value} (X : Fx S T₀ s₀ T L m own s) (ht : IsTup T t vs.toArray) (hb : IsTup T b ws.toArray) (hz : vs.length + ws.length ≤ 1000)
    (h : ∀ a T' s', Fx S T₀ s₀ T' L m own s' → Ev T T' → IsTup T' a (vs ++ ws).toArray → Q (.ref a) s') : wpAny (model PR w) A (binaryOp .Add (.ref t) (.ref b)) Q E s := by
  obtain ⟨⟨cls, dd, data, sl⟩, ho, hc, n, hd⟩ := id (ht.keeps X.st.kT)
  obtain ⟨⟨cls2, dd2, data2, sl2⟩, ho2, hc2, n2, hd2⟩ := id (hb.keeps X.st.kT)
  simp only at hc hd hc2 hd2
  subst hc hd hc2 hd2
  have e : vs.toArray ++ ws.toArray = (vs ++ ws).toArray := by simp
  by_cases hv : vs = []
  · refine concat_meets ⟨_, ho, rfl⟩ ⟨_, ho2, rfl⟩ noFill_tuple_add seq_tuple_add PySem.F.slot_tuple_add PySem.F.entry_tuple_add (PySem.F.args_tuple_add_2 _ _)
      (tuple_addW0 t b vs.toArray ws.toArray n n2 dd dd2 sl sl2 (by simp [hv])) ⟨ho, ho2, h b T _ (X.up Up.tk) (Ev.refl _) ?_⟩
    subst hv; exact hb
  · by_cases hw : ws = []
    · refine concat_meets ⟨_, ho, rfl⟩ ⟨_, ho2, rfl⟩ noFill_tuple_add seq_tuple_add PySem.F.slot_tuple_add PySem.F.entry_tuple_add (PySem.F.args_tuple_add_2 _ _)
        (tuple_addW1 t b vs.toArray ws.toArray n n2 dd dd2 sl sl2 (by simpa using hv) (by simp [hw])) ⟨ho, ho2, h t T _ (X.up Up.tk) (Ev.refl _) ?_⟩
      subst hw; rw [List.append_nil]; exact ht
    · refine concat_meets ⟨_, ho, rfl⟩ ⟨_, ho2, rfl⟩ noFill_tuple_add seq_tuple_add PySem.F.slot_tuple_add PySem.F.entry_tuple_add (PySem.F.args_tuple_add_2 _ _)
        (tuple_addW2 t b vs.toArray ws.toArray n n2 dd dd2 sl sl2 (by simpa using hv) (by simpa using hw) (by rw [List.size_toArray, List.size_toArray, sizeLine_eq]; lia)) ⟨ho, ho2, ?_⟩
      rw [e]
      obtain ⟨T', kT, e', X'⟩ := X.new (o := { cls := .type "tuple", data := .seq (vs ++ ws).toArray }) rfl
      exact h _ T' _ X' kT ⟨_, e', rfl, _, rfl⟩

/-- a frozen tuple unpacked -/
theorem s_unpack {elts : List Expr} {k : Nat} {t : Addr} {xs : List Value} {Q : Unit → Shared → Prop} (X : Fx S T₀ s₀ T L m own s) (ht : IsTup T t xs.toArray) (hh : A.handled = none)
    (h : ∀ s', Fx S T₀ s₀ T L m own s' → wpAny (model PR w) A (assignInOrder ((assignEach elts env).map (·.2)) xs) Q E s')
    (hn : (assignEach elts env).length = xs.length := by rfl) (hstar : (assignEach elts env).findIdx? (·.1) = none := by rfl) :
    wpAny (model PR w) A (assign (.Tuple elts k pos) env (.ref t)) Q E s := by
  refine assign_Tuple_tuple hh (ht.keeps X.st.kT) (by simpa using hn) hstar fun h' he => ?_
  refine h _ ⟨X.st.grow fun b o e => he b o (Nat.ne_of_lt (Heap.lt_size e)) e, X.gr, X.sm⟩

/-- methods of a list of our own -/
theorem m_list {l : Addr} {xs : List Value} {name : Str} {id : String} {pl : Sem Bool} {Q : Value × List Value → Shared → Prop} (slot : Slot "list" name id) (hty : typeOf (.builtin id) = pure (.type "method_descriptor"))
    (X : Fx S T₀ s₀ T L m own s) {i : Nat} (hi : own[i]? = some (l, LstO xs)) (h : Q (.builtin id, [.ref l]) s) : wpAny (model PR w) A (getMethod (.ref l) name pl) Q E s := by
  obtain ⟨o, ho, n, rfl⟩ := X.st.at' (i := i + 1) hi
  exact getMethod_list_of slot hty ⟨_, ho, rfl, n, rfl⟩ ⟨_, ho, rfl⟩ h

theorem c_extend {l b : Addr} {xs ys : List Value} {i : Nat} (X : Fx S T₀ s₀ T L m own s) (hi : own[i]? = some (l, LstO xs)) (hb : s.heap.PlainList b ys.toArray) (hz : xs.length + ys.length ≤ 10000000)
    (h : ∀ s', Fx S T₀ s₀ T L m (own.set i (l, LstO (xs ++ ys))) s' → Q .none s') : wpAny (model PR w) A (call (.builtin "list.extend") [.ref l, .ref b]) Q E s := by
  obtain ⟨o, ho, n, rfl⟩ := X.st.at' (i := i + 1) hi
  obtain ⟨n2, hb⟩ := hb
  have hz' : xs.toArray.size + ys.toArray.size ≤ sizeLine := by rw [List.size_toArray, List.size_toArray, sizeLine_eq]; lia
  refine call_meets PySem.F.slot_list_extend ⟨_, ho, rfl⟩ PySem.F.entry_list_extend (PySem.F.args_list_extend_2 _ _) (AutoSeq1.list_extend_list_list_0 l xs.toArray n b ys.toArray n2 (extend_door hz') (Nat.le_trans (Nat.le_add_right _ _) hz')) ⟨ho, hb, ?_⟩
  refine h _ ⟨X.st.set (i := i + 1) (P' := LstO (xs ++ ys)) hi (Heap.SameBut.update ..).extBut ?_, X.gr, X.sm⟩
  refine ⟨_, Heap.get?_update_self _ ho (by rw [mapSeq_app]; rfl), ?_⟩
  rw [mapSeq_app]
  exact ⟨_, by congr 2; simp⟩

theorem c_append {l : Addr} {x : Value} {xs : List Value} {i : Nat} (X : Fx S T₀ s₀ T L m own s) (hi : own[i]? = some (l, LstO xs)) (hz : xs.length ≤ 10000000)
    (h : ∀ s', Fx S T₀ s₀ T L m (own.set i (l, LstO (xs ++ [x]))) s' → Q .none s') : wpAny (model PR w) A (call (.builtin "list.append") [.ref l, x]) Q E s := by
  obtain ⟨o, ho, n, rfl⟩ := X.st.at' (i := i + 1) hi
  refine wpAny_list_append_plain (items := xs.toArray) ⟨n, ho⟩ (fun h' ⟨n', e⟩ hs => h _ ⟨X.st.set (i := i + 1) (P' := LstO (xs ++ [x])) hi hs.extBut ⟨_, e, n', by simp⟩, X.gr, X.sm⟩) (by rw [sizeLine_eq]; simp; lia)
end
end Mine
end

section
open PySem PySem.W PySem.Calls PyProof.Rows
set_option maxRecDepth 100000
namespace Mine
noncomputable def isQ (op : Str) : Bool := Txt.slice op none (some 1) == Str.ofString "?"
theorem is_variable_spec {w : World} {T : Heap} {s : Shared} {a : Addr} {op : Str} {tk : Tok} {vs : List Value} (G : Gnd w T) (kT : Ev T s.heap) (ht : IsTup T a (.str op tk :: vs).toArray) (hsz : vs.length < 1000) (ho : op.length ≤ 1000) :
    Spec w 62 1 [.ref a] T s fun _ r => r = .bool (vs.isEmpty && isQ op) := by
  refine enter (d := 0) (binds := [(Str.ofString "t", .ref a)]) (G.fn (i := 4) (by decide)) G.lim kT (fun _ _ _ _ _ => rfl) rfl (by decide +kernel) ?_
  intro A cd s₁ E Sh Lo Qf kS r X hQ
  conv in dBody _ => whnf
  refine wpAny_execs_cons (wpAny_Return_some (BoolOp_and (wpAny_Compare1 (e_len X G (e_loc X rfl ⟨_, _, rfl, .inl (ht.keeps X.st.kT), ?_, fun t s' u => ?_⟩)))))
  · simp; lia
  · have X := X.up u
    refine e_int fun t' s' u => wpAny_eq_int (wpAny_truthy_bool ?_)
    have X := X.up u
    cases vs with
    | cons v vs =>
      rw [show (((Value.str op tk :: v :: vs).toArray.size : Int) == 1) = false from by simp; lia]
      exact hQ _ _ <| X.done rfl
    | nil =>
      refine BoolOp_one (wpAny_Compare1 (e_strTo (e_item (e_loc X rfl ⟨_, _, 0, _, rfl, ht.keeps X.st.kT, rfl, rfl, fun s' u => ⟨_, _, rfl, ho, fun t s' u' => ?_⟩⟩))))
      refine e_str fun t s' u'' => eq_str ?_
      exact hQ _ _ <| ((((X.up u).up u').up u'')).done rfl
end Mine
end

section
open PySem PySem.W PySem.Calls PyProof.Rows
set_option maxRecDepth 100000
namespace Mine

/-- a term: an operator alone, or a term with one kid more at its end -/
inductive Tm where
  | leaf (s : Str)
  | app (t a : Tm)
  deriving DecidableEq
namespace Tm
noncomputable abbrev un (s : Str) (a : Tm) : Tm := app (leaf s) a
noncomputable abbrev bin (s : Str) (a b : Tm) : Tm := app (app (leaf s) a) b
noncomputable def op : Tm → Str
  | leaf s => s
  | app t _ => t.op
noncomputable def kids : Tm → List Tm
  | leaf _ => []
  | app t a => t.kids ++ [a]
noncomputable def depth : Tm → Nat
  | leaf _ => 1
  | app t a => max t.depth (a.depth + 1)
noncomputable def size : Tm → Nat
  | leaf _ => 1
  | app t a => t.size + a.size
theorem depth_pos (t : Tm) : 1 ≤ t.depth := by
  induction t with
  | leaf => exact Nat.le_refl _
  | app t a ih _ => exact Nat.le_trans ih (Nat.le_max_left _ _)
theorem size_pos (t : Tm) : 1 ≤ t.size := by
  induction t with
  | leaf => exact Nat.le_refl _
  | app t a ih _ => exact Nat.le_trans ih (Nat.le_add_right _ _)
theorem depth_kid {t k : Tm} (h : k ∈ t.kids) : k.depth + 1 ≤ t.depth := by
  induction t with
  | leaf => cases h
  | app t a ih _ =>
    rcases List.mem_append.mp h with h | h
    · exact Nat.le_trans (ih h) (Nat.le_max_left _ _)
    · cases List.mem_singleton.mp h; exact Nat.le_max_right _ _
theorem size_kid {t k : Tm} (h : k ∈ t.kids) : k.size + 1 ≤ t.size := by
  induction t with
  | leaf => cases h
  | app t a ih _ =>
    rcases List.mem_append.mp h with h | h
    · exact Nat.le_trans (ih h) (Nat.le_add_right _ _)
    · cases List.mem_singleton.mp h; exact Nat.add_comm 1 _ ▸ Nat.add_le_add_right t.size_pos _
theorem ind {P : Tm → Prop} (h : ∀ t, (∀ k ∈ t.kids, P k) → P t) (t : Tm) : P t := by
  have : ∀ n (t : Tm), t.size ≤ n → P t := by
    intro n
    induction n with
    | zero => intro t ht; exact absurd (Nat.le_trans t.size_pos ht) (Nat.not_succ_le_zero _)
    | succ n ih => exact fun t ht => h t fun k hk => ih k (Nat.le_of_succ_le_succ (Nat.le_trans (size_kid hk) ht))
  exact this _ t (Nat.le_refl _)
theorem depth_le (t : Tm) : t.depth ≤ t.size := by
  induction t with
  | leaf => exact Nat.le_refl _
  | app t a ih ih' => exact Nat.max_le.mpr ⟨Nat.le_trans ih (Nat.le_add_right _ _), Nat.le_trans (Nat.succ_le_succ ih') ((Nat.add_comm 1 a.size) ▸ Nat.add_le_add_right t.size_pos a.size : a.size + 1 ≤ t.size + a.size)⟩
theorem ext_kids : ∀ {t u : Tm}, t.op = u.op → t.kids = u.kids → t = u
  | leaf _, leaf _, ho, _ => congrArg leaf ho
  | leaf _, app _ _, _, hk => absurd hk.symm (List.append_ne_nil_of_right_ne_nil _ (List.cons_ne_nil _ _))
  | app _ _, leaf _, _, hk => absurd hk (List.append_ne_nil_of_right_ne_nil _ (List.cons_ne_nil _ _))
  | app t a, app u b, ho, hk => by
    obtain ⟨h1, h2⟩ := List.append_inj' (show t.kids ++ [a] = u.kids ++ [b] from hk) rfl
    rw [ext_kids (t := t) (u := u) ho h1, List.singleton_inj.mp h2]
/-- a term with more kids -/
noncomputable def more (t : Tm) (l : List Tm) : Tm := l.foldl app t
theorem more_op (l : List Tm) : ∀ t : Tm, (t.more l).op = t.op := by
  induction l with
  | nil => exact fun _ => rfl
  | cons a l ih => exact fun t => ih (app t a)
theorem more_kids (l : List Tm) : ∀ t : Tm, (t.more l).kids = t.kids ++ l := by
  induction l with
  | nil => exact fun t => (List.append_nil _).symm
  | cons a l ih => exact fun t => (ih (app t a)).trans (List.append_assoc _ _ _)
theorem more_depth {n : Nat} (l : List Tm) : ∀ t : Tm, t.depth ≤ n → (∀ k ∈ l, k.depth + 1 ≤ n) → (t.more l).depth ≤ n := by
  induction l with
  | nil => exact fun _ h _ => h
  | cons a l ih => exact fun t h hk => ih (app t a) (Nat.max_le.mpr ⟨h, hk a List.mem_cons_self⟩) fun k h => hk k (List.mem_cons_of_mem _ h)
/-- the term of an operator and kids -/
noncomputable def mk (s : Str) (l : List Tm) : Tm := (leaf s).more l
theorem mk_op (s : Str) (l : List Tm) : (mk s l).op = s := more_op l _
theorem mk_kids (s : Str) {l : List Tm} : (mk s l).kids = l := more_kids l _
end Tm

inductive All2 {α β : Type} (R : α → β → Prop) : List α → List β → Prop
  | nil : All2 R [] []
  | cons {a : α} {b : β} {l : List α} {r : List β} : R a b → All2 R l r → All2 R (a :: l) (b :: r)
namespace All2
variable {α β : Type} {R R' : α → β → Prop}
theorem mono {l : List α} {r : List β} (h : All2 R l r) (k : ∀ a b, R a b → R' a b) : All2 R' l r := by
  induction h with
  | nil => exact .nil
  | cons h _ ih => exact .cons (k _ _ h) ih
theorem length {l : List α} {r : List β} (h : All2 R l r) : l.length = r.length := by
  induction h with
  | nil => rfl
  | cons _ _ ih => simp [ih]
theorem append {l l' : List α} {r r' : List β} (h : All2 R l r) (h' : All2 R l' r') : All2 R (l ++ l') (r ++ r') := by
  induction h with
  | nil => exact h'
  | cons h _ ih => exact .cons h ih
theorem snoc {l : List α} {r : List β} {a : α} {b : β} (h : All2 R l r) (x : R a b) : All2 R (l ++ [a]) (r ++ [b]) := h.append (.cons x .nil)
theorem get {l : List α} {r : List β} (h : All2 R l r) : ∀ {i : Nat} {a : α}, l[i]? = some a → ∃ b, r[i]? = some b ∧ R a b := by
  induction h with
  | nil => intro i a h; simp at h
  | cons h _ ih =>
    intro i a hi
    cases i with
    | zero => simp at hi; subst hi; exact ⟨_, rfl, h⟩
    | succ i => simpa using ih (by simpa using hi)
theorem drop {l : List α} {r : List β} (h : All2 R l r) : ∀ (n : Nat), All2 R (l.drop n) (r.drop n) := by
  induction h with
  | nil => intro n; simpa using All2.nil
  | cons h t ih =>
    intro n
    cases n with
    | zero => exact .cons h t
    | succ n => exact ih n
theorem take {l : List α} {r : List β} (h : All2 R l r) : ∀ (n : Nat), All2 R (l.take n) (r.take n) := by
  induction h with
  | nil => intro n; simpa using All2.nil
  | cons h t ih =>
    intro n
    cases n with
    | zero => exact .nil
    | succ n => exact .cons h (ih n)
theorem unsnocR {l : List α} {r : List β} {b : β} (h : All2 R l (r ++ [b])) : ∃ l' a, l = l' ++ [a] ∧ All2 R l' r ∧ R a b := by
  induction r generalizing l with
  | nil => cases h with
    | cons h t => cases t; exact ⟨[], _, rfl, .nil, h⟩
  | cons c r ih => cases h with
    | cons h t =>
      obtain ⟨l', a, rfl, i, j⟩ := ih t
      exact ⟨_ :: l', a, rfl, .cons h i, j⟩
end All2

noncomputable def GoodS (s : Str) : Prop := s.length ≤ 1000 ∧ PyData.strOk s = true
/-- the kids of a term, in the heap -/
noncomputable def TmsIn (T : Heap) : Tm → List Value → Prop
  | .leaf _, xs => xs = []
  | .app t a, xs => ∃ ys y, xs = ys ++ [y] ∧ TmsIn T t ys ∧ ∃ p tk zs, y = .ref p ∧ GoodS a.op ∧ zs.length ≤ 6 ∧ IsTup T p (.str a.op tk :: zs).toArray ∧ TmsIn T a zs
noncomputable def TmIn (T : Heap) (t : Tm) (v : Value) : Prop := ∃ p tk zs, v = .ref p ∧ GoodS t.op ∧ zs.length ≤ 6 ∧ IsTup T p (.str t.op tk :: zs).toArray ∧ TmsIn T t zs
theorem TmsIn.map {T T' : Heap} (k : ∀ a xs, IsTup T a xs → IsTup T' a xs) {t : Tm} : ∀ {xs : List Value}, TmsIn T t xs → TmsIn T' t xs := by
  induction t with
  | leaf => exact fun h => h
  | app t a ih ih' =>
    rintro _ ⟨ys, y, e, h, p, tk, zs, e', g, l, i, h'⟩
    exact ⟨ys, y, e, ih h, p, tk, zs, e', g, l, k _ _ i, ih' h'⟩
theorem TmIn.map {T T' : Heap} (k : ∀ a xs, IsTup T a xs → IsTup T' a xs) {t : Tm} {v : Value} : TmIn T t v → TmIn T' t v := by
  rintro ⟨p, tk, zs, e, g, l, i, h⟩
  exact ⟨p, tk, zs, e, g, l, k _ _ i, h.map k⟩
theorem TmIn.ev {T T' : Heap} (k : Ev T T') {t : Tm} {v : Value} (h : TmIn T t v) : TmIn T' t v := h.map fun _ _ i => i.keeps k
theorem TmsIn.view {T : Heap} {t : Tm} : ∀ {xs : List Value}, TmsIn T t xs → All2 (fun x k => TmIn T k x) xs t.kids := by
  induction t with
  | leaf => rintro _ rfl; exact .nil
  | app t a ih _ =>
    rintro _ ⟨ys, y, rfl, h, h'⟩
    exact (ih h).snoc h'
theorem TmsIn.of {T : Heap} {t : Tm} : ∀ {xs : List Value}, All2 (fun x k => TmIn T k x) xs t.kids → TmsIn T t xs := by
  induction t with
  | leaf => intro xs h; cases h; rfl
  | app t a ih _ =>
    intro xs h
    obtain ⟨ys, y, rfl, h, h'⟩ := All2.unsnocR (show All2 _ xs (t.kids ++ [a]) from h)
    exact ⟨ys, y, rfl, ih h, h'⟩
theorem TmIn.view {T : Heap} {t : Tm} {v : Value} : TmIn T t v → GoodS t.op ∧ ∃ a tk xs, v = .ref a ∧ IsTup T a (.str t.op tk :: xs).toArray ∧ All2 (fun x k => TmIn T k x) xs t.kids
  := by
  rintro ⟨p, tk, zs, e, g, _, i, h⟩
  exact ⟨g, p, tk, zs, e, i, h.view⟩
theorem TmIn.klen {T : Heap} {t : Tm} {v : Value} : TmIn T t v → t.kids.length ≤ 6
  := by
  rintro ⟨_, _, _, _, _, l, _, h⟩
  exact h.view.length ▸ l
/-- back from the view -/
theorem TmIn.of {T : Heap} {t : Tm} {a : Addr} {tk : Tok} {xs : List Value} (ho : GoodS t.op) (ht : IsTup T a (.str t.op tk :: xs).toArray) (hk : All2 (fun x k => TmIn T k x) xs t.kids) (hl : xs.length ≤ 6) : TmIn T t (.ref a) := ⟨a, tk, xs, rfl, ho, hl, ht, .of hk⟩
theorem TmIn.leaf {T : Heap} {s : Str} {a : Addr} {tk : Tok} (ho : GoodS s) (ht : IsTup T a #[.str s tk]) : TmIn T (.leaf s) (.ref a) := ⟨a, tk, [], rfl, ho, by decide, ht, rfl⟩
theorem TmIn.un {T : Heap} {s : Str} {t : Tm} {a : Addr} {tk : Tok} {x : Value} (ho : GoodS s) (ht : IsTup T a #[.str s tk, x]) (h : TmIn T t x) : TmIn T (.un s t) (.ref a) := .of (xs := [x]) ho ht (.cons h .nil) (by simp)
theorem TmIn.bin {T : Heap} {s : Str} {t u : Tm} {a : Addr} {tk : Tok} {x y : Value} (ho : GoodS s) (ht : IsTup T a #[.str s tk, x, y]) (h : TmIn T t x) (h' : TmIn T u y) : TmIn T (.bin s t u) (.ref a) := .of (xs := [x, y]) ho ht (.cons h (.cons h' .nil)) (by simp)

noncomputable def upP (p : Nat × Tm) : Nat × Tm := (p.1 + 1, p.2)
noncomputable def subsOf : Tm → List (Nat × Tm)
  | .leaf _ => []
  | .app t a => subsOf t ++ ((0, a) :: subsOf a).map upP
noncomputable def partsOf (t : Tm) : List (Nat × Tm) := (0, t) :: subsOf t
theorem subsOf_eq (t : Tm) : subsOf t = t.kids.flatMap fun k => (partsOf k).map upP := by
  induction t with
  | leaf => rfl
  | app t a ih _ => rw [subsOf, ih, Tm.kids, List.flatMap_append, List.flatMap_singleton, partsOf]
theorem partsOf_eq (t : Tm) : partsOf t = (0, t) :: t.kids.flatMap fun k => (partsOf k).map upP := congrArg _ (subsOf_eq t)
theorem subsOf_len (t : Tm) : (subsOf t).length + 1 = t.size := by
  induction t with
  | leaf => rfl
  | app t a ih ih' => rw [subsOf, Tm.size, List.length_append, List.length_map, List.length_cons, ih', ← ih]; lia
theorem partsOf_len (t : Tm) : (partsOf t).length = t.size := subsOf_len t
theorem partsOf_fst (t : Tm) : ∀ p ∈ partsOf t, p.1 < t.size := by
  induction t using Tm.ind with
  | h t ih =>
  intro p hp
  rw [partsOf_eq] at hp
  rcases List.mem_cons.mp hp with rfl | hp
  · exact t.size_pos
  · obtain ⟨k, hk, hp⟩ := List.mem_flatMap.mp hp
    obtain ⟨q, hq, rfl⟩ := List.mem_map.mp hp
    have h1 := ih k hk q hq
    have h2 := Tm.size_kid hk
    simp only [upP]; lia
theorem parts_take_len (t : Tm) (i : Nat) : ((0, t) :: (t.kids.take i).flatMap fun k => (partsOf k).map upP).length ≤ t.size := by
  have e : t.kids.flatMap (fun k => (partsOf k).map upP) = (t.kids.take i).flatMap (fun k => (partsOf k).map upP) ++ (t.kids.drop i).flatMap (fun k => (partsOf k).map upP) := by
    rw [← List.flatMap_append, List.take_append_drop]
  have := partsOf_len t
  rw [partsOf_eq, e, List.length_cons, List.length_append] at this
  rw [List.length_cons]; lia

inductive PartIn (T : Heap) (v : Value) (p : Nat × Tm) : Prop
  | mk (a pa : Addr) (q : Value) (ps : List Value) (e : v = .ref a) (h : IsTup T a #[.ref pa, q]) (hp : IsTup T pa ps.toArray) (hz : ps.length = p.1) (ht : TmIn T p.2 q)
theorem PartIn.ev {T T' : Heap} (k : Ev T T') {v : Value} {p : Nat × Tm} (h : PartIn T v p) : PartIn T' v p :=
  by
  obtain ⟨a, pa, q, ps, e, i, j, l, t⟩ := h
  exact ⟨a, pa, q, ps, e, i.keeps k, j.keeps k, l, t.ev k⟩

end Mine
end

section
open PySem PySem.W PySem.Calls PyProof.Rows
set_option maxRecDepth 100000
namespace Mine

inductive PartsPost (t : Tm) (T' : Heap) (r : Value) : Prop
  | mk (l : Addr) (xs : List Value) (e : r = .ref l) (h : T'.PlainList l xs.toArray) (hp : All2 (PartIn T') xs (partsOf t))
inductive PartsK (T3 : Heap) (t : Tm) (fa c : Addr) (i : Nat) (T4 : Heap) (m : Str → Option Value) (own : Own) : Prop
  | mk (fvs : List Value) (cv : Option Value) (e : own = [(fa, LstO fvs), (c, CellO cv)]) (k : Ev T3 T4) (hm : m (Str.ofString "found") = some (.ref fa)) (h : All2 (PartIn T4) fvs ((0, t) :: (t.kids.take i).flatMap fun k => (partsOf k).map upP))

theorem parts_spec {w : World} (t : Tm) : t.size ≤ 100 → ∀ {T : Heap} {s : Shared} {v : Value}, Gnd w T → Ev T s.heap → TmIn T t v → Spec w 72 (t.depth + 1) [v] T s (PartsPost t) := by
  induction t using Tm.ind with
  | h t ih =>
  intro hsz T s v G kT hv
  obtain ⟨hop, a, tk, xs, rfl, ht, hk⟩ := hv.view
  refine enter (d := t.depth) (binds := [(Str.ofString "t", .ref a)]) (G.fn (i := 6) (by decide)) G.lim kT (fun _ _ _ _ _ => rfl) rfl (by decide +kernel) ?_
  intro A cd s₁ E Sh Lo Qf kS r X hQ
  conv in dBody _ => whnf
  have hx2 : xs.length ≤ 6 := by rw [hk.length]; exact hv.klen
  -- found = [((), t)]
  refine wpAny_execs_cons (wpAny_Assign_Name (e_list (args_cons (e_tuple (args_cons (e_tuple (args_nil ⟨_, _, _, _, _, _, _, X, by simp, fun pa T1 s1 X1 k1 hp => args_cons (e_loc X1 rfl (args_nil
    ⟨_, _, _, _, _, _, _, X1, by simp, fun qa T2 s2 X2 k2 hq => args_nil ⟨_, _, _, _, _, _, _, X2, by simp, fun fa s3 X3 => ?_⟩⟩))⟩)))))))
  refine s_loc X3 fun s4 X4 => ?_
  have G2 := (G.keeps k1).keeps k2
  have ht2 := (ht.keeps k1).keeps k2
  -- for k, kid in enumerate(t[1:])
  refine wpAny_execs_cons (wpAny_For (Call_ (e_boot X4 G2 (v := .type "enumerate") rfl (callWith_type1 (args_cons (e_from (e_loc X4 rfl
    ⟨_, _, _, _, _, _, _, _, _, rfl, X4, ht2, by decide, by simp, by simp; lia, fun ta T3 s5 X5 k3 hta => args_nil (call_enum_tup X5 hta fun e it s6 X6 => ?_)⟩)))))))
  have hta' : IsTup T3 ta xs.toArray := hta
  refine (Iter.enum (elts := []) (kx := 0) (pos := ⟨0,0,0,0⟩) hta').self X6 ?_
  let c : Addr := Lo + 1
  refine loop_for (Iter.enum hta') r.hh
    (PartsK T3 t fa c)
    ?_ ?_ ?_ (Ev.refl _) X6 ?_
  · rintro i T4 T5 m own k ⟨fvs, cv, e, k4, hm, hp⟩
    exact ⟨fvs, cv, e, k4.trans k, hm, hp.mono fun _ _ h => h.ev k⟩
  · -- a turn
    rintro i T4 m own s7 v E' hi k4 X7 ⟨va, vtk, x, rfl, hx, hvt⟩ ⟨fvs, cv, rfl, k4', hm, hfv⟩ Q1 hn hr
    obtain ⟨kid, hkid, hxk⟩ := hk.get hx
    have hxk4 : TmIn T4 kid x := (((hxk.ev k1).ev k2).ev k3).ev k4
    have hmem : kid ∈ t.kids := List.mem_of_getElem? hkid
    have G4 := (G2.keeps k3).keeps k4
    refine s_unpack X7 hvt r.hh fun s8 X8 => assignInOrder_cons (wpAny_assign_Name (s_cell (i := 3) X8 rfl fun s9 X9 => assignInOrder_cons (wpAny_assign_Name (s_loc X9 fun s10 X10 => assignInOrder_nil ?_))))
    -- found.extend([((k,) + path, part) for path, part in parts(kid)])
    refine wpAny_execs_cons (wpAny_Expr (MethodCall_ (e_loc X10 hm (m_list (i := 2) (xs := fvs) PySem.F.slot_list_extend (by with_unfolding_all rfl) X10 rfl (callWith_method1 (args_cons (comp_list
      (e_call X10 G4 rfl (by decide) (args_cons (e_loc X10 rfl (args_nil ⟨X10.st.kT, use_spec X10 (ih kid hmem (by have := Tm.size_kid hmem; lia) G4 X10.st.kT hxk4) (r.mono (Tm.depth_kid hmem)) fun pr s11 T5 X11 k5 hpost => ?_⟩))))))))))) 
    obtain ⟨pl, ps, rfl, hpl, hps⟩ := hpost
    have hpl' : T5.PlainList pl ps.toArray := hpl
    refine iter_list X11 hpl.isList fun I s12 X12 => ?_
    refine CompGo.mk (fun i T ys => All2 (PartIn T) ys (((partsOf kid).take i).map upP)) rfl (Iter.list hpl.isList) (Ev.refl _) X12 ?_ r.hh .nil (fun _ _ _ _ k h => h.mono fun _ _ h => h.ev k) ?_ ?_
    · rw [hps.length, partsOf_len]
      have := Tm.size_kid hmem; lia
    · rintro C j T6 mC own' s13 pv ys E'' hj k6 X13 hmo hpv hys hyl Qy Qn hyy hnn
      obtain ⟨pp, hpp, ⟨qa', pa', qv, ppath, rfl, hq', hpath, hpl2, hqv⟩⟩ := (hps.mono fun _ _ h => h.ev k6).get hpv
      have hlen : ppath.length ≤ 900 := by
        rw [hpl2]
        have h1 := partsOf_fst kid pp (List.mem_of_getElem? hpp)
        have h2 := Tm.size_kid hmem
        lia
      refine s_unpack (xs := [.ref pa', qv]) X13 hq' r.hh fun s14 X14 => assignInOrder_cons (wpAny_assign_Name (s_loc X14 fun s15 X15 => assignInOrder_cons (wpAny_assign_Name (s_loc X15 fun s16 X16 => assignInOrder_nil ?_))))
      refine wpAny_tests_nil ?_
      rw [if_pos rfl]
      have hc : (c, CellO (some (.int i vtk))) ∈ own' := hmo _ (by simp)
      refine e_tuple (args_cons (wpAny_BinOp (e_tuple (args_cons (e_cellM X16 hc (args_nil ⟨_, _, _, _, _, _, _, X16, by simp, fun ka T7 s17 X17 k7 hka => ?_⟩))))))
      refine e_loc X17 rfl (add_tup (vs := [.int i vtk]) X17 hka (hpath.keeps k7) (by simp; lia) fun na T8 s18 X18 k8 hna => ?_)
      refine args_cons (e_loc X18 rfl (args_nil ⟨_, _, _, _, _, _, _, X18, by simp, fun ra T9 s19 X19 k9 hra => ?_⟩))
      refine hyy _ _ ⟨T9, _, (k7.trans k8).trans k9, X19, ?_⟩
      have e1 : ((partsOf kid).take (j + 1)).map upP = ((partsOf kid).take j).map upP ++ [upP pp] := by
        rw [List.take_add_one, hpp]; simp
      rw [e1]
      refine (hys.mono fun _ _ h => h.ev ((k7.trans k8).trans k9)).snoc ⟨ra, na, qv, _, rfl, hra, hna.keeps k9, ?_, ((hqv.ev k7).ev k8).ev k9⟩
      simp [upP, hpl2]
    · rintro D ys T6 s13 k6 X13 hys hyl
      refine args_nil (c_extend (i := 3) (xs := fvs) (ys := ys) X13 rfl (X13.st.ow (D, LstO ys) (by simp) |>.elim fun o ho => ?_) ?_ fun s14 X14 => ?_)
      · obtain ⟨h1, n, rfl⟩ := ho
        exact ⟨n, h1⟩
      · have h1 := hfv.length
        have h2 := parts_take_len t i
        have h3 := hps.length
        rw [partsOf_len] at h3
        have h4 := Tm.size_kid hmem
        lia
      · refine wpAny_execs_nil ?_
        have X15 : Fx Sh T s T6 Lo _ ([(e, EnumO it (i + 1 : Nat)), (it, TIterO ta (i + 1)), (fa, LstO (fvs ++ ys)), (c, CellO (some (.int i vtk)))]) s14 := X14.drop
        refine (hn _ ⟨T6, _, [(fa, LstO (fvs ++ ys)), (c, CellO (some (.int i vtk)))], k5.trans k6, X15, fvs ++ ys, _, rfl, ((k4'.trans k5).trans k6), hm, ?_⟩).1
        have e1 : (0, t) :: (List.take (i + 1) t.kids).flatMap (fun k => (partsOf k).map upP) = ((0, t) :: (List.take i t.kids).flatMap (fun k => (partsOf k).map upP)) ++ (partsOf kid).map upP := by
          rw [List.take_add_one, hkid]; simp
        rw [e1]
        refine (hfv.mono fun _ _ h => (h.ev k5).ev k6).append ?_
        rw [List.take_of_length_le (by rw [hps.length]; exact Nat.le_refl _)] at hys
        exact hys
  · rintro T4 m own s7 k4 X7 ⟨fvs, cv, rfl, k4', hm, hfv⟩
    rw [List.take_of_length_le (by rw [hk.length]; exact Nat.le_refl _), ← partsOf_eq] at hfv
    show wpAny _ _ _ _ _ _
    refine wpAny_execs_cons (wpAny_Return_some (e_loc X7 hm ?_))
    obtain ⟨T5, k5, hl, X8⟩ := X7.freezeL
    exact hQ _ _ <| X8.done ⟨fa, fvs, rfl, hl, hfv.mono fun _ _ h => h.ev k5⟩
  · refine ⟨_, _, rfl, Ev.refl _, rfl, .cons ⟨_, _, _, [], rfl, hq.keeps k3, (hp.keeps k2).keeps k3, rfl, ?_⟩ .nil⟩
    exact ((hv.ev k1).ev k2).ev k3
end Mine
end

section
open PySem PySem.W PySem.Calls PyProof.Rows
set_option maxRecDepth 100000
namespace Mine

theorem owner_si : Manifest.owners.lookup (String.ofList ['r', 'o', 't', 'a', 'r', 'e', 't', 'i', '_', 't', 'e', 's'].reverse) = some Manifest.sig_set_iterator := by kernel_rfl
theorem slot_si_next : Slot "set_iterator" "__next__" "set_iterator.__next__" :=
  .of (owner := "set_iterator") (n := "__next__") (by rw [typeLookup_type, builtinLookup_eq_fast]; kernel_rfl) (by decide +kernel) (by decide +kernel) (by decide +kernel)
    (by first | exact .inl (by decide +kernel) | exact .inr (by decide +kernel)) (by rw [isSubtype_type]; kernel_rfl)
theorem entry_si_next : entryFor table "set_iterator.__next__" = some Builtin.«set_iterator.__next__» := entryFor_of_tree (by kernel_rfl)
theorem args_si_next (a : Value) : argsOk "set_iterator.__next__" ⟨[a], []⟩ := by
  unfold argsOk; rw [signature?_of (id := "set_iterator.__next__") (n := ['_', '_', 't', 'x', 'e', 'n', '_', '_']) (o := ['r', 'o', 't', 'a', 'r', 'e', 't', 'i', '_', 't', 'e', 's']) (by kernel_rfl) owner_si]; kernel_rfl
theorem entry_set_iter : entryFor table "set.__iter__" = some Builtin.«frozenset.__iter__» := entryFor_alias (id' := "frozenset.__iter__") (by kernel_rfl) rfl (by decide +kernel) (by kernel_rfl)

noncomputable def SIter (h : Heap) (I a : Addr) (first : Value) (i n ep : Nat) : Prop :=
  ∃ o, h.get? I = some o ∧ o.cls = .type "set_iterator" ∧ o.data = .fields #[first, .int i 0, .ref a, .int n 0, .int ep 0]
theorem SIter.typeIs {s : Shared} {I a : Addr} {first : Value} {i n ep : Nat} (h : SIter s.heap I a first i n ep) : s.TypeIs (.ref I) "set_iterator" := let ⟨o, a, b, _⟩ := h; ⟨o, a, b⟩

section
variable {w : World} {A : Around} {E : Value → Shared → Prop} {s : Shared}


/-- the iterator's state, read -/
theorem si_start {I a : Addr} {first : Value} {i n ep : Nat} {es : Array (Int × Value)} {tb : SetTable} {oS : Obj} {P : Fin → Shared → Prop} {E' : Value → Shared → Prop} (hit : SIter s.heap I a first i n ep)
    (hS : s.heap.get? a = some oS) (hd : oS.data = .set es ep tb) (hf : tb.fits es.size = true) (hn : n = es.size)
    (h : wpAny (model PR w) A (do
      if let .int slot _ := first then
        match ← setNext a slot.toNat ((i : Int).toNat) ((ep : Int).toNat) with
        | some (x, next) =>
          setField (.ref I) 0 (rawInt next)
          setField (.ref I) 1 (rawInt ((i : Int) + 1))
          ret x
        | none => setField (.ref I) 2 .none; raiseNew (← newExc (.type "StopIteration") [])
      else
        let some places ← seqItems? first | unsupported "internal:set_iterator"
        match places[(i : Int).toNat]? with
        | some (.int place _) =>
          let x ← setNextDrawn a place.toNat ((ep : Int).toNat)
          setField (.ref I) 1 (rawInt ((i : Int) + 1))
          ret x
        | some _ => unsupported "internal:set_iterator"
        | none => setField (.ref I) 0 (rawInt 0); setField (.ref I) 2 .none; raiseNew (← newExc (.type "StopIteration") [])) P E' s) :
    wpAny (model PR w) A (Builtin.«set_iterator.__next__» ⟨[.ref I], []⟩) P E' s := by
  obtain ⟨o, ho, hc, hdat⟩ := hit
  subst hn
  unfold Builtin.«set_iterator.__next__» slotArgs
  simp only [List.isEmpty_nil, Bool.not_true, Bool.false_eq_true, ↓reduceIte, List.length_nil, bne_self_eq_false]
  refine wpAny_bind (wpAny_pure ?_)
  dsimp only
  refine wpAny_bind (wpAny_fieldsOf ho hdat ?_)
  refine wpAny_bind (wpAny_setEntries_of hS hd hf ?_)
  rw [if_neg (by simp)]
  exact h

theorem si_set {I a : Addr} {first : Value} {i n ep : Nat} (hit : SIter s.heap I a first i n ep) {k : Nat} {v : Value} {Q : Unit → Shared → Prop} (hk : k < 5)
    (h : ∀ h', (∃ o, h'.get? I = some o ∧ o.cls = .type "set_iterator" ∧ o.data = .fields ((#[first, .int i 0, .ref a, .int n 0, .int ep 0] : Array Value).setIfInBounds k v)) → Heap.ExtBut I s.heap h' → Q () { s with heap := h' }) :
    wpAny (model PR w) A (setField (.ref I) k v) Q E s := by
  obtain ⟨o, ho, hc, hdat⟩ := hit
  refine wpAny_setField ho hdat (by simpa using hk) (h _ ⟨_, Heap.get?_update_self _ ho (Obj.isFreed_of_fields (Obj.data_mapFields hdat _)), (Obj.cls_mapFields ..).trans hc, by rw [Obj.data_mapFields hdat]⟩ (Heap.SameBut.update ..).extBut)

theorem si_stop {B : Around} {I : Addr} {Q : Option Value → Shared → Prop} {f : Nat} {v : Value} {h₀ : Heap} {o : Obj} {vs : Array Value} (hh : A.handled = none) (ho : s.heap.get? I = some o) (hd : o.data = .fields vs) (hf : f < vs.size)
    (hk : Heap.ExtBut I h₀ s.heap) (h : ∀ h', Heap.ExtBut I h₀ h' → Q none { s with heap := h' }) :
    wpAny (model PR w) A (do setField (.ref I) f v; raiseNew (← newExc (.type "StopIteration") []) : Sem Fin) (fun fin s' => ∃ r, fin = .done (.ret r) ∧ wpAny (model PR w) B (pure (some r)) Q E s')
      (fun e s' => wpAny (model PR w) B (do if ← isInstance e (.type "StopIteration") then pure none else throw e) Q E s') s := by
  refine wpAny_bind (wpAny_setField ho hd hf ?_)
  refine wpAny_bind (m := newExc (.type "StopIteration") []) ?_
  simp only [newExc, newTuple]
  refine wpAny_bind (wpAny_newObj_type ?_ (by size_fits))
  refine wpAny_bind (m := firstArgMember _ _) (wpAny_of_eq (a := Value.none) (by first | rfl | (simp only [firstArgMember]; rfl)) ?_)
  refine wpAny_newObj_type ?_ (by size_fits)
  simp only [raiseNew]
  refine wpAny_bind (wpAny_handled ?_)
  rw [hh]
  refine wpAny_bind (wpAny_pure (wpAny_throw ?_))
  refine wpAny_bind (wpAny_isInstance (T := "StopIteration") (b := true) ⟨_, Heap.get?_push_size _ rfl, rfl⟩ isSubtype_stop ?_)
  refine wpAny_pure (h _ ?_)
  have e1 : Heap.ExtBut I s.heap (s.heap.update I (Obj.mapFields (·.setIfInBounds f v))) := (Heap.SameBut.update ..).extBut
  intro b o hb e
  exact (((e1.push _).push _)) b o hb (hk b o hb e)

theorem si_item_int {I a : Addr} {slot next i n ep : Nat} {es : Array (Int × Value)} {tb : SetTable} {oS : Obj} {x : Value} {Q : Option Value → Shared → Prop} (hit : SIter s.heap I a (.int slot 0) i n ep)
    (hS : s.heap.get? a = some oS) (hd : oS.data = .set es ep tb) (hf : tb.fits es.size = true) (hn : n = es.size)
    (hnext : ∀ (A : Around) (E' : Value → Shared → Prop) (Q' : Option (Value × Nat) → Shared → Prop), Q' (some (x, next)) s → wpAny (model PR w) A (setNext a slot i ep) Q' E' s)
    (h : ∀ h', SIter h' I a (.int next 0) (i + 1) n ep → Heap.ExtBut I s.heap h' → Q (some x) { s with heap := h' }) : wpAny (model PR w) A (pyNext (.ref I)) Q E s := by
  unfold pyNext
  refine wpAny_bind (wpAny_attempt (wpAny_callSpecial?_slot (name := Str.ofString "__next__") hit.typeIs slot_si_next (wpAny_call_entry slot_si_next hit.typeIs entry_si_next ?_ (args_si_next _))))
  refine si_start hit hS hd hf hn ?_
  dsimp only
  simp only [Int.toNat_natCast]
  refine wpAny_bind (hnext _ _ _ ?_)
  dsimp only
  refine wpAny_bind (si_set hit (k := 0) (by decide) fun h1 ⟨o1, ho1, hc1, hd1⟩ e1 => ?_)
  refine wpAny_bind (wpAny_setField ho1 hd1 (by simp) (wpAny_pure ⟨_, rfl, wpAny_pure (h _ ⟨_, Heap.get?_update_self _ ho1 (Obj.isFreed_of_fields (Obj.data_mapFields hd1 _)), (Obj.cls_mapFields ..).trans hc1, by
    rw [Obj.data_mapFields hd1]; simp [rawInt]⟩ fun b o hb e => (Heap.SameBut.update ..).extBut b o hb (e1 b o hb e))⟩))

theorem si_done_int {I a : Addr} {slot i n ep : Nat} {es : Array (Int × Value)} {tb : SetTable} {oS : Obj} {Q : Option Value → Shared → Prop} (hh : A.handled = none) (hit : SIter s.heap I a (.int slot 0) i n ep)
    (hS : s.heap.get? a = some oS) (hd : oS.data = .set es ep tb) (hf : tb.fits es.size = true) (hn : n = es.size)
    (hnext : ∀ (A : Around) (E' : Value → Shared → Prop) (Q' : Option (Value × Nat) → Shared → Prop), Q' none s → wpAny (model PR w) A (setNext a slot i ep) Q' E' s)
    (h : ∀ h', Heap.ExtBut I s.heap h' → Q none { s with heap := h' }) : wpAny (model PR w) A (pyNext (.ref I)) Q E s := by
  unfold pyNext
  refine wpAny_bind (wpAny_attempt (wpAny_callSpecial?_slot (name := Str.ofString "__next__") hit.typeIs slot_si_next (wpAny_call_entry slot_si_next hit.typeIs entry_si_next ?_ (args_si_next _))))
  refine si_start hit hS hd hf hn ?_
  dsimp only
  simp only [Int.toNat_natCast]
  refine wpAny_bind (hnext _ _ _ ?_)
  dsimp only
  obtain ⟨o, ho, hc, hdat⟩ := hit
  exact si_stop (A := A.in1) (f := 2) (v := .none) (h₀ := s.heap) hh ho hdat (by simp) (fun b o _ e => e) h

theorem si_item_drawn {I a P : Addr} {i n ep place : Nat} {es : Array (Int × Value)} {tb : SetTable} {oS : Obj} {x : Value} {hx : Int} {places : Array Value} {Q : Option Value → Shared → Prop} (hit : SIter s.heap I a (.ref P) i n ep)
    (hS : s.heap.get? a = some oS) (hd : oS.data = .set es ep tb) (hf : tb.fits es.size = true) (hn : n = es.size) (hP : IsTup s.heap P places) (hp : places[i]? = some (.int place 0)) (he : es[place]? = some (hx, x))
    (h : ∀ h', SIter h' I a (.ref P) (i + 1) n ep → Heap.ExtBut I s.heap h' → Q (some x) { s with heap := h' }) : wpAny (model PR w) A (pyNext (.ref I)) Q E s := by
  unfold pyNext
  refine wpAny_bind (wpAny_attempt (wpAny_callSpecial?_slot (name := Str.ofString "__next__") hit.typeIs slot_si_next (wpAny_call_entry slot_si_next hit.typeIs entry_si_next ?_ (args_si_next _))))
  refine si_start hit hS hd hf hn ?_
  dsimp only
  simp only [Int.toNat_natCast]
  obtain ⟨oP, hoP, _, nP, hdP⟩ := hP
  refine wpAny_bind (wpAny_seqItems hoP hdP ?_)
  simp only [hp]
  refine wpAny_bind (m := setNextDrawn _ _ _) ?_
  unfold setNextDrawn
  refine wpAny_bind (wpAny_setState_of hS hd hf ?_)
  dsimp only
  rw [if_neg (by simp)]
  simp only [Int.toNat_natCast, he]
  refine wpAny_pure ?_
  refine wpAny_bind (si_set hit (k := 1) (by decide) fun h1 ⟨o1, ho1, hc1, hd1⟩ e1 => ?_)
  refine wpAny_pure ⟨_, rfl, wpAny_pure (h _ ⟨_, ho1, hc1, by rw [hd1]; simp [rawInt]⟩ e1)⟩

theorem si_done_drawn {I a P : Addr} {i n ep : Nat} {es : Array (Int × Value)} {tb : SetTable} {oS : Obj} {places : Array Value} {Q : Option Value → Shared → Prop} (hh : A.handled = none) (hit : SIter s.heap I a (.ref P) i n ep)
    (hS : s.heap.get? a = some oS) (hd : oS.data = .set es ep tb) (hf : tb.fits es.size = true) (hn : n = es.size) (hP : IsTup s.heap P places) (hp : places[i]? = none)
    (h : ∀ h', Heap.ExtBut I s.heap h' → Q none { s with heap := h' }) : wpAny (model PR w) A (pyNext (.ref I)) Q E s := by
  unfold pyNext
  refine wpAny_bind (wpAny_attempt (wpAny_callSpecial?_slot (name := Str.ofString "__next__") hit.typeIs slot_si_next (wpAny_call_entry slot_si_next hit.typeIs entry_si_next ?_ (args_si_next _))))
  refine si_start hit hS hd hf hn ?_
  dsimp only
  simp only [Int.toNat_natCast]
  obtain ⟨oP, hoP, _, nP, hdP⟩ := hP
  refine wpAny_bind (wpAny_seqItems hoP hdP ?_)
  simp only [hp]
  refine wpAny_bind (si_set hit (k := 0) (by decide) fun h1 ⟨o1, ho1, hc1, hd1⟩ e1 => ?_)
  exact si_stop (A := A.in1) (f := 2) (v := .none) (h₀ := s.heap) (s := { s with heap := h1 }) hh ho1 hd1 (by simp) e1 h
end
end Mine
end

section
open PySem PySem.W PySem.Calls PyProof.Rows
set_option maxRecDepth 100000
namespace Mine

theorem erase_perm {α : Type} : ∀ {l : List α} {i : Nat} {x : α}, l[i]? = some x → (x :: l.eraseIdx i).Perm l
  | a :: l, 0, x, h => by simp at h; subst h; simp
  | a :: l, i + 1, x, h => by
    rw [List.eraseIdx_cons_succ]
    exact (List.Perm.swap ..).trans (List.Perm.cons _ (erase_perm (by simpa using h)))
theorem pickOrder_go {α : Type} (next : Nat → Nat) : ∀ (fuel k : Nat) (left : List α) (out : Array α), left.length ≤ fuel → (pickOrder.go next fuel k left out).toList.Perm (out.toList ++ left)
  | 0, k, left, out, h => by
    have : left = [] := List.eq_nil_of_length_eq_zero (by lia)
    subst this; simp [pickOrder.go]
  | fuel + 1, k, left, out, h => by
    unfold pickOrder.go
    split
    · rename_i x hx
      obtain ⟨hlt, e⟩ := List.getElem?_eq_some_iff.mp hx
      refine (pickOrder_go next fuel (k + 1) _ _ (by rw [List.length_eraseIdx]; split <;> lia)).trans ?_
      rw [Array.toList_push, List.append_assoc]
      refine List.Perm.append_left _ ?_
      exact erase_perm hx
    · rename_i hx
      cases left with
      | nil => simp
      | cons a l =>
        rw [List.getElem?_eq_none_iff] at hx
        exact absurd (Nat.mod_lt (next k) (Nat.zero_lt_succ l.length)) (by simpa using hx)
theorem pickOrder_perm {α : Type} (next : Nat → Nat) (xs : Array α) : (pickOrder next xs).toList.Perm xs.toList := by
  have := pickOrder_go next xs.size 0 xs.toList #[] (by simp)
  simpa [pickOrder] using this

section
variable {w : World} {A : Around} {E : Value → Shared → Prop} {s : Shared}

theorem wpAny_choose {src : Source} {n : Nat} {Q : Nat → Shared → Prop} (hn : 0 < n) (h : ∀ i d, i < n → Q i { s with drawn := d }) : wpAny (model PR w) A (choose src n) Q E s := by
  intro Γ p hΓ
  exact ⟨by lia, h _ _ (Nat.mod_lt _ hn)⟩

theorem wpAny_drawOrder {α : Type} : ∀ (n : Nat) (xs : List α) {s : Shared} {Q : List α → Shared → Prop}, xs.length ≤ n → (∀ ys d, ys.Perm xs → Q ys { s with drawn := d }) → wpAny (model PR w) A (drawOrder n xs) Q E s
  | 0, xs, s, Q, hl, h => by
    have : xs = [] := List.eq_nil_of_length_eq_zero (by lia)
    subst this
    exact wpAny_pure (h [] s.drawn (List.Perm.refl _))
  | n + 1, [], s, Q, hl, h => wpAny_pure (h [] s.drawn (List.Perm.refl _))
  | n + 1, a :: l, s, Q, hl, h => by
    unfold drawOrder
    refine wpAny_bind (wpAny_choose (by simp) fun i d hi => ?_)
    obtain ⟨x, hx⟩ : ∃ x, (a :: l)[i]? = some x := ⟨_, List.getElem?_eq_getElem hi⟩
    rw [hx]
    dsimp only
    refine wpAny_bind (wpAny_drawOrder n _ (by rw [List.length_eraseIdx_of_lt hi]; simp at hl ⊢; lia) fun ys d' hp => wpAny_pure (h _ d' ?_))
    exact (List.Perm.cons _ hp).trans (erase_perm hx)

/-- what a set's walk needs -/
structure SetW (w : World) (o : Obj) (es : Array (Int × Value)) (ep : Nat) (tb : SetTable) : Prop where
  cls : o.cls = .type "set"
  data : o.data = .set es ep tb
  fit : tb.fits es.size = true
  led : w.params.followText "set-order" = false → tb.led = true
  plain : es.size ≠ 0 → tb.plain = false

theorem wpAny_setsByText {Q : Bool → Shared → Prop} (h : Q (w.params.followText "set-order") s) : wpAny (model PR w) A setsByText Q E s := by
  unfold setsByText
  exact wpAny_bind (wpAny_askSetting (wpAny_pure h))

theorem next_text {a : Addr} {o : Obj} {es : Array (Int × Value)} {ep : Nat} {tb : SetTable} (W : SetW w o es ep tb) (hb : w.params.followText "set-order" = true) (ho : s.heap.get? a = some o) {i : Nat} {Q : Option (Value × Nat) → Shared → Prop}
    (h : Q (((pickOrder (w.params.setOrder a ep) es)[i]?).map fun e => (e.2, 0)) s) : wpAny (model PR w) A (setNext a 0 i ep) Q E s := by
  unfold setNext
  refine wpAny_bind (wpAny_setState_of ho W.data W.fit ?_)
  dsimp only
  refine wpAny_bind (wpAny_setsByText ?_)
  rw [if_pos hb, if_neg (by simp)]
  unfold setWalk
  refine wpAny_bind (wpAny_bind (wpAny_setState_of ho W.data W.fit ?_))
  dsimp only
  refine wpAny_bind (wpAny_setsByText ?_)
  rw [if_pos hb]
  exact wpAny_bind (wpAny_askSetting (wpAny_pure (wpAny_pure h)))

theorem next_slot {a : Addr} {o : Obj} {es : Array (Int × Value)} {ep : Nat} {tb : SetTable} (W : SetW w o es ep tb) (hb : w.params.followText "set-order" = false) (h1 : es.size ≤ 1) (ho : s.heap.get? a = some o) {slot i : Nat} {Q : Option (Value × Nat) → Shared → Prop}
    (h : Q (match es[SetTable.below tb.place slot]?, tb.place[SetTable.below tb.place slot]? with
    | some (_, x), some j => some (x, j + 1)
    | _, _ => none) s) : wpAny (model PR w) A (setNext a slot i ep) Q E s := by
  unfold setNext
  refine wpAny_bind (wpAny_setState_of ho W.data W.fit ?_)
  dsimp only
  refine wpAny_bind (wpAny_setsByText ?_)
  rw [if_neg (by rw [hb]; decide)]
  have hz : decide (es.size > 1) = false := by simpa using h1
  refine wpAny_ite_split (fun hc => absurd hc ?_) fun _ => ?_
  · show ¬ ((!tb.plain && decide (es.size > 1)) = true)
    rw [hz]; simp
  · refine wpAny_bind (m := if (!tb.led && !es.isEmpty) = true then unsupported "set:maker-not-led" else pure ()) ?_
    rw [W.led hb]
    exact wpAny_pure (wpAny_pure h)
end
end Mine
end

section
open PySem PySem.W PySem.Calls PyProof.Rows
set_option maxRecDepth 100000
namespace Mine

theorem slot_si_iter : Slot "set_iterator" "__iter__" "set_iterator.__iter__" :=
  .of (owner := "set_iterator") (n := "__iter__") (by rw [typeLookup_type, builtinLookup_eq_fast]; kernel_rfl) (by decide +kernel) (by decide +kernel) (by decide +kernel)
    (by first | exact .inl (by decide +kernel) | exact .inr (by decide +kernel)) (by rw [isSubtype_type]; kernel_rfl)
theorem args_si_iter (a : Value) : argsOk "set_iterator.__iter__" ⟨[a], []⟩ := by
  unfold argsOk; rw [signature?_of (id := "set_iterator.__iter__") (n := ['_', '_', 'r', 'e', 't', 'i', '_', '_']) (o := ['r', 'o', 't', 'a', 'r', 'e', 't', 'i', '_', 't', 'e', 's']) (by kernel_rfl) owner_si]; kernel_rfl
theorem entry_si_iter : entryFor table "set_iterator.__iter__" = some Builtin.«dict_keyiterator.__iter__» := entryFor_alias (id' := "dict_keyiterator.__iter__") (by kernel_rfl) rfl (by decide +kernel) (by kernel_rfl)

section
variable {w : World} {A B : Around} {E : Value → Shared → Prop} {s : Shared}

theorem si_self {I a : Addr} {first : Value} {i n ep : Nat} {Q : Value → Shared → Prop} (hit : SIter s.heap I a first i n ep) (h : Q (.ref I) s) : wpAny (model PR w) A (pyIter (.ref I)) Q E s := by
  refine wpAny_pyIter_slot hit.typeIs slot_si_iter (wpAny_call_entry slot_si_iter hit.typeIs entry_si_iter ?_ (args_si_iter _))
  show wpAny _ _ (ret (.ref I)) _ _ s
  exact wpAny_pure ⟨_, rfl, "set_iterator", _, hit.typeIs, slot_si_next.lookup, h⟩

theorem SIter.at' {h h' : Heap} {I a : Addr} {first : Value} {i n ep : Nat} (x : SIter h I a first i n ep) (k : ∀ o, h.get? I = some o → h'.get? I = some o) : SIter h' I a first i n ep :=
  let ⟨o, e, r⟩ := x; ⟨o, k o e, r⟩

theorem moved1 {I : Addr} {h' : Heap} (k : Heap.ExtBut I s.heap h') : Moved [I] (fun x y => y = x) s { s with heap := h' } :=
  ⟨fun b o hb e => k b o (fun h => hb (by simp [h])) e, rfl, rfl, rfl, Nat.le_refl _⟩

theorem si_walk_int {I a : Addr} {o : Obj} {es : Array (Int × Value)} {ep : Nat} {tb : SetTable} (W : SetW w o es ep tb) (hne : a ≠ I) (hh : B.handled = none) (vs : List Value) (hl : vs.length = es.size) (slot : Nat → Nat)
    (hnext : ∀ (A : Around) (E' : Value → Shared → Prop) (s : Shared) (Q : Option (Value × Nat) → Shared → Prop) (i : Nat), i ≤ vs.length → s.heap.get? a = some o → Q (vs[i]?.map fun x => (x, slot (i + 1))) s → wpAny (model PR w) A (setNext a (slot i) i ep) Q E' s) :
    WalksS PR w B I [I, a] [I] (fun x y => y = x) vs.length (fun i v => vs[i]? = some v) (fun i s => SIter s.heap I a (.int (slot i) 0) i es.size ep ∧ s.heap.get? a = some o) where
  sub := fun b hb => by simp at hb; simp [hb]
  grefl := fun _ => rfl
  gtrans := fun _ _ _ x y => y.trans x
  frame := fun i s h' tk st _ hk => ⟨st.1.at' fun o e => hk I (by simp) o e, hk a (by simp) _ st.2⟩
  item := fun i s Q E hi st hQ => by
    refine si_item_int st.1 st.2 W.data W.fit rfl (x := vs[i]) (next := slot (i + 1)) (fun A E' Q' q => hnext A E' s Q' i (Nat.le_of_lt hi) st.2 (by rw [List.getElem?_eq_getElem hi]; exact q)) fun h' hit' he => ?_
    exact hQ _ _ (List.getElem?_eq_getElem hi) ⟨hit', he _ _ hne st.2⟩ (moved1 he)
  done := fun s Q E st hQ => by
    refine si_done_int hh st.1 st.2 W.data W.fit rfl (fun A E' Q' q => hnext A E' s Q' vs.length (Nat.le_refl _) st.2 (by simpa using q)) fun h' he => hQ _ (moved1 he)
  self := fun i s Q E st hQ => si_self st.1 hQ

theorem si_walk_drawn {I a P : Addr} {o : Obj} {es : Array (Int × Value)} {ep : Nat} {tb : SetTable} (W : SetW w o es ep tb) (hne : a ≠ I) (hneP : P ≠ I) (hh : B.handled = none) (places : List Nat) (hl : ∀ p ∈ places, p < es.size) (vs : List Value)
    (hvs : vs = places.map fun p => (es.getD p (0, .none)).2) :
    WalksS PR w B I [I, a, P] [I] (fun x y => y = x) vs.length (fun i v => vs[i]? = some v) (fun i s => SIter s.heap I a (.ref P) i es.size ep ∧ s.heap.get? a = some o ∧ IsTup s.heap P (places.map fun i : Nat => rawInt i).toArray) where
  sub := fun b hb => by simp at hb; simp [hb]
  grefl := fun _ => rfl
  gtrans := fun _ _ _ x y => y.trans x
  frame := fun i s h' tk st _ hk => ⟨st.1.at' fun o e => hk I (by simp) o e, hk a (by simp) _ st.2.1, let ⟨o', e, r⟩ := st.2.2; ⟨o', hk P (by simp) o' e, r⟩⟩
  item := fun i s Q E hi st hQ => by
    have hi' : i < places.length := by rw [hvs, List.length_map] at hi; exact hi
    have hp : places[i] < es.size := hl _ (List.getElem_mem hi')
    have hv : vs[i]? = some (es[places[i]]).2 := by
      subst hvs
      simp [List.getElem?_eq_getElem hi', Array.getD, hp]
    refine si_item_drawn (place := places[i]) (x := (es[places[i]]).2) (hx := (es[places[i]]).1) st.1 st.2.1 W.data W.fit rfl st.2.2 (by simp [List.getElem?_eq_getElem hi', rawInt]) (by simp [hp]) fun h' hit' he => ?_
    exact hQ _ _ hv ⟨hit', he _ _ hne st.2.1, let ⟨o', e, r⟩ := st.2.2; ⟨o', he _ _ hneP e, r⟩⟩ (moved1 he)
  done := fun s Q E st hQ => by
    have : vs.length = places.length := by rw [hvs, List.length_map]
    refine si_done_drawn hh st.1 st.2.1 W.data W.fit rfl st.2.2 (by simp [this]) fun h' he => hQ _ (moved1 he)
  self := fun i s Q E st hQ => si_self st.1 hQ

theorem below_zero (xs : Array Nat) (h : xs.size ≤ 1) : SetTable.below xs 0 = 0 := by
  obtain ⟨l⟩ := xs
  match l, h with
  | [], _ => rfl
  | [x], _ => simp [SetTable.below, SetTable.below.go]
theorem below_one (x : Nat) : SetTable.below #[x] (x + 1) = 1 := by
  simp [SetTable.below, SetTable.below.go]

theorem one_slot {l : List (Int × Value)} {pl : List Nat} {i : Nat} {R : Option (Value × Nat) → Prop} (h1 : (Array.mk l).size ≤ 1) (hps : (Array.mk pl).size = (Array.mk l).size) (hi : i ≤ (l.map (·.2)).length)
    (hq : R (Option.map (fun x => (x, if i + 1 = 0 then 0 else (Array.mk pl).getD 0 0 + 1)) (l.map (·.2))[i]?)) :
    R (match (Array.mk l)[SetTable.below (Array.mk pl) (if i = 0 then 0 else (Array.mk pl).getD 0 0 + 1)]?, (Array.mk pl)[SetTable.below (Array.mk pl) (if i = 0 then 0 else (Array.mk pl).getD 0 0 + 1)]? with
    | some (_, x), some j => some (x, j + 1)
    | _, _ => none) := by
  cases l with
  | nil =>
    cases pl with
    | nil =>
      have : i = 0 := by simpa using hi
      subst this
      simpa [below_zero] using hq
    | cons j pl => simp at hps
  | cons p l =>
    cases l with
    | cons q l => simp at h1
    | nil =>
      obtain ⟨hx, x⟩ := p
      cases pl with
      | nil => simp at hps
      | cons j pl =>
        cases pl with
        | cons k pl => simp at hps
        | nil =>
          simp only [List.length_map, List.length_cons, List.length_nil] at hi
          cases i with
          | zero => simpa [below_zero] using hq
          | succ i =>
            have : i = 0 := by lia
            subst this
            simpa [below_one] using hq

theorem set_iter {a : Addr} {o : Obj} {es : Array (Int × Value)} {ep : Nat} {tb : SetTable} {Q : Value → Shared → Prop} (W : SetW w o es ep tb) (ho : s.heap.get? a = some o) (hz : es.size ≤ 1000) (hh : B.handled = none)
    (h : ∀ (I : Addr) (fp : List Addr) (vs : List Value) (St : Nat → Shared → Prop) (h' : Heap) (d : Drawn), Ev s.heap h' → s.heap.get? I = none → (∀ b ∈ fp, b = a ∨ s.heap.get? b = none) → vs.Perm (es.toList.map (·.2)) →
      WalksS PR w B I fp [I] (fun x y => y = x) vs.length (fun i v => vs[i]? = some v) St → St 0 { s with heap := h', drawn := d } → I ∈ fp → (∀ i s, St i s → s.TypeIs (.ref I) "set_iterator") →
      Q (.ref I) { s with heap := h', drawn := d }) : wpAny (model PR w) A (pyIter (.ref a)) Q E s := by
  have hT : s.TypeIs (.ref a) "set" := ⟨o, ho, W.cls⟩
  have ha := Heap.lt_size ho
  refine wpAny_pyIter_slot hT PySem.F.slot_set_iter (wpAny_call_entry PySem.F.slot_set_iter hT entry_set_iter ?_ (PySem.F.args_set_iter_1 _))
  unfold Builtin.«frozenset.__iter__» Builtin.Frozenset.slot0 slotArgs
  simp only [List.isEmpty_nil, Bool.not_true, Bool.false_eq_true, ↓reduceIte, bind_assoc, List.length_nil, bne_self_eq_false]
  unfold Builtin.Frozenset.addrOf Builtin.Frozenset.sizeOf
  refine wpAny_bind (wpAny_pure ?_)
  dsimp only
  refine wpAny_bind (wpAny_pure ?_)
  refine wpAny_bind (wpAny_bind (wpAny_setEntries_of ho W.data W.fit (wpAny_pure ?_)))
  unfold setDrawn
  refine wpAny_bind (wpAny_bind (wpAny_setState_of ho W.data W.fit ?_))
  dsimp only
  refine wpAny_bind (wpAny_setsByText (wpAny_pure ?_))
  have fin : ∀ (h1 : Heap) (d : Drawn) (first : Value), Ev s.heap h1 → (∀ (I : Addr), I = h1.objs.size →
      ∃ (fp : List Addr) (vs : List Value) (St : Nat → Shared → Prop), (∀ b ∈ fp, b = I ∨ b = a ∨ s.heap.get? b = none) ∧ vs.Perm (es.toList.map (·.2)) ∧ WalksS PR w B I fp [I] (fun x y => y = x) vs.length (fun i v => vs[i]? = some v) St ∧
        (∀ h2 : Heap, Ev h1 h2 → SIter h2 I a first 0 es.size ep → St 0 { s with heap := h2, drawn := d }) ∧ I ∈ fp ∧ (∀ i s, St i s → s.TypeIs (.ref I) "set_iterator")) →
      wpAny (model PR w) A.in1 (do ret (← newFields "set_iterator" [first, rawInt 0, .ref a, rawInt es.size, rawInt (← setEpoch a)]))
        (fun fin s' => ∃ v, fin = Fin.done (Flow.ret v) ∧ ∃ T' r, s'.TypeIs v T' ∧ typeLookup (Value.type T') (Str.ofString "__next__") = pure (some r) ∧ Q v s') E { s with heap := h1, drawn := d } := by
    intro h1 d first k hw
    refine wpAny_bind (wpAny_setEpoch_of (s := { s with heap := h1, drawn := d }) (k _ _ ho) W.data W.fit ?_)
    refine wpAny_bind (m := newFields _ _) ?_
    unfold newFields
    refine wpAny_newObj_type (s := { s with heap := h1, drawn := d }) ?_ (by size_fits)
    obtain ⟨fp, vs, St, hfp, hp, WW, st, hI, hty⟩ := hw h1.objs.size rfl
    have hg : (h1.push { cls := .type "set_iterator", data := .fields [first, rawInt 0, .ref a, rawInt es.size, rawInt ep].toArray }).get? h1.objs.size = some { cls := .type "set_iterator", data := .fields [first, rawInt 0, .ref a, rawInt es.size, rawInt ep].toArray } := Heap.get?_push_size _ rfl
    refine wpAny_pure ⟨_, rfl, "set_iterator", _, ⟨_, hg, rfl⟩, slot_si_next.lookup, ?_⟩
    refine h h1.objs.size fp vs St _ d (k.trans (Ev.push _ _)) (none_of_ev k (get_size _)) (fun b hb => ?_) hp WW (st _ (Ev.push _ _) ⟨_, hg, rfl, rfl⟩) hI hty
    rcases hfp b hb with rfl | hb
    · exact .inr (none_of_ev k (get_size _))
    · exact hb
  cases hb : w.params.followText "set-order" with
  | true =>
    rw [if_neg (by simp)]
    refine wpAny_bind (wpAny_pure (fin s.heap s.drawn _ (Ev.refl _) fun I hI => ?_))
    have hp := pickOrder_perm (w.params.setOrder a ep) es
    refine ⟨[I, a], (pickOrder (w.params.setOrder a ep) es).toList.map (·.2), _, fun b hb => ?_, hp.map _, si_walk_int W (by rw [hI]; exact Nat.ne_of_lt ha) hh _ (by rw [List.length_map, hp.length_eq]; simp) (fun _ => 0) (fun A E' s' Q' i hi ho' hq => next_text W hb ho' ?_), fun h2 k2 hs => ⟨hs, k2 _ _ ho⟩, by simp, fun i s' st => st.1.typeIs⟩
    · rcases List.mem_cons.mp hb with rfl | hb
      · exact .inl rfl
      · rw [List.mem_singleton.mp hb]; exact .inr (.inl rfl)
    · rw [List.getElem?_map, Option.map_map, Array.getElem?_toList] at hq
      exact hq
  | false =>
    by_cases h1 : es.size ≤ 1
    · rw [if_neg (by
        show ¬ ((!false && (!tb.plain && decide (es.size > 1))) = true)
        have : decide (es.size > 1) = false := by simpa using h1
        simp [this])]
      refine wpAny_bind (wpAny_pure (fin s.heap s.drawn _ (Ev.refl _) fun I hI => ?_))
      have hps : tb.place.size = es.size := by have := W.fit; simp only [SetTable.fits, Bool.and_eq_true, beq_iff_eq] at this; exact this.1
      refine ⟨[I, a], es.toList.map (·.2), _, fun b hb => ?_, List.Perm.refl _, si_walk_int W (by rw [hI]; exact Nat.ne_of_lt ha) hh _ (by simp) (fun i => if i = 0 then 0 else tb.place.getD 0 0 + 1) (fun A E' s' Q' i hi ho' hq => next_slot W hb h1 ho' ?_), fun h2 k2 hs => ⟨hs, k2 _ _ ho⟩, by simp, fun i s' st => st.1.typeIs⟩
      · rcases List.mem_cons.mp hb with rfl | hb
        · exact .inl rfl
        · rw [List.mem_singleton.mp hb]; exact .inr (.inl rfl)
      · generalize hes : es = es' at *
        obtain ⟨l⟩ := es'
        generalize hpl : tb.place = pl at *
        obtain ⟨pl⟩ := pl
        exact one_slot (R := fun r => Q' r s') h1 hps hi hq
    · rw [if_pos (by
        show (!false && (!tb.plain && decide (es.size > 1))) = true
        rw [W.plain (by lia)]
        simp; lia)]
      refine wpAny_bind (wpAny_drawOrder es.size (List.range es.size) (by simp) fun ys d hp => ?_)
      refine wpAny_bind ?_
      have hlen : ys.length = es.size := by rw [hp.length_eq]; simp
      refine wpAny_newTuple ?_ (by rw [sizeLine_eq]; simp only [List.length_map]; lia)
      refine fin (s.heap.push { cls := .type "tuple", data := .seq (ys.map fun i : Nat => rawInt i).toArray }) d _ (Ev.push _ _) fun I hI => ?_
      have hIP : s.heap.objs.size ≠ I := by rw [hI, Heap.size_push]; exact Nat.ne_of_lt (Nat.lt_succ_self _)
      have hIa : a ≠ I := by rw [hI, Heap.size_push]; exact Nat.ne_of_lt (Nat.lt_succ_of_lt ha)
      refine ⟨[I, a, s.heap.objs.size], ys.map fun p => (es.getD p (0, .none)).2, _, fun b hb => ?_, ?_, si_walk_drawn W hIa hIP hh ys (fun p hp' => by simpa using hp.mem_iff.mp hp') _ rfl,
        fun h2 k2 hs => ⟨hs, k2 _ _ (Ev.push _ _ _ _ ho), _, k2 _ _ (Heap.get?_push_size _ rfl), rfl, _, rfl⟩, by simp, fun i s' st => st.1.typeIs⟩
      · rcases List.mem_cons.mp hb with rfl | hb
        · exact .inl rfl
        · rcases List.mem_cons.mp hb with rfl | hb
          · exact .inr (.inl rfl)
          · rw [List.mem_singleton.mp hb]; exact .inr (.inr (get_size _))
      · refine (hp.map _).trans (List.Perm.of_eq ?_)
        refine List.ext_getElem? fun i => ?_
        by_cases hi : i < es.size
        · simp [List.getElem?_map, List.getElem?_range hi, hi, Array.getD]
        · simp [hi, List.getElem?_eq_none]
end
end Mine
end

section
open PySem PySem.W PySem.Calls PyProof.Rows
set_option maxRecDepth 100000
namespace Mine

/-- a set of strs: its members, a bound of their number -/
noncomputable def SetS (w : World) (N : Str → Prop) (n : Nat) (h : Heap) (a : Addr) : Prop :=
  ∃ o es ep tb, h.get? a = some o ∧ o.ExactSet ∧ SetW w o es ep tb ∧ ElemsOf (strKind PR w) es.toList ∧ (∀ x, N x ↔ ∃ e ∈ es.toList, (strKind PR w).is x e.2 = true) ∧ es.size ≤ n

theorem standIn_flags (t : SetTable) (n : Nat) : (t.standIn n).led = t.led ∧ (t.standIn n).plain = false := ⟨rfl, rfl⟩
theorem layNew_led (t : SetTable) (es : Array (Int × Value)) (h : Int) (x : Value) : (layNew t es h x).2.1.led = t.led := by
  unfold layNew
  split
  · dsimp only [SetTable.orStandIn]
    split <;> rfl
  · rfl
theorem layNew_plain (t : SetTable) (es : Array (Int × Value)) (h : Int) (x : Value) (hp : t.plain = false) : (layNew t es h x).2.1.plain = false := by
  unfold layNew
  split
  · dsimp only [SetTable.orStandIn]
    split
    · exact hp
    · rfl
  · rfl
theorem relaid_flags {t t' : SetTable} {hs : Array Int} {n : Nat} {o : Array Nat} (h : t.relaid hs n = some (t', o)) : t'.led = t.led ∧ t'.plain = t.plain := by
  unfold SetTable.relaid SetTable.laid at h
  cases hc : SetTable.layClean (SetTable.sizeAbove n - 1) hs with
  | none => rw [hc] at h; cases h
  | some ow =>
    rw [hc] at h
    simp only [Option.bind_eq_bind, Option.bind_some, Option.pure_def, Option.some.injEq, Prod.mk.injEq] at h
    obtain ⟨rfl, _⟩ := h
    exact ⟨rfl, rfl⟩
theorem relayAll_flags (t : SetTable) (es : Array (Int × Value)) (n : Nat) (hp : t.plain = false) : (relayAll t es n).2.1.led = t.led ∧ (relayAll t es n).2.1.plain = false := by
  unfold relayAll
  split
  · rename_i t' o ht
    obtain ⟨a, b⟩ := relaid_flags ht
    dsimp only
    split
    · exact ⟨a, b.trans hp⟩
    · exact standIn_flags ..
  · exact standIn_flags ..

section
variable {w : World} {A : Around} {E : Value → Shared → Prop} {s : Shared}

theorem set_add {a : Addr} {N : Str → Prop} {n : Nat} {k : Str} {tk : Tok} {Q : Bool → Shared → Prop} (hS : SetS w N n s.heap a) (hn : n + 1 < scanBound)
    (h : ∀ b h', Heap.SameBut a s.heap h' → SetS w (fun y => N y ∨ y = k) (n + 1) h' a → Q b { s with heap := h' }) :
    wpAny (model PR w) A (setAddHashed a (.str k tk) ((strKind PR w).hash k)) Q E s := by
  obtain ⟨o, es, ep, t, ho, hex, hW, hel, hmem, hb⟩ := hS
  have hkey : (strKind PR w).is k (.str k tk) = true := strKind_is _ _ _ _
  have hsc : (Value.str k tk).scannable = true := rfl
  have hd := hW.data
  have hf := hW.fit
  have hbs : es.size < scanBound := by lia
  unfold setAddHashed setAddHashedIn
  refine wpAny_holding (wpAny_bind (wpAny_setState_of ho hd hf ?_))
  dsimp only
  rw [byScan_of hsc hbs hel]
  simp only [↓reduceIte]
  unfold setAddByScan
  refine wpAny_bind ?_
  refine wpAny_bind (wpAny_rule ?_)
  refine wpAny_bind (wpAny_setScan_of hkey ho hd hf hel ?_)
  cases hr : List.findIdx? (fun e => (strKind PR w).is k e.2) es.toList with
  | some j =>
    dsimp only
    obtain ⟨hj, hpj, _⟩ := List.findIdx?_eq_some_iff_getElem.mp hr
    have hNk : N k := (hmem k).mpr ⟨es.toList[j], List.getElem_mem hj, hpj⟩
    refine wpAny_pure (wpAny_pure ?_)
    have := h false s.heap (Heap.SameBut.refl a s.heap) ⟨o, es, ep, t, ho, hex, hW, hel, fun x => ⟨fun q => (hmem x).mp (q.elim id fun e => e ▸ hNk), fun q => .inl ((hmem x).mpr q)⟩, Nat.le_succ_of_le hb⟩
    cases s; exact this
  | none =>
    dsimp only
    have hgw : ∀ (b : Bool) {s₁ : Shared} {Q' : Unit → Shared → Prop}, Q' () s₁ → wpAny (model PR w) A (match b with | true => rule "set.scan.the-table-gave-way" | false => pure ()) Q' E s₁ :=
      fun b s₁ Q' hq => by cases b <;> first | exact wpAny_pure hq | exact wpAny_rule hq
    have hperm := layNew_perm t es ((strKind PR w).hash k) (.str k tk)
    have hfits := layNew_fits t es ((strKind PR w).hash k) (.str k tk)
    have hled := layNew_led t es ((strKind PR w).hash k) (.str k tk)
    have hplain := layNew_plain t es ((strKind PR w).hash k) (.str k tk)
    generalize hL : layNew t es ((strKind PR w).hash k) (.str k tk) = L at hperm hfits hled hplain ⊢
    obtain ⟨es1, t1, wasDummy, gave⟩ := L
    dsimp only at hperm hfits hled hplain ⊢
    rw [Array.toList_push] at hperm
    have hel1 : ElemsOf (strKind PR w) es1.toList := (hel.push hkey hsc).perm hperm
    have hmem1 : ∀ x, (N x ∨ x = k) ↔ ∃ e ∈ es1.toList, (strKind PR w).is x e.2 = true := fun x => by
      rw [hmem x]
      constructor
      · rintro (⟨e, he, hp⟩ | rfl)
        · exact ⟨e, hperm.mem_iff.mpr (List.mem_append_left _ he), hp⟩
        · exact ⟨(_, .str x tk), hperm.mem_iff.mpr (List.mem_append_right _ (List.mem_singleton.mpr rfl)), hkey⟩
      · rintro ⟨e, he, hp⟩
        rcases List.mem_append.mp (hperm.mem_iff.mp he) with he | he
        · exact .inl ⟨e, he, hp⟩
        · rw [List.mem_singleton] at he; subst he
          exact .inr ((strKind PR w).inj _ x k hp hkey)
    have hsz1 : es1.size = es.size + 1 := by rw [← Array.length_toList, hperm.length_eq, List.length_append, Array.length_toList]; rfl
    have hb1 : es1.size < scanBound := by lia
    refine wpAny_bind (hgw _ ?_)
    have store : ∀ t2 : SetTable, t2.fits es1.size = true → t2.led = t.led → t2.plain = false →
        wpAny (model PR w) A (do
          storeSet a es1 t2
          if (!wasDummy && t2.tooFull) = true then do
              (match (relayAll t2 es1 (SetTable.grown es1.size)).2.2 with | true => rule "set.scan.the-table-gave-way" | false => pure ())
              storeSet a (relayAll t2 es1 (SetTable.grown es1.size)).1 (relayAll t2 es1 (SetTable.grown es1.size)).2.1
              pure (some true)
            else pure (some true)) (fun r s' => wpAny (model PR w) A (match r with | some added => pure added | none => setAddHashedIn a (.str k tk) ((strKind PR w).hash k) 99999) Q E s') E s := by
      intro t2 hf2 hl2 hp2
      refine wpAny_bind (wpAny_storeSet_of ho hd ?_ (fits_of_scanBound hb1))
      have ho1 : (s.heap.update a (Obj.putSet es1 t2)).get? a = some { o with data := .set es1 (ep + 1) t2 } := by
        have := Heap.get?_update_self (Obj.putSet es1 t2) ho (by rw [putSet_of es1 t2 hd]; rfl)
        rw [putSet_of es1 t2 hd] at this; exact this
      split
      · have hp := relayAll_perm t2 es1 (SetTable.grown es1.size)
        have hfr := relayAll_fits t2 es1 (SetTable.grown es1.size)
        have hfl := relayAll_flags t2 es1 (SetTable.grown es1.size) hp2
        generalize hRl : relayAll t2 es1 (SetTable.grown es1.size) = Rl at hp hfr hfl ⊢
        obtain ⟨es2, t3, gave2⟩ := Rl
        dsimp only at hp hfr hfl ⊢
        have hsz : es2.size = es1.size := by rw [← Array.length_toList, hp.length_eq, Array.length_toList]
        refine wpAny_bind (hgw _ ?_)
        refine wpAny_bind (wpAny_storeSet_of (s := { s with heap := s.heap.update a (Obj.putSet es1 t2) }) ho1 rfl ?_ (fits_of_scanBound (by lia)))
        have ho2 : ((s.heap.update a (Obj.putSet es1 t2)).update a (Obj.putSet es2 t3)).get? a = some { o with data := .set es2 (ep + 1 + 1) t3 } := by
          have := Heap.get?_update_self (Obj.putSet es2 t3) ho1 (by rw [putSet_of es2 t3 rfl]; rfl)
          rw [putSet_of es2 t3 rfl] at this; exact this
        refine wpAny_pure (wpAny_pure (h true _ ((Heap.SameBut.update s.heap a _).trans (Heap.SameBut.update _ a _)) ⟨_, es2, _, t3, ho2, hex, ⟨hex.1, rfl, hfr, fun e => hfl.1.trans (hl2.trans (hW.led e)), fun _ => hfl.2⟩, hel1.perm hp, fun x => ?_, by lia⟩))
        show (N x ∨ x = k) ↔ _
        rw [hmem1 x]
        exact ⟨fun ⟨e, he, q⟩ => ⟨e, hp.mem_iff.mpr he, q⟩, fun ⟨e, he, q⟩ => ⟨e, hp.mem_iff.mp he, q⟩⟩
      · exact wpAny_pure (wpAny_pure (h true _ (Heap.SameBut.update s.heap a _) ⟨_, es1, _, t2, ho1, hex, ⟨hex.1, rfl, hf2, fun e => hl2.trans (hW.led e), fun _ => hp2⟩, hel1, hmem1, by lia⟩))
    split
    · refine wpAny_bind ?_
      rw [hashByValue_scannable 8 hsc]
      refine wpAny_pure ?_
      exact store _ (SetTable.fits_plain_off hfits) hled rfl
    · rename_i hnp
      refine wpAny_bind (wpAny_pure ?_)
      simp only [↓reduceIte]
      exact store _ hfits hled (by simpa using hnp)

theorem SetS.keeps {N : Str → Prop} {n : Nat} {h h' : Heap} {a : Addr} (x : SetS w N n h a) (k : ∀ o, h.get? a = some o → h'.get? a = some o) : SetS w N n h' a :=
  by
  obtain ⟨o, es, ep, tb, ho, r⟩ := x
  exact ⟨o, es, ep, tb, k _ ho, r⟩
theorem SetS.congr {N N' : Str → Prop} {n n' : Nat} {h : Heap} {a : Addr} (x : SetS w N n h a) (e : ∀ y, N y ↔ N' y) (en : n ≤ n') : SetS w N' n' h a :=
  by
  obtain ⟨o, es, ep, tb, ho, hx, hW, hel, hm, hz⟩ := x
  exact ⟨o, es, ep, tb, ho, hx, hW, hel, fun y => (e y).symm.trans (hm y), Nat.le_trans hz en⟩

theorem set_update_loop {R : Result → Shared → Prop} {I : Addr} {fp wr : List Addr} {G : Array GenState → Array GenState → Prop} {n : Nat} {P : Nat → Value → Prop} {St : Nat → Shared → Prop} (W : WalksS PR w A.in1 I fp wr G n P St) (S : Addr) (hSf : S ∉ fp)
    (val : Nat → Str) (hval : ∀ i v, P i v → ∃ t, v = .str (val i) t) (hb : n + 1 < scanBound) :
    ∀ (k i : Nat) (s : Shared), n - i = k → i ≤ n → St i s → SetS w (fun x => ∃ j, j < i ∧ val j = x) i s.heap S →
      (∀ s', Moved (S :: wr) G s s' → SetS w (fun x => ∃ j, j < n ∧ val j = x) n s'.heap S → R (.ok (.ret .none)) s') →
      codeAny (model PR w) A (.builtin "set.update.loop" ⟨[.ref S, .ref I], []⟩) R s := by
  have hSw : S ∉ wr := fun h => hSf (W.sub _ h)
  have hsub : ∀ b ∈ wr, b ∈ S :: wr := fun b hb => List.mem_cons_of_mem _ hb
  intro k
  induction k with
  | zero =>
    intro i s hk hi hst hS hR
    have hin : i = n := by lia
    subst hin
    refine codeAny_builtin F.entry_set_update_loop ?_
    rw [Around.under_plainId F.plain_set_update_loop _]
    show wpAny _ A.in1 (pyNext (.ref I) >>= _) _ _ s
    refine wpAny_bind (W.done s _ _ hst fun s' hm => ?_)
    show wpAny _ A.in1 (ret Value.none) _ _ s'
    exact wpAny_pure (hR s' (hm.mono hsub) (hS.keeps fun o e => hm.heap S _ hSw e))
  | succ k ih =>
    intro i s hk hi hst hS hR
    have hlt : i < n := by lia
    refine codeAny_builtin F.entry_set_update_loop ?_
    rw [Around.under_plainId F.plain_set_update_loop _]
    show wpAny _ A.in1 (pyNext (.ref I) >>= _) _ _ s
    refine wpAny_bind (W.item i s _ _ hlt hst fun v s' hP hst' hm => ?_)
    obtain ⟨t, rfl⟩ := hval i v hP
    have hS' := hS.keeps fun o e => hm.heap S _ hSw e
    show wpAny _ A.in1 (holding [Value.str (val i) t] (setAdd S (.str (val i) t)) >>= _) _ _ s'
    refine wpAny_bind (wpAny_holding ?_)
    unfold setAdd
    refine wpAny_holding ?_
    refine wpAny_bind ((strKind PR w).pyHash (k := val i) (strKind_is _ _ _ _) ?_)
    refine set_add (s := { s' with toks := s'.toks + 1 }) hS' (by lia) fun b h' hsb hS2 => ?_
    have hSi : SetS w (fun x => ∃ j, j < i + 1 ∧ val j = x) (i + 1) h' S := hS2.congr (fun y => ⟨fun q => q.elim (fun ⟨j, hj, e⟩ => ⟨j, by lia, e⟩) fun e => ⟨i, by lia, e.symm⟩, fun ⟨j, hj, e⟩ => by
      rcases Nat.lt_or_ge j i with h1 | h1
      · exact .inl ⟨j, h1, e⟩
      · have : j = i := by lia
        subst this; exact .inr e.symm⟩) (Nat.le_refl _)
    refine wpAny_pure ⟨plainId_quiet F.plain_set_update_loop _, ih (i + 1) _ (by lia) hlt (W.frame _ s' _ _ hst' (Nat.le_succ _) fun b hb o e => ?_) hSi fun s'' hm'' hS'' => ?_⟩
    · rw [hsb.2 b (fun h : b = S => hSf (by rw [← h]; exact hb))]; exact e
    · refine hR s'' (Moved.trans W.gtrans ((hm.mono hsub).then_heap (Nat.le_succ _) fun b o hb e => ?_) hm'') hS''
      rw [hsb.2 b (fun h : b = S => hb (by rw [h]; exact List.mem_cons_self))]; exact e

theorem set_new_1 (a : Value) {Q₁ : Value → Shared → Prop}
    (h : Q₁ (.ref s.heap.objs.size) { s with heap := s.heap.push { cls := .type "set", dict := none, data := .set #[] 0 (.fresh 0 0 (!w.params.followText "set-order")) } }) :
    codeAny (model PR w) A (.call (.builtin "set.__new__") ⟨[.type "set", a], []⟩) (wants Q₁ E) s := by
  refine codeAny_of_tree ?_
  show wpAny _ A.in1 (do checkBuiltinCall "set.__new__" ⟨[.type "set", a], []⟩; again (.builtin "set.__new__" ⟨[.type "set", a], []⟩)) _ _ s
  refine wpAny_bind (wpAny_of_eq (F.newCall_set_1 a) (wpAny_pure ⟨plainId_quiet F.plain_set_new _, codeAny_builtin F.entry_set_new ?_⟩))
  rw [Around.under_plainId F.plain_set_new _]
  unfold Builtin.«set.__new__» Builtin.Frozenset.newClass
  have hsub := sub_set_self
  obtain ⟨hp, g, d, tk, os⟩ := s
  dsimp only
  wp_walk
  refine wpAny_askSetting (wpAny_pure ?_)
  dsimp only
  simp only [newObj]
  refine wpAny_bind (wpAny_alloc (wpAny_pure ?_))
  exact wpAny_pure h

set_option maxHeartbeats 3200000 in
theorem set_of_list {l : Addr} {vs : List Value} {ss : List Str} {Q : Value → Shared → Prop} (hh : A.handled = none) (hl : s.heap.IsList l vs.toArray) (hi : StrsAre vs ss) (hb : vs.length + 1 < scanBound)
    (h : ∀ (h' : Heap) (tk : Nat), SetS w (fun x => x ∈ ss) vs.length h' s.heap.objs.size → Ev s.heap h' → Q (.ref s.heap.objs.size) { s with heap := h', toks := tk }) :
    wpAny (model PR w) A (call (.type "set") [.ref l]) Q E s := by
  obtain ⟨c, tl, hmro⟩ := F.called_set.mro
  have hmade := F.called_set.made
  have hsub := F.called_set.sub
  refine wpAny_call (codeAny_of_tree ?_)
  show wpAny _ _ (callAny (.type "set") _) _ _ _
  refine wpAny_pure ⟨Code.quiet_builtin _ (by decide +kernel), codeAny_builtin F.entry_type_call ?_⟩
  rw [Around.under_plain (weight_type_call_type "set" [.ref l] []) rfl]
  have h1 := F.called_set.notType
  have h2 := F.called_set.canCreate
  have hct := F.typeCall_set_1 (.ref l)
  generalize hled : (!w.params.followText "set-order") = led
  have hled' : w.params.followText "set-order" = false → led = true := fun e => by rw [← hled, e]; rfl
  repeat (any_goals (first | assumption | wp_step))
  refine codeAny_mono (set_new_1 (.ref l) (E := E) (Q₁ := fun obj s₁ => obj = .ref s.heap.objs.size ∧ s₁ = { s with heap := s.heap.push { cls := .type "set", dict := none, data := .set #[] 0 (.fresh 0 0 led) } }) ⟨rfl, by rw [hled]⟩) fun r s₁ hr => ?_
  cases r with
  | error e => exact hr
  | ok fl =>
    cases fl with
    | ret obj =>
      obtain ⟨rfl, rfl⟩ := hr
      have hS : (s.heap.push { cls := .type "set", dict := none, data := .set #[] 0 (.fresh 0 0 led) }).get? s.heap.objs.size = some { cls := .type "set", dict := none, data := .set #[] 0 (.fresh 0 0 led) } := Heap.get?_push_size _ rfl
      have hT : Shared.TypeIs { s with heap := s.heap.push { cls := .type "set", dict := none, data := .set #[] 0 (.fresh 0 0 led) } } (.ref s.heap.objs.size) "set" := ⟨_, hS, rfl⟩
      have hli := F.called_set.init.lookup
      have hbi := F.called_set.init.bind (.ref s.heap.objs.size)
      repeat (any_goals (first | assumption | wp_step))
      refine codeAny_mono (codeAny_call_builtin (R := wants (fun r s₂ => r = .none ∧ ∃ h' tk, s₂ = { s with heap := h', toks := tk } ∧ SetS w (fun x => x ∈ ss) vs.length h' s.heap.objs.size ∧ Ev s.heap h') E) F.called_set.init.plain F.entry_set_init (check_set_init_1 hT ?_)) fun r₂ s₂ hr₂ => ?_
      · obtain ⟨ol, hol, hcl, nl, hdl⟩ := hl
        obtain ⟨ocls, odict, odata, oslots⟩ := ol
        simp only at hcl hdl
        subst hcl; subst hdl
        have hol' : (s.heap.push { cls := .type "set", dict := none, data := .set #[] 0 (.fresh 0 0 led) }).get? l = some { cls := .type "list", dict := odict, data := .seq vs.toArray nl, slots := oslots } := Heap.get?_push_of_some _ hol
        have hsls := F.sub_list_set
        have hslf := F.sub_list_frozenset
        have hne : (Value.type "list" == Value.type "dict") = false := by decide
        have hl1 : (s.heap.push { cls := .type "set", dict := none, data := .set #[] 0 (.fresh 0 0 led) }).IsList l vs.toArray := ⟨_, hol', rfl, nl, rfl⟩
        unfold Builtin.«set.__init__» noKeywords Builtin.Frozenset.updateFrom
        generalize hPI : pyIter = PI
        wp_walk
        subst hPI
        refine wpAny_pyIter_list hl1 ?_
        refine wpAny_bind (wpAny_runValue ?_)
        have hlS : l < s.heap.objs.size := Heap.lt_size hol
        have hh3 : A.in1.in1.in1.handled = none := by simp [hh]
        have hneI : l ≠ (s.heap.push { cls := .type "set", dict := none, data := .set #[] 0 (.fresh 0 0 led) }).objs.size := by
          rw [Heap.size_push]; exact Nat.ne_of_lt (Nat.lt_succ_of_lt hlS)
        have hSf : s.heap.objs.size ∉ [(s.heap.push { cls := .type "set", dict := none, data := .set #[] 0 (.fresh 0 0 led) }).objs.size, l] := by
          rw [Heap.size_push]; simp only [List.mem_cons, List.mem_singleton, List.not_mem_nil, or_false, not_or]
          exact ⟨Nat.ne_of_lt (Nat.lt_succ_self _), Nat.ne_of_gt hlS⟩
        have hvs : vs.map strOf = ss := hi.strs
        have hval : ∀ (i : Nat) (v : Value), vs.toArray[i]? = some v → ∃ t, v = .str ((fun i => ss.getD i Str.empty) i) t := fun i v hv => by
          have hv' : vs[i]? = some v := by simpa using hv
          obtain ⟨x, t, rfl⟩ := hi.all v (List.mem_of_getElem? hv')
          refine ⟨t, ?_⟩
          have : ss[i]? = some x := by rw [← hvs, List.getElem?_map, hv']; rfl
          simp [List.getD, this]
        have hlen : ss.length = vs.length := by rw [← hvs, List.length_map]
        refine set_update_loop ((Walks.list hh3 _ l hneI vs.toArray).toS) s.heap.objs.size
          hSf (fun i => ss.getD i Str.empty) hval (by simpa using hb) (vs.toArray.size - 0) 0 _ (by lia) (Nat.zero_le _)
          ⟨⟨_, Heap.get?_push_size _ rfl, rfl, rfl⟩, (hl1.push _)⟩ ?hS0 ?hR
        case hS0 =>
          have hget : ((s.heap.push { cls := .type "set", dict := none, data := .set #[] 0 (.fresh 0 0 led) }).push { cls := .type "list_iterator", data := .fields #[.ref l, .int 0 0] }).get? s.heap.objs.size
              = some { cls := .type "set", dict := none, data := .set #[] 0 (.fresh 0 0 led) } := Heap.get?_push_of_some _ hS
          exact ⟨_, #[], 0, _, hget, ⟨rfl, rfl, rfl⟩, ⟨rfl, rfl, by rfl, hled', fun e => absurd rfl e⟩, fun e he => by simp at he, fun x => by simp, by simp⟩
        case hR =>
          intro s' hm hS'
          obtain ⟨h', g', d', tk', os'⟩ := s'
          have eg : g' = s.gens := hm.gens
          have ed : d' = s.drawn := hm.drawn
          have eo : os' = s.os := hm.os
          subst eg; subst ed; subst eo
          show wpAny _ _ _ _ _ _
          refine wpAny_pure ?_
          show wpAny _ _ (ret Value.none) _ _ _
          refine wpAny_pure ⟨rfl, h', tk', rfl, hS'.congr (fun x => ?_) (by simp), fun b o e => ?_⟩
          · constructor
            · rintro ⟨j, hj, rfl⟩
              have hj' : j < ss.length := by rw [hlen]; simpa using hj
              simp [List.getD, List.getElem?_eq_getElem hj']
            · intro hx
              obtain ⟨j, hj, e⟩ := List.mem_iff_getElem.mp hx
              exact ⟨j, by rw [hlen] at hj; simpa using hj, by simp [List.getD, List.getElem?_eq_getElem hj, e]⟩
          · have hb := Heap.lt_size e
            have hb1 : b ≠ s.heap.objs.size := Nat.ne_of_lt hb
            have hb2 : b ≠ (s.heap.push { cls := .type "set", dict := none, data := .set #[] 0 (.fresh 0 0 led) }).objs.size := by
              rw [Heap.size_push]; exact Nat.ne_of_lt (Nat.lt_succ_of_lt hb)
            exact hm.heap b o (by simp only [List.mem_cons, List.mem_singleton, List.not_mem_nil, or_false, not_or]; exact ⟨hb1, hb2⟩) (Heap.get?_push_of_some _ (Heap.get?_push_of_some _ e))
      · cases r₂ with
        | error e => exact hr₂
        | ok fl₂ =>
          cases fl₂ with
          | ret r =>
            obtain ⟨rfl, h', tk, rfl, hS', hk'⟩ := hr₂
            repeat (any_goals (first | assumption | wp_step))
            exact h _ _ hS' hk'
          | _ => exact hr₂.elim
    | _ => exact hr.elim
end
end Mine
end

section
open PySem PySem.W PySem.Calls PyProof.Rows
set_option maxRecDepth 100000
namespace Mine

section
variable {w : World} {A : Around} {E : Value → Shared → Prop} {s : Shared}

theorem hint_set {r : Addr} {Q : Bool → Shared → Prop} (hT : s.TypeIs (.ref r) "set") (h : Q false s) : wpAny (model PR w) A (Builtin.List.listLengthHint (.ref r)) Q E s := by
  unfold Builtin.List.listLengthHint
  refine wpAny_bind (wpAny_specialOf hT PySem.F.slot_set_len.lookup ?_)
  generalize hid : ("set.__len__" : String) = id0
  wp_delta
  rw [show splitId id0 = some ("set", "__len__") from by subst hid; decide +kernel]
  subst hid
  refine wpAny_bind (wpAny_isInstance (T := "set") (b := true) hT (by rw [isSubtype_type]; kernel_rfl) ?_)
  refine wpAny_ite_split (fun hab => absurd hab (by decide)) (fun _ => ?_)
  refine wpAny_ite_split (fun _ => ?_) (fun hab => absurd (by decide +kernel) hab)
  refine wpAny_bind (wpAny_typeOf hT ?_)
  exact wpAny_pure h

theorem set_extend {R : Result → Shared → Prop} {a S : Addr} {N : Str → Prop} {n : Nat} {res : Value} {c₀ : Nat} (hh : A.handled = none) (hSet : SetS w N n s.heap a) (hn : n ≤ 1000) (hSa : S ≠ a) (hS : s.heap.get? S = some { cls := .type "list", data := .seq #[] c₀ })
    (hR : ∀ h' d tk acc' c', (∀ b o, b ≠ S → s.heap.get? b = some o → h'.get? b = some o) → h'.get? S = some { cls := .type "list", dict := none, data := .seq acc' c', slots := #[] } →
      (∃ ss, StrsAre acc'.toList ss ∧ (∀ x, N x ↔ x ∈ ss)) → acc'.size ≤ n → R (.ok (.ret res)) { s with heap := h', drawn := d, toks := tk }) :
    wpAny (model PR w) A.in1 (Builtin.List.listExtendWith (.ref S) (.ref a) res)
      (fun fin s' => match fin with | .done f => R (.ok f) s' | .again c' => c'.quiet = true ∧ codeAny (model PR w) A c' R s') (fun e s' => R (.error e) s') s := by
  obtain ⟨o, es, ep, tb, ho, hex, hW, hel, hmem, hz⟩ := hSet
  have hT : s.TypeIs (.ref a) "set" := ⟨o, ho, hW.cls⟩
  unfold Builtin.List.listExtendWith
  refine wpAny_bind (wpAny_typeOf (T := "set") hT ?_)
  have h1 : Builtin.List.listSameRef (.ref S) (.ref a) = false := by simp [Builtin.List.listSameRef, hSa]
  have h2 : (Value.type "set" == Value.type "list") = false := by decide
  have h3 : (Value.type "set" == Value.type "tuple") = false := by decide
  simp only [h1, h2, h3, Bool.or_false, Bool.false_eq_true, if_false]
  refine wpAny_bind (set_iter (B := A.in1) hW ho (by lia) hh fun I fp vs St h' d k hI hfp hp W st hIfp hty => ?_)
  have hS₁ : h'.get? S = some { cls := .type "list", data := .seq #[] c₀ } := k _ _ hS
  -- the loop
  have key : ∀ (h2 : Heap) (c₁ tk : Nat), St 0 { s with heap := h2, drawn := d, toks := tk } → (∀ b o, b ≠ S → h'.get? b = some o → h2.get? b = some o) →
      h2.get? S = some { cls := .type "list", data := .seq #[] c₁ } → S ∉ fp → codeAny (model PR w) A (.builtin "list.extend.loop" ⟨[.ref S, .ref I, res], []⟩) R { s with heap := h2, drawn := d, toks := tk } := by
    intro h2 c₁ tk hst hk hS2 hSf
    have hlen : vs.length = es.size := by rw [hp.length_eq]; simp
    refine codeAny_extend_loopS W (by rw [hlen, sizeLine_eq]; lia) S hSf res vs.length 0 _ #[] c₁ rfl (Nat.zero_le _) hst hS2 (ItemsOf.nil _) fun s' acc' c' hm hS' hacc => ?_
    have hacc' : acc'.toList = vs := by
      refine List.ext_getElem? fun i => ?_
      by_cases hi : i < acc'.size
      · have e := hacc.2 i acc'[i] (by simp [hi])
        rw [e]; simp [hi]
      · rw [List.getElem?_eq_none (by simpa using hi), List.getElem?_eq_none (by have := hacc.1; lia)]
    have e := Moved.eq_with hm
    rw [e]
    refine hR s'.heap d s'.toks acc' c' (fun b o' hb e' => hm.heap b o' (fun hmem => ?_) (hk b o' hb (k _ _ e'))) hS' ?_ (by have := hacc.1; lia)
    · rcases List.mem_cons.mp hmem with e'' | hmem
      · exact hb e''
      · rw [List.mem_singleton.mp hmem, hI] at e'; cases e'
    · have hall : ∀ v ∈ vs, ∃ x t, v = .str x t := fun v hv => by
        have := hp.mem_iff.mp hv
        obtain ⟨e, he, rfl⟩ := List.mem_map.mp this
        obtain ⟨⟨x, hx, _⟩, _⟩ := hel e he
        obtain ⟨t, ht⟩ := Value.isStrOf_shape hx
        exact ⟨x, t, ht⟩
      rw [hacc']
      refine ⟨vs.map strOf, strsAre_map vs hall, fun x => ?_⟩
      rw [hmem x]
      constructor
      · rintro ⟨e, he, hx⟩
        obtain ⟨t, ht⟩ := Value.isStrOf_shape hx
        refine List.mem_map.mpr ⟨e.2, hp.mem_iff.mpr (List.mem_map_of_mem he), ?_⟩
        rw [ht]; rfl
      · intro hx
        obtain ⟨v, hv, rfl⟩ := List.mem_map.mp hx
        obtain ⟨e, he, rfl⟩ := List.mem_map.mp (hp.mem_iff.mp hv)
        refine ⟨e, he, ?_⟩
        obtain ⟨⟨x, hx, _⟩, _⟩ := hel e he
        obtain ⟨t, ht⟩ := Value.isStrOf_shape hx
        rw [ht] at hx ⊢
        exact hx
  have hSf : S ∉ fp := fun hm => by
    rcases hfp S hm with e | e
    · exact hSa e
    · rw [hS] at e; cases e
  refine wpAny_bind (wpAny_holding (hint_set (s := { s with heap := h', drawn := d }) ⟨o, k _ _ ho, hW.cls⟩ ?_))
  refine wpAny_ite_split (fun _ => ?_) (fun _ => wpAny_pure ⟨plainId_quiet PySem.F.plain_extend_loop _, key h' c₀ s.toks st (fun b o _ e => e) hS₁ hSf⟩)
  refine wpAny_bind (wpAny_rule ?_)
  refine wpAny_bind ?_
  show wpAny _ _ (updateSeq S (·.push .none) >>= fun _ => updateSeq S (·.pop)) _ _ _
  refine wpAny_bind (wpAny_updateSeq hS₁ rfl ?_)
  have hS₂ := Heap.get?_update_self (Obj.mapSeq (·.push Value.none)) hS₁ rfl
  refine wpAny_updateSeq (hz := by seq_fits) hS₂ rfl ?_
  have hS₃ := Heap.get?_update_self (Obj.mapSeq (·.pop)) hS₂ rfl
  refine wpAny_pure ⟨plainId_quiet PySem.F.plain_extend_loop _, key _ _ s.toks ?_ (fun b o hb e => ?_) hS₃ hSf⟩
  · refine W.frame 0 _ _ _ st (Nat.le_refl _) fun b hb o e => ?_
    have hbS : b ≠ S := fun h => hSf (h ▸ hb)
    exact (Heap.get?_update_other _ _ (Ne.symm hbS)).trans ((Heap.get?_update_other _ _ (Ne.symm hbS)).trans e)
  · exact (Heap.get?_update_other _ _ (Ne.symm hb)).trans ((Heap.get?_update_other _ _ (Ne.symm hb)).trans e)

theorem collect_set {a : Addr} {N : Str → Prop} {n : Nat} {R : List Value → Shared → Prop} (hh : A.handled = none) (hSet : SetS w N n s.heap a) (hn : n ≤ 1000)
    (h : ∀ h' d tk vs, Ev s.heap h' → (∃ ss, StrsAre vs ss ∧ (∀ x, N x ↔ x ∈ ss)) → vs.length ≤ n → R vs { s with heap := h', drawn := d, toks := tk }) : wpAny (model PR w) A (collect (.ref a)) R E s := by
  have hlt : a < s.heap.objs.size := by obtain ⟨_, _, _, _, ho, _⟩ := hSet; exact Heap.lt_size ho
  unfold collect
  refine wpAny_bind (wpAny_runValue (codeAny_builtin entry_proto_collect' ?_))
  rw [Around.under_plainId PySem.F.plain_proto_collect _]
  show wpAny _ A.in1 (newList [] >>= fun l => again (.builtin "list.__iadd__" ⟨[l, .ref a], []⟩)) _ _ s
  refine wpAny_bind (wpAny_newObj_type ?_)
  refine wpAny_pure ⟨plainId_quiet PySem.F.plain_list_iadd _, codeAny_builtin entry_list_iadd' ?_⟩
  rw [Around.under_plainId PySem.F.plain_list_iadd _]
  have hS₁ : (s.heap.push { cls := .type "list", data := .seq ([] : List Value).toArray }).get? s.heap.objs.size = some { cls := .type "list", data := .seq #[] } := Heap.get?_push_size _ rfl
  show wpAny _ A.in1 (Builtin.List.listExtendWith (.ref s.heap.objs.size) (.ref a) (.ref s.heap.objs.size)) _ _ _
  have key := set_extend (A := A) (s := { s with heap := s.heap.push { cls := .type "list", data := .seq ([] : List Value).toArray } }) (w := w) (a := a) (N := N) (n := n) (res := .ref s.heap.objs.size)
    (R := fun (q : Result) (s' : Shared) => ∃ (h' : Heap) (d : Drawn) (tk : Nat) (acc' : Array Value) (c' : Nat), q = .ok (.ret (.ref s.heap.objs.size)) ∧ s' = { s with heap := h', drawn := d, toks := tk } ∧
      (∀ b o, s.heap.get? b = some o → h'.get? b = some o) ∧ h'.get? s.heap.objs.size = some { cls := .type "list", dict := none, data := .seq acc' c', slots := #[] } ∧ (∃ ss, StrsAre acc'.toList ss ∧ (∀ x, N x ↔ x ∈ ss)) ∧ acc'.size ≤ n)
    hh (hSet.keeps fun o e => Heap.get?_push_of_some _ e) hn (Nat.ne_of_gt hlt) hS₁
    (fun h' d tk acc' c' hk hS' hacc hz => ⟨h', d, tk, acc', c', rfl, rfl, fun b o e => hk b o (Nat.ne_of_lt (Heap.lt_size e)) (Heap.get?_push_of_some _ e), hS', hacc, hz⟩)
  refine wpAny_mono key (fun fin s' x => ?_) fun e s' x => ?_
  · cases fin with
    | done f =>
      obtain ⟨h', d, tk, acc', c', e, rfl, hk, hS', hacc, hz⟩ := x
      cases e
      show wpAny _ A (load s.heap.objs.size >>= _) _ _ _
      refine wpAny_bind (wpAny_load hS' ?_)
      exact wpAny_pure (h h' d tk acc'.toList hk hacc (by simpa using hz))
    | again c₁ =>
      refine ⟨x.1, codeAny_mono x.2 fun q s₂ y => ?_⟩
      obtain ⟨h', d, tk, acc', c', rfl, rfl, hk, hS', hacc, hz⟩ := y
      show wpAny _ A (load s.heap.objs.size >>= _) _ _ _
      refine wpAny_bind (wpAny_load hS' ?_)
      exact wpAny_pure (h h' d tk acc'.toList hk hacc (by simpa using hz))
  · obtain ⟨_, _, _, _, _, e', _⟩ := x
    cases e'

/-- what collects to a list of strs, sorted -/
theorem sorted_of {a : Addr} {n : Nat} {K : List Str → Prop} {Q : Value → Shared → Prop} (hn : n < 64)
    (hc : ∀ (R : List Value → Shared → Prop), (∀ h' d tk vs ss, Ev s.heap h' → StrsAre vs ss → K ss → vs.length ≤ n → R vs { s with heap := h', drawn := d, toks := tk }) → wpAny (model PR w) A.in1 (collect (.ref a)) R E s)
    (h : ∀ D h' d tk vs ss ss', Ev s.heap h' → s.heap.get? D = none → h'.PlainList D vs.toArray → StrsAre vs ss → ss.Perm ss' → K ss' → vs.length ≤ n → sortedS ss = true → Q (.ref D) { s with heap := h', drawn := d, toks := tk }) :
    wpAny (model PR w) A (call (.builtin "sorted") [.ref a]) Q E s := by
  refine Calls.call_function_entry kind_sorted plain_sorted entry_sorted (args_sorted1 _) ?_
  unfold Builtin.«sorted»
  refine wpAny_bind (m := checkCount "sorted" 1 1 _) (wpAny_pure ?_)
  refine wpAny_bind (hc _ fun h' d tk vs ss k hS hK hz => ?_)
  refine wpAny_bind (wpAny_newList ?_ (by rw [sizeLine_eq]; lia))
  have hoL : (h'.push (seqObj "list" vs.toArray 0)).get? h'.objs.size = some (seqObj "list" vs.toArray 0) := Heap.get?_push_size _ rfl
  show wpAny _ _ _ _ _ { s with heap := h'.push (seqObj "list" vs.toArray 0), drawn := d, toks := tk }
  refine wpAny_bind (wpAny_holding (wpAny_call_entry slot_list_sort ⟨_, hoL, rfl⟩ entry_list_sort (list_sort_treeK (s := { s with heap := h'.push (seqObj "list" vs.toArray 0), drawn := d, toks := tk }) strKind_oneLt hoL hS.keysOf (fun v₁ v₂ rest e => keyKind_strs (by rw [← e]; exact hS)) (by lia) fun st' a1 a2 => ⟨_, rfl, ?_⟩) (args_list_sort _)))
  obtain ⟨ss', b1, b2, b3⟩ := sorted_out_str hS a1 a2
  refine wpAny_pure ⟨_, rfl, ?_⟩
  obtain ⟨e, he⟩ := sortedHeap_at (vs := vs) (out := (arrOf st').map (·.2)) hoL
  have hev : Ev s.heap (sortedHeap (h'.push (seqObj "list" vs.toArray 0)) h'.objs.size vs ((arrOf st').map (·.2))) := fun b o eb => by
    have hb := Heap.lt_size (k b o eb)
    rw [sortedHeap_old (Nat.ne_of_lt hb) (by rw [size_push']; exact Nat.lt_succ_of_lt hb)]
    exact Heap.get?_push_of_some _ (k b o eb)
  have hlen : ((arrOf st').map (·.2)).toList.length = vs.length := by
    have := a1.size_eq
    rw [pairsOf_size] at this
    simpa using this
  exact h _ _ d tk ((arrOf st').map (·.2)).toList ss' ss hev (none_of_ev k (get_size _)) ⟨e, by rw [Array.toArray_toList]; exact he⟩ b1 b2 hK (by lia) b3
end

theorem St.take {S T h h' : Heap} {own : Own} (X : St S T h own) (k : Ev h h') {a : Addr} {o : Obj} {P : Obj → Prop} (hn : h.get? a = none) (ho : h'.get? a = some o) (hP : P o) : St S T h' ((a, P) :: own) := by
  have G := X.grow k
  refine ⟨G.kS, G.kT, fun p hp => ?_, ?_, fun p hp => ?_, fun p hp => ?_⟩
  · rcases List.mem_cons.mp hp with rfl | hp
    · exact ⟨o, ho, hP⟩
    · exact G.ow p hp
  · rw [List.map_cons, List.nodup_cons]
    refine ⟨fun hm => ?_, X.nd⟩
    obtain ⟨p, hp, e⟩ := List.mem_map.mp hm
    obtain ⟨o', ho', _⟩ := X.ow p hp
    rw [e] at ho'
    have : h.get? a = some o' := ho'
    rw [hn] at this; cases this
  · rcases List.mem_cons.mp hp with rfl | hp
    · exact none_of_ev X.kS hn
    · exact X.fS p hp
  · rcases List.mem_cons.mp hp with rfl | hp
    · exact none_of_ev X.kT hn
    · exact X.fT p hp
theorem Fx.take {S T₀ : Heap} {s₀ s s' : Shared} {T : Heap} {L : Addr} {m : Str → Option Value} {own : Own} (X : Fx S T₀ s₀ T L m own s) (u : Up s s') {a : Addr} {o : Obj} {P : Obj → Prop} (hn : s.heap.get? a = none) (ho : s'.heap.get? a = some o) (hP : P o) :
    Fx S T₀ s₀ T L m ((a, P) :: own) s' := ⟨((X.st.take u.ev hn ho hP)).swap, X.gr, X.sm.trans u.sm⟩
/-- a new object, frozen at once -/
theorem Fx.takeF {S T₀ : Heap} {s₀ s s' : Shared} {T : Heap} {L : Addr} {m : Str → Option Value} {own : Own} (X : Fx S T₀ s₀ T L m own s) (u : Up s s') {a : Addr} {o : Obj} (hn : s.heap.get? a = none) (ho : s'.heap.get? a = some o) :
    ∃ T', Ev T T' ∧ T'.get? a = some o ∧ Fx S T₀ s₀ T' L m own s' := by
  obtain ⟨T', o', g, e, p, x⟩ := ((X.take u (P := fun o' => o' = o) hn ho rfl).st).freeze1
  subst p
  exact ⟨T', g.1, e, x, X.gr.trans g, X.sm.trans u.sm⟩

noncomputable def SetO (w : World) (N : Str → Prop) (n : Nat) (o : Obj) : Prop :=
  ∃ es ep tb, o.ExactSet ∧ SetW w o es ep tb ∧ ElemsOf (strKind PR w) es.toList ∧ (∀ x, N x ↔ ∃ e ∈ es.toList, (strKind PR w).is x e.2 = true) ∧ es.size ≤ n
theorem SetS.obj {w : World} {N : Str → Prop} {n : Nat} {h : Heap} {a : Addr} (x : SetS w N n h a) : ∃ o, h.get? a = some o ∧ SetO w N n o := by
  obtain ⟨o, es, ep, tb, ho, r⟩ := x
  exact ⟨o, ho, es, ep, tb, r⟩
theorem SetO.set {w : World} {N : Str → Prop} {n : Nat} {h : Heap} {a : Addr} {o : Obj} (ho : h.get? a = some o) (x : SetO w N n o) : SetS w N n h a := by
  obtain ⟨es, ep, tb, r⟩ := x
  exact ⟨o, es, ep, tb, ho, r⟩

section
variable {w : World} {A : Around} {E : Value → Shared → Prop} {S T₀ T : Heap} {s₀ s : Shared} {L : Addr} {m : Str → Option Value} {own : Own} {env : Env} {Q : Value → Shared → Prop} {pos : Pos}

theorem c_set {l : Addr} {ys : List Value} {ss : List Str} (X : Fx S T₀ s₀ T L m own s) (hh : A.handled = none) (hl : s.heap.IsList l ys.toArray) (hi : StrsAre ys ss) (hb : ys.length ≤ 1000)
    (h : ∀ a s', Fx S T₀ s₀ T L m ((a, SetO w (fun x => x ∈ ss) ys.length) :: own) s' → Q (.ref a) s') : wpAny (model PR w) A (call (.type "set") [.ref l]) Q E s := by
  refine set_of_list hh hl hi (by unfold scanBound; lia) fun h' tk hS k => ?_
  obtain ⟨o, ho, hO⟩ := hS.obj
  exact h _ _ (X.take (Up.hp k) (get_size _) ho hO)

theorem c_sorted_set {a : Addr} {N : Str → Prop} {n i : Nat} (X : Fx S T₀ s₀ T L m own s) (hh : A.handled = none) (hi : own[i]? = some (a, SetO w N n)) (hn : n < 64)
    (h : ∀ D T' s' vs ss, Fx S T₀ s₀ T' L m own s' → Ev T T' → T'.PlainList D vs.toArray → StrsAre vs ss → (∀ x, N x ↔ x ∈ ss) → vs.length ≤ n → Q (.ref D) s') : wpAny (model PR w) A (call (.builtin "sorted") [.ref a]) Q E s := by
  obtain ⟨o, ho, hO⟩ := X.st.at' (i := i + 1) hi
  refine sorted_of (n := n) (K := fun ss => ∀ x, N x ↔ x ∈ ss) hn (fun R hR => collect_set (A := A.in1) hh (SetO.set ho hO) (by lia) fun h' d tk vs k ⟨ss, hS, hK⟩ hz => hR h' d tk vs ss k hS hK hz) fun D h' d tk vs ss ss' k hD hl hS hp hK hz _ => ?_
  obtain ⟨n', hl⟩ := hl
  obtain ⟨T', kT, e, X'⟩ := X.takeF (s' := { s with heap := h', drawn := d, toks := tk }) ⟨⟨rfl, rfl, rfl⟩, k⟩ hD hl
  exact h D T' _ vs ss X' kT ⟨n', e⟩ hS (fun x => (hK x).trans hp.mem_iff.symm) hz
end
end Mine
end

section
open PySem PySem.W PySem.Calls PyProof.Rows
set_option maxRecDepth 100000
namespace Mine

theorem seqIndex_zero {n : Nat} (h : 0 < n) : seqIndex? 0 n = some 0 := by
  unfold seqIndex?; simp; lia
namespace Tm
noncomputable def isVar (t : Tm) : Bool := t.kids.isEmpty && isQ t.op
noncomputable def vars (t : Tm) : List Str := ((partsOf t).filter fun p => p.2.isVar).map (·.2.op)
end Tm

theorem is_var {w : World} {T : Heap} {s : Shared} {v : Value} {t : Tm} (G : Gnd w T) (kT : Ev T s.heap) (ht : TmIn T t v) : Spec w 62 1 [v] T s fun _ r => r = .bool t.isVar := by
  obtain ⟨hop, a, tk, xs, rfl, h, hk⟩ := ht.view
  have h2 : xs.length ≤ 6 := by rw [hk.length]; exact ht.klen
  have e : t.isVar = (xs.isEmpty && isQ t.op) := by
    unfold Tm.isVar
    congr 1
    have := hk.length
    cases xs <;> cases hkk : t.kids <;> simp_all
  rw [e]
  exact is_variable_spec G kT h (by lia) hop.1

inductive VarsPost (t : Tm) (T' : Heap) (r : Value) : Prop
  | mk (l : Addr) (xs : List Value) (ss : List Str) (e : r = .ref l) (h : T'.PlainList l xs.toArray) (hs : StrsAre xs ss) (hm : ∀ x, x ∈ ss ↔ x ∈ t.vars) (hz : xs.length ≤ t.size)

theorem strs_snoc {vs : List Value} {ss : List Str} (h : StrsAre vs ss) (x : Str) (t : Tok) : StrsAre (vs ++ [.str x t]) (ss ++ [x]) := by
  induction h with
  | nil => exact .cons x t .nil
  | cons y u _ ih => exact .cons y u ih

theorem variables_spec {w : World} (t : Tm) (hsz : t.size ≤ 60) {T : Heap} {s : Shared} {v : Value} (G : Gnd w T) (kT : Ev T s.heap) (hv : TmIn T t v) : Spec w 67 (t.depth + 2) [v] T s (VarsPost t) := by
  refine enter (d := t.depth + 1) (binds := [(Str.ofString "t", v)]) (G.fn (i := 5) (by decide)) G.lim kT (fun _ _ _ _ _ => rfl) rfl (by decide +kernel) ?_
  intro A cd s₁ E Sh Lo Qf kS r X hQ
  conv in dBody _ => whnf
  refine wpAny_execs_cons (wpAny_Return_some (Call_ (e_boot X G (v := .builtin "sorted") rfl (callWith_builtin1 (args_cons (Call_ (e_boot X G (v := .type "set") rfl (callWith_type1 (args_cons (comp_list
    (e_call X G rfl (by decide) (args_cons (e_loc X rfl (args_nil ⟨X.st.kT, use_spec X (parts_spec t (by lia) G X.st.kT hv) r fun pr s2 T2 X2 k2 hpost => ?_⟩))))))))))))))
  obtain ⟨pl, ps, rfl, hpl, hps⟩ := hpost
  have hpl' : T2.PlainList pl ps.toArray := hpl
  refine iter_list X2 hpl.isList fun I s3 X3 => ?_
  refine CompGo.mk (fun (i : Nat) (_ : Heap) (ys : List Value) => StrsAre ys ((((partsOf t).take i).filter fun (p : Nat × Tm) => p.2.isVar).map fun (p : Nat × Tm) => p.2.op)) rfl (Iter.list hpl.isList) (Ev.refl _) X3 ?_ r.hh .nil (fun _ _ _ _ k h => h) ?_ ?_
  · rw [hps.length, partsOf_len]; lia
  · rintro C j T4 mC own' s4 pv ys E'' hj k4 X4 hmo hpv hys hyl Qy Qn hyy hnn
    obtain ⟨pp, hpp, ⟨qa', pa', qv, ppath, rfl, hq', hpath, hpl2, hqv⟩⟩ := (hps.mono fun _ _ h => h.ev k4).get hpv
    have G4 := (G.keeps k2).keeps k4
    obtain ⟨hop, a, tk, xs, rfl, ht, hk⟩ := hqv.view
    refine s_unpack (xs := [.ref pa', .ref a]) X4 hq' r.hh fun s5 X5 => assignInOrder_cons (wpAny_assign_Name (s_loc X5 fun s6 X6 => assignInOrder_cons (wpAny_assign_Name (s_loc X6 fun s7 X7 => assignInOrder_nil ?_))))
    refine wpAny_tests_one (isTrue_plain (e_call X7 G4 rfl (by decide) (args_cons (e_loc X7 rfl (args_nil ⟨X7.st.kT, use_spec X7 (is_var G4 X7.st.kT hqv) (r.mono (by lia)) fun pr s8 T8 X8 k8 hpost => ?_⟩)))))
    subst hpost
    refine wpAny_truthy_bool ?_
    have e1 : (((partsOf t).take (j + 1)).filter fun p => p.2.isVar) = (((partsOf t).take j).filter fun p => p.2.isVar) ++ if pp.2.isVar then [pp] else [] := by
      rw [List.take_add_one, hpp, List.filter_append]; congr 1
      simp [List.filter_cons]
    cases hb : pp.2.isVar with
    | true =>
      rw [if_pos rfl]
      refine e_item (e_loc X8 rfl ⟨_, _, 0, _, rfl, (ht.keeps k8).keeps X8.st.kT, seqIndex_zero (by simp), rfl, fun s' u => hyy _ _ ⟨T8, _, k8, X8.up u, ?_⟩⟩)
      rw [e1, hb, if_pos rfl, List.map_append]
      exact strs_snoc hys _ _
    | false =>
      rw [if_neg (by decide)]
      refine hnn _ ⟨T8, _, k8, X8, ?_⟩
      rw [e1, hb, if_neg (by decide), List.append_nil]
      exact hys
  · rintro D ys T4 s4 k4 X4 hys hyl
    rw [List.take_of_length_le (by rw [hps.length]; exact Nat.le_refl _)] at hys
    have hyl' : ys.length ≤ t.size := by rw [hps.length, partsOf_len] at hyl; exact hyl
    obtain ⟨o, ho, n, rfl⟩ := X4.st.at' (i := 1) (d := D) (P := LstO ys) rfl
    refine args_nil (c_set X4 r.hh ⟨_, ho, rfl, n, rfl⟩ hys (by lia) fun a s5 X5 => args_nil (c_sorted_set (i := 0) X5 r.hh rfl (by lia) fun D' T6 s6 vs ss X6 k6 hl hS hK hz => ?_))
    exact hQ _ _ <| X6.done ⟨D', vs, ss, rfl, hl, hS, fun x => (hK x).symm, by lia⟩
end Mine
end

section
open PySem PySem.W PySem.Calls PyProof.Rows
set_option maxRecDepth 100000
namespace Mine

/-- a dict with strs for keys -/
noncomputable def Dct (w : World) (h : Heap) (a : Addr) (kvs : List (Str × Value)) : Prop := h.DictOf (strKind PR w) a kvs ∧ (a == sysModules) = false
noncomputable def DctO (w : World) (kvs : List (Str × Value)) (o : Obj) : Prop := o.IsDictOf (strKind PR w) kvs
theorem Dct.keeps {w : World} {h h' : Heap} {a : Addr} {kvs : List (Str × Value)} (x : Dct w h a kvs) (k : Ev h h') : Dct w h' a kvs := ⟨x.1.keep k, x.2⟩
theorem Dct.nodup {w : World} {h : Heap} {a : Addr} {kvs : List (Str × Value)} (x : Dct w h a kvs) : (kvs.map (·.1)).Nodup := by
  obtain ⟨_, _, _, _, _, _, _, _, n⟩ := x.1
  exact n

section
variable {w : World} {A : Around} {E : Value → Shared → Prop} {S T₀ T : Heap} {s₀ s : Shared} {L : Addr} {m : Str → Option Value} {own : Own} {env : Env} {Q : Value → Shared → Prop} {pos : Pos}

theorem Fx.dct (X : Fx S T₀ s₀ T L m own s) (G : Gnd w T) {i : Nat} {a : Addr} {kvs : List (Str × Value)} (hi : own[i]? = some (a, DctO w kvs)) : Dct w s.heap a kvs := by
  obtain ⟨o, ho, hO⟩ := X.st.at' (i := i + 1) hi
  refine ⟨Heap.dictOf_iff.mpr ⟨o, ho, hO⟩, ?_⟩
  have := X.st.fT _ (List.mem_of_getElem? (i := i + 1) hi)
  obtain ⟨o', ho'⟩ := G.sys
  cases h : (a == sysModules) with
  | false => rfl
  | true =>
    have e := beq_iff_eq.mp h
    subst e
    rw [ho'] at this; cases this

theorem x_in {d : Addr} {kvs : List (Str × Value)} {k : Str} {t : Tok} (D : Dct w s.heap d kvs) (h : ∀ s', Up s s' → Q (.bool (valueAt kvs k).isSome) s') : wpAny (model PR w) A (compareOp .In (.str k t) (.ref d)) Q E s :=
  wpAny_in_of (strKind_is PR w k t) D.2 D.1.mapOf (h _ Up.tk)
theorem x_notin {d : Addr} {kvs : List (Str × Value)} {k : Str} {t : Tok} (D : Dct w s.heap d kvs) (h : ∀ s', Up s s' → Q (.bool (!(valueAt kvs k).isSome)) s') : wpAny (model PR w) A (compareOp .NotIn (.str k t) (.ref d)) Q E s :=
  wpAny_notIn_of (strKind_is PR w k t) D.2 D.1.mapOf (h _ Up.tk)

inductive SubQ (w : World) (Q : Value → Shared → Prop) (v i : Value) (s₂ : Shared) : Prop
  | mk (a : Addr) (kvs : List (Str × Value)) (k : Str) (t : Tok) (x : Value) (hv : v = .ref a) (hi : i = .str k t) (D : Dct w s₂.heap a kvs) (hx : valueAt kvs k = some x) (h : ∀ s', Up s₂ s' → Q x s')
/-- d[k] -/
theorem e_dsub {value slice : Expr} (h : wpAny (model PR w) A (eval value env) (fun v s₁ => wpAny (model PR w) A (eval slice env) (SubQ w Q v) E s₁) E s)
    (hs : ∀ o i, ∃ ops, subscripted slice false o i = operate ops (getItem o i) := by intro o i; exact ⟨_, by with_unfolding_all rfl⟩) : wpAny (model PR w) A (eval (.Subscript value slice pos) env) Q E s := by
  refine Subscript_ (wpAny_mono h (fun v s₁ h₁ => wpAny_mono h₁ (fun i s₂ h₂ => ?_) fun _ _ x => x) fun _ _ x => x)
  obtain ⟨a, kvs, k, t, x, rfl, rfl, D, hx, hQ⟩ := h₂
  obtain ⟨ops, e⟩ := hs (.ref a) (.str k t)
  exact sub_tail D.1.typeIs slot_dict_getitem.lookup (wpAny_getItem_of (strKind_is PR w k t) D.1.mapOf hx (hQ _ Up.tk)) e

/-- d[k] = v, d of our own -/
theorem Fx.setD (X : Fx S T₀ s₀ T L m own s) {i : Nat} {a : Addr} {kvs : List (Str × Value)} {k : Str} {t : Tok} {v : Value} {Q : Unit → Shared → Prop} (hi : own[i]? = some (a, DctO w kvs)) (hz : kvs.length ≤ 1000)
    (h : ∀ s', Fx S T₀ s₀ T L m (own.set i (a, DctO w (stored kvs k v))) s' → Q () s') : wpAny (model PR w) A (setItem (.ref a) (.str k t) v) Q E s := by
  obtain ⟨o, ho, hO⟩ := X.st.at' (i := i + 1) hi
  refine wpAny_setItem_pairs (strKind_is PR w k t) (Heap.dictOf_iff.mpr ⟨o, ho, hO⟩) (fun h' hd hs => h _ ?_) (by rw [sizeLine_eq]; lia)
  exact ⟨X.st.set (i := i + 1) (P' := DctO w (stored kvs k v)) hi hs.extBut (Heap.dictOf_iff.mp hd), X.gr, X.sm⟩

theorem x_sub {o i value : Expr} {p : Pos} {Q : Flow → Shared → Prop} (h : wpAny (model PR w) A (eval value env) (fun v s₁ => wpAny (model PR w) A (eval o env) (fun ov s₂ => wpAny (model PR w) A (eval i env) (fun iv s₃ =>
      wpAny (model PR w) A (setItem ov iv v) (fun _ => Q .next) E s₃) E s₂) E s₁) E s)
    (hs : swapsWith value (some (.Subscript o i p)) pos.line env = pure false := by rfl) : wpAny (model PR w) A (exec (.Assign [.Subscript o i p] value pos) env) Q E s := wpAny_Assign_Subscript h hs

/-- a new dict of our own -/
theorem e_dict0 (X : Fx S T₀ s₀ T L m own s) (h : ∀ a s', Fx S T₀ s₀ T L m ((a, DctO w []) :: own) s' → Q (.ref a) s') : wpAny (model PR w) A (eval (.Dict [] [] pos) env) Q E s := by
  refine wpAny_Dict_empty (h _ _ ⟨(X.st.alloc (P := DctO w []) (o := { cls := .type "dict", data := .dict #[] }) ?_ rfl).swap, X.gr, X.sm⟩)
  exact ⟨#[], 0, ⟨rfl, rfl, rfl⟩, rfl, fun _ he => by simp at he, Pairs.nil, List.nodup_nil⟩

/-- the method get -/
theorem m_dict {d : Addr} {kvs : List (Str × Value)} {name : Str} {id : String} {pl : Sem Bool} {Q : Value × List Value → Shared → Prop} (slot : Slot "dict" name id) (hty : typeOf (.builtin id) = pure (.type "method_descriptor"))
    (D : Dct w s.heap d kvs) (h : Q (.builtin id, [.ref d]) s) : wpAny (model PR w) A (getMethod (.ref d) name pl) Q E s :=
  getMethod_builtin D.1.typeIs F.plainAttrs_dict slot hty D.1.mapOf.noDict h
theorem c_get2 {d : Addr} {kvs : List (Str × Value)} {k : Str} {t : Tok} {dflt : Value} (D : Dct w s.heap d kvs) (h : ∀ s', Up s s' → Q ((valueAt kvs k).getD dflt) s') : wpAny (model PR w) A (call (.builtin "dict.get") [.ref d, .str k t, dflt]) Q E s := by
  refine call_meetsIn F.slot_dict_get D.1.typeIs F.entry_dict_get (F.args_dict_get_3 _ _ _) (meets_dict_get_default (strKind PR w) d (strKind_is PR w k t) D.2 dflt) ⟨_, D.1.mapOf, h _ Up.tk⟩
end
end Mine
end

section
open PySem PySem.W PySem.Calls PyProof.Rows
set_option maxRecDepth 100000
namespace Mine

theorem eqS (x y : Str) : (x.cps.toList == y.cps.toList) = decide (x = y) := by
  rw [Bool.eq_iff_iff, beq_iff_eq, decide_eq_true_iff]
  refine ⟨fun h => ?_, fun h => by rw [h]⟩
  obtain ⟨⟨a⟩⟩ := x
  obtain ⟨⟨b⟩⟩ := y
  simp only at h
  subst h; rfl

inductive WhileNext (S T₀ : Heap) (s₀ : Shared) (L : Addr) (T : Heap) (n : Nat) (K : Nat → Heap → (Str → Option Value) → Own → Prop) (s₃ : Shared) : Prop
  | mk (n' : Nat) (T' : Heap) (m' : Str → Option Value) (own' : Own) (hn : n' < n) (k : Ev T T') (X : Fx S T₀ s₀ T' L m' own' s₃) (h : K n' T' m' own')

section
variable {w : World} {A : Around} {E : Value → Shared → Prop} {S T₀ T Tb : Heap} {s₀ s : Shared} {L : Addr} {m : Str → Option Value} {own : Own} {env : Env} {Q : Value → Shared → Prop} {pos : Pos}

theorem loop_while {test : Expr} {body : List Stmt} {R : Result → Shared → Prop} (K : Nat → Heap → (Str → Option Value) → Own → Prop)
    (turn : ∀ n T m own s (E : Value → Shared → Prop), Ev Tb T → Fx S T₀ s₀ T L m own s → K n T m own →
      ∀ (Q : Flow → Shared → Prop) (Qe : Shared → Prop), (∀ s₃, WhileNext S T₀ s₀ L T n K s₃ → Q .next s₃ ∧ Q .cont s₃) → (∀ s₃, R (.ok .next) s₃ → Q .brk s₃ ∧ Qe s₃) → (∀ v s₃, R (.ok (.ret v)) s₃ → Q (.ret v) s₃) →
      wpAny (model PR w) A (isTrue test env (eval test env)) (fun b s₂ => if b = true then wpAny (model PR w) A (execs body env) Q E s₂ else Qe s₂) E s)
    {n : Nat} (kb : Ev Tb T) (X : Fx S T₀ s₀ T L m own s) (h0 : K n T m own) :
    codeAny (model PR w) A (.whileLoop test body [] env) R s := by
  refine codeAny_whileLoop (fun n s => ∃ T m own, Ev Tb T ∧ Fx S T₀ s₀ T L m own s ∧ K n T m own) (fun n s hI => ?_) n ⟨T, m, own, kb, X, h0⟩
  obtain ⟨T, m, own, kb, X, hK⟩ := hI
  refine wpAny_mono (turn n T m own s _ kb X hK (fun f s₃ => match f with
        | .next | .cont => WhileNext S T₀ s₀ L T n K s₃
        | .brk => R (.ok .next) s₃
        | .ret v => R (.ok (.ret v)) s₃) (fun s₂ => R (.ok .next) s₂) (fun _ h => ⟨h, h⟩) (fun _ h => ⟨h, h⟩) fun _ _ h => h) (fun b s₂ h₂ => ?_) fun _ _ x => x
  cases b with
  | true =>
    simp only [if_true] at h₂ ⊢
    refine wpAny_mono h₂ (fun f s₃ h₃ => ?_) fun _ _ x => x
    cases f with
    | next => obtain ⟨n', T', m', own', hn, k, X', hK'⟩ := h₃; exact ⟨n', hn, T', m', own', kb.trans k, X', hK'⟩
    | cont => obtain ⟨n', T', m', own', hn, k, X', hK'⟩ := h₃; exact ⟨n', hn, T', m', own', kb.trans k, X', hK'⟩
    | brk => exact h₃
    | ret v => exact h₃
  | false =>
    simp only [Bool.false_eq_true, if_false] at h₂ ⊢
    exact wpAny_execs_nil h₂

/-- the last item taken -/
theorem c_pop {l : Addr} {x : Value} {xs : List Value} {i : Nat} (X : Fx S T₀ s₀ T L m own s) (hi : own[i]? = some (l, LstO (xs ++ [x]))) (hz : xs.length ≤ 10000000)
    (h : ∀ s', Fx S T₀ s₀ T L m (own.set i (l, LstO xs)) s' → Q x s') : wpAny (model PR w) A (call (.builtin "list.pop") [.ref l]) Q E s := by
  obtain ⟨o, ho, n, rfl⟩ := X.st.at' (i := i + 1) hi
  have hy : (xs ++ [x]).toArray[(xs ++ [x]).toArray.size - 1]? = some x := by simp
  refine call_meets PySem.F.slot_list_pop ⟨_, ho, rfl⟩ PySem.F.entry_list_pop (PySem.F.args_list_pop_1 _) (PySem.MeetsSeq.list_pop_last l _ n x hy (by rw [sizeLine_eq]; simp; lia)) ⟨ho, ?_⟩
  refine h _ ⟨X.st.set (i := i + 1) (P' := LstO xs) hi (Heap.SameBut.update ..).extBut ?_, X.gr, X.sm⟩
  exact ⟨_, Heap.get?_update_self _ ho rfl, n + 1, by simp [Obj.mapSeq, List.eraseIdx_append_of_length_le]⟩

/-- the keys of a dict as a list, sorted -/
theorem c_sorted_dict {d : Addr} {kvs : List (Str × Value)} (X : Fx S T₀ s₀ T L m own s) (hh : A.handled = none) (D : Dct w s.heap d kvs) (hn : kvs.length < 64)
    (h : ∀ l T' s' vs ss, Fx S T₀ s₀ T' L m own s' → Ev T T' → T'.PlainList l vs.toArray → StrsAre vs ss → ss.Perm (kvs.map (·.1)) → Q (.ref l) s') : wpAny (model PR w) A (call (.builtin "sorted") [.ref d]) Q E s := by
  obtain ⟨ep, hat⟩ := D.1.dictAt
  refine sorted_of (n := kvs.length) (K := fun ss => ss = kvs.map (·.1)) hn (fun R hR => ?_) fun l h' d tk vs ss ss' k hD hl hS hp hK hz _ => ?_
  · refine kdu_collect (A := A.in1) (kdl_dict (knd := strKind PR w) (kvs := kvs) (ep := ep) D.2) hh hat (by rw [sizeLine_eq]; lia) fun h' tk acc k hacc => hR h' s.drawn tk acc.toList (kvs.map (·.1)) k ?_ rfl (by rw [Array.length_toList, hacc.1]; exact Nat.le_refl _)
    have hsz : acc.toList.length = kvs.length := by rw [Array.length_toList]; exact hacc.1
    have hget : ∀ j v, acc.toList[j]? = some v → ∃ k x, kvs[j]? = some (k, x) ∧ (strKind PR w).is k v = true := fun j v e => hacc.2 j v (by rw [← Array.getElem?_toList]; exact e)
    generalize acc.toList = l at hsz hget
    clear hat hn hR D h hacc
    induction kvs generalizing l with
    | nil =>
      have : l = [] := List.eq_nil_of_length_eq_zero hsz
      subst this; exact .nil
    | cons kv kvs ih =>
      cases l with
      | nil => cases hsz
      | cons v l =>
        obtain ⟨k', x, e, hk⟩ := hget 0 v rfl
        simp only [List.getElem?_cons_zero, Option.some.injEq] at e
        subst e
        obtain ⟨t, rfl⟩ := Value.isStrOf_shape hk
        exact .cons k' t (ih l (by simpa using hsz) fun j v e => hget (j + 1) v e)
  · obtain ⟨n', hl⟩ := hl
    obtain ⟨T', kT, e, X'⟩ := X.takeF (s' := { s with heap := h', drawn := d, toks := tk }) ⟨⟨rfl, rfl, rfl⟩, k⟩ hD hl
    exact h l T' _ vs ss X' kT ⟨n', e⟩ hS (hp.trans (hK ▸ List.Perm.refl _))
theorem c_list_dict {d : Addr} {kvs : List (Str × Value)} (X : Fx S T₀ s₀ T L m own s) (hh : A.handled = none) (D : Dct w s.heap d kvs) (hn : kvs.length < 64)
    (h : ∀ l T' s' vs, Fx S T₀ s₀ T' L m own s' → Ev T T' → T'.PlainList l vs.toArray → StrsAre vs (kvs.map (·.1)) → Q (.ref l) s') : wpAny (model PR w) A (call (.type "list") [.ref d]) Q E s := by
  obtain ⟨ep, hat⟩ := D.1.dictAt
  refine kdl_call (kdl_dict (knd := strKind PR w) (kvs := kvs) (ep := ep) D.2) hh hat (by rw [sizeLine_eq]; lia) fun h' tk acc c k hl hacc => ?_
  have hsz : acc.toList.length = kvs.length := by rw [Array.length_toList]; exact hacc.1
  have hget : ∀ j v, acc.toList[j]? = some v → ∃ k x, kvs[j]? = some (k, x) ∧ (strKind PR w).is k v = true := fun j v e => hacc.2 j v (by rw [← Array.getElem?_toList]; exact e)
  obtain ⟨T', kT, e, X'⟩ := X.takeF (s' := { s with heap := h', toks := tk }) ⟨⟨rfl, rfl, rfl⟩, k⟩ (get_size _) hl
  refine h _ T' _ acc.toList X' kT ⟨c, by rw [Array.toArray_toList]; exact e⟩ ?_
  generalize acc.toList = l at hsz hget
  clear hat hn D h hacc
  induction kvs generalizing l with
  | nil =>
    have : l = [] := List.eq_nil_of_length_eq_zero hsz
    subst this; exact .nil
  | cons kv kvs ih =>
    cases l with
    | nil => cases hsz
    | cons v l =>
      obtain ⟨k', x, e, hk⟩ := hget 0 v rfl
      simp only [List.getElem?_cons_zero, Option.some.injEq] at e
      subst e
      obtain ⟨t, rfl⟩ := Value.isStrOf_shape hk
      exact .cons k' t (ih l (by simpa using hsz) fun j v e => hget (j + 1) v e)

/-- a list's length, of our own -/
theorem lst_of {l : Addr} {xs : List Value} {i : Nat} (X : Fx S T₀ s₀ T L m own s) (hi : own[i]? = some (l, LstO xs)) : s.heap.IsList l xs.toArray := by
  obtain ⟨o, ho, n, rfl⟩ := X.st.at' (i := i + 1) hi
  exact ⟨_, ho, rfl, n, rfl⟩
end
end Mine
end

section
open PySem PySem.W PySem.Calls PyProof.Rows
set_option maxRecDepth 100000
namespace Mine

/-- a statement and the rest, its post held apart -/
theorem x_cons {w : World} {A : Around} {E : Value → Shared → Prop} {s : Shared} {st : Stmt} {rest : List Stmt} {env : Env} {Q : Flow → Shared → Prop}
    (h : ∀ Qs : Flow → Shared → Prop, (∀ s', wpAny (model PR w) A (execs rest env) Q E s' → Qs .next s') → (∀ v s', Q (.ret v) s' → Qs (.ret v) s') → (∀ s', Q .cont s' → Qs .cont s') → wpAny (model PR w) A (exec st env) Qs E s) :
    wpAny (model PR w) A (execs (st :: rest) env) Q E s := wpAny_execs_cons (h _ (fun _ h => h) (fun _ _ h => h) fun _ h => h)

noncomputable abbrev Tab := List (Str × Tm)
noncomputable def lookT (σ : Tab) (x : Str) : Option Tm := (σ.find? fun p => p.1 = x).map (·.2)
noncomputable def TabIn (T : Heap) (kvs : List (Str × Value)) (σ : Tab) : Prop := All2 (fun (kv : Str × Value) (p : Str × Tm) => kv.1 = p.1 ∧ TmIn T p.2 kv.2) kvs σ
theorem TabIn.ev {T T' : Heap} (k : Ev T T') {kvs : List (Str × Value)} {σ : Tab} (h : TabIn T kvs σ) : TabIn T' kvs σ := h.mono fun _ _ ⟨a, b⟩ => ⟨a, b.ev k⟩
theorem TabIn.at {T : Heap} {kvs : List (Str × Value)} {σ : Tab} (h : TabIn T kvs σ) (x : Str) : (valueAt kvs x = none ∧ lookT σ x = none) ∨ ∃ v t, valueAt kvs x = some v ∧ lookT σ x = some t ∧ TmIn T t v := by
  induction h with
  | nil => exact .inl ⟨rfl, rfl⟩
  | @cons kv p kvs σ hp _ ih =>
    by_cases e : p.1 = x
    · exact .inr ⟨kv.2, p.2, by simp [valueAt, hp.1, e], by simp [lookT, e], hp.2⟩
    · have e' : ¬ kv.1 = x := by rw [hp.1]; exact e
      simpa [valueAt, lookT, e, e'] using ih
theorem TabIn.keys {T : Heap} {kvs : List (Str × Value)} {σ : Tab} (h : TabIn T kvs σ) : kvs.map (·.1) = σ.map (·.1) := by
  induction h with
  | nil => rfl
  | cons hp _ ih => rw [List.map_cons, List.map_cons, hp.1, ih]
theorem TabIn.isSome {T : Heap} {kvs : List (Str × Value)} {σ : Tab} (h : TabIn T kvs σ) (x : Str) : (valueAt kvs x).isSome = (lookT σ x).isSome := by
  rcases h.at x with ⟨a, b⟩ | ⟨v, t, a, b, _⟩ <;> rw [a, b] <;> rfl
theorem lookT_mem {σ : Tab} {x : Str} {t : Tm} (h : lookT σ x = some t) : (x, t) ∈ σ := by
  unfold lookT at h
  obtain ⟨p, hp, rfl⟩ := Option.map_eq_some_iff.mp h
  have h1 := List.mem_of_find?_eq_some hp
  have h2 := List.find?_some hp
  have h3 : p.1 = x := by simpa using h2
  rw [← h3]; exact h1
theorem lookT_some {σ : Tab} {x : Str} : (lookT σ x).isSome = true ↔ x ∈ σ.map (·.1) := by
  unfold lookT
  rw [Option.isSome_map, List.find?_isSome, List.mem_map]
  simp
theorem lookT_of_mem {σ : Tab} (hn : (σ.map (·.1)).Nodup) {x : Str} {t : Tm} (h : (x, t) ∈ σ) : lookT σ x = some t := by
  induction σ with
  | nil => cases h
  | cons p σ ih =>
    rw [List.map_cons, List.nodup_cons] at hn
    rcases List.mem_cons.mp h with rfl | h
    · simp [lookT]
    · have hne : ¬ p.1 = x := fun e => hn.1 (e ▸ List.mem_map_of_mem (f := (·.1)) h)
      have := ih hn.2 h
      simpa [lookT, hne] using this
theorem lookT_append {σ : Tab} {x y : Str} {t : Tm} : lookT (σ ++ [(x, t)]) y = match lookT σ y with | some u => some u | none => if x = y then some t else none := by
  unfold lookT
  rw [List.find?_append]
  cases h : σ.find? (fun p => decide (p.1 = y)) with
  | some p => simp
  | none => by_cases e : x = y <;> simp [e]

/-- what a term is, its variables followed -/
noncomputable def followT (σ : Tab) : Nat → Tm → Tm
  | 0, t => t
  | n + 1, t => if t.isVar then match lookT σ t.op with
    | some u => followT σ n u
    | none => t
    else t
noncomputable def Stuck (σ : Tab) (t : Tm) : Prop := t.isVar = true → lookT σ t.op = none
theorem followT_stuck {σ : Tab} {t : Tm} (h : Stuck σ t) (n : Nat) : followT σ n t = t := by
  cases n with
  | zero => rfl
  | succ n =>
    unfold followT
    cases hv : t.isVar with
    | false => rfl
    | true => rw [if_pos rfl, h hv]

inductive ViewOp (T : Heap) (t : Tm) (v : Value) : Prop
  | mk (a : Addr) (tk : Tok) (xs : List Value) (e : v = .ref a) (h : IsTup T a (.str t.op tk :: xs).toArray) (hl : xs.length = t.kids.length) (hz : xs.length ≤ 6) (hk : All2 (fun x k => TmIn T k x) xs t.kids)
theorem view_op {w : World} {T : Heap} {t : Tm} {v : Value} (h : TmIn T t v) : ViewOp T t v :=
  by
  obtain ⟨_, a, tk, xs, e, i, k⟩ := h.view
  exact ⟨a, tk, xs, e, i, k.length, by rw [k.length]; exact h.klen, k⟩
end Mine
end

section
open PySem PySem.W PySem.Calls PyProof.Rows
set_option maxRecDepth 100000
namespace Mine

section
variable {w : World} {A : Around} {E : Value → Shared → Prop} {S T₀ T : Heap} {s₀ s : Shared} {L : Addr} {m : Str → Option Value} {own : Own} {env : Env} {Q : Value → Shared → Prop} {pos : Pos}

/-- is_variable of a name's term, as a test -/
theorem q_isvar {x : Str} {p pos : Pos} {e : Expr} {t : Tm} {v : Value} {Q : Bool → Shared → Prop} (X : Fx S T₀ s₀ T L m own s) (G : Gnd w T) (r : Room A 1) (ht : TmIn T t v)
    (he : wpAny (model PR w) A (eval e env) (fun u s₁ => u = v ∧ s₁ = s) E s)
    (h : ∀ s' T', Fx S T₀ s₀ T' L m own s' → Ev T T' → Q t.isVar s') (hx : x = Str.ofString "is_variable")
    (hk : env.scope.kind = .function := by rfl) (hx' : env.kindOf x = some .globalImplicit := by rfl) (hg : env.globals = mainGlobals := by rfl) (hst : starEach [e] env = (false, eval e env) :: starEach [] env := by rfl)
    (ht' : isTrue (.Call (.Name x p) [e] [] pos) env (eval (.Call (.Name x p) [e] [] pos) env) = (do let v ← eval (.Call (.Name x p) [e] [] pos) env; standAt (Expr.Call (.Name x p) [e] [] pos).pos; holding [v] (truthy v)) := by rfl) :
    wpAny (model PR w) A (isTrue (.Call (.Name x p) [e] [] pos) env (eval (.Call (.Name x p) [e] [] pos) env)) Q E s := by
  subst hx
  refine isTrue_plain (e_call X G rfl (by decide) (args_cons (wpAny_mono he (fun u s₁ h₁ => args_nil ?_) fun _ _ x => x) hst) hk hx' hg (by decide) hst) ht'
  obtain ⟨rfl, rfl⟩ := h₁
  refine ⟨X.st.kT, use_spec X (is_var G X.st.kT ht) r fun pr s8 T8 X8 k8 hpost => ?_⟩
  subst hpost
  exact wpAny_truthy_bool (h _ _ X8 k8)
end

theorem followed_spec {w : World} {σ : Tab} {kvs : List (Str × Value)} {tb : Addr} {T : Heap} {s : Shared} {t : Tm} {v : Value} (n : Nat) (G : Gnd w T) (kT : Ev T s.heap) (ht : TmIn T t v) (D : Dct w s.heap tb kvs) (hσ : TabIn T kvs σ)
    (hst : Stuck σ (followT σ n t)) : Spec w 84 2 [v, .ref tb] T s (fun T' r => TmIn T' (followT σ n t) r) := by
  refine enter (d := 1) (binds := [(Str.ofString "pattern", v), (Str.ofString "table", .ref tb)]) (G.fn (i := 11) (by decide)) G.lim kT (fun _ _ _ _ _ => rfl) rfl (by decide +kernel) ?_
  intro A cd s₁ E Sh Lo Qf kS r X hQ
  replace D := D.keeps kS
  conv in dBody _ => whnf
  refine wpAny_execs_cons (wpAny_While ?_)
  refine loop_while (Tb := T)
    (fun k T' m own => ∃ u v', m (Str.ofString "pattern") = some v' ∧ m (Str.ofString "table") = some (.ref tb) ∧ TmIn T' u v' ∧ followT σ k u = followT σ n t) ?_ (n := n) (Ev.refl _) X ⟨t, v, rfl, rfl, ht, rfl⟩
  · rintro k T1 m own s1 E' k1 X1 ⟨u, v', hp, htb, hu, hf⟩ Q1 Qe hn hb hr
    have G1 := G.keeps k1
    obtain ⟨a, tk, xs, rfl, hat, _, hx6, _⟩ := view_op (w := w) hu
    refine isTrue_and ?_
    refine q_isvar X1 G1 (r.mono (by lia)) hu (e_loc X1 hp ⟨rfl, rfl⟩) (fun s2 T2 X2 k2 => ?_) rfl
    have D2 := D.keeps X2.st.kS
    cases hv : u.isVar with
    | false =>
      rw [if_neg (by decide), if_neg (by decide)]
      rw [followT_stuck (fun h => by rw [hv] at h; cases h)] at hf
      refine (hb _ ?_).2
      show wpAny _ _ _ _ _ _
      exact wpAny_execs_cons (wpAny_Return_some (e_loc X2 hp (hQ _ _ <| X2.done (by rw [← hf]; exact hu.ev k2))))
    | true =>
      rw [if_pos rfl]
      refine isTrue_and (wpAny_isTrue_Compare1 (e_item (e_loc X2 hp ⟨_, _, 0, _, rfl, (hat.keeps k2).keeps X2.st.kT, seqIndex_zero (by simp), rfl, fun s3 u3 => ?_⟩)))
      have X3 := X2.up u3
      refine e_loc X3 htb (x_in (D2.keeps u3.ev) fun s4 u4 => wpAny_truthy_bool ?_)
      have X4 := X3.up u4
      have hσ2 : TabIn T2 kvs σ := (hσ.ev k1).ev k2
      rcases hσ2.at u.op with ⟨n1, n2⟩ | ⟨x, t', s1', s2', hx⟩
      · rw [n1, if_neg (by simp), if_neg (by decide)]
        rw [followT_stuck (fun _ => n2)] at hf
        refine (hb _ ?_).2
        show wpAny _ _ _ _ _ _
        exact wpAny_execs_cons (wpAny_Return_some (e_loc X4 hp (hQ _ _ <| X4.done (by rw [← hf]; exact hu.ev k2))))
      · rw [s1', if_pos (by rfl)]
        refine isTrue_and_nil ?_
        rw [if_pos rfl]
        have hk : ∃ k', k = k' + 1 := by
          cases k with
          | zero =>
            exfalso
            have : u = followT σ n t := hf
            rw [← this] at hst
            rw [hst hv] at s2'; cases s2'
          | succ k' => exact ⟨k', rfl⟩
        obtain ⟨k', rfl⟩ := hk
        refine wpAny_execs_cons (wpAny_Assign_Name (e_dsub (e_loc X4 htb (e_item (e_loc X4 hp ⟨_, _, 0, _, rfl, (hat.keeps k2).keeps X4.st.kT, seqIndex_zero (by simp), rfl, fun s5 u5 => ?_⟩)))))
        refine ⟨tb, kvs, u.op, _, x, rfl, rfl, (D2.keeps (u3.ev.trans u4.ev)).keeps u5.ev, s1', fun s6 u6 => ?_⟩
        refine s_loc ((X4.up u5).up u6) fun s7 X7 => wpAny_execs_nil ?_
        refine (hn _ ⟨k', T2, _, _, Nat.lt_succ_self _, k2, X7, t', x, rfl, htb, hx, ?_⟩).1
        rw [← hf]
        show _ = if u.isVar = true then (match lookT σ u.op with | some u => followT σ k' u | none => u) else u
        rw [hv, if_pos rfl, s2']
end Mine
end

section
open PySem PySem.W PySem.Calls PyProof.Rows
set_option maxRecDepth 100000
namespace Mine

section
variable {w : World} {A : Around} {E : Value → Shared → Prop} {S T₀ T : Heap} {s₀ s : Shared} {L : Addr} {m : Str → Option Value} {own : Own} {env : Env} {Q : Value → Shared → Prop} {pos : Pos}

theorem c_tuple {l : Addr} {ys : List Value} (X : Fx S T₀ s₀ T L m own s) (hl : s.heap.IsList l ys.toArray) (hz : ys.length ≤ 1000)
    (h : ∀ a T' s', Fx S T₀ s₀ T' L m own s' → Ev T T' → IsTup T' a ys.toArray → Q (.ref a) s') : wpAny (model PR w) A (call (.type "tuple") [.ref l]) Q E s := by
  refine call_tuple_list hl (fun h' k => ?_) (by rw [sizeLine_eq]; simp; lia)
  obtain ⟨T', kT, e, X'⟩ := X.takeF (s' := { s with heap := h'.push { cls := .type "tuple", data := .seq ys.toArray } }) ⟨⟨rfl, rfl, rfl⟩, fun b o e => Ev.push _ _ _ _ (k b o e)⟩ (a := h'.objs.size)
    (none_of_ev k (get_size _)) (Heap.get?_push_size _ rfl)
  exact h _ T' _ X' kT ⟨_, e, rfl, _, rfl⟩
end

theorem filled_spec {w : World} {kvs : List (Str × Value)} {tb : Addr} (t : Tm) : ∀ {T : Heap} {s : Shared} {v : Value}, Gnd w T → Ev T s.heap → TmIn T t v → Dct w s.heap tb kvs → Spec w 77 (t.depth + 1) [v, .ref tb] T s (fun _ _ => True) := by
  induction t using Tm.ind with
  | h t ih =>
  intro T s v G kT ht D
  have hd1 := t.depth_pos
  refine enter (d := t.depth) (binds := [(Str.ofString "pattern", v), (Str.ofString "table", .ref tb)]) (G.fn (i := 10) (by decide)) G.lim kT (fun _ _ _ _ _ => rfl) rfl (by decide +kernel) ?_
  intro A cd s₁ E Sh Lo Qf kS r X hQ
  conv in dBody _ => whnf
  obtain ⟨a, tk, xs, rfl, hat, hxl, hx6, hk⟩ := view_op (w := w) ht
  refine wpAny_execs_cons (wpAny_If (q_isvar X G (r.mono hd1) ht (e_loc X rfl ⟨rfl, rfl⟩) (fun s2 T2 X2 k2 => ?_) rfl))
  have D2 := D.keeps (kS.trans X2.st.kS)
  cases hv : t.isVar with
  | true =>
    rw [if_pos rfl]
    refine wpAny_execs_cons (wpAny_Return_some (MethodCall_ (e_cell (i := 0) X2 rfl (m_dict F.slot_dict_get F.type_dict_get D2 (callWith_method1 (args_cons (e_item (e_loc X2 rfl ⟨_, _, 0, .str t.op tk, rfl, (hat.keeps k2).keeps X2.st.kT, seqIndex_zero (by simp), rfl, fun s3 u3 => ?_⟩))))))))
    have X3 := X2.up u3
    exact args_cons (e_loc X3 rfl (args_nil (c_get2 (D2.keeps u3.ev) fun s4 u4 => hQ _ _ <| (X3.up u4).done trivial)))
  | false =>
    rw [if_neg (by decide)]
    refine wpAny_execs_nil ?_
    have G2 := G.keeps k2
    refine wpAny_execs_cons (wpAny_Return_some (wpAny_BinOp (e_tuple (args_cons (e_item (e_loc X2 rfl ⟨_, _, 0, .str t.op tk, rfl, (hat.keeps k2).keeps X2.st.kT, seqIndex_zero (by simp), rfl, fun s3 u3 => ?_⟩))))))
    have X3 := X2.up u3
    refine args_nil ⟨_, _, _, _, _, _, _, X3, by simp, fun ha T4 s4 X4 k4 hha => ?_⟩
    refine Call_ (e_boot X4 (G2.keeps k4) (v := .type "tuple") rfl (callWith_type1 (args_cons (comp_list (e_from (e_loc X4 rfl
      ⟨_, _, _, _, _, _, _, _, _, rfl, X4, (hat.keeps k2).keeps k4, by decide, by simp, by simp; lia, fun ta T5 s5 X5 k5 hta => ?_⟩))))))
    have hta' : IsTup T5 ta xs.toArray := hta
    refine iter_tup X5 hta' fun I s6 X6 => ?_
    refine CompGo.mk (fun _ _ _ => True) rfl (Iter.tup hta') (Ev.refl _) X6 (by lia) r.hh trivial (fun _ _ _ _ _ _ => trivial) ?_ ?_
    · rintro C j T7 mC own' s7 pv ys E'' hj k7 X7 hmo hpv _ hyl Qy Qn hyy hnn
      have hxs : xs[j]? = some pv := hpv
      obtain ⟨kid, hkid, hxk⟩ := (hk.mono fun _ _ h => (((h.ev k2).ev k4).ev k5).ev k7).get hxs
      have hmem : kid ∈ t.kids := List.mem_of_getElem? hkid
      have G7 := ((G2.keeps k4).keeps k5).keeps k7
      have hcell := hmo (Lo + 1, CellO (some (.ref tb))) (List.mem_of_getElem? (i := 0) rfl)
      refine wpAny_assign_Name (s_loc X7 fun s8 X8 => wpAny_tests_nil ?_)
      rw [if_pos rfl]
      refine e_call X8 G7 rfl (by decide) (args_cons (e_loc X8 rfl (args_cons (e_cellM X8 hcell (args_nil ⟨X8.st.kT, use_spec X8 (ih kid hmem G7 X8.st.kT hxk (D.keeps (kS.trans X8.st.kS))) (r.mono (Tm.depth_kid hmem)) fun pr s9 T9 X9 k9 _ => ?_⟩)))))
      exact hyy _ _ ⟨T9, _, k9, X9, trivial⟩
    · rintro Dl ys T7 s7 k7 X7 _ hyl
      refine args_nil (c_tuple X7 (lst_of (i := 0) X7 rfl) (by lia) fun ra T8 s8 X8 k8 hra => ?_)
      refine add_tup (vs := [_]) X8 (((hha.keeps k5).keeps k7).keeps k8) hra (by simp; lia) fun na T9 s9 X9 k9 hna => ?_
      exact hQ _ _ <| X9.done trivial
end Mine
end

section
open PySem PySem.W PySem.Calls PyProof.Rows
set_option maxRecDepth 100000
namespace Mine

theorem snoc_cases {α : Type} (l : List α) : l = [] ∨ ∃ l' x, l = l' ++ [x] := by
  rcases List.eq_nil_or_concat l with h | ⟨a, b, h⟩
  · exact .inl h
  · exact .inr ⟨a, b, by simpa using h⟩
theorem All2.unsnoc {α β : Type} {R : α → β → Prop} {l : List α} {a : α} : ∀ {r : List β}, All2 R (l ++ [a]) r → ∃ r' b, r = r' ++ [b] ∧ All2 R l r' ∧ R a b := by
  induction l with
  | nil =>
    intro r h
    cases h with
    | cons h t => cases t; exact ⟨[], _, rfl, .nil, h⟩
  | cons c l ih =>
    intro r h
    cases h with
    | cons h t =>
      obtain ⟨r', b, rfl, h1, h2⟩ := ih t
      exact ⟨_ :: r', b, rfl, .cons h h1, h2⟩

section
variable {w : World} {A : Around} {E : Value → Shared → Prop} {S T₀ T : Heap} {s₀ s : Shared} {L : Addr} {m : Str → Option Value} {own : Own} {env : Env} {Q : Value → Shared → Prop} {pos : Pos}
inductive Swap2 (w : World) (A : Around) (E : Value → Shared → Prop) (env : Env) (x y : Str) (Q : Flow → Shared → Prop) (v : Value) (s₁ : Shared) : Prop
  | mk (t : Addr) (a b : Value) (T : Heap) (m : Str → Option Value) (own : Own) (S T₀ : Heap) (s₀ : Shared) (L : Addr) (hv : v = .ref t) (X : Fx S T₀ s₀ T L m own s₁) (ht : IsTup T t [a, b].toArray) (hh : A.handled = none)
      (h : ∀ s', Fx S T₀ s₀ T L m own s' → wpAny (model PR w) A (storeName env y b) (fun _ s₂ => wpAny (model PR w) A (storeName env x a) (fun _ => Q .next) E s₂) E s')
/-- a pair unpacked, its stores swapped -/
theorem x_swap2 {elts k tpos value pos} {x y : Str} {Q : Flow → Shared → Prop}
    (h : wpAny (model PR w) A (eval value env) (Swap2 w A E env x y Q) E s)
    (hs : swapsWithSole [.Tuple elts k tpos] value pos.line env = pure false := by rfl)
    (hw : swappedStores [.Tuple elts k tpos] value env = pure (some [x, y]) := by rfl) :
    wpAny (model PR w) A (exec (.Assign [.Tuple elts k tpos] value pos) env) Q E s := by
  refine Assign_Tuple_swapped (names := [x, y]) (wpAny_mono h (fun v s₁ h₁ => ?_) fun _ _ x => x) hs hw
  obtain ⟨t, a, b, T, m, own, S, T₀, s₀, L, rfl, X, ht, hh, h⟩ := h₁
  show wpAny _ _ (unpackItems (.ref t) [a, b].toArray.size none) _ _ _
  refine unpackItems_tuple hh (ht.keeps X.st.kT) fun h' he => ?_
  show wpAny _ _ (assignInOrder [bindName env y, bindName env x] [b, a]) _ _ _
  have := h { s₁ with heap := h' } ⟨X.st.grow fun b o e => he b o (Nat.ne_of_lt (Heap.lt_size e)) e, X.gr, X.sm⟩
  refine assignInOrder_cons (wpAny_bindName (wpAny_mono this (fun _ s2 h2 => ?_) fun _ _ x => x))
  exact assignInOrder_cons (wpAny_bindName (wpAny_mono h2 (fun _ s3 h3 => assignInOrder_nil h3) fun _ _ x => x))
end

inductive Reach (σ : Tab) : Tm → Str → Prop
  | here {t : Tm} {x : Str} : x ∈ t.vars → Reach σ t x
  | step {t u : Tm} {x y : Str} : y ∈ t.vars → lookT σ y = some u → Reach σ u x → Reach σ t x

/-- a term is done with -/
noncomputable def Proc (σ : Tab) (name : Str) (ks : List Str) (u : Tm) : Prop := name ∉ u.vars ∧ ∀ z ∈ u.vars, (lookT σ z).isSome = true → z ∈ ks
theorem Proc.mono {σ : Tab} {name : Str} {ks ks' : List Str} {u : Tm} (h : Proc σ name ks u) (k : ∀ z ∈ ks, z ∈ ks') : Proc σ name ks' u := ⟨h.1, fun z hz hs => k z (h.2 z hz hs)⟩
theorem not_reach {σ : Tab} {name : Str} {ks : List Str} {t : Tm} (h : ∀ u, (u = t ∨ ∃ y ∈ ks, lookT σ y = some u) → Proc σ name ks u) : ∀ u, (u = t ∨ ∃ y ∈ ks, lookT σ y = some u) → ¬ Reach σ u name := by
  intro u hu hr
  induction hr with
  | here hx => exact (h _ hu).1 hx
  | step hy hl _ ih => exact ih h (.inr ⟨_, (h _ hu).2 _ hy (by rw [hl]; rfl), hl⟩)

theorem stored_keys {kvs : List (Str × Value)} {k : Str} {v : Value} (h : valueAt kvs k = none) : (stored kvs k v) = kvs ++ [(k, v)] := by
  unfold stored
  rw [if_neg]
  intro ha
  obtain ⟨kv, hkv, e⟩ := List.any_eq_true.mp ha
  unfold valueAt at h
  rw [Option.map_eq_none_iff, List.find?_eq_none] at h
  exact h kv hkv (by simpa using e)
theorem valueAt_mem {kvs : List (Str × Value)} {k : Str} : (valueAt kvs k).isSome = true ↔ k ∈ kvs.map (·.1) := by
  unfold valueAt
  rw [Option.isSome_map, List.find?_isSome, List.mem_map]
  simp

theorem nodup_len {l k : List Str} (hn : l.Nodup) (hs : ∀ x ∈ l, x ∈ k) : l.length ≤ k.length := hn.length_le_of_subset hs

noncomputable def WKeys (m : Str → Option Value) (name : Str) (tk : Tok) (tb sd wl : Addr) : Prop :=
  m (Str.ofString "name") = some (.str name tk) ∧ m (Str.ofString "table") = some (.ref tb) ∧ m (Str.ofString "waiting") = some (.ref wl) ∧ m (Str.ofString "seen") = some (.ref sd)

inductive WInv (w : World) (σ : Tab) (name : Str) (tk : Tok) (tb sd wl : Addr) (t : Tm) (n : Nat) (T' : Heap) (m : Str → Option Value) (own : Own) : Prop
  | mk (ws : List Value) (us : List Tm) (ks : List (Str × Value)) (e : own = [(sd, DctO w ks), (wl, LstO ws)]) (hm : WKeys m name tk tb sd wl) (hws : All2 (fun x u => TmIn T' u x) ws us) (hus : ∀ u ∈ us, u.size ≤ 40 ∧ ∀ x, Reach σ u x → Reach σ t x)
      (hks : ∀ y ∈ ks.map (·.1), y ∈ σ.map (·.1)) (hall : ∀ u, (u = t ∨ ∃ y ∈ ks.map (·.1), lookT σ y = some u) → u ∈ us ∨ Proc σ name (ks.map (·.1)) u) (hz : ws.length ≤ ks.length + 1) (hn : n = ws.length + (σ.length - ks.length))
inductive WFor (w : World) (σ : Tab) (name : Str) (tk : Tok) (tb sd wl : Addr) (t u : Tm) (ss : List Str) (n i : Nat) (T' : Heap) (m : Str → Option Value) (own : Own) : Prop
  | mk (ws : List Value) (us : List Tm) (ks' : List (Str × Value)) (e : own = [(sd, DctO w ks'), (wl, LstO ws)]) (hm : WKeys m name tk tb sd wl) (hws : All2 (fun x u => TmIn T' u x) ws us) (hus : ∀ u ∈ us, u.size ≤ 40 ∧ ∀ x, Reach σ u x → Reach σ t x)
      (hks : ∀ y ∈ ks'.map (·.1), y ∈ σ.map (·.1)) (hall : ∀ v, (v = t ∨ ∃ y ∈ ks'.map (·.1), lookT σ y = some v) → v ∈ us ∨ Proc σ name (ks'.map (·.1)) v ∨ v = u) (hz : ws.length ≤ ks'.length) (hn : ws.length + 1 + (σ.length - ks'.length) ≤ n)
      (hp : ∀ z ∈ ss.take i, z ≠ name ∧ ((lookT σ z).isSome = true → z ∈ ks'.map (·.1)))

theorem is_within_spec {w : World} {σ : Tab} {kvs : List (Str × Value)} {tb : Addr} {T : Heap} {s : Shared} {t : Tm} {v : Value} {name : Str} {tk : Tok} (G : Gnd w T) (kT : Ev T s.heap) (ht : TmIn T t v) (D : Dct w s.heap tb kvs) (hσ : TabIn T kvs σ)
    (hsz : t.size ≤ 40) (hsσ : ∀ p ∈ σ, p.2.size ≤ 40) (hlen : σ.length ≤ 100) : Spec w 91 43 [.str name tk, v, .ref tb] T s (fun _ r => ∃ b : Bool, r = .bool b ∧ (b = true ↔ Reach σ t name)) := by
  refine enter (d := 42) (binds := [(Str.ofString "name", .str name tk), (Str.ofString "pattern", v), (Str.ofString "table", .ref tb)]) (G.fn (i := 12) (by decide)) G.lim kT (fun _ _ _ _ _ => rfl) rfl (by decide +kernel) ?_
  intro A cd s₁ E Sh Lo Qf kS r X hQ
  replace D := D.keeps kS
  conv in dBody _ => whnf
  -- waiting, seen = [pattern], {}
  refine x_cons (fun Qα nα rα cα => x_swap2 (x := Str.ofString "waiting") (y := Str.ofString "seen") (e_tuple (args_cons (e_list (args_cons (e_loc X rfl (args_nil ⟨_, _, _, _, _, _, _, X, by simp, fun wl s2 X2 => args_cons (e_dict0 X2 fun sd s3 X3 => args_nil
    ⟨_, _, _, _, _, _, _, X3, by simp, fun pt T4 s4 X4 k4 hpt => ⟨pt, .ref wl, .ref sd, _, _, _, _, _, _, _, rfl, X4, hpt, r.hh, fun s5 X5 => s_loc X5 fun s6 X6 => s_loc X6 fun s7 X7 => ?_⟩⟩)⟩)))))))
  have G4 := G.keeps k4
  refine nα _ <| wpAny_execs_cons (wpAny_While ?_)
  let Post : Heap → Value → Prop := fun _ r => ∃ b : Bool, r = .bool b ∧ (b = true ↔ Reach σ t name)
  refine loop_while (Tb := T4)
    (WInv w σ name tk tb sd wl t) ?_ (n := 1 + σ.length) (Ev.refl _) X7
      ⟨[v], [t], [], rfl, ⟨rfl, rfl, rfl, rfl⟩, .cons (ht.ev k4) .nil, fun u hu => by rw [List.mem_singleton.mp hu]; exact ⟨hsz, fun _ h => h⟩, fun y hy => by simp at hy, fun u hu => by
        rcases hu with rfl | ⟨y, hy, _⟩
        · exact .inl (by simp)
        · simp at hy, by simp, by simp⟩
  · rintro n T5 m own s8 E' k5 X8 ⟨ws, us, ks, rfl, hm, hws, hus, hks, hall, hwl, rfl⟩ Q1 Qe hn hb hr
    have G5 := G4.keeps k5
    have Dks := X8.dct G5 (i := 0) rfl
    have hkl : ks.length ≤ σ.length := by
      have := nodup_len Dks.nodup hks
      simpa using this
    refine wpAny_isTrue_Compare1 (e_len X8 G5 (e_loc X8 hm.2.2.1 ⟨_, _, rfl, .inr (lst_of (i := 1) X8 rfl), by simp; lia, fun t9 s9 u9 => ?_⟩))
    refine e_int fun t10 s10 u10 => gt_int (wpAny_truthy_bool ?_)
    have X10 := (X8.up u9).up u10
    rcases snoc_cases ws with rfl | ⟨ws', x, rfl⟩
    · rw [if_neg (by simp)]
      cases hws
      have hr : ¬ Reach σ t name := not_reach (ks := ks.map (·.1)) (fun u hu => (hall u hu).elim (fun h => by cases h) fun h => h) t (.inl rfl)
      refine (hb _ ?_).2
      show wpAny _ _ _ _ _ _
      refine wpAny_execs_cons (wpAny_Return_some (wpAny_Constant_bool ?_))
      exact hQ _ _ <| X10.done ⟨false, rfl, fun h => (by cases h), fun h => absurd h hr⟩
    · rw [if_pos (by simp)]
      obtain ⟨us', u, rfl, hws', hxu⟩ := hws.unsnoc
      have hu40 := (hus u (by simp)).1
      -- for late in variables(waiting.pop())
      refine wpAny_execs_cons (wpAny_For (e_call X10 G5 rfl (by decide) (args_cons (MethodCall_ (e_loc X10 hm.2.2.1 (m_list (i := 1) (xs := ws' ++ [x]) PySem.F.slot_list_pop (by with_unfolding_all rfl) X10 rfl (callWith_method0 ?_)))))))
      refine c_pop (i := 1) X10 rfl (by simp at hwl; lia) fun s11 X11 => args_nil ⟨X11.st.kT, use_spec X11 (variables_spec u (by lia) G5 X11.st.kT hxu) (r.mono (by have := u.depth_le; lia)) fun pr s12 T6 X12 k6 hpost => ?_⟩
      obtain ⟨pl, ps, ss, rfl, hpl, hps, hss, hpz⟩ := hpost
      have hpl' : T6.PlainList pl ps.toArray := hpl
      have G6 := G5.keeps k6
      have hlen2 : ss.length = ps.length := by rw [← hps.strs, List.length_map]
      refine iter_list X12 hpl.isList fun I s13 X13 => ?_
      refine loop_for (Iter.list hpl.isList) r.hh
        (WFor w σ name tk tb sd wl t u ss ((ws' ++ [x]).length + (σ.length - ks.length)))
        ?_ ?_ ?_ (Ev.refl _) X13 ?_
      · rintro i T7 T8 m own k ⟨ws, us, ks', a1, a2, a3, a4, a5, a6, a7, a8, a9⟩
        exact ⟨ws, us, ks', a1, a2, a3.mono fun _ _ h => h.ev k, a4, a5, a6, a7, a8, a9⟩
      · rintro i T7 m own s14 v E'' hi k7 X14 hpv ⟨ws, us, ks', rfl, hm', hws2, hus2, hks2, hall2, hwl2, hmeas, hpre⟩ Q2 hn2 hr2
        have hpv' : ps[i]? = some v := hpv
        obtain ⟨late, tl, rfl⟩ := hps.all v (List.mem_of_getElem? hpv')
        have hsi : ss[i]? = some late := by rw [← hps.strs, List.getElem?_map, hpv']; rfl
        have hlv : late ∈ u.vars := (hss late).mp (List.mem_of_getElem? hsi)
        have G7 := G6.keeps k7
        have D14 : Dct w s14.heap tb kvs := D.keeps X14.st.kS
        have hσ7 : TabIn T7 kvs σ := ((((hσ.ev k4).ev k5).ev k6).ev k7)
        have hpre1 : ∀ ks'' : List Str, (∀ y ∈ ks'.map (·.1), y ∈ ks'') → late ≠ name → ((lookT σ late).isSome = true → late ∈ ks'') → ∀ z ∈ ss.take (i + 1), z ≠ name ∧ ((lookT σ z).isSome = true → z ∈ ks'') := by
          intro ks'' hsub h1 h2 z hz
          rw [List.take_add_one, hsi] at hz
          rcases List.mem_append.mp hz with hz | hz
          · exact ⟨(hpre z hz).1, fun h => hsub _ ((hpre z hz).2 h)⟩
          · have : z = late := by simpa using hz
            subst this; exact ⟨h1, h2⟩
        refine wpAny_assign_Name (s_loc X14 fun s15 X15 => ?_)
        refine x_cons (fun Qα nα rα cα => wpAny_If (wpAny_isTrue_Compare1 (e_loc X15 rfl (e_loc X15 hm'.1 (eq_str (wpAny_truthy_bool ?_))))))
        by_cases hln : late = name
        · rw [if_pos (by simpa using hln)]
          refine wpAny_execs_cons (wpAny_Return_some (wpAny_Constant_bool ?_))
          refine rα _ _ <| hr2 _ _ <| hr _ _ <| hQ _ _ <| X15.done (Post := Post) ⟨true, rfl, fun _ => ?_, fun _ => rfl⟩
          exact (hus u (by simp)).2 _ (.here (hln ▸ hlv))
        · rw [if_neg (by simpa using hln)]
          refine wpAny_execs_nil (nα _ ?_)
          have D15 : Dct w s15.heap tb kvs := D.keeps X15.st.kS
          refine x_cons (fun Qα nα rα cα => wpAny_If (isTrue_and (wpAny_isTrue_Compare1 (e_loc X15 rfl (e_loc X15 hm'.2.1 (x_in D15 fun s16 u16 => wpAny_truthy_bool ?_))))))
          have X16 := X15.up u16
          rcases hσ7.at late with ⟨n1, n2⟩ | ⟨x', t', n1, n2, hx'⟩
          · rw [n1, if_neg (by simp), if_neg (by simp)]
            refine wpAny_execs_nil (nα _ <| wpAny_execs_nil (hn2 _ ⟨T7, _, _, Ev.refl _, X16, ws, us, ks', rfl, hm', hws2, hus2, hks2, hall2, hwl2, hmeas, hpre1 _ (fun _ h => h) hln fun h => ?_⟩).1)
            rw [n2] at h; cases h
          · rw [n1, if_pos (by rfl)]
            have Dk16 := X16.dct G7 (i := 1) rfl
            refine isTrue_and (wpAny_isTrue_Compare1 (e_loc X16 rfl (e_loc X16 hm'.2.2.2 (x_notin Dk16 fun s17 u17 => wpAny_truthy_bool ?_))))
            have X17 := X16.up u17
            cases hvk : valueAt ks' late with
            | some y =>
              rw [if_neg (by simp), if_neg (by simp)]
              refine wpAny_execs_nil (nα _ <| wpAny_execs_nil (hn2 _ ⟨T7, _, _, Ev.refl _, X17, ws, us, ks', rfl, hm', hws2, hus2, hks2, hall2, hwl2, hmeas, hpre1 _ (fun _ h => h) hln fun h => ?_⟩).1)
              exact valueAt_mem.mp (by rw [hvk]; rfl)
            | none =>
              rw [if_pos (by rfl)]
              refine isTrue_and_nil ?_
              rw [if_pos rfl]
              have hkl2 : ks'.length ≤ σ.length := by
                have := nodup_len Dk16.nodup hks2
                simpa using this
              refine x_cons (fun Qβ nβ rβ cβ => x_sub (wpAny_Constant_bool (e_loc X17 hm'.2.2.2 (e_loc X17 rfl (X17.setD (i := 1) rfl (by lia) fun s18 X18 => ?_)))))
              rw [stored_keys hvk] at X18
              have X18' : Fx Sh T s T7 Lo _ [(I, LIterO pl (i + 1)), (sd, DctO w (ks' ++ [(late, Value.bool true)])), (wl, LstO ws)] s18 := X18
              have Dk18 := X18'.dct G7 (i := 1) rfl
              have hks3 : ∀ y ∈ (ks' ++ [(late, Value.bool true)]).map (·.1), y ∈ σ.map (·.1) := fun y hy => by
                rw [List.map_append] at hy
                rcases List.mem_append.mp hy with hy | hy
                · exact hks2 y hy
                · have : y = late := by simpa using hy
                  subst this
                  exact lookT_some.mp (by rw [n2]; rfl)
              have hkl3 : ks'.length + 1 ≤ σ.length := by
                have := nodup_len Dk18.nodup hks3
                simpa using this
              refine nβ _ <| x_cons (fun Qβ nβ rβ cβ => wpAny_Expr (MethodCall_ (e_loc X18' hm'.2.2.1 (m_list (i := 2) (xs := ws) PySem.F.slot_list_append (by with_unfolding_all rfl) X18' rfl (callWith_method1 (args_cons (e_dsub (e_loc X18' hm'.2.1 (e_loc X18' rfl
                ⟨tb, kvs, late, tl, x', rfl, rfl, D.keeps X18'.st.kS, n1, fun s19 u19 => args_nil (c_append (i := 2) (X18'.up u19) rfl (by lia) fun s20 X20 => ?_)⟩)))))))))
              refine nβ _ <| wpAny_execs_nil (nα _ <| wpAny_execs_nil (hn2 _ ⟨T7, _, [(sd, DctO w (ks' ++ [(late, Value.bool true)])), (wl, LstO (ws ++ [x']))], Ev.refl _, X20, ws ++ [x'], us ++ [t'], _, rfl, hm', hws2.snoc hx', ?_, hks3, ?_, by simp; lia, by simp at hmeas ⊢; lia, ?_⟩).1)
              · intro v hv
                rcases List.mem_append.mp hv with hv | hv
                · exact hus2 v hv
                · have : v = t' := by simpa using hv
                  subst this
                  exact ⟨hsσ _ (lookT_mem n2), fun x hx => (hus u (by simp)).2 x (.step hlv n2 hx)⟩
              · intro v hv
                have mono : ∀ z ∈ ks'.map (·.1), z ∈ (ks' ++ [(late, Value.bool true)]).map (·.1) := fun z hz => by rw [List.map_append]; exact List.mem_append_left _ hz
                have old : (v = t ∨ ∃ y ∈ ks'.map (·.1), lookT σ y = some v) → v ∈ us ++ [t'] ∨ Proc σ name ((ks' ++ [(late, Value.bool true)]).map (·.1)) v ∨ v = u := fun h => by
                  rcases hall2 v h with h | h | h
                  · exact .inl (List.mem_append_left _ h)
                  · exact .inr (.inl (h.mono mono))
                  · exact .inr (.inr h)
                rcases hv with rfl | ⟨y, hy, hl⟩
                · exact old (.inl rfl)
                · rw [List.map_append] at hy
                  rcases List.mem_append.mp hy with hy | hy
                  · exact old (.inr ⟨y, hy, hl⟩)
                  · have : y = late := by simpa using hy
                    subst this
                    rw [n2] at hl; cases hl
                    exact .inl (by simp)
              · refine hpre1 _ (fun z hz => by rw [List.map_append]; exact List.mem_append_left _ hz) hln fun _ => by simp
      · rintro T7 m own s14 k7 X14 ⟨ws, us, ks', rfl, hm', hws2, hus2, hks2, hall2, hwl2, hmeas, hpre⟩
        rw [List.take_of_length_le (by lia)] at hpre
        show wpAny _ _ _ _ _ _
        refine wpAny_execs_nil (hn _ ⟨_, T7, m, _, by simp at hmeas ⊢; lia, k6.trans k7, X14, ws, us, ks', rfl, hm', hws2, hus2, hks2, fun v hv => ?_, by lia, rfl⟩).1
        rcases hall2 v hv with h | h | rfl
        · exact .inl h
        · exact .inr h
        · refine .inr ⟨fun h => (hpre _ ((hss _).mpr h)).1 rfl, fun z hz hs => (hpre z ((hss z).mpr hz)).2 hs⟩
      · refine ⟨ws', us', ks, rfl, hm, hws'.mono fun _ _ h => h.ev k6, fun v hv => hus v (List.mem_append_left _ hv), hks, fun v hv => ?_, by simpa using hwl, by simp, fun z hz => by simp at hz⟩
        rcases hall v hv with h | h
        · rcases List.mem_append.mp h with h | h
          · exact .inl h
          · exact .inr (.inr (by simpa using h))
        · exact .inr (.inl h)
end Mine
end

section
open PySem PySem.W PySem.Calls PyProof.Rows
set_option maxRecDepth 100000
namespace Mine

/-! terms as data -/
noncomputable def dataL : Tm → List PyData
  | .leaf s => [.str s]
  | .app t a => dataL t ++ [.tuple (dataL a)]
noncomputable def dataOf (t : Tm) : PyData := .tuple (dataL t)
theorem dataL_eq (t : Tm) : dataL t = .str t.op :: t.kids.map dataOf := by
  induction t with
  | leaf => rfl
  | app t a ih _ => rw [dataL, ih, Tm.kids, List.map_append]; rfl
theorem dataOf_eq (t : Tm) : dataOf t = .tuple (.str t.op :: t.kids.map dataOf) := congrArg _ (dataL_eq t)
theorem dataOf_inj (t : Tm) : ∀ u, dataOf t = dataOf u → t = u := by
  induction t using Tm.ind with
  | h t ih =>
  intro u h
  rw [dataOf_eq t, dataOf_eq u] at h
  injection h with h
  injection h with h1 h2
  injection h1 with h1
  refine Tm.ext_kids h1 ?_
  generalize t.kids = l at ih h2
  generalize u.kids = r at h2
  clear h1
  induction l generalizing r with
  | nil => cases r with
    | nil => rfl
    | cons b r => cases h2
  | cons a l ihl =>
    cases r with
    | nil => cases h2
    | cons b r =>
      rw [List.map_cons, List.map_cons] at h2
      injection h2 with h3 h4
      rw [ih a (by simp) b h3, ihl (fun k hk => ih k (by simp [hk])) r h4]
theorem eqv_data (t : Tm) : ∀ u, PyData.eqv (dataOf t) (dataOf u) = decide (t = u) := by
  induction t using Tm.ind with
  | h t ih =>
  intro u
  rw [dataOf_eq t, dataOf_eq u]
  simp only [PyData.eqv, PyData.eqvAll]
  have key : ∀ (l r : List Tm), (∀ k ∈ l, ∀ u, PyData.eqv (dataOf k) (dataOf u) = decide (k = u)) → PyData.eqvAll (l.map dataOf) (r.map dataOf) = decide (l = r) := by
    intro l
    induction l with
    | nil => intro r _; cases r <;> simp [PyData.eqvAll]
    | cons a l ihl =>
      intro r hl
      cases r with
      | nil => simp [PyData.eqvAll]
      | cons b r =>
        simp only [List.map_cons, PyData.eqvAll]
        rw [hl a (by simp) b, ihl r fun k hk => hl k (by simp [hk])]
        by_cases h1 : a = b <;> by_cases h2 : l = r <;> simp [h1, h2]
  rw [key _ _ ih]
  rw [Bool.eq_iff_iff, Bool.and_eq_true, beq_iff_eq, decide_eq_true_iff, decide_eq_true_iff]
  exact ⟨fun h => Tm.ext_kids h.1 h.2, fun h => by rw [h]; exact ⟨rfl, rfl⟩⟩
theorem reads_tm {h : Heap} {t : Tm} : ∀ {v : Value}, TmIn h t v → Reads h v (dataOf t) [] := by
  induction t using Tm.ind with
  | h t ih =>
  intro v hv
  obtain ⟨_, p, tk, xs, rfl, ⟨o, ho, hc, m, hd⟩, hk⟩ := hv.view
  rw [dataOf_eq]
  refine .tuple ho hc hd (.cons (as := []) (bs := []) (.str _ _) ?_)
  clear hd hv
  generalize t.kids = l at ih hk
  induction hk with
  | nil => exact .nil
  | cons hx _ ihl => exact .cons (as := []) (bs := []) (ih _ List.mem_cons_self hx) (ihl fun k hk => ih k (List.mem_cons_of_mem _ hk))
theorem tm_canLay {h : Heap} {t : Tm} : ∀ {v : Value}, TmIn h t v → (dataOf t).canLay0 = true := by
  induction t using Tm.ind with
  | h t ih =>
  intro v hv
  obtain ⟨ho, a, tk, xs, rfl, ht, hk⟩ := hv.view
  rw [dataOf_eq]
  simp only [PyData.canLay0, PyData.canLayAll0, Bool.and_eq_true]
  refine ⟨ho.2, ?_⟩
  have : ∀ (l : List Tm), (∀ k ∈ l, k ∈ t.kids) → PyData.canLayAll0 (l.map dataOf) = true := by
    intro l
    induction l with
    | nil => intro _; rfl
    | cons k l ihl =>
      intro hl
      simp only [List.map_cons, PyData.canLayAll0, Bool.and_eq_true]
      refine ⟨?_, ihl fun k hk => hl k (by simp [hk])⟩
      have hm := hl k (by simp)
      obtain ⟨i, hi, e⟩ := List.mem_iff_getElem.mp hm
      have hi' : i < xs.length := by rw [hk.length]; exact hi
      obtain ⟨b, hb, hxb⟩ := hk.get (List.getElem?_eq_getElem hi')
      rw [List.getElem?_eq_getElem hi, e] at hb
      cases hb
      exact ih k hm hxb
  exact this t.kids fun _ h => h
theorem dataAll_depth : ∀ {l : List PyData} {n : Nat}, (∀ d ∈ l, d.depth ≤ n) → PyData.depthAll l ≤ n
  | [], _, _ => Nat.zero_le _
  | _ :: _, _, h => Nat.max_le.mpr ⟨h _ List.mem_cons_self, dataAll_depth fun d hd => h d (List.mem_cons_of_mem _ hd)⟩
theorem data_depth (t : Tm) : (dataOf t).depth ≤ t.depth := by
  induction t using Tm.ind with
  | h t ih =>
  rw [dataOf_eq]
  obtain ⟨n, hn⟩ : ∃ n, t.depth = n + 1 := ⟨t.depth - 1, by have := t.depth_pos; lia⟩
  rw [hn]
  refine Nat.succ_le_succ (dataAll_depth fun d hd => ?_)
  rcases List.mem_cons.mp hd with rfl | hd
  · exact Nat.zero_le _
  · obtain ⟨k, hk, rfl⟩ := List.mem_map.mp hd
    exact Nat.le_of_succ_le_succ (Nat.le_trans (Nat.succ_le_succ (ih k hk)) (Nat.le_trans (Tm.depth_kid hk) (Nat.le_of_eq hn)))
theorem tmIn_inj {h : Heap} {t u : Tm} {v : Value} (a : TmIn h t v) (b : TmIn h u v) : t = u := dataOf_inj _ _ (SeqAt.Reads.unique _ _ _ _ _ (tm_canLay a) (reads_tm a) (reads_tm b))

/-! hashes -/
noncomputable def hashL (w : World) : Tm → List Int
  | .leaf s => [hashStr w s]
  | .app t a => hashL w t ++ [reduceHash (Builtin.Tuple.tupleHashOf (hashL w a))]
noncomputable def hashT (w : World) (t : Tm) : Int := reduceHash (Builtin.Tuple.tupleHashOf (hashL w t))
noncomputable def drawsL : Tm → List Nat
  | .leaf _ => [1]
  | .app t a => drawsL t ++ [(drawsL a).sum + 1]
noncomputable def drawsT (t : Tm) : Nat := (drawsL t).sum + 1
theorem hashL_eq (w : World) (t : Tm) : hashL w t = hashStr w t.op :: t.kids.map (hashT w) := by
  induction t with
  | leaf => rfl
  | app t a ih _ => rw [hashL, ih, Tm.kids, List.map_append]; rfl
theorem drawsL_eq (t : Tm) : drawsL t = 1 :: t.kids.map drawsT := by
  induction t with
  | leaf => rfl
  | app t a ih _ => rw [drawsL, ih, Tm.kids, List.map_append]; rfl
theorem hashT_eq (w : World) (t : Tm) : hashT w t = reduceHash (Builtin.Tuple.tupleHashOf (hashStr w t.op :: t.kids.map (hashT w))) := by rw [hashT, hashL_eq]
theorem drawsT_eq (t : Tm) : drawsT t = (1 :: t.kids.map drawsT).sum + 1 := by rw [drawsT, drawsL_eq]

noncomputable def HashIs (w : World) (A : Around) (E : Value → Shared → Prop) (s : Shared) (v : Value) (p : Int × Nat) : Prop :=
  ∀ (s' : Shared) (Q' : Int → Shared → Prop), s'.heap = s.heap → Q' p.1 { s' with toks := s'.toks + p.2 } → wpAny (model PR w) A (pyHash v) Q' E s'
section
variable {w : World}
/-- a tuple's hash, its items' given -/
theorem hash_tuple {A : Around} {E : Value → Shared → Prop} {s : Shared} {a : Addr} {vs : List Value} {hs : List Int} {ds : List Nat} {Q : Int → Shared → Prop} (hu : A.units < cLine) (ht : IsTup s.heap a vs.toArray)
    (hi : All2 (HashIs w A.in1 E s) vs (hs.zip ds)) (hl : hs.length = ds.length)
    (h : Q (reduceHash (Builtin.Tuple.tupleHashOf hs)) { s with toks := s.toks + (ds.sum + 1) }) :
    wpAny (model PR w) A (pyHash (.ref a)) Q E s := by
  obtain ⟨o, ho, hc, n, hd⟩ := ht
  have hT : s.TypeIs (.ref a) "tuple" := ⟨o, ho, hc⟩
  unfold pyHash
  first | unfold pyHashByItsType | skip
  first | refine wpAny_bind (wpAny_cRoomFor_or (.inr hu) ?_) | skip
  refine wpAny_bind (wpAny_specialOf hT F.slot_tuple_hash.lookup ?_)
  show wpAny _ _ (if (some (Value.builtin "tuple.__hash__") == some Value.none) = true then _ else _) Q E s
  rw [if_neg (by rw [beq_builtin_none]; exact Bool.false_ne_true)]
  refine wpAny_bind (wpAny_specialOf hT F.slot_tuple_hash.lookup ?_)
  show wpAny _ _ (callSpecialIfBoundUnlessNone? (.ref a) "__hash__" _ >>= _) Q E s
  refine wpAny_bind (wpAny_callSpecialIfBoundUnlessNone?_slot hT F.slot_tuple_hash (wpAny_call_entry F.slot_tuple_hash hT F.entry_tuple_hash ?_ (F.args_tuple_hash_1 _)))
  show wpAny _ _ (Builtin.Tuple.tupleItemsOf (.ref a) >>= _) _ _ s
  refine wpAny_bind (wpAny_tupleItemsOf ho hd ?_)
  refine wpAny_bind ?_
  rw [← Array.forIn_toList]
  refine wpAny_forIn_list _
    (fun rest (b : Array Int) s' => ∃ (dn : List (Int × Nat)) (lf : List (Int × Nat)), hs.zip ds = dn ++ lf ∧ All2 (HashIs w A.in1 E s) rest lf ∧ b.toList = (dn.map fun (p : Int × Nat) => p.1) ∧ s' = { s with toks := s.toks + (dn.map fun (p : Int × Nat) => p.2).sum })
    _ ?_ ?_ _ _ ⟨[], hs.zip ds, rfl, hi, rfl, by simp⟩
  · rintro x rest b s' ⟨dn, lf, e, hl', hb, rfl⟩
    cases hl' with
    | @cons _ p _ r h1 h2 =>
      refine wpAny_bind (h1 _ _ rfl ?_)
      have fin : ∀ s2, s2 = { s with toks := s.toks + (dn.map fun (p : Int × Nat) => p.2).sum + p.2 } → ∃ (dn' : List (Int × Nat)) (lf' : List (Int × Nat)), hs.zip ds = dn' ++ lf' ∧ All2 (HashIs w A.in1 E s) rest lf' ∧ (b.push p.1).toList = (dn'.map fun (p : Int × Nat) => p.1) ∧ s2 = { s with toks := s.toks + (dn'.map fun (p : Int × Nat) => p.2).sum } :=
        fun s2 e2 => ⟨dn ++ [p], r, by rw [e]; simp, h2, by simp [hb], by rw [e2]; simp [Nat.add_assoc]⟩
      first
        | exact wpAny_pure (fin _ rfl)
        | exact wpAny_bind (wpAny_pure (wpAny_pure (fin _ rfl)))
  · rintro b s' ⟨dn, lf, e, hl', hb, rfl⟩
    cases hl'
    rw [List.append_nil] at e
    have e1 : (dn.map fun (p : Int × Nat) => p.1) = hs := by rw [← e, List.map_fst_zip (by lia)]
    have e2 : (dn.map fun (p : Int × Nat) => p.2) = ds := by rw [← e, List.map_snd_zip (by lia)]
    rw [e1] at hb
    rw [e2]
    show wpAny _ _ (retInt (Builtin.Tuple.tupleHashOf b.toList)) _ _ _
    rw [hb]
    refine wpAny_ret_mkInt ?_
    show wpAny _ _ (if (decide (-(2 : Int) ^ 63 ≤ Builtin.Tuple.tupleHashOf hs) && decide (Builtin.Tuple.tupleHashOf hs < 2 ^ 63)) = true then _ else _) Q E _
    unfold reduceHash at h
    by_cases hr : (decide (-(2 : Int) ^ 63 ≤ Builtin.Tuple.tupleHashOf hs) && decide (Builtin.Tuple.tupleHashOf hs < 2 ^ 63)) = true
    · rw [if_pos hr]
      rw [if_pos hr] at h
      exact wpAny_pure (by simpa [Nat.add_assoc] using h)
    · rw [if_neg hr]
      rw [if_neg hr] at h
      exact wpAny_bind (wpAny_rule (wpAny_pure (by simpa [Nat.add_assoc] using h)))

theorem hash_tm (t : Tm) : ∀ {A : Around} {E : Value → Shared → Prop} {s : Shared} {v : Value} {Q : Int → Shared → Prop}, A.units + t.depth < cLine → TmIn s.heap t v → Q (hashT w t) { s with toks := s.toks + drawsT t } → wpAny (model PR w) A (pyHash v) Q E s := by
  induction t using Tm.ind with
  | h t ih =>
  intro A E s v Q hu hv hq
  obtain ⟨ho, a, tk, xs, rfl, ht, hk⟩ := hv.view
  refine hash_tuple (hs := hashStr w t.op :: t.kids.map (hashT w)) (ds := 1 :: t.kids.map drawsT) (by lia) ht ?_ (by simp) (by rw [hashT_eq, drawsT_eq] at hq; exact hq)
  refine .cons (fun s' Q' _ h => wpAny_pyHash_str h) ?_
  have : ∀ (l : List Tm) (xs : List Value), (∀ k ∈ l, k ∈ t.kids) → All2 (fun x k => TmIn s.heap k x) xs l → All2 (HashIs w A.in1 E s) xs ((l.map (hashT w)).zip (l.map drawsT)) := by
    intro l xs hl h
    induction h with
    | nil => exact .nil
    | @cons x k xs l hx _ ihl =>
      refine .cons (fun s' Q' e h => ?_) (ihl fun k hk => hl k (by simp [hk]))
      have hm := hl k (by simp)
      exact ih k hm (by have := Tm.depth_kid hm; show A.units + 1 + k.depth < cLine; lia) (by rw [e]; exact hx) h
  exact this t.kids xs (fun _ h => h) hk

theorem quiet_tm (t : Tm) : ∀ {A : Around} {E : Value → Shared → Prop} {s : Shared} {v : Value} {Q : Bool → Shared → Prop} (n : Nat), t.depth ≤ n → TmIn s.heap t v → Q true s → wpAny (model PR w) A (eqIsQuiet n v) Q E s := by
  induction t using Tm.ind with
  | h t ih =>
  intro A E s v Q n hn hv hq
  obtain ⟨_, a, tk, xs, rfl, ht, hk⟩ := hv.view
  obtain ⟨o, ho, hc, m, hd⟩ := ht
  have hT : s.TypeIs (.ref a) "tuple" := ⟨o, ho, hc⟩
  have h1 := t.depth_pos
  obtain ⟨n, rfl⟩ : ∃ n', n = n' + 1 := ⟨n - 1, by lia⟩
  unfold eqIsQuiet
  refine wpAny_bind (wpAny_specialOf hT F.slot_tuple_eq.lookup ?_)
  show wpAny _ _ (isInstance (.ref a) (.type "tuple") >>= _) _ _ s
  refine wpAny_bind (wpAny_isInstance hT isSubtype_tuple_tuple ?_)
  simp only [Bool.not_true, Bool.false_eq_true, if_false]
  refine wpAny_bind (wpAny_seqItems ho hd ?_)
  refine wpAny_bind ?_
  show wpAny _ _ (forIn (Value.str t.op tk :: xs).toArray _ _) _ _ s
  rw [← Array.forIn_toList]
  refine wpAny_forIn_list _ (fun rest r s' => r.1 = none ∧ s' = s ∧ ∀ v ∈ rest, (∃ x t, v = .str x t) ∨ ∃ k ∈ t.kids, TmIn s.heap k v) _ ?_ ?_ _ _ ⟨rfl, rfl, fun v hv => ?_⟩
  · rintro v rest r s' ⟨hr, rfl, hall⟩
    have next : wpAny (model PR w) A (eqIsQuiet n v) (fun b s'' => b = true ∧ s'' = s') E s' := by
      rcases hall v List.mem_cons_self with ⟨x, t, rfl⟩ | ⟨k, hk', hx⟩
      · rw [eqIsQuiet_byValue _ rfl]; exact wpAny_pure ⟨rfl, rfl⟩
      · exact ih k hk' n (by have := Tm.depth_kid hk'; lia) hx ⟨rfl, rfl⟩
    refine wpAny_bind (wpAny_mono next (fun b s'' e => ?_) fun _ _ x => x)
    obtain ⟨rfl, rfl⟩ := e
    simp only [Bool.not_true, Bool.false_eq_true, if_false]
    exact wpAny_pure ⟨rfl, rfl, fun u hu' => hall u (List.mem_cons_of_mem _ hu')⟩
  · rintro ⟨r1, r2⟩ s' ⟨hr, rfl, _⟩
    simp only at hr
    subst hr
    exact wpAny_pure hq
  · rcases List.mem_cons.mp hv with rfl | hv
    · exact .inl ⟨_, _, rfl⟩
    · obtain ⟨i, hi⟩ := List.mem_iff_getElem?.mp hv
      obtain ⟨k, hk', hx⟩ := hk.get hi
      exact .inr ⟨k, List.mem_of_getElem? hk', hx⟩
end
end Mine
end

section
open PySem PySem.W PySem.Calls PyProof.Rows
set_option maxRecDepth 100000
namespace Mine

theorem isTup_inj {h : Heap} {a : Addr} {xs ys : Array Value} (x : IsTup h a xs) (y : IsTup h a ys) : xs = ys := by
  obtain ⟨o, ho, _, n, hd⟩ := x
  obtain ⟨o', ho', _, n', hd'⟩ := y
  rw [ho] at ho'; cases ho'
  rw [hd] at hd'
  injection hd'

noncomputable def IsPair (h : Heap) (p : Tm × Tm) (a : Addr) : Prop := p.1.depth ≤ 6 ∧ p.2.depth ≤ 6 ∧ ∃ x y, IsTup h a #[x, y] ∧ TmIn h p.1 x ∧ TmIn h p.2 y
theorem IsPair.map {h h' : Heap} {p : Tm × Tm} {a : Addr} (k : ∀ a xs, IsTup h a xs → IsTup h' a xs) (x : IsPair h p a) : IsPair h' p a :=
  by
  obtain ⟨d1, d2, u, v, i, j, l⟩ := x
  exact ⟨d1, d2, u, v, k _ _ i, j.map k, l.map k⟩
theorem IsPair.ev {h h' : Heap} (k : Ev h h') {p : Tm × Tm} {a : Addr} (x : IsPair h p a) : IsPair h' p a := x.map fun _ _ i => i.keeps k
noncomputable def dataP (p : Tm × Tm) : PyData := .tuple [dataOf p.1, dataOf p.2]
theorem IsPair.reads {h : Heap} {p : Tm × Tm} {a : Addr} (x : IsPair h p a) : Reads h (.ref a) (dataP p) [] := by
  obtain ⟨_, _, u, v, ⟨o, ho, hc, n, hd⟩, j, l⟩ := x
  exact .tuple ho hc hd (.cons (as := []) (bs := []) (reads_tm j) (.cons (as := []) (bs := []) (reads_tm l) .nil))
theorem IsPair.lay {h : Heap} {p : Tm × Tm} {a : Addr} (x : IsPair h p a) : (dataP p).canLay0 = true := by
  obtain ⟨_, _, u, v, _, j, l⟩ := x
  simp only [dataP, PyData.canLay0, PyData.canLayAll0, Bool.and_eq_true]
  exact ⟨tm_canLay j, tm_canLay l, trivial⟩
theorem eqv_pair (p q : Tm × Tm) : PyData.eqv (dataP p) (dataP q) = decide (p = q) := by
  obtain ⟨a, b⟩ := p
  obtain ⟨c, d⟩ := q
  simp only [dataP, PyData.eqv, PyData.eqvAll, eqv_data, Bool.and_true]
  by_cases h1 : a = c <;> by_cases h2 : b = d <;> simp [h1, h2]

noncomputable def pairKind (w : World) : HeapKind PR w (Tm × Tm) where
  is := IsPair
  hash := fun p => reduceHash (Builtin.Tuple.tupleHashOf [hashT w p.1, hashT w p.2])
  draws := fun p => [drawsT p.1, drawsT p.2].sum + 1
  room := fun A => A.units + 12 < cLine
  inj := fun {h a x y} hx hy => by
    obtain ⟨_, _, u, v, i, j, l⟩ := hx
    obtain ⟨_, _, u', v', i', j', l'⟩ := hy
    have e := isTup_inj i i'
    simp only [Array.mk.injEq, List.cons.injEq, and_true] at e
    obtain ⟨rfl, rfl⟩ := e
    exact Prod.ext (tmIn_inj j j') (tmIn_inj l l')
  keeps := fun x ho hd hs => x.map fun a xs ⟨o', ho', hc, n, hd'⟩ => ⟨o', (hs.2 a (fun e => by
    subst e; rw [ho] at ho'; cases ho'; rw [hd] at hd'; cases hd')).trans ho', hc, n, hd'⟩
  pyHash := fun {A E s k a Q} hu hk h => by
    obtain ⟨d1, d2, u, v, i, j, l⟩ := hk
    refine hash_tuple (vs := [u, v]) (hs := [hashT w k.1, hashT w k.2]) (ds := [drawsT k.1, drawsT k.2]) (by lia) i ?_ rfl h
    exact .cons (fun s' Q' e h => hash_tm k.1 (by show A.units + 1 + k.1.depth < cLine; lia) (by rw [e]; exact j) h) (.cons (fun s' Q' e h => hash_tm k.2 (by show A.units + 1 + k.2.depth < cLine; lia) (by rw [e]; exact l) h) .nil)
  eqBool := fun {A E s x y a b Q} hu hx hy h => by
    refine SeqAt.eqAt_reads (dataP x) (dataP y) A s (.ref a) (.ref b) [] [] hx.reads hy.reads hx.lay hy.lay ?_ PR w E Q (by rw [eqv_pair]; exact h)
    have h1 := data_depth x.1
    have h2 := data_depth x.2
    have h3 := hx.1
    have h4 := hx.2.1
    simp only [dataP, PyData.depth, PyData.depthAll]
    lia
  quiet := fun {A E s k a Q} hk h => by
    obtain ⟨d1, d2, u, v, ⟨o, ho, hc, m, hd⟩, j, l⟩ := hk
    have hT : s.TypeIs (.ref a) "tuple" := ⟨o, ho, hc⟩
    unfold eqIsQuiet
    refine wpAny_bind (wpAny_specialOf hT F.slot_tuple_eq.lookup ?_)
    show wpAny _ _ (isInstance (.ref a) (.type "tuple") >>= _) _ _ s
    refine wpAny_bind (wpAny_isInstance hT isSubtype_tuple_tuple ?_)
    simp only [Bool.not_true, Bool.false_eq_true, if_false]
    refine wpAny_bind (wpAny_seqItems ho hd ?_)
    refine wpAny_bind ?_
    show wpAny _ _ (forIn #[u, v] _ _) _ _ s
    rw [← Array.forIn_toList]
    refine wpAny_forIn_list _ (fun rest r s' => r.1 = none ∧ s' = s ∧ ∀ x ∈ rest, x = u ∨ x = v) _ ?_ ?_ _ _ ⟨rfl, rfl, fun x hx => by simpa using hx⟩
    · rintro x rest r s' ⟨hr, rfl, hall⟩
      have next : wpAny (model PR w) A (eqIsQuiet 7 x) (fun b s'' => b = true ∧ s'' = s') E s' := by
        rcases hall x List.mem_cons_self with rfl | rfl
        · exact quiet_tm k.1 7 (by lia) j ⟨rfl, rfl⟩
        · exact quiet_tm k.2 7 (by lia) l ⟨rfl, rfl⟩
      refine wpAny_bind (wpAny_mono next (fun b s'' e => ?_) fun _ _ x => x)
      obtain ⟨rfl, rfl⟩ := e
      simp only [Bool.not_true, Bool.false_eq_true, if_false]
      exact wpAny_pure ⟨rfl, rfl, fun u hu' => hall u (List.mem_cons_of_mem _ hu')⟩
    · rintro ⟨r1, r2⟩ s' ⟨hr, rfl, _⟩
      simp only at hr
      subst hr
      exact wpAny_pure h

/-- a dict of pairs, its keys frozen -/
noncomputable def SeenO (w : World) (xs : List ((Tm × Tm) × Addr × Value)) (o : Obj) : Prop := ∃ es ep, o.ExactDict ∧ o.data = .dict es ep ∧ es.toList = xs.map (entryOfKey (pairKind w)) ∧ (xs.map (·.1)).Nodup
noncomputable def KeysIn (T : Heap) (xs : List ((Tm × Tm) × Addr × Value)) : Prop := ∀ x ∈ xs, IsPair T x.1 x.2.1

section
variable {w : World} {A : Around} {E : Value → Shared → Prop} {S T₀ T : Heap} {s₀ s : Shared} {L : Addr} {m : Str → Option Value} {own : Own} {env : Env} {Q : Value → Shared → Prop} {pos : Pos}

theorem Fx.seen (X : Fx S T₀ s₀ T L m own s) (G : Gnd w T) {i : Nat} {a : Addr} {xs : List ((Tm × Tm) × Addr × Value)} (hi : own[i]? = some (a, SeenO w xs)) (hk : KeysIn T xs) : s.heap.DictOfH (pairKind w) a xs ∧ (a == sysModules) = false := by
  obtain ⟨o, ho, es, ep, h1, h2, h3, h4⟩ := X.st.at' (i := i + 1) hi
  refine ⟨⟨o, es, ep, ho, h1, h2, h3, fun x hx => (hk x hx).ev X.st.kT, h4⟩, ?_⟩
  have := X.st.fT _ (List.mem_of_getElem? (i := i + 1) hi)
  obtain ⟨o', ho'⟩ := G.sys
  cases h : (a == sysModules) with
  | false => rfl
  | true =>
    have e := beq_iff_eq.mp h
    subst e
    rw [ho'] at this; cases this

theorem x_inS {d a : Addr} {p : Tm × Tm} {xs : List ((Tm × Tm) × Addr × Value)} (D : s.heap.DictOfH (pairKind w) d xs ∧ (d == sysModules) = false) (hp : IsPair s.heap p a) (hu : A.units + 13 < cLine) (h : ∀ s', Up s s' → Q (.bool (atKey xs p).isSome) s') :
    wpAny (model PR w) A (compareOp .In (.ref a) (.ref d)) Q E s :=
  wpAny_in_heap (knd := pairKind w) (by show A.units + 1 + 12 < cLine; lia) hp D.2 D.1 (h _ Up.tk)

theorem Fx.setS (X : Fx S T₀ s₀ T L m own s) (G : Gnd w T) {i : Nat} {d a : Addr} {p : Tm × Tm} {xs : List ((Tm × Tm) × Addr × Value)} {v : Value} {Q : Unit → Shared → Prop} (hi : own[i]? = some (d, SeenO w xs)) (hk : KeysIn T xs) (hp : IsPair T p a) (hn : atKey xs p = none) (hu : A.units + 13 < cLine) (hz : xs.length ≤ 100000)
    (h : ∀ s', Fx S T₀ s₀ T L m (own.set i (d, SeenO w (xs ++ [(p, a, v)]))) s' → Q () s') : wpAny (model PR w) A (setItem (.ref d) (.ref a) v) Q E s := by
  have D := X.seen G hi hk
  refine wpAny_setItem_heap (knd := pairKind w) (by show A.units + 1 + 12 < cLine; lia) (hp.ev X.st.kT) D.1 (fun h' hd hs => h _ ?_) (by rw [sizeLine_eq]; lia)
  rw [storedH_new hn] at hd
  obtain ⟨o, es, ep, ho, h1, h2, h3, _, h4⟩ := hd
  exact ⟨X.st.set (i := i + 1) (P' := SeenO w (xs ++ [(p, a, v)])) hi hs.extBut ⟨o, ho, es, ep, h1, h2, h3, h4⟩, X.gr, X.sm⟩

theorem e_seen0 (X : Fx S T₀ s₀ T L m own s) (h : ∀ a s', Fx S T₀ s₀ T L m ((a, SeenO w []) :: own) s' → Q (.ref a) s') : wpAny (model PR w) A (eval (.Dict [] [] pos) env) Q E s := by
  refine wpAny_Dict_empty (h _ _ ⟨(X.st.alloc (P := SeenO w []) (o := { cls := .type "dict", data := .dict #[] }) ?_ rfl).swap, X.gr, X.sm⟩)
  exact ⟨#[], 0, ⟨rfl, rfl, rfl⟩, rfl, rfl, List.nodup_nil⟩

/-- terms compared -/
theorem x_neT {t u : Tm} {x y : Value} (ht : TmIn s.heap t x) (hu : TmIn s.heap u y) (hr : A.units + t.depth < cLine) (h : Q (.bool (!decide (t = u))) s) : wpAny (model PR w) A (compareOp .NotEq x y) Q E s := by
  refine SeqAt.compareNe_reads (reads_tm ht) (reads_tm hu) (tm_canLay ht) (tm_canLay hu) ?_ (by rw [eqv_data]; exact h)
  have := data_depth t
  lia
theorem x_eqT {t u : Tm} {x y : Value} (ht : TmIn s.heap t x) (hu : TmIn s.heap u y) (hr : A.units + t.depth < cLine) (h : Q (.bool (decide (t = u))) s) : wpAny (model PR w) A (compareOp .Eq x y) Q E s := by
  refine SeqAt.compareEq_reads (reads_tm ht) (reads_tm hu) (tm_canLay ht) (tm_canLay hu) ?_ (by rw [eqv_data]; exact h)
  have := data_depth t
  lia
end
end Mine
end

section
open PySem PySem.W PySem.Calls PyProof.Rows
set_option maxRecDepth 100000
namespace Mine

noncomputable def ZipO (f0 f1 : Value) (TI TO : Addr) (o : Obj) : Prop := o = { cls := .type "zip", dict := none, data := .fields #[f0, f1, .bool false, .ref TI, .ref TO], slots := #[] }
noncomputable def PrO (o : Obj) : Prop := ∃ a b n, o = { cls := .type "tuple", data := .seq #[a, b] n }

section
variable {w : World} {A : Around} {E : Value → Shared → Prop} {S T₀ T : Heap} {s₀ s : Shared} {L : Addr} {m : Str → Option Value} {own : Own}

/-- a field of a record of our own set -/
theorem Fx.setF (X : Fx S T₀ s₀ T L m own s) {i : Nat} {d : Addr} {c : Value} {fs : Array Value} {k : Nat} {v : Value} {Q : Unit → Shared → Prop} (hi : own[i]? = some (d, fun o => o = { cls := c, dict := none, data := .fields fs, slots := #[] })) (hk : k < fs.size)
    (h : ∀ s', Fx S T₀ s₀ T L m (own.set i (d, fun o => o = { cls := c, dict := none, data := .fields (fs.setIfInBounds k v), slots := #[] })) s' → Q () s') : wpAny (model PR w) A (setField (.ref d) k v) Q E s := by
  obtain ⟨o, ho, rfl⟩ := X.st.at' (i := i + 1) hi
  refine wpAny_setField_rec ho hk fun h' hz hs => h _ ⟨X.st.set (i := i + 1) (P' := fun o => o = { cls := c, dict := none, data := .fields (fs.setIfInBounds k v), slots := #[] }) hi hs.extBut ⟨_, hz, rfl⟩, X.gr, X.sm⟩

theorem Fx.nextTup (X : Fx S T₀ s₀ T L m own s) {i k : Nat} {it t : Addr} {xs : List Value} {x : Value} {Q : Value → Shared → Prop} (hi : own[i]? = some (it, TIterO t k)) (ht : IsTup T t xs.toArray) (hx : xs[k]? = some x)
    (h : ∀ s', Fx S T₀ s₀ T L m (own.set i (it, TIterO t (k + 1))) s' → Q x s') : wpAny (model PR w) A (Builtin.SmallTypes.nextOf (.ref it)) Q E s := by
  refine nextOf_tup_item (X.st.at' (i := i + 1) hi : IsTupIter s.heap it t k) (ht.keeps X.st.kT) (by simpa using hx) fun h' hit hs => h _ ⟨X.st.set (i := i + 1) (P' := TIterO t (k + 1)) hi hs.extBut hit, X.gr, X.sm⟩


/-- two of a pair kept by hand -/
noncomputable def PrX (a b : Value) (o : Obj) : Prop := ∃ n, o = { cls := .type "tuple", data := .seq #[a, b] n }
theorem Fx.setX (X : Fx S T₀ s₀ T L m own s) {i k : Nat} {d : Addr} {a b x : Value} {P : Obj → Prop} {Q : Unit → Shared → Prop} (hi : own[i]? = some (d, PrX a b)) (hP : ∀ n, P { cls := .type "tuple", data := .seq ((#[a, b] : Array Value).setIfInBounds k x) n })
    (h : ∀ s', Fx S T₀ s₀ T L m (own.set i (d, P)) s' → Q () s') : wpAny (model PR w) A (updateSeq d (·.setIfInBounds k x)) Q E s := by
  obtain ⟨o, ho, n, rfl⟩ := X.st.at' (i := i + 1) hi
  refine wpAny_updateSeq ho rfl (h _ ⟨X.st.set (i := i + 1) (P' := P) hi (Heap.SameBut.update ..).extBut ?_, X.gr, X.sm⟩) (by rw [sizeLine_eq]; simp) (by rw [sizeLine_eq]; simp)
  exact ⟨_, Heap.get?_update_self _ ho rfl, hP _⟩
theorem Fx.open1 (X : Fx S T₀ s₀ T L m own s) {i : Nat} {d : Addr} {P : Obj → Prop} (hi : own[i]? = some (d, P)) : ∃ o, s.heap.get? d = some o ∧ P o := X.st.at' (i := i + 1) hi
theorem Fx.pr (X : Fx S T₀ s₀ T L m own s) {i : Nat} {d : Addr} (hi : own[i]? = some (d, PrO)) : ∃ a b, Fx S T₀ s₀ T L m (own.set i (d, PrX a b)) s := by
  obtain ⟨o, ho, a, b, n, e⟩ := X.st.at' (i := i + 1) hi
  exact ⟨a, b, X.st.set (i := i + 1) (P' := PrX a b) hi (fun _ _ _ e => e) ⟨o, ho, n, e⟩, X.gr, X.sm⟩

theorem zip_first {z TI TO i1 i2 t1 t2 : Addr} {k : Nat} {f1 x y : Value} {xs ys : List Value} {Q : Value → Shared → Prop} (X : Fx S T₀ s₀ T L m ((z, ZipO .none f1 TI TO) :: (TO, PrO) :: (i1, TIterO t1 k) :: (i2, TIterO t2 k) :: own) s)
    (hTI : IsTup T TI #[.ref i1, .ref i2]) (h1 : IsTup T t1 xs.toArray) (h2 : IsTup T t2 ys.toArray) (hx : xs[k]? = some x) (hy : ys[k]? = some y)
    (h : ∀ p T' s', Fx S T₀ s₀ T' L m ((z, ZipO (rawInt (p : Nat)) (.bool false) TI TO) :: (TO, PrO) :: (i1, TIterO t1 (k + 1)) :: (i2, TIterO t2 (k + 1)) :: own) s' → Ev T T' → IsTup T' p #[x, y] → Q (.ref p) s') :
    wpAny (model PR w) A (Builtin.«zip.__next__» ⟨[.ref z], []⟩) (fun fin s' => ∃ v, fin = .done (.ret v) ∧ Q v s') E s := by
  obtain ⟨o, hz, rfl⟩ := X.st.at' (i := 1) (d := z) (P := ZipO .none f1 TI TO) rfl
  obtain ⟨oT, hoT, _, nT, hdT⟩ := hTI.keeps X.st.kT
  show wpAny _ _ (field (.ref z) 2 >>= _) _ _ _
  refine wpAny_bind (wpAny_field hz rfl (x := .bool false) rfl ?_)
  show wpAny _ _ (field (.ref z) 3 >>= _) _ _ _
  refine wpAny_bind (wpAny_field hz rfl (x := .ref TI) rfl ?_)
  refine wpAny_bind (wpAny_seqItems hoT hdT ?_)
  show wpAny _ _ (Builtin.SmallTypes.ownedTupleIsFree (.ref z) >>= _) _ _ _
  refine wpAny_bind ?_
  unfold Builtin.SmallTypes.ownedTupleIsFree
  refine wpAny_bind (wpAny_field hz rfl (x := .none) rfl (wpAny_pure ?_))
  simp only [if_true]
  refine wpAny_bind (wpAny_rule ?_)
  refine wpAny_bind (wpAny_field hz rfl (x := .ref TO) rfl ?_)
  refine wpAny_bind (X.setF (i := 0) rfl (by simp) fun s1 X1 => ?_)
  refine wpAny_bind ?_
  simp only [List.zipIdx_cons, List.zipIdx_nil, List.forIn_cons, List.forIn_nil]
  refine wpAny_bind (wpAny_bind (wpAny_onRaise ?_))
  show wpAny _ _ (Builtin.SmallTypes.nextOf (.ref i1) >>= _) _ _ _
  refine wpAny_bind (X1.nextTup (i := 2) rfl h1 hx fun s2 X2 => wpAny_pure ?_)
  obtain ⟨pa, pb, X2'⟩ := X2.pr (i := 1) rfl
  obtain ⟨o2, ho2, n2, rfl⟩ := X2'.open1 (i := 1) rfl
  refine wpAny_bind (wpAny_seqItems ho2 rfl ?_)
  refine wpAny_bind (X2'.setX (i := 1) (k := 0) (x := x) (P := PrX x pb) rfl (fun n => ⟨n, by simp⟩) fun s3 X3 => ?_)
  refine wpAny_bind (wpAny_letGo (wpAny_pure ?_))
  refine wpAny_bind (wpAny_bind (wpAny_onRaise ?_))
  show wpAny _ _ (Builtin.SmallTypes.nextOf (.ref i2) >>= _) _ _ _
  refine wpAny_bind (X3.nextTup (i := 3) rfl h2 hy fun s4 X4 => wpAny_pure ?_)
  obtain ⟨o4, ho4, n4, rfl⟩ := X4.open1 (i := 1) (d := TO) (P := PrX x pb) rfl
  refine wpAny_bind (wpAny_seqItems ho4 rfl ?_)
  refine wpAny_bind (X4.setX (i := 1) (k := 1) (x := y) (P := PrX x y) rfl (fun n => ⟨n, by simp⟩) fun s5 X5 => ?_)
  refine wpAny_bind (wpAny_letGo (wpAny_pure (wpAny_pure ?_)))
  obtain ⟨o5, ho5, n5, rfl⟩ := X5.open1 (i := 1) (d := TO) (P := PrX x y) rfl
  refine wpAny_bind (wpAny_seqItems ho5 rfl ?_)
  refine wpAny_bind (wpAny_newTuple ?_)
  obtain ⟨T', kT, e, X6⟩ := X5.new (o := { cls := .type "tuple", data := .seq #[x, y] }) rfl
  show wpAny _ _ (Builtin.SmallTypes.ownedTupleHandOut (.ref z) (.ref s5.heap.objs.size) >>= _) _ _ _
  refine wpAny_bind ?_
  unfold Builtin.SmallTypes.ownedTupleHandOut
  refine wpAny_bind (X6.setF (i := 0) (c := .type "zip") (fs := #[.ellipsis, f1, .bool false, .ref TI, .ref TO]) rfl (by simp) fun s7 X7 => ?_)
  refine X7.setF (i := 0) (c := .type "zip") (fs := #[rawInt s5.heap.objs.size, f1, .bool false, .ref TI, .ref TO]) rfl (by simp) fun s8 X8 => ?_
  refine wpAny_pure ⟨_, rfl, h _ T' s8 ?_ kT ⟨_, e, rfl, _, rfl⟩⟩
  have Y : Fx S T₀ s₀ T' L m ((z, ZipO (rawInt s5.heap.objs.size) (.bool false) TI TO) :: (TO, PrX x y) :: (i1, TIterO t1 (k + 1)) :: (i2, TIterO t2 (k + 1)) :: own) s8 := X8
  exact ⟨Y.st.set (i := 2) (P' := PrO) rfl (fun _ _ _ e => e) (let ⟨o, ho, n, e⟩ := Y.open1 (i := 1) (d := TO) (P := PrX x y) rfl; ⟨o, ho, x, y, n, e⟩), Y.gr, Y.sm⟩

theorem wpAny_alive {a : Addr} {Q : Option Obj → Shared → Prop} (h : Q (s.heap.get? a) s) : wpAny (model PR w) A (loadIfAlive a) Q E s := fun _ _ _ => h

/-- the later turns: the pair handed out is alive -/
theorem zip_later {z TI TO i1 i2 t1 t2 : Addr} {k p : Nat} {f1 x y : Value} {xs ys : List Value} {op : Obj} {Q : Value → Shared → Prop} (X : Fx S T₀ s₀ T L m ((z, ZipO (rawInt p) f1 TI TO) :: (TO, PrO) :: (i1, TIterO t1 k) :: (i2, TIterO t2 k) :: own) s)
    (hp : T.get? p = some op) (hTI : IsTup T TI #[.ref i1, .ref i2]) (h1 : IsTup T t1 xs.toArray) (h2 : IsTup T t2 ys.toArray) (hx : xs[k]? = some x) (hy : ys[k]? = some y)
    (h : ∀ f1' q T' s', Fx S T₀ s₀ T' L m ((z, ZipO (rawInt p) f1' TI TO) :: (TO, PrO) :: (i1, TIterO t1 (k + 1)) :: (i2, TIterO t2 (k + 1)) :: own) s' → Ev T T' → IsTup T' q #[x, y] → Q (.ref q) s') :
    wpAny (model PR w) A (Builtin.«zip.__next__» ⟨[.ref z], []⟩) (fun fin s' => ∃ v, fin = .done (.ret v) ∧ Q v s') E s := by
  obtain ⟨o, hz, rfl⟩ := X.st.at' (i := 1) (d := z) (P := ZipO (rawInt p) f1 TI TO) rfl
  obtain ⟨oT, hoT, _, nT, hdT⟩ := hTI.keeps X.st.kT
  show wpAny _ _ (field (.ref z) 2 >>= _) _ _ _
  refine wpAny_bind (wpAny_field hz rfl (x := .bool false) rfl ?_)
  show wpAny _ _ (field (.ref z) 3 >>= _) _ _ _
  refine wpAny_bind (wpAny_field hz rfl (x := .ref TI) rfl ?_)
  refine wpAny_bind (wpAny_seqItems hoT hdT ?_)
  show wpAny _ _ (Builtin.SmallTypes.ownedTupleIsFree (.ref z) >>= _) _ _ _
  refine wpAny_bind ?_
  unfold Builtin.SmallTypes.ownedTupleIsFree
  refine wpAny_bind (wpAny_field hz rfl (x := rawInt p) rfl ?_)
  dsimp only [rawInt]
  simp only [Int.toNat_natCast]
  refine wpAny_bind (wpAny_alive ?_)
  rw [X.st.kT _ _ hp]
  simp only [Option.isNone_some, Bool.false_eq_true, if_false]
  refine wpAny_bind (wpAny_field hz rfl (x := f1) rfl ?_)
  have fin : ∀ {s1 : Shared} {g : Value}, Fx S T₀ s₀ T L m ((z, ZipO (rawInt p) g TI TO) :: (TO, PrO) :: (i1, TIterO t1 (k + 1)) :: (i2, TIterO t2 (k + 1)) :: own) s1 →
      wpAny (model PR w) A (newTuple [x, y] >>= fun r => ret r) (fun fin s' => ∃ v, fin = Fin.done (.ret v) ∧ Q v s') E s1 := by
    intro s1 g X1
    refine wpAny_bind (wpAny_newTuple ?_)
    obtain ⟨T', kT, e, X6⟩ := X1.new (o := { cls := .type "tuple", data := .seq #[x, y] }) rfl
    exact wpAny_pure ⟨_, rfl, h g _ T' _ X6 kT ⟨_, e, rfl, _, rfl⟩⟩
  refine wpAny_ite_split (fun _ => wpAny_bind (X.setF (i := 0) (c := .type "zip") (fs := #[rawInt p, f1, .bool false, .ref TI, .ref TO]) rfl (by simp) fun s1 X1 => wpAny_pure ?_)) (fun _ => wpAny_pure ?_)
  · rw [if_neg (by decide)]
    have X1' : Fx S T₀ s₀ T L m ((z, ZipO (rawInt p) (.bool true) TI TO) :: (TO, PrO) :: (i1, TIterO t1 k) :: (i2, TIterO t2 k) :: own) s1 := X1
    rw [← Array.forIn_toList]
    refine wpAny_bind ?_
    simp only [List.forIn_cons, List.forIn_nil]
    refine wpAny_bind (wpAny_bind (wpAny_holding ?_))
    show wpAny _ _ (Builtin.SmallTypes.nextOf (.ref i1) >>= _) _ _ _
    refine wpAny_bind (X1'.nextTup (i := 2) rfl h1 hx fun s2 X2 => wpAny_pure (wpAny_pure ?_))
    dsimp only
    refine wpAny_bind (wpAny_bind (wpAny_holding ?_))
    show wpAny _ _ (Builtin.SmallTypes.nextOf (.ref i2) >>= _) _ _ _
    refine wpAny_bind (X2.nextTup (i := 3) rfl h2 hy fun s3 X3 => wpAny_pure (wpAny_pure (wpAny_pure ?_)))
    exact fin X3
  · rw [if_neg (by decide)]
    rw [← Array.forIn_toList]
    refine wpAny_bind ?_
    simp only [List.forIn_cons, List.forIn_nil]
    refine wpAny_bind (wpAny_bind (wpAny_holding ?_))
    show wpAny _ _ (Builtin.SmallTypes.nextOf (.ref i1) >>= _) _ _ _
    refine wpAny_bind (X.nextTup (i := 2) rfl h1 hx fun s2 X2 => wpAny_pure (wpAny_pure ?_))
    dsimp only
    refine wpAny_bind (wpAny_bind (wpAny_holding ?_))
    show wpAny _ _ (Builtin.SmallTypes.nextOf (.ref i2) >>= _) _ _ _
    refine wpAny_bind (X2.nextTup (i := 3) rfl h2 hy fun s3 X3 => wpAny_pure (wpAny_pure (wpAny_pure ?_)))
    exact fin X3
end
end Mine
end

section
open PySem PySem.W PySem.Calls PyProof.Rows
set_option maxRecDepth 100000
namespace Mine

section
variable {w : World} {A : Around} {E : Value → Shared → Prop} {S T₀ T : Heap} {s₀ s : Shared} {L : Addr} {m : Str → Option Value} {own : Own}

theorem Fx.extDrop {a b : Own} {d : Addr} {P : Obj → Prop} (X : Fx S T₀ s₀ T L m (a ++ (d, P) :: b) s) {h' : Heap} (k : Heap.ExtBut d s.heap h') {t : Nat} : Fx S T₀ s₀ T L m (a ++ b) { s with heap := h', toks := t } :=
  ⟨(X.st.perm (List.Perm.cons _ List.perm_middle.symm)).ext0 k, X.gr, X.sm⟩

theorem Fx.setF' (X : Fx S T₀ s₀ T L m own s) {i : Nat} {d : Addr} {c : Value} {fs : Array Value} {k : Nat} {v : Value} {Q : Unit → Shared → Prop} (hi : own[i]? = some (d, fun o => o = { cls := c, dict := none, data := .fields fs, slots := #[] })) (hk : k < fs.size)
    (h : ∀ s', Fx S T₀ s₀ T L m (own.set i (d, fun o => o = { cls := c, dict := none, data := .fields (fs.setIfInBounds k v), slots := #[] })) s' → Heap.SameBut d s.heap s'.heap → Q () s') : wpAny (model PR w) A (setField (.ref d) k v) Q E s := by
  obtain ⟨o, ho, rfl⟩ := X.st.at' (i := i + 1) hi
  refine wpAny_setField_rec ho hk fun h' hz hs => h _ ⟨X.st.set (i := i + 1) (P' := fun o => o = { cls := c, dict := none, data := .fields (fs.setIfInBounds k v), slots := #[] }) hi hs.extBut ⟨_, hz, rfl⟩, X.gr, X.sm⟩ hs

theorem zip_end_first {z TI TO i1 i2 t1 t2 : Addr} {k : Nat} {f1 : Value} {xs : List Value} {Q : Fin → Shared → Prop} (X : Fx S T₀ s₀ T L m ((z, ZipO .none f1 TI TO) :: (TO, PrO) :: (i1, TIterO t1 k) :: (i2, TIterO t2 k) :: own) s) (hh : A.handled = none)
    (hTI : IsTup T TI #[.ref i1, .ref i2]) (h1 : IsTup T t1 xs.toArray) (hx : xs[k]? = none)
    (hE : ∀ e s', Fx S T₀ s₀ T L m own s' → (∃ o, s'.heap.get? e = some o ∧ o.cls = .type "StopIteration") → E (.ref e) s') :
    wpAny (model PR w) A (Builtin.«zip.__next__» ⟨[.ref z], []⟩) Q E s := by
  obtain ⟨o, hz, rfl⟩ := X.st.at' (i := 1) (d := z) (P := ZipO .none f1 TI TO) rfl
  obtain ⟨oT, hoT, _, nT, hdT⟩ := hTI.keeps X.st.kT
  show wpAny _ _ (field (.ref z) 2 >>= _) _ _ _
  refine wpAny_bind (wpAny_field hz rfl (x := .bool false) rfl ?_)
  show wpAny _ _ (field (.ref z) 3 >>= _) _ _ _
  refine wpAny_bind (wpAny_field hz rfl (x := .ref TI) rfl ?_)
  refine wpAny_bind (wpAny_seqItems hoT hdT ?_)
  show wpAny _ _ (Builtin.SmallTypes.ownedTupleIsFree (.ref z) >>= _) _ _ _
  refine wpAny_bind ?_
  unfold Builtin.SmallTypes.ownedTupleIsFree
  refine wpAny_bind (wpAny_field hz rfl (x := .none) rfl (wpAny_pure ?_))
  simp only [if_true]
  refine wpAny_bind (wpAny_rule ?_)
  refine wpAny_bind (wpAny_field hz rfl (x := .ref TO) rfl ?_)
  refine wpAny_bind (X.setF (i := 0) (c := .type "zip") (fs := #[.none, f1, .bool false, .ref TI, .ref TO]) rfl (by simp) fun s1 X1 => ?_)
  refine wpAny_bind ?_
  simp only [List.zipIdx_cons, List.zipIdx_nil, List.forIn_cons, List.forIn_nil]
  refine wpAny_bind (wpAny_bind (wpAny_onRaise ?_))
  show wpAny _ _ (Builtin.SmallTypes.nextOf (.ref i1) >>= _) _ _ _
  refine wpAny_bind (nextOf_tup_end hh (X1.open1 (i := 2) rfl : IsTupIter s1.heap i1 t1 k) (h1.keeps X1.st.kT) (by simpa using hx) fun h2 e hs2 he => ?_)
  obtain ⟨oe, hoe, hce⟩ := he
  have X2 : Fx S T₀ s₀ T L m ((z, fun o => o = { cls := .type "zip", dict := none, data := .fields #[.ellipsis, f1, .bool false, .ref TI, .ref TO], slots := #[] }) :: (TO, PrO) :: (i2, TIterO t2 k) :: own) { s1 with heap := h2, toks := s1.toks } :=
    Fx.extDrop (a := [_, _]) (b := (i2, TIterO t2 k) :: own) X1 hs2
  refine X2.setF' (i := 0) (c := .type "zip") (fs := #[.ellipsis, f1, .bool false, .ref TI, .ref TO]) rfl (by simp) fun s3 X3 hs3 => ?_
  obtain ⟨oz, hoz, hzz⟩ := X2.open1 (i := 0) rfl
  have hez : e ≠ z := fun q => by
    subst q
    have : (some oe : Option Obj) = some oz := hoe.symm.trans hoz
    cases this
    rw [hzz] at hce; simp at hce
  exact hE e s3 X3.drop.drop.drop ⟨oe, hs3.extBut _ _ hez hoe, hce⟩

theorem zip_end_later {z TI TO i1 i2 t1 t2 : Addr} {k p : Nat} {f1 : Value} {xs : List Value} {op : Obj} {Q : Fin → Shared → Prop} (X : Fx S T₀ s₀ T L m ((z, ZipO (rawInt p) f1 TI TO) :: (TO, PrO) :: (i1, TIterO t1 k) :: (i2, TIterO t2 k) :: own) s) (hh : A.handled = none)
    (hp : T.get? p = some op) (hTI : IsTup T TI #[.ref i1, .ref i2]) (h1 : IsTup T t1 xs.toArray) (hx : xs[k]? = none)
    (hE : ∀ e s', Fx S T₀ s₀ T L m own s' → (∃ o, s'.heap.get? e = some o ∧ o.cls = .type "StopIteration") → E (.ref e) s') :
    wpAny (model PR w) A (Builtin.«zip.__next__» ⟨[.ref z], []⟩) Q E s := by
  obtain ⟨o, hz, rfl⟩ := X.st.at' (i := 1) (d := z) (P := ZipO (rawInt p) f1 TI TO) rfl
  obtain ⟨oT, hoT, _, nT, hdT⟩ := hTI.keeps X.st.kT
  show wpAny _ _ (field (.ref z) 2 >>= _) _ _ _
  refine wpAny_bind (wpAny_field hz rfl (x := .bool false) rfl ?_)
  show wpAny _ _ (field (.ref z) 3 >>= _) _ _ _
  refine wpAny_bind (wpAny_field hz rfl (x := .ref TI) rfl ?_)
  refine wpAny_bind (wpAny_seqItems hoT hdT ?_)
  show wpAny _ _ (Builtin.SmallTypes.ownedTupleIsFree (.ref z) >>= _) _ _ _
  refine wpAny_bind ?_
  unfold Builtin.SmallTypes.ownedTupleIsFree
  refine wpAny_bind (wpAny_field hz rfl (x := rawInt p) rfl ?_)
  dsimp only [rawInt]
  simp only [Int.toNat_natCast]
  refine wpAny_bind (wpAny_alive ?_)
  rw [X.st.kT _ _ hp]
  simp only [Option.isNone_some, Bool.false_eq_true, if_false]
  refine wpAny_bind (wpAny_field hz rfl (x := f1) rfl ?_)
  have fin : ∀ {s1 : Shared} {g : Value}, Fx S T₀ s₀ T L m ((z, ZipO (rawInt p) g TI TO) :: (TO, PrO) :: (i1, TIterO t1 k) :: (i2, TIterO t2 k) :: own) s1 → ∀ {R : Value → Shared → Prop}, wpAny (model PR w) A (Builtin.SmallTypes.nextOf (.ref i1)) R E s1 := by
    intro s1 g X1 R
    refine nextOf_tup_end hh (X1.open1 (i := 2) rfl : IsTupIter s1.heap i1 t1 k) (h1.keeps X1.st.kT) (by simpa using hx) fun h2 e hs2 he => ?_
    have X2 : Fx S T₀ s₀ T L m ((z, ZipO (rawInt p) g TI TO) :: (TO, PrO) :: (i2, TIterO t2 k) :: own) { s1 with heap := h2, toks := s1.toks } := Fx.extDrop (a := [_, _]) (b := (i2, TIterO t2 k) :: own) X1 hs2
    exact hE e _ X2.drop.drop.drop he
  refine wpAny_ite_split (fun _ => wpAny_bind (X.setF (i := 0) (c := .type "zip") (fs := #[rawInt p, f1, .bool false, .ref TI, .ref TO]) rfl (by simp) fun s1 X1 => wpAny_pure ?_)) (fun _ => wpAny_pure ?_)
  · rw [if_neg (by decide)]
    have X1' : Fx S T₀ s₀ T L m ((z, ZipO (rawInt p) (.bool true) TI TO) :: (TO, PrO) :: (i1, TIterO t1 k) :: (i2, TIterO t2 k) :: own) s1 := X1
    rw [← Array.forIn_toList]
    refine wpAny_bind ?_
    simp only [List.forIn_cons, List.forIn_nil]
    refine wpAny_bind (wpAny_bind (wpAny_holding ?_))
    show wpAny _ _ (Builtin.SmallTypes.nextOf (.ref i1) >>= _) _ _ _
    exact wpAny_bind (fin X1')
  · rw [if_neg (by decide)]
    rw [← Array.forIn_toList]
    refine wpAny_bind ?_
    simp only [List.forIn_cons, List.forIn_nil]
    refine wpAny_bind (wpAny_bind (wpAny_holding ?_))
    show wpAny _ _ (Builtin.SmallTypes.nextOf (.ref i1) >>= _) _ _ _
    exact wpAny_bind (fin X)

/-! zip over two tuples of the same length, drawn to its end into a list -/
theorem py_next {z : Addr} {Q : Option Value → Shared → Prop} (hT : s.TypeIs (.ref z) "zip")
    (h : wpAny (model PR w) A.in1 (Builtin.«zip.__next__» ⟨[.ref z], []⟩) (fun fin s' => ∃ v, fin = .done (.ret v) ∧ Q (some v) s') (fun e s' => (∃ a o, e = .ref a ∧ s'.heap.get? a = some o ∧ o.cls = .type "StopIteration") ∧ Q none s') s) :
    wpAny (model PR w) A (pyNext (.ref z)) Q E s := by
  unfold pyNext
  refine wpAny_bind (wpAny_attempt (wpAny_callSpecial?_slot (name := Str.ofString "__next__") hT F.slot_zip_next (wpAny_call_entry F.slot_zip_next hT F.entry_zip_next (wpAny_mono h (fun fin s' hf => ?_) fun e s' he => ?_) (F.args_zip_next_1 _))))
  · obtain ⟨v, rfl, hq⟩ := hf
    exact ⟨v, rfl, wpAny_pure hq⟩
  · obtain ⟨⟨a, o, rfl, ho, hc⟩, hq⟩ := he
    exact wpAny_bind (wpAny_isInstance (T := "StopIteration") (b := true) ⟨o, ho, hc⟩ isSubtype_stop (wpAny_pure hq))

noncomputable def ZipSt (T : Heap) (k : Nat) (f0 : Value) : Prop := f0 = .none ∨ ∃ (p : Nat) (op : Obj), f0 = rawInt p ∧ T.get? p = some op

theorem zip_loop {z TI TO i1 i2 t1 t2 l : Addr} {res : Value} {xs ys : List Value} {R : Result → Shared → Prop} (hh : A.handled = none) (hl : xs.length = ys.length) (hz : xs.length ≤ 10) (rest : Own) :
    ∀ (n k : Nat) {T : Heap} {s : Shared} {f0 f1 : Value} {zs : List Value} , n + k = xs.length → Fx S T₀ s₀ T L m ((z, ZipO f0 f1 TI TO) :: (TO, PrO) :: (i1, TIterO t1 k) :: (i2, TIterO t2 k) :: (l, LstO zs) :: rest) s → ZipSt T k f0 →
      IsTup T TI #[.ref i1, .ref i2] → IsTup T t1 xs.toArray → IsTup T t2 ys.toArray → zs.length + n ≤ 100000 →
      (∀ T' s' ps, Fx S T₀ s₀ T' L m ((l, LstO (zs ++ ps)) :: rest) s' → Ev T T' → All2 (fun v (xy : Value × Value) => ∃ p, v = .ref p ∧ IsTup T' p #[xy.1, xy.2]) ps ((xs.zip ys).drop k) → R (.ok (.ret res)) s') →
      codeAny (model PR w) A (.builtin "list.extend.loop" ⟨[.ref l, .ref z, res], []⟩) R s := by
  intro n
  induction n with
  | zero =>
    intro k T s f0 f1 zs hk X hf hTI h1 h2 hlen hR
    have hx : xs[k]? = none := by rw [List.getElem?_eq_none]; lia
    have hT : s.TypeIs (.ref z) "zip" := let ⟨o, ho, e⟩ := X.open1 (i := 0) rfl; ⟨o, ho, by rw [e]⟩
    refine codeAny_builtin F.entry_extend_loop ?_
    rw [Around.under_plainId F.plain_extend_loop _]
    show wpAny _ A.in1 (pyNext (.ref z) >>= _) _ _ s
    refine wpAny_bind (py_next hT ?_)
    have fin : ∀ s', Fx S T₀ s₀ T L m ((l, LstO zs) :: rest) s' → R (.ok (.ret res)) s' := fun s' X' => hR T s' [] (by simpa using X') (Ev.refl _) (by rw [List.drop_of_length_le (by simp; lia)]; exact .nil)
    rcases hf with rfl | ⟨p, op, rfl, hp⟩
    · exact zip_end_first X hh hTI h1 hx fun e s' X' ho => ⟨let ⟨o, a, b⟩ := ho; ⟨e, o, rfl, a, b⟩, wpAny_pure (fin s' X')⟩
    · exact zip_end_later X hh hp hTI h1 hx fun e s' X' ho => ⟨let ⟨o, a, b⟩ := ho; ⟨e, o, rfl, a, b⟩, wpAny_pure (fin s' X')⟩
  | succ n ih =>
    intro k T s f0 f1 zs hk X hf hTI h1 h2 hlen hR
    have hkx : k < xs.length := by lia
    have hky : k < ys.length := by lia
    have hx : xs[k]? = some xs[k] := List.getElem?_eq_getElem hkx
    have hy : ys[k]? = some ys[k] := List.getElem?_eq_getElem hky
    have hT : s.TypeIs (.ref z) "zip" := let ⟨o, ho, e⟩ := X.open1 (i := 0) rfl; ⟨o, ho, by rw [e]⟩
    refine codeAny_builtin F.entry_extend_loop ?_
    rw [Around.under_plainId F.plain_extend_loop _]
    show wpAny _ A.in1 (pyNext (.ref z) >>= _) _ _ s
    refine wpAny_bind (py_next hT ?_)
    have fin : ∀ (p : Nat) T' s' (f0' f1' : Value), Fx S T₀ s₀ T' L m ((z, ZipO f0' f1' TI TO) :: (TO, PrO) :: (i1, TIterO t1 (k + 1)) :: (i2, TIterO t2 (k + 1)) :: (l, LstO zs) :: rest) s' → ZipSt T' (k + 1) f0' → Ev T T' → IsTup T' p #[xs[k], ys[k]] →
        wpAny (model PR w) A.in1 (do Builtin.List.listUpdate (.ref l) (·.push (.ref p)); again (.builtin "list.extend.loop" ⟨[.ref l, .ref z, res], []⟩))
          (fun fin s' => match fin with | .done f => R (.ok f) s' | .again c' => c'.quiet = true ∧ codeAny (model PR w) A c' R s') (fun e s' => R (.error e) s') s' := by
      intro p T' s' f0' f1' X' hf' kT hp
      obtain ⟨o, ho, nn, rfl⟩ := X'.open1 (i := 4) (d := l) (P := LstO zs) rfl
      show wpAny _ A.in1 (updateSeq l (·.push (.ref p)) >>= _) _ _ _
      refine wpAny_bind (wpAny_updateSeq ho rfl ?_ (by rw [sizeLine_eq]; simp; lia) (by rw [sizeLine_eq]; simp; lia))
      refine wpAny_pure ⟨plainId_quiet F.plain_extend_loop _, ih (k + 1) (f0 := f0') (f1 := f1') (zs := zs ++ [.ref p]) (by lia) ⟨X'.st.set (i := 5) (P' := LstO (zs ++ [.ref p])) rfl (Heap.SameBut.update ..).extBut ⟨_, Heap.get?_update_self _ ho rfl, nn + 1, by simp [Obj.mapSeq]⟩, X'.gr, X'.sm⟩ hf' (hTI.keeps kT) (h1.keeps kT) (h2.keeps kT) (by simp; lia) fun T'' s'' ps X'' k'' hps => ?_⟩
      refine hR T'' s'' (.ref p :: ps) (by simpa using X'') (kT.trans k'') ?_
      rw [List.drop_eq_getElem_cons (by simp; lia)]
      exact .cons ⟨p, rfl, by simpa using hp.keeps k''⟩ hps
    rcases hf with rfl | ⟨p, op, rfl, hp⟩
    · refine zip_first (Q := fun v s' => wpAny (model PR w) A.in1 _ _ _ s') X hTI h1 h2 hx hy fun p T' s' X' kT hp => ?_
      obtain ⟨op, hop, _⟩ := id hp
      exact fin p T' s' _ _ X' (.inr ⟨p, op, rfl, hop⟩) kT hp
    · refine zip_later (Q := fun v s' => wpAny (model PR w) A.in1 _ _ _ s') X hp hTI h1 h2 hx hy fun g q T' s' X' kT hq => ?_
      exact fin q T' s' _ _ X' (.inr ⟨p, op, rfl, kT _ _ hp⟩) kT hq

theorem no_len_zip : typeLookup (.type "zip") "__len__" = pure none := by rw [typeLookup_type, builtinLookup_eq_fast]; kernel_rfl
theorem no_hint_zip : typeLookup (.type "zip") "__length_hint__" = pure none := by rw [typeLookup_type, builtinLookup_eq_fast]; kernel_rfl

noncomputable abbrev zT1 (h : Heap) (l1 : Addr) : Heap := h.push { cls := .type "tuple_iterator", data := .fields #[.ref l1, .int 0 0] }
noncomputable abbrev zT2 (h : Heap) (l1 l2 : Addr) : Heap := (zT1 h l1).push { cls := .type "tuple_iterator", data := .fields #[.ref l2, .int 0 0] }
noncomputable abbrev zT3 (h : Heap) (l1 l2 : Addr) : Heap := (zT2 h l1 l2).push { cls := .type "tuple", data := .seq #[.ref h.objs.size, .ref (zT1 h l1).objs.size] }
noncomputable abbrev zT4 (h : Heap) (l1 l2 : Addr) : Heap := (zT3 h l1 l2).push { cls := .type "tuple", data := .seq #[.none, .none] }
noncomputable abbrev zT5 (h : Heap) (l1 l2 : Addr) : Heap := (zT4 h l1 l2).push { cls := .type "zip", data := .fields #[.none, .bool false, .bool false, .ref (zT2 h l1 l2).objs.size, .ref (zT3 h l1 l2).objs.size] }

theorem meets_zip_tup (l1 l2 : Addr) (xs ys : Array Value) :
    Meets (Builtin.«zip.__new__» ⟨[.type "zip", .ref l1, .ref l2], []⟩) (fun _ R s => IsTup s.heap l1 xs ∧ IsTup s.heap l2 ys ∧
      R (.ok (.ret (.ref (zT4 s.heap l1 l2).objs.size))) { s with heap := zT5 s.heap l1 l2 }) :=
  .of_wp fun prog w A R s h => by
    obtain ⟨hp, g, d, tk, os⟩ := s; obtain ⟨hl1, hl2, h⟩ := h
    have hsub := sub_zip
    have hL1 : IsTup (Shared.heap ⟨hp, g, d, tk, os⟩) l1 xs := hl1
    have hL2 : IsTup (Shared.heap ⟨hp.push { cls := .type "tuple_iterator", data := .fields #[.ref l1, .int 0 0] }, g, d, tk, os⟩) l2 ys := IsTup.push hl2 _
    wp_walk using iter_tuple hL1, iter_tuple hL2
    exact ⟨_, rfl, h⟩

theorem call_zip {l1 l2 : Addr} {xs ys : List Value} {Q : Value → Shared → Prop} (X : Fx S T₀ s₀ T L m own s) (h1 : IsTup T l1 xs.toArray) (h2 : IsTup T l2 ys.toArray)
    (h : ∀ z TI TO i1 i2 T' s', Fx S T₀ s₀ T' L m ((z, ZipO .none (.bool false) TI TO) :: (TO, PrO) :: (i1, TIterO l1 0) :: (i2, TIterO l2 0) :: own) s' → Ev T T' → IsTup T' TI #[.ref i1, .ref i2] → Q (.ref z) s') :
    wpAny (model PR w) A (call (.type "zip") [.ref l1, .ref l2]) Q E s := by
  refine callType_new F.called_zip (by decide) (F.typeCall_zip_2 _ _) (F.newCall_zip_2 _ _) (fun obj => F.args_object_init_3 obj _ _) F.entry_zip_new
    (meets_zip_tup l1 l2 xs.toArray ys.toArray) ⟨h1.keeps X.st.kT, h2.keeps X.st.kT, ?_⟩
  have X1 := X.st.alloc (P := TIterO l1 0) (o := { cls := .type "tuple_iterator", data := .fields #[.ref l1, .int 0 0] }) ⟨rfl, rfl⟩ rfl
  have X2 := X1.alloc (P := TIterO l2 0) (o := { cls := .type "tuple_iterator", data := .fields #[.ref l2, .int 0 0] }) ⟨rfl, rfl⟩ rfl
  obtain ⟨T', g, e, X3⟩ := X2.fresh (o := { cls := .type "tuple", data := .seq #[.ref s.heap.objs.size, .ref (zT1 s.heap l1).objs.size] }) rfl
  have X4 := X3.alloc (P := PrO) (o := { cls := .type "tuple", data := .seq #[.none, .none] }) ⟨.none, .none, 0, rfl⟩ rfl
  have X5 := X4.alloc (P := ZipO .none (.bool false) (zT2 s.heap l1 l2).objs.size (zT3 s.heap l1 l2).objs.size) (o := { cls := .type "zip", data := .fields #[.none, .bool false, .bool false, .ref (zT2 s.heap l1 l2).objs.size, .ref (zT3 s.heap l1 l2).objs.size] }) rfl rfl
  refine ⟨⟨_, Heap.get?_push_size _ rfl, rfl⟩, h _ (zT2 s.heap l1 l2).objs.size (zT3 s.heap l1 l2).objs.size s.heap.objs.size (zT1 s.heap l1).objs.size T' _ ⟨X5.perm ?_, X.gr.trans g, X.sm⟩ g.1 ⟨_, e, rfl, _, rfl⟩⟩
  -- the frame's names to the front
  refine List.Perm.trans (List.perm_middle (l₁ := [(_, ZipO .none (.bool false) _ _), (_, PrO), (_, TIterO l1 0), (_, TIterO l2 0)]) (a := (L, NsO m)) (l₂ := own)).symm ?_
  exact List.Perm.cons _ (List.Perm.cons _ (List.Perm.swap ..))

theorem c_extend_zip {l z TI TO i1 i2 t1 t2 : Addr} {zs xs ys : List Value} {Q : Value → Shared → Prop} {rest : Own} (X : Fx S T₀ s₀ T L m ((z, ZipO .none (.bool false) TI TO) :: (TO, PrO) :: (i1, TIterO t1 0) :: (i2, TIterO t2 0) :: (l, LstO zs) :: rest) s)
    (hh : A.handled = none) (hl : xs.length = ys.length) (hz : xs.length ≤ 10) (hTI : IsTup T TI #[.ref i1, .ref i2]) (h1 : IsTup T t1 xs.toArray) (h2 : IsTup T t2 ys.toArray) (hlen : zs.length + xs.length ≤ 100000)
    (h : ∀ T' s' ps, Fx S T₀ s₀ T' L m ((l, LstO (zs ++ ps)) :: rest) s' → Ev T T' → All2 (fun v (xy : Value × Value) => ∃ p, v = .ref p ∧ IsTup T' p #[xy.1, xy.2]) ps (xs.zip ys) → Q .none s') :
    wpAny (model PR w) A (call (.builtin "list.extend") [.ref l, .ref z]) Q E s := by
  obtain ⟨o, ho, n, rfl⟩ := X.open1 (i := 4) (d := l) (P := LstO zs) rfl
  obtain ⟨oz, hoz, rfl⟩ := X.open1 (i := 0) (d := z) (P := ZipO .none (.bool false) TI TO) rfl
  have hlz : l ≠ z := fun e => by subst e; rw [ho] at hoz; simp at hoz
  have hT : s.TypeIs (.ref l) "list" := ⟨_, ho, rfl⟩
  have hTz : s.TypeIs (.ref z) "zip" := ⟨_, hoz, rfl⟩
  refine wpAny_call (codeAny_call_builtin (R := wants Q E) PySem.F.slot_list_extend.plain PySem.F.entry_list_extend (PySem.F.slot_list_extend.check _ _ _ _ _ _ _ _ hT (PySem.F.args_list_extend_2 _ _) ?_))
  show wpAny _ _ (Builtin.List.listExtendWith (.ref l) (.ref z) .none) _ _ s
  unfold Builtin.List.listExtendWith
  refine wpAny_bind (wpAny_typeOf (T := "zip") hTz ?_)
  have e1 : Builtin.List.listSameRef (.ref l) (.ref z) = false := by simp [Builtin.List.listSameRef, hlz]
  have e2 : (Value.type "zip" == Value.type "list") = false := by decide
  have e3 : (Value.type "zip" == Value.type "tuple") = false := by decide
  simp only [e1, e2, e3, Bool.or_false, Bool.false_eq_true, if_false]
  refine wpAny_bind (wpAny_pyIter_zip hoz ?_)
  refine wpAny_bind (wpAny_holding ?_)
  unfold Builtin.List.listLengthHint
  refine wpAny_bind (wpAny_specialOf hTz no_len_zip ?_)
  dsimp only
  refine wpAny_ite_split (fun hc => absurd hc (by decide)) fun _ => ?_
  rw [if_neg (by decide)]
  refine wpAny_bind (m := specialOf (Value.ref z) (Str.ofString "__length_hint__")) (wpAny_specialOf hTz no_hint_zip ?_)
  refine wpAny_pure ?_
  refine wpAny_ite_split (fun _ => ?_) (fun hc => absurd rfl hc)
  refine wpAny_bind (wpAny_rule ?_)
  refine wpAny_bind ?_
  show wpAny _ _ (updateSeq l (·.push .none) >>= fun _ => updateSeq l (·.pop)) _ _ _
  refine wpAny_bind (wpAny_updateSeq ho rfl ?_ (by rw [sizeLine_eq]; simp; lia) (by rw [sizeLine_eq]; simp; lia))
  have hS₂ := Heap.get?_update_self (Obj.mapSeq (·.push Value.none)) ho rfl
  refine wpAny_updateSeq hS₂ rfl ?_ (by rw [sizeLine_eq]; simp; lia) (by rw [sizeLine_eq]; simp; lia)
  have hS₃ := Heap.get?_update_self (Obj.mapSeq (·.pop)) hS₂ rfl
  have X2 : Fx S T₀ s₀ T L m ((z, ZipO .none (.bool false) TI TO) :: (TO, PrO) :: (i1, TIterO t1 0) :: (i2, TIterO t2 0) :: (l, LstO zs) :: rest) { s with heap := (s.heap.update l (Obj.mapSeq (·.push Value.none))).update l (Obj.mapSeq (·.pop)) } :=
    ⟨X.st.set (i := 5) (P' := LstO zs) rfl ((Heap.SameBut.update s.heap l _).trans (Heap.SameBut.update _ l _)).extBut ⟨_, hS₃, n + 1 + 1, by simp [Obj.mapSeq]⟩, X.gr, X.sm⟩
  refine wpAny_pure ⟨plainId_quiet PySem.F.plain_extend_loop _, zip_loop hh hl hz rest xs.length 0 (by lia) X2 (.inl rfl) hTI h1 h2 hlen fun T' s' ps X' k' hps => h T' s' ps X' k' (by simpa using hps)⟩
end
end Mine
end

section
open PySem PySem.W PySem.Calls PyProof.Rows
set_option maxRecDepth 100000
namespace Mine

/-! terms with their variables filled, solutions -/
noncomputable def instV (θ : Str → Tm) : Tm → Tm → Tm
  | .leaf s, _ => if isQ s then θ s else .leaf s
  | .app _ _, u => u
noncomputable def instH (θ : Str → Tm) : Tm → Tm
  | .leaf s => .leaf s
  | .app t a => .app (instH θ t) (instV θ a (instH θ a))
noncomputable def inst (θ : Str → Tm) (t : Tm) : Tm := instV θ t (instH θ t)
theorem inst_leaf (θ : Str → Tm) (s : Str) : inst θ (.leaf s) = if isQ s then θ s else .leaf s := rfl
theorem instH_op (θ : Str → Tm) (t : Tm) : (instH θ t).op = t.op := by
  induction t with
  | leaf => rfl
  | app t a ih _ => exact ih
theorem instH_kids (θ : Str → Tm) (t : Tm) : (instH θ t).kids = t.kids.map (inst θ) := by
  induction t with
  | leaf => rfl
  | app t a ih _ => rw [instH, Tm.kids, ih, Tm.kids, List.map_append]; rfl
theorem isVar_iff {t : Tm} : t.isVar = true ↔ t = .leaf t.op ∧ isQ t.op = true := by
  cases t with
  | leaf s => simp [Tm.isVar, Tm.kids, Tm.op]
  | app t a => simp [Tm.isVar, Tm.kids]
theorem inst_var {θ : Str → Tm} {t : Tm} (h : t.isVar = true) : inst θ t = θ t.op := by
  obtain ⟨e, hq⟩ := isVar_iff.mp h
  rw [e, inst_leaf]; exact if_pos hq
theorem inst_non {θ : Str → Tm} {t : Tm} (h : t.isVar = false) : inst θ t = instH θ t := by
  cases t with
  | leaf s =>
    rw [inst_leaf, if_neg (by simpa [Tm.isVar, Tm.kids, Tm.op] using h)]; rfl
  | app t a => rfl
theorem inst_op {θ : Str → Tm} {t : Tm} (h : t.isVar = false) : (inst θ t).op = t.op := by rw [inst_non h, instH_op]
theorem inst_kids {θ : Str → Tm} {t : Tm} (h : t.isVar = false) : (inst θ t).kids = t.kids.map (inst θ) := by rw [inst_non h, instH_kids]
theorem inst_eq_of {θ : Str → Tm} {t u : Tm} (h : t.isVar = false) (h' : u.isVar = false) (ho : t.op = u.op) (hk : t.kids.map (inst θ) = u.kids.map (inst θ)) : inst θ t = inst θ u :=
  Tm.ext_kids (by rw [inst_op h, inst_op h', ho]) (by rw [inst_kids h, inst_kids h', hk])

/-- the variables, by the kids -/
theorem vars_eq (t : Tm) : t.vars = (if t.isVar then [t.op] else []) ++ t.kids.flatMap Tm.vars := by
  unfold Tm.vars
  rw [partsOf_eq, List.filter_cons]
  have e : ((t.kids.flatMap fun k => (partsOf k).map upP).filter fun p => p.2.isVar).map (fun p => p.2.op) = t.kids.flatMap fun k => ((partsOf k).filter fun p => p.2.isVar).map fun p => p.2.op := by
    induction t.kids with
    | nil => rfl
    | cons k l ih =>
      rw [List.flatMap_cons, List.flatMap_cons, List.filter_append, List.map_append, ih, List.filter_map, List.map_map]
      rfl
  cases h : t.isVar <;> simp [e]
theorem vars_var {t : Tm} (h : t.isVar = true) : t.vars = [t.op] := by
  obtain ⟨e, hq⟩ := isVar_iff.mp h
  rw [vars_eq, h, e]; simp [Tm.kids, Tm.op]
theorem vars_kid {t k : Tm} (h : k ∈ t.kids) {x : Str} (hx : x ∈ k.vars) : x ∈ t.vars := by
  rw [vars_eq]
  exact List.mem_append_right _ (List.mem_flatMap.mpr ⟨k, h, hx⟩)
theorem vars_isQ (t : Tm) : ∀ x ∈ t.vars, isQ x = true := by
  intro x hx
  unfold Tm.vars at hx
  obtain ⟨p, hp, rfl⟩ := List.mem_map.mp hx
  obtain ⟨_, h⟩ := List.mem_filter.mp hp
  exact (isVar_iff.mp h).2

noncomputable def Sol (σ : Tab) (θ : Str → Tm) : Prop := ∀ p ∈ σ, θ p.1 = inst θ p.2

/-- what stands in a term is no greater than the term filled -/
theorem size_var (θ : Str → Tm) (t : Tm) : ∀ x ∈ t.vars, (θ x).size ≤ (inst θ t).size ∧ (t.isVar = false → (θ x).size < (inst θ t).size) := by
  induction t using Tm.ind with
  | h t ih =>
  intro x hx
  cases hv : t.isVar with
  | true =>
    rw [vars_var hv] at hx
    rw [List.mem_singleton.mp hx, inst_var hv]
    exact ⟨Nat.le_refl _, fun h => by cases h⟩
  | false =>
    rw [vars_eq, hv] at hx
    obtain ⟨k, hk, hxk⟩ := List.mem_flatMap.mp (by simpa using hx)
    have h1 := (ih k hk x hxk).1
    have h2 : inst θ k ∈ (inst θ t).kids := by rw [inst_kids hv]; exact List.mem_map_of_mem hk
    have h3 := Tm.size_kid h2
    exact ⟨by lia, fun _ => by lia⟩
theorem size_reach {σ : Tab} {θ : Str → Tm} (hs : Sol σ θ) {t : Tm} {x : Str} (h : Reach σ t x) : (θ x).size ≤ (inst θ t).size ∧ (t.isVar = false → (θ x).size < (inst θ t).size) := by
  induction h with
  | here hx => exact size_var θ _ _ hx
  | @step t u x y hy hl _ ih =>
    have e : θ y = inst θ u := hs _ (lookT_mem hl)
    have h1 := size_var θ t y hy
    rw [e] at h1
    exact ⟨by lia, fun h => by have := h1.2 h; lia⟩

/-! ranks -/
noncomputable def Ranked (σ : Tab) (ρ : Str → Nat) : Prop := ∀ p ∈ σ, ∀ y ∈ p.2.vars, ρ y < ρ p.1
noncomputable def Acyc (σ : Tab) : Prop := ∃ ρ, Ranked σ ρ
theorem le_sum {l : List Str} {ρ : Str → Nat} {y : Str} (h : y ∈ l) : ρ y ≤ (l.map ρ).sum := by
  induction l with
  | nil => cases h
  | cons a l ih =>
    rw [List.map_cons, List.sum_cons]
    rcases List.mem_cons.mp h with rfl | h
    · lia
    · have := ih h; lia
open Classical in
theorem Acyc.put {σ : Tab} (h : Acyc σ) (hn : (σ.map (·.1)).Nodup) {x : Str} {u : Tm} (hu : ¬ Reach σ u x) : Acyc (σ ++ [(x, u)]) := by
  obtain ⟨ρ, hρ⟩ := h
  let Up : Str → Prop := fun z => z = x ∨ ∃ t, lookT σ z = some t ∧ Reach σ t x
  let M := (u.vars.map ρ).sum + 1
  refine ⟨fun z => if Up z then ρ z + M else ρ z, fun p hp y hy => ?_⟩
  show (if Up y then ρ y + M else ρ y) < if Up p.1 then ρ p.1 + M else ρ p.1
  rcases List.mem_append.mp hp with hp | hp
  · have h1 := hρ p hp y hy
    by_cases hy' : Up y
    · have hl : lookT σ p.1 = some p.2 := lookT_of_mem hn hp
      have hz : Up p.1 := by
        rcases hy' with rfl | ⟨t, ht, hr⟩
        · exact .inr ⟨_, hl, .here hy⟩
        · exact .inr ⟨_, hl, .step hy ht hr⟩
      rw [if_pos hy', if_pos hz]; lia
    · rw [if_neg hy']
      split <;> lia
  · rw [List.mem_singleton] at hp
    subst hp
    have hy' : ¬ Up y := by
      rintro (rfl | ⟨t, ht, hr⟩)
      · exact hu (.here hy)
      · exact hu (.step hy ht hr)
    rw [if_neg hy', if_pos (.inl rfl)]
    have : ρ y ≤ (u.vars.map ρ).sum := le_sum hy
    show ρ y < ρ x + M
    lia

theorem follow_fuel {σ : Tab} {ρ : Str → Nat} (h : Ranked σ ρ) : ∀ (n : Nat) (t : Tm), (t.isVar = true → ρ t.op < n) → Stuck σ (followT σ n t)
  | 0, t, hn => fun hv => absurd (hn hv) (Nat.not_lt_zero _)
  | n + 1, t, hn => by
    unfold followT
    cases hv : t.isVar with
    | false => rw [if_neg (by decide)]; intro h; rw [hv] at h; cases h
    | true =>
      rw [if_pos rfl]
      cases hl : lookT σ t.op with
      | none => exact fun _ => hl
      | some u =>
        refine follow_fuel h n u fun hu => ?_
        have := h _ (lookT_mem hl) u.op (by rw [vars_var hu]; simp)
        have := hn hv
        simp only at *
        lia
theorem Acyc.fuel {σ : Tab} (h : Acyc σ) (t : Tm) : ∃ n, Stuck σ (followT σ n t) := by
  obtain ⟨ρ, hρ⟩ := h
  exact ⟨ρ t.op + 1, follow_fuel hρ _ t fun _ => Nat.lt_succ_self _⟩
theorem follow_inst {σ : Tab} {θ : Str → Tm} (hs : Sol σ θ) : ∀ (n : Nat) (t : Tm), inst θ (followT σ n t) = inst θ t
  | 0, _ => rfl
  | n + 1, t => by
    unfold followT
    cases hv : t.isVar with
    | false => rfl
    | true =>
      rw [if_pos rfl]
      cases hl : lookT σ t.op with
      | none => rfl
      | some u =>
        show inst θ (followT σ n u) = _
        rw [follow_inst hs n u, inst_var hv]
        exact (hs _ (lookT_mem hl)).symm
theorem follow_mem {σ : Tab} {V : Tm → Prop} (hσ : ∀ p ∈ σ, V p.2) : ∀ (n : Nat) (t : Tm), V t → V (followT σ n t)
  | 0, _, h => h
  | n + 1, t, h => by
    unfold followT
    cases hv : t.isVar with
    | false => exact h
    | true =>
      rw [if_pos rfl]
      cases hl : lookT σ t.op with
      | none => exact h
      | some u => exact follow_mem hσ n u (hσ _ (lookT_mem hl))

theorem inst_congr {θ θ' : Str → Tm} (t : Tm) : (∀ y ∈ t.vars, θ y = θ' y) → inst θ t = inst θ' t := by
  induction t using Tm.ind with
  | h t ih =>
  intro h
  cases hv : t.isVar with
  | true =>
    rw [inst_var hv, inst_var hv]
    exact h _ (by rw [vars_var hv]; simp)
  | false =>
    refine Tm.ext_kids (by rw [inst_op hv, inst_op hv]) ?_
    rw [inst_kids hv, inst_kids hv]
    exact List.map_congr_left fun k hk => ih k hk fun y hy => h y (vars_kid hk hy)

noncomputable def solF (σ : Tab) (base : Str → Tm) : Nat → Str → Tm
  | 0, x => base x
  | n + 1, x => match lookT σ x with
    | some u => inst (solF σ base n) u
    | none => base x
theorem solF_stable {σ : Tab} {base : Str → Tm} {ρ : Str → Nat} (h : Ranked σ ρ) : ∀ (k n m : Nat) (x : Str), ρ x < k → ρ x < n → ρ x < m → solF σ base n x = solF σ base m x
  | 0, n, m, x, h1, _, _ => absurd h1 (Nat.not_lt_zero _)
  | k + 1, n, m, x, h1, h2, h3 => by
    obtain ⟨n, rfl⟩ : ∃ n', n = n' + 1 := ⟨n - 1, by lia⟩
    obtain ⟨m, rfl⟩ : ∃ m', m = m' + 1 := ⟨m - 1, by lia⟩
    unfold solF
    cases hl : lookT σ x with
    | none => rfl
    | some u =>
      refine inst_congr u fun y hy => ?_
      have := h _ (lookT_mem hl) y hy
      simp only at this
      exact solF_stable h k n m y (by lia) (by lia) (by lia)
/-- a ranked table has a solution -/
theorem sol_of_rank {σ : Tab} (h : Acyc σ) (hn : (σ.map (·.1)).Nodup) (base : Str → Tm) : ∃ θ, Sol σ θ ∧ ∀ x, lookT σ x = none → θ x = base x := by
  obtain ⟨ρ, hρ⟩ := h
  refine ⟨fun x => solF σ base (ρ x + 1) x, fun p hp => ?_, fun x hx => ?_⟩
  · have hl : lookT σ p.1 = some p.2 := lookT_of_mem hn hp
    show (match lookT σ p.1 with | some u => inst (solF σ base (ρ p.1)) u | none => base p.1) = inst (fun x => solF σ base (ρ x + 1) x) p.2
    rw [hl]
    refine inst_congr p.2 fun y hy => ?_
    have := hρ p hp y hy
    exact solF_stable hρ (ρ y + 1) _ _ y (by lia) (by lia) (by lia)
  · show solF σ base (ρ x + 1) x = _
    unfold solF
    rw [hx]
end Mine
end

section
open PySem PySem.W PySem.Calls PyProof.Rows
set_option maxRecDepth 100000
namespace Mine

noncomputable abbrev TP := List (Tm × Tm)
noncomputable def Eqs (σ : Tab) (a b : Tm) : Prop := ∀ θ, Sol σ θ → inst θ a = inst θ b
noncomputable def Cov (σ : Tab) (W Z : TP) (a b : Tm) : Prop := (a, b) ∈ W ∨ ∃ p ∈ Z, Eqs σ a p.1 ∧ Eqs σ b p.2
noncomputable def Link (σ : Tab) (W Z : TP) (p : Tm × Tm) : Prop :=
  Eqs σ p.1 p.2 ∨ (p.1.isVar = false ∧ p.2.isVar = false ∧ p.1.op = p.2.op ∧ p.1.kids.length = p.2.kids.length ∧ ∀ k ∈ p.1.kids.zip p.2.kids, Cov σ W Z k.1 k.2)

structure BInv (r1 r2 : Tm) (V : List Tm) (σ : Tab) (W Z : TP) : Prop where
  nd : (σ.map (·.1)).Nodup
  ac : Acyc σ
  val : ∀ p ∈ σ, p.2 ∈ V ∧ isQ p.1 = true ∧ Tm.leaf p.1 ∈ V
  wv : ∀ p ∈ W, p = (r1, r2) ∨ (p.1 ∈ V ∧ p.2 ∈ V)
  zv : ∀ p ∈ Z, p = (r1, r2) ∨ (p.1 ∈ V ∧ p.2 ∈ V)
  com : ∀ θ, inst θ r1 = inst θ r2 → Sol σ θ ∧ ∀ p ∈ W, inst θ p.1 = inst θ p.2
  root : Cov σ W Z r1 r2
  lk : ∀ p ∈ Z, Link σ W Z p

theorem Sol.left {σ τ : Tab} {θ : Str → Tm} (h : Sol (σ ++ τ) θ) : Sol σ θ := fun p hp => h p (List.mem_append_left _ hp)

theorem Cov.eqs {σ : Tab} {W Z : TP} {a b : Tm} {θ : Str → Tm} (hs : Sol σ θ) (hW : ∀ p ∈ W, inst θ p.1 = inst θ p.2) (hZ : ∀ p ∈ Z, (inst θ p.1).size < (inst θ a).size + 1 → inst θ p.1 = inst θ p.2) (h : Cov σ W Z a b) : inst θ a = inst θ b := by
  rcases h with h | ⟨p, hp, h1, h2⟩
  · exact hW _ h
  · rw [h1 θ hs, h2 θ hs]
    exact hZ p hp (by rw [h1 θ hs]; lia)
theorem link_all {σ : Tab} {Z : TP} {θ : Str → Tm} (hs : Sol σ θ) (lk : ∀ p ∈ Z, Link σ [] Z p) : ∀ (n : Nat) (p : Tm × Tm), p ∈ Z → (inst θ p.1).size < n → inst θ p.1 = inst θ p.2
  | 0, _, _, h => absurd h (Nat.not_lt_zero _)
  | n + 1, p, hp, h => by
    rcases lk p hp with h1 | ⟨v1, v2, ho, hl, hk⟩
    · exact h1 θ hs
    · refine inst_eq_of v1 v2 ho ?_
      have hsz : ∀ k ∈ p.1.kids, (inst θ k).size < n := fun k hk' => by
        have : inst θ k ∈ (inst θ p.1).kids := by rw [inst_kids v1]; exact List.mem_map_of_mem hk'
        have := Tm.size_kid this
        lia
      generalize p.1.kids = l at hl hk hsz
      generalize p.2.kids = r at hl hk
      induction l generalizing r with
      | nil => cases r with
        | nil => rfl
        | cons b r => simp at hl
      | cons a l ih =>
        cases r with
        | nil => simp at hl
        | cons b r =>
          have hc := hk (a, b) (by simp)
          have e1 : inst θ a = inst θ b := Cov.eqs hs (fun p hp => by cases hp) (fun q hq hlt => link_all hs lk n q hq (by have := hsz a (by simp); lia)) hc
          rw [List.map_cons, List.map_cons, e1, ih (fun k hk' => hsz k (by simp [hk'])) r (by simpa using hl) (fun k hk' => hk k (by simp [hk']))]

namespace BInv
variable {r1 r2 : Tm} {V : List Tm} {σ : Tab} {W Z : TP}

theorem fin (I : BInv r1 r2 V σ [] Z) : ∀ θ, Sol σ θ → inst θ r1 = inst θ r2 := fun θ hs =>
  Cov.eqs hs (fun p hp => by cases hp) (fun q hq _ => link_all hs I.lk _ q hq (Nat.lt_succ_self _)) I.root

theorem start (h1 : r1.isVar = false) : BInv r1 r2 V [] [(r1, r2)] [] where
  nd := List.nodup_nil
  ac := ⟨fun _ => 0, fun p hp => (by cases hp)⟩
  val := fun p hp => by cases hp
  wv := fun p hp => .inl (by simpa using hp)
  zv := fun p hp => by cases hp
  com := fun θ h => ⟨fun p hp => (by cases hp), fun p hp => by rw [List.mem_singleton.mp hp]; exact h⟩
  root := .inl (by simp)
  lk := fun p hp => by cases hp

/-- a step: the popped pair is covered, the rest is kept -/
theorem step {a b p q : Tm} {τ : Tab} {K : TP} {Z' : TP} (I : BInv r1 r2 V σ (W ++ [(a, b)]) Z) (hZ : ∀ x ∈ Z, x ∈ Z') (hpq : (p, q) ∈ Z') (ha : Eqs σ a p) (hb : Eqs σ b q)
    (nd : ((σ ++ τ).map (·.1)).Nodup) (ac : Acyc (σ ++ τ)) (val : ∀ x ∈ τ, x.2 ∈ V ∧ isQ x.1 = true ∧ Tm.leaf x.1 ∈ V) (wv : ∀ x ∈ K, x.1 ∈ V ∧ x.2 ∈ V) (zv : ∀ x ∈ Z', x ∈ Z ∨ x = (r1, r2) ∨ (x.1 ∈ V ∧ x.2 ∈ V))
    (com : ∀ θ, Sol σ θ → inst θ a = inst θ b → (∀ x ∈ τ, θ x.1 = inst θ x.2) ∧ ∀ x ∈ K, inst θ x.1 = inst θ x.2)
    (lk : ∀ x ∈ Z', x ∈ Z ∨ Link (σ ++ τ) (W ++ K) Z' x) : BInv r1 r2 V (σ ++ τ) (W ++ K) Z' := by
  have eqs : ∀ {x y : Tm}, Eqs σ x y → Eqs (σ ++ τ) x y := fun h θ hs => h θ hs.left
  have cov : ∀ {x y : Tm}, Cov σ (W ++ [(a, b)]) Z x y → Cov (σ ++ τ) (W ++ K) Z' x y := by
    intro x y h
    rcases h with h | ⟨z, hz, h1, h2⟩
    · rcases List.mem_append.mp h with h | h
      · exact .inl (List.mem_append_left _ h)
      · have e := List.mem_singleton.mp h
        cases e
        exact .inr ⟨(p, q), hpq, eqs ha, eqs hb⟩
    · exact .inr ⟨z, hZ z hz, eqs h1, eqs h2⟩
  refine ⟨nd, ac, fun x hx => ?_, fun x hx => ?_, fun x hx => ?_, fun θ h => ?_, cov I.root, fun x hx => ?_⟩
  · rcases List.mem_append.mp hx with hx | hx
    · exact I.val x hx
    · exact val x hx
  · rcases List.mem_append.mp hx with hx | hx
    · exact I.wv x (List.mem_append_left _ hx)
    · exact .inr (wv x hx)
  · rcases zv x hx with h | h
    · exact I.zv x h
    · exact h
  · obtain ⟨h1, h2⟩ := I.com θ h
    obtain ⟨h3, h4⟩ := com θ h1 (h2 (a, b) (by simp))
    refine ⟨fun x hx => ?_, fun x hx => ?_⟩
    · rcases List.mem_append.mp hx with hx | hx
      · exact h1 x hx
      · exact h3 x hx
    · rcases List.mem_append.mp hx with hx | hx
      · exact h2 x (List.mem_append_left _ hx)
      · exact h4 x hx
  · rcases lk x hx with h | h
    · rcases I.lk x h with h | ⟨v1, v2, ho, hl, hk⟩
      · exact .inl (eqs h)
      · exact .inr ⟨v1, v2, ho, hl, fun k hk' => cov (hk k hk')⟩
    · exact h

/-- what following gives -/
theorem followed {a b : Tm} {n k : Nat} (I : BInv r1 r2 V σ (W ++ [(a, b)]) Z) (h1 : r1.isVar = false) (h2 : r2.isVar = false) :
    Eqs σ a (followT σ n a) ∧ Eqs σ b (followT σ k b) ∧ ((followT σ n a, followT σ k b) = (r1, r2) ∨ (followT σ n a ∈ V ∧ followT σ k b ∈ V)) := by
  refine ⟨fun θ hs => (follow_inst hs n a).symm, fun θ hs => (follow_inst hs k b).symm, ?_⟩
  rcases I.wv (a, b) (by simp) with e | ⟨m1, m2⟩
  · cases e
    rw [followT_stuck (fun h => by rw [h1] at h; cases h), followT_stuck (fun h => by rw [h2] at h; cases h)]
    exact .inl rfl
  · exact .inr ⟨follow_mem (V := (· ∈ V)) (fun p hp => (I.val p hp).1) n a m1, follow_mem (V := (· ∈ V)) (fun p hp => (I.val p hp).1) k b m2⟩

theorem seen {a b p q : Tm} (I : BInv r1 r2 V σ (W ++ [(a, b)]) Z) (ha : Eqs σ a p) (hb : Eqs σ b q) (hm : (p, q) ∈ Z) : BInv r1 r2 V σ W Z := by
  have := I.step (τ := []) (K := []) (Z' := Z) (fun _ h => h) hm ha hb (by simpa using I.nd) (by simpa using I.ac) (fun x hx => by cases hx) (fun x hx => by cases hx) (fun x hx => .inl hx) (fun θ _ _ => ⟨fun x hx => (by cases hx), fun x hx => (by cases hx)⟩) (fun x hx => .inl hx)
  simpa using this

theorem same {a b p q : Tm} (I : BInv r1 r2 V σ (W ++ [(a, b)]) Z) (ha : Eqs σ a p) (hb : Eqs σ b q) (hv : (p, q) = (r1, r2) ∨ (p ∈ V ∧ q ∈ V)) (e : p = q) : BInv r1 r2 V σ W (Z ++ [(p, q)]) := by
  have := I.step (τ := []) (K := []) (Z' := Z ++ [(p, q)]) (fun _ h => List.mem_append_left _ h) (by simp) ha hb (by simpa using I.nd) (by simpa using I.ac) (fun x hx => by cases hx) (fun x hx => by cases hx)
    (fun x hx => by
      rcases List.mem_append.mp hx with hx | hx
      · exact .inl hx
      · rw [List.mem_singleton.mp hx]; exact .inr hv) (fun θ _ _ => ⟨fun x hx => (by cases hx), fun x hx => (by cases hx)⟩)
    (fun x hx => by
      rcases List.mem_append.mp hx with hx | hx
      · exact .inl hx
      · rw [List.mem_singleton.mp hx]; exact .inr (.inl fun θ _ => by rw [e]))
  simpa using this

theorem kids {a b p q : Tm} (I : BInv r1 r2 V σ (W ++ [(a, b)]) Z) (ha : Eqs σ a p) (hb : Eqs σ b q) (hv : (p, q) = (r1, r2) ∨ (p ∈ V ∧ q ∈ V)) (hV : ∀ t, (t = r1 ∨ t = r2 ∨ t ∈ V) → ∀ k ∈ t.kids, k ∈ V)
    (v1 : p.isVar = false) (v2 : q.isVar = false) (ho : p.op = q.op) (hl : p.kids.length = q.kids.length) : BInv r1 r2 V σ (W ++ p.kids.zip q.kids) (Z ++ [(p, q)]) := by
  have := I.step (τ := []) (K := p.kids.zip q.kids) (Z' := Z ++ [(p, q)]) (fun _ h => List.mem_append_left _ h) (by simp) ha hb (by simpa using I.nd) (by simpa using I.ac) (fun x hx => by cases hx)
    (fun x hx => by
      obtain ⟨h1, h2⟩ := List.of_mem_zip hx
      rcases hv with e | ⟨m1, m2⟩
      · cases e
        exact ⟨hV r1 (.inl rfl) _ h1, hV r2 (.inr (.inl rfl)) _ h2⟩
      · exact ⟨hV p (.inr (.inr m1)) _ h1, hV q (.inr (.inr m2)) _ h2⟩)
    (fun x hx => by
      rcases List.mem_append.mp hx with hx | hx
      · exact .inl hx
      · rw [List.mem_singleton.mp hx]; exact .inr hv) (fun θ hs e => ⟨fun x hx => (by cases hx), fun x hx => by
        rw [ha θ hs, hb θ hs] at e
        have e2 : p.kids.map (inst θ) = q.kids.map (inst θ) := by rw [← inst_kids v1, ← inst_kids v2, e]
        obtain ⟨i, hi⟩ := List.mem_iff_getElem?.mp hx
        obtain ⟨x1, x2⟩ := x
        rw [List.getElem?_zip_eq_some] at hi
        have e3 := congrArg (·[i]?) e2
        simp only [List.getElem?_map, hi.1, hi.2, Option.map_some, Option.some.injEq] at e3
        exact e3⟩)
    (fun x hx => by
      rcases List.mem_append.mp hx with hx | hx
      · exact .inl hx
      · rw [List.mem_singleton.mp hx]; exact .inr (.inr ⟨v1, v2, ho, hl, fun k hk => .inl (List.mem_append_right _ hk)⟩))
  simpa using this

theorem bind {a b p q h t : Tm} (I : BInv r1 r2 V σ (W ++ [(a, b)]) Z) (ha : Eqs σ a p) (hb : Eqs σ b q) (hv : p ∈ V ∧ q ∈ V) (hht : (h, t) = (p, q) ∨ (h, t) = (q, p)) (vh : h.isVar = true) (hl : lookT σ h.op = none) (hr : ¬ Reach σ t h.op) :
    BInv r1 r2 V (σ ++ [(h.op, t)]) W (Z ++ [(p, q)]) := by
  obtain ⟨eh, hq⟩ := isVar_iff.mp vh
  have hm : h ∈ V ∧ t ∈ V := by rcases hht with e | e <;> (cases e; first | exact hv | exact ⟨hv.2, hv.1⟩)
  have hnm : h.op ∉ σ.map (·.1) := fun hm => by have := lookT_some.mpr hm; rw [hl] at this; cases this
  have := I.step (τ := [(h.op, t)]) (K := []) (Z' := Z ++ [(p, q)]) (fun _ h => List.mem_append_left _ h) (by simp) ha hb
    (by
      rw [List.map_append, List.nodup_append]
      refine ⟨I.nd, by simp, fun x hx y hy => ?_⟩
      simp only [List.map_cons, List.map_nil, List.mem_singleton] at hy
      subst hy
      exact fun e => hnm (e ▸ hx))
    (I.ac.put I.nd hr) (fun x hx => by
      rw [List.mem_singleton.mp hx]
      exact ⟨hm.2, hq, by rw [← eh]; exact hm.1⟩) (fun x hx => by cases hx)
    (fun x hx => by
      rcases List.mem_append.mp hx with hx | hx
      · exact .inl hx
      · rw [List.mem_singleton.mp hx]; exact .inr (.inr hv))
    (fun θ hs e => ⟨fun x hx => by
      rw [List.mem_singleton.mp hx]
      rw [ha θ hs, hb θ hs] at e
      show θ h.op = inst θ t
      rw [← inst_var (θ := θ) vh]
      rcases hht with e' | e' <;> cases e'
      · exact e
      · exact e.symm, fun x hx => (by cases hx)⟩)
    (fun x hx => by
      rcases List.mem_append.mp hx with hx | hx
      · exact .inl hx
      · rw [List.mem_singleton.mp hx]
        refine .inr (.inl fun θ hs => ?_)
        have e : θ h.op = inst θ t := hs (h.op, t) (by simp)
        rw [← inst_var (θ := θ) vh] at e
        rcases hht with e' | e' <;> cases e'
        · exact e
        · exact e.symm)
  simpa using this

/-- no solution: other heads -/
theorem clash {a b p q : Tm} (I : BInv r1 r2 V σ (W ++ [(a, b)]) Z) (ha : Eqs σ a p) (hb : Eqs σ b q) (v1 : p.isVar = false) (v2 : q.isVar = false) (h : p.op ≠ q.op ∨ p.kids.length ≠ q.kids.length) : ∀ θ, inst θ r1 ≠ inst θ r2 := by
  intro θ e
  obtain ⟨hs, h2⟩ := I.com θ e
  have e2 := h2 (a, b) (by simp)
  simp only at e2
  rw [ha θ hs, hb θ hs] at e2
  rcases h with h | h
  · exact h (by rw [← inst_op v1 (θ := θ), ← inst_op v2 (θ := θ), e2])
  · refine h ?_
    have := congrArg (fun t => t.kids.length) e2
    simpa [inst_kids v1, inst_kids v2] using this

/-- no solution: a ring -/
theorem ring {a b p q h t : Tm} (I : BInv r1 r2 V σ (W ++ [(a, b)]) Z) (ha : Eqs σ a p) (hb : Eqs σ b q) (hht : (h, t) = (p, q) ∨ (h, t) = (q, p)) (vh : h.isVar = true) (hne : h ≠ t) (hst : Stuck σ t) (hr : Reach σ t h.op) : ∀ θ, inst θ r1 ≠ inst θ r2 := by
  intro θ e
  obtain ⟨hs, h2⟩ := I.com θ e
  have e2 := h2 (a, b) (by simp)
  simp only at e2
  rw [ha θ hs, hb θ hs] at e2
  have e3 : inst θ h = inst θ t := by rcases hht with e' | e' <;> cases e' <;> first | exact e2 | exact e2.symm
  cases vt : t.isVar with
  | false =>
    have := (size_reach hs hr).2 vt
    rw [inst_var vh] at e3
    rw [e3] at this
    exact Nat.lt_irrefl _ this
  | true =>
    have hl := hst vt
    cases hr with
    | here hx =>
      rw [vars_var vt, List.mem_singleton] at hx
      refine hne ?_
      rw [(isVar_iff.mp vh).1, (isVar_iff.mp vt).1, hx]
    | step hy hl' _ =>
      rw [vars_var vt, List.mem_singleton] at hy
      subst hy
      rw [hl] at hl'; cases hl'
end BInv
end Mine
end

section
open PySem PySem.W PySem.Calls PyProof.Rows
set_option maxRecDepth 100000
namespace Mine

section
variable {w : World} {A : Around} {E : Value → Shared → Prop} {s : Shared} {env : Env}
inductive Swap3 (w : World) (A : Around) (E : Value → Shared → Prop) (env : Env) (x y z : Str) (Q : Flow → Shared → Prop) (v : Value) (s₁ : Shared) : Prop
  | mk (t : Addr) (a b c : Value) (T : Heap) (m : Str → Option Value) (own : Own) (S T₀ : Heap) (s₀ : Shared) (L : Addr) (hv : v = .ref t) (X : Fx S T₀ s₀ T L m own s₁) (ht : IsTup T t [a, b, c].toArray) (hh : A.handled = none)
      (h : ∀ s', Fx S T₀ s₀ T L m own s' → wpAny (model PR w) A (storeName env z c) (fun _ s₂ => wpAny (model PR w) A (storeName env y b) (fun _ s₃ => wpAny (model PR w) A (storeName env x a) (fun _ => Q .next) E s₃) E s₂) E s')
/-- three unpacked, their stores swapped -/
theorem x_swap3 {elts k tpos value pos} {x y z : Str} {Q : Flow → Shared → Prop}
    (h : wpAny (model PR w) A (eval value env) (Swap3 w A E env x y z Q) E s)
    (hs : swapsWithSole [.Tuple elts k tpos] value pos.line env = pure false := by rfl)
    (hw : swappedStores [.Tuple elts k tpos] value env = pure (some [x, y, z]) := by rfl) :
    wpAny (model PR w) A (exec (.Assign [.Tuple elts k tpos] value pos) env) Q E s := by
  refine Assign_Tuple_swapped (names := [x, y, z]) (wpAny_mono h (fun v s₁ h₁ => ?_) fun _ _ x => x) hs hw
  obtain ⟨t, a, b, c, T, m, own, S, T₀, s₀, L, rfl, X, ht, hh, h⟩ := h₁
  show wpAny _ _ (unpackItems (.ref t) [a, b, c].toArray.size none) _ _ _
  refine unpackItems_tuple hh (ht.keeps X.st.kT) fun h' he => ?_
  show wpAny _ _ (assignInOrder [bindName env z, bindName env y, bindName env x] [c, b, a]) _ _ _
  have := h { s₁ with heap := h' } ⟨X.st.grow fun b o e => he b o (Nat.ne_of_lt (Heap.lt_size e)) e, X.gr, X.sm⟩
  refine assignInOrder_cons (wpAny_bindName (wpAny_mono this (fun _ s2 h2 => ?_) fun _ _ x => x))
  refine assignInOrder_cons (wpAny_bindName (wpAny_mono h2 (fun _ s3 h3 => ?_) fun _ _ x => x))
  exact assignInOrder_cons (wpAny_bindName (wpAny_mono h3 (fun _ s3 h3 => assignInOrder_nil h3) fun _ _ x => x))
end

theorem Fx.perm {S T₀ : Heap} {s₀ s : Shared} {T : Heap} {L : Addr} {m : Str → Option Value} {own own' : Own} (X : Fx S T₀ s₀ T L m own s) (h : own'.Perm own) : Fx S T₀ s₀ T L m own' s := ⟨X.st.perm (List.Perm.cons _ h), X.gr, X.sm⟩
/-- a dict of our own is frozen -/
theorem Fx.freezeD {w : World} {S T₀ : Heap} {s₀ s : Shared} {T : Heap} {L : Addr} {m : Str → Option Value} {own : Own} {l : Addr} {kvs : List (Str × Value)} (X : Fx S T₀ s₀ T L m ((l, DctO w kvs) :: own) s) (G : Gnd w T) : ∃ T', Ev T T' ∧ Dct w T' l kvs ∧ Fx S T₀ s₀ T' L m own s := by
  have D := X.dct G (i := 0) rfl
  obtain ⟨T', o, g, ho, hO, x⟩ := X.st.freeze1
  exact ⟨T', g.1, ⟨Heap.dictOf_iff.mpr ⟨o, ho, hO⟩, D.2⟩, x, X.gr.trans g, X.sm⟩

inductive PairV (T : Heap) (v : Value) (p : Tm × Tm) : Prop
  | mk (a : Addr) (x y : Value) (e : v = .ref a) (h : IsTup T a #[x, y]) (h1 : TmIn T p.1 x) (h2 : TmIn T p.2 y)
theorem PairV.ev {T T' : Heap} (k : Ev T T') {v : Value} {p : Tm × Tm} (h : PairV T v p) : PairV T' v p := by
  obtain ⟨a, x, y, e, i, j, l⟩ := h
  exact ⟨a, x, y, e, i.keeps k, j.ev k, l.ev k⟩

theorem pair_zip {T : Heap} {ys1 : List Value} {l1 : List Tm} (h1 : All2 (fun x k => TmIn T k x) ys1 l1) : ∀ {ys2 : List Value} {l2 : List Tm} {ps : List Value}, All2 (fun x k => TmIn T k x) ys2 l2 →
    All2 (fun (v : Value) (xy : Value × Value) => ∃ p, v = .ref p ∧ IsTup T p #[xy.1, xy.2]) ps (ys1.zip ys2) → All2 (PairV T) ps (l1.zip l2) := by
  induction h1 with
  | nil => intro ys2 l2 ps h2 h; simp at h; cases h; simpa using All2.nil
  | cons ha _ ih =>
    intro ys2 l2 ps h2 h
    cases h2 with
    | nil => simp at h; cases h; simpa using All2.nil
    | cons hb t2 =>
      rw [List.zip_cons_cons] at h ⊢
      cases h with
      | cons hc tc =>
        obtain ⟨p, rfl, hp⟩ := hc
        exact .cons ⟨p, _, _, rfl, hp, ha, hb⟩ (ih t2 tc)

noncomputable def BKeys (m : Str → Option Value) (wl sd tb : Addr) : Prop := m (Str.ofString "waiting") = some (.ref wl) ∧ m (Str.ofString "seen") = some (.ref sd) ∧ m (Str.ofString "table") = some (.ref tb)
noncomputable def pairsV (r1 r2 : Tm) (V : List Tm) : TP := (r1, r2) :: V.flatMap fun a => V.map fun b => (a, b)
theorem pairsV_mem {r1 r2 : Tm} {V : List Tm} {p : Tm × Tm} (h : p = (r1, r2) ∨ (p.1 ∈ V ∧ p.2 ∈ V)) : p ∈ pairsV r1 r2 V := by
  rcases h with rfl | ⟨h1, h2⟩
  · exact List.mem_cons_self
  · exact List.mem_cons_of_mem _ (List.mem_flatMap.mpr ⟨p.1, h1, List.mem_map.mpr ⟨p.2, h2, rfl⟩⟩)
theorem pairsV_len (r1 r2 : Tm) (V : List Tm) : (pairsV r1 r2 V).length = 1 + V.length * V.length := by
  have : ∀ (l : List Tm), (l.flatMap fun a => V.map fun b => (a, b)).length = l.length * V.length := by
    intro l
    induction l with
    | nil => simp
    | cons a l ih => rw [List.flatMap_cons, List.length_append, ih]; simp [Nat.add_mul, Nat.add_comm]
  unfold pairsV
  rw [List.length_cons, this]; lia

inductive BWalk (w : World) (r1 r2 : Tm) (V : List Tm) (wl sd tb : Addr) (n : Nat) (T' : Heap) (m : Str → Option Value) (own : Own) : Prop
  | mk (ws : List Value) (W : TP) (zs : List ((Tm × Tm) × Addr × Value)) (kvs : List (Str × Value)) (σ : Tab) (e : own = [(wl, LstO ws), (sd, SeenO w zs), (tb, DctO w kvs)]) (hm : BKeys m wl sd tb) (hws : All2 (PairV T') ws W) (hk : KeysIn T' zs) (hσ : TabIn T' kvs σ)
    (I : BInv r1 r2 V σ W (zs.map (·.1))) (hz : ws.length ≤ 1 + 7 * zs.length) (hn : n = ws.length + 7 * (1 + V.length * V.length - zs.length))

noncomputable def BegunPost (w : World) (r1 r2 : Tm) (V : List Tm) (T' : Heap) (r : Value) : Prop :=
  (r = .none ∧ ∀ θ, inst θ r1 ≠ inst θ r2) ∨
  ∃ tb kvs σ, r = .ref tb ∧ Dct w T' tb kvs ∧ TabIn T' kvs σ ∧ Acyc σ ∧ (σ.map (·.1)).Nodup ∧ (∀ p ∈ σ, p.2 ∈ V ∧ isQ p.1 = true ∧ Tm.leaf p.1 ∈ V) ∧ ∀ θ, Sol σ θ → inst θ r1 = inst θ r2

/-- what the two terms must be like -/
structure Fit (r1 r2 : Tm) (V : List Tm) : Prop where
  n1 : r1.isVar = false
  n2 : r2.isVar = false
  kid : ∀ t, (t = r1 ∨ t = r2 ∨ t ∈ V) → ∀ k ∈ t.kids, k ∈ V
  dep : ∀ t, (t = r1 ∨ t = r2 ∨ t ∈ V) → t.depth ≤ 6
  siz : ∀ t ∈ V, t.size ≤ 40
  len : V.length ≤ 60

theorem seen_len {w : World} {r1 r2 : Tm} {V : List Tm} {zs : List ((Tm × Tm) × Addr × Value)} {o : Obj} (h : SeenO w zs o) (hz : ∀ p ∈ zs.map (·.1), p = (r1, r2) ∨ (p.1 ∈ V ∧ p.2 ∈ V)) : zs.length ≤ 1 + V.length * V.length := by
  obtain ⟨_, _, _, _, _, hn⟩ := h
  have := hn.length_le_of_subset (l₂ := pairsV r1 r2 V) fun p hp => pairsV_mem (hz p hp)
  rw [pairsV_len] at this
  simpa using this

theorem key_len {V : List Tm} {σ : Tab} (hn : (σ.map (·.1)).Nodup) (hv : ∀ p ∈ σ, Tm.leaf p.1 ∈ V) : σ.length ≤ V.length := by
  have h1 : (σ.map fun p => Tm.leaf p.1).Nodup := by
    have : (σ.map fun p => Tm.leaf p.1) = (σ.map (·.1)).map Tm.leaf := by rw [List.map_map]; rfl
    rw [this]
    exact List.pairwise_map.mpr (hn.imp fun h e => h (by injection e))
  have := h1.length_le_of_subset (l₂ := V) fun t ht => by
    obtain ⟨p, hp, rfl⟩ := List.mem_map.mp ht
    exact hv p hp
  simpa using this

/-- the two, swapped where the one is no variable -/
inductive Swapped (S T₀ : Heap) (s₀ : Shared) (L : Addr) (own : Own) (Tb : Heap) (wl sd tb : Addr) (p q : Tm) (f : Flow) (s' : Shared) : Prop
  | mk (hf : f = Flow.next) (h t : Tm) (xh xt : Value) (T' : Heap) (m' : Str → Option Value) (k : Ev Tb T') (X : Fx S T₀ s₀ T' L m' own s') (hm : BKeys m' wl sd tb) (h1 : m' (Str.ofString "here") = some xh) (h2 : m' (Str.ofString "there") = some xt)
      (h3 : TmIn T' h xh) (h4 : TmIn T' t xt) (ho : (h, t) = (p, q) ∨ (h, t) = (q, p)) (hv : h.isVar = false → (h, t) = (p, q) ∧ t.isVar = false)

set_option maxHeartbeats 3200000 in
theorem begun_spec {w : World} {r1 r2 : Tm} {V : List Tm} {T : Heap} {s : Shared} {v1 v2 : Value} (H : Fit r1 r2 V) (G : Gnd w T) (kT : Ev T s.heap) (ht1 : TmIn T r1 v1) (ht2 : TmIn T r2 v2) : Spec w 98 45 [v1, v2] T s (BegunPost w r1 r2 V) := by
  refine enter (d := 44) (binds := [(Str.ofString "one", v1), (Str.ofString "other", v2)]) (G.fn (i := 13) (by decide)) G.lim kT (fun _ _ _ _ _ => rfl) rfl (by decide +kernel) ?_
  intro A cd s₁ E Sh Lo Qf kS r X hQ
  conv in dBody _ => whnf
  have hB : 1 + V.length * V.length ≤ 3601 := by
    have := Nat.mul_le_mul H.len H.len
    lia
  -- table, waiting, seen = {}, [(one, other)], {}
  refine wpAny_execs_cons (x_swap3 (x := Str.ofString "table") (y := Str.ofString "waiting") (z := Str.ofString "seen") (e_tuple (args_cons ?_)))
  refine e_dict0 X fun tb s2 X2 => args_cons ?_
  refine e_list (args_cons ?_)
  refine e_tuple (args_cons (e_loc X2 rfl (args_cons (e_loc X2 rfl (args_nil ⟨_, _, _, _, _, _, _, X2, by simp, fun pa T3 s3 X3 k3 hpa => args_nil ⟨_, _, _, _, _, _, _, X3, by simp, fun wl s4 X4 => args_cons ?_⟩⟩)))))
  refine e_seen0 (w := w) X4 fun sd s5 X5 => args_nil ⟨_, _, _, _, _, _, _, X5, by simp, fun ta T6 s6 X6 k6 hta => ⟨ta, .ref tb, .ref wl, .ref sd, _, _, _, _, _, _, _, rfl, X6, hta, r.hh, fun s7 X7 => ?_⟩⟩
  refine s_loc X7 fun s8 X8 => s_loc X8 fun s9 X9 => s_loc X9 fun s10 X10 => ?_
  have X10' := X10.perm (own' := [(wl, LstO [.ref pa]), (sd, SeenO w []), (tb, DctO w [])]) (List.Perm.swap ..)
  have G6 := (G.keeps k3).keeps k6
  refine wpAny_execs_cons (wpAny_While ?_)
  refine loop_while (Tb := T6)
    (BWalk w r1 r2 V wl sd tb) ?_ (n := 1 + 7 * (1 + V.length * V.length)) (Ev.refl _) X10'
      ⟨[.ref pa], [(r1, r2)], [], [], [], rfl, ⟨rfl, rfl, rfl⟩, .cons ⟨pa, v1, v2, rfl, hpa.keeps k6, (ht1.ev k3).ev k6, (ht2.ev k3).ev k6⟩ .nil, fun x hx => (by cases hx), .nil, BInv.start H.n1, by simp, by simp⟩
  · rintro n T5 m own s11 E' k5 X11 ⟨ws, W, zs, kvs, σ, rfl, hm, hws, hkz, hσ, I, hwl, rfl⟩ Q1 Qe hnx hb hr
    have G5 := G6.keeps k5
    have hzl : zs.length ≤ 1 + V.length * V.length := by
      obtain ⟨o, ho, hO⟩ := X11.open1 (i := 1) rfl
      exact seen_len hO I.zv
    refine wpAny_isTrue_Compare1 (e_len X11 G5 (e_loc X11 hm.1 ⟨_, _, rfl, .inr (lst_of (i := 0) X11 rfl), by simp; lia, fun t12 s12 u12 => ?_⟩))
    refine e_int fun t13 s13 u13 => gt_int (wpAny_truthy_bool ?_)
    have X13 := (X11.up u12).up u13
    rcases snoc_cases ws with rfl | ⟨ws', x, rfl⟩
    · rw [if_neg (by simp)]
      cases hws
      refine (hb _ ?_).2
      show wpAny _ _ _ _ _ _
      refine wpAny_execs_cons (wpAny_Return_some (e_loc X13 hm.2.2 ?_))
      obtain ⟨T7, k7, D7, X7'⟩ := X13.drop.drop.freezeD G5
      exact hQ _ _ <| X7'.done (.inr ⟨tb, kvs, σ, rfl, D7, hσ.ev k7, I.ac, I.nd, I.val, I.fin⟩)
    · rw [if_pos (by simp)]
      obtain ⟨W', ab, rfl, hws', hx⟩ := hws.unsnoc
      obtain ⟨a, b⟩ := ab
      obtain ⟨xa, va, vb, rfl, hxa, hva, hvb⟩ := hx
      -- here, there = waiting.pop()
      refine x_cons (fun Qα nα rα cα => Assign_Tuple (MethodCall_ (e_loc X13 hm.1 (m_list (i := 0) (xs := ws' ++ [.ref xa]) PySem.F.slot_list_pop (by with_unfolding_all rfl) X13 rfl (callWith_method0 ?_)))))
      refine c_pop (i := 0) X13 rfl (by simp at hwl; lia) fun s14 X14 => ?_
      refine s_unpack (xs := [va, vb]) X14 hxa r.hh fun s15 X15 => assignInOrder_cons (wpAny_assign_Name (s_loc X15 fun s16 X16 => assignInOrder_cons (wpAny_assign_Name (s_loc X16 fun s17 X17 => assignInOrder_nil ?_))))
      have X17' : Fx Sh T s T5 Lo _ [(wl, LstO ws'), (sd, SeenO w zs), (tb, DctO w kvs)] s17 := X17
      -- followed
      obtain ⟨n1, hn1⟩ := I.ac.fuel a
      obtain ⟨n2, hn2⟩ := I.ac.fuel b
      obtain ⟨ea, eb, hpq⟩ := I.followed (n := n1) (k := n2) H.n1 H.n2
      have hst1 := hn1
      have hst2 := hn2
      have D17 := X17'.dct G5 (i := 2) rfl
      refine nα _ <| x_cons (fun Qα nα rα cα => x_swap2 (x := Str.ofString "here") (y := Str.ofString "there") (e_tuple (args_cons ?_)))
      refine e_call X17' G5 rfl (by decide) (args_cons (e_loc X17' rfl (args_cons (e_loc X17' hm.2.2 (args_nil ⟨X17'.st.kT, use_spec X17' (followed_spec n1 G5 X17'.st.kT hva D17 hσ hn1) (r.mono (by lia)) fun p1 s18 T7 X18 k7 hp1 => args_cons ?_⟩)))))
      have G7 := G5.keeps k7
      have D18 := X18.dct G7 (i := 2) rfl
      refine e_call X18 G7 rfl (by decide) (args_cons (e_loc X18 rfl (args_cons (e_loc X18 hm.2.2 (args_nil ⟨X18.st.kT, use_spec X18 (followed_spec n2 G7 X18.st.kT (hvb.ev k7) D18 (hσ.ev k7) hn2) (r.mono (by lia)) fun p2 s19 T8 X19 k8 hp2 => ?_⟩)))))
      refine args_nil ⟨_, _, _, _, _, _, _, X19, by simp, fun ta2 T9 s20 X20 k9 hta2 => ⟨ta2, p1, p2, _, _, _, _, _, _, _, rfl, X20, hta2, r.hh, fun s21 X21 => s_loc X21 fun s22 X22 => s_loc X22 fun s23 X23 => ?_⟩⟩
      generalize hp : followT σ n1 a = p at *
      generalize hq : followT σ n2 b = q at *
      have G9 := (G7.keeps k8).keeps k9
      have hp9 : TmIn T9 p p1 := (hp1.ev k8).ev k9
      have hq9 : TmIn T9 q p2 := hp2.ev k9
      have kk := (k7.trans k8).trans k9
      have hpd : p.depth ≤ 6 := by rcases hpq with e | ⟨m1, _⟩; (cases e; exact H.dep _ (.inl rfl)); exact H.dep _ (.inr (.inr m1))
      have hqd : q.depth ≤ 6 := by rcases hpq with e | ⟨_, m1⟩; (cases e; exact H.dep _ (.inr (.inl rfl))); exact H.dep _ (.inr (.inr m1))
      -- if (here, there) in seen
      refine nα _ <| x_cons (fun Qα nα rα cα => wpAny_If (wpAny_isTrue_Compare1 (e_tuple (args_cons (e_loc X23 rfl (args_cons (e_loc X23 rfl (args_nil ⟨_, _, _, _, _, _, _, X23, by simp, fun ka T10 s24 X24 k10 hka => ?_⟩))))))))
      have hkz10 : KeysIn T10 zs := fun x hx => (hkz x hx).ev (kk.trans k10)
      have hP10 : IsPair T10 (p, q) ka := ⟨hpd, hqd, p1, p2, hka, hp9.ev k10, hq9.ev k10⟩
      have G10 := G9.keeps k10
      have hun : A.units + 13 < cLine := by have := r.hu; lia
      refine e_loc X24 hm.2.1 (x_inS (X24.seen G10 (i := 1) rfl hkz10) (hP10.ev X24.st.kT) hun fun s25 u25 => wpAny_truthy_bool ?_)
      have X25 := X24.up u25
      cases hat : atKey zs (p, q) with
      | some y =>
        rw [if_pos (by rfl)]
        refine wpAny_execs_cons (wpAny_Continue ?_)
        have hmem : (p, q) ∈ zs.map (·.1) := by
          unfold atKey at hat
          obtain ⟨z, hz, _⟩ := Option.map_eq_some_iff.mp hat
          have h1 := List.mem_of_find?_eq_some hz
          have h2 := List.find?_some hz
          have : z.1 = (p, q) := by simpa using h2
          exact this ▸ List.mem_map_of_mem h1
        exact cα _ (hnx _ ⟨_, T10, _, _, by simp, (kk.trans k10), X25, ws', W', zs, kvs, σ, rfl, hm, hws'.mono fun _ _ h => h.ev (kk.trans k10), hkz10, hσ.ev (kk.trans k10), I.seen ea eb hmem, by simp at hwl; lia, rfl⟩).2
      | none =>
        rw [if_neg (by simp)]
        refine wpAny_execs_nil (nα _ ?_)
        -- seen[here, there] = True
        refine x_cons (fun Qα nα rα cα => x_sub (wpAny_Constant_bool (e_loc X25 hm.2.1 (e_tuple (args_cons (e_loc X25 rfl (args_cons (e_loc X25 rfl (args_nil ⟨_, _, _, _, _, _, _, X25, by simp, fun kb T11 s26 X26 k11 hkb => ?_⟩)))))))))
        have hkz11 : KeysIn T11 zs := fun x hx => (hkz10 x hx).ev k11
        have hP11 : IsPair T11 (p, q) kb := ⟨hpd, hqd, p1, p2, hkb, (hp9.ev k10).ev k11, (hq9.ev k10).ev k11⟩
        have G11 := G10.keeps k11
        refine X26.setS G11 (i := 1) rfl hkz11 hP11 hat hun (by lia) fun s27 X27 => ?_
        have X27' : Fx Sh T s T11 Lo _ [(wl, LstO ws'), (sd, SeenO w (zs ++ [((p, q), kb, Value.bool true)])), (tb, DctO w kvs)] s27 := X27
        have k511 : Ev T5 T11 := (kk.trans k10).trans k11
        have hkz' : KeysIn T11 (zs ++ [((p, q), kb, Value.bool true)]) := fun x hx => by
          rcases List.mem_append.mp hx with hx | hx
          · exact hkz11 x hx
          · rw [List.mem_singleton.mp hx]; exact hP11
        have hzl2 : zs.length + 1 ≤ 1 + V.length * V.length := by
          obtain ⟨o, ho, hO⟩ := X27'.open1 (i := 1) rfl
          have := seen_len (r1 := r1) (r2 := r2) (V := V) hO fun x hx => by
            rw [List.map_append] at hx
            rcases List.mem_append.mp hx with hx | hx
            · exact I.zv x hx
            · have : x = (p, q) := by simpa using hx
              rw [this]; exact hpq
          simpa using this
        have hmap : (zs ++ [((p, q), kb, Value.bool true)]).map (·.1) = zs.map (·.1) ++ [(p, q)] := by simp
        -- the swap
        refine nα _ <| wpAny_execs_cons (wpAny_mono (Q := Swapped Sh T s Lo [(wl, LstO ws'), (sd, SeenO w (zs ++ [((p, q), kb, Value.bool true)])), (tb, DctO w kvs)] T11 wl sd tb p q) ?_ (fun f s' hf => ?_) fun _ _ x => x)
        · refine wpAny_If (isTrue_and ?_)
          have hp11 := (hp9.ev k10).ev k11
          have hq11 := (hq9.ev k10).ev k11
          refine q_isvar X27' G11 (r.mono (by lia)) hq11 (e_loc X27' rfl ⟨rfl, rfl⟩) (fun s28 T12 X28 k12 => ?_) rfl
          cases hqv : q.isVar with
          | false =>
            rw [if_neg (by decide), if_neg (by decide)]
            exact wpAny_execs_nil ⟨rfl, p, q, p1, p2, T12, _, k12, X28, hm, rfl, rfl, hp11.ev k12, hq11.ev k12, .inl rfl, fun _ => ⟨rfl, hqv⟩⟩
          | true =>
            rw [if_pos rfl]
            refine isTrue_and (isTrue_not ?_)
            refine q_isvar X28 (G11.keeps k12) (r.mono (by lia)) (hp11.ev k12) (e_loc X28 rfl ⟨rfl, rfl⟩) (fun s29 T13 X29 k13 => ?_) rfl
            cases hpv : p.isVar with
            | true =>
              rw [if_neg (by decide), if_neg (by decide)]
              exact wpAny_execs_nil ⟨rfl, p, q, p1, p2, T13, _, k12.trans k13, X29, hm, rfl, rfl, (hp11.ev k12).ev k13, (hq11.ev k12).ev k13, .inl rfl, fun h => by rw [hpv] at h; cases h⟩
            | false =>
              rw [if_pos (by rfl)]
              refine isTrue_and_nil ?_
              rw [if_pos rfl]
              refine wpAny_execs_cons (x_swap2 (x := Str.ofString "here") (y := Str.ofString "there") (e_tuple (args_cons (e_loc X29 rfl (args_cons (e_loc X29 rfl (args_nil ⟨_, _, _, _, _, _, _, X29, by simp, fun sa T14 s30 X30 k14 hsa => ?_⟩)))))))
              refine ⟨sa, p2, p1, _, _, _, _, _, _, _, rfl, X30, hsa, r.hh, fun s31 X31 => s_loc X31 fun s32 X32 => s_loc X32 fun s33 X33 => wpAny_execs_nil ?_⟩
              exact ⟨rfl, q, p, p2, p1, T14, _, (k12.trans k13).trans k14, X33, hm, rfl, rfl, ((hq11.ev k12).ev k13).ev k14, ((hp11.ev k12).ev k13).ev k14, .inr rfl, fun h => by rw [hqv] at h; cases h⟩
        · obtain ⟨rfl, h, t, xh, xt, T12, m', k12, X28, hm', hmh, hmt, hht, htt, hor, hnv⟩ := hf
          dsimp only
          have G12 := G11.keeps k12
          have k512 := k511.trans k12
          have hσ12 := hσ.ev k512
          have hkz12 : KeysIn T12 (zs ++ [((p, q), kb, Value.bool true)]) := fun x hx => (hkz' x hx).ev k12
          have hws12 := hws'.mono fun (_ : Value) (_ : Tm × Tm) h => h.ev k512
          have hhd : h.depth ≤ 6 := by rcases hor with e | e <;> cases e <;> assumption
          have htd : t.depth ≤ 6 := by rcases hor with e | e <;> cases e <;> assumption
          have hsth : Stuck σ h := by rcases hor with e | e <;> cases e <;> assumption
          have hstt : Stuck σ t := by rcases hor with e | e <;> cases e <;> assumption
          have hut : A.units + h.depth < cLine := by have := r.hu; lia
          -- the next turn
          have next : ∀ (T' : Heap) (s' : Shared) (kvs' : List (Str × Value)) (σ' : Tab) (ps : List Value) (K : TP) (m' : Str → Option Value), Ev T12 T' → Fx Sh T s T' Lo m' [(wl, LstO (ws' ++ ps)), (sd, SeenO w (zs ++ [((p, q), kb, Value.bool true)])), (tb, DctO w kvs')] s' → BKeys m' wl sd tb →
              All2 (PairV T') ps K → ps.length ≤ 6 → TabIn T' kvs' σ' → BInv r1 r2 V σ' (W' ++ K) (zs.map (·.1) ++ [(p, q)]) →
              Q1 .next s' := by
            intro T' s' kvs' σ' ps K m' k' X' hm' hps h6 hσ' I'
            refine (hnx _ ⟨_, T', m', _, ?_, k512.trans k', X', ws' ++ ps, W' ++ K, _, kvs', σ', rfl, hm', (hws12.mono fun _ _ h => h.ev k').append hps, fun x hx => (hkz12 x hx).ev k', hσ', by rw [hmap]; exact I', ?_, rfl⟩).1
            · simp only [List.length_append, List.length_cons, List.length_nil] at hwl ⊢
              lia
            · simp only [List.length_append, List.length_cons, List.length_nil] at hwl ⊢
              lia
          have next0 : ∀ (T' : Heap) (s' : Shared) (kvs' : List (Str × Value)) (σ' : Tab) (m' : Str → Option Value), Ev T12 T' → Fx Sh T s T' Lo m' [(wl, LstO ws'), (sd, SeenO w (zs ++ [((p, q), kb, Value.bool true)])), (tb, DctO w kvs')] s' → BKeys m' wl sd tb →
              TabIn T' kvs' σ' → BInv r1 r2 V σ' W' (zs.map (·.1) ++ [(p, q)]) →
              Q1 .next s' := by
            intro T' s' kvs' σ' m' k' X' hm' hσ' I'
            exact next T' s' kvs' σ' [] [] m' k' (by simpa using X') hm' .nil (by simp) hσ' (by simpa using I')
          have rootv : h.isVar = true → p ∈ V ∧ q ∈ V := fun hv => by
            rcases hpq with e | e
            · cases e
              rcases hor with e | e <;> cases e
              · rw [H.n1] at hv; cases hv
              · rw [H.n2] at hv; cases hv
            · exact e
          refine x_cons (fun Qα nα rα cα => wpAny_If ?_)
          refine q_isvar X28 G12 (r.mono (by lia)) hht (e_loc X28 hmh ⟨rfl, rfl⟩) (fun s29 T13 X29 k13 => ?_) rfl
          have G13 := G12.keeps k13
          have hh13 := hht.ev k13
          have ht13 := htt.ev k13
          cases hv : h.isVar with
          | true =>
            rw [if_pos rfl]
            obtain ⟨hpV, hqV⟩ := rootv hv
            have hvt : t ∈ V := by rcases hor with e | e <;> cases e <;> assumption
            have hlk : lookT σ h.op = none := hsth hv
            -- if here != there and is_within(here[0], there, table)
            refine x_cons (fun Qβ nβ rβ cβ => wpAny_If (isTrue_and (wpAny_isTrue_Compare1 (e_loc X29 hmh (e_loc X29 hmt (x_neT (hh13.ev X29.st.kT) (ht13.ev X29.st.kT) hut (wpAny_truthy_bool ?_)))))))
            by_cases heq : h = t
            · rw [if_neg (by simp [heq]), if_neg (by decide)]
              refine wpAny_execs_nil (nβ _ ?_)
              refine x_cons (fun Qβ nβ rβ cβ => wpAny_If (wpAny_isTrue_Compare1 (e_loc X29 hmh (e_loc X29 hmt (x_neT (hh13.ev X29.st.kT) (ht13.ev X29.st.kT) hut (wpAny_truthy_bool ?_))))))
              rw [if_neg (by simp [heq])]
              refine wpAny_execs_nil (nβ _ <| wpAny_execs_nil (nα _ <| wpAny_execs_nil ?_))
              exact next0 T13 _ kvs σ _ k13 X29 hm' (hσ12.ev k13) (I.same ea eb hpq (by rcases hor with e | e <;> cases e <;> first | exact heq | exact heq.symm))
            · rw [if_pos (by simp [heq])]
              have D29 := X29.dct G13 (i := 2) rfl
              obtain ⟨ah, tkh, xsh, rfl, hah, _, _, _⟩ := view_op (w := w) hh13
              refine isTrue_and (isTrue_plain (e_call X29 G13 rfl (by decide) (args_cons (e_item (e_loc X29 hmh ⟨_, _, 0, .str h.op tkh, rfl, hah.keeps X29.st.kT, seqIndex_zero (by simp), rfl, fun s30 u30 => ?_⟩)))))
              have X30 := X29.up u30
              refine args_cons (e_loc X30 hmt (args_cons (e_loc X30 hm'.2.2 (args_nil ⟨X30.st.kT, use_spec X30 (is_within_spec G13 X30.st.kT ht13 (D29.keeps u30.ev) (hσ12.ev k13) (H.siz t hvt) (fun x hx => H.siz _ (I.val x hx).1) (by have := key_len I.nd fun x hx => (I.val x hx).2.2; have := H.len; lia)) (r.mono (by lia)) fun pr s31 T14 X31 k14 hpost => ?_⟩))))
              obtain ⟨bb, rfl, hbb⟩ := hpost
              refine wpAny_truthy_bool ?_
              cases bb with
              | true =>
                rw [if_pos rfl]
                refine isTrue_and_nil ?_
                rw [if_pos rfl]
                refine wpAny_execs_cons (wpAny_Return_some (wpAny_Constant_none ?_))
                exact rβ _ _ <| rα _ _ <| hr _ _ <| hQ _ _ <| X31.done (.inl ⟨rfl, I.ring ea eb hor hv heq hstt (hbb.mp rfl)⟩)
              | false =>
                rw [if_neg (by decide), if_neg (by decide)]
                refine wpAny_execs_nil (nβ _ ?_)
                have hh14 := hh13.ev k14
                have ht14 := ht13.ev k14
                refine x_cons (fun Qβ nβ rβ cβ => wpAny_If (wpAny_isTrue_Compare1 (e_loc X31 hmh (e_loc X31 hmt (x_neT (hh14.ev X31.st.kT) (ht14.ev X31.st.kT) hut (wpAny_truthy_bool ?_))))))
                rw [if_pos (by simp [heq])]
                refine x_cons (fun Qγ nγ rγ cγ => x_sub (e_loc X31 hmt (e_loc X31 hm'.2.2 (e_item (e_loc X31 hmh ⟨_, _, 0, .str h.op tkh, rfl, (hah.keeps k14).keeps X31.st.kT, seqIndex_zero (by simp), rfl, fun s32 u32 => ?_⟩)))))
                have X32 := X31.up u32
                have hkl : kvs.length ≤ 60 := by
                  have h1 := hσ.length
                  have h2 := key_len I.nd fun x hx => (I.val x hx).2.2
                  have h3 := H.len
                  lia
                refine X32.setD (i := 2) rfl (by lia) fun s33 X33 => ?_
                have hvn : valueAt kvs h.op = none := by
                  have := hσ.isSome h.op
                  rw [hlk] at this
                  cases hz : valueAt kvs h.op with
                  | none => rfl
                  | some y => rw [hz] at this; cases this
                rw [stored_keys hvn] at X33
                refine nγ _ <| wpAny_execs_nil (nβ _ <| wpAny_execs_nil (nα _ <| wpAny_execs_nil ?_))
                exact next0 T14 _ _ (σ ++ [(h.op, t)]) _ (k13.trans k14) X33 hm' (((hσ12.ev k13).ev k14).snoc ⟨rfl, ht14⟩) (I.bind ea eb ⟨hpV, hqV⟩ hor hv hlk (fun hr => by have := hbb.mpr hr; cases this))
          | false =>
            rw [if_neg (by decide)]
            obtain ⟨ehp, htv⟩ := hnv hv
            obtain ⟨ehp1, ehp2⟩ := Prod.mk.inj ehp
            subst ehp1 ehp2
            obtain ⟨ah, tkh, xsh, rfl, hah, hlh, hxh6, hkh⟩ := view_op (w := w) hh13
            obtain ⟨at', tkt, xst, rfl, hat', hlt, hxt6, hkt⟩ := view_op (w := w) ht13
            -- elif here[0] != there[0] or len(here) != len(there)
            refine x_cons (fun Qβ nβ rβ cβ => wpAny_If (isTrue_or (wpAny_isTrue_Compare1 (e_item (e_loc X29 hmh ⟨_, _, 0, .str h.op tkh, rfl, hah.keeps X29.st.kT, seqIndex_zero (by simp), rfl, fun s30 u30 => ?_⟩)))))
            have X30 := X29.up u30
            refine e_item (e_loc X30 hmt ⟨_, _, 0, .str t.op tkt, rfl, hat'.keeps X30.st.kT, seqIndex_zero (by simp), rfl, fun s31 u31 => ne_str (wpAny_truthy_bool ?_)⟩)
            have X31 := X30.up u31
            by_cases hop : h.op = t.op
            · rw [if_neg (by simp [hop])]
              refine isTrue_or (wpAny_isTrue_Compare1 (e_len X31 G13 (e_loc X31 hmh ⟨_, _, rfl, .inl (hah.keeps X31.st.kT), by simp; lia, fun t32 s32 u32 => ?_⟩)))
              have X32 := X31.up u32
              refine e_len X32 G13 (e_loc X32 hmt ⟨_, _, rfl, .inl (hat'.keeps X32.st.kT), by simp; lia, fun t33 s33 u33 => ne_int (wpAny_truthy_bool ?_)⟩)
              have X33 := X32.up u33
              by_cases hln : xsh.length = xst.length
              · rw [if_neg (by simp [hln])]
                refine isTrue_or_nil ?_
                rw [if_neg (by decide)]
                -- waiting.extend(zip(here[1:], there[1:]))
                refine x_cons (fun Qγ nγ rγ cγ => wpAny_Expr (MethodCall_ (e_loc X33 hm'.1 (m_list (i := 0) (xs := ws') PySem.F.slot_list_extend (by with_unfolding_all rfl) X33 rfl (callWith_method1 (args_cons (Call_ (e_boot X33 G13 (v := .type "zip") rfl (callWith_type1 (args_cons (e_from (e_loc X33 hmh
                  ⟨_, _, _, _, _, _, _, _, _, rfl, X33, hah, by decide, by simp, by simp; lia, fun t1' T14 s34 X34 k14 ht1' => ?_⟩))))))))))))
                refine args_cons (e_from (e_loc X34 hmt ⟨_, _, _, _, _, _, _, _, _, rfl, X34, hat'.keeps k14, by decide, by simp, by simp; lia, fun t2' T15 s35 X35 k15 ht2' => ?_⟩))
                have ht1'' : IsTup T15 t1' xsh.toArray := ht1'.keeps k15
                have ht2'' : IsTup T15 t2' xst.toArray := ht2'
                refine args_nil (call_zip X35 ht1'' ht2'' fun z TI TO i1 i2 T16 s36 X36 k16 hTI => args_nil ?_)
                refine c_extend_zip X36 r.hh hln (by lia) hTI (ht1''.keeps k16) (ht2''.keeps k16) (by simp at hwl; lia) fun T17 s37 ps X37 k17 hps => ?_
                refine nγ _ <| wpAny_execs_nil (nβ _ <| wpAny_execs_nil (nα _ <| wpAny_execs_nil ?_))
                have kx : Ev T13 T17 := ((k14.trans k15).trans k16).trans k17
                have hps' : All2 (PairV T17) ps (h.kids.zip t.kids) := by
                  have h1 := hkh.mono fun (_ : Value) (_ : Tm) h => h.ev kx
                  have h2 := hkt.mono fun (_ : Value) (_ : Tm) h => h.ev kx
                  exact pair_zip h1 h2 hps
                refine next T17 _ kvs σ ps (h.kids.zip t.kids) _ (k13.trans kx) X37 hm' hps' ?_ ((hσ12.ev k13).ev kx) (I.kids ea eb hpq H.kid hv htv hop (by lia))
                rw [hps'.length, List.length_zip]; lia
              · rw [if_pos (by simp; lia), if_pos rfl]
                refine wpAny_execs_cons (wpAny_Return_some (wpAny_Constant_none ?_))
                exact rβ _ _ <| rα _ _ <| hr _ _ <| hQ _ _ <| X33.done (.inl ⟨rfl, I.clash ea eb hv htv (.inr (by lia))⟩)
            · rw [if_pos (by simp [hop]), if_pos rfl]
              refine wpAny_execs_cons (wpAny_Return_some (wpAny_Constant_none ?_))
              exact rβ _ _ <| rα _ _ <| hr _ _ <| hQ _ _ <| X31.done (.inl ⟨rfl, I.clash ea eb hv htv (.inl hop)⟩)
end Mine
end

section
open PySem PySem.W PySem.Calls PyProof.Rows
set_option maxRecDepth 100000
namespace Mine

/-- ranks, no greater than the table -/
theorem Acyc.small {σ : Tab} (h : Acyc σ) : ∃ ρ : Str → Nat, (∀ p ∈ σ, ∀ y ∈ p.2.vars, (lookT σ y).isSome = true → ρ y < ρ p.1) ∧ ∀ p ∈ σ, ρ p.1 < σ.length := by
  obtain ⟨ρ, hρ⟩ := h
  let c : Str → Nat := fun x => ((σ.map (·.1)).filter fun k => decide (ρ k < ρ x)).length
  refine ⟨c, fun p hp y hy hs => ?_, fun p hp => ?_⟩
  · have h1 := hρ p hp y hy
    have hy' : y ∈ σ.map (·.1) := lookT_some.mp hs
    show ((σ.map (·.1)).filter fun k => decide (ρ k < ρ y)).length < ((σ.map (·.1)).filter fun k => decide (ρ k < ρ p.1)).length
    generalize σ.map (·.1) = l at hy'
    induction l with
    | nil => cases hy'
    | cons a l ih =>
      have mono : ∀ l : List Str, (l.filter fun k => decide (ρ k < ρ y)).length ≤ (l.filter fun k => decide (ρ k < ρ p.1)).length := by
        intro l
        induction l with
        | nil => simp
        | cons b l ih =>
          by_cases hb : ρ b < ρ y
          · simp [List.filter_cons, hb, Nat.lt_trans hb h1]; exact ih
          · by_cases hb' : ρ b < ρ p.1 <;> simp [List.filter_cons, hb, hb'] <;> lia
      rcases List.mem_cons.mp hy' with rfl | hy'
      · have := mono l
        simp [List.filter_cons, h1]; lia
      · have := ih hy'
        by_cases hb : ρ a < ρ y
        · simp [List.filter_cons, hb, Nat.lt_trans hb h1]; lia
        · by_cases hb' : ρ a < ρ p.1 <;> simp [List.filter_cons, hb, hb'] <;> lia
  · show ((σ.map (·.1)).filter fun k => decide (ρ k < ρ p.1)).length < σ.length
    have hm : p.1 ∈ σ.map (·.1) := List.mem_map_of_mem hp
    have : ((σ.map (·.1)).filter fun k => decide (ρ k < ρ p.1)).length < (σ.map (·.1)).length := by
      rw [List.length_filter_lt_length_iff_exists]
      exact ⟨p.1, hm, by simp⟩
    simpa using this

/-- what an item of the stack weighs -/
noncomputable def wt (ρ : Str → Nat) (p : Str × Bool) : Nat := if p.2 then 1 else 6 ^ (ρ p.1 + 1)
theorem wt_pos (ρ : Str → Nat) (p : Str × Bool) : 1 ≤ wt ρ p := by
  unfold wt
  split
  · exact Nat.le_refl _
  · exact Nat.pow_pos (by decide)
theorem wt_len (ρ : Str → Nat) (W : List (Str × Bool)) : W.length ≤ (W.map (wt ρ)).sum := by
  induction W with
  | nil => simp
  | cons p W ih =>
    have := wt_pos ρ p
    simp only [List.length_cons, List.map_cons, List.sum_cons]; lia
/-- a name's own weight is more than what it puts on the stack -/
theorem wt_step {ρ : Str → Nat} {name : Str} {ss : List Str} (hlen : ss.length ≤ 4) (h : ∀ y ∈ ss, ρ y < ρ name) : 1 + ((ss.map fun y => wt ρ (y, false)).sum) < 6 ^ (ρ name + 1) := by
  have h1 : ∀ l : List Str, (∀ y ∈ l, ρ y < ρ name) → ((l.map fun y => wt ρ (y, false)).sum) ≤ l.length * 6 ^ ρ name := by
    intro l
    induction l with
    | nil => intro _; simp
    | cons y l ih =>
      intro hl
      have h2 := ih fun y hy => hl y (by simp [hy])
      have h3 : wt ρ (y, false) ≤ 6 ^ ρ name := by
        show (if false = true then 1 else 6 ^ (ρ y + 1)) ≤ _
        rw [if_neg (by decide)]
        exact Nat.pow_le_pow_right (by decide) (hl y (by simp))
      rw [List.map_cons, List.sum_cons, List.length_cons, Nat.add_mul]
      lia
  have h2 := h1 ss h
  have h3 : ss.length * 6 ^ ρ name ≤ 4 * 6 ^ ρ name := Nat.mul_le_mul_right _ hlen
  have h4 : 1 ≤ 6 ^ ρ name := Nat.pow_pos (by decide)
  rw [Nat.pow_succ]; lia

theorem stored_sub {kvs : List (Str × Value)} {k : Str} {v : Value} : ∀ y ∈ (stored kvs k v).map (·.1), y = k ∨ y ∈ kvs.map (·.1) := by
  intro y hy
  unfold stored at hy
  split at hy
  · rw [keys_map_store] at hy; exact .inr hy
  · rw [List.map_append] at hy
    rcases List.mem_append.mp hy with hy | hy
    · exact .inr hy
    · exact .inl (by simpa using hy)
end Mine
end

section
open PySem PySem.W PySem.Calls PyProof.Rows
set_option maxRecDepth 100000
namespace Mine

inductive PairB (T : Heap) (v : Value) (p : Str × Bool) : Prop
  | mk (a : Addr) (tk : Tok) (e : v = .ref a) (h : IsTup T a #[.str p.1 tk, .bool p.2])
theorem PairB.ev {T T' : Heap} (k : Ev T T') {v : Value} {p : Str × Bool} (h : PairB T v p) : PairB T' v p := by
  obtain ⟨a, tk, e, i⟩ := h
  exact ⟨a, tk, e, i.keeps k⟩

inductive TInv (w : World) (σ : Tab) (ρ : Str → Nat) (wl fd c tb : Addr) (n : Nat) (T' : Heap) (m : Str → Option Value) (own : Own) : Prop
  | mk (ws : List Value) (W : List (Str × Bool)) (ks : List (Str × Value)) (e : own = [(wl, LstO ws), (fd, DctO w ks), (c, CellO (some (.ref tb)))]) (hw : m (Str.ofString "waiting") = some (.ref wl)) (hf : m (Str.ofString "found") = some (.ref fd)) (hws : All2 (PairB T') ws W)
    (hW : ∀ p ∈ W, p.1 ∈ σ.map (·.1)) (hk : ∀ y ∈ ks.map (·.1), y ∈ σ.map (·.1)) (hn : n = (W.map (wt ρ)).sum) (hz : n ≤ 2000000)

inductive TurnPost (σ : Tab) (T' : Heap) (r : Value) : Prop
  | mk (l : Addr) (xs : List Value) (ss : List Str) (e : r = .ref l) (h : T'.PlainList l xs.toArray) (hs : StrsAre xs ss) (hz : ss.length ≤ σ.length) (hk : ∀ x ∈ ss, x ∈ σ.map (·.1))

theorem pow_le_of {ρ : Str → Nat} {x : Str} (h : ρ x < 7) : wt ρ (x, false) ≤ 279936 := by
  show (if false = true then 1 else 6 ^ (ρ x + 1)) ≤ _
  rw [if_neg (by decide)]
  exact Nat.le_trans (Nat.pow_le_pow_right (by decide) (show ρ x + 1 ≤ 7 by lia)) (by decide)
theorem sum_le_of {ρ : Str → Nat} {l : List Str} (h : ∀ x ∈ l, ρ x < 7) : ((l.map fun x => wt ρ (x, false)).sum) ≤ l.length * 279936 := by
  induction l with
  | nil => simp
  | cons x l ih =>
    have h1 := pow_le_of (h x (by simp))
    have h2 := ih fun y hy => h y (by simp [hy])
    rw [List.map_cons, List.sum_cons, List.length_cons, Nat.add_mul]; lia

set_option maxHeartbeats 1600000 in
theorem in_turn_spec {w : World} {σ : Tab} {kvs : List (Str × Value)} {tb : Addr} {T : Heap} {s : Shared} (G : Gnd w T) (kT : Ev T s.heap) (D : Dct w s.heap tb kvs) (hσ : TabIn T kvs σ) (hac : Acyc σ) (hnd : (σ.map (·.1)).Nodup) (hlen : σ.length ≤ 7) (hsz : ∀ p ∈ σ, p.2.size ≤ 4) :
    Spec w 103 8 [.ref tb] T s (TurnPost σ) := by
  refine enter (d := 7) (binds := [(Str.ofString "table", .ref tb)]) (G.fn (i := 14) (by decide)) G.lim kT (fun _ _ _ _ _ => rfl) rfl (by decide +kernel) ?_
  intro A cd s₁ E Sh Lo Qf kS r X hQ
  replace D := D.keeps kS
  conv in dBody _ => whnf
  obtain ⟨ρ, hρ, hρ7⟩ := hac.small
  have hkl : kvs.length = σ.length := hσ.length
  have hkk := hσ.keys
  have rk : ∀ x ∈ σ.map (·.1), ρ x < 7 := fun x hx => by
    obtain ⟨p, hp, rfl⟩ := List.mem_map.mp hx
    have := hρ7 p hp; lia
  let c : Addr := Lo + 1
  -- found, waiting = {}, [(name, False) for name in sorted(table)]
  refine x_cons (fun Qα nα rα cα => x_swap2 (x := Str.ofString "found") (y := Str.ofString "waiting") (e_tuple (args_cons ?_)))
  refine e_dict0 X fun fd s2 X2 => args_cons ?_
  refine comp_list (Call_ (e_boot X2 G (v := .builtin "sorted") rfl (callWith_builtin1 (args_cons (e_cell (i := 1) X2 rfl (args_nil (c_sorted_dict X2 r.hh (D.keeps X2.st.kS) (by lia) fun pl T3 s3 ps ss X3 k3 hpl hps hperm => ?_)))))))
  have hpl' : T3.PlainList pl ps.toArray := hpl
  have hssk : ∀ x ∈ ss, x ∈ σ.map (·.1) := fun x hx => by rw [← hkk]; exact hperm.mem_iff.mp hx
  have hssl : ss.length = σ.length := by rw [hperm.length_eq, List.length_map, hkl]
  have hpsl : ps.length = ss.length := by rw [← hps.strs, List.length_map]
  refine iter_list X3 hpl.isList fun I s4 X4 => ?_
  refine CompGo.mk (fun (i : Nat) (T' : Heap) (ys : List Value) => All2 (PairB T') ys ((ss.take i).map fun x => (x, false))) rfl (Iter.list hpl.isList) (Ev.refl _) X4 (by lia) r.hh .nil (fun _ _ _ _ k h => h.mono fun _ _ h => h.ev k) ?_ ?_
  · rintro C j T4 mC own' s5 pv ys E'' hj k4 X5 hmo hpv hys hyl Qy Qn hyy hnn
    have hpv' : ps[j]? = some pv := hpv
    obtain ⟨x, tx, rfl⟩ := hps.all pv (List.mem_of_getElem? hpv')
    have hsi : ss[j]? = some x := by rw [← hps.strs, List.getElem?_map, hpv']; rfl
    refine wpAny_assign_Name (s_loc X5 fun s6 X6 => wpAny_tests_nil ?_)
    rw [if_pos rfl]
    refine e_tuple (args_cons (e_loc X6 rfl (args_cons (wpAny_Constant_bool (args_nil ⟨_, _, _, _, _, _, _, X6, by simp, fun ea T5 s7 X7 k7 hea => ?_⟩)))))
    refine hyy _ _ ⟨T5, _, k7, X7, ?_⟩
    rw [List.take_add_one, hsi, List.map_append]
    exact (hys.mono fun _ _ h => h.ev k7).snoc ⟨ea, tx, rfl, hea⟩
  · rintro wl ys T4 s5 k4 X5 hys hyl
    rw [List.take_of_length_le (by lia)] at hys
    refine args_nil ⟨_, _, _, _, _, _, _, X5, by simp, fun ta T6 s6 X6 k6 hta => ⟨ta, .ref fd, .ref wl, _, _, _, _, _, _, _, rfl, X6, hta, r.hh, fun s7 X7 => s_loc X7 fun s8 X8 => s_loc X8 fun s9 X9 => ?_⟩⟩
    have X9' : Fx Sh T s T6 Lo _ [(wl, LstO ys), (fd, DctO w []), (c, CellO (some (.ref tb)))] s9 := X9
    have G6 := ((G.keeps k3).keeps k4).keeps k6
    have k06 := (k3.trans k4).trans k6
    refine nα _ <| wpAny_execs_cons (wpAny_While ?_)
    refine loop_while (Tb := T6) (TInv w σ ρ wl fd c tb) ?_ (n := ((ss.map fun x => (x, false)).map (wt ρ)).sum) (Ev.refl _) X9'
      ⟨ys, _, [], rfl, rfl, rfl, hys.mono fun _ _ h => h.ev k6, fun p hp => ?_, fun y hy => by simp at hy, rfl, ?_⟩
    · -- a turn
      rintro n T7 m own s10 E' k7 X10 ⟨ws, W, ks, rfl, hmw, hmf, hws, hW, hks, rfl, hn⟩ Q1 Qe hnx hb hr
      have G7 := G6.keeps k7
      have hwl := wt_len ρ W
      have hwsl : ws.length = W.length := hws.length
      refine wpAny_isTrue_Compare1 (e_len X10 G7 (e_loc X10 hmw ⟨_, _, rfl, .inr (lst_of (i := 0) X10 rfl), by simp; lia, fun t11 s11 u11 => ?_⟩))
      refine e_int fun t12 s12 u12 => gt_int (wpAny_truthy_bool ?_)
      have X12 := (X10.up u11).up u12
      rcases snoc_cases ws with rfl | ⟨ws', x, rfl⟩
      · rw [if_neg (by simp)]
        refine (hb _ ?_).2
        show wpAny _ _ _ _ _ _
        have Dk := X12.dct G7 (i := 1) rfl
        have hkl2 : ks.length ≤ σ.length := by
          have := nodup_len Dk.nodup hks
          simpa using this
        refine wpAny_execs_cons (wpAny_Return_some (Call_ (e_boot X12 G7 (v := .type "list") rfl (callWith_type1 (args_cons (e_loc X12 hmf (args_nil (c_list_dict X12 r.hh Dk (by lia) fun l T8 s8 vs X11 k11 hl hS => ?_))))))))
        exact hQ _ _ <| X11.done ⟨l, vs, _, rfl, hl, hS, by simpa using hkl2, hks⟩
      · rw [if_pos (by simp)]
        obtain ⟨W', nb, rfl, hws', hx⟩ := hws.unsnoc
        obtain ⟨name, b⟩ := nb
        obtain ⟨xa, tkn, rfl, hxa⟩ := hx
        have hnk : name ∈ σ.map (·.1) := hW (name, b) (by simp)
        have hsum : ((W' ++ [(name, b)]).map (wt ρ)).sum = (W'.map (wt ρ)).sum + wt ρ (name, b) := by simp
        refine x_cons (fun Qα nα rα cα => Assign_Tuple (MethodCall_ (e_loc X12 hmw (m_list (i := 0) (xs := ws' ++ [.ref xa]) PySem.F.slot_list_pop (by with_unfolding_all rfl) X12 rfl (callWith_method0 ?_)))))
        refine c_pop (i := 0) X12 rfl (by simp at hwl hwsl; lia) fun s13 X13 => ?_
        refine s_unpack (xs := [.str name tkn, .bool b]) X13 hxa r.hh fun s14 X14 => assignInOrder_cons (wpAny_assign_Name (s_loc X14 fun s15 X15 => assignInOrder_cons (wpAny_assign_Name (s_loc X15 fun s16 X16 => assignInOrder_nil ?_))))
        have X16' : Fx Sh T s T7 Lo _ [(wl, LstO ws'), (fd, DctO w ks), (c, CellO (some (.ref tb)))] s16 := X16
        have Dk := X16'.dct G7 (i := 1) rfl
        have hkl2 : ks.length ≤ 7 := by
          have := nodup_len Dk.nodup hks
          simp at this; lia
        refine nα _ <| x_cons (fun Qα nα rα cα => wpAny_If (isTrue_plain (e_loc X16' rfl (wpAny_truthy_bool ?_))))
        cases b with
        | true =>
          rw [if_pos rfl]
          refine x_cons (fun Qβ nβ rβ cβ => x_sub (wpAny_Constant_bool (e_loc X16' hmf (e_loc X16' rfl (X16'.setD (i := 1) rfl (by lia) fun s17 X17 => ?_)))))
          refine nβ _ <| wpAny_execs_nil (nα _ <| wpAny_execs_nil (hnx _ ⟨(W'.map (wt ρ)).sum, T7, _, _, ?_, Ev.refl _, X17, ws', W', stored ks name (.bool true), rfl, hmw, hmf, hws', fun p hp => hW p (List.mem_append_left _ hp), fun y hy => ?_, rfl, ?_⟩).1)
          · rw [hsum]; have := wt_pos ρ (name, true); lia
          · rcases stored_sub y hy with rfl | hy
            · exact hnk
            · exact hks y hy
          · rw [hsum] at hn; lia
        | false =>
          rw [if_neg (by decide)]
          refine x_cons (fun Qβ nβ rβ cβ => wpAny_If (wpAny_isTrue_Compare1 (e_loc X16' rfl (e_loc X16' hmf (x_notin Dk fun s17 u17 => wpAny_truthy_bool ?_)))))
          have X17 := X16'.up u17
          have hpos := wt_pos ρ (name, false)
          cases hvk : valueAt ks name with
          | some y =>
            rw [if_neg (by simp)]
            refine wpAny_execs_nil (nβ _ <| wpAny_execs_nil (nα _ <| wpAny_execs_nil (hnx _ ⟨(W'.map (wt ρ)).sum, T7, _, _, ?_, Ev.refl _, X17, ws', W', ks, rfl, hmw, hmf, hws', fun p hp => hW p (List.mem_append_left _ hp), hks, rfl, ?_⟩).1))
            · rw [hsum]; lia
            · rw [hsum] at hn; lia
          | none =>
            rw [if_pos (by rfl)]
            -- waiting.append((name, True))
            refine x_cons (fun Qγ nγ rγ cγ => wpAny_Expr (MethodCall_ (e_loc X17 hmw (m_list (i := 0) (xs := ws') PySem.F.slot_list_append (by with_unfolding_all rfl) X17 rfl (callWith_method1 (args_cons (e_tuple (args_cons (e_loc X17 rfl (args_cons (wpAny_Constant_bool (args_nil
              ⟨_, _, _, _, _, _, _, X17, by simp, fun na T8 s18 X18 k8 hna => args_nil (c_append (i := 0) X18 rfl (by simp at hwl hwsl; lia) fun s19 X19 => ?_)⟩))))))))))))
            have X19' : Fx Sh T s T8 Lo _ [(wl, LstO (ws' ++ [.ref na])), (fd, DctO w ks), (c, CellO (some (.ref tb)))] s19 := X19
            have G8 := G7.keeps k8
            have hσ8 : TabIn T8 kvs σ := ((hσ.ev k06).ev k7).ev k8
            have hnv : ∃ v u, valueAt kvs name = some v ∧ lookT σ name = some u ∧ TmIn T8 u v := by
              rcases hσ8.at name with ⟨_, h2⟩ | h
              · have := lookT_some.mpr hnk; rw [h2] at this; cases this
              · exact h
            obtain ⟨v, u, hv1, hv2, hv3⟩ := hnv
            have hu4 := hsz _ (lookT_mem hv2)
            simp only at hu4
            -- waiting.extend([(late, False) for late in variables(table[name]) if late in table])
            refine nγ _ <| x_cons (fun Qγ nγ rγ cγ => wpAny_Expr (MethodCall_ (e_loc X19' hmw (m_list (i := 0) (xs := ws' ++ [.ref na]) PySem.F.slot_list_extend (by with_unfolding_all rfl) X19' rfl (callWith_method1 (args_cons (comp_list
              (e_call X19' G8 rfl (by decide) (args_cons (e_dsub (e_cell (i := 2) X19' rfl (e_loc X19' rfl ⟨tb, kvs, name, tkn, v, rfl, rfl, D.keeps X19'.st.kS, hv1, fun s20 u20 => ?_⟩))))))))))))
            have X20 := X19'.up u20
            refine args_nil ⟨X20.st.kT, use_spec X20 (variables_spec u (by lia) G8 X20.st.kT hv3) (r.mono (by have := u.depth_le; lia)) fun pr s21 T9 X21 k9 hpost => ?_⟩
            obtain ⟨pl2, ps2, ss2, rfl, hpl2, hps2, hss2, hpz2⟩ := hpost
            have hpl2' : T9.PlainList pl2 ps2.toArray := hpl2
            have hps2l : ps2.length = ss2.length := by rw [← hps2.strs, List.length_map]
            refine iter_list X21 hpl2.isList fun I2 s22 X22 => ?_
            refine CompGo.mk (fun (i : Nat) (T' : Heap) (ys : List Value) => All2 (PairB T') ys (((ss2.take i).filter fun y => (lookT σ y).isSome).map fun x => (x, false))) rfl (Iter.list hpl2.isList) (Ev.refl _) X22 (by lia) r.hh .nil (fun _ _ _ _ k h => h.mono fun _ _ h => h.ev k) ?_ ?_
            · rintro C j T10 mC own' s23 pv ys2 E'' hj k10 X23 hmo hpv hys2 hyl2 Qy Qn hyy hnn
              have hpv' : ps2[j]? = some pv := hpv
              obtain ⟨late, tl, rfl⟩ := hps2.all pv (List.mem_of_getElem? hpv')
              have hsi : ss2[j]? = some late := by rw [← hps2.strs, List.getElem?_map, hpv']; rfl
              have hcell := hmo (c, CellO (some (.ref tb))) (by simp)
              have e1 : ((ss2.take (j + 1)).filter fun y => (lookT σ y).isSome) = ((ss2.take j).filter fun y => (lookT σ y).isSome) ++ if (lookT σ late).isSome = true then [late] else [] := by
                rw [List.take_add_one, hsi, List.filter_append]; congr 1
                simp [List.filter_cons]
              refine wpAny_assign_Name (s_loc X23 fun s24 X24 => ?_)
              refine wpAny_tests_one (wpAny_isTrue_Compare1 (e_loc X24 rfl (e_cellM X24 hcell (x_in (D.keeps X24.st.kS) fun s25 u25 => wpAny_truthy_bool ?_))))
              have X25 := X24.up u25
              rw [hσ.isSome late]
              cases hb : (lookT σ late).isSome with
              | true =>
                rw [if_pos rfl]
                refine e_tuple (args_cons (e_loc X25 rfl (args_cons (wpAny_Constant_bool (args_nil ⟨_, _, _, _, _, _, _, X25, by simp, fun ea T11 s26 X26 k11 hea => ?_⟩)))))
                refine hyy _ _ ⟨T11, _, k11, X26, ?_⟩
                rw [e1, hb, if_pos rfl, List.map_append]
                exact (hys2.mono fun _ _ h => h.ev k11).snoc ⟨ea, tl, rfl, hea⟩
              | false =>
                rw [if_neg (by decide)]
                refine hnn _ ⟨T10, _, Ev.refl _, X25, ?_⟩
                rw [e1, hb, if_neg (by decide), List.append_nil]
                exact hys2
            · rintro Dl ys2 T10 s23 k10 X23 hys2 hyl2
              rw [List.take_of_length_le (by lia)] at hys2
              obtain ⟨ol, hol, nl, rfl⟩ := X23.open1 (i := 0) (d := Dl) (P := LstO ys2) rfl
              refine args_nil (c_extend (i := 1) (xs := ws' ++ [.ref na]) X23 rfl ⟨nl, hol⟩ (by simp at hwl hwsl ⊢; lia) fun s24 X24 => ?_)
              have X24' : Fx Sh T s T10 Lo _ [(wl, LstO ((ws' ++ [.ref na]) ++ ys2)), (fd, DctO w ks), (c, CellO (some (.ref tb)))] s24 := X24.drop
              have kx : Ev T7 T10 := (k8.trans k9).trans k10
              have hfl : (ss2.filter fun y => (lookT σ y).isSome).length ≤ 4 := by
                have := List.length_filter_le (fun y => (lookT σ y).isSome) ss2
                lia
              have hstep := wt_step (ρ := ρ) (name := name) (ss := ss2.filter fun y => (lookT σ y).isSome) hfl fun y hy => by
                obtain ⟨h1, h2⟩ := List.mem_filter.mp hy
                exact hρ _ (lookT_mem hv2) y ((hss2 y).mp h1) h2
              have hs1 : (((W' ++ [(name, true)]) ++ (ss2.filter fun y => (lookT σ y).isSome).map fun x => (x, false)).map (wt ρ)).sum = (W'.map (wt ρ)).sum + (1 + (((ss2.filter fun y => (lookT σ y).isSome).map fun y => wt ρ (y, false)).sum)) := by
                rw [List.map_append, List.map_append, List.sum_append, List.sum_append, List.map_map]
                show (W'.map (wt ρ)).sum + ([wt ρ (name, true)].sum) + _ = _
                have : wt ρ (name, true) = 1 := rfl
                rw [this]
                simp only [List.sum_cons, List.sum_nil, Function.comp_def]
                lia
              have hwn : wt ρ (name, false) = 6 ^ (ρ name + 1) := rfl
              refine nγ _ <| wpAny_execs_nil (nβ _ <| wpAny_execs_nil (nα _ <| wpAny_execs_nil (hnx _ ⟨_, T10, _, _, ?_, kx, X24', (ws' ++ [.ref na]) ++ ys2, (W' ++ [(name, true)]) ++ (ss2.filter fun y => (lookT σ y).isSome).map fun x => (x, false), ks, rfl, hmw, hmf, ?_, ?_, hks, rfl, ?_⟩).1))
              · rw [hs1, hsum, hwn]; lia
              · exact ((hws'.mono fun _ _ h => h.ev kx).snoc ⟨na, tkn, rfl, (hna.keeps k9).keeps k10⟩).append hys2
              · intro p hp
                rcases List.mem_append.mp hp with hp | hp
                · rcases List.mem_append.mp hp with hp | hp
                  · exact hW p (List.mem_append_left _ hp)
                  · rw [List.mem_singleton.mp hp]; exact hnk
                · obtain ⟨y, hy, rfl⟩ := List.mem_map.mp hp
                  exact lookT_some.mp (List.mem_filter.mp hy).2
              · rw [hs1]; rw [hsum, hwn] at hn; lia
    · obtain ⟨y, hy, rfl⟩ := List.mem_map.mp hp
      exact hssk y hy
    · rw [List.map_map]
      have h1 := sum_le_of (ρ := ρ) (l := ss) fun x hx => rk x (hssk x hx)
      have h2 : ss.length * 279936 ≤ 7 * 279936 := Nat.mul_le_mul_right _ (by lia)
      show ((ss.map fun x => wt ρ (x, false)).sum) ≤ 2000000
      lia
end Mine
end

section
open PySem PySem.W PySem.Calls PyProof.Rows
set_option maxRecDepth 100000
namespace Mine

theorem preSum_take (ns : List Int) : ∀ n, n ≤ ns.length → preSum (fun i => ns.getD i 0) n = (ns.take n).sum
  | 0, _ => by simp [preSum]
  | n + 1, h => by
    show preSum (fun i => ns.getD i 0) n + ns.getD n 0 = _
    rw [preSum_take ns n (by lia), List.take_add_one, List.sum_append]
    simp [List.getD, List.getElem?_eq_getElem (show n < ns.length by lia)]

section
variable {w : World} {A : Around} {E : Value → Shared → Prop} {s : Shared} {Q : Value → Shared → Prop}

theorem c_sum {l : Addr} {ys : List Value} {ns : List Int} (hh : A.handled = none) (hl : s.heap.IsList l ys.toArray) (hi : IntsAre ys ns) (h : ∀ t s', Up s s' → Q (.int ns.sum t) s') :
    wpAny (model PR w) A (call (.builtin "sum") [.ref l]) Q E s := by
  have hlen := hi.length
  obtain ⟨o, ho, _⟩ := id hl
  have hlt := Heap.lt_size ho
  refine call_sum_walkAnyS (wpAny_pyIter_list hl ?_)
  refine ⟨s.heap.objs.size, _, _, _, ys.toArray.size, _, _, fun i => ns.getD i 0, rfl, (Walks.list (A := A.in1) hh _ l (Nat.ne_of_lt hlt) ys.toArray).toS, ⟨⟨_, Heap.get?_push_size _ rfl, rfl, rfl⟩, hl.push _⟩, fun b hb => ?_, fun i v hv => IntsAre.int_at hi i v (by simpa using hv), fun s' t' hm => ?_⟩
  · show b < (s.heap.push _).objs.size
    rw [Heap.size_push]
    rcases List.mem_cons.mp hb with rfl | hb
    · exact Nat.lt_succ_self _
    · rw [List.mem_singleton.mp hb]; exact Nat.lt_succ_of_lt hlt
  · have e : preSum (fun i => ns.getD i 0) ys.toArray.size = ns.sum := by
      rw [List.size_toArray, hlen, preSum_take ns ns.length (Nat.le_refl _), List.take_length]
    rw [e]
    refine h t' s' ⟨⟨hm.gens, hm.os, hm.os⟩, fun b o eb => hm.heap b o (fun hmem => ?_) (Heap.get?_push_of_some _ eb)⟩
    rw [List.mem_singleton.mp hmem] at eb
    exact absurd (Heap.lt_size eb) (Nat.lt_irrefl _)

theorem argBest_le (bt : Nat → Nat → Bool) : ∀ n, argBest bt n ≤ n
  | 0 => Nat.le_refl _
  | n + 1 => by
    unfold argBest
    have := argBest_le bt n
    first
      | (split <;> lia)
      | (dsimp only; split <;> lia)

theorem c_max {l : Addr} {ys : List Value} {ns : List Int} (hh : A.handled = none) (hl : s.heap.IsList l ys.toArray) (hi : IntsAre ys ns) (hne : 0 < ys.length) (h : ∀ n t s', n ∈ ns → Up s s' → Q (.int n t) s') :
    wpAny (model PR w) A (call (.builtin "max") [.ref l]) Q E s := by
  have hlen := hi.length
  obtain ⟨o, ho, _⟩ := id hl
  have hlt := Heap.lt_size ho
  refine call_max_walkS (wpAny_pyIter_list hl ?_)
  refine ⟨s.heap.objs.size, _, _, _, ys.toArray.size, _, _, _, rfl, (Walks.list (A := A.in1) hh _ l (Nat.ne_of_lt hlt) ys.toArray).toS, ⟨⟨_, Heap.get?_push_size _ rfl, rfl, rfl⟩, hl.push _⟩, fun b hb => ?_, by simpa using hne,
    CmpOf.ints_gt (fun i => ns.getD i 0) (fun i v hv => IntsAre.int_at hi i v (by simpa using hv)), fun v s' hv hm => ?_⟩
  · show b < (s.heap.push _).objs.size
    rw [Heap.size_push]
    rcases List.mem_cons.mp hb with rfl | hb
    · exact Nat.lt_succ_self _
    · rw [List.mem_singleton.mp hb]; exact Nat.lt_succ_of_lt hlt
  · obtain ⟨t, rfl⟩ := IntsAre.int_at hi _ v (by simpa using hv)
    refine h _ t s' ?_ ⟨⟨hm.gens, hm.os, hm.os⟩, fun b o eb => hm.heap b o (fun hmem => ?_) (Heap.get?_push_of_some _ eb)⟩
    · have h1 := argBest_le (fun i j => decide (ns.getD i 0 > ns.getD j 0)) (ys.toArray.size - 1)
      rw [List.size_toArray] at h1
      have h2 : argBest (fun i j => decide (ns.getD i 0 > ns.getD j 0)) (ys.length - 1) < ns.length := by lia
      show ns.getD (argBest (fun i j => decide (ns.getD i 0 > ns.getD j 0)) (ys.length - 1)) 0 ∈ ns
      rw [List.getD_eq_getElem?_getD, List.getElem?_eq_getElem h2]
      exact List.getElem_mem h2
    · rw [List.mem_singleton.mp hmem] at eb
      exact absurd (Heap.lt_size eb) (Nat.lt_irrefl _)
end
end Mine
end

section
open PySem PySem.W PySem.Calls PyProof.Rows
set_option maxRecDepth 100000
namespace Mine

noncomputable def IntD (b : Int) (ks : List (Str × Value)) : Prop := ∀ kv ∈ ks, ∃ n t, kv.2 = .int n t ∧ 0 ≤ n ∧ n ≤ b
theorem IntD.mono {b b' : Int} (h : b ≤ b') {ks : List (Str × Value)} (x : IntD b ks) : IntD b' ks := fun kv hkv => let ⟨n, t, e, h1, h2⟩ := x kv hkv; ⟨n, t, e, h1, Int.le_trans h2 h⟩
theorem IntD.stored {b n : Int} {t : Tok} {ks : List (Str × Value)} {x : Str} (h : IntD b ks) (h0 : 0 ≤ n) (hb : n ≤ b) : IntD b (stored ks x (.int n t)) := by
  intro kv hkv
  unfold PySem.stored at hkv
  split at hkv
  · obtain ⟨kv', hk', rfl⟩ := List.mem_map.mp hkv
    split
    · exact ⟨n, t, rfl, h0, hb⟩
    · exact h kv' hk'
  · rcases List.mem_append.mp hkv with hkv | hkv
    · exact h kv hkv
    · rw [List.mem_singleton.mp hkv]; exact ⟨n, t, rfl, h0, hb⟩
theorem valueAt_mem2 {ks : List (Str × Value)} {x : Str} {v : Value} (h : valueAt ks x = some v) : (x, v) ∈ ks := by
  unfold valueAt at h
  obtain ⟨p, hp, rfl⟩ := Option.map_eq_some_iff.mp h
  have h1 := List.mem_of_find?_eq_some hp
  have h2 := List.find?_some hp
  have h3 : p.1 = x := by simpa using h2
  rw [← h3]; exact h1
theorem IntD.get {b : Int} {ks : List (Str × Value)} (h : IntD b ks) (hb : 1 ≤ b) (x : Str) (t0 : Tok) : ∃ n t, (valueAt ks x).getD (.int 1 t0) = .int n t ∧ 0 ≤ n ∧ n ≤ b := by
  cases hv : valueAt ks x with
  | none => exact ⟨1, t0, rfl, by decide, hb⟩
  | some v =>
    obtain ⟨n, t, e, h1, h2⟩ := h _ (valueAt_mem2 hv)
    simp only at e
    exact ⟨n, t, by rw [e]; rfl, h1, h2⟩
theorem valueAt_stored {ks : List (Str × Value)} {x : Str} {v : Value} : valueAt (stored ks x v) x = some v := by
  unfold stored
  split
  · rename_i h
    unfold valueAt
    induction ks with
    | nil => simp at h
    | cons kv ks ih =>
      by_cases e : kv.1 = x
      · simp [e]
      · simp only [List.any_cons, e, decide_false, Bool.false_or] at h
        have := ih h
        simpa [e] using this
  · rename_i h
    unfold valueAt
    rw [List.find?_append]
    have : ks.find? (fun kv => decide (kv.1 = x)) = none := by
      rw [List.find?_eq_none]
      intro kv hkv he
      exact h (List.any_eq_true.mpr ⟨kv, hkv, he⟩)
    simp [this]
theorem ints_snoc {vs : List Value} {ns : List Int} (h : IntsAre vs ns) (n : Int) (t : Tok) : IntsAre (vs ++ [.int n t]) (ns ++ [n]) := by
  induction h with
  | nil => exact .cons n t .nil
  | cons y u _ ih => exact .cons y u ih

/-- the weight of the parts: a variable b, another one -/
noncomputable def gOf (b : Int) (p : Nat × Tm) : Int := if p.2.isVar then b else 1
theorem sum_g (b : Int) (l : List (Nat × Tm)) : (l.map (gOf b)).sum = (l.filter fun p => p.2.isVar).length * b + (l.length - (l.filter fun p => p.2.isVar).length : Int) := by
  induction l with
  | nil => simp
  | cons p l ih =>
    rw [List.map_cons, List.sum_cons, ih, List.filter_cons]
    unfold gOf
    cases h : p.2.isVar with
    | true =>
      simp only [if_true, List.length_cons]
      have e : (((l.filter fun p => p.2.isVar).length + 1 : Nat) : Int) = (l.filter fun p => p.2.isVar).length + 1 := by lia
      rw [e, Int.add_mul, Int.one_mul]
      lia
    | false =>
      simp only [Bool.false_eq_true, if_false, List.length_cons]
      lia
theorem sum_g_le {b : Int} (hb : 1 ≤ b) {u : Tm} (hs : u.size ≤ 4) (hv : u.vars.length ≤ 2) : ((partsOf u).map (gOf b)).sum ≤ 2 * b + 2 := by
  rw [sum_g, partsOf_len]
  have e : ((partsOf u).filter fun p => p.2.isVar).length = u.vars.length := by unfold Tm.vars; rw [List.length_map]
  rw [e]
  generalize u.vars.length = k at hv
  match k, hv with
  | 0, _ => simp; lia
  | 1, _ => simp; lia
  | 2, _ => simp; lia

section
variable {w : World} {A : Around} {E : Value → Shared → Prop} {S T₀ T : Heap} {s₀ s : Shared} {L : Addr} {m : Str → Option Value} {own : Own} {env : Env} {Q : Value → Shared → Prop} {pos : Pos}
theorem Fx.dctM (X : Fx S T₀ s₀ T L m own s) (G : Gnd w T) {a : Addr} {kvs : List (Str × Value)} (hi : (a, DctO w kvs) ∈ own) : Dct w s.heap a kvs := by
  obtain ⟨i, hi⟩ := List.mem_iff_getElem?.mp hi
  exact X.dct G hi
theorem e_most {x : Str} {n : Int} (X : Fx S T₀ s₀ T L m own s) (G : Gnd w T) (hx' : x = Str.ofString "MOST_SIZE" ∧ n = 10000 ∨ x = Str.ofString "MOST_LEVELS" ∧ n = 200) (h : ∀ t, Q (.int n t) s)
    (hk : env.scope.kind = .function := by rfl) (hx : env.kindOf x = some .globalImplicit := by rfl) (hg : env.globals = mainGlobals := by rfl) (hd : (x == ("__debug__" : Str)) = false := by decide) :
    wpAny (model PR w) A (eval (.Name x pos) env) Q E s := by
  obtain ⟨mg, mb, a, _, _, _, ⟨t1, h1⟩, t2, h2⟩ := G.glob
  rcases hx' with ⟨rfl, rfl⟩ | ⟨rfl, rfl⟩
  · exact Name_function_global hk hx (loadGlobal_global (mg := mg) (by rw [hg]; exact (a.keeps X.st.kT)) h1 (h t1)) hd
  · exact Name_function_global hk hx (loadGlobal_global (mg := mg) (by rw [hg]; exact (a.keeps X.st.kT)) h2 (h t2)) hd
end

noncomputable def bs : Nat → Nat
  | 0 => 1
  | i + 1 => 2 * bs i + 2
theorem bs_pos (i : Nat) : 1 ≤ bs i := by
  cases i with
  | zero => exact Nat.le_refl _
  | succ i => show 1 ≤ 2 * bs i + 2; lia
theorem bs_le {i : Nat} (h : i ≤ 7) : bs i ≤ 382 := by
  exact (by decide : ∀ i : Fin 8, bs i.val ≤ 382) ⟨i, Nat.lt_succ_of_le h⟩

/-- what the table must be like for its being worked out -/
structure Small (σ : Tab) : Prop where
  ac : Acyc σ
  nd : (σ.map (·.1)).Nodup
  len : σ.length ≤ 7
  siz : ∀ p ∈ σ, p.2.size ≤ 4
  var : ∀ p ∈ σ, p.2.vars.length ≤ 2

inductive WorkK (w : World) (tb fd dd sd c1 c2 : Addr) (i : Nat) (T' : Heap) (m : Str → Option Value) (own : Own) : Prop
  | mk (dks sks fks : List (Str × Value)) (e : own = [(dd, DctO w dks), (sd, DctO w sks), (fd, DctO w fks), (c2, CellO (some (.ref dd))), (c1, CellO (some (.ref sd)))]) (hmt : m (Str.ofString "table") = some (.ref tb)) (hmf : m (Str.ofString "found") = some (.ref fd))
      (hs : IntD (bs i) sks) (hd : IntD (1 + 3 * (i : Int)) dks) (h1 : dks.length ≤ i) (h2 : sks.length ≤ i) (h3 : fks.length ≤ i)
set_option maxHeartbeats 3200000 in
theorem worked_out_spec {w : World} {σ : Tab} {kvs : List (Str × Value)} {tb : Addr} {T : Heap} {s : Shared} (G : Gnd w T) (kT : Ev T s.heap) (D : Dct w s.heap tb kvs) (hσ : TabIn T kvs σ) (H : Small σ) :
    Spec w 108 10 [.ref tb] T s (fun _ r => ∃ a, r = .ref a) := by
  refine enter (d := 9) (binds := [(Str.ofString "table", .ref tb)]) (G.fn (i := 15) (by decide)) G.lim kT (fun _ _ _ _ _ => rfl) rfl (by decide +kernel) ?_
  intro A cd s₁ E Sh Lo Qf kS r X hQ
  replace D := D.keeps kS
  conv in dBody _ => whnf
  refine x_cons (fun Qα nα rα cα => Assign_Tuple (e_tuple (args_cons ?_)))
  refine e_dict0 X fun fd s2 X2 => args_cons ?_
  refine e_dict0 X2 fun sd s3 X3 => args_cons ?_
  refine e_dict0 X3 fun dd s4 X4 => args_nil ⟨_, _, _, _, _, _, _, X4, by simp, fun ta T5 s5 X5 k5 hta => ?_⟩
  refine s_unpack (xs := [.ref fd, .ref sd, .ref dd]) X5 hta r.hh fun s6 X6 => assignInOrder_cons (wpAny_assign_Name (s_loc X6 fun s7 X7 => ?_))
  refine assignInOrder_cons (wpAny_assign_Name (s_cell (i := 4) X7 rfl fun s8 X8 => ?_))
  refine assignInOrder_cons (wpAny_assign_Name (s_cell (i := 3) X8 rfl fun s9 X9 => assignInOrder_nil ?_))
  have G5 := G.keeps k5
  let c1 : Addr := Lo + 1
  let c2 : Addr := Lo + 1 + 1
  have X9' : Fx Sh T s T5 Lo _ [(dd, DctO w []), (sd, DctO w []), (fd, DctO w []), (c2, CellO (some (.ref dd))), (c1, CellO (some (.ref sd)))] s9 := X9
  -- for name in in_turn(table)
  refine nα _ <| wpAny_execs_cons (wpAny_For (e_call X9' G5 rfl (by decide) (args_cons (e_loc X9' rfl (args_nil ⟨X9'.st.kT, use_spec X9' (in_turn_spec G5 X9'.st.kT (D.keeps X9'.st.kS) (hσ.ev k5) H.ac H.nd H.len H.siz) (r.mono (by lia)) fun pr s10 T6 X10 k6 hpost => ?_⟩)))))
  obtain ⟨pl, ps, ss, rfl, hpl, hps, hssl, hssk⟩ := hpost
  have hpl' : T6.PlainList pl ps.toArray := hpl
  have G6 := G5.keeps k6
  have hpsl : ps.length = ss.length := by rw [← hps.strs, List.length_map]
  refine iter_list X10 hpl.isList fun I s11 X11 => ?_
  refine loop_for (Iter.list hpl.isList) r.hh
    (WorkK w tb fd dd sd c1 c2)
    ?_ ?_ ?_ (Ev.refl _) X11 ?_
  · rintro i T7 T8 m own k ⟨dks, sks, fks, e, h1, h2, h3, h4, h5, h6, h7⟩
    exact ⟨dks, sks, fks, e, h1, h2, h3, h4, h5, h6, h7⟩
  · rintro i T7 m own s12 v E'' hi k7 X12 hpv ⟨dks, sks, fks, rfl, hmt, hmf, hsk, hdk, hl1, hl2, hl3⟩ Q1 hnx hr
    have hpv' : ps[i]? = some v := hpv
    obtain ⟨name, tn, rfl⟩ := hps.all v (List.mem_of_getElem? hpv')
    have hsi : ss[i]? = some name := by rw [← hps.strs, List.getElem?_map, hpv']; rfl
    have hnk : name ∈ σ.map (·.1) := hssk _ (List.mem_of_getElem? hsi)
    have hi7 : i < 7 := by have := H.len; lia
    have hB : (1 : Int) ≤ bs i := by have := bs_pos i; lia
    have hB7 := bs_le (i := i + 1) (by lia)
    have hBs : bs (i + 1) = 2 * bs i + 2 := rfl
    have G7 := G6.keeps k7
    have hσ7 : TabIn T7 kvs σ := ((hσ.ev k5).ev k6).ev k7
    obtain ⟨v, u, hv1, hv2, hv3⟩ : ∃ v u, valueAt kvs name = some v ∧ lookT σ name = some u ∧ TmIn T7 u v := by
      rcases hσ7.at name with ⟨_, h2⟩ | h
      · have := lookT_some.mpr hnk; rw [h2] at this; cases this
      · exact h
    have hu4 := H.siz _ (lookT_mem hv2)
    have huv := H.var _ (lookT_mem hv2)
    simp only at hu4 huv
    have hud := u.depth_le
    refine wpAny_assign_Name (s_loc X12 fun s13 X13 => ?_)
    -- some = parts(table[name])
    refine x_cons (fun Qα nα rα cα => wpAny_Assign_Name (e_call X13 G7 rfl (by decide) (args_cons (e_dsub (e_loc X13 hmt (e_loc X13 rfl ⟨tb, kvs, name, tn, v, rfl, rfl, D.keeps X13.st.kS, hv1, fun s14 u14 => ?_⟩))))))
    have X14 := X13.up u14
    refine args_nil ⟨X14.st.kT, use_spec X14 (parts_spec u (by lia) G7 X14.st.kT hv3) (r.mono (by lia)) fun pr s15 T8 X15 k8 hpost => ?_⟩
    obtain ⟨ql, qs, rfl, hql, hqs⟩ := hpost
    have hql' : T8.PlainList ql qs.toArray := hql
    have G8 := G7.keeps k8
    have hqsl : qs.length = u.size := by rw [hqs.length, partsOf_len]
    refine s_loc X15 fun s16 X16 => ?_
    have X16' : Fx Sh T s T8 Lo _ ((I, LIterO pl (i + 1)) :: [(dd, DctO w dks), (sd, DctO w sks), (fd, DctO w fks), (c2, CellO (some (.ref dd))), (c1, CellO (some (.ref sd)))]) s16 := X16
    -- sizes[name] = sum([...])
    refine nα _ <| x_cons (fun Qα nα rα cα => x_sub (Call_ (e_boot X16' G8 (v := .builtin "sum") rfl (callWith_builtin1 (args_cons (comp_list (e_loc X16' rfl ?_)))))))
    refine iter_list X16' hql.isList fun I2 s17 X17 => ?_
    refine CompGo.mk (fun (j : Nat) (_ : Heap) (ys : List Value) => ∃ ns, IntsAre ys ns ∧ (∀ n ∈ ns, 0 ≤ n) ∧ ns.sum ≤ (((partsOf u).take j).map (gOf (bs i))).sum) rfl (Iter.list hql.isList) (Ev.refl _) X17 (by lia) r.hh ⟨[], .nil, fun n hn => (by cases hn), by simp⟩ (fun _ _ _ _ _ h => h) ?_ ?_
    · rintro C j T9 mC own' s18 pv ys E3 hj k9 X18 hmo hpv ⟨ns, hns, hpos, hsum⟩ hyl Qy Qn hyy hnn
      obtain ⟨pp, hpp, ⟨qa', pa', qv, ppath, rfl, hq', hpath, hpl2, hqv⟩⟩ := (hqs.mono fun _ _ h => h.ev k9).get hpv
      have G9 := G8.keeps k9
      obtain ⟨a, tk, xs, rfl, ht, _, _, _⟩ := view_op (w := w) hqv
      have e1 : (((partsOf u).take (j + 1)).map (gOf (bs i))).sum = (((partsOf u).take j).map (gOf (bs i))).sum + gOf (bs i) pp := by
        rw [List.take_add_one, hpp, List.map_append, List.sum_append]; simp
      refine s_unpack (xs := [.ref pa', .ref a]) X18 hq' r.hh fun s19 X19 => assignInOrder_cons (wpAny_assign_Name (s_loc X19 fun s20 X20 => assignInOrder_cons (wpAny_assign_Name (s_loc X20 fun s21 X21 => assignInOrder_nil ?_))))
      refine wpAny_tests_nil ?_
      rw [if_pos rfl]
      refine IfExp_ ?_
      refine q_isvar X21 G9 (r.mono (by lia)) hqv (e_loc X21 rfl ⟨rfl, rfl⟩) (fun s22 T10 X22 k10 => ?_) rfl
      cases hb : pp.2.isVar with
      | true =>
        rw [if_pos rfl]
        have hc1 := hmo (c1, CellO (some (.ref sd))) (by simp)
        have D22 := X22.dctM (G9.keeps k10) (hmo (sd, DctO w sks) (by simp))
        refine MethodCall_ (e_cellM X22 hc1 (m_dict F.slot_dict_get F.type_dict_get D22 (callWith_method1 (args_cons (e_item (e_loc X22 rfl ⟨_, _, 0, .str pp.2.op tk, rfl, (ht.keeps k10).keeps X22.st.kT, seqIndex_zero (by simp), rfl, fun s23 u23 => ?_⟩))))))
        refine args_cons (e_int fun t24 s24 u24 => args_nil (c_get2 (D22.keeps (u23.ev.trans u24.ev)) fun s25 u25 => ?_))
        obtain ⟨n, tn', en, h0, hn⟩ := hsk.get hB pp.2.op t24
        rw [en]
        refine hyy _ _ ⟨T10, _, k10, ((X22.up u23).up u24).up u25, ns ++ [n], ints_snoc hns n tn', fun n' hn' => ?_, ?_⟩
        · rcases List.mem_append.mp hn' with h | h
          · exact hpos _ h
          · rw [List.mem_singleton.mp h]; exact h0
        · rw [e1, List.sum_append]
          simp only [List.sum_cons, List.sum_nil, gOf, hb, if_true]
          lia
      | false =>
        rw [if_neg (by decide)]
        refine e_int fun t24 s24 u24 => ?_
        refine hyy _ _ ⟨T10, _, k10, X22.up u24, ns ++ [1], ints_snoc hns 1 t24, fun n' hn' => ?_, ?_⟩
        · rcases List.mem_append.mp hn' with h | h
          · exact hpos _ h
          · rw [List.mem_singleton.mp h]; decide
        · rw [e1, List.sum_append]
          simp only [List.sum_cons, List.sum_nil, gOf, hb, Bool.false_eq_true, if_false]
          lia
    · rintro Dl ys T9 s18 k9 X18 ⟨ns, hns, hpos, hsum⟩ hyl
      rw [List.take_of_length_le (by rw [hqs.length]; exact Nat.le_refl _)] at hsum
      have hsum2 := sum_g_le hB hu4 huv
      have hns0 : 0 ≤ ns.sum := by
        clear hns hsum
        induction ns with
        | nil => simp
        | cons n ns ih =>
          rw [List.sum_cons]
          have h1 := hpos n (by simp)
          have h2 := ih fun n' hn' => hpos n' (by simp [hn'])
          lia
      have hnsb : ns.sum ≤ bs (i + 1) := by lia
      have G9 := G8.keeps k9
      refine args_nil (c_sum r.hh (lst_of (i := 0) X18 rfl) hns fun t19 s19 u19 => ?_)
      have X19 : Fx Sh T s T9 Lo _ ((I, LIterO pl (i + 1)) :: [(dd, DctO w dks), (sd, DctO w sks), (fd, DctO w fks), (c2, CellO (some (.ref dd))), (c1, CellO (some (.ref sd)))]) s19 := (X18.up u19).drop
      refine e_cell (i := 5) X19 rfl (e_loc X19 rfl (X19.setD (i := 2) rfl (by lia) fun s20 X20 => ?_))
      have X20' : Fx Sh T s T9 Lo _ ((I, LIterO pl (i + 1)) :: [(dd, DctO w dks), (sd, DctO w (stored sks name (.int ns.sum t19))), (fd, DctO w fks), (c2, CellO (some (.ref dd))), (c1, CellO (some (.ref sd)))]) s20 := X20
      have hqs9 := hqs.mono fun (_ : Value) (_ : Nat × Tm) h => h.ev k9
      have hql9 : T9.PlainList ql qs.toArray := let ⟨n, e⟩ := hql; ⟨n, k9 _ _ e⟩
      -- depths[name] = max([...])
      refine nα _ <| x_cons (fun Qα nα rα cα => x_sub (Call_ (e_boot X20' G9 (v := .builtin "max") rfl (callWith_builtin1 (args_cons (comp_list (e_loc X20' rfl ?_)))))))
      refine iter_list X20' hql9.isList fun I3 s21 X21 => ?_
      refine CompGo.mk (fun (j : Nat) (_ : Heap) (ys : List Value) => ∃ ns, IntsAre ys ns ∧ (∀ n ∈ ns, 0 ≤ n ∧ n ≤ 1 + 3 * ((i + 1 : Nat) : Int)) ∧ ys.length = j) rfl (Iter.list hql9.isList) (Ev.refl _) X21 (by lia) r.hh ⟨[], .nil, fun n hn => (by cases hn), rfl⟩ (fun _ _ _ _ _ h => h) ?_ ?_
      · rintro C j T10 mC own' s22 pv ys2 E3 hj k10 X22 hmo hpv ⟨ns2, hns2, hpos2, hlen2⟩ hyl2 Qy Qn hyy hnn
        obtain ⟨pp, hpp, ⟨qa', pa', qv, ppath, rfl, hq', hpath, hpl2, hqv⟩⟩ := (hqs9.mono fun _ _ h => h.ev k10).get hpv
        have G10 := G9.keeps k10
        obtain ⟨a, tk, xs, rfl, ht, _, _, _⟩ := view_op (w := w) hqv
        have hp3 : ppath.length ≤ 3 := by
          have := partsOf_fst u pp (List.mem_of_getElem? hpp)
          lia
        refine s_unpack (xs := [.ref pa', .ref a]) X22 hq' r.hh fun s23 X23 => assignInOrder_cons (wpAny_assign_Name (s_loc X23 fun s24 X24 => assignInOrder_cons (wpAny_assign_Name (s_loc X24 fun s25 X25 => assignInOrder_nil ?_))))
        refine wpAny_tests_nil ?_
        rw [if_pos rfl]
        refine wpAny_BinOp (e_len X25 G10 (e_loc X25 rfl ⟨_, _, rfl, .inl (hpath.keeps X25.st.kT), by simp; lia, fun t26 s26 u26 => ?_⟩))
        have X26 := X25.up u26
        refine IfExp_ ?_
        refine q_isvar X26 G10 (r.mono (by lia)) hqv (e_loc X26 rfl ⟨rfl, rfl⟩) (fun s27 T11 X27 k11 => ?_) rfl
        have fin : ∀ (n : Int) (tn' : Tok) (s' : Shared), Up s27 s' → 0 ≤ n → n ≤ 1 + 3 * (i : Int) →
            wpAny (model PR w) A (binaryOp .Add (.int (ppath.toArray.size : Nat) t26) (.int n tn')) Qy E3 s' := by
          intro n tn' s' u' h0 hn
          refine add_int (hyy _ _ ⟨T11, _, k11, (X27.up u').up Up.tk, ns2 ++ [_], ints_snoc hns2 _ _, fun n' hn' => ?_, by simp [hlen2]⟩)
          rcases List.mem_append.mp hn' with h | h
          · exact hpos2 _ h
          · rw [List.mem_singleton.mp h]
            have : (ppath.toArray.size : Int) ≤ 3 := by simp; lia
            lia
        cases hb : pp.2.isVar with
        | true =>
          rw [if_pos rfl]
          have hc2 := hmo (c2, CellO (some (.ref dd))) (by simp)
          have D27 := X27.dctM (G10.keeps k11) (hmo (dd, DctO w dks) (by simp))
          refine MethodCall_ (e_cellM X27 hc2 (m_dict F.slot_dict_get F.type_dict_get D27 (callWith_method1 (args_cons (e_item (e_loc X27 rfl ⟨_, _, 0, .str pp.2.op tk, rfl, (ht.keeps k11).keeps X27.st.kT, seqIndex_zero (by simp), rfl, fun s28 u28 => ?_⟩))))))
          refine args_cons (e_int fun t29 s29 u29 => args_nil (c_get2 (D27.keeps (u28.ev.trans u29.ev)) fun s30 u30 => ?_))
          obtain ⟨n, tn', en, h0, hn⟩ := hdk.get (by lia) pp.2.op t29
          rw [en]
          exact fin n tn' s30 ((u28.trans u29).trans u30) h0 hn
        | false =>
          rw [if_neg (by decide)]
          refine e_int fun t29 s29 u29 => ?_
          exact fin 1 t29 s29 u29 (by decide) (by lia)
      · rintro Dl2 ys2 T10 s22 k10 X22 ⟨ns2, hns2, hpos2, hlen2⟩ hyl2
        have G10 := G9.keeps k10
        have h1u := u.size_pos
        refine args_nil (c_max r.hh (lst_of (i := 0) X22 rfl) hns2 (by lia) fun nd t23 s23 hnd u23 => ?_)
        obtain ⟨hd0, hdb⟩ := hpos2 nd hnd
        have X23 : Fx Sh T s T10 Lo _ ((I, LIterO pl (i + 1)) :: [(dd, DctO w dks), (sd, DctO w (stored sks name (.int ns.sum t19))), (fd, DctO w fks), (c2, CellO (some (.ref dd))), (c1, CellO (some (.ref sd)))]) s23 := (X22.up u23).drop
        refine e_cell (i := 4) X23 rfl (e_loc X23 rfl (X23.setD (i := 1) rfl (by lia) fun s24 X24 => ?_))
        have X24' : Fx Sh T s T10 Lo _ ((I, LIterO pl (i + 1)) :: [(dd, DctO w (stored dks name (.int nd t23))), (sd, DctO w (stored sks name (.int ns.sum t19))), (fd, DctO w fks), (c2, CellO (some (.ref dd))), (c1, CellO (some (.ref sd)))]) s24 := X24
        -- if sizes[name] > MOST_SIZE or depths[name] > MOST_LEVELS
        refine nα _ <| x_cons (fun Qα nα rα cα => wpAny_If (isTrue_or (wpAny_isTrue_Compare1 (e_dsub (e_cell (i := 5) X24' rfl (e_loc X24' rfl ⟨sd, _, name, tn, _, rfl, rfl, X24'.dct G10 (i := 2) rfl, valueAt_stored, fun s25 u25 => ?_⟩))))))
        have X25 := X24'.up u25
        refine e_most X25 G10 (.inl ⟨rfl, rfl⟩) fun t26 => gt_int (wpAny_truthy_bool ?_)
        rw [if_neg (by simp; lia)]
        refine isTrue_or (wpAny_isTrue_Compare1 (e_dsub (e_cell (i := 4) X25 rfl (e_loc X25 rfl ⟨dd, _, name, tn, _, rfl, rfl, X25.dct G10 (i := 1) rfl, valueAt_stored, fun s27 u27 => ?_⟩))))
        have X27 := X25.up u27
        refine e_most X27 G10 (.inr ⟨rfl, rfl⟩) fun t28 => gt_int (wpAny_truthy_bool ?_)
        rw [if_neg (by simp; lia)]
        refine isTrue_or_nil ?_
        rw [if_neg (by decide)]
        refine wpAny_execs_nil (nα _ ?_)
        -- found[name] = filled(table[name], found)
        refine x_cons (fun Qα nα rα cα => x_sub (e_call X27 G10 rfl (by decide) (args_cons (e_dsub (e_loc X27 hmt (e_loc X27 rfl ⟨tb, kvs, name, tn, v, rfl, rfl, D.keeps X27.st.kS, hv1, fun s29 u29 => ?_⟩))))))
        have X29 := X27.up u29
        have hv10 : TmIn T10 u v := ((hv3.ev k8).ev k9).ev k10
        refine args_cons (e_loc X29 hmf (args_nil ⟨X29.st.kT, use_spec X29 (filled_spec u G10 X29.st.kT hv10 (X29.dct G10 (i := 3) rfl)) (r.mono (by lia)) fun rv s30 T11 X30 k11 _ => ?_⟩))
        refine e_loc X30 hmf (e_loc X30 rfl (X30.setD (i := 3) rfl (by lia) fun s31 X31 => ?_))
        refine nα _ <| wpAny_execs_nil (hnx _ ⟨T11, _, [(dd, DctO w (stored dks name (.int nd t23))), (sd, DctO w (stored sks name (.int ns.sum t19))), (fd, DctO w (stored fks name rv)), (c2, CellO (some (.ref dd))), (c1, CellO (some (.ref sd)))], ((k8.trans k9).trans k10).trans k11, X31, _, _, _, rfl, hmt, hmf, ?_, ?_, ?_, ?_, ?_⟩).1
        · exact (hsk.mono (by lia)).stored hns0 hnsb
        · exact (hdk.mono (by lia)).stored hd0 hdb
        · exact Nat.le_trans (stored_length_le _ _ _) (by lia)
        · exact Nat.le_trans (stored_length_le _ _ _) (by lia)
        · exact Nat.le_trans (stored_length_le _ _ _) (by lia)
  · rintro T7 m own s12 k7 X12 ⟨dks, sks, fks, rfl, hmt, hmf, _, _, _, _, _⟩
    show wpAny _ _ _ _ _ _
    exact wpAny_execs_cons (wpAny_Return_some (e_loc X12 hmf (hQ _ _ <| X12.done ⟨fd, rfl⟩)))
  · exact ⟨[], [], [], rfl, rfl, rfl, fun kv h => (by cases h), fun kv h => (by cases h), by simp, by simp, by simp⟩
end Mine
end

section
open PySem PySem.W PySem.Calls PyProof.Rows
set_option maxRecDepth 100000
namespace Mine

theorem unified_spec {w : World} {r1 r2 : Tm} {V : List Tm} {N : List Str} {T : Heap} {s : Shared} {v1 v2 : Value} (H : Fit r1 r2 V) (hN : N.length ≤ 7) (hVN : ∀ x, isQ x = true → Tm.leaf x ∈ V → x ∈ N) (hs4 : ∀ t ∈ V, t.size ≤ 4) (hv2 : ∀ t ∈ V, t.vars.length ≤ 2)
    (G : Gnd w T) (kT : Ev T s.heap) (ht1 : TmIn T r1 v1) (ht2 : TmIn T r2 v2) :
    Spec w 115 46 [v1, v2] T s (fun _ r => (r = .none ∧ ∀ θ, inst θ r1 ≠ inst θ r2) ∨ ((∃ a, r = .ref a) ∧ ∃ θ, inst θ r1 = inst θ r2)) := by
  refine enter (d := 45) (binds := [(Str.ofString "one", v1), (Str.ofString "other", v2)]) (G.fn (i := 16) (by decide)) G.lim kT (fun _ _ _ _ _ => rfl) rfl (by decide +kernel) ?_
  intro A cd s₁ E Sh Lo Qf kS r X hQ
  conv in dBody _ => whnf
  refine wpAny_execs_cons (wpAny_Assign_Name (e_call X G rfl (by decide) (args_cons (e_loc X rfl (args_cons (e_loc X rfl (args_nil ⟨X.st.kT, use_spec X (begun_spec H G X.st.kT ht1 ht2) r fun pr s2 T2 X2 k2 hpost => ?_⟩)))))))
  refine s_loc X2 fun s3 X3 => ?_
  refine wpAny_execs_cons (wpAny_Return_some (IfExp_ (wpAny_isTrue_Compare1 (e_loc X3 rfl (wpAny_Constant_none (is_none_gen (wpAny_truthy_bool ?_)))))))
  rcases hpost with ⟨rfl, hno⟩ | ⟨tb, kvs, σ, rfl, D, hσ, hac, hnd, hval, hsol⟩
  · rw [if_pos (by rfl)]
    refine wpAny_Constant_none ?_
    exact hQ _ _ <| X3.done (.inl ⟨rfl, hno⟩)
  · rw [if_neg (by simp)]
    have G2 := G.keeps k2
    have hlen : σ.length ≤ 7 := by
      have := nodup_len (k := N) hnd fun x hx => by
        obtain ⟨p, hp, rfl⟩ := List.mem_map.mp hx
        obtain ⟨_, h2, h3⟩ := hval p hp
        exact hVN _ h2 h3
      simp at this; lia
    refine e_call X3 G2 rfl (by decide) (args_cons (e_loc X3 rfl (args_nil ⟨X3.st.kT, use_spec X3 (worked_out_spec G2 X3.st.kT (D.keeps X3.st.kT) hσ ⟨hac, hnd, hlen, fun p hp => hs4 _ (hval p hp).1, fun p hp => hv2 _ (hval p hp).1⟩) (r.mono (by lia)) fun pr s4 T4 X4 k4 hpost => ?_⟩)))
    obtain ⟨θ, hθ, _⟩ := sol_of_rank hac hnd Tm.leaf
    exact hQ _ _ <| X4.done (.inr ⟨hpost, θ, hsol θ hθ⟩)
end Mine
end

section
open PySem PySem.W PySem.Calls PyProof.Rows
set_option maxRecDepth 100000
namespace Mine

section
variable {w : World} {A : Around} {S T₀ : Heap} {s₀ : Shared} {env cenv : Env}
variable {x2 : Str} {p2 p3 : Pos} {tgt1 iter1 iter2 : Expr} {scope scope' : Scope} {pos : Pos}

noncomputable abbrev two (x2 : Str) (p2 p3 : Pos) (tgt1 iter1 iter2 : Expr) (scope : Scope) (pos : Pos) : Expr := .ListComp (.Name x2 p2) [⟨tgt1, iter1, [], 0⟩, ⟨.Name x2 p3, iter2, [], 0⟩] scope pos

theorem turn_in (it acc : Value) : compTurn (two x2 p2 p3 tgt1 iter1 iter2 scope pos) 1 it acc cenv = (do
      standAt iter2.pos
      match ← pyNext it with
      | none => pure (.done .next)
      | some v =>
        letOwnedTupleGo (.Name x2 p3) it v
        assign (.Name x2 p3) cenv v
        (do let _ ← call (.builtin "list.append") [acc, ← eval (.Name x2 p2) cenv])
        again (.compLoop (two x2 p2 p3 tgt1 iter1 iter2 scope pos) 1 it acc cenv)) := by rfl
theorem turn_out (it acc : Value) : compTurn (two x2 p2 p3 tgt1 iter1 iter2 scope pos) 0 it acc cenv = (do
      standAt iter1.pos
      match ← pyNext it with
      | none => pure (.done .next)
      | some v =>
        letOwnedTupleGo tgt1 it v
        assign tgt1 cenv v
        let x ← eval iter2 cenv
        standAt iter2.pos
        let x ← foldedSetIterable iter2 cenv x
        let _ ← runOwn (.compStart (two x2 p2 p3 tgt1 iter1 iter2 scope pos) 1 (← holding [x] (pyIter x)) acc cenv) cenv
        again (.compLoop (two x2 p2 p3 tgt1 iter1 iter2 scope pos) 0 it acc cenv)) := by rfl

theorem inner_loop {a b : Own} {I D zl C : Addr} {T Tb : Heap} {zs : List Value} {R : Result → Shared → Prop} (hz : Tb.IsList zl zs.toArray) (hh : A.handled = none) (hzl : zs.length ≤ 1000) {ys : List Value} (hy : ys.length ≤ 1000)
    (hx : cenv.kindOf x2 = some .local) (hk : cenv.scope.kind = .function) (hL : cenv.locals = C) (hd : (x2 == ("__debug__" : Str)) = false) (kb : Ev Tb T)
    (fin : ∀ mC' s', Fx S T₀ s₀ T C mC' (a ++ (D, LstO (ys ++ zs)) :: b) s' → R (.ok .next) s') {mC : Str → Option Value} {s : Shared} (X : Fx S T₀ s₀ T C mC ((I, LIterO zl 0) :: (a ++ (D, LstO ys) :: b)) s) :
    codeAny (model PR w) A (.compLoop (two x2 p2 p3 tgt1 iter1 iter2 scope pos) 1 (.ref I) (.ref D) cenv) R s := by
  refine codeAny_loop rfl (fun k s => ∃ i mC, k = zs.length - i ∧ i ≤ zs.length ∧ Fx S T₀ s₀ T C mC ((I, LIterO zl i) :: (a ++ (D, LstO (ys ++ zs.take i)) :: b)) s) (fun k s hI => ?_) (zs.length - 0) ⟨0, mC, rfl, Nat.zero_le _, by simpa using X⟩
  obtain ⟨i, mC, rfl, hi, X⟩ := hI
  show wpAny _ A ((compTurn (two x2 p2 p3 tgt1 iter1 iter2 scope pos) 1 (.ref I) (.ref D) cenv).onRaise (fun x => do noteFrame x cenv; theTreesLotGoes x)) _ _ s
  refine wpAny_noted ?_
  rw [turn_in]
  refine wpAny_bind (wpAny_standAt (wpAny_bind ?_))
  have It := Iter.list (w := w) (tgt := .Name x2 p3) (I := I) hz
  by_cases hlt : i < zs.length
  · refine wpAny_mono (It.next (i := i) (Q := fun v s' => ∃ m', Fx S T₀ s₀ T C m' ((I, LIterO zl (i + 1)) :: (a ++ (D, LstO (ys ++ zs.take i)) :: b)) s' ∧ zs[i]? = some v) (E := notedBy (model PR w) A cenv fun e s' => R (.error e) s') hh kb hlt X fun v s' T₂ X' k hP => ?_) (fun r s₁ h₁ => ?_) fun _ _ x => x
    · -- the frozen heap stays: what is drawn is old
      exact ⟨mC, ⟨(X'.st.kS |> fun _ => ⟨X'.st.kS, (k.trans X'.st.kT), X'.st.ow, X'.st.nd, X'.st.fS, fun p hp => by
        have := X'.st.fT p hp
        exact none_of_ev k this⟩), X.gr, X'.sm⟩, hP⟩
    · obtain ⟨v, rfl, h₁⟩ := h₁
      refine wpAny_bind (wpAny_mono h₁ (fun _ s₂ ⟨m', X2, hv⟩ => ?_) fun _ _ x => x)
      refine wpAny_bind (wpAny_assign_Name (s_loc X2 (fun s3 X3 => ?_) hL hk hx))
      refine wpAny_bind (wpAny_bind (e_loc (v := v) X3 (by simp [upd]) ?_ hL hk hx hd))
      refine wpAny_bind (append_own (a := (C, NsO _) :: (I, LIterO zl (i + 1)) :: a) rfl X3.st (by simp; lia) fun h' X' => ?_)
      have X4 : Fx S T₀ s₀ T C (upd m' x2 v) ((I, LIterO zl (i + 1)) :: (a ++ (D, LstO (ys ++ zs.take (i + 1))) :: b)) { s3 with heap := h' } := by
        refine ⟨?_, X3.gr, X3.sm⟩
        rw [List.take_add_one, hv, ← List.append_assoc]
        exact X'
      exact wpAny_pure (wpAny_pure ⟨rfl, zs.length - (i + 1), by lia, i + 1, _, rfl, hlt, X4⟩)
  · have hin : i = zs.length := by lia
    subst hin
    refine It.done hh kb X fun s' X' => ?_
    exact wpAny_pure (fin mC s' (by simpa using X'))

theorem start_in {it acc : Value} {R : Result → Shared → Prop} {s : Shared} (h0 : codeAny (model PR w) A (.compLoop (two x2 p2 p3 tgt1 iter1 iter2 scope pos) 1 it acc cenv) R s)
    (h : wpAny (model PR w) A (pyIter it) (fun it' s' => codeAny (model PR w) A (.compLoop (two x2 p2 p3 tgt1 iter1 iter2 scope pos) 1 it' acc cenv) R s') (notedBy (model PR w) A cenv fun x s' => R (.error x) s') s) :
    codeAny (model PR w) A (.compStart (two x2 p2 p3 tgt1 iter1 iter2 scope pos) 1 it acc cenv) R s := by
  refine codeAny_of_tree ?_
  show wpAny _ _ ((compStart (two x2 p2 p3 tgt1 iter1 iter2 scope pos) 1 it acc cenv).onRaise (fun x => do noteFrame x cenv; standAt theWindowsPlace)) _ _ s
  refine wpAny_notedAt ?_
  unfold compStart
  show wpAny _ _ (ask >>= _) _ _ s
  refine wpAny_bind (wpAny_askSetting (wpAny_ite ?_))
  split
  · first
      | exact wpAny_bind (wpAny_pure (wpAny_pure (And.intro rfl h0)))
      | exact wpAny_pure (And.intro rfl h0)
  · first
      | exact wpAny_bind (wpAny_rule (wpAny_bind (wpAny_standAt (wpAny_bind (wpAny_mono h (fun it' s' h' => wpAny_pure (And.intro rfl h')) fun _ _ x => x)))))
      | (refine wpAny_bind (wpAny_rule ?_); show wpAny _ _ (standAt iter2.pos >>= _) _ _ s; exact wpAny_bind (wpAny_standAt (wpAny_bind (wpAny_mono h (fun it' s' h' => wpAny_pure (And.intro rfl h')) fun _ _ x => x))))

theorem outer_loop {I C D L : Addr} {n : Nat} {ent : Nat → Own} {P : Nat → Heap → Value → Prop} {T Tb : Heap} {own : Own} {m mC : Str → Option Value} {R : Result → Shared → Prop} {s : Shared} (J : Nat → Heap → List Value → Prop) (It : Iter w Tb tgt1 I n ent P) (kb : Ev Tb T) (hh : A.handled = none)
    (mono : ∀ i T T' ys, Ev T T' → J i T ys → J i T' ys) (hJ : ∀ i T ys, J i T ys → ys.length ≤ 1000) (hx : cenv.kindOf x2 = some .local) (hk : cenv.scope.kind = .function) (hL : cenv.locals = C) (hd : (x2 == ("__debug__" : Str)) = false) (hf : ∀ x, foldedSetIterable iter2 cenv x = pure x)
    (turn : ∀ (i : Nat) (T' : Heap) (mC : Str → Option Value) (own' : Own) (s' : Shared) (v : Value) (ys : List Value) (E : Value → Shared → Prop), i < n → Ev T T' → Fx S T₀ s₀ T' C mC own' s' → (∀ p ∈ own, p ∈ own') → P i T' v → J i T' ys →
        wpAny (model PR w) A (assign tgt1 cenv v) (fun _ s₂ => wpAny (model PR w) A (eval iter2 cenv) (fun x s₃ => ∃ T'' mC' zl zs, x = .ref zl ∧ Ev T' T'' ∧ Fx S T₀ s₀ T'' C mC' own' s₃ ∧ T''.IsList zl zs.toArray ∧ zs.length ≤ 1000 ∧ J (i + 1) T'' (ys ++ zs)) E s₂) E s')
    (fin : ∀ mC ys T' s', Ev T T' → Fx S T₀ s₀ T' C mC ((D, LstO ys) :: (L, NsO m) :: own) s' → J n T' ys → R (.ok .next) s')
    (X : Fx S T₀ s₀ T C mC (ent 0 ++ (D, LstO []) :: (L, NsO m) :: own) s) (h0 : J 0 T []) :
    codeAny (model PR w) A (.compLoop (two x2 p2 p3 tgt1 iter1 iter2 scope pos) 0 (.ref I) (.ref D) cenv) R s := by
  refine codeAny_loop rfl (fun k s => ∃ i T' mC ys, k = n - i ∧ i ≤ n ∧ Ev T T' ∧ Fx S T₀ s₀ T' C mC (ent i ++ (D, LstO ys) :: (L, NsO m) :: own) s ∧ J i T' ys) (fun k s hI => ?_) (n - 0) ⟨0, T, mC, [], rfl, Nat.zero_le _, Ev.refl _, X, h0⟩
  obtain ⟨i, T', mC, ys, rfl, hi, kT, X, hJi⟩ := hI
  show wpAny _ A ((compTurn (two x2 p2 p3 tgt1 iter1 iter2 scope pos) 0 (.ref I) (.ref D) cenv).onRaise (fun x => do noteFrame x cenv; theTreesLotGoes x)) _ _ s
  refine wpAny_noted ?_
  rw [turn_out]
  refine wpAny_bind (wpAny_standAt (wpAny_bind ?_))
  by_cases hlt : i < n
  · refine wpAny_mono (It.next (Q := fun v s' => wpAny (model PR w) A (assign tgt1 cenv v) (fun _ s₂ => wpAny (model PR w) A (eval iter2 cenv) (fun x s₃ => ∃ T'' mC' zl zs, x = .ref zl ∧ Ev T T'' ∧ Fx S T₀ s₀ T'' C mC' (ent (i + 1) ++ (D, LstO ys) :: (L, NsO m) :: own) s₃ ∧ T''.IsList zl zs.toArray ∧ zs.length ≤ 1000 ∧ J (i + 1) T'' (ys ++ zs)) (notedBy (model PR w) A cenv fun e s' => R (.error e) s') s₂) (notedBy (model PR w) A cenv fun e s' => R (.error e) s') s')
        (E := notedBy (model PR w) A cenv fun e s' => R (.error e) s') hh (kb.trans kT) hlt X fun v s' T₂ X' k hP => ?_) (fun r s₁ h₁ => ?_) fun _ _ x => x
    · refine wpAny_mono (turn i T₂ mC _ s' v ys _ hlt (kT.trans k) X' (fun p hp => by simp [hp]) hP (mono _ _ _ _ k hJi)) (fun _ s₂ h₂ => wpAny_mono h₂ (fun x s₃ h₃ => ?_) fun _ _ x => x) fun _ _ x => x
      obtain ⟨T3, m', zl, zs, a, b, c, d, e, f⟩ := h₃
      exact ⟨T3, m', zl, zs, a, (kT.trans k).trans b, c, d, e, f⟩
    · obtain ⟨v, rfl, h₁⟩ := h₁
      refine wpAny_bind (wpAny_mono h₁ (fun _ s₂ h₂ => wpAny_bind (wpAny_mono h₂ (fun _ s₃ h₃ => wpAny_bind (wpAny_mono h₃ (fun x s₄ h₄ => ?_) fun _ _ x => x)) fun _ _ x => x)) fun _ _ x => x)
      obtain ⟨T3, m', zl, zs, rfl, k3, X3, hzl, hzn, hJ3⟩ := h₄
      refine wpAny_bind (wpAny_standAt ?_)
      rw [hf]
      refine wpAny_bind (wpAny_pure (wpAny_bind (wpAny_holding ?_)))
      have hlh : s₄.heap.IsList zl zs.toArray := let ⟨o, a, b⟩ := hzl; ⟨o, X3.st.kT _ _ a, b⟩
      refine iter_list X3 hzl fun I2 s5 X5 => ?_
      have inner : ∀ s6, s6 = s5 → codeAny (model PR w) A (.compLoop (two x2 p2 p3 tgt1 iter1 iter2 scope pos) 1 (.ref I2) (.ref D) cenv) (fun r s' => match r with
          | .ok f => wpAny (model PR w) A (again (.compLoop (two x2 p2 p3 tgt1 iter1 iter2 scope pos) 0 (.ref I) (.ref D) cenv)) (fun fin s' => match fin with
            | .done f => R (.ok f) s'
            | .again c' => c' = .compLoop (two x2 p2 p3 tgt1 iter1 iter2 scope pos) 0 (.ref I) (.ref D) cenv ∧ ∃ m_1, m_1 < n - i ∧ ∃ i T' mC ys, m_1 = n - i ∧ i ≤ n ∧ Ev T T' ∧ Fx S T₀ s₀ T' C mC (ent i ++ (D, LstO ys) :: (L, NsO m) :: own) s' ∧ J i T' ys) (notedBy (model PR w) A cenv fun e s' => R (.error e) s') s'
          | .error e => cameBackBy (model PR w) A cenv (notedBy (model PR w) A cenv fun e s' => R (.error e) s') e s') s6 := by
        rintro s6 rfl
        refine inner_loop (a := ent (i + 1)) (b := (L, NsO m) :: own) hzl hh hzn (hJ _ _ _ hJi) hx hk hL hd (Ev.refl _) (fun mC' s7 X7 => ?_) X5
        exact wpAny_pure ⟨rfl, n - (i + 1), by lia, i + 1, T3, mC', ys ++ zs, rfl, hlt, k3, X7, hJ3⟩
      refine wpAny_bind (wpAny_runOwn ?_)
      rw [mark_none]
      refine start_in (inner _ rfl) ?_
      exact (Iter.list (w := w) (tgt := .Name x2 p3) (I := I2) hzl).self X5 (inner _ rfl)
  · have hin : i = n := by lia
    subst hin
    refine It.done hh (kb.trans kT) X fun s' X' => ?_
    exact wpAny_pure (fin mC ys T' s' kT X' hJi)

inductive CompGo2 (w : World) (A : Around) (env : Env) (scope : Scope) (cl : List (Str × Addr)) (tgt1 iter2 : Expr) (Q : Value → Shared → Prop) (it : Value) (s₂ : Shared) : Prop
  | mk {I : Addr} {n : Nat} {ent : Nat → Own} {P : Nat → Heap → Value → Prop} {Tb T : Heap} {m : Str → Option Value} {own : Own} {S T₀ : Heap} {s₀ : Shared} {L : Addr}
      (J : Nat → Heap → List Value → Prop) (hI : it = .ref I) (It : Iter w Tb tgt1 I n ent P) (kb : Ev Tb T) (X : Fx S T₀ s₀ T L m (ent 0 ++ own) s₂) (hh : A.handled = none) (h0 : J 0 T [])
      (mono : ∀ i T T' ys, Ev T T' → J i T ys → J i T' ys) (hJ : ∀ i T ys, J i T ys → ys.length ≤ 1000)
      (turn : ∀ (C : Addr) (i : Nat) (T' : Heap) (mC : Str → Option Value) (own' : Own) (s' : Shared) (v : Value) (ys : List Value) (E : Value → Shared → Prop), i < n → Ev T T' → Fx S T₀ s₀ T' C mC own' s' → (∀ p ∈ own, p ∈ own') → P i T' v → J i T' ys →
        wpAny (model PR w) A (assign tgt1 (compEnvC scope cl C env) v) (fun _ s₂ => wpAny (model PR w) A (eval iter2 (compEnvC scope cl C env)) (fun x s₃ => ∃ T'' mC' zl zs, x = .ref zl ∧ Ev T' T'' ∧ Fx S T₀ s₀ T'' C mC' own' s₃ ∧ T''.IsList zl zs.toArray ∧ zs.length ≤ 1000 ∧ J (i + 1) T'' (ys ++ zs)) E s₂) E s')
      (fin : ∀ D ys T' s', Ev T T' → Fx S T₀ s₀ T' L m ((D, LstO ys) :: own) s' → J n T' ys → Q (.ref D) s') : CompGo2 w A env scope cl tgt1 iter2 Q it s₂

theorem comp_list2 {cl : List (Str × Addr)} {E : Value → Shared → Prop} {Q : Value → Shared → Prop} {s : Shared}
    (h : wpAny (model PR w) A (eval iter1 env) (fun x s₁ => wpAny (model PR w) A (pyIter x) (fun it s₂ => CompGo2 w A env scope cl tgt1 iter2 Q it s₂) E s₁) E s)
    (hclos : closureFor scope env = pure cl := by with_unfolding_all rfl) (hcell : ∀ y ∈ scope.names, y.2 ≠ .cell := by decide) (hkind : scope.kind = .function := by rfl)
    (hnames : ∀ y ∈ scope.names, y.2 = .local → scope.names.lookup y.1 = some .local := by decide) (hs : ∀ x, foldedSetIterable iter1 env x = pure x := by intro _; rfl)
    (hs2 : ∀ (C : Addr) x, foldedSetIterable iter2 (compEnvC scope cl C env) x = pure x := by intro _ _; rfl) (hx : ∀ C : Addr, (compEnvC scope cl C env).kindOf x2 = some .local := by intro _; rfl)
    (hk2 : ∀ C : Addr, (compEnvC scope cl C env).scope.kind = .function := by intro _; rfl) (hd : (x2 == ("__debug__" : Str)) = false := by decide) :
    wpAny (model PR w) A (eval (two x2 p2 p3 tgt1 iter1 iter2 scope pos) env) Q E s := by
  rw [eval_ListComp]
  refine wpAny_comprehension_free rfl hs hclos hkind hnames (wpAny_mono h (fun x s₁ h₁ => wpAny_mono h₁ (fun it s₂ h₂ => ?_) fun _ _ x => x) fun _ _ x => x)
  obtain ⟨J, rfl, It, kb, X, hh, h0, mono, hJ, turn, fin⟩ := h₂
  rename_i I n ent P Tb T m own S T₀ s₀ L
  have XD := X.st.alloc (P := LstO []) (o := { cls := .type "list", data := .seq ([] : List Value).toArray }) ⟨0, rfl⟩ rfl
  refine wpAny_newObj_type (wpAny_newFunctionEnv hcell (by intro y hy; simp at hy) (fun h₁ hns hsb => ?_) hkind)
  dsimp only at hns hsb
  generalize hH2 : s₂.heap.push { cls := .type "list", dict := none, data := .seq ([] : List Value).toArray } = H2 at hns hsb XD
  have XC := XD.alloc (P := NsO fun _ => none) (o := { cls := .type "dict", data := .dict #[] }) ⟨#[], 0, rfl, fun _ he => by simp at he, fun _ => rfl⟩ rfl
  have XC' : St S T h₁ ((H2.objs.size, NsO fun x => ([] : List (Str × Value)).reverse.lookup x) :: (s₂.heap.objs.size, LstO []) :: (L, NsO m) :: (ent 0 ++ own)) := XC.set (i := 0) rfl hsb.extBut (nsO_iff.mp hns)
  have XF : ∀ {t : Nat}, Fx S T₀ s₀ T H2.objs.size (fun x => ([] : List (Str × Value)).reverse.lookup x) (ent 0 ++ (s₂.heap.objs.size, LstO []) :: (L, NsO m) :: own) { s₂ with heap := h₁, toks := t } := fun {t} =>
    ⟨XC'.perm (List.Perm.cons _ (by
      refine List.Perm.trans List.perm_middle ?_
      exact List.Perm.cons _ List.perm_middle)), X.gr, X.sm⟩
  have loop : ∀ s₃ : Shared, s₃ = { s₂ with heap := h₁, toks := s₂.toks + ([] : List (Str × Value)).length } →
      codeAny (model PR w) A (.compLoop (two x2 p2 p3 tgt1 iter1 iter2 scope pos) 0 (.ref I) (.ref s₂.heap.objs.size) (compEnvC scope cl H2.objs.size env)) (compPost (model PR w) A E none Q (.ref s₂.heap.objs.size) H2.objs.size) s₃ := by
    rintro s₃ rfl
    refine outer_loop (C := H2.objs.size) J It kb hh mono hJ (hx _) (hk2 _) rfl hd (hs2 _) (turn H2.objs.size) (fun mC ys T' s' k X' hJ' => ?_) XF h0
    refine ⟨mC, X'.st.ns, fun h' hs' => fin _ ys T' _ k ?_ hJ'⟩
    exact ⟨((X'.st.swap).ext0 hs'.extBut).swap, X'.gr, X'.sm⟩
  exact codeAny_compStart_list (loop _ rfl) (It.self XF (loop _ rfl))
end
end Mine
end

section
open PySem PySem.W PySem.Calls PyProof.Rows
set_option maxRecDepth 100000
namespace Mine

inductive Lv (σ : Tab) : Tm → Str → Prop
  | bound {t u : Tm} {x : Str} : t.kids = [] → lookT σ t.op = some u → Lv σ u x → Lv σ t x
  | free {t : Tm} : t.kids = [] → lookT σ t.op = none → Lv σ t t.op
  | kid {t k : Tm} {x : Str} : k ∈ t.kids → Lv σ k x → Lv σ t x

/-- how many leaves -/
noncomputable def leafS : Tm → Nat
  | .leaf _ => 0
  | .app t a => leafS t + max 1 (leafS a)
noncomputable def leafN (t : Tm) : Nat := max 1 (leafS t)
theorem leafS_eq (t : Tm) : leafS t = (t.kids.map leafN).sum := by
  induction t with
  | leaf => rfl
  | app t a ih _ => rw [leafS, ih, Tm.kids, List.map_append, List.sum_append]; simp [leafN]
theorem leafN_kids {t : Tm} (h : t.kids ≠ []) : leafN t = (t.kids.map leafN).sum := by
  rw [← leafS_eq]
  cases t with
  | leaf => exact absurd rfl h
  | app t a => exact Nat.max_eq_right (Nat.le_trans (Nat.le_max_left 1 (leafS a)) (Nat.le_add_left _ _))
theorem leafN_leaf {t : Tm} (h : t.kids = []) : leafN t = 1 := by
  unfold leafN; rw [leafS_eq, h]; rfl
theorem sum_take_le (l : List Nat) (i : Nat) : (l.take i).sum ≤ l.sum := by
  induction l generalizing i with
  | nil => simp
  | cons a l ih =>
    cases i with
    | zero => simp
    | succ i => rw [List.take_succ_cons, List.sum_cons, List.sum_cons]; have := ih i; lia
theorem mem_le_sum {l : List Nat} {a : Nat} (h : a ∈ l) : a ≤ l.sum := by
  induction l with
  | nil => cases h
  | cons b l ih =>
    rw [List.sum_cons]
    rcases List.mem_cons.mp h with rfl | h
    · lia
    · have := ih h; lia
theorem leafN_kid {t k : Tm} (h : k ∈ t.kids) : leafN k ≤ leafN t := by
  rw [leafN_kids (List.ne_nil_of_mem h)]
  exact mem_le_sum (List.mem_map_of_mem h)

inductive LeavesPost (σ : Tab) (t : Tm) (b : Nat) (T' : Heap) (r : Value) : Prop
  | mk (l : Addr) (xs : List Value) (ss : List Str) (e : r = .ref l) (h : T'.PlainList l xs.toArray) (hs : StrsAre xs ss) (hm : ∀ x, x ∈ ss ↔ Lv σ t x) (hz : xs.length ≤ leafN t * b)

theorem Lv.of_kids {σ : Tab} {t : Tm} (h : t.kids ≠ []) {x : Str} : Lv σ t x ↔ ∃ k ∈ t.kids, Lv σ k x := by
  constructor
  · intro hl
    cases hl with
    | bound e _ _ => exact absurd e h
    | free e _ => exact absurd e h
    | kid hk hl => exact ⟨_, hk, hl⟩
  · rintro ⟨k, hk, hl⟩
    exact .kid hk hl
theorem Lv.of_free {σ : Tab} {t : Tm} (h : t.kids = []) (hl : lookT σ t.op = none) {x : Str} : Lv σ t x ↔ x = t.op := by
  constructor
  · intro hx
    cases hx with
    | bound _ e _ => rw [hl] at e; cases e
    | free _ _ => rfl
    | kid hk _ => rw [h] at hk; cases hk
  · rintro rfl
    exact .free h hl
theorem Lv.of_bound {σ : Tab} {t u : Tm} (h : t.kids = []) (hl : lookT σ t.op = some u) {x : Str} : Lv σ t x ↔ Lv σ u x := by
  constructor
  · intro hx
    cases hx with
    | bound _ e hx => rw [hl] at e; cases e; exact hx
    | free _ e => rw [hl] at e; cases e
    | kid hk _ => rw [h] at hk; cases hk
  · exact fun hx => .bound h hl hx

theorem strs_append {vs ws : List Value} {ss ts : List Str} (h : StrsAre vs ss) (h' : StrsAre ws ts) : StrsAre (vs ++ ws) (ss ++ ts) := by
  induction h with
  | nil => exact h'
  | cons y u _ ih => exact .cons y u ih

theorem leaves_spec {w : World} {σ : Tab} {kvs : List (Str × Value)} {tb : Addr} {ρ : Str → Nat} (hρ : ∀ p ∈ σ, ∀ y ∈ p.2.vars, (lookT σ y).isSome = true → ρ y < ρ p.1) (hq : ∀ p ∈ σ, isQ p.1 = true) (hd : ∀ p ∈ σ, p.2.depth ≤ 4) (hl2 : ∀ p ∈ σ, leafN p.2 ≤ 2) :
    ∀ (k : Nat), k ≤ 6 → ∀ (t : Tm), leafN t ≤ 2 → (∀ x ∈ t.vars, (lookT σ x).isSome = true → ρ x < k) → ∀ {T : Heap} {s : Shared} {v : Value}, Gnd w T → Ev T s.heap → TmIn T t v → TabIn T kvs σ → Dct w s.heap tb kvs →
      Spec w 142 (t.depth + 5 * k) [v, .ref tb] T s (LeavesPost σ t (2 ^ k)) := by
  intro k
  induction k using Nat.strongRecOn with
  | ind k ihk =>
  intro hk6 t
  induction t using Tm.ind with
  | h t ih =>
  intro hl hr T s v G kT ht hσ D
  have h2k : 1 ≤ 2 ^ k := Nat.pow_pos (by decide)
  have h2k6 : 2 ^ k ≤ 64 := Nat.le_trans (Nat.pow_le_pow_right (by decide) hk6) (by decide)
  have hd1 := t.depth_pos
  obtain ⟨a, tk, xs, rfl, hat, hxl, hx6, hkk⟩ := view_op (w := w) ht
  obtain ⟨d, hdd⟩ : ∃ d, t.depth + 5 * k = d + 1 := ⟨t.depth + 5 * k - 1, by lia⟩
  rw [hdd]
  refine enter (d := d) (binds := [(Str.ofString "t", .ref a), (Str.ofString "table", .ref tb)]) (G.fn (i := 22) (by decide)) G.lim kT (fun _ _ _ _ _ => rfl) rfl (by decide +kernel) ?_
  intro A cd s₁ E Sh Lo Qf kS r X hQ
  replace D := D.keeps kS
  conv in dBody _ => whnf
  let c : Addr := Lo + 1
  have hcell0 : (c, CellO (some (.ref tb))) ∈ cellsOwn (dScope (dStmt 22)) Lo (bindC (envF (dScope (dStmt 22)) (dName (dStmt 22)) Lo 142 cd).kindOf [(Str.ofString "t", .ref a), (Str.ofString "table", .ref tb)] fun _ => none) := List.mem_of_getElem? (i := 0) rfl
  refine wpAny_execs_cons (wpAny_If (wpAny_isTrue_Compare1 (e_len X G (e_loc X rfl ⟨_, _, rfl, .inl (hat.keeps X.st.kT), by simp; lia, fun t2 s2 u2 => ?_⟩))))
  refine e_int fun t3 s3 u3 => wpAny_eq_int (wpAny_truthy_bool ?_)
  have X3 := (X.up u2).up u3
  by_cases hleaf : xs = []
  · subst hleaf
    have hk0 : t.kids = [] := List.eq_nil_of_length_eq_zero hxl.symm
    rw [if_pos (by rfl)]
    refine wpAny_execs_cons (wpAny_Return_some (IfExp_ (wpAny_isTrue_Compare1 (e_item (e_loc X3 rfl ⟨_, _, 0, .str t.op tk, rfl, hat.keeps X3.st.kT, seqIndex_zero (by simp), rfl, fun s4 u4 => ?_⟩)))))
    have X4 := X3.up u4
    refine e_cell (i := 0) X4 rfl (x_in (D.keeps X4.st.kS) fun s5 u5 => wpAny_truthy_bool ?_)
    have X5 := X4.up u5
    rcases hσ.at t.op with ⟨n1, n2⟩ | ⟨x', u, n1, n2, hx'⟩
    · rw [n1, if_neg (by simp)]
      refine e_list (args_cons (e_item (e_loc X5 rfl ⟨_, _, 0, .str t.op tk, rfl, hat.keeps X5.st.kT, seqIndex_zero (by simp), rfl, fun s6 u6 => ?_⟩)))
      refine args_nil ⟨_, _, _, _, _, _, _, X5.up u6, by simp, fun l s7 X7 => ?_⟩
      obtain ⟨T8, k8, hpl, X8⟩ := X7.freezeL
      refine hQ _ _ <| X8.done ⟨l, _, [t.op], rfl, hpl, .cons t.op tk .nil, fun x => ?_, ?_⟩
      · rw [Lv.of_free hk0 n2]; simp
      · rw [leafN_leaf hk0]; simp; lia
    · rw [n1, if_pos (by rfl)]
      have hm := lookT_mem n2
      have hvt : t.isVar = true := by
        unfold Tm.isVar; rw [hk0, hq _ hm]; rfl
      have hrk : ρ t.op < k := hr t.op (by rw [vars_var hvt]; simp) (by rw [n2]; rfl)
      obtain ⟨k', rfl⟩ : ∃ k', k = k' + 1 := ⟨k - 1, by lia⟩
      have hdu := hd _ hm
      simp only at hdu
      refine e_call X5 G rfl (by decide) (args_cons (e_dsub (e_cell (i := 0) X5 rfl (e_item (e_loc X5 rfl ⟨_, _, 0, .str t.op tk, rfl, hat.keeps X5.st.kT, seqIndex_zero (by simp), rfl, fun s6 u6 => ?_⟩)))))
      have X6 := X5.up u6
      refine ⟨tb, kvs, t.op, tk, x', rfl, rfl, D.keeps X6.st.kS, n1, fun s7 u7 => ?_⟩
      have X7 := X6.up u7
      refine args_cons (e_cell (i := 0) X7 rfl (args_nil ⟨X7.st.kT, use_spec X7 (ihk k' (Nat.lt_succ_self _) (by lia) u (hl2 _ hm) (fun x hx hs => by have := hρ _ hm x hx hs; simp only at this; lia) G X7.st.kT hx' hσ (D.keeps X7.st.kS)) (r.mono (by lia)) fun pr s8 T8 X8 k8 hpost => ?_⟩))
      obtain ⟨l, ys, ss, rfl, h1, h2, h3, h4⟩ := hpost
      refine hQ _ _ <| X8.done ⟨l, ys, ss, rfl, h1, h2, fun x => by rw [h3, Lv.of_bound hk0 n2], ?_⟩
      rw [leafN_leaf hk0, Nat.pow_succ]
      have := Nat.mul_le_mul_right (2 ^ k') (hl2 _ hm)
      simp only at this
      lia
  · have hk0 : t.kids ≠ [] := fun e => hleaf (List.eq_nil_of_length_eq_zero (by rw [hxl, e]; rfl))
    rw [if_neg (by
      have : 0 < xs.length := List.length_pos_iff.mpr hleaf
      simp; lia)]
    refine wpAny_execs_nil ?_
    refine wpAny_execs_cons (wpAny_Return_some (comp_list2 (e_from (e_loc X3 rfl ⟨_, _, _, _, _, _, _, _, _, rfl, X3, hat, by decide, by simp, by simp; lia, fun ta T4 s4 X4 k4 hta => ?_⟩))))
    have hta' : IsTup T4 ta xs.toArray := hta
    refine iter_tup X4 hta' fun I s5 X5 => ?_
    refine CompGo2.mk (fun (i : Nat) (_ : Heap) (ys : List Value) => ∃ ss, StrsAre ys ss ∧ (∀ x, x ∈ ss ↔ ∃ kd ∈ t.kids.take i, Lv σ kd x) ∧ ys.length ≤ ((t.kids.take i).map leafN).sum * 2 ^ k) rfl (Iter.tup hta') (Ev.refl _) X5 r.hh ⟨[], .nil, fun x => by simp, by simp⟩ (fun _ _ _ _ _ h => h) ?_ ?_ ?_
    · rintro i T5 ys ⟨ss, _, _, hy⟩
      have h1 : ((t.kids.take i).map leafN).sum ≤ 2 := by
        have := sum_take_le (t.kids.map leafN) i
        rw [← List.map_take] at this
        rw [leafN_kids hk0] at hl
        lia
      have := Nat.mul_le_mul h1 h2k6
      lia
    · rintro C j T6 mC own' s6 v ys E'' hj k6 X6 hmo hpv ⟨ss, hss, hmem, hy⟩
      have hxs : xs[j]? = some v := hpv
      obtain ⟨kid, hkid, hxk⟩ := (hkk.mono fun _ _ h => (h.ev k4).ev k6).get hxs
      have hm : kid ∈ t.kids := List.mem_of_getElem? hkid
      have G6 := (G.keeps k4).keeps k6
      have hcell := hmo (c, CellO (some (.ref tb))) hcell0
      have hdk := Tm.depth_kid hm
      refine wpAny_assign_Name (s_loc X6 fun s7 X7 => ?_)
      refine e_call X7 G6 rfl (by decide) (args_cons (e_loc X7 rfl (args_cons (e_cellM X7 hcell (args_nil ⟨X7.st.kT, use_spec X7 (ih kid hm (Nat.le_trans (leafN_kid hm) hl) (fun x hx => hr x (vars_kid hm hx)) G6 X7.st.kT hxk ((hσ.ev k4).ev k6) (D.keeps X7.st.kS)) (r.mono (by lia)) fun pr s8 T8 X8 k8 hpost => ?_⟩)))))
      obtain ⟨l, zs, ts, rfl, h1, h2, h3, h4⟩ := hpost
      have hkl := leafN_kid hm
      have e1 : ((t.kids.take (j + 1)).map leafN).sum = ((t.kids.take j).map leafN).sum + leafN kid := by
        rw [List.take_add_one, hkid, List.map_append, List.sum_append]; simp
      refine ⟨T8, _, l, zs, rfl, k8, X8, h1.isList, ?_, ss ++ ts, strs_append hss h2, fun x => ?_, ?_⟩
      · have := Nat.mul_le_mul (Nat.le_trans hkl hl) h2k6
        lia
      · rw [List.mem_append, hmem, h3, List.take_add_one, hkid]
        simp only [Option.toList_some, List.mem_append, List.mem_singleton]
        constructor
        · rintro (⟨kd, hkd, h⟩ | h)
          · exact ⟨kd, .inl hkd, h⟩
          · exact ⟨kid, .inr rfl, h⟩
        · rintro ⟨kd, hkd | rfl, h⟩
          · exact .inl ⟨kd, hkd, h⟩
          · exact .inr h
      · rw [e1, List.length_append, Nat.add_mul]; lia
    · rintro Dl ys T6 s6 k6 X6 ⟨ss, hss, hmem, hy⟩
      obtain ⟨T7, k7, hpl, X7⟩ := X6.freezeL
      rw [List.take_of_length_le (by lia)] at hmem hy
      refine hQ _ _ <| X7.done ⟨Dl, ys, ss, rfl, hpl, hss, fun x => by rw [hmem, Lv.of_kids hk0], ?_⟩
      rw [leafN_kids hk0]; exact hy
end Mine
end

section
open PySem PySem.W PySem.Calls PyProof.Rows
set_option maxRecDepth 100000
namespace Mine

theorem is_bare_spec {w : World} {σ : Tab} {kvs : List (Str × Value)} {tb : Addr} {T : Heap} {s : Shared} {t : Tm} {v : Value} (n : Nat) (G : Gnd w T) (kT : Ev T s.heap) (ht : TmIn T t v) (D : Dct w s.heap tb kvs) (hσ : TabIn T kvs σ)
    (hst : Stuck σ (followT σ n t)) (hok : ∀ u, (u = t ∨ ∃ p ∈ σ, u = p.2) → u.isVar = false → lookT σ u.op = none) (hd : ∀ u, (u = t ∨ ∃ p ∈ σ, u = p.2) → u.depth ≤ 6) :
    Spec w 149 2 [v, .ref tb] T s (fun _ r => r = .bool (decide (followT σ n t = .leaf (Str.ofString "?z")))) := by
  refine enter (d := 1) (binds := [(Str.ofString "t", v), (Str.ofString "table", .ref tb)]) (G.fn (i := 23) (by decide)) G.lim kT (fun _ _ _ _ _ => rfl) rfl (by decide +kernel) ?_
  intro A cd s₁ E Sh Lo Qf kS r X hQ
  replace D := D.keeps kS
  conv in dBody _ => whnf
  refine wpAny_execs_cons (wpAny_While ?_)
  refine loop_while (Tb := T)
    (fun k T' m own => ∃ u v', m (Str.ofString "t") = some v' ∧ m (Str.ofString "table") = some (.ref tb) ∧ TmIn T' u v' ∧ followT σ k u = followT σ n t ∧ (u = t ∨ ∃ p ∈ σ, u = p.2)) ?_ (n := n) (Ev.refl _) X ⟨t, v, rfl, rfl, ht, rfl, .inl rfl⟩
  · rintro k T1 m own s1 E' k1 X1 ⟨u, v', hp, htb, hu, hf, hum⟩ Q1 Qe hnx hb hr
    obtain ⟨a, tk, xs, rfl, hat, _, hx6, _⟩ := view_op (w := w) hu
    refine wpAny_isTrue_Compare1 (e_item (e_loc X1 hp ⟨_, _, 0, .str u.op tk, rfl, hat.keeps X1.st.kT, seqIndex_zero (by simp), rfl, fun s3 u3 => ?_⟩))
    have X3 := X1.up u3
    refine e_loc X3 htb (x_in (D.keeps X3.st.kS) fun s4 u4 => wpAny_truthy_bool ?_)
    have X4 := X3.up u4
    have hσ1 : TabIn T1 kvs σ := hσ.ev k1
    rcases hσ1.at u.op with ⟨n1, n2⟩ | ⟨x, t', s1', s2', hx⟩
    · rw [n1, if_neg (by simp)]
      rw [followT_stuck (fun _ => n2)] at hf
      rw [hf] at hu
      refine (hb _ ?_).2
      show wpAny _ _ _ _ _ _
      refine wpAny_execs_cons (wpAny_Return_some (wpAny_Compare1 (e_loc X4 hp (e_tuple (args_cons (e_str fun t5 s5 u5 => args_nil ⟨_, _, _, _, _, _, _, X4.up u5, by simp, fun za T6 s6 X6 k6 hza => ?_⟩))))))
      have hz : TmIn T6 (.leaf (Str.ofString "?z")) (.ref za) := .leaf ⟨by decide, by decide +kernel⟩ hza
      have hdd : (followT σ n t).depth ≤ 6 := follow_mem (V := fun u => u.depth ≤ 6) (fun p hp => hd _ (.inr ⟨p, hp, rfl⟩)) n t (hd t (.inl rfl))
      exact x_eqT ((hu.ev k6).ev X6.st.kT) (hz.ev X6.st.kT) (by have := r.hu; lia) (hQ _ _ <| X6.done rfl)
    · rw [s1', if_pos (by rfl)]
      have hv : u.isVar = true := by
        cases h : u.isVar with
        | true => rfl
        | false => have := hok u hum h; rw [s2'] at this; cases this
      have hk : ∃ k', k = k' + 1 := by
        cases k with
        | zero =>
          exfalso
          have : u = followT σ n t := hf
          rw [← this] at hst
          rw [hst hv] at s2'; cases s2'
        | succ k' => exact ⟨k', rfl⟩
      obtain ⟨k', rfl⟩ := hk
      refine wpAny_execs_cons (wpAny_Assign_Name (e_dsub (e_loc X4 htb (e_item (e_loc X4 hp ⟨_, _, 0, .str u.op tk, rfl, hat.keeps X4.st.kT, seqIndex_zero (by simp), rfl, fun s5 u5 => ?_⟩)))))
      refine ⟨tb, kvs, u.op, tk, x, rfl, rfl, D.keeps (X4.up u5).st.kS, s1', fun s6 u6 => ?_⟩
      refine s_loc ((X4.up u5).up u6) fun s7 X7 => wpAny_execs_nil ?_
      refine (hnx _ ⟨k', T1, _, _, Nat.lt_succ_self _, Ev.refl _, X7, t', x, rfl, htb, hx, ?_, .inr ⟨_, lookT_mem s2', rfl⟩⟩).1
      rw [← hf]
      show _ = if u.isVar = true then (match lookT σ u.op with | some u => followT σ k' u | none => u) else u
      rw [hv, if_pos rfl, s2']
end Mine
end

section
open PySem PySem.W PySem.Calls PyProof.Rows
set_option maxRecDepth 100000
namespace Mine

/-- the heap without one address -/
noncomputable def hide (h : Heap) (a : Addr) : Heap := restr h fun b => b != a
theorem hide_get {h : Heap} {a b : Addr} : (hide h a).get? b = if b = a then none else h.get? b := by
  unfold hide
  rw [restr_get]
  by_cases e : b = a <;> simp [e]
theorem hide_ev (h : Heap) (a : Addr) : Ev (hide h a) h := fun b o e => by
  rw [hide_get] at e
  split at e
  · cases e
  · exact e
theorem hide_ne {h : Heap} {a b : Addr} (hb : b ≠ a) : (hide h a).get? b = h.get? b := by rw [hide_get, if_neg hb]
theorem hide_self {h : Heap} {a : Addr} : (hide h a).get? a = none := by rw [hide_get, if_pos rfl]

theorem Fx.weakS {S S' T₀ : Heap} {s₀ s : Shared} {T : Heap} {L : Addr} {m : Str → Option Value} {own : Own} (X : Fx S T₀ s₀ T L m own s) (k : Ev S' S) : Fx S' T₀ s₀ T L m own s :=
  ⟨⟨k.trans X.st.kS, X.st.kT, X.st.ow, X.st.nd, fun p hp => none_of_ev k (X.st.fS p hp), X.st.fT⟩, X.gr.weak k, X.sm⟩

/-- a call that changes one dict of the caller's -/
noncomputable def SpecM (w : World) (f : Addr) (d : Nat) (args : List Value) (T : Heap) (s : Shared) (ln : Addr) (Post : Heap → Value → List (Str × Value) → Prop) : Prop :=
  ∀ (A : Around) (Q E : Value → Shared → Prop), Room A d →
    (∀ r s' T' kvs', Same s s' → Ev (hide s.heap ln) s'.heap → Gr (hide s.heap ln) T T' → Ev T' s'.heap → T'.get? ln = none → (∃ o, s'.heap.get? ln = some o ∧ DctO w kvs' o) → Post T' r kvs' → Q r s') →
    wpAny (model PR w) A (call (.ref f) args) Q E s

section
variable {w : World} {A : Around} {E : Value → Shared → Prop} {S T₀ T : Heap} {s₀ s : Shared} {L : Addr} {m : Str → Option Value} {own : Own}

theorem use_specM {f : Addr} {d : Nat} {args : List Value} {ln : Addr} {kvs : List (Str × Value)} {Post : Heap → Value → List (Str × Value) → Prop} {Q : Value → Shared → Prop} {i : Nat} (X : Fx S T₀ s₀ T L m own s) (hi : own[i]? = some (ln, DctO w kvs)) (sp : SpecM w f d args T s ln Post) (r : Room A d)
    (h : ∀ r s' T' kvs', Fx S T₀ s₀ T' L m (own.set i (ln, DctO w kvs')) s' → Ev T T' → Post T' r kvs' → Q r s') : wpAny (model PR w) A (call (.ref f) args) Q E s := by
  refine sp A Q E r fun r s' T' kvs' sm k g kT hln ho post => h r s' T' kvs' ?_ g.1 post
  have hm : (ln, DctO w kvs) ∈ own := List.mem_of_getElem? hi
  have hS : S.get? ln = none := X.st.fS _ (List.mem_cons_of_mem _ hm)
  have hT : T.get? ln = none := X.st.fT _ (List.mem_cons_of_mem _ hm)
  -- the heap, ln aside, is kept
  have k1 : Heap.ExtBut ln s.heap s'.heap := fun b o hb e => k b o (by rw [hide_ne hb]; exact e)
  have Y := X.st.set (i := i + 1) (P' := DctO w kvs') hi k1 ho
  refine ⟨⟨Y.kS, kT, Y.ow, Y.nd, Y.fS, fun p hp => ?_⟩, ⟨X.gr.1.trans g.1, fun a o e => ?_⟩, X.sm.trans sm⟩
  · by_cases e : p.1 = ln
    · rw [e]; exact hln
    · cases q : T'.get? p.1 with
      | none => rfl
      | some o =>
        rcases g.2 _ _ q with h1 | h1
        · have := Y.fT p hp; rw [h1] at this; cases this
        · rw [hide_ne e] at h1
          obtain ⟨o', ho', _⟩ := Y.ow p hp
          have h2 : p.1 ∈ (((L, NsO m) :: own) : Own).map (·.1) := by
            have h3 := List.mem_map_of_mem (f := (·.1)) hp
            have : ((((L, NsO m) :: own) : Own).set (i + 1) (ln, DctO w kvs')).map (·.1) = (((L, NsO m) :: own) : Own).map (·.1) := by
              rw [List.map_set]
              refine List.ext_getElem? fun j => ?_
              rw [List.getElem?_set]
              split
              · rename_i e2; subst e2
                split
                · rw [List.getElem?_map]
                  show _ = (own[i]?).map _
                  rw [hi]; rfl
                · rename_i hlt
                  rw [List.getElem?_eq_none (by lia)]
              · rfl
            have h4 : p.1 ∈ ((((L, NsO m) :: own) : Own).set (i + 1) (ln, DctO w kvs')).map (·.1) := h3
            rw [this] at h4; exact h4
          obtain ⟨p', hp', e'⟩ := List.mem_map.mp h2
          obtain ⟨o2, ho2, _⟩ := X.st.ow p' hp'
          rw [e', h1] at ho2; cases ho2
  · rcases g.2 a o e with h1 | h1
    · exact X.gr.2 a o h1
    · refine .inr ?_
      by_cases ea : a = ln
      · rw [ea]; exact hS
      · rw [hide_ne ea] at h1
        exact none_of_ev X.st.kS h1

inductive DoneM (w : World) (S T₀ : Heap) (s₀ : Shared) (ln : Addr) (Post : Heap → Value → List (Str × Value) → Prop) (r : Value) (s' : Shared) : Prop
  | mk (T' : Heap) (L' : Addr) (m' : Str → Option Value) (own' : Own) (kvs' : List (Str × Value)) (X : Fx S T₀ s₀ T' L' m' ((ln, DctO w kvs') :: own') s') (h : Post T' r kvs')
/-- a function's head, for such a call -/
theorem enterM {f : Addr} {d : Nat} {name : Str} {params : Arguments} {body : List Stmt} {scope : Scope} {args : List Value} {T : Heap} {s : Shared} {ln : Addr} {kvs : List (Str × Value)} {Post : Heap → Value → List (Str × Value) → Prop} {binds : List (Str × Value)}
    (hF : FnAt T f name params body scope) (hlim : T.NoLimit) (kT : Ev T s.heap) (hln : T.get? ln = none) (ho : ∃ o, s.heap.get? ln = some o ∧ DctO w kvs o)
    (hbind : ∀ doc pm an cdv ct, bindArgs (fnOf name name params body scope .none .none doc pm an cdv ct) ⟨args, []⟩ = pure binds)
    (hkind : (binds.all fun y => scope.names.lookup y.1 == some .local || scope.names.lookup y.1 == some .cell) = true)
    (hnd : ((cellsFrom 0 scope.names []).map (·.1)).Nodup)
    (h : ∀ (A : Around) (cd : Value) (s₁ : Shared) (E : Value → Shared → Prop) (S : Heap) (L : Addr) (Q : Flow → Shared → Prop), Ev (hide s.heap ln) S → Room A d →
      Fx S T s T L (bindL (envF scope name L f cd).kindOf binds fun _ => none) ((ln, DctO w kvs) :: cellsOwn scope L (bindC (envF scope name L f cd).kindOf binds fun _ => none)) s₁ →
      (∀ fl s', DoneM w S T s ln Post (retOf fl) s' → Q fl s') → wpAny (model PR w) A (execs body (envF scope name L f cd)) Q E s₁)
    (hco : scope.isCoroutine = false := by rfl) (hgen : scope.isGenerator = false := by rfl) (hk : scope.kind = .function := by rfl) :
    SpecM w f (d + 1) args T s ln Post := by
  intro A Q E ⟨hh, hd, hu⟩ hQ
  obtain ⟨o, doc, pm, an, cdv, ct, ho', hdat, hcd⟩ := hF
  refine wpAny_call ?_
  refine codeAny_call_cells (fd := fnOf name name params body scope .none .none doc pm an cdv ct) (body := body) (binds := binds) (by lia) (kT _ _ ho') hdat (hlim.keeps kT) (hcd.keeps kT) rfl (hbind _ _ _ _ _) rfl (kindsX hkind _) (fun s₁ I => ?_) hco hgen hk
  have e : callEnvC (fnOf name name params body scope .none .none doc pm an cdv ct) s.heap.objs.size f = envF scope name s.heap.objs.size f cdv := rfl
  rw [e] at I ⊢
  have hsame := I.toInCall.same
  obtain ⟨oln, holn, hPln⟩ := ho
  have hlt := Heap.lt_size holn
  have X0 : Fx s.heap T s T s.heap.objs.size (bindL (envF scope name s.heap.objs.size f cdv).kindOf binds fun _ => none) (cellsOwn scope s.heap.objs.size (bindC (envF scope name s.heap.objs.size f cdv).kindOf binds fun _ => none)) s₁ := by
    refine ⟨⟨I.toInCall.keep, kT.trans I.toInCall.keep, fun p hp => ?_, ?_, fun p hp => ?_, fun p hp => ?_⟩, Gr.refl _ _, ?_⟩
    · rcases List.mem_cons.mp hp with rfl | hp
      · exact nsO_iff.mp I.toInCall.ns
      · obtain ⟨q, hq, rfl⟩ := List.mem_map.mp hp
        have hnd' : ((cellsFrom (s.heap.objs.size + 1) scope.names []).map (·.1)).Nodup := by rw [← cellsFrom_names scope.names 0 _ [] [] rfl]; exact hnd
        exact I.cell q.1 q.2 (lookup_mem_nodup (l := cellsFrom (s.heap.objs.size + 1) scope.names []) hnd' hq)
    · rw [List.map_cons, List.nodup_cons]
      refine ⟨fun hm => ?_, ?_⟩
      · obtain ⟨p, hp, e⟩ := List.mem_map.mp hm
        obtain ⟨q, hq, rfl⟩ := List.mem_map.mp hp
        exact absurd (I.above q.1 q.2 hq) (by have e' : q.2 = s.heap.objs.size := e; rw [e']; exact Nat.lt_irrefl _)
      · show ((cellsOwn scope s.heap.objs.size _).map (·.1)).Nodup
        unfold cellsOwn
        rw [List.map_map]
        exact List.pairwise_map.mpr I.apart
    · rcases List.mem_cons.mp hp with rfl | hp
      · exact get_size _
      · obtain ⟨q, hq, rfl⟩ := List.mem_map.mp hp
        have := I.above q.1 q.2 hq
        cases z : s.heap.get? q.2 with
        | none => rfl
        | some o => exact absurd (Heap.lt_size z) (Nat.not_lt.mpr (Nat.le_of_lt this))
    · refine none_of_ev kT ?_
      rcases List.mem_cons.mp hp with rfl | hp
      · exact get_size _
      · obtain ⟨q, hq, rfl⟩ := List.mem_map.mp hp
        have := I.above q.1 q.2 hq
        cases z : s.heap.get? q.2 with
        | none => rfl
        | some o => exact absurd (Heap.lt_size z) (Nat.not_lt.mpr (Nat.le_of_lt this))
    · obtain ⟨h', t, e⟩ := hsame
      rw [e]; exact ⟨rfl, rfl, rfl⟩
  have X1 := X0.weakS (hide_ev s.heap ln)
  have hnot : ln ∉ (((s.heap.objs.size, NsO (bindL (envF scope name s.heap.objs.size f cdv).kindOf binds fun _ => none)) :: cellsOwn scope s.heap.objs.size (bindC (envF scope name s.heap.objs.size f cdv).kindOf binds fun _ => none)) : Own).map (·.1) := fun hm => by
    obtain ⟨p, hp, e⟩ := List.mem_map.mp hm
    have := X0.st.fS p hp
    rw [e, holn] at this; cases this
  have X2 : Fx (hide s.heap ln) T s T s.heap.objs.size (bindL (envF scope name s.heap.objs.size f cdv).kindOf binds fun _ => none) ((ln, DctO w kvs) :: cellsOwn scope s.heap.objs.size (bindC (envF scope name s.heap.objs.size f cdv).kindOf binds fun _ => none)) s₁ := by
    refine ⟨St.swap ⟨X1.st.kS, X1.st.kT, fun p hp => ?_, ?_, fun p hp => ?_, fun p hp => ?_⟩, X1.gr, X1.sm⟩
    · rcases List.mem_cons.mp hp with rfl | hp
      · exact ⟨oln, I.toInCall.keep _ _ holn, hPln⟩
      · exact X1.st.ow p hp
    · rw [List.map_cons, List.nodup_cons]
      exact ⟨hnot, X1.st.nd⟩
    · rcases List.mem_cons.mp hp with rfl | hp
      · exact hide_self
      · exact X1.st.fS p hp
    · rcases List.mem_cons.mp hp with rfl | hp
      · exact hln
      · exact X1.st.fT p hp
  refine wpAny_mono (h (A.deeper (envF scope name s.heap.objs.size f cdv)) cdv s₁ _ (hide s.heap ln) s.heap.objs.size (fun fl s' => DoneM w (hide s.heap ln) T s ln Post (retOf fl) s') (Ev.refl _) ⟨hh, by show A.depth + 1 + d < _; lia, by show A.units + 3 + 8 * d < _; lia⟩ X2 fun _ _ x => x) (fun fl s' hd' => ?_) fun _ _ x => x
  obtain ⟨T', L', m', own', kvs', Y, hpost⟩ := hd'
  have hm : (ln, DctO w kvs') ∈ (((L', NsO m') :: (ln, DctO w kvs') :: own') : Own) := by simp
  cases fl <;> exact hQ _ _ _ kvs' Y.sm Y.st.kS Y.gr Y.st.kT (Y.st.fT _ hm) (Y.st.ow _ hm) hpost
end
end Mine
end

section
open PySem PySem.W PySem.Calls PyProof.Rows
set_option maxRecDepth 100000
namespace Mine

section
variable {w : World} {A : Around} {E : Value → Shared → Prop} {S T₀ T : Heap} {s₀ s : Shared} {L : Addr} {m : Str → Option Value} {own : Own} {env : Env} {Q : Value → Shared → Prop} {pos : Pos}

/-- l[k] of a list -/
theorem e_lidx {value slice : Expr} (h : wpAny (model PR w) A (eval value env) (fun v s₁ => wpAny (model PR w) A (eval slice env) (fun i s₂ => ∃ l xs k t x, v = .ref l ∧ i = .int k t ∧ s₂.heap.IsList l xs ∧ 0 ≤ k ∧ k < 2 ^ 63 ∧ xs[k.toNat]? = some x ∧ Q x s₂) E s₁) E s)
    (hs : ∀ o i, ∃ ops, subscripted slice false o i = operate ops (getItem o i) := by intro o i; exact ⟨_, by with_unfolding_all rfl⟩) : wpAny (model PR w) A (eval (.Subscript value slice pos) env) Q E s := by
  refine Subscript_ (wpAny_mono h (fun v s₁ h₁ => wpAny_mono h₁ (fun i s₂ h₂ => ?_) fun _ _ x => x) fun _ _ x => x)
  obtain ⟨l, xs, k, t, x, rfl, rfl, hl, h0, hf, hx, hQ⟩ := h₂
  obtain ⟨ops, e⟩ := hs (.ref l) (.int k t)
  exact sub_tail hl.typeIs slot_list_getitem.lookup (wpAny_getItem_list hl h0 hf hx hQ) e

/-- two lists as one -/
theorem add_own {a b : Addr} {xs ys : List Value} (X : Fx S T₀ s₀ T L m own s) (ha : s.heap.IsList a xs.toArray) (hb : s.heap.IsList b ys.toArray) (hz : xs.length + ys.length ≤ 100000)
    (h : ∀ l s', Fx S T₀ s₀ T L m ((l, LstO (xs ++ ys)) :: own) s' → Q (.ref l) s') : wpAny (model PR w) A (binaryOp .Add (.ref a) (.ref b)) Q E s := by
  obtain ⟨⟨cls, dd, data, sl⟩, ho, hc, n, hd⟩ := id ha
  obtain ⟨⟨cls2, dd2, data2, sl2⟩, ho2, hc2, n2, hd2⟩ := id hb
  simp only at hc hd hc2 hd2
  subst hc hd hc2 hd2
  have e : xs.toArray ++ ys.toArray = (xs ++ ys).toArray := by simp
  refine concat_meets ⟨_, ho, rfl⟩ ⟨_, ho2, rfl⟩ noFill_list_add seq_list_add PySem.F.slot_list_add PySem.F.entry_list_add (PySem.F.args_list_add_2 _ _) (list_addW a b xs.toArray ys.toArray n n2 dd dd2 sl sl2 (by rw [sizeLine_eq]; simp; lia)) ⟨ho, ho2, ?_⟩
  rw [e]
  exact h _ _ ⟨(X.st.alloc (P := LstO (xs ++ ys)) ⟨0, rfl⟩ rfl).swap, X.gr, X.sm⟩
end

theorem bits_small : ∀ n : Fin 64, Builtin.Int.intBits ((n.val : Nat) : Int) ≤ 64 := by decide +kernel

/-- what `line` is: the cells, the place -/
noncomputable def LineK (cl : Addr) (n : Nat) (kvs : List (Str × Value)) : Prop := ∃ t, kvs = [(Str.ofString "cells", .ref cl), (Str.ofString "at", .int n t)]
theorem LineK.cells {cl : Addr} {n : Nat} {kvs : List (Str × Value)} (h : LineK cl n kvs) : valueAt kvs (Str.ofString "cells") = some (.ref cl) := by obtain ⟨t, rfl⟩ := h; rfl
theorem LineK.at' {cl : Addr} {n : Nat} {kvs : List (Str × Value)} (h : LineK cl n kvs) : ∃ t, valueAt kvs (Str.ofString "at") = some (.int n t) := by obtain ⟨t, rfl⟩ := h; exact ⟨t, rfl⟩
theorem LineK.put {cl : Addr} {n k : Nat} {t : Tok} {kvs : List (Str × Value)} (h : LineK cl n kvs) : LineK cl k (stored kvs (Str.ofString "at") (.int k t)) := by obtain ⟨t', rfl⟩ := h; exact ⟨t, rfl⟩
theorem LineK.len {cl : Addr} {n : Nat} {kvs : List (Str × Value)} (h : LineK cl n kvs) : kvs.length = 2 := by obtain ⟨t, rfl⟩ := h; rfl

/-- the cells -/
noncomputable def Cells (T : Heap) (cl : Addr) : Prop := ∃ cs ns, T.IsList cl cs.toArray ∧ IntsAre cs ns ∧ cs.length ≤ 63
theorem Cells.ev {T T' : Heap} (k : Ev T T') {cl : Addr} (h : Cells T cl) : Cells T' cl := by
  obtain ⟨cs, ns, ⟨o, a, b⟩, c⟩ := h
  exact ⟨cs, ns, ⟨o, k _ _ a, b⟩, c⟩

noncomputable def PullPost (cl : Addr) (n : Nat) (mny : Int) (_ : Heap) (r : Value) (kvs : List (Str × Value)) : Prop := (∃ k t, r = .int k t ∧ 0 ≤ k ∧ k < mny) ∧ LineK cl (n + 1) kvs

set_option maxHeartbeats 1600000 in
theorem pull_spec {w : World} {T : Heap} {s : Shared} {ln cl : Addr} {n : Nat} {mny : Int} {tm : Tok} {kvs : List (Str × Value)} (G : Gnd w T) (kT : Ev T s.heap) (hln : T.get? ln = none) (ho : ∃ o, s.heap.get? ln = some o ∧ DctO w kvs o) (hK : LineK cl n kvs) (hC : Cells T cl) (hn : n < 60) (hm : 1 ≤ mny) :
    SpecM w 123 1 [.ref ln, .int mny tm] T s ln (PullPost cl n mny) := by
  refine enterM (d := 0) (binds := [(Str.ofString "line", .ref ln), (Str.ofString "many", .int mny tm)]) (G.fn (i := 19) (by decide)) G.lim kT hln ho (fun _ _ _ _ _ => rfl) rfl (by decide +kernel) ?_
  intro A cd s₁ E Sh Lo Qf kS r X hQ
  conv in dBody _ => whnf
  obtain ⟨ta, hat⟩ := hK.at'
  obtain ⟨cs, ns, hcl, hcs, hcz⟩ := hC
  have D1 := X.dct G (i := 0) rfl
  -- at = line['at']
  refine x_cons (fun Qα nα rα cα => wpAny_Assign_Name (e_dsub (e_loc X rfl (e_str fun t2 s2 u2 => ⟨ln, kvs, _, t2, _, rfl, rfl, D1.keeps u2.ev, hat, fun s3 u3 => ?_⟩))))
  refine s_loc ((X.up u2).up u3) fun s4 X4 => ?_
  -- line['at'] = at + 1
  refine nα _ <| x_cons (fun Qα nα rα cα => x_sub (wpAny_BinOp (e_loc X4 rfl (e_int fun t5 s5 u5 => add_int ?_))))
  have X5 := (X4.up u5).up (s' := { s5 with toks := s5.toks + 1 }) Up.tk
  refine e_loc X5 rfl (e_str fun t6 s6 u6 => ?_)
  refine (X5.up u6).setD (i := 0) rfl (by rw [hK.len]; lia) fun s7 X7 => ?_
  have hK7 : LineK cl (n + 1) (stored kvs (Str.ofString "at") (.int ((n : Int) + 1) s5.toks)) := by
    have := hK.put (k := n + 1) (t := s5.toks)
    simpa using this
  have X7' : Fx Sh T s T Lo _ [(ln, DctO w (stored kvs (Str.ofString "at") (.int ((n : Int) + 1) s5.toks)))] s7 := X7
  generalize stored kvs (Str.ofString "at") (.int ((n : Int) + 1) s5.toks) = kvs2 at hK7 X7'
  have D7 := X7'.dct G (i := 0) rfl
  have hcl' : ∀ {s' : Shared} {m' : Str → Option Value} {own' : Own}, Fx Sh T s T Lo m' own' s' → s'.heap.IsList cl cs.toArray := fun X => let ⟨o, a, b⟩ := hcl; ⟨o, X.st.kT _ _ a, b⟩
  have fin : ∀ {s' : Shared} {m' : Str → Option Value} (x : Int) (t : Tok), Fx Sh T s T Lo m' [(ln, DctO w kvs2)] s' →
      Qf (.ret (.int (x.fmod mny) t)) { s' with toks := s'.toks + 1 } := fun {s' m'} x t X' => hQ _ _
    ⟨T, _, _, [], kvs2, X'.up Up.tk, ⟨_, t, rfl, Int.fmod_nonneg_of_pos x (by lia), Int.fmod_lt_of_pos x (by lia)⟩, hK7⟩
  -- if at < len(line['cells'])
  refine nα _ <| wpAny_execs_cons (wpAny_If (wpAny_isTrue_Compare1 (e_loc X7' rfl (e_len X7' G (e_dsub (e_loc X7' rfl (e_str fun t8 s8 u8 => ⟨ln, kvs2, _, t8, _, rfl, rfl, D7.keeps u8.ev, hK7.cells, fun s9 u9 => ?_⟩)))))))
  have X9 := (X7'.up u8).up u9
  refine ⟨_, _, rfl, .inr (hcl' X9), by simp; lia, fun t10 s10 u10 => lt_int (wpAny_truthy_bool ?_)⟩
  have X10 := X9.up u10
  have D10 := D7.keeps ((u8.ev.trans u9.ev).trans u10.ev)
  by_cases hlt : n < cs.length
  · rw [if_pos (by simpa using hlt)]
    refine wpAny_execs_cons (wpAny_Return_some (wpAny_BinOp (e_lidx (e_dsub (e_loc X10 rfl (e_str fun t11 s11 u11 => ⟨ln, kvs2, _, t11, _, rfl, rfl, D10.keeps u11.ev, hK7.cells, fun s12 u12 => ?_⟩))))))
    have X12 := (X10.up u11).up u12
    obtain ⟨tc, hc⟩ := IntsAre.int_at hcs n cs[n] (List.getElem?_eq_getElem hlt)
    refine e_loc X12 rfl ⟨cl, _, _, _, cs[n], rfl, rfl, hcl' X12, by lia, by lia, by simp [hlt], ?_⟩
    rw [hc]
    exact e_loc X12 rfl (mod_int (by lia) (fin _ _ X12))
  · rw [if_neg (by simpa using hlt)]
    refine wpAny_execs_nil ?_
    have hb : IntMulOk (5 * (n : Int)) (n : Int) := IntMulOk.of_right (bits_small ⟨n, by lia⟩)
    refine wpAny_execs_cons (wpAny_Return_some (wpAny_BinOp (wpAny_BinOp (wpAny_BinOp (wpAny_BinOp (wpAny_BinOp (wpAny_BinOp (wpAny_BinOp (e_int fun t11 s11 u11 => ?_)))))))))
    have X11 := X10.up u11
    refine e_loc X11 rfl (PyProof.Rows.mul_int ?_ (IntMulOk.of_left (by decide +kernel)))
    have X12 := X11.up (s' := { s11 with toks := s11.toks + 1 }) Up.tk
    refine e_loc X12 rfl (PyProof.Rows.mul_int ?_ hb)
    have X13 := X12.up (s' := { s11 with toks := s11.toks + 1 + 1 }) Up.tk
    refine wpAny_BinOp (e_int fun t14 s14 u14 => ?_)
    have X14 := X13.up u14
    refine e_loc X14 rfl (PyProof.Rows.mul_int ?_ (IntMulOk.of_left (by decide +kernel)))
    have X15 := X14.up (s' := { s14 with toks := s14.toks + 1 }) Up.tk
    refine add_int ?_
    have X16 := X15.up (s' := { s14 with toks := s14.toks + 1 + 1 }) Up.tk
    refine wpAny_BinOp (e_int fun t17 s17 u17 => ?_)
    have X17 := X16.up u17
    refine e_len X17 G (e_dsub (e_loc X17 rfl (e_str fun t18 s18 u18 => ?_)))
    have D17 := X17.dct G (i := 0) rfl
    refine ⟨ln, kvs2, _, t18, _, rfl, rfl, D17.keeps u18.ev, hK7.cells, fun s19 u19 => ?_⟩
    have X19 := (X17.up u18).up u19
    refine ⟨_, _, rfl, .inr (hcl' X19), by simp; lia, fun t20 s20 u20 => PyProof.Rows.mul_int ?_ (IntMulOk.of_left (by decide +kernel))⟩
    have X20 := (X19.up u20).up (s' := { s20 with toks := s20.toks + 1 }) Up.tk
    refine add_int ?_
    have X21 := X20.up (s' := { s20 with toks := s20.toks + 1 + 1 }) Up.tk
    refine e_int fun t22 s22 u22 => add_int ?_
    have X22 := (X21.up u22).up (s' := { s22 with toks := s22.toks + 1 }) Up.tk
    refine e_int fun t23 s23 u23 => mod_int (by decide) ?_
    have X23 := (X22.up u23).up (s' := { s23 with toks := s23.toks + 1 }) Up.tk
    exact e_loc X23 rfl (mod_int (by lia) (fin _ _ X23))
end Mine
end

section
open PySem PySem.W PySem.Calls PyProof.Rows
set_option maxRecDepth 100000
namespace Mine

noncomputable def base : List Str := [Str.ofString "?z", Str.ofString "?e", Str.ofString "a"]
noncomputable def LeafPost (cl : Addr) (n : Nat) (names : List Str) (T' : Heap) (r : Value) (kvs : List (Str × Value)) : Prop := ∃ x, x ∈ base ++ names ∧ TmIn T' (.leaf x) r ∧ LineK cl (n + 1) kvs
theorem base_good : ∀ x ∈ base, GoodS x := by
  intro x hx
  simp only [base, List.mem_cons, List.not_mem_nil, or_false] at hx
  rcases hx with rfl | rfl | rfl <;> exact ⟨by decide, by decide +kernel⟩

theorem leaf_spec {w : World} {T : Heap} {s : Shared} {ln cl ls : Addr} {n : Nat} {kvs : List (Str × Value)} {lv : List Value} {names : List Str} (G : Gnd w T) (kT : Ev T s.heap) (hln : T.get? ln = none) (ho : ∃ o, s.heap.get? ln = some o ∧ DctO w kvs o) (hK : LineK cl n kvs) (hC : Cells T cl) (hn : n < 60)
    (hls : T.IsList ls lv.toArray) (hlv : StrsAre lv names) (hgood : ∀ x ∈ names, GoodS x) (hlen : names.length ≤ 10) :
    SpecM w 130 2 [.ref ln, .ref ls] T s ln (LeafPost cl n names) := by
  refine enterM (d := 1) (binds := [(Str.ofString "line", .ref ln), (Str.ofString "lesser", .ref ls)]) (G.fn (i := 20) (by decide)) G.lim kT hln ho (fun _ _ _ _ _ => rfl) rfl (by decide +kernel) ?_
  intro A cd s₁ E Sh Lo Qf kS r X hQ
  conv in dBody _ => whnf
  have hlvn : lv.length = names.length := by rw [← hlv.strs, List.length_map]
  -- some = [...] + lesser
  refine x_cons (fun Qα nα rα cα => wpAny_Assign_Name (wpAny_BinOp (e_list (args_cons (e_str fun t2 s2 u2 => args_cons (e_str fun t3 s3 u3 => args_cons (e_str fun t4 s4 u4 => args_nil ?_)))))))
  have X4 := ((X.up u2).up u3).up u4
  refine ⟨_, _, _, _, _, _, _, X4, by simp, fun a s5 X5 => e_loc X5 rfl ?_⟩
  have hls5 : s5.heap.IsList ls lv.toArray := let ⟨o, a, b⟩ := hls; ⟨o, X5.st.kT _ _ a, b⟩
  refine add_own X5 (lst_of (i := 0) X5 rfl) hls5 (by simp; lia) fun l s6 X6 => ?_
  refine s_loc X6 fun s7 X7 => ?_
  have X7' : Fx Sh T s T Lo _ [(l, LstO ([Value.str (Str.ofString "?z") t2, .str (Str.ofString "?e") t3, .str (Str.ofString "a") t4] ++ lv)), (a, LstO [Value.str (Str.ofString "?z") t2, .str (Str.ofString "?e") t3, .str (Str.ofString "a") t4]), (ln, DctO w kvs)] s7 := X7
  have hall : StrsAre ([Value.str (Str.ofString "?z") t2, .str (Str.ofString "?e") t3, .str (Str.ofString "a") t4] ++ lv) (base ++ names) := strs_append (.cons _ _ (.cons _ _ (.cons _ _ .nil))) hlv
  have hal := hall.strs
  generalize hxs : [Value.str (Str.ofString "?z") t2, .str (Str.ofString "?e") t3, .str (Str.ofString "a") t4] ++ lv = xs at X7' hall hal
  have hxl : xs.length = 3 + names.length := by rw [← hxs]; simp [hlvn]; lia
  -- return (some[_law_pull(line, len(some))],)
  refine nα _ <| wpAny_execs_cons (wpAny_Return_some (e_tuple (args_cons (e_lidx (e_loc X7' rfl (e_call X7' G rfl (by decide) (args_cons (e_loc X7' rfl (args_cons (e_len X7' G (e_loc X7' rfl ⟨_, _, rfl, .inr (lst_of (i := 0) X7' rfl), by simp; lia, fun t8 s8 u8 => args_nil ?_⟩)))))))))))
  have X8 := X7'.up u8
  refine ⟨X8.st.kT, use_specM X8 (i := 2) rfl (pull_spec G X8.st.kT hln (X8.open1 (i := 2) rfl) hK hC hn (by simp; lia)) (r.mono (by lia)) fun pr s9 T9 kvs' X9 k9 hpost => ?_⟩
  obtain ⟨⟨k, t, rfl, h0, hk⟩, hK'⟩ := hpost
  have hkl : k.toNat < xs.length := by simp at hk; lia
  refine ⟨l, _, k, t, xs[k.toNat], rfl, rfl, lst_of (i := 0) X9 rfl, h0, by simp at hk; lia, by simp [hkl], ?_⟩
  obtain ⟨x, tx, hx⟩ := hall.all xs[k.toNat] (List.getElem_mem hkl)
  have hmem : x ∈ base ++ names := by
    rw [← hal]
    refine List.mem_map.mpr ⟨xs[k.toNat], List.getElem_mem hkl, ?_⟩
    rw [hx]; rfl
  rw [hx]
  refine args_nil ⟨_, _, _, _, _, _, _, X9, by simp, fun ra T10 s10 X10 k10 hra => ?_⟩
  refine hQ _ _ ⟨T10, _, _, [], kvs', X10.drop.drop, x, hmem, .leaf ?_ hra, hK'⟩
  rcases List.mem_append.mp hmem with h | h
  · exact base_good x h
  · exact hgood x h

/-- what is drawn -/
noncomputable def Drawn (names : List Str) (t : Tm) : Prop :=
  (∃ x ∈ base ++ names, t = .leaf x) ∨ (∃ x ∈ base ++ names, t = .un (Str.ofString "f") (.leaf x)) ∨ ∃ x ∈ base ++ names, ∃ y ∈ base ++ names, t = .bin (Str.ofString "g") (.leaf x) (.leaf y)
noncomputable def DrawnPost (cl : Addr) (n : Nat) (names : List Str) (T' : Heap) (r : Value) (kvs : List (Str × Value)) : Prop := ∃ t, Drawn names t ∧ TmIn T' t r ∧ ∃ n', n' ≤ n + 2 ∧ LineK cl n' kvs

theorem drawn_spec {w : World} {T : Heap} {s : Shared} {ln cl ls : Addr} {n : Nat} {way : Int} {tw : Tok} {kvs : List (Str × Value)} {lv : List Value} {names : List Str} (G : Gnd w T) (kT : Ev T s.heap) (hln : T.get? ln = none) (ho : ∃ o, s.heap.get? ln = some o ∧ DctO w kvs o) (hK : LineK cl n kvs) (hC : Cells T cl) (hn : n < 58)
    (hls : T.IsList ls lv.toArray) (hlv : StrsAre lv names) (hgood : ∀ x ∈ names, GoodS x) (hlen : names.length ≤ 10) :
    SpecM w 137 3 [.ref ln, .ref ls, .int way tw] T s ln (DrawnPost cl n names) := by
  refine enterM (d := 2) (binds := [(Str.ofString "line", .ref ln), (Str.ofString "lesser", .ref ls), (Str.ofString "way", .int way tw)]) (G.fn (i := 21) (by decide)) G.lim kT hln ho (fun _ _ _ _ _ => rfl) rfl (by decide +kernel) ?_
  intro A cd s₁ E Sh Lo Qf kS r X hQ
  conv in dBody _ => whnf
  have fg : GoodS (Str.ofString "f") := ⟨by decide, by decide +kernel⟩
  have gg : GoodS (Str.ofString "g") := ⟨by decide, by decide +kernel⟩
  have hlsk : ∀ {T' : Heap}, Ev T T' → T'.IsList ls lv.toArray := fun k => let ⟨o, a, b⟩ := hls; ⟨o, k _ _ a, b⟩
  refine wpAny_execs_cons (wpAny_If (wpAny_isTrue_Compare1 (e_loc X rfl (e_int fun t2 s2 u2 => PyProof.Rows.eq_int (wpAny_truthy_bool ?_)))))
  have X2 := X.up u2
  have X2' : Fx Sh T s T Lo _ [(ln, DctO w kvs)] s2 := X2
  by_cases h0 : way = 0
  · rw [if_pos (by simp [h0])]
    refine wpAny_execs_cons (wpAny_Return_some (e_call X2' G rfl (by decide) (args_cons (e_loc X2' rfl (args_cons (e_loc X2' rfl (args_nil ⟨X2'.st.kT, use_specM X2' (i := 0) rfl (leaf_spec G X2'.st.kT hln (X2'.open1 (i := 0) rfl) hK hC (by lia) hls hlv hgood hlen) r fun pr s3 T3 kvs3 X3 k3 hpost => ?_⟩)))))))
    obtain ⟨x, hx, ht, hK3⟩ := hpost
    exact hQ _ _ ⟨T3, _, _, [], kvs3, X3, _, .inl ⟨x, hx, rfl⟩, ht, n + 1, by lia, hK3⟩
  · rw [if_neg (by simp [h0])]
    refine wpAny_execs_nil ?_
    refine wpAny_execs_cons (wpAny_If (wpAny_isTrue_Compare1 (e_loc X2' rfl (e_int fun t3 s3 u3 => PyProof.Rows.eq_int (wpAny_truthy_bool ?_)))))
    have X3 := X2'.up u3
    by_cases h1 : way = 1
    · rw [if_pos (by simp [h1])]
      refine wpAny_execs_cons (wpAny_Return_some (e_tuple (args_cons (e_str fun t4 s4 u4 => ?_))))
      have X4 := X3.up u4
      refine args_cons (e_call X4 G rfl (by decide) (args_cons (e_loc X4 rfl (args_cons (e_loc X4 rfl (args_nil ⟨X4.st.kT, use_specM X4 (i := 0) rfl (leaf_spec G X4.st.kT hln (X4.open1 (i := 0) rfl) hK hC (by lia) hls hlv hgood hlen) r fun pr s5 T5 kvs5 X5 k5 hpost => ?_⟩))))))
      obtain ⟨x, hx, ht, hK5⟩ := hpost
      refine args_nil ⟨_, _, _, _, _, _, _, X5, by simp, fun ra T6 s6 X6 k6 hra => ?_⟩
      exact hQ _ _ ⟨T6, _, _, [], kvs5, X6, _, .inr (.inl ⟨x, hx, rfl⟩), .un fg hra (ht.ev k6), n + 1, by lia, hK5⟩
    · rw [if_neg (by simp [h1])]
      refine wpAny_execs_nil ?_
      refine wpAny_execs_cons (wpAny_Return_some (e_tuple (args_cons (e_str fun t4 s4 u4 => ?_))))
      have X4 := X3.up u4
      refine args_cons (e_call X4 G rfl (by decide) (args_cons (e_loc X4 rfl (args_cons (e_loc X4 rfl (args_nil ⟨X4.st.kT, use_specM X4 (i := 0) rfl (leaf_spec G X4.st.kT hln (X4.open1 (i := 0) rfl) hK hC (by lia) hls hlv hgood hlen) r fun pr s5 T5 kvs5 X5 k5 hpost => ?_⟩))))))
      obtain ⟨x, hx, ht, hK5⟩ := hpost
      have G5 := G.keeps k5
      have X5' : Fx Sh T s T5 Lo _ [(ln, DctO w kvs5)] s5 := X5
      have hln5 : T5.get? ln = none := X5'.st.fT (ln, DctO w kvs5) (by simp)
      refine args_cons (e_call X5' G5 rfl (by decide) (args_cons (e_loc X5' rfl (args_cons (e_loc X5' rfl (args_nil ⟨X5'.st.kT, use_specM X5' (i := 0) rfl (leaf_spec G5 X5'.st.kT hln5 (X5'.open1 (i := 0) rfl) hK5 (hC.ev k5) (by lia) (hlsk k5) hlv hgood hlen) r fun pr2 s6 T6 kvs6 X6 k6 hpost2 => ?_⟩))))))
      obtain ⟨y, hy, ht2, hK6⟩ := hpost2
      refine args_nil ⟨_, _, _, _, _, _, _, X6, by simp, fun ra T7 s7 X7 k7 hra => ?_⟩
      exact hQ _ _ ⟨T7, _, _, [], kvs6, X7, _, .inr (.inr ⟨x, hx, y, hy, rfl⟩), .bin gg hra ((ht.ev k6).ev k7) (ht2.ev k7), n + 1 + 1, by lia, hK6⟩
end Mine
end

section
open PySem PySem.W PySem.Calls PyProof.Rows
set_option maxRecDepth 100000
namespace Mine

/-- enumerate over a frozen list, its pairs unpacked -/
theorem Iter.enumL {w : World} {Tb : Heap} {elts : List Expr} {kx : Nat} {pos : Pos} {e it t : Addr} {xs : List Value} (ht : Tb.IsList t xs.toArray) :
    Iter w Tb (.Tuple elts kx pos) e xs.length (fun i => [(e, EnumO it i), (it, LIterO t i)]) (fun i T v => ∃ a tk x, v = .ref a ∧ xs[i]? = some x ∧ IsTup T a #[.int i tk, x]) where
  next := by
    intro A S T₀ T s₀ s L m own i Q E hh kb hi X h
    obtain ⟨oe, hoe, old, rfl⟩ := X.st.at' (i := 1) (d := e) (P := EnumO it i) rfl
    have hit : s.heap.IsListIter it t i := X.st.at' (i := 2) rfl
    have hlh : s.heap.IsList t xs.toArray := let ⟨o, a, b⟩ := ht; ⟨o, X.st.kT _ _ (kb _ _ a), b⟩
    have nd := X.st.nd
    simp only [List.cons_append, List.nil_append, List.map_cons, List.nodup_cons, List.mem_cons, not_or] at nd
    have hne : e ≠ it := nd.2.1.1
    have tne : ∀ p ∈ ([(e, EnumO it i), (it, LIterO t i)] : Own), t ≠ p.1 := fun p hp q => by
      obtain ⟨o, ho, _⟩ := ht
      have := X.st.fT p (List.mem_cons_of_mem _ (List.mem_append_left _ hp))
      rw [← q, kb _ _ ho] at this; cases this
    have t1 : t ≠ e := tne (e, EnumO it i) (by simp)
    have t2 : t ≠ it := tne (it, LIterO t i) (by simp)
    refine wpAny_pyNext_enum_itemD (Draws.list (A := A.in1) hh it t t2 xs.toArray) hoe ⟨hit, hlh⟩ (by simpa using hi) hne (by simp [hne, t1.symm]) fun x h' tk hx ho hst hT hsz hk => ⟨_, rfl, ?_⟩
    refine wpAny_letOwnedTupleGo_enum ho fun h₂ he₂ hs₂ => ?_
    replace hs₂ : Heap.SameBut e h' h₂ := hs₂
    -- the heap but for e and it
    have keep : ∀ b o, b ≠ e → b ≠ it → s.heap.get? b = some o → h₂.get? b = some o := fun b o h1 h2 q => hs₂.extBut b o h1 (hk b o h1 h2 q)
    have hT₂ : h₂.get? s.heap.objs.size = some { cls := .type "tuple", data := .seq #[.int i tk, x] } := hs₂.extBut _ _ (Nat.ne_of_gt (Heap.lt_size hoe)) hT
    have lie : ∀ {H : Heap}, Ev H s.heap → H.get? s.heap.objs.size = none := fun k => none_of_ev k (get_size _)
    have F1 : FS S T h₂ L m ([(e, EnumO it ((i : Nat) + 1 : Nat)), (it, LIterO t (i + 1))] ++ own) := by
      refine ⟨fun b o q => keep b o (fun z => ?_) (fun z => ?_) (X.st.kS b o q), fun b o q => keep b o (fun z => ?_) (fun z => ?_) (X.st.kT b o q), fun p hp => ?_, X.st.nd, fun p hp => ?_, fun p hp => ?_⟩
      · subst z; have := X.st.fS (b, EnumO it i) (by simp); rw [q] at this; cases this
      · subst z; have := X.st.fS (b, LIterO t i) (by simp); rw [q] at this; cases this
      · subst z; have := X.st.fT (b, EnumO it i) (by simp); rw [q] at this; cases this
      · subst z; have := X.st.fT (b, LIterO t i) (by simp); rw [q] at this; cases this
      · simp only [List.cons_append, List.nil_append, List.mem_cons] at hp
        rcases hp with rfl | rfl | rfl | hp
        · obtain ⟨o, a, b⟩ := X.st.ow (L, NsO m) (by simp)
          exact ⟨o, keep _ _ (by simpa using nd.1.1) (by simpa using nd.1.2.1) a, b⟩
        · exact ⟨_, he₂, x, by simp⟩
        · obtain ⟨o, a, b⟩ := hst.1
          exact ⟨o, hs₂.extBut _ _ (Ne.symm hne) a, b⟩
        · obtain ⟨o, a, b⟩ := X.st.ow p (by simp [hp])
          exact ⟨o, keep _ _ (fun z => nd.2.1.2 (z ▸ List.mem_map_of_mem hp)) (fun z => nd.2.2.1 (z ▸ List.mem_map_of_mem hp)) a, b⟩
      · simp only [List.cons_append, List.nil_append, List.mem_cons] at hp
        rcases hp with rfl | rfl | rfl | hp
        · exact X.st.fS _ (by simp)
        · exact X.st.fS (e, EnumO it i) (by simp)
        · exact X.st.fS (it, LIterO t i) (by simp)
        · exact X.st.fS p (by simp [hp])
      · simp only [List.cons_append, List.nil_append, List.mem_cons] at hp
        rcases hp with rfl | rfl | rfl | hp
        · exact X.st.fT _ (by simp)
        · exact X.st.fT (e, EnumO it i) (by simp)
        · exact X.st.fT (it, LIterO t i) (by simp)
        · exact X.st.fT p (by simp [hp])
    obtain ⟨T', g, F2, kk⟩ := F1.freezeBy (fun a => a == s.heap.objs.size) (fun p hp => by
      have hp' : p.1 ∈ (((L, NsO m) :: ([(e, EnumO it i), (it, LIterO t i)] ++ own)) : Own).map (·.1) := by
        have : p.1 ∈ (((L, NsO m) :: ([(e, EnumO it ((i : Nat) + 1 : Nat)), (it, LIterO t (i + 1))] ++ own)) : Own).map (·.1) := List.mem_map_of_mem hp
        simpa using this
      obtain ⟨q, hq, e1⟩ := List.mem_map.mp hp'
      have := X.st.lt hq
      rw [e1] at this
      simpa using Nat.ne_of_lt this) (fun a ha => by rw [beq_iff_eq.mp ha]; exact lie X.st.kS)
    refine h _ _ T' (X.to F2 g) g.1 ⟨_, tk, x, rfl, by simpa using hx, _, kk _ _ (beq_self_eq_true _) hT₂, rfl, _, rfl⟩
  done := by
    intro A S T₀ T s₀ s L m own Q E hh kb X h
    obtain ⟨oe, hoe, old, rfl⟩ := X.st.at' (i := 1) (d := e) (P := EnumO it xs.length) rfl
    have hit : s.heap.IsListIter it t xs.length := X.st.at' (i := 2) rfl
    have hlh : s.heap.IsList t xs.toArray := let ⟨o, a, b⟩ := ht; ⟨o, X.st.kT _ _ (kb _ _ a), b⟩
    have t2 : t ≠ it := fun q => by
      obtain ⟨o, ho, _⟩ := ht
      have := X.st.fT (it, LIterO t xs.length) (by simp)
      rw [← q, kb _ _ ho] at this; cases this
    have hst : s.heap.IsListIter it t xs.toArray.size ∧ s.heap.IsList t xs.toArray := ⟨by simpa using hit, hlh⟩
    refine wpAny_pyNext_enum_endD (Draws.list (A := A.in1) hh it t t2 xs.toArray) hoe hst fun h' he => ?_
    exact h _ (X.to' (t := s.toks) ((X.st.drop1).ext0 he))
  self := by
    intro A S T₀ T s₀ s L m own Q E X h
    obtain ⟨oe, hoe, old, rfl⟩ := X.st.at' (i := 1) (d := e) (P := EnumO it (0 : Nat)) rfl
    exact wpAny_pyIter_enum hoe h

theorem adjust_upto (b n : Nat) (hb : b ≤ n) : Builtin.Slice.sliceAdjust none (some (b : Int)) 1 (n : Int) = (0, (b : Int)) := by
  unfold Builtin.Slice.sliceAdjust
  have h1 : ¬ ((1 : Int) < 0) := by lia
  have h2 : ¬ ((b : Int) < 0) := by lia
  simp only [h1, h2, if_false]
  congr 1
  lia
theorem places_upto (b : Nat) : Builtin.Slice.slicePlaces 0 (b : Int) 1 = b := by
  unfold Builtin.Slice.slicePlaces
  have h1 : (1 : Int) > 0 := by lia
  simp only [h1, if_true, Int.ediv_one]
  split <;> lia

section
variable {w : World} {A : Around} {E : Value → Shared → Prop} {s : Shared}
theorem applied_upto {sl : Addr} {b n : Nat} {u : Tok} {Q : Int × Int × Nat → Shared → Prop} (hs : s.heap.IsSliceOf sl .none (.int b u) .none) (hb : b ≤ n) (h : Q (0, 1, b) s) :
    wpAny (model PR w) A (Builtin.Slice.sliceApplied (.ref sl) (pure (n : Int))) Q E s := by
  obtain ⟨os, hos, hcs, hds⟩ := id hs
  unfold Builtin.Slice.sliceApplied Builtin.Slice.sliceFields
  refine wpAny_bind (wpAny_bind (wpAny_field hos hds (x := .none) rfl (wpAny_bind (wpAny_field hos hds (x := .int b u) rfl (wpAny_bind (wpAny_field hos hds (x := .none) rfl (wpAny_pure ?_)))))))
  refine wpAny_bind (slicePart_none ?_)
  show wpAny _ _ (if ((1 : Int) == 0) = true then _ else _) _ _ s
  rw [if_neg (by decide)]
  refine wpAny_bind (slicePart_none (wpAny_bind (slicePart_int (wpAny_bind (wpAny_pure ?_)))))
  show wpAny _ _ (match Builtin.Slice.sliceAdjust none (some (b : Int)) 1 (n : Int) with | (lo, hi) => pure (lo, (1 : Int), Builtin.Slice.slicePlaces lo hi 1)) _ _ s
  rw [adjust_upto b n hb]
  show wpAny _ _ (pure ((0 : Int), (1 : Int), Builtin.Slice.slicePlaces 0 (b : Int) 1)) _ _ s
  rw [places_upto b]
  exact wpAny_pure h

theorem tup_upto {t sl : Addr} {xs : List Value} {b : Nat} {u : Tok} {Q : Value → Shared → Prop} (ht : IsTup s.heap t xs.toArray) (hs : s.heap.IsSliceOf sl .none (.int b u) .none) (hb : b ≤ xs.length) (hz : xs.length ≤ 1000)
    (h1 : b = xs.length → Q (.ref t) s) (h2 : Q (.ref s.heap.objs.size) { s with heap := s.heap.push { cls := .type "tuple", data := .seq (xs.take b).toArray } }) : wpAny (model PR w) A (getItem (.ref t) (.ref sl)) Q E s := by
  have hsz : sizeOk (.seq (xs.take b).toArray) := by
    show (xs.take b).toArray.size ≤ sizeLine
    rw [List.size_toArray, List.length_take, sizeLine_eq]
    lia
  obtain ⟨os, hos, hcs, hds⟩ := id hs
  have hTs : s.TypeIs (.ref sl) "slice" := ⟨os, hos, hcs⟩
  unfold getItem
  try with_reducible refine wpAny_holding ?_
  first | refine wpAny_bind (wpAny_pure ?_) | skip
  refine wpAny_bind (wpAny_sequenceKey ht.typeIs (by decide) ?_)
  refine wpAny_bind (wpAny_callSpecial?_slot (name := Str.ofString "__getitem__") ht.typeIs slot_tuple_getitem
    (wpAny_call_entry slot_tuple_getitem ht.typeIs entry_tuple_getitem ?_ (args_tuple_getitem _ _)))
  show wpAny _ _ (Builtin.Tuple.tupleItemsOf (.ref t) >>= _) _ _ s
  refine wpAny_bind (tupleItemsOf_ ht ?_)
  refine wpAny_bind (wpAny_typeOf hTs ?_)
  rw [if_pos (by decide)]
  refine wpAny_bind (applied_upto hs (n := xs.toArray.size) (by simpa using hb) ?_)
  have pick : ((List.range b).filterMap fun (k : Nat) => xs.toArray[((0 : Int) + (k : Int) * 1).toNat]?).toArray = (xs.take b).toArray := by
    have e : (fun (k : Nat) => xs.toArray[((0 : Int) + (k : Int) * 1).toNat]?) = fun k => xs.toArray[0 + k]? := by
      funext k
      have : ((0 : Int) + (k : Int) * 1).toNat = 0 + k := by lia
      rw [this]
    rw [e]
    have := pick_run xs.toArray 0 b
    rw [List.filterMap_map] at this
    have e2 : ((fun x => xs.toArray[x]?) ∘ fun x => 0 + x) = fun k => xs.toArray[0 + k]? := rfl
    rw [e2] at this
    rw [this]; simp
  show wpAny _ _ (if ((0 : Int) == 0 && (1 : Int) == 1 && b == xs.toArray.size) = true then _ else _) _ _ s
  have rest : wpAny (model PR w) A.in1 (do ret (← Builtin.Tuple.tupleExact ((List.range b).filterMap fun (k : Nat) => xs.toArray[((0 : Int) + (k : Int) * 1).toNat]?).toArray)) (fun fin s' => ∃ v, fin = Fin.done (Flow.ret v) ∧ wpAny (model PR w) A (pure v) Q E s') E s := by
    rw [pick]
    exact wpAny_bind (m := Builtin.Tuple.tupleExact _) (wpAny_newObj_type (wpAny_pure ⟨_, rfl, wpAny_pure h2⟩) hsz)
  by_cases hbl : b = xs.length
  · rw [if_pos (by simp [hbl])]
    refine wpAny_bind (m := Builtin.Tuple.tupleIsExact _) ?_
    unfold Builtin.Tuple.tupleIsExact
    refine wpAny_bind (wpAny_typeOf ht.typeIs (wpAny_pure ?_))
    rw [if_pos (by decide)]
    exact wpAny_bind (wpAny_rule (wpAny_pure ⟨_, rfl, wpAny_pure (h1 hbl)⟩))
  · rw [if_neg (by simp [hbl])]
    exact rest
end

section
variable {w : World} {A : Around} {E : Value → Shared → Prop} {S T₀ T : Heap} {s₀ s : Shared} {L : Addr} {m : Str → Option Value} {own : Own} {env : Env} {Q : Value → Shared → Prop} {pos : Pos}

inductive TtoQ (Q : Value → Shared → Prop) (v u : Value) (s₂ : Shared) : Prop
  | mk (a : Addr) (xs : List Value) (b : Nat) (tk : Tok) (T : Heap) (m : Str → Option Value) (own : Own) (S T₀ : Heap) (s₀ : Shared) (L : Addr) (hv : v = .ref a) (hu : u = .int b tk) (X : Fx S T₀ s₀ T L m own s₂) (ht : IsTup T a xs.toArray) (hb : b ≤ xs.length) (hz : xs.length ≤ 1000)
      (h : ∀ c T' s', Fx S T₀ s₀ T' L m own s' → Ev T T' → IsTup T' c (xs.take b).toArray → Q (.ref c) s')
inductive LslQ (Q : Value → Shared → Prop) (v vl vu vs : Value) (s₄ : Shared) : Prop
  | mk (l : Addr) (xs : List Value) (plo phi pst : Option Int) (T : Heap) (m : Str → Option Value) (own : Own) (S T₀ : Heap) (s₀ : Shared) (L : Addr)
      (hv : v = .ref l) (X : Fx S T₀ s₀ T L m own s₄) (hl : s₄.heap.IsList l xs.toArray) (p1 : IsPart vl plo) (p2 : IsPart vu phi) (p3 : IsPart vs pst) (h0 : pst ≠ some 0) (hz : xs.length ≤ 1000) (h : ∀ a T' s', Fx S T₀ s₀ T' L m own s' → Ev T T' → T'.PlainList a (slicePick xs.toArray plo phi pst) → Q (.ref a) s')

/-- a tuple to a place -/
theorem e_tto {value up : Expr} {p2 : Pos}
    (h : wpAny (model PR w) A (eval value env) (fun v s₁ => wpAny (model PR w) A (eval up env) (TtoQ Q v) E s₁) E s)
    (hs : ∀ o i, ∃ ops, subscripted (.Slice none (some up) none p2) false o i = operate ops (getItem o i) := by intro o i; exact ⟨_, by with_unfolding_all rfl⟩) :
    wpAny (model PR w) A (eval (.Subscript value (.Slice none (some up) none p2) pos) env) Q E s := by
  refine Subscript_ (wpAny_mono h (fun v s₁ h₁ => wpAny_Slice (evalPart_none_step (evalPart_some_step (wpAny_mono h₁ (fun u s₂ h₂ => evalPart_none_step ?_) fun _ _ x => x)))) fun _ _ x => x)
  obtain ⟨a, xs, b, tk, T, m, own, S, T₀, s₀, L, rfl, rfl, X, ht, hb, hz, hQ⟩ := h₂
  have ht' := (ht.keeps X.st.kT).push { cls := .type "slice", data := .fields #[.none, .int b tk, .none] }
  have X1 : Fx S T₀ s₀ T L m own { s₂ with heap := s₂.heap.push { cls := .type "slice", data := .fields #[.none, .int b tk, .none] } } := X.up (Up.hp (t := s₂.toks) (Ev.push _ _))
  obtain ⟨ops, e⟩ := hs (.ref a) (.ref s₂.heap.objs.size)
  refine sub_tail (s := { s₂ with heap := s₂.heap.push { cls := .type "slice", data := .fields #[.none, .int b tk, .none] } }) ht'.typeIs slot_tuple_getitem.lookup
    (tup_upto (s := { s₂ with heap := s₂.heap.push { cls := .type "slice", data := .fields #[.none, .int b tk, .none] } }) ht' (Heap.IsSliceOf.new ..) hb hz (fun e => ?_) ?_) e
  · exact hQ a T _ X1 (Ev.refl _) (by rw [List.take_of_length_le (by lia)]; exact ht)
  · obtain ⟨T', kT, e, X'⟩ := X1.new (o := { cls := .type "tuple", data := .seq (xs.take b).toArray }) rfl
    exact hQ _ T' _ X' kT ⟨_, e, rfl, _, rfl⟩

/-- a slice of a list -/
theorem e_lsl {value : Expr} {lo up st : Option Expr} {p2 : Pos}
    (h : wpAny (model PR w) A (eval value env) (fun v s₁ => wpAny (model PR w) A (evalPart lo env) (fun vl s₂ => wpAny (model PR w) A (evalPart up env) (fun vu s₃ => wpAny (model PR w) A (evalPart st env) (LslQ Q v vl vu) E s₃) E s₂) E s₁) E s)
    (hs : ∀ o i, ∃ ops, subscripted (.Slice lo up st p2) false o i = operate ops (getItem o i) := by intro o i; exact ⟨_, by with_unfolding_all rfl⟩) :
    wpAny (model PR w) A (eval (.Subscript value (.Slice lo up st p2) pos) env) Q E s := by
  refine Subscript_ (wpAny_mono h (fun v s₁ h₁ => wpAny_Slice (wpAny_mono h₁ (fun vl s₂ h₂ => wpAny_mono h₂ (fun vu s₃ h₃ => wpAny_mono h₃ (fun vs s₄ h₄ => ?_) fun _ _ x => x) fun _ _ x => x) fun _ _ x => x)) fun _ _ x => x)
  obtain ⟨l, xs, plo, phi, pst, T, m, own, S, T₀, s₀, L, rfl, X, hl, p1, p3, p4, h0, hz, hQ⟩ := h₄
  have hl' := hl.push { cls := .type "slice", data := .fields #[vl, vu, vs] }
  have X1 : Fx S T₀ s₀ T L m own { s₄ with heap := s₄.heap.push { cls := .type "slice", data := .fields #[vl, vu, vs] } } := X.up (Up.hp (t := s₄.toks) (Ev.push _ _))
  obtain ⟨ops, e⟩ := hs (.ref l) (.ref s₄.heap.objs.size)
  refine sub_tail (s := { s₄ with heap := s₄.heap.push { cls := .type "slice", data := .fields #[vl, vu, vs] } }) hl'.typeIs slot_list_getitem.lookup
    (wpAny_getItem_list_slice (s := { s₄ with heap := s₄.heap.push { cls := .type "slice", data := .fields #[vl, vu, vs] } }) hl' (Heap.IsSliceOf.new ..) p1 p3 p4 h0 ?_ (by rw [sizeLine_eq]; simp; lia)) e
  obtain ⟨T', kT, e, X'⟩ := X1.new (o := { cls := .type "list", data := .seq (slicePick xs.toArray plo phi pst) }) rfl
  exact hQ _ T' _ X' kT ⟨0, e⟩

/-- list(tuple) -/
theorem c_list_tup {t : Addr} {xs : List Value} (X : Fx S T₀ s₀ T L m own s) (ht : IsTup T t xs.toArray) (hz : xs.length ≤ 1000)
    (h : ∀ l T' s', Fx S T₀ s₀ T' L m own s' → Ev T T' → T'.PlainList l xs.toArray → Q (.ref l) s') : wpAny (model PR w) A (call (.type "list") [.ref t]) Q E s := by
  obtain ⟨o, ho, hc, n, hd⟩ := ht.keeps X.st.kT
  refine call_list_seq t (.inr rfl) ho hc hd (fun h' c' k hl => ?_) (by rw [sizeLine_eq]; simp; lia)
  obtain ⟨T', kT, e, X'⟩ := X.takeF (s' := { s with heap := h' }) ⟨⟨rfl, rfl, rfl⟩, k⟩ (get_size _) hl
  exact h _ T' _ X' kT ⟨c', e⟩

/-- enumerate(list) -/
theorem call_enum_lst {l : Addr} {xs : List Value} (X : Fx S T₀ s₀ T L m own s) (hl : T.IsList l xs.toArray)
    (h : ∀ e it s', Fx S T₀ s₀ T L m ([(e, EnumO it (0 : Nat)), (it, LIterO l 0)] ++ own) s' → Q (.ref e) s') : wpAny (model PR w) A (call (.type "enumerate") [.ref l]) Q E s := by
  obtain ⟨⟨c, dct, dt, sl⟩, ho, hc, n, hd⟩ := hl
  replace hc : c = .type "list" := hc
  replace hd : dt = .seq xs.toArray n := hd
  subst hc hd
  refine callType_new PySem.F.called_enumerate (by decide) (PySem.F.typeCall_enumerate_1 _) (PySem.F.newCall_enumerate_1 _) (fun obj => PySem.F.args_object_init_2 obj _) PySem.F.entry_enumerate_new
    (meets_enumerate_newL l xs.toArray n dct sl) ⟨X.st.kT _ _ ho, ?_⟩
  have X1 := X.st.alloc (P := LIterO l 0) (o := { cls := .type "list_iterator", data := .fields #[.ref l, .int 0 0] }) ⟨rfl, rfl⟩ rfl
  have X2 := X1.alloc (P := EnumO s.heap.objs.size (0 : Nat)) (o := { cls := .type "enumerate", data := .fields #[.none, .bool false, .ref s.heap.objs.size, rawInt 0, .none, .none] }) ⟨.none, rfl⟩ rfl
  refine ⟨⟨_, Heap.get?_push_size _ rfl, rfl⟩, h _ s.heap.objs.size _ ⟨X2.perm ?_, X.gr, X.sm⟩⟩
  exact (List.perm_middle (l₁ := [(_, EnumO s.heap.objs.size (0 : Nat)), (s.heap.objs.size, LIterO l 0)])).symm
end
end Mine
end

section
open PySem PySem.W PySem.Calls PyProof.Rows
set_option maxRecDepth 100000
namespace Mine

theorem mne {m : Str → Option Value} {x y : Str} {u v : Value} (h : m x = some v) (hn : x ≠ y := by decide) : (upd m (y) u) x = some v := by
  show (if x = y then some u else m x) = _
  rw [if_neg hn, h]

section
variable {w : World} {A : Around} {E : Value → Shared → Prop} {S T₀ T : Heap} {s₀ s : Shared} {L : Addr} {m : Str → Option Value} {own : Own} {env : Env} {Q : Value → Shared → Prop} {pos : Pos}

/-- a dict display of our own -/
theorem e_dict {keys : List (Option Expr)} {values : List Expr} (X : Fx S T₀ s₀ T L m own s)
    (h : ∀ a s₁, Fx S T₀ s₀ T L m ((a, DctO w []) :: own) s₁ → wpAny (model PR w) A (evalPairs (pairTrees keys values env pos)) (fun vs s₂ => ∃ kvs T' m' own', Carries (strKind PR w) vs kvs ∧ Fx S T₀ s₀ T' L m' ((a, DctO w []) :: own') s₂ ∧
      ∀ s', Fx S T₀ s₀ T' L m' ((a, DctO w (merged [] kvs)) :: own') s' → Q (.ref a) s') E s₁)
    (hall : keys.all (·.isSome) = true := by rfl) (hl : keys.length = values.length := by rfl) (h0 : keys ≠ [] := by simp) (hlen : keys.length ≤ 15 := by decide) :
    wpAny (model PR w) A (eval (.Dict keys values pos) env) Q E s := by
  refine wpAny_Dict_walk (knd := strKind PR w) hall hl h0 hlen ?_
  have X1 : Fx S T₀ s₀ T L m ((s.heap.objs.size, DctO w []) :: own) { s with heap := s.heap.push { cls := .type "dict", data := .dict #[] } } :=
    ⟨(X.st.alloc (P := DctO w []) (o := { cls := .type "dict", data := .dict #[] }) ⟨#[], 0, ⟨rfl, rfl, rfl⟩, rfl, fun _ he => by simp at he, Pairs.nil, List.nodup_nil⟩ rfl).swap, X.gr, X.sm⟩
  refine wpAny_mono (h _ _ X1) (fun vs s₂ h₂ => ?_) fun _ _ x => x
  obtain ⟨kvs, T', m', own', hc, X2, hQ⟩ := h₂
  obtain ⟨o, ho, hO⟩ := X2.st.at' (i := 1) rfl
  refine ⟨kvs, hc, Heap.dictOf_iff.mpr ⟨o, ho, hO⟩, fun h' hd hs => hQ _ ?_⟩
  exact ⟨X2.st.set (i := 1) (P' := DctO w (merged [] kvs)) rfl hs.extBut (Heap.dictOf_iff.mp hd), X2.gr, X2.sm⟩
end

noncomputable def lawNames : List Str := [Str.ofString "?p", Str.ofString "?w", Str.ofString "?c", Str.ofString "?r", Str.ofString "?a"]
noncomputable def lawNamesAt (T : Heap) : Prop := ∃ nv, IsTup T 116 nv.toArray ∧ StrsAre nv lawNames
theorem strs_take {vs : List Value} {ss : List Str} (h : StrsAre vs ss) : ∀ k, StrsAre (vs.take k) (ss.take k) := by
  induction h with
  | nil => intro k; simpa using StrsAre.nil
  | cons y u _ ih =>
    intro k
    cases k with
    | zero => exact .nil
    | succ k => exact .cons y u (ih k)

noncomputable abbrev lawEnv (L f : Addr) (cd : Value) : Env := envF (dScope (dStmt 24)) (dName (dStmt 24)) L f cd
set_option maxHeartbeats 1600000
/-- line = ...; names, table = ... -/
theorem segA {w : World} {A : Around} {E : Value → Shared → Prop} {S T₀ T : Heap} {s₀ s : Shared} {L f sl : Addr} {cd : Value} {m : Str → Option Value} {R : Flow → Shared → Prop} {vs : List Value} {ns : List Int}
    (G : Gnd w T) (hN : lawNamesAt T) (X : Fx S T₀ s₀ T L m [(L + 1, CellO none)] s) (r : Room A 10) (hsc : m (Str.ofString "script") = some (.ref sl)) (hsl : T.IsList sl vs.toArray) (hI : IntsAre vs ns) (hlen : vs.length ≤ 63)
    (h : ∀ T' m' s' ln cl tb nl kvs lv p, Fx S T₀ s₀ T' L m' [(tb, DctO w []), (ln, DctO w kvs), (L + 1, CellO (some (.ref tb)))] s' → Ev T T' → m' (Str.ofString "line") = some (.ref ln) → m' (Str.ofString "names") = some (.ref nl) →
      LineK cl 1 kvs → Cells T' cl → T'.IsList nl lv.toArray → StrsAre lv (lawNames.take p) → p ≤ 5 → wpAny (model PR w) A (execs ((dBody (dStmt 24)).drop 2) (lawEnv L f cd)) R E s') :
    wpAny (model PR w) A (execs (dBody (dStmt 24)) (lawEnv L f cd)) R E s := by
  conv in dBody _ => whnf
  refine x_cons (fun Qα nα rα cα => wpAny_Assign_Name (e_dict X fun ln s1 X1 => pairTrees_cons_walk (e_str fun t2 s2 u2 => ?_)))
  have X2 := X1.up u2
  refine comp_list (e_lsl (e_loc X2 hsc (evalPart_none_step (evalPart_some_step (e_int fun t3 s3 u3 => evalPart_none_step ?_)))))
  have X3 := X2.up u3
  refine ⟨sl, vs, none, some ((40 : Nat) : Int), none, _, _, _, _, _, _, _, rfl, X3, let ⟨o, a, b⟩ := hsl; ⟨o, X3.st.kT _ _ a, b⟩, .none, .int _ _, .none, (by simp), by lia, fun sa T4 s4 X4 k4 hsa => ?_⟩
  rw [slicePick_upto', show vs.toArray.toList = vs from rfl] at hsa
  have hIt := hI.take 40
  refine iter_list X4 hsa.isList fun I s5 X5 => ?_
  refine CompGo.mk (fun i T ys => ∃ ns, IntsAre ys ns) rfl (Iter.list hsa.isList) (Ev.refl _) X5 (by rw [List.length_take]; lia) r.hh ⟨[], .nil⟩ (fun _ _ _ _ _ h => h) ?_ ?_
  · rintro C j T6 mC own' s6 pv ys E'' hj k6 X6 hmo hpv ⟨ns', hys⟩ hyl Qy Qn hyy hnn
    obtain ⟨n, t, rfl, _⟩ := hIt.at j pv hpv
    refine wpAny_assign_Name (s_loc X6 fun s7 X7 => wpAny_pure ?_)
    rw [if_pos rfl]
    refine wpAny_BinOp (Call_ (e_boot X7 ((G.keeps k4).keeps k6) (v := .type "int") rfl (callWith_type1 (args_cons (e_loc X7 rfl (args_nil (call_int_int (e_int fun t8 s8 u8 => mod_int (by decide) ?_))))))))
    have X8 := (X7.up u8).up (s' := { s8 with toks := s8.toks + 1 }) Up.tk
    exact hyy _ _ ⟨T6, _, Ev.refl _, X8, _, hys.append (.cons _ _ .nil)⟩
  · rintro D ys T6 s6 k6 X6 ⟨ns', hys⟩ hyl
    obtain ⟨T7, k7, hpl, X7⟩ := X6.freezeL
    have hC : Cells T7 D := ⟨ys, ns', hpl.isList, hys, by rw [List.length_take] at hyl; lia⟩
    refine pairTrees_cons_walk (e_str fun t8 s8 u8 => e_int fun t9 s9 u9 => pairTrees_nil_walk ?_)
    have X9 := (X7.up u8).up u9
    refine ⟨[(Str.ofString "cells", .ref D), (Str.ofString "at", .int 0 t9)], T7, _, _, ⟨strKind_is PR w _ _, rfl, strKind_is PR w _ _, rfl, trivial⟩, X9, fun s10 X10 => ?_⟩
    have hK : LineK D 0 (merged [] [(Str.ofString "cells", Value.ref D), (Str.ofString "at", .int 0 t9)]) := ⟨t9, rfl⟩
    generalize merged [] [(Str.ofString "cells", Value.ref D), (Str.ofString "at", .int 0 t9)] = kv0 at X10 hK
    refine s_loc X10 fun s11 X11 => ?_
    have G7 := ((G.keeps k4).keeps k6).keeps k7
    have X11' : Fx S T₀ s₀ T7 L _ [(ln, DctO w kv0), (L + 1, CellO none)] s11 := X11
    have k47 := (k4.trans k6).trans k7
    -- names, table = (list(_law_names[:pull]), {})
    refine nα _ <| x_cons (fun Qα nα rα cα => Assign_Tuple (e_tuple (args_cons (Call_ (e_boot X11' G7 (v := .type "list") rfl (callWith_type1 (args_cons (e_tto (e_glob X11' G7 rfl (e_call X11' G7 rfl (by decide) (args_cons (e_loc X11' rfl (args_cons (e_int fun t12 s12 u12 => args_nil ?_))))))))))))))
    have X12 := X11'.up u12
    have hln : T7.get? ln = none := X12.st.fT (ln, DctO w kv0) (by simp)
    refine ⟨X12.st.kT, use_specM X12 (i := 0) rfl (pull_spec G7 X12.st.kT hln (X12.open1 (i := 0) rfl) hK hC (by lia) (by lia)) (r.mono (by lia)) fun pr s13 T13 kv13 X13 k13 hpost => ?_⟩
    obtain ⟨⟨k, t, rfl, h0, hk⟩, hK13⟩ := hpost
    obtain ⟨p, rfl⟩ := Int.eq_ofNat_of_zero_le h0
    obtain ⟨nv, hnv, hns⟩ := hN
    have hnl : nv.length = 5 := by
      have := congrArg List.length hns.strs
      simpa [lawNames] using this
    refine ⟨116, nv, p, t, _, _, _, _, _, _, _, rfl, rfl, X13, hnv.keeps (k47.trans k13), by lia, by lia, fun c T14 s14 X14 k14 hc => args_nil (c_list_tup X14 hc (by rw [List.length_take]; lia) fun l T15 s15 X15 k15 hl => args_cons (e_dict0 X15 fun tb s16 X16 => args_nil ?_))⟩
    refine ⟨_, _, _, _, _, _, _, X16, by simp, fun ta T17 s17 X17 k17 hta => s_unpack X17 hta r.hh fun s18 X18 => assignInOrder_cons (wpAny_assign_Name (s_loc X18 fun s19 X19 => assignInOrder_cons (wpAny_assign_Name (s_cell (i := 2) X19 rfl fun s20 X20 => assignInOrder_nil ?_))))⟩
    have k1317 := ((k13.trans k14).trans k15).trans k17
    exact nα _ <| h T17 _ s20 ln D tb l kv13 _ p X20 (k47.trans k1317) rfl rfl hK13 (hC.ev k1317) (let ⟨o, a, b⟩ := hl.isList; ⟨o, k17 _ _ a, b⟩) (strs_take hns p) (by lia)
end Mine
end

section
open PySem PySem.W PySem.Calls PyProof.Rows
set_option maxRecDepth 100000
namespace Mine

theorem mne2 {m : Str → Option Value} {x y y' : Str} {u u' v : Value} (h : m x = some v) (hn : x ≠ y := by decide) (hn' : x ≠ y' := by decide) : upd (upd m y' u') y u x = some v := by
  show (if x = y then some u else if x = y' then some u' else m x) = _
  rw [if_neg hn, if_neg hn', h]
theorem lawNames_good : ∀ x ∈ lawNames, GoodS x := by
  intro x hx
  simp only [lawNames, List.mem_cons, List.not_mem_nil, or_false] at hx
  rcases hx with rfl | rfl | rfl | rfl | rfl <;> exact ⟨by decide, by decide +kernel⟩
theorem lawNames_nodup : lawNames.Nodup := by decide
theorem take_mem_of {p : Nat} {x : Str} (h : x ∈ lawNames.take p) : x ∈ lawNames := List.mem_of_mem_take h

/-- the table, as far as it is made -/
structure Built (nms : List Str) (i : Nat) (σ : Tab) : Prop where
  keys : σ.map (·.1) = nms.take i
  drawn : ∀ k x t, σ[k]? = some (x, t) → Drawn (nms.take k) t

theorem strs_at {vs : List Value} {ss : List Str} (h : StrsAre vs ss) : ∀ {i : Nat} {v : Value}, vs[i]? = some v → ∃ x t, v = .str x t ∧ ss[i]? = some x := by
  induction h with
  | nil => intro i v hv; simp at hv
  | cons y u _ ih =>
    intro i v hv
    cases i with
    | zero => simp at hv; exact ⟨y, u, hv.symm, by simp⟩
    | succ i => simp at hv; obtain ⟨x, t, e1, e2⟩ := ih hv; exact ⟨x, t, e1, by simpa using e2⟩

inductive SegBK (w : World) (L ln cl tb nl : Addr) (p i : Nat) (T' : Heap) (m : Str → Option Value) (own : Own) : Prop
  | mk (kvs' tkvs : List (Str × Value)) (σ : Tab) (n : Nat) (e : own = [(tb, DctO w tkvs), (ln, DctO w kvs'), (L + 1, CellO (some (.ref tb)))]) (h1 : m (Str.ofString "line") = some (.ref ln)) (h2 : m (Str.ofString "names") = some (.ref nl))
      (h3 : LineK cl n kvs') (h4 : n ≤ 1 + 3 * i) (h5 : TabIn T' tkvs σ) (h6 : Built (lawNames.take p) i σ)

set_option maxHeartbeats 1600000
theorem segB {w : World} {A : Around} {E : Value → Shared → Prop} {S T₀ T : Heap} {s₀ s : Shared} {L f ln cl tb nl : Addr} {cd : Value} {m : Str → Option Value} {R : Flow → Shared → Prop} {lv : List Value} {kvs : List (Str × Value)} {p : Nat}
    (G : Gnd w T) (X : Fx S T₀ s₀ T L m [(tb, DctO w []), (ln, DctO w kvs), (L + 1, CellO (some (.ref tb)))] s) (r : Room A 10) (hml : m (Str.ofString "line") = some (.ref ln)) (hmn : m (Str.ofString "names") = some (.ref nl))
    (hK : LineK cl 1 kvs) (hC : Cells T cl) (hnl : T.IsList nl lv.toArray) (hlv : StrsAre lv (lawNames.take p)) (hp : p ≤ 5)
    (h : ∀ T' m' s' kvs' tkvs σ n, Fx S T₀ s₀ T' L m' [(tb, DctO w tkvs), (ln, DctO w kvs'), (L + 1, CellO (some (.ref tb)))] s' → Ev T T' → m' (Str.ofString "line") = some (.ref ln) → m' (Str.ofString "names") = some (.ref nl) →
      LineK cl n kvs' → n ≤ 16 → TabIn T' tkvs σ → Built (lawNames.take p) p σ → wpAny (model PR w) A (execs ((dBody (dStmt 24)).drop 3) (lawEnv L f cd)) R E s') :
    wpAny (model PR w) A (execs ((dBody (dStmt 24)).drop 2) (lawEnv L f cd)) R E s := by
  conv in List.drop 2 _ => whnf
  have hlen : lv.length = p := by
    have := congrArg List.length hlv.strs
    simp [lawNames] at this
    lia
  refine wpAny_execs_cons (wpAny_For (Call_ (e_boot X G (v := .type "enumerate") rfl (callWith_type1 (args_cons (e_loc X hmn (args_nil (call_enum_lst X hnl fun e it s6 X6 => ?_))))))))
  refine (Iter.enumL (elts := []) (kx := 0) (pos := ⟨0,0,0,0⟩) hnl).self X6 ?_
  refine loop_for (Iter.enumL hnl) r.hh
    (SegBK w L ln cl tb nl p)
    ?_ ?_ ?_ (Ev.refl _) X6 ?_
  · rintro i T4 T5 m own k ⟨kvs', tkvs, σ, n, e, h1, h2, h3, h4, h5, h6⟩
    exact ⟨kvs', tkvs, σ, n, e, h1, h2, h3, h4, h5.ev k, h6⟩
  · rintro i T4 m own s7 v E' hi k4 X7 ⟨va, tk, x, rfl, hx, hvt⟩ ⟨kvs', tkvs, σ, n, rfl, h1, h2, h3, h4, h5, h6⟩ Q1 hnx hr
    obtain ⟨name, tn, rfl, hname⟩ := strs_at hlv hx
    have G4 := G.keeps k4
    refine s_unpack X7 hvt r.hh fun s8 X8 => assignInOrder_cons (wpAny_assign_Name (s_loc X8 fun s9 X9 => assignInOrder_cons (wpAny_assign_Name (s_loc X9 fun s10 X10 => assignInOrder_nil ?_))))
    have hil : i < p := by lia
    have ml : (upd (upd m (Str.ofString "k") (.int i tk)) (Str.ofString "name") (.str name tn)) (Str.ofString "line") = some (.ref ln) := mne2 h1
    have mn : (upd (upd m (Str.ofString "k") (.int i tk)) (Str.ofString "name") (.str name tn)) (Str.ofString "names") = some (.ref nl) := mne2 h2
    generalize hm' : (upd (upd m (Str.ofString "k") (.int i tk)) (Str.ofString "name") (.str name tn)) = m' at X10 ml mn
    have mk : m' (Str.ofString "k") = some (.int i tk) := by rw [← hm']; rfl
    have mnm : m' (Str.ofString "name") = some (.str name tn) := by rw [← hm']; rfl
    refine x_cons (fun Qα nα rα cα => x_sub (e_call X10 G4 rfl (by decide) (args_cons (e_loc X10 ml (args_cons (e_lsl (e_loc X10 mn (evalPart_none_step (evalPart_some_step (e_loc X10 mk (evalPart_none_step ?_)))))))))))
    have hnl4 : s10.heap.IsList nl lv.toArray := let ⟨o, a, b⟩ := hnl; ⟨o, X10.st.kT _ _ (k4 _ _ a), b⟩
    refine ⟨nl, lv, none, some ((i : Nat) : Int), none, _, _, _, _, _, _, _, rfl, X10, hnl4, .none, .int _ _, .none, by simp, by lia, fun ls T11 s11 X11 k11 hls => ?_⟩
    rw [slicePick_upto', show lv.toArray.toList = lv from rfl] at hls
    have G11 := G4.keeps k11
    refine args_cons (e_call X11 G11 rfl (by decide) (args_cons (e_loc X11 ml (args_cons (e_int fun t12 s12 u12 => args_nil ?_)))))
    have X12 := X11.up u12
    have hln : T11.get? ln = none := X12.st.fT (ln, DctO w kvs') (by simp)
    refine ⟨X12.st.kT, use_specM X12 (i := 3) rfl (pull_spec G11 X12.st.kT hln (X12.open1 (i := 3) rfl) h3 ((hC.ev k4).ev k11) (by lia) (by lia)) (r.mono (by lia)) fun pr s13 T13 kv13 X13 k13 hpost => ?_⟩
    obtain ⟨⟨way, tw, rfl, _, _⟩, hK13⟩ := hpost
    have X13' : Fx S T₀ s₀ T13 L m' ([(e, EnumO it ((i : Nat) + 1 : Nat)), (it, LIterO nl (i + 1)), (tb, DctO w tkvs), (ln, DctO w kv13), (L + 1, CellO (some (.ref tb)))]) s13 := X13
    have hln13 : T13.get? ln = none := X13'.st.fT (ln, DctO w kv13) (by simp)
    have hls13 : T13.IsList ls (lv.take i).toArray := let ⟨o, a, b⟩ := hls.isList; ⟨o, k13 _ _ a, b⟩
    refine args_nil ⟨(k11.trans k13).trans X13'.st.kT, use_specM X13' (i := 3) rfl (drawn_spec (G11.keeps k13) X13'.st.kT hln13 (X13'.open1 (i := 3) rfl) hK13 (((hC.ev k4).ev k11).ev k13) (by lia) hls13 (strs_take hlv i) (fun x hx => lawNames_good x (take_mem_of (List.mem_of_mem_take hx))) (by simp [lawNames]; lia)) (r.mono (by lia)) fun pr s14 T14 kv14 X14 k14 hpost => ?_⟩
    obtain ⟨t, hdr, htm, n', hn', hK14⟩ := hpost
    have X14' : Fx S T₀ s₀ T14 L m' ([(e, EnumO it ((i : Nat) + 1 : Nat)), (it, LIterO nl (i + 1)), (tb, DctO w tkvs), (ln, DctO w kv14), (L + 1, CellO (some (.ref tb)))]) s14 := X14
    have h5' : TabIn T14 tkvs σ := ((h5.ev k11).ev k13).ev k14
    have hkl : tkvs.length = i := by
      have := congrArg List.length (h5'.keys.trans h6.keys)
      simp [lawNames] at this; lia
    refine e_cell (i := 4) X14' rfl (e_loc X14' mnm (X14'.setD (i := 2) rfl (by lia) fun s15 X15 => ?_))
    have hnew : valueAt tkvs name = none := by
      cases hv : valueAt tkvs name with
      | none => rfl
      | some v =>
        have := valueAt_mem.mp (by rw [hv]; rfl)
        rw [h5'.keys, h6.keys] at this
        obtain ⟨j, hj, e⟩ := List.getElem_of_mem this
        have hnd : (lawNames.take p).Nodup := lawNames_nodup.sublist (List.take_sublist _ _)
        have hj' : j < i := by simp at hj; lia
        rw [List.getElem_take] at e
        have h7 : (lawNames.take p)[j]? = some name := by rw [List.getElem?_eq_getElem (by simp at hj ⊢; lia), e]
        have := (List.getElem?_inj (by simp at hj ⊢; lia) hnd).mp (h7.trans hname.symm)
        lia
    rw [stored_keys hnew] at X15
    refine nα _ <| wpAny_execs_nil (hnx _ ⟨T14, m', [(tb, DctO w (tkvs ++ [(name, pr)])), (ln, DctO w kv14), (L + 1, CellO (some (.ref tb)))], (k11.trans k13).trans k14, X15, kv14, _, σ ++ [(name, t)], n', rfl, ml, mn, hK14, by lia, h5'.append (.cons ⟨rfl, htm⟩ .nil), ?_, ?_⟩).1
    · rw [List.map_append, h6.keys, List.take_add_one, hname]; rfl
    · intro k x u hk
      rw [List.getElem?_append] at hk
      have hsl : σ.length = i := by
        have := congrArg List.length h6.keys
        simp [lawNames] at this; lia
      split at hk
      · exact h6.drawn k x u hk
      · have hk0 : k = i := by
          have := List.getElem?_eq_some_iff.mp hk
          obtain ⟨h8, _⟩ := this
          simp at h8; lia
        subst hk0
        rw [hsl, Nat.sub_self] at hk
        simp at hk
        rw [← hk.2]; exact hdr
  · rintro T4 m own s7 k4 X7 ⟨kvs', tkvs, σ, n, rfl, h1, h2, h3, h4, h5, h6⟩
    rw [hlen] at h4 h6
    exact h T4 m s7 kvs' tkvs σ n X7 k4 h1 h2 h3 (by lia) h5 h6
  · exact ⟨kvs, [], [], 1, rfl, hml, hmn, hK, by lia, .nil, ⟨by simp, fun k x t hk => by simp at hk⟩⟩
end Mine
end

section
open PySem PySem.W PySem.Calls PyProof.Rows
set_option maxRecDepth 100000
namespace Mine

theorem strs_reverse {vs : List Value} {ss : List Str} (h : StrsAre vs ss) : StrsAre vs.reverse ss.reverse := by
  induction h with
  | nil => exact .nil
  | cons y u _ ih => rw [List.reverse_cons, List.reverse_cons]; exact strs_append ih (.cons y u .nil)
theorem Drawn.mono {a b : List Str} {t : Tm} (h : Drawn a t) (k : ∀ x ∈ a, x ∈ b) : Drawn b t := by
  have k' : ∀ x ∈ base ++ a, x ∈ base ++ b := fun x hx => by
    rcases List.mem_append.mp hx with h | h
    · exact List.mem_append_left _ h
    · exact List.mem_append_right _ (k x h)
  rcases h with ⟨x, hx, e⟩ | ⟨x, hx, e⟩ | ⟨x, hx, y, hy, e⟩
  · exact .inl ⟨x, k' x hx, e⟩
  · exact .inr (.inl ⟨x, k' x hx, e⟩)
  · exact .inr (.inr ⟨x, k' x hx, y, k' y hy, e⟩)

/-- what the pattern is -/
noncomputable def IsPat (nms : List Str) (t : Tm) : Prop := Drawn nms t ∨ ∃ u, Drawn nms u ∧ t = .un (Str.ofString "f") u

set_option maxHeartbeats 1600000
theorem segC {w : World} {A : Around} {E : Value → Shared → Prop} {S T₀ T : Heap} {s₀ s : Shared} {L f ln cl tb nl : Addr} {cd : Value} {m : Str → Option Value} {R : Flow → Shared → Prop} {lv : List Value} {kvs tkvs : List (Str × Value)} {p n : Nat}
    (G : Gnd w T) (X : Fx S T₀ s₀ T L m [(tb, DctO w tkvs), (ln, DctO w kvs), (L + 1, CellO (some (.ref tb)))] s) (r : Room A 10) (hml : m (Str.ofString "line") = some (.ref ln)) (hmn : m (Str.ofString "names") = some (.ref nl))
    (hK : LineK cl n kvs) (hn : n ≤ 16) (hC : Cells T cl) (hnl : T.IsList nl lv.toArray) (hlv : StrsAre lv (lawNames.take p)) (hp : p ≤ 5)
    (h : ∀ T' m' s' kvs' pat pv n, Fx S T₀ s₀ T' L m' [(ln, DctO w kvs'), (L + 1, CellO (some (.ref tb)))] s' → Ev T T' → m' (Str.ofString "line") = some (.ref ln) → m' (Str.ofString "names") = some (.ref nl) → m' (Str.ofString "pattern") = some pv →
      LineK cl n kvs' → n ≤ 20 → Dct w T' tb tkvs → TmIn T' pat pv → IsPat (lawNames.take p) pat → wpAny (model PR w) A (execs ((dBody (dStmt 24)).drop 6) (lawEnv L f cd)) R E s') :
    wpAny (model PR w) A (execs ((dBody (dStmt 24)).drop 3) (lawEnv L f cd)) R E s := by
  conv in List.drop 3 _ => whnf
  have hlen : lv.length = p := by
    have := congrArg List.length hlv.strs
    simp [lawNames] at this
    lia
  have fg : GoodS (Str.ofString "f") := ⟨by decide, by decide +kernel⟩
  obtain ⟨T1, k1, D1, X1⟩ := X.freezeD G
  have G1 := G.keeps k1
  refine x_cons (fun Qα nα rα cα => wpAny_Assign_Name (e_lsl (e_loc X1 hmn (evalPart_none_step (evalPart_none_step (evalPart_some_step (wpAny_UnaryOp (e_int fun t2 s2 u2 => PyProof.Rows.neg_int ?_))))))))
  have X2 := (X1.up u2).up (s' := { s2 with toks := s2.toks + 1 }) Up.tk
  have hnl2 : ({ s2 with toks := s2.toks + 1 } : Shared).heap.IsList nl lv.toArray := let ⟨o, a, b⟩ := hnl; ⟨o, X2.st.kT _ _ (k1 _ _ a), b⟩
  refine ⟨nl, lv, none, none, some (-1), _, _, _, _, _, _, _, rfl, X2, hnl2, .none, .none, .int _ _, by decide, by lia, fun ls T3 s3 X3 k3 hls => ?_⟩
  rw [krv_pick, show lv.toArray.toList = lv from rfl] at hls
  refine s_loc X3 fun s4 X4 => ?_
  have ml : (upd m (Str.ofString "lesser") (Value.ref ls)) (Str.ofString "line") = some (.ref ln) := mne hml
  have mn : (upd m (Str.ofString "lesser") (Value.ref ls)) (Str.ofString "names") = some (.ref nl) := mne hmn
  generalize hm' : (upd m (Str.ofString "lesser") (Value.ref ls)) = m' at X4 ml mn
  have mls : m' (Str.ofString "lesser") = some (.ref ls) := by rw [← hm']; rfl
  have G3 := G1.keeps k3
  -- pattern = _law_drawn(line, lesser, _law_pull(line, 3))
  refine nα _ <| x_cons (fun Qα nα rα cα => wpAny_Assign_Name (e_call X4 G3 rfl (by decide) (args_cons (e_loc X4 ml (args_cons (e_loc X4 mls (args_cons (e_call X4 G3 rfl (by decide) (args_cons (e_loc X4 ml (args_cons (e_int fun t5 s5 u5 => args_nil ?_))))))))))))
  have X5 := X4.up u5
  have hln : T3.get? ln = none := X5.st.fT (ln, DctO w kvs) (by simp)
  refine ⟨X5.st.kT, use_specM X5 (i := 0) rfl (pull_spec G3 X5.st.kT hln (X5.open1 (i := 0) rfl) hK ((hC.ev k1).ev k3) (by lia) (by lia)) (r.mono (by lia)) fun pr s6 T6 kv6 X6 k6 hpost => ?_⟩
  obtain ⟨⟨way, tw, rfl, _, _⟩, hK6⟩ := hpost
  have X6' : Fx S T₀ s₀ T6 L m' [(ln, DctO w kv6), (L + 1, CellO (some (.ref tb)))] s6 := X6
  have hln6 : T6.get? ln = none := X6'.st.fT (ln, DctO w kv6) (by simp)
  have hls6 : T6.IsList ls lv.reverse.toArray := let ⟨o, a, b⟩ := hls.isList; ⟨o, k6 _ _ a, b⟩
  refine args_nil ⟨k6.trans X6'.st.kT, use_specM X6' (i := 0) rfl (drawn_spec (G3.keeps k6) X6'.st.kT hln6 (X6'.open1 (i := 0) rfl) hK6 (((hC.ev k1).ev k3).ev k6) (by lia) hls6 (strs_reverse hlv) (fun x hx => lawNames_good x (take_mem_of (List.mem_reverse.mp hx))) (by simp [lawNames]; lia)) (r.mono (by lia)) fun pr s7 T7 kv7 X7 k7 hpost => ?_⟩
  obtain ⟨t, hdr, htm, n', hn', hK7⟩ := hpost
  have hdr := hdr.mono (fun x hx => List.mem_reverse.mp hx)
  have X7' : Fx S T₀ s₀ T7 L m' [(ln, DctO w kv7), (L + 1, CellO (some (.ref tb)))] s7 := X7
  refine s_loc X7' fun s8 X8 => ?_
  have ml8 : (upd m' (Str.ofString "pattern") pr) (Str.ofString "line") = some (.ref ln) := mne ml
  have mn8 : (upd m' (Str.ofString "pattern") pr) (Str.ofString "names") = some (.ref nl) := mne mn
  generalize hm8 : (upd m' (Str.ofString "pattern") pr) = m8 at X8 ml8 mn8
  have mp8 : m8 (Str.ofString "pattern") = some pr := by rw [← hm8]; rfl
  have G7 := (G3.keeps k6).keeps k7
  have k17 := ((k1.trans k3).trans k6).trans k7
  have hln7 : T7.get? ln = none := X8.st.fT (ln, DctO w kv7) (by simp)
  -- if _law_pull(line, 2) == 0
  refine nα _ <| x_cons (fun Qα nα rα cα => wpAny_If (wpAny_isTrue_Compare1 (e_call X8 G7 rfl (by decide) (args_cons (e_loc X8 ml8 (args_cons (e_int fun t9 s9 u9 => args_nil ?_)))))))
  have X9 := X8.up u9
  refine ⟨X9.st.kT, use_specM X9 (i := 0) rfl (pull_spec G7 X9.st.kT hln7 (X9.open1 (i := 0) rfl) hK7 (hC.ev k17) (by lia) (by lia)) (r.mono (by lia)) fun pr2 s10 T10 kv10 X10 k10 hpost => ?_⟩
  obtain ⟨⟨q, tq, rfl, _, _⟩, hK10⟩ := hpost
  have X10' : Fx S T₀ s₀ T10 L m8 [(ln, DctO w kv10), (L + 1, CellO (some (.ref tb)))] s10 := X10
  refine e_int fun t11 s11 u11 => PyProof.Rows.eq_int (wpAny_truthy_bool ?_)
  have X11 := X10'.up u11
  by_cases h0 : q = 0
  · rw [if_pos (by simp [h0])]
    refine x_cons (fun Qβ nβ rβ cβ => wpAny_Assign_Name (e_tuple (args_cons (e_str fun t12 s12 u12 => args_cons (e_loc (X11.up u12) mp8 (args_nil ?_))))))
    refine ⟨_, _, _, _, _, _, _, X11.up u12, by simp, fun ta T13 s13 X13 k13 hta => s_loc X13 fun s14 X14 => nβ _ <| wpAny_execs_nil (nα _ ?_)⟩
    exact h T13 _ s14 kv10 (.un (Str.ofString "f") t) _ _ X14 ((k17.trans k10).trans k13) (mne ml8) (mne mn8) rfl hK10 (by lia) ((D1.keeps (((k3.trans k6).trans k7).trans (k10.trans k13)))) (.un fg hta ((htm.ev k10).ev k13)) (.inr ⟨t, hdr, rfl⟩)
  · rw [if_neg (by simp [h0])]
    refine wpAny_execs_nil (nα _ ?_)
    exact h T10 _ s11 kv10 t _ _ X11 (k17.trans k10) ml8 mn8 mp8 hK10 (by lia) (D1.keeps (((k3.trans k6).trans k7).trans k10)) (htm.ev k10) (.inl hdr)
end Mine
end

section
open PySem PySem.W PySem.Calls PyProof.Rows
set_option maxRecDepth 100000
namespace Mine

structure TabOk (σ : Tab) (ρ : Str → Nat) : Prop where
  rank : ∀ p ∈ σ, ∀ y ∈ p.2.vars, (lookT σ y).isSome = true → ρ y < ρ p.1
  isq : ∀ p ∈ σ, isQ p.1 = true
  dep : ∀ p ∈ σ, p.2.depth ≤ 4
  lf : ∀ p ∈ σ, leafN p.2 ≤ 2
  siz : ∀ p ∈ σ, p.2.size ≤ 40
  len : σ.length ≤ 5
  bnd : ∀ x, (lookT σ x).isSome = true → ρ x < 5
structure TermOk (t : Tm) : Prop where
  lf : leafN t ≤ 2
  dep : t.depth ≤ 4
  siz : t.size ≤ 40

noncomputable def probes : List Str := [Str.ofString "?z", Str.ofString "?e", Str.ofString "?none"]
structure MF (m : Str → Option Value) (ln nl : Addr) (pv : Value) : Prop where
  line : m (Str.ofString "line") = some (.ref ln)
  names : m (Str.ofString "names") = some (.ref nl)
  pat : m (Str.ofString "pattern") = some pv
theorem MF.set {m : Str → Option Value} {ln nl : Addr} {pv : Value} (h : MF m ln nl pv) {x : Str} {v : Value} (h1 : Str.ofString "line" ≠ x := by decide) (h2 : Str.ofString "names" ≠ x := by decide) (h3 : Str.ofString "pattern" ≠ x := by decide) :
    MF (upd m (x) v) ln nl pv := ⟨mne h.line h1, mne h.names h2, mne h.pat h3⟩

theorem leafs {T T' : Heap} (k : Ev T T') {ys : List Value} {ns : List Str} (h : All2 (fun v y => TmIn T (.leaf y) v) ys ns) : All2 (fun v t => TmIn T' t v) ys (ns.map Tm.leaf) := by
  induction h with
  | nil => exact .nil
  | cons h _ ih => exact .cons (h.ev k) ih
theorem strs_any {ss : List Str} {x : Str} : (ss.any (· == x)) = true ↔ x ∈ ss := by
  rw [List.any_eq_true]
  constructor
  · rintro ⟨y, hy, e⟩
    have : y = x := by simpa using e
    rw [← this]; exact hy
  · intro h
    exact ⟨x, h, by simp⟩

set_option maxHeartbeats 1600000
theorem segD {w : World} {A : Around} {E : Value → Shared → Prop} {S T₀ T : Heap} {s₀ s : Shared} {L f ln tb nl : Addr} {cd : Value} {m : Str → Option Value} {R : Flow → Shared → Prop} {lv : List Value} {kvs tkvs : List (Str × Value)} {nms : List Str} {σ : Tab} {ρ : Str → Nat} {pat : Tm} {pv : Value}
    (G : Gnd w T) (X : Fx S T₀ s₀ T L m [(ln, DctO w kvs), (L + 1, CellO (some (.ref tb)))] s) (r : Room A 50) (M : MF m ln nl pv)
    (hnl : T.IsList nl lv.toArray) (hlv : StrsAre lv nms) (hp : nms.length ≤ 5) (hgood : ∀ x ∈ nms, GoodS x) (D : Dct w T tb tkvs) (hσ : TabIn T tkvs σ) (ht : TmIn T pat pv) (hT : TabOk σ ρ) (hP : TermOk pat)
    (hRL : ∀ t, (t = pat ∨ ∃ y ∈ nms, t = .leaf y) → ∀ x ∈ probes, (Reach σ t x ↔ Lv σ t x))
    (h : ∀ T' m' s', Fx S T₀ s₀ T' L m' [(ln, DctO w kvs), (L + 1, CellO (some (.ref tb)))] s' → Ev T T' → MF m' ln nl pv → wpAny (model PR w) A (execs ((dBody (dStmt 24)).drop 7) (lawEnv L f cd)) R E s') :
    wpAny (model PR w) A (execs ((dBody (dStmt 24)).drop 6) (lawEnv L f cd)) R E s := by
  conv in List.drop 6 _ => whnf
  have hlen : lv.length = nms.length := by rw [← hlv.strs, List.length_map]
  -- [pattern] + [(name,) for name in names]
  refine wpAny_execs_cons (wpAny_For (wpAny_BinOp (e_list (args_cons (e_loc X M.pat (args_nil ⟨_, _, _, _, _, _, _, X, by simp, fun a s1 X1 => ?_⟩))))))
  refine comp_list (e_loc X1 M.names (iter_list X1 hnl fun I s2 X2 => ?_))
  refine CompGo.mk (fun i T ys => All2 (fun v y => TmIn T (.leaf y) v) ys (nms.take i)) rfl (Iter.list hnl) (Ev.refl _) X2 (by lia) r.hh .nil (fun _ _ _ _ k h => h.mono fun _ _ h => h.ev k) ?_ ?_
  · rintro C j T3 mC own' s3 v ys E'' hj k3 X3 hmo hpv hys hyl Qy Qn hyy hnn
    obtain ⟨x, tx, rfl, hx⟩ := strs_at hlv hpv
    refine wpAny_assign_Name (s_loc X3 fun s4 X4 => wpAny_pure ?_)
    rw [if_pos rfl]
    refine e_tuple (args_cons (e_loc X4 rfl (args_nil ⟨_, _, _, _, _, _, _, X4, by simp, fun xa T5 s5 X5 k5 hxa => hyy _ _ ⟨T5, _, k5, X5, ?_⟩⟩)))
    rw [List.take_add_one, hx]
    exact (hys.mono fun _ _ h => h.ev k5).append (.cons (.leaf (hgood x (List.mem_of_getElem? hx)) hxa) .nil)
  rintro Dl ys T3 s3 k3 X3 hys hyl
  rw [hlen, List.take_length] at hys
  have X3' : Fx S T₀ s₀ T3 L m [(Dl, LstO ys), (a, LstO [pv]), (ln, DctO w kvs), (L + 1, CellO (some (.ref tb)))] s3 := X3
  refine add_own X3' (lst_of (i := 1) X3' rfl) (lst_of (i := 0) X3' rfl) (by simp; lia) fun l s4 X4 => ?_
  obtain ⟨T5, k5, hl, X5⟩ := X4.freezeL
  have X5' : Fx S T₀ s₀ T5 L m [(ln, DctO w kvs), (L + 1, CellO (some (.ref tb)))] s4 := X5.drop.drop
  have k05 := k3.trans k5
  have hits : All2 (fun v t => TmIn T5 t v) ([pv] ++ ys) (pat :: nms.map Tm.leaf) := by
    exact .cons (ht.ev k05) (leafs k5 hys)
  have hTm : ∀ t ∈ pat :: nms.map Tm.leaf, (t = pat ∨ ∃ y ∈ nms, t = .leaf y) ∧ TermOk t := by
    intro t h1
    rcases List.mem_cons.mp h1 with rfl | h1
    · exact ⟨.inl rfl, hP⟩
    · obtain ⟨y, hy, rfl⟩ := List.mem_map.mp h1
      exact ⟨.inr ⟨y, hy, rfl⟩, ⟨by simp [leafN, leafS], by simp [Tm.depth], by simp [Tm.size]⟩⟩
  refine iter_list X5' hl.isList fun I2 s6 X6 => ?_
  refine loop_for (Iter.list hl.isList) r.hh
    (fun i T' m own => own = [(ln, DctO w kvs), (L + 1, CellO (some (.ref tb)))] ∧ MF m ln nl pv) ?_ ?_ ?_ (Ev.refl _) X6 ⟨rfl, M⟩
  · rintro i T4 T5 m own k h; exact h
  · rintro i T7 m7 own7 s7 v E' hi k7 X7 hv ⟨rfl, M7⟩ Q1 hnx hr
    obtain ⟨t, hti, htv⟩ := (hits.mono fun _ _ h => h.ev k7).get hv
    obtain ⟨hwho, hok⟩ := hTm t (List.mem_of_getElem? hti)
    have k07 := k05.trans k7
    have G7 := G.keeps k07
    refine wpAny_assign_Name (s_loc X7 fun s8 X8 => ?_)
    have M8 := M7.set (x := Str.ofString "t") (v := v)
    generalize hm8 : (upd m7 (Str.ofString "t") v) = m8 at X8 M8
    have mt8 : m8 (Str.ofString "t") = some v := by rw [← hm8]; rfl
    have X8' : Fx S T₀ s₀ T7 L m8 [(I2, LIterO l (i + 1)), (ln, DctO w kvs), (L + 1, CellO (some (.ref tb)))] s8 := X8
    have D7 : Dct w T7 tb tkvs := D.keeps k07
    -- leaves = _law_leaves(t, table)
    refine x_cons (fun Qα nα rα cα => wpAny_Assign_Name (e_call X8' G7 rfl (by decide) (args_cons (e_loc X8' mt8 (args_cons (e_cell (i := 2) X8' rfl (args_nil ?_)))))))
    have hdep := hok.dep
    refine ⟨X8'.st.kT, use_spec X8' (leaves_spec hT.rank hT.isq hT.dep hT.lf 5 (by decide) t hok.lf (fun x _ hx => hT.bnd x hx) G7 X8'.st.kT htv (hσ.ev k07) (D7.keeps X8'.st.kT)) (r.mono (by lia)) fun pr s9 T9 X9 k9 hpost => ?_⟩
    obtain ⟨lf, xs, ss, rfl, hlf, hss, hmem, hlfl⟩ := hpost
    refine s_loc X9 fun s10 X10 => ?_
    have M10 := M8.set (x := Str.ofString "leaves") (v := .ref lf)
    have mt10 : (upd m8 (Str.ofString "leaves") (Value.ref lf)) (Str.ofString "t") = some v := mne mt8
    generalize hm10 : (upd m8 (Str.ofString "leaves") (Value.ref lf)) = m10 at X10 M10 mt10
    have ml10 : m10 (Str.ofString "leaves") = some (.ref lf) := by rw [← hm10]; rfl
    -- for name in ('?z', '?e', '?none')
    refine nα _ <| wpAny_execs_cons (wpAny_For (e_tuple (args_cons (e_str fun t11 s11 u11 => args_cons (e_str fun t12 s12 u12 => args_cons (e_str fun t13 s13 u13 => args_nil ?_))))))
    have X13 := ((X10.up u11).up u12).up u13
    refine ⟨_, _, _, _, _, _, _, X13, by simp, fun pa T14 s14 X14 k14 hpa => ?_⟩
    have hpr : StrsAre [Value.str (Str.ofString "?z") t11, .str (Str.ofString "?e") t12, .str (Str.ofString "?none") t13] probes := .cons _ _ (.cons _ _ (.cons _ _ .nil))
    generalize hps : [Value.str (Str.ofString "?z") t11, .str (Str.ofString "?e") t12, .str (Str.ofString "?none") t13] = ps at hpa hpr
    refine iter_tup X14 hpa fun I3 s15 X15 => ?_
    have k79 := k9.trans k14
    refine loop_for (Iter.tup hpa) r.hh
      (fun i' T' m own => own = [(I2, LIterO l (i + 1)), (ln, DctO w kvs), (L + 1, CellO (some (.ref tb)))] ∧ MF m ln nl pv ∧ m (Str.ofString "t") = some v ∧ m (Str.ofString "leaves") = some (.ref lf)) ?_ ?_ ?_ (Ev.refl _) X15 ⟨rfl, M10, mt10, ml10⟩
    · rintro i T4 T5 m own k h; exact h
    · rintro i' T16 m16 own16 s16 nv E'' hi' k16 X16 hnv ⟨rfl, M16, mt16, ml16⟩ Q2 hnx2 hr2
      obtain ⟨x, tx, rfl, hx⟩ := strs_at hpr hnv
      have hxp : x ∈ probes := List.mem_of_getElem? hx
      have k716 := k79.trans k16
      have G16 := G7.keeps k716
      refine wpAny_assign_Name (s_loc X16 fun s17 X17 => ?_)
      have M17 := M16.set (x := Str.ofString "name") (v := .str x tx)
      have mt17 : (upd m16 (Str.ofString "name") (Value.str x tx)) (Str.ofString "t") = some v := mne mt16
      have ml17 : (upd m16 (Str.ofString "name") (Value.str x tx)) (Str.ofString "leaves") = some (.ref lf) := mne ml16
      generalize hm17 : (upd m16 (Str.ofString "name") (Value.str x tx)) = m17 at X17 M17 mt17 ml17
      have mn17 : m17 (Str.ofString "name") = some (.str x tx) := by rw [← hm17]; rfl
      have X17' : Fx S T₀ s₀ T16 L m17 [(I3, TIterO pa (i' + 1)), (I2, LIterO l (i + 1)), (ln, DctO w kvs), (L + 1, CellO (some (.ref tb)))] s17 := X17
      refine x_cons (fun Qα nα rα cα => wpAny_If (wpAny_isTrue_Compare1 (e_call X17' G16 rfl (by decide) (args_cons (e_loc X17' mn17 (args_cons (e_loc X17' mt17 (args_cons (e_cell (i := 3) X17' rfl (args_nil ?_))))))))))
      refine ⟨X17'.st.kT, use_spec X17' (is_within_spec G16 X17'.st.kT (htv.ev k716) ((D7.keeps k716).keeps X17'.st.kT) ((hσ.ev k07).ev k716) hok.siz hT.siz (by have := hT.len; lia)) (r.mono (by lia)) fun pr s18 T18 X18 k18 hpost => ?_⟩
      obtain ⟨b, rfl, hb⟩ := hpost
      have hlf18 : s18.heap.IsList lf xs.toArray := let ⟨o, a, b⟩ := hlf.isList; ⟨o, X18.st.kT _ _ (k18 _ _ (k16 _ _ (k14 _ _ a))), b⟩
      refine wpAny_Compare1 (e_loc X18 mn17 (e_loc X18 ml17 (in_list_strs hlf18 hss (ne_bool (wpAny_truthy_bool ?_)))))
      have e : (b != ss.any (· == x)) = false := by
        have h1 : (b = true) ↔ (ss.any (· == x)) = true := by rw [strs_any, hmem, hb]; exact hRL t hwho x hxp
        cases b <;> cases hq : (ss.any (· == x)) <;> simp_all
      rw [e, if_neg (by simp)]
      refine wpAny_execs_nil (nα _ <| wpAny_execs_nil (hnx2 _ ⟨T18, m17, _, k18, X18, rfl, M17, mt17, ml17⟩).1)
    · rintro T16 m16 own16 s16 k16 X16 ⟨rfl, M16, mt16, ml16⟩
      show wpAny _ _ _ _ _ _
      exact wpAny_execs_nil (hnx _ ⟨T16, m16, _, k79.trans k16, X16, rfl, M16⟩).1
  · rintro T7 m7 own7 s7 k7 X7 ⟨rfl, M7⟩
    exact h T7 m7 s7 X7 (k05.trans k7) M7
end Mine
end

section
open PySem PySem.W PySem.Calls PyProof.Rows
set_option maxRecDepth 100000
namespace Mine

noncomputable def rowT (p : Str × Tm) : Tm × Tm := (.leaf p.1, p.2)
noncomputable def rowsOf (σ : Tab) (pat : Tm) : List (Tm × Tm) := σ.map rowT ++ [(.leaf (Str.ofString "?z"), pat)]

set_option maxHeartbeats 1600000
theorem segE {w : World} {A : Around} {E : Value → Shared → Prop} {S T₀ T : Heap} {s₀ s : Shared} {L f ln cl tb nl : Addr} {cd : Value} {m : Str → Option Value} {R : Flow → Shared → Prop} {lv : List Value} {kvs tkvs : List (Str × Value)} {nms : List Str} {σ : Tab} {pat : Tm} {pv : Value} {n : Nat}
    (G : Gnd w T) (X : Fx S T₀ s₀ T L m [(ln, DctO w kvs), (L + 1, CellO (some (.ref tb)))] s) (r : Room A 50) (M : MF m ln nl pv) (hK : LineK cl n kvs) (hn : n ≤ 20) (hC : Cells T cl)
    (hnl : T.IsList nl lv.toArray) (hlv : StrsAre lv nms) (hp : nms.length ≤ 5) (hgood : ∀ x ∈ nms, GoodS x) (D : Dct w T tb tkvs) (hσ : TabIn T tkvs σ) (hkeys : σ.map (·.1) = nms) (hnd : nms.Nodup) (ht : TmIn T pat pv)
    (h : ∀ T' m' s' kvs' rl rvs rows, Fx S T₀ s₀ T' L m' [(ln, DctO w kvs'), (L + 1, CellO (some (.ref tb)))] s' → Ev T T' → MF m' ln nl pv → m' (Str.ofString "rows") = some (.ref rl) → T'.IsList rl rvs.toArray → All2 (PairV T') rvs rows → rows.Perm (rowsOf σ pat) →
      wpAny (model PR w) A (execs ((dBody (dStmt 24)).drop 10) (lawEnv L f cd)) R E s') :
    wpAny (model PR w) A (execs ((dBody (dStmt 24)).drop 7) (lawEnv L f cd)) R E s := by
  conv in List.drop 7 _ => whnf
  have hlen : lv.length = nms.length := by rw [← hlv.strs, List.length_map]
  have hsl : σ.length = nms.length := by rw [← hkeys, List.length_map]
  have zg : GoodS (Str.ofString "?z") := ⟨by decide, by decide +kernel⟩
  refine x_cons (fun Qα nα rα cα => wpAny_Assign_Name (wpAny_BinOp (comp_list (e_loc X M.names (iter_list X hnl fun I s2 X2 => ?_)))))
  refine CompGo.mk (fun i T ys => All2 (PairV T) ys ((σ.take i).map rowT)) rfl (Iter.list hnl) (Ev.refl _) X2 (by lia) r.hh .nil (fun _ _ _ _ k h => h.mono fun _ _ h => h.ev k) ?_ ?_
  · rintro C j T3 mC own' s3 v ys E'' hj k3 X3 hmo hpv hys hyl Qy Qn hyy hnn
    obtain ⟨x, tx, rfl, hx⟩ := strs_at hlv hpv
    have hcell := hmo (L + 1, CellO (some (.ref tb))) (by simp)
    refine wpAny_assign_Name (s_loc X3 fun s4 X4 => wpAny_pure ?_)
    rw [if_pos rfl]
    have hjσ : j < σ.length := by lia
    have hσj : σ[j]? = some σ[j] := List.getElem?_eq_getElem hjσ
    have hxk : σ[j].1 = x := by
      have : (σ.map (·.1))[j]? = some x := by rw [hkeys]; exact hx
      rw [List.getElem?_map, hσj] at this
      simpa using this
    have hlk : lookT σ x = some σ[j].2 := lookT_of_mem (by rw [hkeys]; exact hnd) (by rw [← hxk]; exact List.getElem_mem hjσ)
    refine e_tuple (args_cons (e_tuple (args_cons (e_loc X4 rfl (args_nil ⟨_, _, _, _, _, _, _, X4, by simp, fun xa T5 s5 X5 k5 hxa => args_cons (e_dsub (e_cellM X5 hcell (e_loc X5 rfl ?_)))⟩)))))
    rcases ((hσ.ev k3).ev k5).at x with ⟨n1, n2⟩ | ⟨tv, u, n1, n2, htv⟩
    · rw [hlk] at n2; cases n2
    have hu : σ[j].2 = u := by rw [hlk] at n2; cases n2; rfl
    refine ⟨tb, tkvs, x, tx, tv, rfl, rfl, ((D.keeps k3).keeps k5).keeps X5.st.kT, n1, fun s6 u6 => args_nil ⟨_, _, _, _, _, _, _, X5.up u6, by simp, fun pa T7 s7 X7 k7 hpa => hyy _ _ ⟨T7, _, k5.trans k7, X7, ?_⟩⟩⟩
    rw [List.take_add_one, hσj, List.map_append]
    refine ((hys.mono fun _ _ h => h.ev (k5.trans k7))).append (.cons ⟨pa, _, _, rfl, hpa, ?_, ?_⟩ .nil)
    · show TmIn T7 (.leaf σ[j].1) _
      rw [hxk]
      exact .leaf (hgood x (List.mem_of_getElem? hx)) (hxa.keeps k7)
    · show TmIn T7 σ[j].2 tv
      rw [hu]; exact htv.ev k7
  rintro Dl ys T3 s3 k3 X3 hys hyl
  rw [hlen, ← hsl, List.take_length] at hys
  have X3' : Fx S T₀ s₀ T3 L m [(Dl, LstO ys), (ln, DctO w kvs), (L + 1, CellO (some (.ref tb)))] s3 := X3
  refine e_list (args_cons (e_tuple (args_cons (e_tuple (args_cons (e_str fun t4 s4 u4 => args_nil ⟨_, _, _, _, _, _, _, X3'.up u4, by simp, fun za T5 s5 X5 k5 hza => args_cons (e_loc X5 M.pat (args_nil ⟨_, _, _, _, _, _, _, X5, by simp, fun qa T6 s6 X6 k6 hqa => args_nil ⟨_, _, _, _, _, _, _, X6, by simp, fun a s7 X7 => ?_⟩⟩))⟩))))))
  have X7' : Fx S T₀ s₀ T6 L m [(a, LstO [.ref qa]), (Dl, LstO ys), (ln, DctO w kvs), (L + 1, CellO (some (.ref tb)))] s7 := X7
  refine add_own X7' (lst_of (i := 1) X7' rfl) (lst_of (i := 0) X7' rfl) (by simp; lia) fun l s8 X8 => s_loc X8 fun s9 X9 => ?_
  obtain ⟨T10, k10, hl, X10⟩ := X9.freezeL
  have X10' : Fx S T₀ s₀ T10 L _ [(ln, DctO w kvs), (L + 1, CellO (some (.ref tb)))] s9 := X10.drop.drop
  have k3x := (k5.trans k6).trans k10
  have k0x := k3.trans k3x
  have hrows : All2 (PairV T10) (ys ++ [.ref qa]) (rowsOf σ pat) := (hys.mono fun _ _ h => h.ev k3x).append (.cons ⟨qa, _, _, rfl, hqa.keeps k10, .leaf zg ((hza.keeps k6).keeps k10), ht.ev k0x⟩ .nil)
  have hrl : (ys ++ [Value.ref qa]).length = σ.length + 1 := by rw [hrows.length, rowsOf]; simp
  generalize ys ++ [Value.ref qa] = rvs at hl hrows hrl
  have M10 := M.set (x := Str.ofString "rows") (v := .ref l)
  generalize hm10 : (upd m (Str.ofString "rows") (Value.ref l)) = m10 at X10' M10
  have mr10 : m10 (Str.ofString "rows") = some (.ref l) := by rw [← hm10]; rfl
  have G10 := G.keeps k0x
  have hlh : ∀ {s' : Shared} {T' : Heap} {m' : Str → Option Value} {own' : Own}, Fx S T₀ s₀ T' L m' own' s' → Ev T10 T' → s'.heap.IsList l rvs.toArray := fun X k => let ⟨o, a, b⟩ := hl.isList; ⟨o, X.st.kT _ _ (k _ _ a), b⟩
  -- spot = _law_pull(line, len(rows))
  refine nα _ <| x_cons (fun Qα nα rα cα => wpAny_Assign_Name (e_call X10' G10 rfl (by decide) (args_cons (e_loc X10' M10.line (args_cons (e_len X10' G10 (e_loc X10' mr10 ⟨_, _, rfl, .inr (hlh X10' (Ev.refl _)), by simp; lia, fun t11 s11 u11 => args_nil ?_⟩)))))))
  have X11 := X10'.up u11
  have hln : T10.get? ln = none := X11.st.fT (ln, DctO w kvs) (by simp)
  refine ⟨X11.st.kT, use_specM X11 (i := 0) rfl (pull_spec G10 X11.st.kT hln (X11.open1 (i := 0) rfl) hK (hC.ev k0x) (by lia) (by simp; lia)) (r.mono (by lia)) fun pr s12 T12 kv12 X12 k12 hpost => ?_⟩
  obtain ⟨⟨k, tk, rfl, hk0, hk⟩, hK12⟩ := hpost
  obtain ⟨q, rfl⟩ := Int.eq_ofNat_of_zero_le hk0
  have X12' : Fx S T₀ s₀ T12 L m10 [(ln, DctO w kv12), (L + 1, CellO (some (.ref tb)))] s12 := X12
  refine s_loc X12' fun s13 X13 => ?_
  have M13 := M10.set (x := Str.ofString "spot") (v := .int (q : Int) tk)
  have mr13 : (upd m10 (Str.ofString "spot") (Value.int (q : Int) tk)) (Str.ofString "rows") = some (.ref l) := mne mr10
  generalize hm13 : (upd m10 (Str.ofString "spot") (Value.int (q : Int) tk)) = m13 at X13 M13 mr13
  have ms13 : m13 (Str.ofString "spot") = some (.int (q : Int) tk) := by rw [← hm13]; rfl
  -- rows = rows[spot:] + rows[:spot]
  refine nα _ <| x_cons (fun Qα nα rα cα => wpAny_Assign_Name (wpAny_BinOp (e_lsl (e_loc X13 mr13 (evalPart_some_step (e_loc X13 ms13 (evalPart_none_step (evalPart_none_step ⟨l, rvs, some (q : Int), none, none, _, _, _, _, _, _, _, rfl, X13, hlh X13 k12, .int _ _, .none, .none, by simp, by lia, fun la T14 s14 X14 k14 hla => ?_⟩))))))))
  refine e_lsl (e_loc X14 mr13 (evalPart_none_step (evalPart_some_step (e_loc X14 ms13 (evalPart_none_step ⟨l, rvs, none, some (q : Int), none, _, _, _, _, _, _, _, rfl, X14, hlh X14 (k12.trans k14), .none, .int _ _, .none, by simp, by lia, fun lb T15 s15 X15 k15 hlb => ?_⟩)))))
  rw [slicePick_from', show rvs.toArray.toList = rvs from rfl] at hla
  rw [slicePick_upto', show rvs.toArray.toList = rvs from rfl] at hlb
  have hla15 : s15.heap.IsList la (rvs.drop q).toArray := let ⟨o, a, b⟩ := hla.isList; ⟨o, X15.st.kT _ _ (k15 _ _ a), b⟩
  have hlb15 : s15.heap.IsList lb (rvs.take q).toArray := let ⟨o, a, b⟩ := hlb.isList; ⟨o, X15.st.kT _ _ a, b⟩
  refine add_own X15 hla15 hlb15 (by simp; lia) fun rl s16 X16 => s_loc X16 fun s17 X17 => ?_
  obtain ⟨T18, k18, hrl18, X18⟩ := X17.freezeL
  have kk := ((k12.trans k14).trans k15).trans k18
  refine nα _ <| h T18 _ s17 kv12 rl _ (((rowsOf σ pat).drop q) ++ (rowsOf σ pat).take q) X18 (k0x.trans kk) M13.set rfl hrl18.isList ?_ ?_
  · have := hrows.mono fun _ _ h => h.ev kk
    exact (this.drop q).append (this.take q)
  · have := List.perm_append_comm (l₁ := (rowsOf σ pat).drop q) (l₂ := (rowsOf σ pat).take q)
    rw [List.take_append_drop] at this
    exact this
end Mine
end

section
open PySem PySem.W PySem.Calls PyProof.Rows
set_option maxRecDepth 100000
namespace Mine

noncomputable def hTm (l : List Tm) : Tm := Tm.mk (Str.ofString "h") l
/-- what the terms must be like -/
noncomputable def FitAll (rows : List (Tm × Tm)) : Prop := ∃ (V : List Tm) (N : List Str), Fit (hTm (rows.map (·.1))) (hTm (rows.map (·.2))) V ∧ N.length ≤ 7 ∧ (∀ x, isQ x = true → Tm.leaf x ∈ V → x ∈ N) ∧ (∀ t ∈ V, t.size ≤ 4) ∧ ∀ t ∈ V, t.vars.length ≤ 2
noncomputable def Solv (rows : List (Tm × Tm)) : Prop := ∃ θ, inst θ (hTm (rows.map (·.1))) = inst θ (hTm (rows.map (·.2)))

theorem beqI {a b : Bool} (h : a = true ↔ b = true) : (a == b) = true := by cases a <;> cases b <;> simp_all
theorem pairs_fst {T T' : Heap} (k : Ev T T') {rows : List (Tm × Tm)} {zs : List Value} (h : All2 (fun v (p : Tm × Tm) => TmIn T p.1 v) zs rows) : All2 (fun v t => TmIn T' t v) zs (rows.map (·.1)) := by
  induction h with
  | nil => exact .nil
  | cons h _ ih => exact .cons (h.ev k) ih
theorem pairs_snd {T T' : Heap} (k : Ev T T') {zs : List Value} {rows : List (Tm × Tm)} (h : All2 (fun v (p : Tm × Tm) => TmIn T p.2 v) zs rows) : All2 (fun v t => TmIn T' t v) zs (rows.map (·.2)) := by
  induction h with
  | nil => exact .nil
  | cons h _ ih => exact .cons (h.ev k) ih

set_option maxHeartbeats 1600000
theorem segF {w : World} {A : Around} {E : Value → Shared → Prop} {S T₀ T : Heap} {s₀ s : Shared} {L f ln tb nl rl : Addr} {cd : Value} {m : Str → Option Value} {R : Flow → Shared → Prop} {rvs : List Value} {kvs tkvs : List (Str × Value)} {σ : Tab} {ρ : Str → Nat} {pat : Tm} {pv : Value} {n : Nat} {rows : List (Tm × Tm)}
    (G : Gnd w T) (X : Fx S T₀ s₀ T L m [(ln, DctO w kvs), (L + 1, CellO (some (.ref tb)))] s) (r : Room A 50) (M : MF m ln nl pv) (mr : m (Str.ofString "rows") = some (.ref rl))
    (hrl : T.IsList rl rvs.toArray) (hrv : All2 (PairV T) rvs rows) (hr6 : rows.length ≤ 6) (D : Dct w T tb tkvs) (hσ : TabIn T tkvs σ) (ht : TmIn T pat pv) (hT : TabOk σ ρ) (hP : TermOk pat)
    (hst : Stuck σ (followT σ n pat)) (hok : ∀ u, (u = pat ∨ ∃ p ∈ σ, u = p.2) → u.isVar = false → lookT σ u.op = none)
    (hF : FitAll rows) (hS : Solv rows ↔ ¬ (Lv σ pat (Str.ofString "?z") ∧ followT σ n pat ≠ .leaf (Str.ofString "?z")))
    (h : ∀ T' m' own' s', Fx S T₀ s₀ T' L m' own' s' → R (.ret (.bool true)) s') :
    wpAny (model PR w) A (execs ((dBody (dStmt 24)).drop 10) (lawEnv L f cd)) R E s := by
  conv in List.drop 10 _ => whnf
  have hg : GoodS (Str.ofString "h") := ⟨by decide, by decide +kernel⟩
  have hlen : rvs.length = rows.length := hrv.length
  have hlh : ∀ {s' : Shared} {T' : Heap} {m' : Str → Option Value} {own' : Own}, Fx S T₀ s₀ T' L m' own' s' → Ev T T' → T'.IsList rl rvs.toArray := fun X k => let ⟨o, a, b⟩ := hrl; ⟨o, k _ _ a, b⟩
  refine x_cons (fun Qα nα rα cα => wpAny_Assign_Name (e_call X G rfl (by decide) (args_cons (wpAny_BinOp (e_tuple (args_cons (e_str fun t1 s1 u1 => args_nil ⟨_, _, _, _, _, _, _, X.up u1, by simp, fun ha T2 s2 X2 k2 hha => ?_⟩)))))))
  refine Call_ (e_boot X2 (G.keeps k2) (v := .type "tuple") rfl (callWith_type1 (args_cons (comp_list (e_loc X2 mr (iter_list X2 (hlh X2 k2) fun I s3 X3 => ?_))))))
  refine CompGo.mk (fun i T ys => All2 (fun v (p : Tm × Tm) => TmIn T p.1 v) ys (rows.take i)) rfl (Iter.list (hlh X2 k2)) (Ev.refl _) X3 (by lia) r.hh .nil (fun _ _ _ _ k h => h.mono fun _ _ h => h.ev k) ?_ ?_
  · rintro C j T4 mC own' s4 v ys E'' hj k4 X4 hmo hpv hys hyl Qy Qn hyy hnn
    obtain ⟨p, hp, qa, x, y, rfl, hq, hx, hy⟩ := (hrv.mono fun _ _ h => (h.ev k2).ev k4).get hpv
    refine wpAny_assign_Name (s_loc X4 fun s5 X5 => wpAny_pure ?_)
    rw [if_pos rfl]
    refine e_item (e_loc X5 rfl ⟨_, _, 0, x, rfl, hq.keeps X5.st.kT, rfl, rfl, fun s6 u6 => hyy _ _ ⟨T4, _, Ev.refl _, X5.up u6, ?_⟩⟩)
    rw [List.take_add_one, hp]
    exact hys.append (.cons hx .nil)
  rintro Dl ys T4 s4 k4 X4 hys hyl
  rw [hlen, List.take_length] at hys
  have hyl' := hys.length
  refine args_nil (c_tuple X4 (lst_of (i := 0) X4 rfl) (by lia) fun ta T5 s5 X5 k5 hta => add_tup X5 ((hha.keeps k4).keeps k5) hta (by simp; lia) fun oa T6 s6 X6 k6 hoa => ?_)
  have X6' : Fx S T₀ s₀ T6 L m [(ln, DctO w kvs), (L + 1, CellO (some (.ref tb)))] s6 := X6.drop
  have k26 := (k4.trans k5).trans k6
  have k06 := k2.trans k26
  have hone : TmIn T6 (hTm (rows.map (·.1))) (.ref oa) := by
    have hoa' : IsTup T6 oa (.str (hTm (rows.map (·.1))).op t1 :: ys).toArray := by
      rw [show (hTm (rows.map (·.1))).op = Str.ofString "h" from Tm.mk_op _ _]; exact hoa
    refine TmIn.of (by rw [show (hTm (rows.map (·.1))).op = Str.ofString "h" from Tm.mk_op _ _]; exact hg) hoa' ?_ (by lia)
    rw [show (hTm (rows.map (·.1))).kids = rows.map (·.1) from Tm.mk_kids _]
    exact pairs_fst (k5.trans k6) hys
  -- the other
  refine args_cons (wpAny_BinOp (e_tuple (args_cons (e_str fun t7 s7 u7 => args_nil ⟨_, _, _, _, _, _, _, X6'.up u7, by simp, fun hb T8 s8 X8 k8 hhb => ?_⟩))))
  have k08 := k06.trans k8
  refine Call_ (e_boot X8 (G.keeps k08) (v := .type "tuple") rfl (callWith_type1 (args_cons (comp_list (e_loc X8 mr (iter_list X8 (hlh X8 k08) fun I s9 X9 => ?_))))))
  refine CompGo.mk (fun i T ys => All2 (fun v (p : Tm × Tm) => TmIn T p.2 v) ys (rows.take i)) rfl (Iter.list (hlh X8 k08)) (Ev.refl _) X9 (by lia) r.hh .nil (fun _ _ _ _ k h => h.mono fun _ _ h => h.ev k) ?_ ?_
  · rintro C j T10 mC own' s10 v ys E'' hj k10 X10 hmo hpv hys hyl Qy Qn hyy hnn
    obtain ⟨p, hp, qa, x, y, rfl, hq, hx, hy⟩ := (hrv.mono fun _ _ h => (h.ev k08).ev k10).get hpv
    refine wpAny_assign_Name (s_loc X10 fun s11 X11 => wpAny_pure ?_)
    rw [if_pos rfl]
    refine e_item (e_loc X11 rfl ⟨_, _, 1, y, rfl, hq.keeps X11.st.kT, rfl, rfl, fun s12 u12 => hyy _ _ ⟨T10, _, Ev.refl _, X11.up u12, ?_⟩⟩)
    rw [List.take_add_one, hp]
    exact hys.append (.cons hy .nil)
  rintro Dl2 zs T10 s10 k10 X10 hzs hzl
  rw [hlen, List.take_length] at hzs
  have hzl' := hzs.length
  refine args_nil (c_tuple X10 (lst_of (i := 0) X10 rfl) (by lia) fun tc T11 s11 X11 k11 htc => add_tup X11 ((hhb.keeps k10).keeps k11) htc (by simp; lia) fun ob T12 s12 X12 k12 hob => args_nil ?_)
  have X12' : Fx S T₀ s₀ T12 L m [(ln, DctO w kvs), (L + 1, CellO (some (.ref tb)))] s12 := X12.drop
  have k612 := ((k8.trans k10).trans k11).trans k12
  have hother : TmIn T12 (hTm (rows.map (·.2))) (.ref ob) := by
    have hob' : IsTup T12 ob (.str (hTm (rows.map (·.2))).op t7 :: zs).toArray := by
      rw [show (hTm (rows.map (·.2))).op = Str.ofString "h" from Tm.mk_op _ _]; exact hob
    refine TmIn.of (by rw [show (hTm (rows.map (·.2))).op = Str.ofString "h" from Tm.mk_op _ _]; exact hg) hob' ?_ (by lia)
    rw [show (hTm (rows.map (·.2))).kids = rows.map (·.2) from Tm.mk_kids _]
    exact pairs_snd (k11.trans k12) hzs
  have k012 := k06.trans k612
  have G12 := G.keeps k012
  obtain ⟨V, N, hFit, hN, hVN, hs4, hv2⟩ := hF
  refine ⟨k012.trans X12'.st.kT, use_spec X12' (unified_spec hFit hN hVN hs4 hv2 G12 X12'.st.kT (hone.ev k612) hother) (r.mono (by lia)) fun told s13 T13 X13 k13 hpost => s_loc X13 fun s14 X14 => ?_⟩
  have M14 := M.set (x := Str.ofString "told") (v := told)
  generalize hm14 : (upd m (Str.ofString "told") told) = m14 at X14 M14
  have mt14 : m14 (Str.ofString "told") = some told := by rw [← hm14]; rfl
  have hnone : (told == .none) = true ↔ ¬ Solv rows := by
    rcases hpost with ⟨rfl, hno⟩ | ⟨⟨a, rfl⟩, hyes⟩
    · exact ⟨fun _ ⟨θ, e⟩ => hno θ e, fun _ => rfl⟩
    · exact ⟨fun e => (by cases e), fun e => absurd hyes e⟩
  have k013 := k012.trans k13
  have G13 := G.keeps k013
  have X14' : Fx S T₀ s₀ T13 L m14 [(ln, DctO w kvs), (L + 1, CellO (some (.ref tb)))] s14 := X14
  have D13 : Dct w T13 tb tkvs := D.keeps k013
  have hdep := hP.dep
  refine nα _ <| wpAny_execs_cons (wpAny_Return_some (wpAny_Compare1 (wpAny_Compare1 (e_loc X14' mt14 (wpAny_Constant_none (is_none_gen ?_))))))
  refine BoolOp_and (wpAny_Compare1 (e_str fun t15 s15 u15 => ?_))
  have X15 := X14'.up u15
  refine e_call X15 G13 rfl (by decide) (args_cons (e_loc X15 M14.pat (args_cons (e_cell (i := 1) X15 rfl (args_nil ?_)))))
  refine ⟨X15.st.kT, use_spec X15 (leaves_spec hT.rank hT.isq hT.dep hT.lf 5 (by decide) pat hP.lf (fun x _ hx => hT.bnd x hx) G13 X15.st.kT (ht.ev k013) (hσ.ev k013) (D13.keeps X15.st.kT)) (r.mono (by lia)) fun pr s16 T16 X16 k16 hpost => ?_⟩
  obtain ⟨lf, xs, ss, rfl, hlf, hss, hmem, hlfl⟩ := hpost
  have X16' : Fx S T₀ s₀ T16 L m14 [(ln, DctO w kvs), (L + 1, CellO (some (.ref tb)))] s16 := X16
  have hlf16 : s16.heap.IsList lf xs.toArray := let ⟨o, a, b⟩ := hlf.isList; ⟨o, X16.st.kT _ _ a, b⟩
  refine in_list_strs hlf16 hss (wpAny_truthy_bool ?_)
  have hin : (ss.any (· == Str.ofString "?z")) = true ↔ Lv σ pat (Str.ofString "?z") := by rw [strs_any, hmem]
  by_cases hz : (ss.any (· == Str.ofString "?z")) = true
  · rw [if_pos hz]
    have k016 := k013.trans k16
    have G16 := G.keeps k016
    refine BoolOp_one (wpAny_UnaryOp (e_call X16' G16 rfl (by decide) (args_cons (e_loc X16' M14.pat (args_cons (e_cell (i := 1) X16' rfl (args_nil ?_)))))))
    refine ⟨X16'.st.kT, use_spec X16' (is_bare_spec n G16 X16'.st.kT (ht.ev k016) ((D13.keeps k16).keeps X16'.st.kT) (hσ.ev k016) hst hok (fun u hu => ?_)) (r.mono (by lia)) fun pr s17 T17 X17 k17 hpost => ?_⟩
    · rcases hu with rfl | ⟨p, hp, rfl⟩
      · lia
      · have := hT.dep p hp; lia
    subst hpost
    refine PyProof.Rows.not_of (wpAny_truthy_bool (eq_bool ?_))
    have e : ((told == Value.none) == !decide (followT σ n pat = .leaf (Str.ofString "?z"))) = true := by
      rw [hin] at hz
      have : (told == .none) = true ↔ (followT σ n pat ≠ .leaf (Str.ofString "?z")) := by
        rw [hnone, hS, Classical.not_not]; exact ⟨fun h => h.2, fun h => ⟨hz, h⟩⟩
      exact beqI (this.trans (by simp))
    rw [e]
    exact h _ _ _ _ X17
  · rw [if_neg hz]
    refine eq_bool ?_
    have e : ((told == Value.none) == ss.any (· == Str.ofString "?z")) = true := by
      have h1 : ¬ Lv σ pat (Str.ofString "?z") := fun h => hz (hin.mpr h)
      have : ¬ (told == .none) = true := by
        rw [hnone, hS, Classical.not_not]; exact fun h => h1 h.1
      exact beqI ⟨fun h => absurd h this, fun h => absurd h hz⟩
    rw [e]
    exact h _ _ _ _ X16
end Mine
end

section
open PySem PySem.W PySem.Calls PyProof.Rows
set_option maxRecDepth 100000
namespace Mine

/-! the variables of the terms -/
theorem vars_leaf (x : Str) : (Tm.leaf x).vars = if isQ x = true then [x] else [] := by
  rw [vars_eq]
  cases h : isQ x <;> simp [Tm.isVar, Tm.kids, Tm.op, h]
theorem vars_un (s : Str) (a : Tm) : (Tm.un s a).vars = a.vars := by
  rw [vars_eq]; simp [Tm.isVar, Tm.kids]
theorem vars_bin (s : Str) (a b : Tm) : (Tm.bin s a b).vars = a.vars ++ b.vars := by
  rw [vars_eq]; simp [Tm.isVar, Tm.kids]
theorem leaf_vars_mem {x y : Str} (h : y ∈ (Tm.leaf x).vars) : y = x := by
  rw [vars_leaf] at h
  split at h
  · simpa using h
  · cases h
theorem leaf_vars_len (x : Str) : (Tm.leaf x).vars.length ≤ 1 := by
  rw [vars_leaf]; split <;> simp

theorem drawn_vars {nms : List Str} {t : Tm} (h : Drawn nms t) : ∀ y ∈ t.vars, y ∈ base ++ nms := by
  intro y hy
  rcases h with ⟨x, hx, rfl⟩ | ⟨x, hx, rfl⟩ | ⟨x, hx, z, hz, rfl⟩
  · rw [leaf_vars_mem hy]; exact hx
  · rw [vars_un] at hy; rw [leaf_vars_mem hy]; exact hx
  · rw [vars_bin] at hy
    rcases List.mem_append.mp hy with hy | hy
    · rw [leaf_vars_mem hy]; exact hx
    · rw [leaf_vars_mem hy]; exact hz
theorem notQ_f : isQ (Str.ofString "f") = false := by decide +kernel
theorem notQ_g : isQ (Str.ofString "g") = false := by decide +kernel
theorem notQ_h : isQ (Str.ofString "h") = false := by decide +kernel
theorem notQ_a : isQ (Str.ofString "a") = false := by decide +kernel
theorem isQ_z : isQ (Str.ofString "?z") = true := by decide +kernel
theorem names_isQ : ∀ x ∈ lawNames, isQ x = true := by decide +kernel
theorem probes_isQ : ∀ x ∈ probes, isQ x = true := by decide +kernel
theorem probes_not : ∀ x ∈ probes, x ∉ lawNames := by decide +kernel
theorem base_not : ∀ x ∈ base, x ∉ lawNames := by decide +kernel

/-- what all the terms are -/
structure Smal (t : Tm) : Prop where
  dep : t.depth ≤ 3
  siz : t.size ≤ 4
  vars : t.vars.length ≤ 2
  lf : leafN t ≤ 2
  klen : t.kids.length ≤ 2
  notQ : t.isVar = false → isQ t.op = false
theorem drawn_small {nms : List Str} {t : Tm} (h : Drawn nms t) : Smal t ∧ t.depth ≤ 2 ∧ t.size ≤ 3 := by
  rcases h with ⟨x, hx, rfl⟩ | ⟨x, hx, rfl⟩ | ⟨x, hx, z, hz, rfl⟩
  · refine ⟨⟨by simp [Tm.depth], by simp [Tm.size], ?_, by simp [leafN, leafS], by simp [Tm.kids], ?_⟩, by simp [Tm.depth], by simp [Tm.size]⟩
    · have := leaf_vars_len x; lia
    · intro h
      simpa [Tm.isVar, Tm.kids, Tm.op] using h
  · refine ⟨⟨by simp [Tm.depth], by simp [Tm.size], ?_, by simp [leafN, leafS], by simp [Tm.kids], fun _ => notQ_f⟩, by simp [Tm.depth], by simp [Tm.size]⟩
    rw [vars_un]; have := leaf_vars_len x; lia
  · refine ⟨⟨by simp [Tm.depth], by simp [Tm.size], ?_, by simp [leafN, leafS], by simp [Tm.kids], fun _ => notQ_g⟩, by simp [Tm.depth], by simp [Tm.size]⟩
    rw [vars_bin, List.length_append]; have := leaf_vars_len x; have := leaf_vars_len z; lia
theorem pat_small {nms : List Str} {t : Tm} (h : IsPat nms t) : Smal t := by
  rcases h with h | ⟨u, hu, rfl⟩
  · exact (drawn_small h).1
  · obtain ⟨⟨a, b, c, d, e, f⟩, i, j⟩ := drawn_small hu
    exact ⟨by simp only [Tm.depth]; lia, by simp only [Tm.size]; lia, by rw [vars_un]; exact c, by have d' : max 1 (leafS u) ≤ 2 := d; show max 1 (0 + max 1 (leafS u)) ≤ 2; lia, by simp [Tm.kids], fun _ => notQ_f⟩
theorem pat_kid {nms : List Str} {t k : Tm} (h : IsPat nms t) (hk : k ∈ t.kids) : IsPat nms k := by
  have dk : ∀ {t k : Tm}, Drawn nms t → k ∈ t.kids → Drawn nms k := by
    intro t k h hk
    rcases h with ⟨x, hx, rfl⟩ | ⟨x, hx, rfl⟩ | ⟨x, hx, z, hz, rfl⟩
    · cases hk
    · simp [Tm.kids] at hk; subst hk; exact .inl ⟨x, hx, rfl⟩
    · simp [Tm.kids] at hk
      rcases hk with rfl | rfl
      · exact .inl ⟨x, hx, rfl⟩
      · exact .inl ⟨z, hz, rfl⟩
  rcases h with h | ⟨u, hu, rfl⟩
  · exact .inl (dk h hk)
  · simp [Tm.kids] at hk; subst hk; exact .inl hu
theorem pat_leaf {nms : List Str} {x : Str} (h : IsPat nms (.leaf x)) : x ∈ base ++ nms := by
  rcases h with (⟨y, hy, e⟩ | ⟨y, hy, e⟩ | ⟨y, hy, z, hz, e⟩) | ⟨u, hu, e⟩
  · cases e; exact hy
  · cases e
  · cases e
  · cases e
theorem depth_pos (t : Tm) : 1 ≤ t.depth := t.depth_pos
theorem kids_none {t : Tm} (h : t.depth ≤ 1) : t.kids = [] := by
  cases e : t.kids with
  | nil => rfl
  | cons k l =>
    have := Tm.depth_kid (t := t) (k := k) (by rw [e]; simp)
    have := depth_pos k
    lia

/-! Reach and the leaves -/
theorem reach_iff {σ : Tab} (hq : ∀ p ∈ σ, isQ p.1 = true) {t : Tm} {x : Str} (hx : isQ x = true) (hl : lookT σ x = none) : Reach σ t x ↔ Lv σ t x := by
  constructor
  · intro h
    induction h with
    | @here t x hv =>
      induction t using Tm.ind with
      | h t ih =>
      cases hvt : t.isVar with
      | true =>
        rw [vars_var hvt] at hv
        have e := List.mem_singleton.mp hv
        obtain ⟨e1, _⟩ := isVar_iff.mp hvt
        have hk : t.kids = [] := by rw [e1]; rfl
        rw [Lv.of_free hk (by rw [← e]; exact hl)]; exact e
      | false =>
        rw [vars_eq, hvt] at hv
        obtain ⟨k, hk, hxk⟩ := List.mem_flatMap.mp (by simpa using hv)
        exact .kid hk (ih k hk hxk)
    | @step t u x y hy hlu _ ih =>
      have ih := ih hx hl
      induction t using Tm.ind with
      | h t iht =>
      cases hvt : t.isVar with
      | true =>
        rw [vars_var hvt] at hy
        have e := List.mem_singleton.mp hy
        obtain ⟨e1, _⟩ := isVar_iff.mp hvt
        have hk : t.kids = [] := by rw [e1]; rfl
        exact .bound hk (by rw [← e]; exact hlu) ih
      | false =>
        rw [vars_eq, hvt] at hy
        obtain ⟨k, hk, hxk⟩ := List.mem_flatMap.mp (by simpa using hy)
        exact .kid hk (iht k hk hxk)
  · intro h
    induction h with
    | @bound t u x hk hlu _ ih =>
      have hv : t.isVar = true := by unfold Tm.isVar; rw [hk, hq _ (lookT_mem hlu)]; rfl
      exact .step (by rw [vars_var hv]; simp) hlu (ih hx hl)
    | @free t hk hlu =>
      have hv : t.isVar = true := by unfold Tm.isVar; rw [hk, hx]; rfl
      exact .here (by rw [vars_var hv]; simp)
    | @kid t k x hk _ ih =>
      have := ih hx hl
      cases this with
      | here h => exact .here (vars_kid hk h)
      | step h1 h2 h3 => exact .step (vars_kid hk h1) h2 h3
end Mine
end

section
open PySem PySem.W PySem.Calls PyProof.Rows
set_option maxRecDepth 100000
set_option linter.unusedSectionVars false
namespace Mine

noncomputable def rk (x : Str) : Nat := if x ∈ lawNames then lawNames.idxOf x + 1 else 0
theorem Built.full {p : Nat} {σ : Tab} (h : Built (lawNames.take p) p σ) : σ.map (·.1) = lawNames.take p := by rw [h.keys, List.take_take, Nat.min_self]
theorem Built.len {p : Nat} {σ : Tab} (h : Built (lawNames.take p) p σ) (hp : p ≤ 5) : σ.length = p := by
  have := congrArg List.length h.full
  simp [lawNames] at this; lia
theorem Built.at {p : Nat} {σ : Tab} (h : Built (lawNames.take p) p σ) (hp : p ≤ 5) {q : Str × Tm} (hq : q ∈ σ) : ∃ k, k < p ∧ lawNames[k]? = some q.1 ∧ Drawn (lawNames.take k) q.2 := by
  obtain ⟨k, hk, e⟩ := List.getElem_of_mem hq
  have hkp : k < p := by rw [h.len hp] at hk; exact hk
  have h1 : σ[k]? = some q := by rw [List.getElem?_eq_getElem hk, e]
  refine ⟨k, hkp, ?_, ?_⟩
  · have : (σ.map (·.1))[k]? = some q.1 := by rw [List.getElem?_map, h1]; rfl
    rw [h.full, List.getElem?_take] at this
    rw [if_pos hkp] at this; exact this
  · have := h.drawn k q.1 q.2 h1
    rw [List.take_take, Nat.min_eq_left (by lia)] at this
    exact this
theorem idx_at {k : Nat} {x : Str} (h : lawNames[k]? = some x) : lawNames.idxOf x = k := by
  obtain ⟨hk, e⟩ := List.getElem?_eq_some_iff.mp h
  rw [← e]
  exact lawNames_nodup.idxOf_getElem k hk
theorem rk_at {k : Nat} {x : Str} (h : lawNames[k]? = some x) : rk x = k + 1 := by
  unfold rk
  rw [if_pos (List.mem_of_getElem? h), idx_at h]
theorem rk_lt {k : Nat} {y : Str} (h : y ∈ base ++ lawNames.take k) : rk y < k + 1 := by
  rcases List.mem_append.mp h with h | h
  · unfold rk; rw [if_neg (base_not y h)]; lia
  · obtain ⟨j, hj, e⟩ := List.getElem_of_mem h
    have hj' : j < k := by simp at hj; lia
    rw [List.getElem_take] at e
    have := rk_at (k := j) (x := y) (by rw [← e]; exact List.getElem?_eq_getElem _)
    lia
section
variable {p : Nat} {σ : Tab} (h : Built (lawNames.take p) p σ) (hp : p ≤ 5)
include h hp
theorem Built.ranked : Ranked σ rk := by
  intro q hq y hy
  obtain ⟨k, hk, e, hd⟩ := h.at hp hq
  rw [rk_at e]
  exact rk_lt (drawn_vars hd y hy)
theorem Built.small {q : Str × Tm} (hq : q ∈ σ) : Smal q.2 := let ⟨_, _, _, hd⟩ := h.at hp hq; (drawn_small hd).1
theorem Built.key {x : Str} (hx : (lookT σ x).isSome = true) : x ∈ lawNames := by
  have := lookT_some.mp hx
  rw [h.full] at this
  exact List.mem_of_mem_take this
theorem Built.isq : ∀ q ∈ σ, isQ q.1 = true := fun q hq => by
  obtain ⟨k, hk, e, hd⟩ := h.at hp hq
  exact names_isQ _ (List.mem_of_getElem? e)
theorem Built.tabOk : TabOk σ (lawNames.idxOf ·) where
  rank := fun q hq y hy hs => by
    have h1 := h.ranked hp q hq y hy
    obtain ⟨k, hk, e, hd⟩ := h.at hp hq
    have hy' := h.key hp hs
    rw [rk_at e] at h1
    unfold rk at h1
    rw [if_pos hy'] at h1
    rw [idx_at e]; lia
  isq := h.isq hp
  dep := fun q hq => by have := (h.small hp hq).dep; lia
  lf := fun q hq => (h.small hp hq).lf
  siz := fun q hq => by have := (h.small hp hq).siz; lia
  len := by rw [h.len hp]; exact hp
  bnd := fun x hx => by
    have := h.key hp hx
    have := List.idxOf_lt_length_of_mem this
    simpa [lawNames] using this
theorem Built.none_of {x : Str} (hx : x ∉ lawNames) : lookT σ x = none := by
  cases e : lookT σ x with
  | none => rfl
  | some u => exact absurd (h.key hp (x := x) (by rw [e]; rfl)) hx
theorem Built.nodup : (σ.map (·.1)).Nodup := by rw [h.full]; exact lawNames_nodup.sublist (List.take_sublist _ _)
theorem Built.rl (t : Tm) : ∀ x ∈ probes, (Reach σ t x ↔ Lv σ t x) := fun x hx => reach_iff (h.isq hp) (probes_isQ x hx) (h.none_of hp (probes_not x hx))
theorem Built.stuck (t : Tm) : Stuck σ (followT σ 6 t) := follow_fuel (h.ranked hp) 6 t fun _ => by
  unfold rk
  split
  · rename_i hm
    have := List.idxOf_lt_length_of_mem hm
    simp [lawNames] at this ⊢; lia
  · lia
theorem Built.hok {pat : Tm} (hpat : IsPat (lawNames.take p) pat) : ∀ u, (u = pat ∨ ∃ q ∈ σ, u = q.2) → u.isVar = false → lookT σ u.op = none := by
  intro u hu hv
  have hs : Smal u := by
    rcases hu with rfl | ⟨q, hq, rfl⟩
    · exact pat_small hpat
    · exact h.small hp hq
  have := hs.notQ hv
  cases e : lookT σ u.op with
  | none => rfl
  | some u' =>
    have := h.isq hp _ (lookT_mem e)
    simp_all
end

/-! the two sides -/
theorem hTm_var (l : List Tm) : (hTm l).isVar = false := by
  cases e : (hTm l).isVar with
  | false => rfl
  | true =>
    have := (isVar_iff.mp e).2
    rw [show (hTm l).op = Str.ofString "h" from Tm.mk_op _ _, notQ_h] at this
    cases this
theorem solv_iff {rows : List (Tm × Tm)} (hr : rows.length ≤ 6) : Solv rows ↔ ∃ θ, ∀ q ∈ rows, inst θ q.1 = inst θ q.2 := by
  have hk1 : (hTm (rows.map (·.1))).kids = rows.map (·.1) := Tm.mk_kids _
  have hk2 : (hTm (rows.map (·.2))).kids = rows.map (·.2) := Tm.mk_kids _
  constructor
  · rintro ⟨θ, e⟩
    refine ⟨θ, ?_⟩
    have := congrArg Tm.kids e
    rw [inst_kids (hTm_var _), inst_kids (hTm_var _), hk1, hk2, List.map_map, List.map_map] at this
    exact fun q hq => List.map_inj_left.mp this q hq
  · rintro ⟨θ, e⟩
    refine ⟨θ, inst_eq_of (hTm_var _) (hTm_var _) (by rw [show ∀ l, (hTm l).op = Str.ofString "h" from fun l => Tm.mk_op _ _, show ∀ l, (hTm l).op = Str.ofString "h" from fun l => Tm.mk_op _ _]) ?_⟩
    rw [hk1, hk2, List.map_map, List.map_map]
    exact List.map_congr_left e

theorem solv_law {p : Nat} {σ : Tab} (h : Built (lawNames.take p) p σ) (hp : p ≤ 5) {pat : Tm} {rows : List (Tm × Tm)} (hr : rows.Perm (rowsOf σ pat)) :
    Solv rows ↔ ¬ (Lv σ pat (Str.ofString "?z") ∧ followT σ 6 pat ≠ .leaf (Str.ofString "?z")) := by
  have hz : Str.ofString "?z" ∉ lawNames := probes_not _ (by simp [probes])
  have hzl := h.none_of hp hz
  have hlen : rows.length ≤ 6 := by rw [hr.length_eq, rowsOf]; simp; rw [h.len hp]; lia
  have hzv : (Tm.leaf (Str.ofString "?z")).isVar = true := by unfold Tm.isVar; rw [show (Tm.leaf (Str.ofString "?z")).op = Str.ofString "?z" from rfl, isQ_z]; rfl
  have hzi : ∀ θ, inst θ (.leaf (Str.ofString "?z")) = θ (Str.ofString "?z") := fun θ => inst_var hzv
  have rd : (∃ θ, ∀ q ∈ rows, inst θ q.1 = inst θ q.2) ↔ ∃ θ, Sol σ θ ∧ θ (Str.ofString "?z") = inst θ pat := by
    refine exists_congr fun θ => ?_
    have e : (∀ q ∈ rows, inst θ q.1 = inst θ q.2) ↔ ∀ q ∈ rowsOf σ pat, inst θ q.1 = inst θ q.2 := ⟨fun a q hq => a q (hr.mem_iff.mpr hq), fun a q hq => a q (hr.mem_iff.mp hq)⟩
    rw [e]
    constructor
    · intro a
      refine ⟨fun q hq => ?_, ?_⟩
      · have := a (rowT q) (List.mem_append_left _ (List.mem_map_of_mem hq))
        have e2 : inst θ (.leaf q.1) = θ q.1 := by rw [inst_leaf, if_pos (h.isq hp q hq)]
        rw [← e2]; exact this
      · exact (hzi θ).symm.trans (a (.leaf (Str.ofString "?z"), pat) (List.mem_append_right _ (by simp)))
    · rintro ⟨a, b⟩ q hq
      rcases List.mem_append.mp hq with hq | hq
      · obtain ⟨q', hq', rfl⟩ := List.mem_map.mp hq
        have e2 : inst θ (.leaf q'.1) = θ q'.1 := by rw [inst_leaf, if_pos (h.isq hp q' hq')]
        show inst θ (.leaf q'.1) = inst θ q'.2
        rw [e2]; exact a q' hq'
      · rw [List.mem_singleton.mp hq]
        show inst θ (.leaf _) = _
        rw [hzi]; exact b
  rw [solv_iff hlen, rd]
  have hac : Acyc σ := ⟨rk, h.ranked hp⟩
  constructor
  · rintro ⟨θ, hs, hz⟩ ⟨hlv, hnb⟩
    have hre : Reach σ pat (Str.ofString "?z") := (h.rl hp pat _ (by simp [probes])).mpr hlv
    -- the followed pattern reaches it too
    have key : ∀ (n : Nat) (t : Tm), Reach σ t (Str.ofString "?z") → Reach σ (followT σ n t) (Str.ofString "?z") := by
      intro n
      induction n with
      | zero => exact fun _ h => h
      | succ n ih =>
        intro t ht
        unfold followT
        cases hv : t.isVar with
        | false => exact ht
        | true =>
          rw [if_pos rfl]
          cases hl : lookT σ t.op with
          | none => exact ht
          | some u =>
            refine ih u ?_
            cases ht with
            | here hx =>
              rw [vars_var hv] at hx
              rw [List.mem_singleton.mp hx, hl] at hzl; cases hzl
            | step hy hl2 hr2 =>
              rw [vars_var hv] at hy
              rw [List.mem_singleton.mp hy, hl] at hl2; cases hl2; exact hr2
    have hre6 := key 6 pat hre
    have hsz := size_reach hs hre6
    have hi := follow_inst hs 6 pat
    rw [hi, ← hz] at hsz
    have hst := h.stuck hp pat
    cases hv : (followT σ 6 pat).isVar with
    | false => have := hsz.2 hv; lia
    | true =>
      have hl := hst hv
      cases hre6 with
      | here hx =>
        rw [vars_var hv] at hx
        have e := List.mem_singleton.mp hx
        exact hnb (by rw [e]; exact (isVar_iff.mp hv).1)
      | step hy hl2 _ =>
        rw [vars_var hv] at hy
        rw [List.mem_singleton.mp hy, hl] at hl2; cases hl2
  · intro hn
    by_cases hlv : Lv σ pat (Str.ofString "?z")
    · have hb : followT σ 6 pat = .leaf (Str.ofString "?z") := Classical.byContradiction fun hb => hn ⟨hlv, hb⟩
      obtain ⟨θ, hs, _⟩ := sol_of_rank hac (h.nodup hp) fun x => .leaf x
      refine ⟨θ, hs, ?_⟩
      rw [← follow_inst hs 6 pat, hb, hzi]
    · have hnr : ¬ Reach σ pat (Str.ofString "?z") := fun hr => hlv ((h.rl hp pat _ (by simp [probes])).mp hr)
      have hac2 := hac.put (h.nodup hp) hnr
      obtain ⟨θ, hs, _⟩ := sol_of_rank hac2 (by
        rw [List.map_append, List.nodup_append]
        refine ⟨h.nodup hp, by simp, ?_⟩
        intro a ha b hb e
        rw [h.full] at ha
        have hb' : b = Str.ofString "?z" := by simpa using hb
        exact hz (by rw [← hb', ← e]; exact List.mem_of_mem_take ha)) fun x => .leaf x
      exact ⟨θ, fun q hq => hs q (List.mem_append_left _ hq), hs (Str.ofString "?z", pat) (List.mem_append_right _ (by simp))⟩

theorem sum_le_len {α : Type} (f : α → List Tm) (c : Nat) : ∀ l : List α, (∀ x ∈ l, (f x).length ≤ c) → (l.flatMap f).length ≤ l.length * c
  | [], _ => by simp
  | a :: l, h => by
    have h1 := h a (by simp)
    have h2 := sum_le_len f c l fun x hx => h x (by simp [hx])
    rw [List.flatMap_cons, List.length_append, List.length_cons, Nat.succ_mul]; lia

theorem fit_law {p : Nat} {σ : Tab} (h : Built (lawNames.take p) p σ) (hp : p ≤ 5) {pat : Tm} (hpat : IsPat (lawNames.take p) pat) {rows : List (Tm × Tm)} (hr : rows.Perm (rowsOf σ pat)) : FitAll rows := by
  have hlen : rows.length ≤ 6 := by rw [hr.length_eq, rowsOf]; simp; rw [h.len hp]; lia
  have hk1 : (hTm (rows.map (·.1))).kids = rows.map (·.1) := Tm.mk_kids _
  have hk2 : (hTm (rows.map (·.2))).kids = rows.map (·.2) := Tm.mk_kids _
  have hall : ∀ q ∈ rows, (∃ x, q.1 = .leaf x ∧ x ∈ base ++ lawNames) ∧ IsPat lawNames q.2 := by
    intro q hq
    rcases List.mem_append.mp (hr.mem_iff.mp hq) with hq | hq
    · obtain ⟨q', hq', rfl⟩ := List.mem_map.mp hq
      obtain ⟨k, hk, e, hd⟩ := h.at hp hq'
      exact ⟨⟨q'.1, rfl, List.mem_append_right _ (List.mem_of_getElem? e)⟩, .inl (hd.mono fun x hx => List.mem_of_mem_take hx)⟩
    · rw [List.mem_singleton.mp hq]
      refine ⟨⟨_, rfl, by simp [base]⟩, ?_⟩
      rcases hpat with hd | ⟨u, hd, e⟩
      · exact .inl (hd.mono fun x hx => List.mem_of_mem_take hx)
      · exact .inr ⟨u, hd.mono fun x hx => List.mem_of_mem_take hx, e⟩
  let f : Tm × Tm → List Tm := fun q => q.1 :: q.2 :: (q.2.kids ++ q.2.kids.flatMap Tm.kids)
  let V := rows.flatMap f
  have hV : ∀ t ∈ V, IsPat lawNames t := by
    intro t ht
    obtain ⟨q, hq, ht⟩ := List.mem_flatMap.mp ht
    obtain ⟨⟨x, e, hx⟩, h2⟩ := hall q hq
    rcases List.mem_cons.mp ht with rfl | ht
    · rw [e]; exact .inl (.inl ⟨x, hx, rfl⟩)
    rcases List.mem_cons.mp ht with rfl | ht
    · exact h2
    rcases List.mem_append.mp ht with ht | ht
    · exact pat_kid h2 ht
    · obtain ⟨k, hk, ht⟩ := List.mem_flatMap.mp ht
      exact pat_kid (pat_kid h2 hk) ht
  have hin : ∀ q ∈ rows, q.1 ∈ V ∧ q.2 ∈ V := fun q hq => ⟨List.mem_flatMap.mpr ⟨q, hq, by simp [f]⟩, List.mem_flatMap.mpr ⟨q, hq, by simp [f]⟩⟩
  refine ⟨V, [Str.ofString "?z", Str.ofString "?e"] ++ lawNames, ⟨hTm_var _, hTm_var _, ?_, ?_, ?_, ?_⟩, by simp [lawNames], ?_, fun t ht => (pat_small (hV t ht)).siz, fun t ht => (pat_small (hV t ht)).vars⟩
  · rintro t (rfl | rfl | ht) k hk
    · rw [hk1] at hk
      obtain ⟨q, hq, rfl⟩ := List.mem_map.mp hk
      exact (hin q hq).1
    · rw [hk2] at hk
      obtain ⟨q, hq, rfl⟩ := List.mem_map.mp hk
      exact (hin q hq).2
    · obtain ⟨q, hq, ht⟩ := List.mem_flatMap.mp ht
      obtain ⟨⟨x, e, hx⟩, h2⟩ := hall q hq
      have hd := (pat_small h2).dep
      rcases List.mem_cons.mp ht with rfl | ht
      · rw [e] at hk; cases hk
      rcases List.mem_cons.mp ht with rfl | ht
      · exact List.mem_flatMap.mpr ⟨q, hq, by simp [f, hk]⟩
      rcases List.mem_append.mp ht with ht | ht
      · refine List.mem_flatMap.mpr ⟨q, hq, ?_⟩
        exact List.mem_cons_of_mem _ (List.mem_cons_of_mem _ (List.mem_append_right _ (List.mem_flatMap.mpr ⟨t, ht, hk⟩)))
      · obtain ⟨k', hk', ht⟩ := List.mem_flatMap.mp ht
        have h3 := Tm.depth_kid hk'
        have h4 := Tm.depth_kid ht
        rw [kids_none (by lia)] at hk; cases hk
  · have hkd : ∀ (l : List Tm), l.length ≤ 6 → (∀ k ∈ l, k.depth ≤ 3) → (hTm l).depth ≤ 6 := by
      intro l _ hk
      exact Tm.more_depth l _ (by decide) fun k h => Nat.le_trans (Nat.succ_le_succ (hk k h)) (by decide)
    rintro t (rfl | rfl | ht)
    · refine hkd _ (by simpa using hlen) fun k hk => ?_
      obtain ⟨q, hq, rfl⟩ := List.mem_map.mp hk
      exact (pat_small (hV _ (hin q hq).1)).dep
    · refine hkd _ (by simpa using hlen) fun k hk => ?_
      obtain ⟨q, hq, rfl⟩ := List.mem_map.mp hk
      exact (pat_small (hV _ (hin q hq).2)).dep
    · have := (pat_small (hV t ht)).dep; lia
  · intro t ht
    have := (pat_small (hV t ht)).siz; lia
  · have := sum_le_len f 8 rows fun q hq => by
      obtain ⟨_, h2⟩ := hall q hq
      have h3 := (pat_small h2).klen
      have h4 := sum_le_len Tm.kids 2 q.2.kids fun k hk => (pat_small (pat_kid h2 hk)).klen
      simp only [f, List.length_cons, List.length_append]
      lia
    show (rows.flatMap f).length ≤ 60
    lia
  · intro x hx hm
    have := pat_leaf (hV _ hm)
    rcases List.mem_append.mp this with hb | hb
    · simp only [base, List.mem_cons, List.not_mem_nil, or_false] at hb
      rcases hb with rfl | rfl | rfl
      · simp
      · simp
      · rw [notQ_a] at hx; cases hx
    · exact List.mem_append_right _ hb
end Mine
end

section
open PySem PySem.W PySem.Calls PyProof.Rows
set_option maxRecDepth 100000
namespace Mine

set_option maxHeartbeats 3200000
theorem law_body {w : World} {A : Around} {E : Value → Shared → Prop} {S T₀ T : Heap} {s₀ s : Shared} {L f sl : Addr} {cd : Value} {m : Str → Option Value} {R : Flow → Shared → Prop} {vs : List Value} {ns : List Int}
    (G : Gnd w T) (hN : lawNamesAt T) (X : Fx S T₀ s₀ T L m [(L + 1, CellO none)] s) (r : Room A 50) (hsc : m (Str.ofString "script") = some (.ref sl)) (hsl : T.IsList sl vs.toArray) (hI : IntsAre vs ns) (hlen : vs.length ≤ 63)
    (h : ∀ T' m' own' s', Fx S T₀ s₀ T' L m' own' s' → R (.ret (.bool true)) s') :
    wpAny (model PR w) A (execs (dBody (dStmt 24)) (lawEnv L f cd)) R E s := by
  refine segA G hN X (r.mono (by lia)) hsc hsl hI hlen fun T1 m1 s1 ln cl tb nl kvs lv p X1 k1 hml hmn hK hC hnl hlv hp => ?_
  have G1 := G.keeps k1
  have up : ∀ {T T' : Heap} {a : Addr} {xs : Array Value}, Ev T T' → T.IsList a xs → T'.IsList a xs := fun k ⟨o, a, b⟩ => ⟨o, k _ _ a, b⟩
  refine segB G1 X1 (r.mono (by lia)) hml hmn hK hC hnl hlv hp fun T2 m2 s2 kv2 tkvs σ n2 X2 k2 hml2 hmn2 hK2 hn2 hσ2 hB => ?_
  have G2 := G1.keeps k2
  refine segC G2 X2 (r.mono (by lia)) hml2 hmn2 hK2 hn2 (hC.ev k2) (up k2 hnl) hlv hp fun T3 m3 s3 kv3 pat pv n3 X3 k3 hml3 hmn3 hmp3 hK3 hn3 D3 hpt hpat => ?_
  have G3 := G2.keeps k3
  have k13 := k2.trans k3
  have hgood : ∀ x ∈ lawNames.take p, GoodS x := fun x hx => lawNames_good x (take_mem_of hx)
  have hnl5 : (lawNames.take p).length ≤ 5 := by simp [lawNames]; lia
  have hsm := pat_small hpat
  have hP : TermOk pat := ⟨hsm.lf, by have := hsm.dep; lia, by have := hsm.siz; lia⟩
  have hT := hB.tabOk hp
  refine segD G3 X3 r ⟨hml3, hmn3, hmp3⟩ (up k13 hnl) hlv hnl5 hgood D3 (hσ2.ev k3) hpt hT hP (fun t _ => hB.rl hp t) fun T4 m4 s4 X4 k4 M4 => ?_
  have G4 := G3.keeps k4
  refine segE G4 X4 r M4 hK3 hn3 (((hC.ev k2).ev k3).ev k4) (up (k13.trans k4) hnl) hlv hnl5 hgood (D3.keeps k4) ((hσ2.ev k3).ev k4) hB.full (lawNames_nodup.sublist (List.take_sublist _ _)) (hpt.ev k4) fun T5 m5 s5 kv5 rl rvs rows X5 k5 M5 hmr hrl hrv hperm => ?_
  have hr6 : rows.length ≤ 6 := by rw [hperm.length_eq, rowsOf]; simp; rw [hB.len hp]; lia
  exact segF (n := 6) (G4.keeps k5) X5 r M5 hmr hrl hrv hr6 ((D3.keeps k4).keeps k5) (((hσ2.ev k3).ev k4).ev k5) ((hpt.ev k4).ev k5) hT hP (hB.stuck hp pat) (hB.hok hp hpat) (fit_law hB hp hpat hperm) (solv_law hB hp hperm) h
end Mine
end

section
open PySem PySem.W PySem.Calls PyProof.Rows
set_option maxRecDepth 100000
set_option maxHeartbeats 8000000
namespace Mine
/-! what of the heap behind the text's top we look at -/
noncomputable def kEnt (P : Params) (n : Str) (t : Tok) (v : Value) : DictEntry := { hash := PyData.keyHash P n, key := .str n t, val := v }
noncomputable def kFn (i c : Nat) (m : Str) (t : Tok) : Obj := { cls := .type "function", data := .func (fnOf (dName (dStmt i)) (dName (dStmt i)) (dParams (dStmt i)) (dBody (dStmt i)) (dScope (dStmt i)) .none .none .none (.str m t) none (.ref c) .none) }
noncomputable def kCode (i : Nat) (t1 t2 t3 : Tok) (l : List Value) (t4 : Tok) : Obj :=
  { cls := .type "code", data := .fields (.str (dName (dStmt i)) t1 :: .str (dName (dStmt i)) t2 :: .str (Str.ofString "/claim/cut.py") t3 :: (l ++ [.str (Str.ofString "/claim/cut.py") t4])).toArray }
noncomputable def kMain0 (P : Params) : List DictEntry := [kEnt P (Str.ofString "__name__") 165 (.str (Str.ofString "law_rg0112_01") 330),
  kEnt P (Str.ofString "__doc__") 166 .none,
  kEnt P (Str.ofString "__package__") 167 .none,
  kEnt P (Str.ofString "__loader__") 168 (.builtin "__main__.__loader__#opaque"),
  kEnt P (Str.ofString "__spec__") 169 .none,
  kEnt P (Str.ofString "__annotations__") 170 (.ref 6),
  kEnt P (Str.ofString "__builtins__") 171 (.ref 4),
  kEnt P (Str.ofString "__file__") 173 (.str (Str.ofString "/claim/cut.py") 172)]
noncomputable def kMain1 (P : Params) : List DictEntry := [kEnt P (Str.ofString "__cached__") 174 .none,
  kEnt P (Str.ofString "HeapError") 226 (.ref 40),
  kEnt P (Str.ofString "LimitFault") 242 (.ref 53),
  kEnt P (Str.ofString "is_variable") 251 (.ref 62),
  kEnt P (Str.ofString "variables") 257 (.ref 67),
  kEnt P (Str.ofString "parts") 263 (.ref 72),
  kEnt P (Str.ofString "MOST_SIZE") 267 (.int 10000 266),
  kEnt P (Str.ofString "MOST_LEVELS") 269 (.int 200 268)]
noncomputable def kMain2 (P : Params) : List DictEntry := [kEnt P (Str.ofString "filled") 275 (.ref 77),
  kEnt P (Str.ofString "followed") 283 (.ref 84),
  kEnt P (Str.ofString "is_within") 295 (.ref 91),
  kEnt P (Str.ofString "begun") 308 (.ref 98),
  kEnt P (Str.ofString "in_turn") 314 (.ref 103),
  kEnt P (Str.ofString "worked_out") 320 (.ref 108),
  kEnt P (Str.ofString "unified") 329 (.ref 115),
  kEnt P (Str.ofString "_law_names") 337 (.ref 116)]
noncomputable def kMain3 (P : Params) : List DictEntry := [kEnt P (Str.ofString "_law_pull") 346 (.ref 123),
  kEnt P (Str.ofString "_law_leaf") 355 (.ref 130),
  kEnt P (Str.ofString "_law_drawn") 364 (.ref 137),
  kEnt P (Str.ofString "_law_leaves") 370 (.ref 142),
  kEnt P (Str.ofString "_law_is_bare") 378 (.ref 149),
  kEnt P (Str.ofString "law") 384 (.ref 154)]
noncomputable def kMain (P : Params) : Obj := { cls := .type "dict", data := .dict (kMain0 P ++ kMain1 P ++ kMain2 P ++ kMain3 P).toArray 30 }
noncomputable def kNames : Obj := { cls := .type "tuple", data := .seq #[.str (Str.ofString "?p") 332, .str (Str.ofString "?w") 333, .str (Str.ofString "?c") 334, .str (Str.ofString "?r") 335, .str (Str.ofString "?a") 336] }
noncomputable def kFns : Frag := [(62, kFn 4 61 (Str.ofString "alikeheap.terms") 243),
  (67, kFn 5 66 (Str.ofString "alikeheap.terms") 243),
  (72, kFn 6 71 (Str.ofString "alikeheap.terms") 243),
  (77, kFn 10 76 (Str.ofString "alikeheap.orders") 264),
  (84, kFn 11 83 (Str.ofString "alikeheap.orders") 264),
  (91, kFn 12 90 (Str.ofString "alikeheap.orders") 264),
  (98, kFn 13 97 (Str.ofString "alikeheap.orders") 264),
  (103, kFn 14 102 (Str.ofString "alikeheap.orders") 264),
  (108, kFn 15 107 (Str.ofString "alikeheap.orders") 264),
  (115, kFn 16 114 (Str.ofString "alikeheap.orders") 264),
  (123, kFn 19 122 (Str.ofString "law_rg0112_01") 330),
  (130, kFn 20 129 (Str.ofString "law_rg0112_01") 330),
  (137, kFn 21 136 (Str.ofString "law_rg0112_01") 330),
  (142, kFn 22 141 (Str.ofString "law_rg0112_01") 330),
  (149, kFn 23 148 (Str.ofString "law_rg0112_01") 330)]
noncomputable def kCodes : Frag := [(61, kCode 4 245 246 247 [.int 13 0, .int 1 0, .int 0 0, .int 0 0, .int 3 0, .ref 56, .bool true, .int 181 0, .ref 57, .none, .ref 58, .ref 59, .ref 60, .int 249 0, .int 13 0] 250),
  (66, kCode 5 252 253 254 [.int 15 0, .int 1 0, .int 0 0, .int 0 0, .int 3 0, .ref 63, .bool true, .int 181 0, .ref 64, .none, .none, .none, .ref 65, .int 255 0, .int 15 0] 256),
  (71, kCode 6 258 259 260 [.int 17 0, .int 1 0, .int 0 0, .int 0 0, .int 3 0, .ref 68, .bool true, .int 181 0, .ref 69, .none, .none, .none, .ref 70, .int 261 0, .int 17 0] 262),
  (76, kCode 10 270 271 272 [.int 25 0, .int 2 0, .int 0 0, .int 0 0, .int 3 0, .ref 73, .bool true, .int 181 0, .ref 74, .none, .none, .none, .ref 75, .int 273 0, .int 25 0] 274),
  (83, kCode 11 276 277 278 [.int 29 0, .int 2 0, .int 0 0, .int 0 0, .int 3 0, .ref 78, .bool true, .int 181 0, .ref 79, .none, .ref 80, .ref 81, .ref 82, .int 281 0, .int 29 0] 282),
  (90, kCode 12 284 285 286 [.int 33 0, .int 3 0, .int 0 0, .int 0 0, .int 3 0, .ref 85, .bool true, .int 181 0, .ref 86, .none, .ref 87, .ref 88, .ref 89, .int 293 0, .int 33 0] 294),
  (97, kCode 13 296 297 298 [.int 43 0, .int 2 0, .int 0 0, .int 0 0, .int 3 0, .ref 92, .bool true, .int 181 0, .ref 93, .none, .ref 94, .ref 95, .ref 96, .int 306 0, .int 43 0] 307),
  (102, kCode 14 309 310 311 [.int 63 0, .int 1 0, .int 0 0, .int 0 0, .int 3 0, .ref 99, .bool true, .int 181 0, .ref 100, .none, .none, .none, .ref 101, .int 312 0, .int 63 0] 313),
  (107, kCode 15 315 316 317 [.int 73 0, .int 1 0, .int 0 0, .int 0 0, .int 3 0, .ref 104, .bool true, .int 181 0, .ref 105, .none, .none, .none, .ref 106, .int 318 0, .int 73 0] 319),
  (114, kCode 16 321 322 323 [.int 83 0, .int 2 0, .int 0 0, .int 0 0, .int 3 0, .ref 109, .bool true, .int 181 0, .ref 110, .none, .ref 111, .ref 112, .ref 113, .int 327 0, .int 83 0] 328),
  (122, kCode 19 338 339 340 [.int 88 0, .int 2 0, .int 0 0, .int 0 0, .int 3 0, .ref 117, .bool true, .int 181 0, .ref 118, .none, .ref 119, .ref 120, .ref 121, .int 344 0, .int 88 0] 345),
  (129, kCode 20 347 348 349 [.int 94 0, .int 2 0, .int 0 0, .int 0 0, .int 3 0, .ref 124, .bool true, .int 181 0, .ref 125, .none, .ref 126, .ref 127, .ref 128, .int 353 0, .int 94 0] 354),
  (136, kCode 21 356 357 358 [.int 97 0, .int 3 0, .int 0 0, .int 0 0, .int 3 0, .ref 131, .bool true, .int 181 0, .ref 132, .none, .ref 133, .ref 134, .ref 135, .int 362 0, .int 97 0] 363),
  (141, kCode 22 365 366 367 [.int 103 0, .int 2 0, .int 0 0, .int 0 0, .int 3 0, .ref 138, .bool true, .int 181 0, .ref 139, .none, .none, .none, .ref 140, .int 368 0, .int 103 0] 369),
  (148, kCode 23 371 372 373 [.int 107 0, .int 2 0, .int 0 0, .int 0 0, .int 3 0, .ref 143, .bool true, .int 181 0, .ref 144, .none, .ref 145, .ref 146, .ref 147, .int 376 0, .int 107 0] 377)]
noncomputable def kK (P : Params) : Frag := (3, kMain P) :: (116, kNames) :: (kFns ++ kCodes)
noncomputable def kAs : List Addr := [3, 116, 62, 67, 72, 77, 84, 91, 98, 103, 108, 115, 123, 130, 137, 142, 149, 61, 66, 71, 76, 83, 90, 97, 102, 107, 114, 122, 129, 136, 141, 148]

theorem glob_of {w : World} {h : Heap} {mg : Str → Option Value} (KX : Frag.In (kK w.params) h) (g : h.Ns mainGlobals mg) : ∀ p ∈ globTab, mg p.1 = some p.2 := by
  intro p hp
  simp only [globTab, List.mem_cons, List.not_mem_nil, or_false] at hp
  rcases hp with rfl | rfl | rfl | rfl | rfl | rfl | rfl | rfl | rfl | rfl | rfl | rfl | rfl | rfl | rfl | rfl <;> exact mg_of KX g (by rfl)
theorem boot_of {w : World} {h : Heap} {mg mb : Str → Option Value} (KX : Frag.In (kK w.params) h) (g : h.Ns mainGlobals mg) (b : ∀ x : Str, x ≠ "__name__" → mb x = bootBuiltins x) : ∀ p ∈ bootTab, mg p.1 = none ∧ mb p.1 = some p.2 := by
  intro p hp
  simp only [bootTab, List.mem_cons, List.not_mem_nil, or_false] at hp
  rcases hp with rfl | rfl | rfl | rfl | rfl | rfl | rfl | rfl | rfl | rfl <;> exact ⟨mg_none_of KX g (by rfl), (b _ (by decide)).trans (by rfl)⟩
theorem fn_at {w : World} {h : Heap} (KX : Frag.In (kK w.params) h) {i c a : Nat} {m : Str} {t : Tok} (h1 : (kK w.params).lookup a = some (kFn i c m t)) (h2 : codeIn (kK w.params) (.ref c) (dName (dStmt i)) = true) :
    FnAt h a (dName (dStmt i)) (dParams (dStmt i)) (dBody (dStmt i)) (dScope (dStmt i)) := ⟨_, _, _, _, _, _, KX _ _ h1, rfl, codeRec_of KX h2⟩
theorem fns_of {w : World} {h : Heap} (KX : Frag.In (kK w.params) h) : ∀ p ∈ fnTab, FnAt h p.2 (dName (dStmt p.1)) (dParams (dStmt p.1)) (dBody (dStmt p.1)) (dScope (dStmt p.1)) := by
  intro p hp
  simp only [fnTab, List.mem_cons, List.not_mem_nil, or_false] at hp
  rcases hp with rfl | rfl | rfl | rfl | rfl | rfl | rfl | rfl | rfl | rfl | rfl | rfl | rfl | rfl | rfl <;> exact fn_at KX (by rfl) (by rfl)
theorem gnd_of {w : World} {h : Heap} {p : Program} {loose : List Str} {mean : ExcName → Option Value} {mg mb : Str → Option Value} (KX : Frag.In (kK w.params) h) (T : Top p loose mean mg mb h) (sr : h.NoSeer) : Gnd w h where
  lim := T.nolimit
  glob := ⟨mg, mb, T.g, T.b, glob_of KX T.g, boot_of KX T.g T.builtins, ⟨_, mg_of KX T.g (by rfl)⟩, ⟨_, mg_of KX T.g (by rfl)⟩⟩
  sys := let ⟨_, ⟨o, _, _, ho, _⟩, _⟩ := sr.mods; ⟨o, ho⟩
  fns := fns_of KX
theorem names_of {w : World} {h : Heap} (KX : Frag.In (kK w.params) h) : lawNamesAt h :=
  ⟨[_, _, _, _, _], ⟨_, KX 116 _ (by rfl), by rfl, _, by rfl⟩, .cons _ _ (.cons _ _ (.cons _ _ (.cons _ _ (.cons _ _ .nil))))⟩
end Mine
end

section
open PySem PySem.W PySem.Calls PyProof.Rows
set_option maxRecDepth 100000
set_option maxHeartbeats 8000000
namespace Mine
theorem room_top (env : Env) : Room (callerA.deeper env) 50 := ⟨rfl, by show callerA.depth + 1 + 50 < recursionLimit; decide, by show callerA.units + 3 + 8 * 50 < cLine; decide⟩
theorem law_top {w : World} {A : Around} {h₁ : Heap} {s₁ : Shared} {p : Program} {loose : List Str} {mean : ExcName → Option Value} {mg mb m : Str → Option Value} {f sl : Addr} {cd : Value} {o : Obj} {tk : Nat} {vs : List Value} {ns : List Int} {qk : Flow → Shared → Prop} {ek : Value → Shared → Prop}
    (KX : Frag.In (kK w.params) s₁.heap) (T : Top p loose mean mg mb s₁.heap) (sr : s₁.heap.NoSeer) (F : Fr s₁.heap s₁.heap.objs.size h₁ m) (N0 : News s₁.heap s₁.heap.objs.size h₁ [(s₁.heap.objs.size + 1, o)]) (ho : o.data = .cell none)
    (hsc : m (Str.ofString "script") = some (.ref sl)) (hsl : s₁.heap.IsList sl vs.toArray) (hI : IntsAre vs ns) (hlen : ns.length ≤ 63) (r : Room A 50)
    (hq : ∀ (s' : Shared) (m' : Str → Option Value), Fr s₁.heap s₁.heap.objs.size s'.heap m' → s'.gens = s₁.gens → s'.os = s₁.os → qk (.ret (.bool true)) s') :
    wpAny (model PR w) A (execs (dBody (dStmt 24)) (lawEnv s₁.heap.objs.size f cd)) qk ek { heap := h₁, gens := s₁.gens, drawn := s₁.drawn, toks := tk, os := s₁.os } := by
  have hn := N0 (s₁.heap.objs.size + 1, o) (by simp)
  have hvl : vs.length = ns.length := by
    clear hsl hlen
    induction hI with
    | nil => rfl
    | cons n t _ ih => simp [ih]
  refine law_body (S := s₁.heap) (T₀ := s₁.heap) (T := s₁.heap) (s₀ := s₁) (m := m) (gnd_of KX T sr) (names_of KX) ⟨⟨F.keep, F.keep, fun p hp => ?_, ?_, fun p hp => ?_, fun p hp => ?_⟩, Gr.refl _ _, ⟨rfl, rfl, rfl⟩⟩ r hsc hsl hI (by lia) fun T' m' own' s' X => hq s' m' ⟨X.st.ns, X.st.kS, Nat.le_refl _⟩ X.sm.1 X.sm.2.1
  · simp only [List.mem_cons, List.not_mem_nil, or_false] at hp
    rcases hp with rfl | rfl
    · exact nsO_iff.mp F.ns
    · exact ⟨o, hn.1, ho⟩
  · simp
  · simp only [List.mem_cons, List.not_mem_nil, or_false] at hp
    rcases hp with rfl | rfl
    · exact get_size _
    · exact hn.2.2
  · simp only [List.mem_cons, List.not_mem_nil, or_false] at hp
    rcases hp with rfl | rfl
    · exact get_size _
    · exact hn.2.2
end Mine
end

open PySem PySem.W PyProof.Rows
set_option maxRecDepth 100000 in
set_option maxHeartbeats 8000000 in
theorem PySem.Challenge.cw_rg0112_01_holds : PySem.Challenge.rw_rg0112_01.Holds := by
  w_on
  o_law
  o_head (kHook Mine.kK Mine.kAs (fun _ => by kernel_rfl))
  case hw => w_witness2
  intro w s₀ s₁ mg mb G Y fa o pm cd doc dV kV ho hd hcd hD hmg hg args vals as hpre hlay hrd hwl hlo
  have KX := kIn_of Y
  k_behind G ho hd hcd hD hmg hpre hlay hrd hwl hlo cd
  refine Mine.law_top (by assumption) (by assumption) (Glob.seer (by assumption)) (by assumption) (by assumption) (by assumption) (by rfl) (by assumption) (by assumption) (by lia) (Mine.room_top _) ?hq
  case hq =>
    intro s' m' F' hg' hos'
    exact goodW_bool F' (hg'.trans (by assumption)) (raisesW_false (by wrow_none_raised)) (by wrow_post) hos'

import PyProof.Rows.All
import Wide.All
import OpenK.AllK
import Wide.FinOn
import PySem.Challenge.RW_sa0213_01
open PySem PySem.W PySem.Calls PyProof.Rows PySem.SeqAt
set_option Elab.async false
set_option maxRecDepth 100000
set_option maxHeartbeats 8000000
set_option linter.all false
set_option genSizeOf false
namespace Mine
structure Cx where
  prog : Program
  w : World
  base : Heap
  scr : Addr
  nums : List Int
  os : OsState
  fa : Str → Addr

abbrev Cx.M (C : Cx) : Model := model C.prog C.w

inductive MV where
  | none | bool (b : Bool) | int (i : Int) | str (x : Str) | ref (i : Nat) | range (a b c : Int) | script | tup (xs : List MV)

inductive MO where
  | list (xs : List MV) | dict (es : List (Int × MV)) | sdict (es : List (Str × MV)) | fz (es : List (Int × MV)) (ep : Nat)

abbrev MH := List MO
abbrev Vars := List (Option MV)

mutual
noncomputable def VR (A : List Addr) (scr : Addr) (h : Heap) : MV → Value → Prop
  | .none, v => v = .none
  | .bool b, v => v = .bool b
  | .int i, v => ∃ t, v = .int i t
  | .str x, v => ∃ t, v = .str x t
  | .ref i, v => ∃ a, A[i]? = some a ∧ v = .ref a
  | .range a b c, v => ∃ r t u y, v = .ref r ∧ r ∉ A ∧ IsRange h r a b c t u y
  | .script, v => v = .ref scr
  | .tup ms, v => ∃ a vs n, v = .ref a ∧ a ∉ A ∧ IsT h a vs.toArray n ∧ VRs A scr h ms vs
noncomputable def VRs (A : List Addr) (scr : Addr) (h : Heap) : List MV → List Value → Prop
  | [], vs => vs = []
  | m :: ms, vs => ∃ v r, vs = v :: r ∧ VR A scr h m v ∧ VRs A scr h ms r
end

noncomputable def Imm (o : Obj) : Prop := (o.cls = .type "tuple" ∧ ∃ xs n, o.data = .seq xs n) ∨ (o.cls = .type "range" ∧ ∃ vs, o.data = .fields vs)

structure Stp (X : List Addr) (A : List Addr) (s : Shared) (A' : List Addr) (s' : Shared) : Prop where
  keep : ∀ b o, s.heap.get? b = some o → b ∉ A → b ∉ X → s'.heap.get? b = some o
  imm : ∀ b o, s.heap.get? b = some o → b ∉ A → Imm o → s'.heap.get? b = some o
  alive : ∀ b, s.heap.get? b ≠ none → s'.heap.get? b ≠ none
  pre : ∃ B, A' = A ++ B
  new : ∀ a ∈ A', a ∈ A ∨ s.heap.get? a = none

/-- the little that values need -/
structure Stq (A : List Addr) (h : Heap) (A' : List Addr) (h' : Heap) : Prop where
  imm : ∀ b o, h.get? b = some o → b ∉ A → Imm o → h'.get? b = some o
  pre : ∃ B, A' = A ++ B
  new : ∀ a ∈ A', a ∈ A ∨ ∀ o, h.get? a = some o → ¬ Imm o

theorem Stp.q {X A s A' s'} (x : Stp X A s A' s') : Stq A s.heap A' s'.heap := ⟨x.imm, x.pre, fun a ha => (x.new a ha).elim .inl fun h => .inr fun o e => by rw [h] at e; cases e⟩

theorem Stp.refl (X A s) : Stp X A s A s := ⟨fun _ _ e _ _ => e, fun _ _ e _ _ => e, fun _ e => e, ⟨[], by simp⟩, fun _ h => .inl h⟩

theorem Stp.trans {X A s A' s' A'' s''} (x : Stp X A s A' s') (y : Stp X A' s' A'' s'') : Stp X A s A'' s'' where
  keep b o e hA hX := by
    refine y.keep b o (x.keep b o e hA hX) (fun hb => ?_) hX
    rcases x.new b hb with h | h
    · exact hA h
    · rw [h] at e; cases e
  imm b o e hA hi := by
    refine y.imm b o (x.imm b o e hA hi) (fun hb => ?_) hi
    rcases x.new b hb with h | h
    · exact hA h
    · rw [h] at e; cases e
  alive b e := y.alive b (x.alive b e)
  pre := by
    obtain ⟨B, rfl⟩ := x.pre
    obtain ⟨B', rfl⟩ := y.pre
    exact ⟨B ++ B', by simp⟩
  new a ha := by
    rcases y.new a ha with h | h
    · exact x.new a h
    · right
      cases e : s.heap.get? a with
      | none => rfl
      | some o => exact absurd h (x.alive a (by rw [e]; exact (fun h => nomatch h)))

theorem Stp.mono {X Y A s A' s'} (x : Stp X A s A' s') (h : ∀ b ∈ X, b ∈ Y) : Stp Y A s A' s' :=
  ⟨fun b o e hA hY => x.keep b o e hA fun hX => hY (h b hX), x.imm, x.alive, x.pre, x.new⟩

/-- nothing but new objects (and tokens) -/
theorem Stp.grow {X : List Addr} {A : List Addr} {s s' : Shared} (h : ∀ b o, s.heap.get? b = some o → s'.heap.get? b = some o) : Stp X A s A s' :=
  ⟨fun b o e _ _ => h b o e, fun b o e _ _ => h b o e, fun b e => by
    cases q : s.heap.get? b with
    | none => exact absurd q e
    | some o => rw [h b o q]; exact (fun h => nomatch h), ⟨[], by simp⟩, fun _ h => .inl h⟩

theorem getElem?_pre {A B : List Addr} {i : Nat} {a : Addr} (h : A[i]? = some a) : (A ++ B)[i]? = some a := by
  rw [List.getElem?_append_left]; exact h
  exact (List.getElem?_eq_some_iff.mp h).1

mutual
theorem VR.monoQ {A h0 A' h1 scr} (x : Stq A h0 A' h1) : ∀ {m v}, VR A scr h0 m v → VR A' scr h1 m v
  | .none, _, h => by unfold VR at *; exact h
  | .bool _, _, h => by unfold VR at *; exact h
  | .int _, _, h => by unfold VR at *; exact h
  | .str _, _, h => by unfold VR at *; exact h
  | .ref _, _, h => by
    unfold VR at *
    obtain ⟨a, ha, e⟩ := h
    obtain ⟨B, rfl⟩ := x.pre
    exact ⟨a, getElem?_pre ha, e⟩
  | .range _ _ _, _, h => by
    unfold VR at *
    obtain ⟨r, t, u, y, e, hA, hr⟩ := h
    refine ⟨r, t, u, y, e, fun hb => ?_, x.imm _ _ hr hA (.inr ⟨rfl, _, rfl⟩)⟩
    rcases x.new r hb with q | q
    · exact hA q
    · exact q _ hr (.inr ⟨rfl, _, rfl⟩)
  | .script, _, h => by unfold VR at *; exact h
  | .tup _, _, h => by
    unfold VR at *
    obtain ⟨a, vs, n, e, hA, ht, hs⟩ := h
    refine ⟨a, vs, n, e, fun hb => ?_, x.imm _ _ ht hA (.inl ⟨rfl, _, _, rfl⟩), VRs.monoQ x hs⟩
    rcases x.new a hb with q | q
    · exact hA q
    · exact q _ ht (.inl ⟨rfl, _, _, rfl⟩)
theorem VRs.monoQ {A h0 A' h1 scr} (x : Stq A h0 A' h1) : ∀ {ms vs}, VRs A scr h0 ms vs → VRs A' scr h1 ms vs
  | [], _, h => by unfold VRs at *; exact h
  | _ :: _, _, h => by
    unfold VRs at *
    obtain ⟨v, r, e, hv, hr⟩ := h
    exact ⟨v, r, e, VR.monoQ x hv, VRs.monoQ x hr⟩
end
theorem VR.mono {X A s A' s' scr} (x : Stp X A s A' s') {m v} (h : VR A scr s.heap m v) : VR A' scr s'.heap m v := h.monoQ x.q
theorem VRs.mono {X A s A' s' scr} (x : Stp X A s A' s') {ms vs} (h : VRs A scr s.heap ms vs) : VRs A' scr s'.heap ms vs := h.monoQ x.q

theorem VRs.length {A scr h} : ∀ {ms vs}, VRs A scr h ms vs → vs.length = ms.length
  | [], _, x => by unfold VRs at x; subst x; rfl
  | _ :: _, _, x => by
    unfold VRs at x
    obtain ⟨v, r, rfl, _, hr⟩ := x
    simp [hr.length]

theorem VRs.append {A scr h} : ∀ {ms vs ms' vs'}, VRs A scr h ms vs → VRs A scr h ms' vs' → VRs A scr h (ms ++ ms') (vs ++ vs')
  | [], _, _, _, x, y => by unfold VRs at x; subst x; exact y
  | _ :: _, _, _, _, x, y => by
    unfold VRs at x
    obtain ⟨v, r, rfl, hv, hr⟩ := x
    show VRs A scr h (_ :: (_ ++ _)) (_ :: (_ ++ _))
    rw [VRs]
    exact ⟨v, _, rfl, hv, hr.append y⟩

theorem VRs.get {A scr h} : ∀ {ms vs} {i : Nat} {m}, VRs A scr h ms vs → ms[i]? = some m → ∃ v, vs[i]? = some v ∧ VR A scr h m v
  | [], _, i, _, _, e => by simp at e
  | _ :: _, _, 0, _, x, e => by
    unfold VRs at x
    obtain ⟨v, r, rfl, hv, hr⟩ := x
    simp only [List.getElem?_cons_zero, Option.some.injEq] at e
    subst e
    exact ⟨v, rfl, hv⟩
  | _ :: _, _, i + 1, _, x, e => by
    unfold VRs at x
    obtain ⟨v, r, rfl, hv, hr⟩ := x
    simp only [List.getElem?_cons_succ] at e
    exact hr.get e

theorem VRs.nil {A scr h} : VRs A scr h [] [] := by unfold VRs; rfl
theorem VRs.cons {A scr h m v ms vs} (a : VR A scr h m v) (b : VRs A scr h ms vs) : VRs A scr h (m :: ms) (v :: vs) := by
  rw [VRs]; exact ⟨v, vs, rfl, a, b⟩
theorem VRs.uncons {A scr h m ms vs} (x : VRs A scr h (m :: ms) vs) : ∃ v r, vs = v :: r ∧ VR A scr h m v ∧ VRs A scr h ms r := by
  rw [VRs] at x; exact x

theorem VRs.drop {A scr h} : ∀ (n : Nat) {ms vs}, VRs A scr h ms vs → VRs A scr h (ms.drop n) (vs.drop n)
  | 0, _, _, x => x
  | n + 1, [], _, x => by unfold VRs at x; subst x; exact .nil
  | n + 1, _ :: _, _, x => by
    obtain ⟨v, r, rfl, _, hr⟩ := x.uncons
    exact hr.drop n
theorem VRs.take {A scr h} : ∀ (n : Nat) {ms vs}, VRs A scr h ms vs → VRs A scr h (ms.take n) (vs.take n)
  | 0, _, _, x => .nil
  | n + 1, [], _, x => by unfold VRs at x; subst x; exact .nil
  | n + 1, _ :: _, _, x => by
    obtain ⟨v, r, rfl, hv, hr⟩ := x.uncons
    exact .cons hv (hr.take n)
theorem VRs.set {A scr h m v} (hm : VR A scr h m v) : ∀ (n : Nat) {ms vs}, VRs A scr h ms vs → VRs A scr h (ms.set n m) (vs.set n v)
  | _, [], _, x => by unfold VRs at x; subst x; exact .nil
  | 0, _ :: _, _, x => by
    obtain ⟨u, r, rfl, hv, hr⟩ := x.uncons
    exact .cons hm hr
  | n + 1, _ :: _, _, x => by
    obtain ⟨u, r, rfl, hv, hr⟩ := x.uncons
    exact .cons hv (hr.set hm n)
theorem VRs.eraseIdx {A scr h} : ∀ (n : Nat) {ms vs}, VRs A scr h ms vs → VRs A scr h (ms.eraseIdx n) (vs.eraseIdx n)
  | _, [], _, x => by unfold VRs at x; subst x; exact .nil
  | 0, _ :: _, _, x => by
    obtain ⟨u, r, rfl, hv, hr⟩ := x.uncons
    exact hr
  | n + 1, _ :: _, _, x => by
    obtain ⟨u, r, rfl, hv, hr⟩ := x.uncons
    exact .cons hv (hr.eraseIdx n)
/-- a mini object at a real address -/
noncomputable def ObjR (C : Cx) (A : List Addr) (h : Heap) (a : Addr) : MO → Prop
  | .list xs => ∃ vs n, IsL h a vs.toArray n ∧ VRs A C.scr h xs vs ∧ xs.length ≤ 4096
  | .dict es => ∃ kvs : List (Int × Value), h.DictOf (intKind C.prog C.w) a kvs ∧ kvs.map (·.1) = es.map (·.1) ∧ VRs A C.scr h (es.map (·.2)) (kvs.map (·.2)) ∧ es.length ≤ 4096 ∧ (a == sysModules) = false
  | .sdict es => ∃ kvs : List (Str × Value), h.DictOf (strKind C.prog C.w) a kvs ∧ kvs.map (·.1) = es.map (·.1) ∧ VRs A C.scr h (es.map (·.2)) (kvs.map (·.2)) ∧ es.length ≤ 4096 ∧ (a == sysModules) = false
  | .fz es ep => ∃ kvs : List (Int × Value), h.DictAt (intKind C.prog C.w) a kvs ep ∧ kvs.map (·.1) = es.map (·.1) ∧ VRs A C.scr h (es.map (·.2)) (kvs.map (·.2)) ∧ es.length ≤ 4096 ∧ (a == sysModules) = false

structure W (C : Cx) (A : List Addr) (mh : MH) (s : Shared) : Prop where
  keep : ∀ b o, C.base.get? b = some o → s.heap.get? b = some o
  len : A.length = mh.length
  nodup : A.Nodup
  fresh : ∀ a ∈ A, C.base.get? a = none
  objs : ∀ (i : Nat) (a : Addr) (o : MO), A[i]? = some a → mh[i]? = some o → ObjR C A s.heap a o
  gens : s.gens = #[]
  os : s.os = C.os

theorem DictOf.at {K : Type} [DecidableEq K] {prog w} {knd : KeyKind prog w K} {h h' : Heap} {a : Addr} {kvs : List (K × Value)} (x : h.DictOf knd a kvs) (e : h'.get? a = h.get? a) : h'.DictOf knd a kvs := by
  obtain ⟨o, es, ep, ho, r⟩ := x
  exact ⟨o, es, ep, e.trans ho, r⟩

theorem DictAt.at {K : Type} [DecidableEq K] {prog w} {knd : KeyKind prog w K} {h h' : Heap} {a : Addr} {kvs : List (K × Value)} {ep : Nat} (x : h.DictAt knd a kvs ep) (e : h'.get? a = h.get? a) : h'.DictAt knd a kvs ep := by
  obtain ⟨o, es, ho, r⟩ := x
  exact ⟨o, es, e.trans ho, r⟩

/-- an object that lies as it lay, its parts carried over -/
theorem ObjR.monoQ {C A h0 A' h1 a o} (x : Stq A h0 A' h1) (e : h1.get? a = h0.get? a) (h : ObjR C A h0 a o) : ObjR C A' h1 a o := by
  cases o with
  | list xs =>
    obtain ⟨vs, n, h1, h2, h3⟩ := h
    exact ⟨vs, n, e.trans h1, h2.monoQ x, h3⟩
  | dict es =>
    obtain ⟨kvs, h1, h2, h3, h4⟩ := h
    exact ⟨kvs, DictOf.at h1 e, h2, h3.monoQ x, h4⟩
  | sdict es =>
    obtain ⟨kvs, h1, h2, h3, h4⟩ := h
    exact ⟨kvs, DictOf.at h1 e, h2, h3.monoQ x, h4⟩
  | fz es ep =>
    obtain ⟨kvs, h1, h2, h3, h4⟩ := h
    exact ⟨kvs, DictAt.at h1 e, h2, h3.monoQ x, h4⟩

theorem ObjR.mono {C X A s A' s' a o} (x : Stp X A s A' s') (e : s'.heap.get? a = s.heap.get? a) (h : ObjR C A s.heap a o) : ObjR C A' s'.heap a o := h.monoQ x.q e

theorem ObjR.there {C A h a o} (x : ObjR C A h a o) : ∃ ob, h.get? a = some ob := by
  cases o with
  | list xs => obtain ⟨vs, n, h1, _⟩ := x; exact ⟨_, h1⟩
  | dict es => obtain ⟨kvs, ⟨o, _, _, h1, _⟩, _⟩ := x; exact ⟨_, h1⟩
  | sdict es => obtain ⟨kvs, ⟨o, _, _, h1, _⟩, _⟩ := x; exact ⟨_, h1⟩
  | fz es ep => obtain ⟨kvs, ⟨o, _, h1, _⟩, _⟩ := x; exact ⟨_, h1⟩

theorem W.there {C A mh s} (x : W C A mh s) {a} (ha : a ∈ A) : ∃ ob, s.heap.get? a = some ob := by
  obtain ⟨i, hi, rfl⟩ := List.getElem_of_mem ha
  have : i < mh.length := x.len ▸ hi
  exact (x.objs i _ _ (List.getElem?_eq_getElem hi) (List.getElem?_eq_getElem this)).there

/-- new objects alone: the relation stays -/
theorem W.grow {C A mh s s'} (x : W C A mh s) (h : ∀ b o, s.heap.get? b = some o → s'.heap.get? b = some o) (hg : s'.gens = s.gens) (ho : s'.os = s.os) : W C A mh s' where
  keep b o e := h b o (x.keep b o e)
  len := x.len
  nodup := x.nodup
  fresh := x.fresh
  objs i a o ha hm := by
    have r := x.objs i a o ha hm
    obtain ⟨ob, hob⟩ := r.there
    exact r.mono (X := []) (Stp.grow h) ((h _ _ hob).trans hob.symm)
  gens := hg.trans x.gens
  os := ho.trans x.os

theorem W.notBase {C A mh s} (x : W C A mh s) {b o} (e : C.base.get? b = some o) : b ∉ A := fun h => by rw [x.fresh b h] at e; cases e

/-- the part of the state that is not a mini object changes at X alone -/
theorem W.change {C} {X : List Addr} {A mh} {s s' : Shared} (x : W C A mh s) (hk : ∀ b o, s.heap.get? b = some o → b ∉ X → s'.heap.get? b = some o)
    (st : Stq A s.heap A s'.heap) (hX : ∀ b ∈ X, C.base.get? b = none ∧ b ∉ A) (hg : s'.gens = s.gens) (ho : s'.os = s.os) : W C A mh s' where
  keep b o e := hk b o (x.keep b o e) fun h => by rw [(hX b h).1] at e; cases e
  len := x.len
  nodup := x.nodup
  fresh := x.fresh
  objs i a o ha hm := by
    have r := x.objs i a o ha hm
    obtain ⟨ob, hob⟩ := r.there
    refine r.monoQ st ((hk _ _ hob fun h => (hX a h).2 (List.mem_of_getElem? ha)).trans hob.symm)
  gens := hg.trans x.gens
  os := ho.trans x.os
theorem sameBut_keep {a : Addr} {h h' : Heap} (hs : Heap.SameBut a h h') {b : Addr} {o : Obj} (e : h.get? b = some o) (hb : b ≠ a) : h'.get? b = some o := (hs.2 b hb).trans e

theorem Stp.at {A : List Addr} {s s' : Shared} {a : Addr} (ha : a ∈ A) (hs : Heap.SameBut a s.heap s'.heap) (ht : s'.heap.get? a ≠ none) : Stp [] A s A s' where
  keep b o e hA _ := sameBut_keep hs e fun h => hA (h ▸ ha)
  imm b o e hA _ := sameBut_keep hs e fun h => hA (h ▸ ha)
  alive b e := by
    by_cases h : b = a
    · subst h; exact ht
    · rw [hs.2 b h]; exact e
  pre := ⟨[], by simp⟩
  new _ h := .inl h

theorem nodup_ne {A : List Addr} (hn : A.Nodup) {i j : Nat} {a b : Addr} (hi : A[i]? = some a) (hj : A[j]? = some b) (hij : i ≠ j) : a ≠ b := by
  obtain ⟨h1, rfl⟩ := List.getElem?_eq_some_iff.mp hi
  obtain ⟨h2, rfl⟩ := List.getElem?_eq_some_iff.mp hj
  intro e
  exact hij ((List.getElem_inj hn).mp e)

theorem W.setAt {C A mh s s'} (x : W C A mh s) {i : Nat} {a : Addr} {mo : MO} (hi : A[i]? = some a) (hs : Heap.SameBut a s.heap s'.heap)
    (hr : ObjR C A s'.heap a mo) (hg : s'.gens = s.gens) (ho : s'.os = s.os) : W C A (mh.set i mo) s' ∧ Stp [] A s A s' := by
  have ha : a ∈ A := List.mem_of_getElem? hi
  obtain ⟨ob, hob⟩ := hr.there
  have st : Stp [] A s A s' := Stp.at ha hs (by rw [hob]; exact (fun h => nomatch h))
  refine ⟨⟨fun b o e => ?_, by rw [List.length_set]; exact x.len, x.nodup, x.fresh, fun j b o hj hm => ?_, hg.trans x.gens, ho.trans x.os⟩, st⟩
  · exact sameBut_keep hs (x.keep b o e) fun h => by rw [h, x.fresh a ha] at e; cases e
  · by_cases hij : i = j
    · subst hij
      rw [hi] at hj; cases hj
      have hlt : i < mh.length := by
        have := (List.getElem?_eq_some_iff.mp hi).1
        rw [x.len] at this; exact this
      rw [List.getElem?_set_self hlt] at hm; cases hm
      exact hr
    · rw [List.getElem?_set_ne hij] at hm
      exact (x.objs j b o hj hm).mono st (hs.2 b (nodup_ne x.nodup hj hi (Ne.symm hij)))

theorem W.lt {C A mh s} (x : W C A mh s) {a} (ha : a ∈ A) : a < s.heap.objs.size := by
  obtain ⟨ob, e⟩ := x.there ha
  exact Heap.lt_size e

theorem W.base_lt {C A mh s} (x : W C A mh s) {b o} (e : C.base.get? b = some o) : b < s.heap.objs.size := Heap.lt_size (x.keep b o e)

theorem base_new {C A mh s} (x : W C A mh s) : C.base.get? s.heap.objs.size = none := by
  cases e : C.base.get? s.heap.objs.size with
  | none => rfl
  | some o => exact absurd (x.base_lt e) (Nat.lt_irrefl _)
theorem get_new {s : Shared} : s.heap.get? s.heap.objs.size = none := by
  cases e : s.heap.get? s.heap.objs.size with
  | none => rfl
  | some o => exact absurd (Heap.lt_size e) (Nat.lt_irrefl _)

theorem W.alloc {C A mh s s'} (x : W C A mh s) {a : Addr} {mo : MO} (ha : s.heap.get? a = none) (hk : ∀ b o, s.heap.get? b = some o → s'.heap.get? b = some o)
    (hr : ObjR C (A ++ [a]) s'.heap a mo) (hg : s'.gens = s.gens) (ho : s'.os = s.os) : W C (A ++ [a]) (mh ++ [mo]) s' ∧ Stp [] A s (A ++ [a]) s' := by
  have st : Stp [] A s (A ++ [a]) s' := ⟨fun b o e _ _ => hk b o e, fun b o e _ _ => hk b o e, fun b e => by
    cases q : s.heap.get? b with
    | none => exact absurd q e
    | some o => rw [hk b o q]; exact (fun h => nomatch h), ⟨[a], rfl⟩, fun b hb => by
      rcases List.mem_append.mp hb with h | h
      · exact .inl h
      · rw [List.mem_singleton.mp h]; exact .inr ha⟩
  refine ⟨⟨fun b o e => hk b o (x.keep b o e), by simp [x.len], ?_, fun b hb => ?_, fun j b o hj hm => ?_, hg.trans x.gens, ho.trans x.os⟩, st⟩
  · refine List.nodup_append.mpr ⟨x.nodup, by simp, fun b hb c hc e => ?_⟩
    rw [List.mem_singleton] at hc
    subst hc; subst e
    obtain ⟨ob, hob⟩ := x.there hb
    rw [ha] at hob; cases hob
  · rcases List.mem_append.mp hb with h | h
    · exact x.fresh b h
    · rw [List.mem_singleton.mp h]
      cases e : C.base.get? a with
      | none => rfl
      | some o => have := x.keep a o e; rw [ha] at this; cases this
  · by_cases hj' : j < A.length
    · rw [List.getElem?_append_left hj'] at hj
      rw [List.getElem?_append_left (by rw [← x.len]; exact hj')] at hm
      have r := x.objs j b o hj hm
      obtain ⟨ob, hob⟩ := r.there
      exact r.mono st ((hk _ _ hob).trans hob.symm)
    · rw [List.getElem?_append_right (by lia)] at hj
      rw [List.getElem?_append_right (by rw [← x.len]; lia)] at hm
      have e1 : j - A.length = 0 := by
        cases q : j - A.length with
        | zero => rfl
        | succ n => rw [q] at hj; simp at hj
      rw [e1] at hj
      rw [← x.len, e1] at hm
      simp only [List.getElem?_cons_zero, Option.some.injEq] at hj hm
      subst hj; subst hm
      exact hr

theorem Stp.toks {X A} {s : Shared} (tk : Nat) : Stp X A s A { s with toks := tk } := Stp.grow fun _ _ e => e
theorem W.toks {C A mh} {s : Shared} (x : W C A mh s) (tk : Nat) : W C A mh { s with toks := tk } := x.grow (fun _ _ e => e) rfl rfl

/-- what an expression leaves -/
inductive Post (C : Cx) (ad : List Addr) (s : Shared) (Q : MV → MH → Prop) (v : Value) (s' : Shared) : Prop
  | intro (mv : MV) (mh' : MH) (ad' : List Addr) (q : Q mv mh') (r : VR ad' C.scr s'.heap mv v) (w : W C ad' mh' s') (st : Stp [] ad s ad' s')

theorem Post.trans {C ad s ad1 s1 Q v s'} (st : Stp [] ad s ad1 s1) (p : Post C ad1 s1 Q v s') : Post C ad s Q v s' := by
  obtain ⟨mv, mh', ad', h1, h2, h3, h4⟩ := p
  exact ⟨mv, mh', ad', h1, h2, h3, st.trans h4⟩
theorem Post.now {C ad s mh Q mv v} (hq : Q mv mh) (hv : VR ad C.scr s.heap mv v) (hw : W C ad mh s) : Post C ad s Q v s := ⟨mv, mh, ad, hq, hv, hw, Stp.refl ..⟩
theorem Post.int {C ad mh} {s : Shared} {Q : MV → MH → Prop} {i : Int} {t : Tok} {tk : Nat} (hw : W C ad mh s) (hq : Q (.int i) mh) : Post C ad s Q (.int i t) { s with toks := tk } :=
  ⟨.int i, mh, ad, hq, by unfold VR; exact ⟨t, rfl⟩, hw.toks tk, Stp.toks tk⟩
theorem Post.bool {C ad mh} {s : Shared} {Q : MV → MH → Prop} {b : Bool} {tk : Nat} (hw : W C ad mh s) (hq : Q (.bool b) mh) : Post C ad s Q (.bool b) { s with toks := tk } :=
  ⟨.bool b, mh, ad, hq, by unfold VR; rfl, hw.toks tk, Stp.toks tk⟩

structure Room (A : Around) (k : Nat) : Prop where
  handled : A.handled = none
  depth : A.depth + k < recursionLimit
  units : A.units + 20 * k + 200 < cLine

noncomputable def fas (env : Env) : List Addr := env.locals :: env.cells.map (·.2)

structure VOK (C : Cx) (tab : List (Str × Nat)) (env : Env) (A : List Addr) (h : Heap) (vars : Vars) : Prop where
  ns : ∃ m, h.Ns env.locals m ∧ ∀ x i mv, tab.lookup x = some i → vars[i]? = some (some mv) → env.kindOf x = some .local → ∃ v, m x = some v ∧ VR A C.scr h mv v
  cell : ∀ x i mv c, tab.lookup x = some i → vars[i]? = some (some mv) → (env.kindOf x = some .cell ∨ env.kindOf x = some .free) → env.cells.lookup x = some c → ∃ v, h.IsCell c (some v) ∧ VR A C.scr h mv v
  live : ∀ x c, (x, c) ∈ env.cells → ∃ v₀, h.IsCell c v₀
  own : ∀ b ∈ fas env, C.base.get? b = none ∧ b ∉ A

theorem VOK.stepC {C tab env A A' vars} {h0 h1 : Heap} (x : VOK C tab env A h0 vars) (st : Stq A h0 A' h1) (own' : ∀ b ∈ fas env, ∀ o, h0.get? b = some o → h1.get? b = some o) (hn : ∀ b ∈ fas env, b ∉ A') : VOK C tab env A' h1 vars := by
  have cellM : ∀ n c, (n, c) ∈ env.cells → c ∈ fas env := fun n c h => List.mem_cons_of_mem _ (List.mem_map.mpr ⟨(n, c), h, rfl⟩)
  refine ⟨?_, fun y i mv c h1 h2 h3 h4 => ?_, fun y c h1 => ?_, fun b hb => ⟨(x.own b hb).1, hn b hb⟩⟩
  · obtain ⟨m, ⟨o, es, ep, ho, r⟩, hm⟩ := x.ns
    refine ⟨m, ⟨o, es, ep, own' _ List.mem_cons_self o ho, r⟩, fun y i mv h1 h2 h3 => ?_⟩
    obtain ⟨v, hv, hr⟩ := hm y i mv h1 h2 h3
    exact ⟨v, hv, hr.monoQ st⟩
  · obtain ⟨v, ⟨o, ho, hd⟩, hr⟩ := x.cell y i mv c h1 h2 h3 h4
    exact ⟨v, ⟨o, own' c (cellM y c (mem_of_lookup h4)) o ho, hd⟩, hr.monoQ st⟩
  · obtain ⟨v, o, ho, hd⟩ := x.live y c h1
    exact ⟨v, o, own' c (cellM y c h1) o ho, hd⟩

theorem VOK.fas_there {C tab env A h vars} (x : VOK C tab env A h vars) : ∀ b ∈ fas env, ∃ o, h.get? b = some o := by
  intro b hb
  rcases List.mem_cons.mp hb with rfl | hb
  · obtain ⟨m, ⟨o, es, ep, ho, r⟩, _⟩ := x.ns
    exact ⟨o, ho⟩
  · obtain ⟨⟨n, c⟩, hc, rfl⟩ := List.mem_map.mp hb
    obtain ⟨v, o, ho, _⟩ := x.live n c hc
    exact ⟨o, ho⟩

theorem VOK.stepQ {C tab env A vars} {h0 h1 : Heap} (x : VOK C tab env A h0 vars) (st : Stq A h0 A h1) (own' : ∀ b ∈ fas env, ∀ o, h0.get? b = some o → h1.get? b = some o) : VOK C tab env A h1 vars :=
  x.stepC st own' fun b hb => (x.own b hb).2

theorem VOK.stepX {C tab env A A' vars X} {s s' : Shared} (x : VOK C tab env A s.heap vars) (st : Stp X A s A' s') (hX : ∀ b ∈ fas env, b ∉ X) : VOK C tab env A' s'.heap vars :=
  x.stepC st.q (fun b hb o e => st.keep b o e (x.own b hb).2 (hX b hb)) fun b hb hA => by
    rcases st.new b hA with h | h
    · exact (x.own b hb).2 h
    · obtain ⟨o, ho⟩ := x.fas_there b hb
      rw [h] at ho; cases ho

theorem VOK.step {C tab env A A' vars} {s s' : Shared} (x : VOK C tab env A s.heap vars) (st : Stp [] A s A' s') : VOK C tab env A' s'.heap vars := x.stepX st fun _ _ h => nomatch h

structure EOK (env : Env) : Prop where
  kind : env.scope.kind = .function
  glob : env.globals = mainGlobals
  bi : env.builtins = builtinsNs

noncomputable def GName (C : Cx) (x : Str) (v : Value) : Prop :=
  ∃ mg mb, C.base.Ns mainGlobals mg ∧ C.base.Ns builtinsNs mb ∧ (mg x = some v ∨ (mg x = none ∧ mb x = some v))

abbrev MT := (MV → MH → Prop) → Vars → MH → Prop

noncomputable def SE (C : Cx) (k : Nat) (tab : List (Str × Nat)) (env : Env) (e : Expr) (P : MT) : Prop :=
  ∀ (A : Around) (E : Value → Shared → Prop) (s : Shared) (ad : List Addr) (mh : MH) (vars : Vars) (Q : MV → MH → Prop),
    Room A k → W C ad mh s → VOK C tab env ad s.heap vars → P Q vars mh → wpAny C.M A (eval e env) (Post C ad s Q) E s

section
variable {C : Cx} {k : Nat} {tab : List (Str × Nat)} {env : Env}

@[reducible] noncomputable def tInt (i : Int) : MT := fun Q _ mh => Q (.int i) mh
theorem SE_int {i u pos} : SE C k tab env (.Constant (.int i) u pos) (tInt i) :=
  fun _ _ _ _ _ _ _ _ hW _ hP => wpAny_Constant_int (Post.int hW hP)
@[reducible] noncomputable def tNone  : MT := fun Q _ mh => Q .none mh
theorem SE_none {u pos} : SE C k tab env (.Constant .none u pos) tNone :=
  fun _ _ _ _ _ _ _ _ hW _ hP => wpAny_Constant_none (Post.now hP (by unfold VR; rfl) hW)
@[reducible] noncomputable def tBool (b : Bool) : MT := fun Q _ mh => Q (.bool b) mh
theorem SE_bool {b u pos} : SE C k tab env (.Constant (.bool b) u pos) (tBool b) :=
  fun _ _ _ _ _ _ _ _ hW _ hP => wpAny_Constant_bool (Post.now hP (by unfold VR; rfl) hW)
@[reducible] noncomputable def tStr (x : Str) : MT := fun Q _ mh => Q (.str x) mh
theorem SE_str {x u pos} : SE C k tab env (.Constant (.str x) u pos) (tStr x) :=
  fun _ _ s _ _ _ _ _ hW _ hP => wpAny_Constant_str ⟨.str x, _, _, hP, by unfold VR; exact ⟨_, rfl⟩, hW.toks _, Stp.toks _⟩

noncomputable def tLoc (i : Nat) : MT := fun Q vars mh => ∃ mv, vars[i]? = some (some mv) ∧ Q mv mh
theorem SE_local {x pos i} (he : EOK env) (hk : env.kindOf x = some .local) (ht : tab.lookup x = some i) (hd : (x == ("__debug__" : Str)) = false) :
    SE C k tab env (.Name x pos) (tLoc i) := by
  intro A E s ad mh vars Q _ hW hV ⟨mv, hv, hP⟩
  obtain ⟨m, hn, hm⟩ := hV.ns
  obtain ⟨v, h1, h2⟩ := hm x i mv ht hv hk
  exact wpAny_Name (wpAny_loadName_local he.kind hk hn h1 (Post.now hP h2 hW)) hd

theorem SE_cell {x pos i c} (he : EOK env) (hk : env.kindOf x = some .cell) (hc : env.cells.lookup x = some c) (ht : tab.lookup x = some i) (hd : (x == ("__debug__" : Str)) = false) :
    SE C k tab env (.Name x pos) (tLoc i) := by
  intro A E s ad mh vars Q _ hW hV ⟨mv, hv, hP⟩
  obtain ⟨v, h1, h2⟩ := hV.cell x i mv c ht hv (.inl hk) hc
  exact wpAny_Name (wpAny_loadName_cell he.kind hk hc h1 (Post.now hP h2 hW)) hd

theorem glob_wp {x pos v} {A : Around} {E : Value → Shared → Prop} {s : Shared} {ad mh} {Q : Value → Shared → Prop} (he : EOK env) (hk : env.kindOf x = some .globalImplicit) (hd : (x == ("__debug__" : Str)) = false)
    (hg : GName C x v) (hW : W C ad mh s) (h : Q v s) : wpAny C.M A (eval (.Name x pos) env) Q E s := by
  obtain ⟨mg, mb, h1, h2, h3⟩ := hg
  refine Name_function_global he.kind hk ?_ hd
  have h1' : s.heap.Ns env.globals mg := he.glob ▸ h1.keeps hW.keep
  have h2' : s.heap.Ns env.builtins mb := he.bi ▸ h2.keeps hW.keep
  rcases h3 with h3 | ⟨h3, h4⟩
  · exact loadGlobal_global h1' h3 h
  · exact loadGlobal_builtin h1' h3 h2' h4 h

/-- a global that is an int -/
theorem SE_gint {x pos i t} (he : EOK env) (hk : env.kindOf x = some .globalImplicit) (hd : (x == ("__debug__" : Str)) = false) (hg : GName C x (.int i t)) :
    SE C k tab env (.Name x pos) (tInt i) :=
  fun _ _ _ _ _ _ _ _ hW _ hP => glob_wp he hk hd hg hW (Post.now hP (by unfold VR; exact ⟨_, rfl⟩) hW)
end

/-! operators -/
inductive binopI (mh : MH) (Q : MV → MH → Prop) : Operator → MV → MV → Prop
  | add {a b : Int} (h : Q (.int (a + b)) mh) : binopI mh Q .Add (.int a) (.int b)
  | sub {a b : Int} (h : Q (.int (a - b)) mh) : binopI mh Q .Sub (.int a) (.int b)
  | mul {a b : Int} (h : (a.natAbs < 2 ^ 40 ∧ b.natAbs < 2 ^ 40) ∧ Q (.int (a * b)) mh) : binopI mh Q .Mult (.int a) (.int b)
  | fdiv {a b : Int} (h : (0 < b ∧ b < 1000000) ∧ Q (.int (a.fdiv b)) mh) : binopI mh Q .FloorDiv (.int a) (.int b)
  | mod {a b : Int} (h : b ≠ 0 ∧ Q (.int (a.fmod b)) mh) : binopI mh Q .Mod (.int a) (.int b)
  | and {a b : Int} (h : Q (.int (Builtin.bitAnd a b)) mh) : binopI mh Q .BitAnd (.int a) (.int b)
  | or {a b : Int} (h : Q (.int (Builtin.bitOr a b)) mh) : binopI mh Q .BitOr (.int a) (.int b)
  | shr {a b : Int} (h : 0 ≤ b ∧ Q (.int (a.fdiv (2 ^ b.toNat))) mh) : binopI mh Q .RShift (.int a) (.int b)
  | shl {a b : Int} (h : (0 ≤ b ∧ b ≤ 1000000 ∧ a.natAbs < 2 ^ 60) ∧ Q (.int (a * 2 ^ b.toNat)) mh) : binopI mh Q .LShift (.int a) (.int b)
  | lists {i j : Nat} (h : ∃ xs ys, mh[i]? = some (.list xs) ∧ mh[j]? = some (.list ys) ∧ xs.length + ys.length ≤ 4096 ∧ Q (.ref mh.length) (mh ++ [.list (xs ++ ys)])) : binopI mh Q .Add (.ref i) (.ref j)
  | tups {xs ys : List MV} (h : xs ≠ [] ∧ ys ≠ [] ∧ xs.length + ys.length ≤ 4096 ∧ Q (.tup (xs ++ ys)) mh) : binopI mh Q .Add (.tup xs) (.tup ys)
  | rep {i : Nat} {n : Int} (h : ∃ x, mh[i]? = some (.list [x]) ∧ 0 ≤ n ∧ n ≤ 4096 ∧ Q (.ref mh.length) (mh ++ [.list (List.replicate n.toNat x)])) : binopI mh Q .Mult (.ref i) (.int n)
@[reducible] noncomputable def binopM (op : Operator) (a b : MV) (mh : MH) (Q : MV → MH → Prop) : Prop := binopI mh Q op a b

theorem VR.isInt {A scr h i v} (x : VR A scr h (.int i) v) : ∃ t, v = .int i t := by unfold VR at x; exact x
theorem VR.isRef {A scr h i v} (x : VR A scr h (.ref i) v) : ∃ a, A[i]? = some a ∧ v = .ref a := by unfold VR at x; exact x
theorem VR.isTup {A scr h ms v} (x : VR A scr h (.tup ms) v) : ∃ a vs n, v = .ref a ∧ a ∉ A ∧ IsT h a vs.toArray n ∧ VRs A scr h ms vs := by unfold VR at x; exact x
theorem VR.isStr {A scr h x v} (y : VR A scr h (.str x) v) : ∃ t, v = .str x t := by unfold VR at y; exact y
theorem VR.isBool {A scr h x v} (y : VR A scr h (.bool x) v) : v = .bool x := by unfold VR at y; exact y
theorem VR.isNone {A scr h v} (y : VR A scr h .none v) : v = .none := by unfold VR at y; exact y

theorem W.list {C A mh s} (x : W C A mh s) {i : Nat} {a xs} (hi : A[i]? = some a) (hm : mh[i]? = some (.list xs)) : ∃ vs n, IsL s.heap a vs.toArray n ∧ VRs A C.scr s.heap xs vs ∧ xs.length ≤ 4096 := x.objs i a _ hi hm

theorem line4 {n : Nat} (h : n ≤ 4096) : n ≤ sizeLine := Nat.le_trans h (by decide)

theorem Stp.alloc {A : List Addr} {s s' : Shared} {a : Addr} (ha : s.heap.get? a = none) (hk : ∀ b o, s.heap.get? b = some o → s'.heap.get? b = some o) : Stp [] A s (A ++ [a]) s' :=
  ⟨fun b o e _ _ => hk b o e, fun b o e _ _ => hk b o e, fun b e => by
    cases q : s.heap.get? b with
    | none => exact absurd q e
    | some o => rw [hk b o q]; exact (fun h => nomatch h), ⟨[a], rfl⟩, fun b hb => by
      rcases List.mem_append.mp hb with h | h
      · exact .inl h
      · rw [List.mem_singleton.mp h]; exact .inr ha⟩

theorem Post.alloc {C ad mh} {s s' : Shared} {Q : MV → MH → Prop} {mo : MO} {a : Addr} (hw : W C ad mh s) (ha : s.heap.get? a = none) (hk : ∀ b o, s.heap.get? b = some o → s'.heap.get? b = some o)
    (hr : Stp [] ad s (ad ++ [a]) s' → ObjR C (ad ++ [a]) s'.heap a mo) (hg : s'.gens = s.gens) (ho : s'.os = s.os) (hq : Q (.ref mh.length) (mh ++ [mo])) : Post C ad s Q (.ref a) s' := by
  have st := Stp.alloc (A := ad) ha hk
  refine ⟨.ref mh.length, mh ++ [mo], ad ++ [a], hq, ?_, (W.alloc hw ha hk (hr st) hg ho).1, st⟩
  unfold VR
  exact ⟨_, by rw [← hw.len]; simp, rfl⟩

theorem Post.newList {C ad mh} {s : Shared} {Q : MV → MH → Prop} {xs : List MV} {vs : List Value} {arr : Array Value} {tk : Nat} (hw : W C ad mh s) (hv : VRs ad C.scr s.heap xs vs) (hn : xs.length ≤ 4096) (ha : arr = vs.toArray)
    (hq : Q (.ref mh.length) (mh ++ [.list xs])) : Post C ad s Q (.ref s.heap.objs.size) { s with heap := s.heap.push { cls := .type "list", data := .seq arr }, toks := tk } := by
  subst ha
  exact Post.alloc (mo := .list xs) hw get_new (fun _ _ e => Heap.get?_push_of_some _ e) (fun st => ⟨vs, 0, Heap.get?_push_size _ rfl, hv.mono st, hn⟩) rfl rfl hq

theorem Post.newTup {C ad mh} {s : Shared} {Q : MV → MH → Prop} {xs : List MV} {vs : List Value} {arr : Array Value} {tk : Nat} (hw : W C ad mh s) (hv : VRs ad C.scr s.heap xs vs) (ha : arr = vs.toArray)
    (hq : Q (.tup xs) mh) : Post C ad s Q (.ref s.heap.objs.size) { s with heap := s.heap.push { cls := .type "tuple", data := .seq arr }, toks := tk } := by
  subst ha
  have st : Stp [] ad s ad { s with heap := s.heap.push { cls := .type "tuple", data := .seq vs.toArray }, toks := tk } := Stp.grow fun _ _ e => Heap.get?_push_of_some _ e
  refine ⟨.tup xs, mh, ad, hq, ?_, hw.grow (fun _ _ e => Heap.get?_push_of_some _ e) rfl rfl, st⟩
  unfold VR
  exact ⟨_, vs, 0, rfl, fun h => Nat.lt_irrefl _ (hw.lt h), Heap.get?_push_size _ rfl, hv.mono st⟩

theorem fold_rep (v : Value) : ∀ (n : Nat) (acc : Array Value), List.foldl (fun x1 x2 => x1 ++ x2) acc (List.replicate n #[v]) = acc ++ (List.replicate n v).toArray
  | 0, acc => by simp
  | n + 1, acc => by
    rw [List.replicate_succ, List.foldl_cons, fold_rep v n, List.replicate_succ]
    apply Array.toList_inj.mp
    simp
theorem VRs.replicate {A scr h m v} (x : VR A scr h m v) : ∀ n : Nat, VRs A scr h (List.replicate n m) (List.replicate n v)
  | 0 => .nil
  | n + 1 => .cons x (VRs.replicate x n)

theorem binop_ok {C : Cx} {k : Nat} {A : Around} {E : Value → Shared → Prop} {s : Shared} {ad mh op ma mb a b} {Q : MV → MH → Prop} (_hR : Room A k) (hW : W C ad mh s) (ha : VR ad C.scr s.heap ma a) (hb : VR ad C.scr s.heap mb b)
    (hP : binopM op ma mb mh Q) : wpAny C.M A (binaryOp op a b) (Post C ad s Q) E s := by
  rcases hP with ⟨hP⟩ | ⟨hP⟩ | ⟨hP⟩ | ⟨hP⟩ | ⟨hP⟩ | ⟨hP⟩ | ⟨hP⟩ | ⟨hP⟩ | ⟨hP⟩ | ⟨hP⟩ | ⟨hP⟩ | ⟨hP⟩
  · obtain ⟨t, rfl⟩ := ha.isInt; obtain ⟨u, rfl⟩ := hb.isInt
    exact add_int (Post.int hW hP)
  · obtain ⟨t, rfl⟩ := ha.isInt; obtain ⟨u, rfl⟩ := hb.isInt
    exact PyProof.Rows.sub_int (Post.int hW hP)
  · obtain ⟨t, rfl⟩ := ha.isInt; obtain ⟨u, rfl⟩ := hb.isInt
    obtain ⟨⟨h1, h2⟩, hP⟩ := hP
    exact PyProof.Rows.mul_int (Post.int hW hP) (IntMulOk.of_left (intBits_le (by lia)))
  · obtain ⟨t, rfl⟩ := ha.isInt; obtain ⟨u, rfl⟩ := hb.isInt
    obtain ⟨⟨h1, h2⟩, hP⟩ := hP
    exact floordiv_int (by lia) (Post.int hW hP) (Or.inl (PyProof.noPylong_small (by lia)))
  · obtain ⟨t, rfl⟩ := ha.isInt; obtain ⟨u, rfl⟩ := hb.isInt
    exact mod_int' hP.1 (Post.int hW hP.2)
  · obtain ⟨t, rfl⟩ := ha.isInt; obtain ⟨u, rfl⟩ := hb.isInt
    exact and_int (Post.int hW hP)
  · obtain ⟨t, rfl⟩ := ha.isInt; obtain ⟨u, rfl⟩ := hb.isInt
    exact or_int (Post.int hW hP)
  · obtain ⟨t, rfl⟩ := ha.isInt; obtain ⟨u, rfl⟩ := hb.isInt
    exact rshift_int hP.1 (Post.int hW hP.2)
  · obtain ⟨t, rfl⟩ := ha.isInt; obtain ⟨u, rfl⟩ := hb.isInt
    obtain ⟨⟨h1, h2, h3⟩, hP⟩ := hP
    exact lshift_int_small h1 h2 (by lia) (Post.int hW hP)
  · obtain ⟨xs, ys, h1, h2, h3, hP⟩ := hP
    obtain ⟨p, hp, rfl⟩ := ha.isRef
    obtain ⟨q, hq, rfl⟩ := hb.isRef
    obtain ⟨vs, n, l1, l2, _⟩ := hW.list hp h1
    obtain ⟨ws, n', m1, m2, _⟩ := hW.list hq h2
    have e1 := l2.length
    have e2 := m2.length
    refine P.add_list l1 m1 (Post.newList hW (l2.append m2) (by simpa using h3) (by simp) hP) (by simp only [List.size_toArray]; exact line4 (by lia))
  · obtain ⟨h1, h2, h3, hP⟩ := hP
    obtain ⟨p, vs, n, rfl, hp, l1, l2⟩ := ha.isTup
    obtain ⟨q, ws, n', rfl, hq, m1, m2⟩ := hb.isTup
    have e1 := l2.length
    have e2 := m2.length
    refine P.add_tuple l1 m1 ?_ ?_ (Post.newTup hW (l2.append m2) (by simp) hP) (by simp only [List.size_toArray]; exact line4 (by lia))
    · simp only [List.isEmpty_toArray, List.isEmpty_iff]; rintro rfl; exact h1 (List.length_eq_zero_iff.mp e1.symm)
    · simp only [List.isEmpty_toArray, List.isEmpty_iff]; rintro rfl; exact h2 (List.length_eq_zero_iff.mp e2.symm)
  · rename_i i n_1
    obtain ⟨x, h1, h2, h3, hP⟩ := hP
    obtain ⟨p, hp, rfl⟩ := ha.isRef
    obtain ⟨u, rfl⟩ := hb.isInt
    obtain ⟨vs, n, l1, l2, _⟩ := hW.list hp h1
    obtain ⟨v, r, rfl, hv, hr⟩ := l2.uncons
    have : r = [] := by unfold VRs at hr; exact hr
    subst this
    refine wpAny_binaryOp_repeat_ref (T := "list") (U := "int") (by decide) ⟨_, l1, rfl⟩ (fun s' => typeIs_int s' n_1 u) noFill_list_mul F.fills_int_mul F.slot_int_rmul repeat_list F.slot_int_index.lookup
      (call_meets F.slot_int_rmul (typeIs_int s n_1 u) F.entry_int_rmul (F.args_int_rmul_2 _ _) (int___rmul___int_list n_1 u p _ n)
        ⟨l1, rfl, ⟨_, l1, rfl⟩, call_meets F.slot_list_mul ⟨_, l1, rfl⟩ F.entry_list_mul (F.args_list_mul_2 _ _)
          (AutoListH.list___mul___list_int_3 p _ n n_1 u (by simp [Builtin.List.listFitsIndex]; lia) (by simp; lia) (by simp [Builtin.List.listTooLong, sizeLine]; lia))
          ⟨l1, Post.newList hW (VRs.replicate hv _) (by simp; lia) ?_ hP⟩⟩)
    rw [show (#[v] : Array Value).isEmpty = false from rfl]
    simp only [Bool.false_eq_true, if_false]
    rw [show ([v] : List Value).toArray = #[v] from rfl, fold_rep]
    simp

@[reducible] noncomputable def kBin2 (op : Operator) (Q : MV → MH → Prop) (a b : MV) (m : MH) : Prop := binopM op a b m Q
@[reducible] noncomputable def kBin1 (op : Operator) (Pr : MT) (Q : MV → MH → Prop) (vars : Vars) (a : MV) (m : MH) : Prop := Pr (kBin2 op Q a) vars m
@[reducible] noncomputable def tBin (op : Operator) (Pl Pr : MT) : MT := fun Q vars mh => Pl (kBin1 op Pr Q vars) vars mh
/-- two steps, one after the other -/
theorem SE_binop {C : Cx} {k : Nat} {tab env} {l r : Expr} {op pos} {Pl Pr : MT} (hl : SE C k tab env l Pl) (hr : SE C k tab env r Pr) :
    SE C k tab env (.BinOp l op r pos) (tBin op Pl Pr) := by
  intro A E s ad mh vars Q hR hW hV hP
  refine wpAny_BinOp (wpAny_mono (hl A E s ad mh vars _ hR hW hV hP) (fun va s1 h1 => ?_) fun _ _ e => e)
  obtain ⟨ma, mh1, ad1, hq, hva, hW1, st1⟩ := h1
  refine wpAny_mono (hr A E s1 ad1 mh1 vars _ hR hW1 (hV.step st1) hq) (fun vb s2 h2 => ?_) fun _ _ e => e
  obtain ⟨mb, mh2, ad2, hq2, hvb, hW2, st2⟩ := h2
  exact wpAny_mono (binop_ok hR hW2 (hva.mono st2) hvb hq2) (fun v s3 h3 => h3.trans (st1.trans st2)) fun _ _ e => e
noncomputable def atomEq : MV → MV → Option Bool
  | .int a, .int b => some (a == b)
  | .str a, .str b => some (a == b)
  | .bool a, .bool b => some (a == b)
  | _, _ => none

inductive AtomI : MV → MV → Bool → Prop
  | int (a b : Int) : AtomI (.int a) (.int b) (a == b)
  | str (a b : Str) : AtomI (.str a) (.str b) (a == b)
  | bool (a b : Bool) : AtomI (.bool a) (.bool b) (a == b)
theorem atom_inv {ma mb e} (h : atomEq ma mb = some e) : AtomI ma mb e := by
  cases ma with
  | int a => cases mb with
    | int b => cases h; exact .int a b
    | _ => cases h
  | str a => cases mb with
    | str b => cases h; exact .str a b
    | _ => cases h
  | bool a => cases mb with
    | bool b => cases h; exact .bool a b
    | _ => cases h
  | _ => cases h
theorem atom_at {A' : Around} {s : Shared} {A scr ma mb a b e} (h : atomEq ma mb = some e) (ha : VR A scr s.heap ma a) (hb : VR A scr s.heap mb b) : EqAt A' s a b e := by
  cases atom_inv h with
  | int a b => obtain ⟨t, rfl⟩ := ha.isInt; obtain ⟨u, rfl⟩ := hb.isInt; exact .int_int _ _ _ _
  | str a b => obtain ⟨t, rfl⟩ := ha.isStr; obtain ⟨u, rfl⟩ := hb.isStr; exact .str_str _ _ _ _
  | bool a b => have := ha.isBool; have := hb.isBool; subst_vars; exact .bool_bool _ _
theorem atom_rc {A' : Around} {s : Shared} {A scr ma mb a b e} (h : atomEq ma mb = some e) (ha : VR A scr s.heap ma a) (hb : VR A scr s.heap mb b) : RcAt A' s a b e := by
  cases atom_inv h with
  | int a b => obtain ⟨t, rfl⟩ := ha.isInt; obtain ⟨u, rfl⟩ := hb.isInt; exact .int_int _ _ _ _
  | str a b => obtain ⟨t, rfl⟩ := ha.isStr; obtain ⟨u, rfl⟩ := hb.isStr; exact .str_str _ _ _ _
  | bool a b => have := ha.isBool; have := hb.isBool; subst_vars; exact .bool_bool _ _
theorem atom_ne {A' : Around} {s : Shared} {A scr ma mb a b e} (h : atomEq ma mb = some e) (ha : VR A scr s.heap ma a) (hb : VR A scr s.heap mb b) : RcNeAt A' s a b (!e) := by
  cases atom_inv h with
  | int a b => obtain ⟨t, rfl⟩ := ha.isInt; obtain ⟨u, rfl⟩ := hb.isInt; exact .int_int _ _ _ _
  | str a b => obtain ⟨t, rfl⟩ := ha.isStr; obtain ⟨u, rfl⟩ := hb.isStr; exact .str_str _ _ _ _
  | bool a b => have := ha.isBool; have := hb.isBool; subst_vars; exact .bool_bool _ _

noncomputable def and2 : Option Bool → Option Bool → Option Bool
  | some x, some y => some (x && y)
  | _, _ => none
noncomputable def or2 : Option Bool → Option Bool → Option Bool
  | some x, some y => some (x || y)
  | _, _ => none
theorem and2_inv {a b e} (h : and2 a b = some e) : ∃ x y, a = some x ∧ b = some y ∧ (x && y) = e := by
  cases a with
  | none => cases h
  | some x => cases b with
    | none => cases h
    | some y => cases h; exact ⟨x, y, rfl, rfl, rfl⟩
theorem or2_inv {a b e} (h : or2 a b = some e) : ∃ x y, a = some x ∧ b = some y ∧ (x || y) = e := by
  cases a with
  | none => cases h
  | some x => cases b with
    | none => cases h
    | some y => cases h; exact ⟨x, y, rfl, rfl, rfl⟩
/-- item by item, lists of one length -/
noncomputable def allEq (eq : MV → MV → Option Bool) : List MV → List MV → Option Bool
  | [], [] => some true
  | a :: r, b :: q => and2 (eq a b) (allEq eq r q)
  | [], _ :: _ => none
  | _ :: _, [] => none

noncomputable def anyEq (x : MV) : List MV → Option Bool
  | [] => some false
  | a :: r => or2 (atomEq a x) (anyEq x r)

/-- values compared without their tokens -/
noncomputable def vEq : Value → Value → Bool
  | .int a _, .int b _ => a == b
  | .str a _, .str b _ => a == b
  | .bool a, .bool b => a == b
  | _, _ => false

theorem atom_v {A scr h ma mb a b e} (hh : atomEq ma mb = some e) (ha : VR A scr h ma a) (hb : VR A scr h mb b) : vEq a b = e := by
  cases atom_inv hh with
  | int a b => obtain ⟨t, rfl⟩ := ha.isInt; obtain ⟨u, rfl⟩ := hb.isInt; rfl
  | str a b => obtain ⟨t, rfl⟩ := ha.isStr; obtain ⟨u, rfl⟩ := hb.isStr; rfl
  | bool a b => have := ha.isBool; have := hb.isBool; subst_vars; rfl

theorem any_at {A' : Around} {s : Shared} {A scr x v} (hx : VR A scr s.heap x v) : ∀ {ms vs e}, VRs A scr s.heap ms vs → anyEq x ms = some e →
    (∀ y, y ∈ vs → EqAt A' s y v (vEq y v)) ∧ vs.any (fun y => vEq y v) = e
  | [], _, e, h, q => by
    unfold VRs at h; subst h
    cases q
    exact ⟨(fun _ h => nomatch h), rfl⟩
  | m :: ms, _, e, h, q => by
    obtain ⟨u, r, rfl, hu, hr⟩ := h.uncons
    obtain ⟨e1, e2, q1, q2, rfl⟩ := or2_inv q
    obtain ⟨i1, i2⟩ := any_at hx hr q2
    have e3 := atom_v q1 hu hx
    refine ⟨fun y hy => ?_, by rw [List.any_cons, e3, i2]⟩
    rcases List.mem_cons.mp hy with rfl | hy
    · rw [e3]; exact atom_at q1 hu hx
    · exact i1 y hy

theorem all_at {A' : Around} {s : Shared} {A scr} {eq : MV → MV → Option Bool} (heq : ∀ {ma mb a b e}, eq ma mb = some e → VR A scr s.heap ma a → VR A scr s.heap mb b → EqAt A' s a b e) :
    ∀ {ms ns vs us e}, VRs A scr s.heap ms vs → VRs A scr s.heap ns us → allEq eq ms ns = some e →
    ∃ f : Nat → Bool, (∀ j (h1 : j < vs.length) (h2 : j < us.length), EqAt A' s vs[j] us[j] (f j)) ∧ (List.range vs.length).all f = e ∧ vs.length = us.length
  | [], [], _, _, e, h, k, q => by
    unfold VRs at h k; subst h; subst k
    cases q
    exact ⟨fun _ => true, fun j h1 => absurd h1 (Nat.not_lt_zero _), rfl, rfl⟩
  | m :: ms, n :: ns, _, _, e, h, k, q => by
    obtain ⟨u, r, rfl, hu, hr⟩ := h.uncons
    obtain ⟨u', r', rfl, hu', hr'⟩ := k.uncons
    obtain ⟨e1, e2, q1, q2, rfl⟩ := and2_inv q
    obtain ⟨f, i1, i2, i3⟩ := all_at heq hr hr' q2
    refine ⟨fun j => Nat.casesOn j e1 f, fun j h1 h2 => ?_, ?_, congrArg Nat.succ i3⟩
    · cases j with
      | zero => exact heq q1 hu hu'
      | succ j => exact i1 j (Nat.lt_of_succ_lt_succ h1) (Nat.lt_of_succ_lt_succ h2)
    · rw [List.length_cons, List.range_succ_eq_map, List.all_cons, List.all_map, ← i2]
      rfl
  | [], _ :: _, _, _, e, h, k, q => by cases q
  | _ :: _, [], _, _, e, h, k, q => by cases q

noncomputable def listEq (xs ys : List MV) : Option Bool := if xs.length = ys.length then allEq atomEq xs ys else some false

noncomputable def look (es : List (Int × MV)) (k : Int) : Option MV := (es.find? fun e => decide (e.1 = k)).map (·.2)

noncomputable def hitsM (fs : List (Int × MV)) : List (Int × MV) → Option Bool
  | [] => some true
  | (k, v) :: r => match look fs k with
    | none => some false
    | some y => and2 (atomEq v y) (hitsM fs r)

noncomputable def eqO : Option MO → Option MO → Option Bool
  | some (.list xs), some (.list ys) => listEq xs ys
  | some (.dict es), some (.dict fs) => if es.length = fs.length then hitsM fs es else some false
  | _, _ => none
inductive EqOI (e : Bool) : Option MO → Option MO → Prop
  | list (xs ys) (h : listEq xs ys = some e) : EqOI e (some (.list xs)) (some (.list ys))
  | dict (es fs) (h : (if es.length = fs.length then hitsM fs es else some false) = some e) : EqOI e (some (.dict es)) (some (.dict fs))
theorem eqO_inv {a b e} (h : eqO a b = some e) : EqOI e a b := by
  cases a with
  | none => cases h
  | some a => cases a with
    | list xs => cases b with
      | none => cases h
      | some b => cases b with
        | list ys => exact .list xs ys h
        | _ => cases h
    | dict es => cases b with
      | none => cases h
      | some b => cases b with
        | dict fs => exact .dict es fs h
        | _ => cases h
    | _ => cases h
noncomputable def eq1 (mh : MH) : MV → MV → Option Bool
  | .ref i, .ref j => eqO mh[i]? mh[j]?
  | a, b => atomEq a b

theorem look_at {A scr h} {k : Int} : ∀ {es : List (Int × MV)} {kvs : List (Int × Value)}, kvs.map (·.1) = es.map (·.1) → VRs A scr h (es.map (·.2)) (kvs.map (·.2)) →
    match look es k with | none => valueAt kvs k = none | some m => ∃ v, valueAt kvs k = some v ∧ VR A scr h m v
  | [], [], _, _ => by simp [look, valueAt]
  | (k', m) :: es, (k'', v) :: kvs, e, r => by
    simp only [List.map_cons, List.cons.injEq] at e
    obtain ⟨rfl, e⟩ := e
    obtain ⟨u, q, e', hu, hq⟩ := r.uncons
    simp only [List.map_cons, List.cons.injEq] at e'
    obtain ⟨rfl, e'⟩ := e'
    subst e'
    by_cases hk : k'' = k
    · subst hk
      simp [look, valueAt]
      exact hu
    · have ih := look_at (k := k) e hq
      have e1 : look ((k'', m) :: es) k = look es k := by simp [look, List.find?_cons, hk]
      have e2 : valueAt ((k'', v) :: kvs) k = valueAt kvs k := by simp [valueAt, List.find?_cons, hk]
      rw [e1, e2]
      exact ih
  | [], _ :: _, e, _ => by cases e
  | _ :: _, [], e, _ => by cases e

theorem hits_at {A' : Around} {s : Shared} {A scr} {fs : List (Int × MV)} {kb : List (Int × Value)} (hb1 : kb.map (·.1) = fs.map (·.1)) (hb2 : VRs A scr s.heap (fs.map (·.2)) (kb.map (·.2))) :
    ∀ {es : List (Int × MV)} {ka : List (Int × Value)} {r}, ka.map (·.1) = es.map (·.1) → VRs A scr s.heap (es.map (·.2)) (ka.map (·.2)) → hitsM fs es = some r → KeqHits A' s kb ka r
  | [], [], r, _, _, q => by cases q; exact .nil
  | (k', m) :: es, (k'', v) :: ka, r, e, x, q => by
    simp only [List.map_cons, List.cons.injEq] at e
    obtain ⟨rfl, e⟩ := e
    obtain ⟨u, q', e', hu, hq⟩ := x.uncons
    simp only [List.map_cons, List.cons.injEq] at e'
    obtain ⟨rfl, e'⟩ := e'
    subst e'
    have hl := look_at (k := k'') hb1 hb2
    unfold hitsM at q
    split at q
    · rename_i hn; rw [hn] at hl; cases q; exact .miss hl
    · rename_i y hn
      rw [hn] at hl
      obtain ⟨w, hw, hy⟩ := hl
      obtain ⟨e1, b1, q1, q2, rfl⟩ := and2_inv q
      exact .hit hw (atom_at q1 hu hy) (hits_at hb1 hb2 e hq q2)
  | [], _ :: _, _, e, _, _ => by cases e
  | _ :: _, [], _, e, _, _ => by cases e

theorem IsL.isL {h : Heap} {l : Addr} {vs : Array Value} {n : Nat} (x : IsL h l vs n) : h.IsList l vs := ⟨_, x, rfl, n, rfl⟩
theorem IsT.isT {h : Heap} {l : Addr} {vs : Array Value} {n : Nat} (x : IsT h l vs n) : h.IsTuple l vs := ⟨_, x, rfl, n, rfl⟩

theorem list_rc {C : Cx} {A' : Around} {s : Shared} {A : List Addr} {mh} (hu : A'.units < cLine) (hW : W C A mh s) {i j : Nat} {a b xs ys e} (hi : A[i]? = some a) (hj : A[j]? = some b) (h1 : mh[i]? = some (.list xs)) (h2 : mh[j]? = some (.list ys))
    (h : listEq xs ys = some e) : RcAt A' s (.ref a) (.ref b) e ∧ RcNeAt A' s (.ref a) (.ref b) (!e) := by
  obtain ⟨vs, n, l1, l2, _⟩ := hW.list hi h1
  obtain ⟨us, n', m1, m2, _⟩ := hW.list hj h2
  have e1 := l2.length
  have e2 := m2.length
  unfold listEq at h
  split at h
  · rename_i hl
    obtain ⟨f, i1, i2, i3⟩ := all_at (A' := A'.in1) (s := s) (fun q ha hb => atom_at q ha hb) l2 m2 h
    refine ⟨?_, ?_⟩
    · have := RcAt.lists (A := A') (e := f) (IsL.isL l1) (IsL.isL m1) (by simp [i3]) hu (fun j h1 h2 => by simpa using i1 j (by simpa using h1) (by simpa using h2))
      rw [List.size_toArray, i2] at this
      exact this
    · have := RcNeAt.lists (A := A') (e := f) (IsL.isL l1) (IsL.isL m1) (by simp [i3]) hu (fun j h1 h2 => by simpa using i1 j (by simpa using h1) (by simpa using h2))
      rw [List.size_toArray, i2] at this
      exact this
  · rename_i hl
    cases h
    have hne : (vs.toArray.size != us.toArray.size) = true := by simp; lia
    exact ⟨RcAt.lists_lengths (IsL.isL l1) (IsL.isL m1) hne hu, RcNeAt.lists_lengths (IsL.isL l1) (IsL.isL m1) hne hu⟩

theorem W.dict {C A mh s} (x : W C A mh s) {i : Nat} {a es} (hi : A[i]? = some a) (hm : mh[i]? = some (.dict es)) :
    ∃ kvs : List (Int × Value), s.heap.DictOf (intKind C.prog C.w) a kvs ∧ kvs.map (·.1) = es.map (·.1) ∧ VRs A C.scr s.heap (es.map (·.2)) (kvs.map (·.2)) ∧ es.length ≤ 4096 ∧ (a == sysModules) = false := x.objs i a _ hi hm
theorem W.fz {C A mh s} (x : W C A mh s) {i : Nat} {a es ep} (hi : A[i]? = some a) (hm : mh[i]? = some (.fz es ep)) :
    ∃ kvs : List (Int × Value), s.heap.DictOf (intKind C.prog C.w) a kvs ∧ kvs.map (·.1) = es.map (·.1) ∧ VRs A C.scr s.heap (es.map (·.2)) (kvs.map (·.2)) ∧ es.length ≤ 4096 ∧ (a == sysModules) = false := by
  obtain ⟨kvs, h1, h2⟩ := x.objs i a _ hi hm
  exact ⟨kvs, h1.dictOf, h2⟩
theorem W.sdict {C A mh s} (x : W C A mh s) {i : Nat} {a es} (hi : A[i]? = some a) (hm : mh[i]? = some (.sdict es)) :
    ∃ kvs : List (Str × Value), s.heap.DictOf (strKind C.prog C.w) a kvs ∧ kvs.map (·.1) = es.map (·.1) ∧ VRs A C.scr s.heap (es.map (·.2)) (kvs.map (·.2)) ∧ es.length ≤ 4096 ∧ (a == sysModules) = false := x.objs i a _ hi hm
noncomputable def tupEq (mh : MH) (a b : MV) : Option Bool := match a, b with | .ref i, .ref j => if i = j then none else eq1 mh (.ref i) (.ref j) | a, b => atomEq a b

noncomputable def eqL : Option MO → Option MO → Option Bool
  | some (.list xs), some (.list ys) => listEq xs ys
  | _, _ => none
theorem eqL_inv {a b e} (h : eqL a b = some e) : ∃ xs ys, a = some (.list xs) ∧ b = some (.list ys) ∧ listEq xs ys = some e := by
  cases a with
  | none => cases h
  | some a => cases a with
    | list xs => cases b with
      | none => cases h
      | some b => cases b with
        | list ys => exact ⟨xs, ys, rfl, rfl, h⟩
        | _ => cases h
    | _ => cases h
noncomputable def eqTop (mh : MH) : MV → MV → Option Bool
  | .ref i, .ref j => eqL mh[i]? mh[j]?
  | .tup xs, .tup ys => allEq (tupEq mh) xs ys
  | a, b => atomEq a b

noncomputable def inK (es : List (Int × MV)) : MV → Option Bool
  | .int k => some (look es k).isSome
  | _ => none
theorem inK_inv {es x r} (h : inK es x = some r) : ∃ k, x = .int k ∧ (look es k).isSome = r := by
  cases x with
  | int k => cases h; exact ⟨k, rfl, rfl⟩
  | _ => cases h
noncomputable def inO (x : MV) : Option MO → Option Bool
  | some (.list xs) => anyEq x xs
  | some (.dict es) => inK es x
  | some (.fz es _) => inK es x
  | _ => none
noncomputable def inM (mh : MH) (x : MV) : MV → Option Bool
  | .ref i => inO x mh[i]?
  | .tup xs => anyEq x xs
  | _ => none

noncomputable def isNoneM : MV → Bool
  | .none => true
  | _ => false

noncomputable def asInt : MV → Option Int
  | .int a => some a
  | _ => none
theorem asInt_some {a : MV} {x : Int} (h : asInt a = some x) : a = .int x := by
  cases a with
  | int y => cases h; rfl
  | _ => cases h
noncomputable def ints2 (a b : MV) (f : Int → Int → Bool) : Option Bool := (asInt a).bind fun x => (asInt b).map (f x)
theorem ints2_some {a b : MV} {f : Int → Int → Bool} {r : Bool} (h : ints2 a b f = some r) : ∃ x y, a = .int x ∧ b = .int y ∧ f x y = r := by
  obtain ⟨x, h1, h2⟩ := Option.bind_eq_some_iff.mp h
  obtain ⟨y, h3, h4⟩ := Option.map_eq_some_iff.mp h2
  exact ⟨x, y, asInt_some h1, asInt_some h3, h4⟩
noncomputable def isN2 (b : MV) (r : Bool) : Option Bool := if isNoneM b = true then some r else none
noncomputable def cmpM (op : CmpOp) (a b : MV) (mh : MH) : Option Bool :=
  match op with
  | .Eq => eqTop mh a b
  | .NotEq => (eqTop mh a b).map (!·)
  | .Lt => ints2 a b fun a b => decide (a < b)
  | .LtE => ints2 a b fun a b => decide (a ≤ b)
  | .Gt => ints2 a b fun a b => decide (b < a)
  | .GtE => ints2 a b fun a b => decide (b ≤ a)
  | .Is => isN2 b (isNoneM a)
  | .IsNot => isN2 b (!isNoneM a)
  | .In => inM mh a b
  | .NotIn => (inM mh a b).map (!·)

theorem pairs_world {p p' : Program} {w w' : World} {es : List DictEntry} {kvs : List (Int × Value)} (h : Pairs (intKind p w) es kvs) : Pairs (intKind p' w') es kvs := by
  induction h with
  | nil => exact .nil
  | cons h1 h2 _ ih => exact .cons h1 h2 ih
theorem dict_world {p p' : Program} {w w' : World} {h : Heap} {a : Addr} {kvs : List (Int × Value)} (x : h.DictOf (intKind p w) a kvs) : h.DictOf (intKind p' w') a kvs := by
  obtain ⟨o, es, ep, h1, h2, h3, h4, h5, h6⟩ := x
  exact ⟨o, es, ep, h1, h2, h3, h4, pairs_world h5, h6⟩

theorem eq1_at {C : Cx} {A' : Around} {s : Shared} {A : List Addr} {mh} (hu : A'.units < cLine) (hW : W C A mh s) {i j : Nat} {a b : Value} {e} (hij : i ≠ j) (ha : VR A C.scr s.heap (.ref i) a) (hb : VR A C.scr s.heap (.ref j) b)
    (h : eq1 mh (.ref i) (.ref j) = some e) : EqAt A' s a b e := by
  obtain ⟨p, hp, rfl⟩ := ha.isRef
  obtain ⟨q, hq, rfl⟩ := hb.isRef
  have hne : p ≠ q := nodup_ne hW.nodup hp hq hij
  refine .of_refs hne ?_
  have h : eqO mh[i]? mh[j]? = some e := h
  generalize h1 : mh[i]? = oi at h
  generalize h2 : mh[j]? = oj at h
  cases eqO_inv h with
  | list xs ys h' =>
    exact (list_rc hu hW hp hq h1 h2 h').1
  | dict es fs h' =>
    have h := h'
    obtain ⟨ka, d1, d2, d3, _, d5⟩ := hW.dict hp h1
    obtain ⟨kb, f1, f2, f3, _, f5⟩ := hW.dict hq h2
    intro prog w E Q hQ
    have el : ka.length = es.length := by have := congrArg List.length d2; simpa using this
    have fl : kb.length = fs.length := by have := congrArg List.length f2; simpa using this
    show wpAny (model prog w) A' (compareOp .Eq (.ref p) (.ref q)) Q E s
    split at h
    · rename_i hl
      refine keq_eq (r := e) d5 f5 (dict_world d1) (dict_world f1) hu (fun _ => hits_at f2 f3 d2 d3 h) ?_
      rw [el, fl, hl]
      simpa using hQ
    · rename_i hl
      cases h
      refine keq_eq (r := false) d5 f5 (dict_world d1) (dict_world f1) hu (fun hh => absurd (by rw [← el, ← fl]; exact hh) hl) ?_
      simpa using hQ

theorem tupEq_at {C : Cx} {A' : Around} {s : Shared} {A : List Addr} {mh} (hu : A'.units < cLine) (hW : W C A mh s) {ma mb : MV} {a b : Value} {e} (h : tupEq mh ma mb = some e) (ha : VR A C.scr s.heap ma a) (hb : VR A C.scr s.heap mb b) : EqAt A' s a b e := by
  cases ma with
  | ref i => cases mb with
    | ref j =>
      have h : (if i = j then none else eq1 mh (.ref i) (.ref j)) = some e := h
      by_cases hij : i = j
      · rw [if_pos hij] at h; cases h
      · rw [if_neg hij] at h
        exact eq1_at hu hW hij ha hb h
    | _ => cases h
  | _ => refine atom_at ?_ ha hb; exact h

theorem eqTop_ok {C : Cx} {A : Around} {s : Shared} {ad mh ma mb a b e} (hu : A.units + 64 < cLine) (hW : W C ad mh s) (ha : VR ad C.scr s.heap ma a) (hb : VR ad C.scr s.heap mb b) (h : eqTop mh ma mb = some e) :
    RcAt A s a b e ∧ RcNeAt A s a b (!e) := by
  cases ma with
  | ref i =>
    cases mb with
    | ref j =>
      obtain ⟨p, hp, rfl⟩ := ha.isRef
      obtain ⟨q, hq, rfl⟩ := hb.isRef
      obtain ⟨xs, ys, h1, h2, h⟩ := eqL_inv h
      exact list_rc (by lia) hW hp hq h1 h2 h
    | _ => cases h
  | tup xs =>
   cases mb with
   | tup ys =>
    have h : allEq (tupEq mh) xs ys = some e := h
    obtain ⟨p, vs, n, rfl, _, l1, l2⟩ := ha.isTup
    obtain ⟨q, us, n', rfl, _, m1, m2⟩ := hb.isTup
    obtain ⟨f, i1, i2, i3⟩ := all_at (A' := A.in1) (s := s) (eq := tupEq mh) (fun q ha hb => tupEq_at (by simp; lia) hW q ha hb) l2 m2 h
    refine ⟨?_, ?_⟩
    · have := RcAt.tuples (A := A) (e := f) (IsT.isT l1) (IsT.isT m1) (by lia) (fun j h1 h2 => by simpa using i1 j (by simpa using h1) (by simpa using h2))
      rw [List.size_toArray, List.size_toArray, i3, Nat.min_self, ← i3, i2] at this
      simpa using this
    · have := RcNeAt.tuples (A := A) (e := f) (IsT.isT l1) (IsT.isT m1) (by lia) (fun j h1 h2 => by simpa using i1 j (by simpa using h1) (by simpa using h2))
      rw [List.size_toArray, List.size_toArray, i3, Nat.min_self, ← i3, i2] at this
      simpa using this
   | _ => cases h
  | _ => refine ⟨atom_rc ?_ ha hb, atom_ne ?_ ha hb⟩ <;> exact h

theorem isNone_v {A scr h m v} (x : VR A scr h m v) : (v == Value.none) = isNoneM m := by
  cases m with
  | none => rw [x.isNone]; rfl
  | bool b => rw [x.isBool]; rfl
  | int i => obtain ⟨t, rfl⟩ := x.isInt; rfl
  | str i => obtain ⟨t, rfl⟩ := x.isStr; rfl
  | ref i => obtain ⟨t, _, rfl⟩ := x.isRef; rfl
  | range a b c => unfold VR at x; obtain ⟨_, _, _, _, rfl, _⟩ := x; rfl
  | script => unfold VR at x; subst x; rfl
  | tup xs => obtain ⟨t, _, _, rfl, _⟩ := x.isTup; rfl

theorem in_ok {C : Cx} {A : Around} {E : Value → Shared → Prop} {s : Shared} {ad mh mx mc x c r} {Q : Value → Shared → Prop} (hu : A.units + 64 < cLine) (hW : W C ad mh s) (hx : VR ad C.scr s.heap mx x) (hc : VR ad C.scr s.heap mc c)
    (hP : inM mh mx mc = some r) (neg : Bool) (h : ∀ tk, Q (.bool (if neg then !r else r)) { s with toks := tk }) : wpAny C.M A (compareOp (if neg then .NotIn else .In) x c) Q E s := by
  have dc : ∀ {p : Addr} {es : List (Int × MV)} {ka : List (Int × Value)}, s.heap.DictOf (intKind C.prog C.w) p ka → ka.map (·.1) = es.map (·.1) → VRs ad C.scr s.heap (es.map (·.2)) (ka.map (·.2)) → (p == sysModules) = false → inK es mx = some r →
      wpAny C.M A (compareOp (if neg then .NotIn else .In) x (.ref p)) Q E s := fun {p es ka} d1 d2 d3 d5 hK => by
    obtain ⟨k, rfl, rfl⟩ := inK_inv hK
    obtain ⟨t, rfl⟩ := hx.isInt
    have hl := look_at (k := k) d2 d3
    have e : (valueAt ka k).isSome = (look es k).isSome := by
      cases q : look es k with
      | none => rw [q] at hl; rw [show valueAt ka k = none from hl]; rfl
      | some m => rw [q] at hl; obtain ⟨v, hv, _⟩ := hl; rw [hv]; rfl
    have hs := h (s.toks + 1)
    cases neg with
    | false => exact wpAny_in_of (knd := intKind C.prog C.w) (k := k) (by simp [intKind, Value.isInt]) d5 d1.mapOf (by rw [e]; simpa using hs)
    | true => exact wpAny_notIn_of (knd := intKind C.prog C.w) (k := k) (by simp [intKind, Value.isInt]) d5 d1.mapOf (by rw [e]; simpa using hs)
  cases mc with
  | ref i =>
    obtain ⟨p, hp, rfl⟩ := hc.isRef
    have hP : inO mx mh[i]? = some r := hP
    generalize h1 : mh[i]? = o at hP
    cases o with
    | none => cases hP
    | some o => cases o with
      | list xs =>
        obtain ⟨vs, n, l1, l2, _⟩ := hW.list hp h1
        obtain ⟨i1, i2⟩ := any_at (A' := A.in1) (s := s) hx l2 hP
        have hs := h s.toks
        cases neg with
        | false => exact in_listAt (fun y => vEq y x) (IsL.isL l1) (fun y hy => i1 y (by simpa using hy)) (by simpa [i2] using hs)
        | true => exact notIn_listAt (fun y => vEq y x) (IsL.isL l1) (fun y hy => i1 y (by simpa using hy)) (by simpa [i2] using hs)
      | dict es => obtain ⟨ka, d1, d2, d3, _, d5⟩ := hW.dict hp h1; exact dc d1 d2 d3 d5 hP
      | fz es ep => obtain ⟨ka, d1, d2, d3, _, d5⟩ := hW.fz hp h1; exact dc d1 d2 d3 d5 hP
      | sdict es => cases hP
  | tup xs =>
    have hP : anyEq mx xs = some r := hP
    obtain ⟨p, vs, n, rfl, _, l1, l2⟩ := hc.isTup
    obtain ⟨i1, i2⟩ := any_at (A' := A.in1) (s := s) hx l2 hP
    have hs := h s.toks
    cases neg with
    | false => exact in_tupleAt (fun y => vEq y x) (IsT.isT l1) (fun y hy => i1 y (by simpa using hy)) (by simpa [i2] using hs)
    | true => exact notIn_tupleAt (fun y => vEq y x) (IsT.isT l1) (fun y hy => i1 y (by simpa using hy)) (by simpa [i2] using hs)
  | _ => cases hP

theorem cmp_ok {C : Cx} {A : Around} {E : Value → Shared → Prop} {s : Shared} {ad mh op ma mb a b r} {Q : Value → Shared → Prop} (hu : A.units + 64 < cLine) (hW : W C ad mh s) (ha : VR ad C.scr s.heap ma a) (hb : VR ad C.scr s.heap mb b)
    (hP : cmpM op ma mb mh = some r) (h : ∀ tk, Q (.bool r) { s with toks := tk }) : wpAny C.M A (compareOp op a b) Q E s := by
  have hs := h s.toks
  have none2 : ∀ {r' : Bool}, isN2 mb r' = some r → mb = .none ∧ r' = r := fun {r'} h => by
    unfold isN2 at h
    cases mb with
    | none => cases h; exact ⟨rfl, rfl⟩
    | _ => cases h
  cases op with
  | Eq => exact (eqTop_ok hu hW ha hb hP).1 C.prog C.w E Q hs
  | NotEq =>
    obtain ⟨e, q, rfl⟩ := Option.map_eq_some_iff.mp hP
    exact (eqTop_ok hu hW ha hb q).2 C.prog C.w E Q hs
  | Lt => obtain ⟨x, y, rfl, rfl, rfl⟩ := ints2_some hP; obtain ⟨t, rfl⟩ := ha.isInt; obtain ⟨u, rfl⟩ := hb.isInt; exact lt_int hs
  | LtE => obtain ⟨x, y, rfl, rfl, rfl⟩ := ints2_some hP; obtain ⟨t, rfl⟩ := ha.isInt; obtain ⟨u, rfl⟩ := hb.isInt; exact PyProof.Rows.le_int hs
  | Gt => obtain ⟨x, y, rfl, rfl, rfl⟩ := ints2_some hP; obtain ⟨t, rfl⟩ := ha.isInt; obtain ⟨u, rfl⟩ := hb.isInt; exact gt_int hs
  | GtE => obtain ⟨x, y, rfl, rfl, rfl⟩ := ints2_some hP; obtain ⟨t, rfl⟩ := ha.isInt; obtain ⟨u, rfl⟩ := hb.isInt; exact PyProof.Rows.ge_int hs
  | Is =>
    obtain ⟨rfl, rfl⟩ := none2 hP
    rw [hb.isNone]
    exact is_none_gen (by rw [isNone_v ha]; exact hs)
  | IsNot =>
    obtain ⟨rfl, rfl⟩ := none2 hP
    rw [hb.isNone]
    exact isnot_none_gen (by rw [isNone_v ha]; exact hs)
  | In => exact in_ok hu hW ha hb hP false (fun tk => h tk)
  | NotIn =>
    obtain ⟨e, q, rfl⟩ := Option.map_eq_some_iff.mp hP
    exact in_ok hu hW ha hb q true (fun tk => h tk)

noncomputable def truthO : Option MO → Option Bool
  | some (.list xs) => some (!xs.isEmpty)
  | _ => none
theorem truthO_inv {a r} (h : truthO a = some r) : ∃ xs, a = some (.list xs) ∧ (!xs.isEmpty) = r := by
  cases a with
  | none => cases h
  | some a => cases a with
    | list xs => cases h; exact ⟨xs, rfl, rfl⟩
    | _ => cases h
noncomputable def truthM (mh : MH) : MV → Option Bool
  | .bool b => some b
  | .int a => some (a != 0)
  | .ref i => truthO mh[i]?
  | _ => none

theorem truth_ok {C : Cx} {A : Around} {E : Value → Shared → Prop} {s : Shared} {ad mh ma a r} {Q : Bool → Shared → Prop} (hW : W C ad mh s) (ha : VR ad C.scr s.heap ma a)
    (hP : truthM mh ma = some r) (h : ∀ tk, Q r { s with toks := tk }) : wpAny C.M A (truthy a) Q E s := by
  cases ma with
  | bool b => cases hP; rw [ha.isBool]; exact wpAny_truthy_bool (h s.toks)
  | int i => cases hP; obtain ⟨t, rfl⟩ := ha.isInt; exact PySem.P.truthy_int (h s.toks)
  | ref i =>
    obtain ⟨p, hp, rfl⟩ := ha.isRef
    obtain ⟨xs, h1, rfl⟩ := truthO_inv hP
    obtain ⟨vs, n, l1, l2, l3⟩ := hW.list hp h1
    have e := l2.length
    refine wpAny_truthy_list (IsL.isL l1) (by rw [List.size_toArray]; lia) ?_
    have : vs.toArray.isEmpty = xs.isEmpty := by
      cases vs with
      | nil => cases xs with
        | nil => rfl
        | cons => cases e
      | cons => cases xs with
        | nil => cases e
        | cons => rfl
    rw [this]
    exact h _
  | _ => cases hP

/-! ### tests -/
abbrev BT := (Bool → MH → Prop) → Vars → MH → Prop
inductive PostB (C : Cx) (ad : List Addr) (s : Shared) (Q : Bool → MH → Prop) (b : Bool) (s' : Shared) : Prop
  | intro (mh' : MH) (ad' : List Addr) (q : Q b mh') (w : W C ad' mh' s') (st : Stp [] ad s ad' s')
theorem PostB.trans {C ad s ad1 s1 Q v s'} (st : Stp [] ad s ad1 s1) (p : PostB C ad1 s1 Q v s') : PostB C ad s Q v s' := by
  obtain ⟨mh', ad', h1, h3, h4⟩ := p
  exact ⟨mh', ad', h1, h3, st.trans h4⟩
theorem PostB.now {C ad mh} {s : Shared} {Q : Bool → MH → Prop} {b : Bool} {tk : Nat} (hw : W C ad mh s) (hq : Q b mh) : PostB C ad s Q b { s with toks := tk } := ⟨mh, ad, hq, hw.toks tk, Stp.toks tk⟩

noncomputable def ST (C : Cx) (k : Nat) (tab : List (Str × Nat)) (env : Env) (e : Expr) (P : BT) : Prop :=
  ∀ (A : Around) (E : Value → Shared → Prop) (s : Shared) (ad : List Addr) (mh : MH) (vars : Vars) (Q : Bool → MH → Prop),
    Room A k → W C ad mh s → VOK C tab env ad s.heap vars → P Q vars mh → wpAny C.M A (isTrue e env (eval e env)) (PostB C ad s Q) E s

section
variable {C : Cx} {k : Nat} {tab : List (Str × Nat)} {env : Env}

theorem Room.u {A k} (h : Room A k) : A.units + 64 < cLine := by have := h.units; lia

@[reducible] noncomputable def kCmp2 (op : CmpOp) (Q : MV → MH → Prop) (a b : MV) (m : MH) : Prop := ∃ e, cmpM op a b m = some e ∧ Q (.bool e) m
@[reducible] noncomputable def kCmp1 (op : CmpOp) (Pr : MT) (Q : MV → MH → Prop) (vars : Vars) (a : MV) (m : MH) : Prop := Pr (kCmp2 op Q a) vars m
@[reducible] noncomputable def tCmp (op : CmpOp) (Pl Pr : MT) : MT := fun Q vars mh => Pl (kCmp1 op Pr Q vars) vars mh
theorem SE_cmp {l r op pos} {Pl Pr : MT} (hl : SE C k tab env l Pl) (hr : SE C k tab env r Pr) (hm : behindInMarks op r = false) :
    SE C k tab env (.Compare l [op] [r] pos) (tCmp op Pl Pr) := by
  intro A E s ad mh vars Q hR hW hV hP
  refine wpAny_Compare1 (wpAny_mono (hl A E s ad mh vars _ hR hW hV hP) (fun va s1 h1 => ?_) fun _ _ e => e) hm
  obtain ⟨ma, mh1, ad1, hq, hva, hW1, st1⟩ := h1
  refine wpAny_mono (hr A E s1 ad1 mh1 vars _ hR hW1 (hV.step st1) hq) (fun vb s2 h2 => ?_) fun _ _ e => e
  obtain ⟨mb, mh2, ad2, ⟨e, hc, hq2⟩, hvb, hW2, st2⟩ := h2
  exact cmp_ok hR.u hW2 (hva.mono st2) hvb hc fun tk => Post.trans (st1.trans st2) (Post.bool hW2 hq2)

@[reducible] noncomputable def kTst2 (op : CmpOp) (Q : Bool → MH → Prop) (a b : MV) (m : MH) : Prop := ∃ e, cmpM op a b m = some e ∧ Q e m
@[reducible] noncomputable def kTst1 (op : CmpOp) (Pr : MT) (Q : Bool → MH → Prop) (vars : Vars) (a : MV) (m : MH) : Prop := Pr (kTst2 op Q a) vars m
@[reducible] noncomputable def tTest (op : CmpOp) (Pl Pr : MT) : BT := fun Q vars mh => Pl (kTst1 op Pr Q vars) vars mh
theorem ST_cmp {l r op pos} {Pl Pr : MT} (hl : SE C k tab env l Pl) (hr : SE C k tab env r Pr) (hm : behindInMarks op r = false) :
    ST C k tab env (.Compare l [op] [r] pos) (tTest op Pl Pr) := by
  intro A E s ad mh vars Q hR hW hV hP
  refine wpAny_isTrue_Compare1 (wpAny_mono (hl A E s ad mh vars _ hR hW hV hP) (fun va s1 h1 => ?_) fun _ _ e => e) hm
  obtain ⟨ma, mh1, ad1, hq, hva, hW1, st1⟩ := h1
  refine wpAny_mono (hr A E s1 ad1 mh1 vars _ hR hW1 (hV.step st1) hq) (fun vb s2 h2 => ?_) fun _ _ e => e
  obtain ⟨mb, mh2, ad2, ⟨e, hc, hq2⟩, hvb, hW2, st2⟩ := h2
  exact cmp_ok hR.u hW2 (hva.mono st2) hvb hc fun tk => wpAny_truthy_bool (PostB.trans (st1.trans st2) (PostB.now hW2 hq2))

@[reducible] noncomputable def kTruth (Q : Bool → MH → Prop) (a : MV) (m : MH) : Prop := ∃ b, truthM m a = some b ∧ Q b m
@[reducible] noncomputable def tTruth (P : MT) : BT := fun Q vars mh => P (kTruth Q) vars mh
/-- the truth of a value -/
theorem ST_val {e} {P : MT} (h : SE C k tab env e P) (he : isTrue e env (eval e env) = (do let v ← eval e env; standAt e.pos; holding [v] (truthy v))) :
    ST C k tab env e (tTruth P) := by
  intro A E s ad mh vars Q hR hW hV hP
  refine wpAny_isTrue_value (wpAny_mono (h A E s ad mh vars _ hR hW hV hP) (fun va s1 h1 => ?_) fun _ _ e => e) he
  obtain ⟨ma, mh1, ad1, ⟨b, hb, hq⟩, hva, hW1, st1⟩ := h1
  exact truth_ok hW1 hva hb fun tk => PostB.trans st1 (PostB.now hW1 hq)

@[reducible] noncomputable def kNot (Q : Bool → MH → Prop) (b : Bool) (m : MH) : Prop := Q (!b) m
@[reducible] noncomputable def tNot (P : BT) : BT := fun Q vars mh => P (kNot Q) vars mh
theorem ST_not {e pos} {P : BT} (h : ST C k tab env e P) : ST C k tab env (.UnaryOp .Not e pos) (tNot P) := by
  intro A E s ad mh vars Q hR hW hV hP
  exact wpAny_isTrue_Not (wpAny_mono (h A E s ad mh vars _ hR hW hV hP) (fun b s1 ⟨m, a, q, w, st⟩ => ⟨m, a, q, w, st⟩) fun _ _ e => e)

@[reducible] noncomputable def kAnd (Pb : BT) (Q : Bool → MH → Prop) (vars : Vars) (x : Bool) (m : MH) : Prop := if x = true then Pb Q vars m else Q false m
@[reducible] noncomputable def tAnd (Pa Pb : BT) : BT := fun Q vars mh => Pa (kAnd Pb Q vars) vars mh
theorem ST_and {a b pos} {Pa Pb : BT} (ha : ST C k tab env a Pa) (hb : ST C k tab env b Pb) :
    ST C k tab env (.BoolOp .And [a, b] pos) (tAnd Pa Pb) := by
  intro A E s ad mh vars Q hR hW hV hP
  refine wpAny_isTrue_BoolOp (wpAny_allTrue_And_cons (wpAny_mono (ha A E s ad mh vars _ hR hW hV hP) (fun x s1 h1 => ?_) fun _ _ e => e))
  obtain ⟨mh1, ad1, hq, hW1, st1⟩ := h1
  cases x with
  | false => exact ⟨mh1, ad1, hq, hW1, st1⟩
  | true =>
    refine wpAny_allTrue_And_cons (wpAny_mono (hb A E s1 ad1 mh1 vars _ hR hW1 (hV.step st1) hq) (fun y s2 h2 => ?_) fun _ _ e => e)
    have h3 := PostB.trans st1 h2
    cases y with
    | false => exact h3
    | true => exact wpAny_allTrue_And_nil h3

@[reducible] noncomputable def kOr (Pb : BT) (Q : Bool → MH → Prop) (vars : Vars) (x : Bool) (m : MH) : Prop := if x = true then Q true m else Pb Q vars m
@[reducible] noncomputable def tOr (Pa Pb : BT) : BT := fun Q vars mh => Pa (kOr Pb Q vars) vars mh
theorem ST_or {a b pos} {Pa Pb : BT} (ha : ST C k tab env a Pa) (hb : ST C k tab env b Pb) :
    ST C k tab env (.BoolOp .Or [a, b] pos) (tOr Pa Pb) := by
  intro A E s ad mh vars Q hR hW hV hP
  refine wpAny_isTrue_BoolOp (wpAny_allTrue_Or_cons (wpAny_mono (ha A E s ad mh vars _ hR hW hV hP) (fun x s1 h1 => ?_) fun _ _ e => e))
  obtain ⟨mh1, ad1, hq, hW1, st1⟩ := h1
  cases x with
  | true => exact ⟨mh1, ad1, hq, hW1, st1⟩
  | false =>
    refine wpAny_allTrue_Or_cons (wpAny_mono (hb A E s1 ad1 mh1 vars _ hR hW1 (hV.step st1) hq) (fun y s2 h2 => ?_) fun _ _ e => e)
    have h3 := PostB.trans st1 h2
    cases y with
    | true => exact h3
    | false => exact wpAny_allTrue_Or_nil h3

@[reducible] noncomputable def kAndV (Pb : MT) (Q : MV → MH → Prop) (vars : Vars) (x : MV) (m : MH) : Prop := ∃ t, truthM m x = some t ∧ if t = true then Pb Q vars m else Q x m
@[reducible] noncomputable def tAndV (Pa Pb : MT) : MT := fun Q vars mh => Pa (kAndV Pb Q vars) vars mh
theorem SE_and {a b pos} {Pa Pb : MT} (ha : SE C k tab env a Pa) (hb : SE C k tab env b Pb) :
    SE C k tab env (.BoolOp .And [a, b] pos) (tAndV Pa Pb) := by
  intro A E s ad mh vars Q hR hW hV hP
  refine wpAny_And2 (wpAny_mono (ha A E s ad mh vars _ hR hW hV hP) (fun x s1 h1 => ?_) fun _ _ e => e)
  obtain ⟨ma, mh1, ad1, ⟨t, ht, hq⟩, hva, hW1, st1⟩ := h1
  refine truth_ok hW1 hva ht fun tk => ?_
  cases t with
  | false => exact ⟨ma, mh1, ad1, hq, hva, hW1.toks tk, st1.trans (Stp.toks tk)⟩
  | true => exact wpAny_mono (hb A E _ ad1 mh1 vars _ hR (hW1.toks tk) (hV.step (st1.trans (Stp.toks tk))) hq) (fun y s2 h2 => Post.trans (st1.trans (Stp.toks tk)) h2) fun _ _ e => e

@[reducible] noncomputable def tCmp2 (op op' : CmpOp) (Pl Pm Pr : MT) : MT := fun Q vars mh => Pl (fun a mh1 => Pm (fun b mh2 => ∃ e, cmpM op a b mh2 = some e ∧
      if e = true then Pr (fun c mh3 => ∃ e', cmpM op' b c mh3 = some e' ∧ Q (.bool e') mh3) vars mh2 else Q (.bool false) mh2) vars mh1) vars mh
/-- a chain of two -/
theorem SE_cmp2 {l m r op op' pos} {Pl Pm Pr : MT} (hl : SE C k tab env l Pl) (hm : SE C k tab env m Pm) (hr : SE C k tab env r Pr) (h2 : behindInMarks op' r = false) :
    SE C k tab env (.Compare l [op, op'] [m, r] pos) (tCmp2 op op' Pl Pm Pr) := by
  intro A E s ad mh vars Q hR hW hV hP
  show wpAny C.M A (do compareChain pos (← eval l env) [op, op'] (markedEach [op, op'] [m, r] [eval m env, eval r env])) _ E s
  refine wpAny_bind (wpAny_mono (hl A E s ad mh vars _ hR hW hV hP) (fun va s1 h1 => ?_) fun _ _ e => e)
  obtain ⟨ma, mh1, ad1, hq, hva, hW1, st1⟩ := h1
  have em : markedEach [op, op'] [m, r] [eval m env, eval r env] = [eval m env, eval r env] := by
    simp only [markedEach, markedBehindIn_of_false h2]
  rw [em]
  refine wpAny_bind (wpAny_holding (wpAny_mono (hm A E s1 ad1 mh1 vars _ hR hW1 (hV.step st1) hq) (fun vb s2 h2 => ?_) fun _ _ e => e))
  obtain ⟨mb, mh2, ad2, ⟨e, hc, hq2⟩, hvb, hW2, st2⟩ := h2
  refine wpAny_bind (wpAny_standAt (wpAny_bind (wpAny_holding ?_)))
  refine cmp_ok hR.u hW2 (hva.mono st2) hvb hc fun tk => ?_
  refine wpAny_bind (wpAny_release ?_)
  refine wpAny_bind (wpAny_holding (wpAny_truthy_bool ?_))
  cases e with
  | false => exact wpAny_pure (Post.trans (st1.trans st2) (Post.bool hW2 hq2))
  | true =>
    show wpAny _ _ (compareChain pos vb [op'] [eval r env]) _ _ _
    have st3 : Stp [] ad s ad2 { s2 with toks := tk } := (st1.trans st2).trans (Stp.toks tk)
    refine wpAny_bind (wpAny_holding (wpAny_mono (hr A E _ ad2 mh2 vars _ hR (hW2.toks tk) (hV.step st3) hq2) (fun vc s4 h4 => ?_) fun _ _ e => e))
    obtain ⟨mc, mh4, ad4, ⟨e', hc', hq4⟩, hvc, hW4, st4⟩ := h4
    refine wpAny_bind (wpAny_standAt ?_)
    refine wpAny_operate' ?_
    exact cmp_ok hR.u hW4 ((hvb.mono (Stp.toks (X := []) tk)).mono st4) hvc hc' fun tk' => Post.trans (st3.trans st4) (Post.bool hW4 hq4)

@[reducible] noncomputable def tTest2 (op op' : CmpOp) (Pl Pm Pr : MT) : BT := fun Q vars mh => Pl (fun a mh1 => Pm (fun b mh2 => ∃ e, cmpM op a b mh2 = some e ∧
      if e = true then Pr (fun c mh3 => ∃ e', cmpM op' b c mh3 = some e' ∧ Q e' mh3) vars mh2 else Q false mh2) vars mh1) vars mh
theorem ST_cmp2 {l m r op op' pos} {Pl Pm Pr : MT} (hl : SE C k tab env l Pl) (hm : SE C k tab env m Pm) (hr : SE C k tab env r Pr) (h2 : behindInMarks op' r = false) :
    ST C k tab env (.Compare l [op, op'] [m, r] pos) (tTest2 op op' Pl Pm Pr) := by
  intro A E s ad mh vars Q hR hW hV hP
  show wpAny C.M A (do testChain pos (← eval l env) [op, op'] (markedEach [op, op'] [m, r] [eval m env, eval r env])) _ E s
  refine wpAny_bind (wpAny_mono (hl A E s ad mh vars _ hR hW hV hP) (fun va s1 h1 => ?_) fun _ _ e => e)
  obtain ⟨ma, mh1, ad1, hq, hva, hW1, st1⟩ := h1
  have em : markedEach [op, op'] [m, r] [eval m env, eval r env] = [eval m env, eval r env] := by
    simp only [markedEach, markedBehindIn_of_false h2]
  rw [em]
  refine wpAny_bind (wpAny_holding (wpAny_mono (hm A E s1 ad1 mh1 vars _ hR hW1 (hV.step st1) hq) (fun vb s2 h2 => ?_) fun _ _ e => e))
  obtain ⟨mb, mh2, ad2, ⟨e, hc, hq2⟩, hvb, hW2, st2⟩ := h2
  refine wpAny_bind (wpAny_standAt (wpAny_bind (wpAny_holding ?_)))
  refine cmp_ok hR.u hW2 (hva.mono st2) hvb hc fun tk => ?_
  refine wpAny_bind (wpAny_release ?_)
  refine wpAny_bind (wpAny_holding (wpAny_truthy_bool ?_))
  cases e with
  | false => exact wpAny_pure (PostB.trans (st1.trans st2) (PostB.now hW2 hq2))
  | true =>
    show wpAny _ _ (testChain pos vb [op'] [eval r env]) _ _ _
    have st3 : Stp [] ad s ad2 { s2 with toks := tk } := (st1.trans st2).trans (Stp.toks tk)
    refine wpAny_bind (wpAny_holding (wpAny_mono (hr A E _ ad2 mh2 vars _ hR (hW2.toks tk) (hV.step st3) hq2) (fun vc s4 h4 => ?_) fun _ _ e => e))
    obtain ⟨mc, mh4, ad4, ⟨e', hc', hq4⟩, hvc, hW4, st4⟩ := h4
    refine wpAny_bind (wpAny_standAt ?_)
    refine wpAny_bind (wpAny_operate' ?_)
    exact cmp_ok hR.u hW4 ((hvb.mono (Stp.toks (X := []) tk)).mono st4) hvc hc' fun tk' => wpAny_holding (wpAny_truthy_bool (PostB.trans (st3.trans st4) (PostB.now hW4 hq4)))
end
noncomputable def slook (es : List (Str × MV)) (k : Str) : Option MV := (es.find? fun e => decide (e.1 = k)).map (·.2)

theorem slook_at {A scr h} {k : Str} : ∀ {es : List (Str × MV)} {kvs : List (Str × Value)}, kvs.map (·.1) = es.map (·.1) → VRs A scr h (es.map (·.2)) (kvs.map (·.2)) →
    match slook es k with | none => valueAt kvs k = none | some m => ∃ v, valueAt kvs k = some v ∧ VR A scr h m v
  | [], [], _, _ => by simp [slook, valueAt]
  | (k', m) :: es, (k'', v) :: kvs, e, r => by
    simp only [List.map_cons, List.cons.injEq] at e
    obtain ⟨rfl, e⟩ := e
    obtain ⟨u, q, e', hu, hq⟩ := r.uncons
    simp only [List.map_cons, List.cons.injEq] at e'
    obtain ⟨rfl, e'⟩ := e'
    subst e'
    by_cases hk : k'' = k
    · subst hk
      simp [slook, valueAt]
      exact hu
    · have ih := slook_at (k := k) e hq
      have e1 : slook ((k'', m) :: es) k = slook es k := by simp [slook, hk]
      have e2 : valueAt ((k'', v) :: kvs) k = valueAt kvs k := by simp [valueAt, hk]
      rw [e1, e2]
      exact ih
  | [], _ :: _, e, _ => by cases e
  | _ :: _, [], e, _ => by cases e

noncomputable def getO (k : Int) : Option MO → Option MV
  | some (.list xs) => if 0 ≤ k then xs[k.toNat]? else none
  | some (.dict es) => look es k
  | some (.fz es _) => look es k
  | _ => none
noncomputable def getS (x : Str) : Option MO → Option MV
  | some (.sdict es) => slook es x
  | _ => none
noncomputable def getT (xs : List MV) (k : Int) : Option MV := if 0 ≤ k ∧ k < 2 ^ 60 then xs[k.toNat]? else none
noncomputable def getC (x : Str) (k : Int) : Option MV := if 0 ≤ k ∧ k < 2 ^ 60 then (x.cps[k.toNat]?).map fun c => .str ⟨#[c]⟩ else none
noncomputable def getM (mh : MH) (o i : MV) : Option MV :=
  match o with
  | .ref a => (match i with
    | .int k => getO k mh[a]?
    | .str x => getS x mh[a]?
    | _ => none)
  | .tup xs => (match i with
    | .int k => getT xs k
    | _ => none)
  | .str x => (match i with
    | .int k => getC x k
    | _ => none)
  | _ => none

theorem seqIndex_nonneg {k : Int} {n : Nat} (h0 : 0 ≤ k) (h : k.toNat < n) : seqIndex? k n = some k.toNat := by
  unfold seqIndex?
  simp only
  rw [if_neg (show ¬ k < 0 by lia)]
  simp
  lia

theorem get_ok {C : Cx} {A : Around} {E : Value → Shared → Prop} {s : Shared} {ad mh mo mi o i r} {Q : Value → Shared → Prop} (hW : W C ad mh s) (ho : VR ad C.scr s.heap mo o) (hi : VR ad C.scr s.heap mi i)
    (hP : getM mh mo mi = some r) (h : ∀ v tk, VR ad C.scr s.heap r v → Q v { s with toks := tk }) :
    wpAny C.M A (getItem o i) Q E s ∧ ∃ T id, s.TypeIs o T ∧ typeLookup (.type T) "__getitem__" = pure (some (.builtin id)) := by
  cases mo with
  | ref a =>
    obtain ⟨p, hp, rfl⟩ := ho.isRef
    cases mi with
    | int k =>
      obtain ⟨t, rfl⟩ := hi.isInt
      have hP : getO k mh[a]? = some r := hP
      have dc : ∀ {es : List (Int × MV)} {ka : List (Int × Value)}, s.heap.DictOf (intKind C.prog C.w) p ka → ka.map (·.1) = es.map (·.1) → VRs ad C.scr s.heap (es.map (·.2)) (ka.map (·.2)) → look es k = some r →
          wpAny C.M A (getItem (.ref p) (.int k t)) Q E s ∧ ∃ T id, s.TypeIs (.ref p) T ∧ typeLookup (.type T) "__getitem__" = pure (some (.builtin id)) := fun {es ka} d1 d2 d3 hP => by
        have hl := look_at (k := k) d2 d3
        rw [hP] at hl
        obtain ⟨v, hv, hr⟩ := hl
        exact ⟨wpAny_getItem_of (knd := intKind C.prog C.w) (k := k) (by simp [intKind, Value.isInt]) d1.mapOf hv (h v _ hr), _, _, d1.typeIs, slot_dict_getitem.lookup⟩
      generalize h1 : mh[a]? = o at hP
      cases o with
      | none => cases hP
      | some o => cases o with
        | list xs =>
          have hP : (if 0 ≤ k then xs[k.toNat]? else none) = some r := hP
          by_cases h0 : 0 ≤ k
          · rw [if_pos h0] at hP
            obtain ⟨vs, n, l1, l2, l3⟩ := hW.list hp h1
            obtain ⟨v, hv, hr⟩ := l2.get hP
            have hlt := (List.getElem?_eq_some_iff.mp hP).1
            exact ⟨wpAny_getItem_list (IsL.isL l1) h0 (by lia) (by simpa using hv) (h v s.toks hr), _, _, (IsL.isL l1).typeIs, slot_list_getitem.lookup⟩
          · rw [if_neg h0] at hP; cases hP
        | dict es => obtain ⟨ka, d1, d2, d3, _, _⟩ := hW.dict hp h1; exact dc d1 d2 d3 hP
        | fz es ep => obtain ⟨ka, d1, d2, d3, _, _⟩ := hW.fz hp h1; exact dc d1 d2 d3 hP
        | sdict es => cases hP
    | str x =>
      obtain ⟨t, rfl⟩ := hi.isStr
      have hP : getS x mh[a]? = some r := hP
      generalize h1 : mh[a]? = o at hP
      cases o with
      | none => cases hP
      | some o => cases o with
        | sdict es =>
          obtain ⟨ka, d1, d2, d3, _, d5⟩ := hW.sdict hp h1
          have hl := slook_at (k := x) d2 d3
          rw [show slook es x = some r from hP] at hl
          obtain ⟨v, hv, hr⟩ := hl
          exact ⟨wpAny_getItem_of (knd := strKind C.prog C.w) (k := x) (strKind_is C.prog C.w x t) d1.mapOf hv (h v _ hr), _, _, d1.typeIs, slot_dict_getitem.lookup⟩
        | _ => cases hP
    | _ => cases hP
  | tup xs => cases mi with
    | int k =>
      obtain ⟨p, vs, n, rfl, _, l1, l2⟩ := ho.isTup
      obtain ⟨t, rfl⟩ := hi.isInt
      have hP : (if 0 ≤ k ∧ k < 2 ^ 60 then xs[k.toNat]? else none) = some r := hP
      by_cases h0 : 0 ≤ k ∧ k < 2 ^ 60
      · rw [if_pos h0] at hP
        obtain ⟨v, hv, hr⟩ := l2.get hP
        have hlt := (List.getElem?_eq_some_iff.mp hv).1
        exact ⟨P.getItem_tuple l1 (by lia) (by lia) (seqIndex_nonneg h0.1 (by simpa using hlt)) (by simpa using hv) (h v s.toks hr), _, _, (IsT.isT l1).typeIs, slot_tuple_getitem.lookup⟩
      · rw [if_neg h0] at hP; cases hP
    | _ => cases hP
  | str x => cases mi with
    | int k =>
      obtain ⟨t, rfl⟩ := ho.isStr
      obtain ⟨u, rfl⟩ := hi.isInt
      have hP : (if 0 ≤ k ∧ k < 2 ^ 60 then (x.cps[k.toNat]?).map fun c => MV.str ⟨#[c]⟩ else none) = some r := hP
      by_cases h0 : 0 ≤ k ∧ k < 2 ^ 60
      · rw [if_pos h0] at hP
        cases hc : x.cps[k.toNat]? with
        | none => rw [hc] at hP; cases hP
        | some c =>
          rw [hc] at hP
          cases hP
          have hlt := (Array.getElem?_eq_some_iff.mp hc).1
          refine ⟨PyProof.Rows.getItem_str (c := c) (by simp; lia) (by rw [seqIndex_nonneg h0.1 (by exact hlt)]; exact hc) (h _ _ (by unfold VR; exact ⟨_, rfl⟩)), _, _, typeIs_str s x t, F.slot_str_getitem.lookup⟩
      · rw [if_neg h0] at hP; cases hP
    | _ => cases hP
  | _ => cases hP

noncomputable def notSlice : Expr → Bool
  | .Slice .. => false
  | _ => true

theorem subscripted_plain {slice : Expr} {o i : Value} (h : notSlice slice = true) : subscripted slice false o i = operate [o, i] (getItem o i) := by
  cases slice <;> first | rfl | exact absurd (show false = true from h) Bool.false_ne_true

@[reducible] noncomputable def kSub2 (Q : MV → MH → Prop) (o i : MV) (m : MH) : Prop := ∃ r, getM m o i = some r ∧ Q r m
@[reducible] noncomputable def kSub1 (Pi : MT) (Q : MV → MH → Prop) (vars : Vars) (o : MV) (m : MH) : Prop := Pi (kSub2 Q o) vars m
@[reducible] noncomputable def tSub (Pv Pi : MT) : MT := fun Q vars mh => Pv (kSub1 Pi Q vars) vars mh
theorem SE_sub {C : Cx} {k tab env} {value slice : Expr} {pos} {Pv Pi : MT} (hv : SE C k tab env value Pv) (hi : SE C k tab env slice Pi) (hs : notSlice slice = true) :
    SE C k tab env (.Subscript value slice pos) (tSub Pv Pi) := by
  intro A E s ad mh vars Q hR hW hV hP
  refine Subscript_ (wpAny_mono (hv A E s ad mh vars _ hR hW hV hP) (fun va s1 h1 => ?_) fun _ _ e => e)
  obtain ⟨ma, mh1, ad1, hq, hva, hW1, st1⟩ := h1
  refine wpAny_mono (hi A E s1 ad1 mh1 vars _ hR hW1 (hV.step st1) hq) (fun vb s2 h2 => ?_) fun _ _ e => e
  obtain ⟨mb, mh2, ad2, ⟨r, hr, hq2⟩, hvb, hW2, st2⟩ := h2
  obtain ⟨g1, T, id, g2, g3⟩ := get_ok (Q := Post C ad s Q) (E := E) (A := A) hW2 (hva.mono st2) hvb hr fun v tk hv => ⟨r, mh2, ad2, hq2, hv.mono (s' := { s2 with toks := tk }) (X := []) (Stp.toks tk), hW2.toks tk, (st1.trans st2).trans (Stp.toks tk)⟩
  exact tail_any g2 g3 g1 (subscripted_plain hs)

/-! slices -/
theorem newSlice_grow {s : Shared} (o : Obj) : ∀ b ob, s.heap.get? b = some ob → (s.heap.push o).get? b = some ob := fun _ _ e => Heap.get?_push_of_some _ e

theorem subscripted_slice {l u : Option Expr} {p : Pos} {o i : Value} : subscripted (.Slice l u none p) false o i = operate [i, o] (getItem o i) := rfl

@[reducible] noncomputable def tSlA (Pv : MT) : MT := fun Q vars mh => Pv (fun o mh1 => ∃ i xs, o = .ref i ∧ mh1[i]? = some (.list xs) ∧ Q (.ref mh1.length) (mh1 ++ [.list xs])) vars mh
/-- xs[:] of a list -/
theorem SE_sliceAll {C : Cx} {k tab env} {value : Expr} {p pos} {Pv : MT} (hv : SE C k tab env value Pv) :
    SE C k tab env (.Subscript value (.Slice none none none p) pos) (tSlA Pv) := by
  intro A E s ad mh vars Q hR hW hV hP
  refine Subscript_ (wpAny_mono (hv A E s ad mh vars _ hR hW hV hP) (fun va s1 h1 => ?_) fun _ _ e => e)
  obtain ⟨ma, mh1, ad1, ⟨i, xs, rfl, hm, hq⟩, hva, hW1, st1⟩ := h1
  obtain ⟨a, ha, rfl⟩ := hva.isRef
  refine wpAny_Slice (wpAny_evalPart_none (wpAny_evalPart_none (wpAny_evalPart_none ?_)))
  have st2 : Stp [] ad1 s1 ad1 { s1 with heap := s1.heap.push { cls := .type "slice", data := .fields #[.none, .none, .none] } } := Stp.grow (newSlice_grow _)
  have hW2 : W C ad1 mh1 { s1 with heap := s1.heap.push { cls := .type "slice", data := .fields #[.none, .none, .none] } } := hW1.grow (newSlice_grow _) rfl rfl
  obtain ⟨vs, n, l1, l2, l3⟩ := hW2.list ha hm
  have e := l2.length
  refine tail_any (IsL.isL l1).typeIs slot_list_getitem.lookup (wpAny_getItem_list_slice (lo := none) (hi := none) (st := none) (IsL.isL l1) (Heap.IsSliceOf.new ..) .none .none .none (by simp) ?_ (by simp only [List.size_toArray]; exact line4 (by lia))) subscripted_slice
  exact Post.trans (st1.trans st2) (Post.newList hW2 l2 l3 (slicePick_all _) hq)

@[reducible] noncomputable def tSlT (Pv Pu : MT) : MT := fun Q vars mh => Pv (fun o mh1 => Pu (fun u mh2 => ∃ i xs n, o = .ref i ∧ u = .int n ∧ mh2[i]? = some (.list xs) ∧ 0 ≤ n ∧ n ≤ xs.length ∧ Q (.ref mh2.length) (mh2 ++ [.list (xs.take n.toNat)])) vars mh1) vars mh
/-- xs[:n] of a list -/
theorem SE_sliceTo {C : Cx} {k tab env} {value up : Expr} {p pos} {Pv Pu : MT} (hv : SE C k tab env value Pv) (hu : SE C k tab env up Pu) :
    SE C k tab env (.Subscript value (.Slice none (some up) none p) pos) (tSlT Pv Pu) := by
  intro A E s ad mh vars Q hR hW hV hP
  refine Subscript_ (wpAny_mono (hv A E s ad mh vars _ hR hW hV hP) (fun va s1 h1 => ?_) fun _ _ e => e)
  obtain ⟨ma, mh1, ad1, hq1, hva, hW1, st1⟩ := h1
  refine wpAny_Slice (wpAny_evalPart_none (wpAny_evalPart_some (wpAny_mono (hu A E s1 ad1 mh1 vars _ hR hW1 (hV.step st1) hq1) (fun vb s2 h2 => ?_) fun _ _ e => e)))
  obtain ⟨mb, mh2, ad2, ⟨i, xs, m, rfl, rfl, hm, h0, hle, hq⟩, hvb, hW2, st2⟩ := h2
  refine wpAny_evalPart_none ?_
  obtain ⟨a, ha, rfl⟩ := (hva.mono st2).isRef
  obtain ⟨t, rfl⟩ := hvb.isInt
  have st3 : Stp [] ad2 s2 ad2 { s2 with heap := s2.heap.push { cls := .type "slice", data := .fields #[.none, .int m t, .none] } } := Stp.grow (newSlice_grow _)
  have hW3 : W C ad2 mh2 { s2 with heap := s2.heap.push { cls := .type "slice", data := .fields #[.none, .int m t, .none] } } := hW2.grow (newSlice_grow _) rfl rfl
  obtain ⟨vs, n, l1, l2, l3⟩ := hW3.list ha hm
  have e := l2.length
  obtain ⟨j, rfl⟩ : ∃ j : Nat, m = (j : Int) := ⟨m.toNat, by lia⟩
  refine tail_any (IsL.isL l1).typeIs slot_list_getitem.lookup (wpAny_getItem_list_slice (lo := none) (hi := some (j : Int)) (st := none) (IsL.isL l1) (Heap.IsSliceOf.new ..) .none (.int (j : Int) t) .none (by simp) ?_ (by simp only [List.size_toArray]; exact line4 (by lia))) subscripted_slice
  refine Post.trans ((st1.trans st2).trans st3) (Post.newList (vs := vs.take j) hW3 (l2.take _) (by simp; lia) ?_ (by simpa using hq))
  rw [slicePick_upto _ _ (by simp; lia)]

@[reducible] noncomputable def tSlF (Pv Pu : MT) : MT := fun Q vars mh => Pv (fun o mh1 => Pu (fun u mh2 => ∃ xs n, o = .tup xs ∧ u = .int n ∧ 1 ≤ n ∧ n ≤ xs.length ∧ xs.length ≤ 4096 ∧ Q (.tup (xs.drop n.toNat)) mh2) vars mh1) vars mh
/-- t[n:] of a tuple -/
theorem SE_sliceFrom {C : Cx} {k tab env} {value lo : Expr} {p pos} {Pv Pu : MT} (hv : SE C k tab env value Pv) (hu : SE C k tab env lo Pu) :
    SE C k tab env (.Subscript value (.Slice (some lo) none none p) pos) (tSlF Pv Pu) := by
  intro A E s ad mh vars Q hR hW hV hP
  refine Subscript_ (wpAny_mono (hv A E s ad mh vars _ hR hW hV hP) (fun va s1 h1 => ?_) fun _ _ e => e)
  obtain ⟨ma, mh1, ad1, hq1, hva, hW1, st1⟩ := h1
  refine wpAny_Slice (wpAny_evalPart_some (wpAny_mono (hu A E s1 ad1 mh1 vars _ hR hW1 (hV.step st1) hq1) (fun vb s2 h2 => ?_) fun _ _ e => e))
  obtain ⟨mb, mh2, ad2, ⟨xs, m, rfl, rfl, h0, hle, hsz, hq⟩, hvb, hW2, st2⟩ := h2
  refine wpAny_evalPart_none (wpAny_evalPart_none ?_)
  obtain ⟨t, rfl⟩ := hvb.isInt
  have st3 : Stp [] ad2 s2 ad2 { s2 with heap := s2.heap.push { cls := .type "slice", data := .fields #[.int m t, .none, .none] } } := Stp.grow (newSlice_grow _)
  have hW3 : W C ad2 mh2 { s2 with heap := s2.heap.push { cls := .type "slice", data := .fields #[.int m t, .none, .none] } } := hW2.grow (newSlice_grow _) rfl rfl
  obtain ⟨a, vs, n, rfl, _, l1, l2⟩ := ((hva.mono st2).mono st3).isTup
  have e := l2.length
  obtain ⟨j, rfl⟩ : ∃ j : Nat, m = (j : Int) := ⟨m.toNat, by lia⟩
  have hI : IsTup ({ s2 with heap := s2.heap.push { cls := .type "slice", data := .fields #[.int (j : Int) t, .none, .none] } } : Shared).heap a vs.toArray := ⟨_, l1, rfl, n, rfl⟩
  refine tail_any hI.typeIs slot_tuple_getitem.lookup (getItem_tuple_from hI (Heap.IsSliceOf.new ..) (by lia) (by simp; lia) ?_ (by simp only [List.size_toArray]; exact line4 (by lia))) subscripted_slice
  exact Post.trans ((st1.trans st2).trans st3) (Post.newTup hW3 (l2.drop j) (by simp) (by simpa using hq))

noncomputable def strHead (x : Str) : Str := if ((slicePicked x none (some (1, 0)) none).length == x.length) = true then x else ⟨((slicePicked x none (some (1, 0)) none).filterMap (x.cps[·]?)).toArray⟩

@[reducible] noncomputable def tSl1 (Pv : MT) : MT := fun Q vars mh => Pv (fun o mh1 => ∃ x, o = .str x ∧ (strHead x).length ≤ 100 ∧ Q (.str (strHead x)) mh1) vars mh
/-- x[:1] of a text -/
theorem SE_sliceStr1 {C : Cx} {k tab env} {value : Expr} {u1 p p1 pos} {Pv : MT} (hv : SE C k tab env value Pv) :
    SE C k tab env (.Subscript value (.Slice none (some (.Constant (.int 1) u1 p1)) none p) pos) (tSl1 Pv) := by
  intro A E s ad mh vars Q hR hW hV hP
  refine Subscript_ (wpAny_mono (hv A E s ad mh vars _ hR hW hV hP) (fun va s1 h1 => ?_) fun _ _ e => e)
  obtain ⟨ma, mh1, ad1, ⟨x, rfl, hz, hq⟩, hva, hW1, st1⟩ := h1
  obtain ⟨t, rfl⟩ := hva.isStr
  refine wpAny_Slice (wpAny_evalPart_none (wpAny_evalPart_some (wpAny_Constant_int (wpAny_evalPart_none ?_))))
  refine tail_any (typeIs_str _ x t) F.slot_str_getitem.lookup (wpAny_getItem_str_slice (l := none) (u := some (1, s1.toks)) (st := none) ⟨_, Heap.get?_push_size _ rfl, rfl, rfl⟩ rfl ?_) subscripted_slice
  have fin : ∀ (tk t' : Nat) (y : Str), y = strHead x → Post C ad s Q (.str y t') { s1 with heap := s1.heap.push { cls := .type "slice", data := .fields #[.none, .int 1 s1.toks, .none] }, toks := tk } := fun tk t' y hy => by
    subst hy
    exact ⟨.str (strHead x), mh1, ad1, hq, by unfold VR; exact ⟨t', rfl⟩, hW1.grow (newSlice_grow _) rfl rfl, st1.trans (Stp.grow (newSlice_grow _))⟩
  have ep : slicePicked x none (some (1, s1.toks)) none = slicePicked x none (some (1, 0)) none := rfl
  have eg : ((((none : Option (Int × Tok)).map (·.1)).getD 1 == (1 : Int))) = true := rfl
  unfold sliceMade
  rw [ep, eg, Bool.true_and]
  by_cases hc : (slicePicked x none (some (1, 0)) none).length == x.length
  · rw [if_pos hc]
    exact fin _ _ _ (by unfold strHead; rw [if_pos hc])
  · rw [if_neg hc]
    have e : strHead x = ⟨((slicePicked x none (some (1, 0)) none).filterMap (x.cps[·]?)).toArray⟩ := by unfold strHead; rw [if_neg hc]
    refine ⟨?_, fin _ _ _ e.symm⟩
    have h2 := hz
    rw [e] at h2
    exact Nat.le_trans h2 (by decide)
abbrev LT := (List MV → MH → Prop) → Vars → MH → Prop
inductive PostL (C : Cx) (ad : List Addr) (s : Shared) (Q : List MV → MH → Prop) (vs : List Value) (s' : Shared) : Prop
  | intro (ms : List MV) (mh' : MH) (ad' : List Addr) (q : Q ms mh') (r : VRs ad' C.scr s'.heap ms vs) (w : W C ad' mh' s') (st : Stp [] ad s ad' s')

/-- expressions one after the other -/
noncomputable def SEL (C : Cx) (k : Nat) (tab : List (Str × Nat)) (env : Env) (es : List Expr) (P : LT) : Prop :=
  ∀ (pos : Pos) (A : Around) (E : Value → Shared → Prop) (s : Shared) (ad : List Addr) (mh : MH) (vars : Vars) (Q : List MV → MH → Prop),
    Room A k → W C ad mh s → VOK C tab env ad s.heap vars → P Q vars mh → wpAny C.M A (spliced (backTo pos (starEach es env))) (PostL C ad s Q) E s

section
variable {C : Cx} {k : Nat} {tab : List (Str × Nat)} {env : Env}

@[reducible] noncomputable def tLnil  : LT := fun Q _ mh => Q [] mh
theorem SEL_nil : SEL C k tab env [] tLnil :=
  fun _ _ _ _ ad mh _ _ _ hW _ hP => wpAny_items_nil ⟨[], mh, ad, hP, .nil, hW, Stp.refl ..⟩

noncomputable def notStar : Expr → Bool
  | .Starred .. => false
  | _ => true

theorem starEach_plain {e : Expr} {rest : List Expr} {env : Env} (h : notStar e = true) : starEach (e :: rest) env = (false, eval e env) :: starEach rest env := by
  cases e <;> first | rfl | exact absurd (show false = true from h) Bool.false_ne_true

@[reducible] noncomputable def kLc2 (Q : List MV → MH → Prop) (v : MV) (vs : List MV) (m : MH) : Prop := Q (v :: vs) m
@[reducible] noncomputable def kLc1 (Ps : LT) (Q : List MV → MH → Prop) (vars : Vars) (v : MV) (m : MH) : Prop := Ps (kLc2 Q v) vars m
@[reducible] noncomputable def tLcons (Pe : MT) (Ps : LT) : LT := fun Q vars mh => Pe (kLc1 Ps Q vars) vars mh
theorem SEL_cons {e es} {Pe : MT} {Ps : LT} (he : SE C k tab env e Pe) (hs : SEL C k tab env es Ps) (hst : notStar e = true) :
    SEL C k tab env (e :: es) (tLcons Pe Ps) := by
  intro pos A E s ad mh vars Q hR hW hV hP
  rw [starEach_plain hst]
  show wpAny C.M A (spliced ((false, eval e env) :: backTo pos (starEach es env))) _ E s
  refine spliced_cons (wpAny_mono (he A E s ad mh vars _ hR hW hV hP) (fun v s1 h1 => ?_) fun _ _ e => e)
  obtain ⟨m, mh1, ad1, hq, hv, hW1, st1⟩ := h1
  refine wpAny_mono (hs pos A E s1 ad1 mh1 vars _ hR hW1 (hV.step st1) hq) (fun vs s2 h2 => ?_) fun _ _ e => e
  obtain ⟨ms, mh2, ad2, hq2, hvs, hW2, st2⟩ := h2
  exact ⟨m :: ms, mh2, ad2, hq2, .cons (hv.mono st2) hvs, hW2, st1.trans st2⟩

@[reducible] noncomputable def kList (Q : MV → MH → Prop) (vs : List MV) (m : MH) : Prop := vs.length ≤ 4096 ∧ Q (.ref m.length) (m ++ [.list vs])
@[reducible] noncomputable def tList (P : LT) : MT := fun Q vars mh => P (kList Q) vars mh
theorem SE_list {es pos} {P : LT} (h : SEL C k tab env es P) :
    SE C k tab env (.List es pos) (tList P) := by
  intro A E s ad mh vars Q hR hW hV hP
  refine PyProof.Rows.List_ (wpAny_mono (h pos A E s ad mh vars _ hR hW hV hP) (fun vs s1 h1 => ?_) fun _ _ e => e)
  obtain ⟨ms, mh1, ad1, ⟨hn, hq⟩, hv, hW1, st1⟩ := h1
  have e := hv.length
  exact wpAny_newList (Post.trans st1 (Post.newList hW1 hv hn rfl hq)) (line4 (by lia))

@[reducible] noncomputable def kTup (Q : MV → MH → Prop) (vs : List MV) (m : MH) : Prop := vs.length ≤ 4096 ∧ Q (.tup vs) m
@[reducible] noncomputable def tTup (P : LT) : MT := fun Q vars mh => P (kTup Q) vars mh
theorem SE_tuple {es u pos} {P : LT} (h : SEL C k tab env es P) :
    SE C k tab env (.Tuple es u pos) (tTup P) := by
  intro A E s ad mh vars Q hR hW hV hP
  refine PyProof.Rows.Tuple_ (wpAny_mono (h pos A E s ad mh vars _ hR hW hV hP) (fun vs s1 h1 => ?_) fun _ _ e => e)
  obtain ⟨ms, mh1, ad1, ⟨hn, hq⟩, hv, hW1, st1⟩ := h1
  have e := hv.length
  exact wpAny_newTuple (Post.trans st1 (Post.newTup hW1 hv rfl hq)) (line4 (by lia))

theorem not_sys {s : Shared} {C : Cx} {ad mh} (hW : W C ad mh s) (hs : ∃ o, C.base.get? sysModules = some o) : (s.heap.objs.size == sysModules) = false := by
  obtain ⟨o, ho⟩ := hs
  have := hW.base_lt ho
  rw [beq_eq_false_iff_ne]
  exact Nat.ne_of_gt this

@[reducible] noncomputable def tD0  : MT := fun Q _ mh => Q (.ref mh.length) (mh ++ [.dict []])
theorem SE_dict0 {pos} (hsys : ∃ o, C.base.get? sysModules = some o) : SE C k tab env (.Dict [] [] pos) tD0 := by
  intro A E s ad mh vars Q hR hW hV hP
  refine wpAny_Dict_empty (Post.alloc (mo := .dict []) hW get_new (fun _ _ e => Heap.get?_push_of_some _ e) (fun st => ⟨[], Heap.DictOf.new _, rfl, .nil, Nat.zero_le _, not_sys hW hsys⟩) rfl rfl hP)

/-! methods -/
theorem isL_noDict {h : Heap} {l : Addr} {vs : Array Value} {n : Nat} (x : IsL h l vs n) : ∀ a, Value.ref l = .ref a → ∃ ob, h.get? a = some ob ∧ ob.dict = none := fun a e => by
  injection e with e; subst e; exact ⟨_, x, rfl⟩

theorem fewArgs {es : List Expr} {env : Env} {pos : Pos} (h : es.all notStar = true) (hn : es.length ≤ 4) : ((backTo pos (starEach es env)).all (fun x => !x.1) && (backToKw pos (keywordEach [] env)).all (fun x => x.1.isSome)
      && decide (es.length + ([] : List Keyword).length + (if ([] : List Keyword).isEmpty then 0 else 1) < 30)) = true := by
  have h1 : (backTo pos (starEach es env)).all (fun x => !x.1) = true := by
    clear hn
    induction es with
    | nil => rfl
    | cons e es ih =>
      simp only [List.all_cons, Bool.and_eq_true] at h
      rw [starEach_plain h.1]
      show (!false && (backTo pos (starEach es env)).all _) = true
      rw [ih h.2]; rfl
  rw [h1]
  show (true && true && decide (es.length + 0 + 0 < 30)) = true
  rw [decide_eq_true (by lia)]; rfl

theorem backTo1 {e : Expr} {env : Env} {pos : Pos} (h : notStar e = true) : backTo pos (starEach [e] env) = [(false, eval e env)] := by
  rw [starEach_plain h]; rfl
theorem backTo2 {e f : Expr} {env : Env} {pos : Pos} (h : notStar e = true) (h' : notStar f = true) : backTo pos (starEach [e, f] env) = [(false, eval e env), (false, eval f env)] := by
  rw [starEach_plain h, starEach_plain h']; rfl

theorem W.setList {C A mh s} (x : W C A mh s) {i : Nat} {a : Addr} {ys : List MV} {vs us : List Value} {n : Nat} {f : Array Value → Array Value} (hi : A[i]? = some a) (l1 : IsL s.heap a vs.toArray n)
    (hf : f vs.toArray = us.toArray) (hr : VRs A C.scr s.heap ys us) (hn : ys.length ≤ 4096) (tk : Nat) :
    W C A (mh.set i (.list ys)) { s with heap := s.heap.update a (Obj.mapSeq f), toks := tk } ∧ Stp [] A s A { s with heap := s.heap.update a (Obj.mapSeq f), toks := tk } := by
  have hu := IsL.update l1 f
  rw [hf] at hu
  have st : Stp [] A s A { s with heap := s.heap.update a (Obj.mapSeq f), toks := tk } := Stp.at (s' := { s with heap := s.heap.update a (Obj.mapSeq f), toks := tk }) (List.mem_of_getElem? hi) (Heap.SameBut.update ..) (by
    show (s.heap.update a (Obj.mapSeq f)).get? a ≠ none
    rw [hu]; exact (fun h => nomatch h))
  exact W.setAt (s' := { s with heap := s.heap.update a (Obj.mapSeq f), toks := tk }) x hi (Heap.SameBut.update ..) ⟨us, _, hu, hr.mono st, hn⟩ rfl rfl

theorem VR.none' {A scr h} : VR A scr h .none Value.none := by unfold VR; rfl

@[reducible] noncomputable def kApp2 (Q : MV → MH → Prop) (i : Nat) (v : MV) (m : MH) : Prop := ∃ xs, m[i]? = some (.list xs) ∧ xs.length < 4096 ∧ ∃ m', m.set i (.list (xs ++ [v])) = m' ∧ Q .none m'
@[reducible] noncomputable def kApp1 (Pe : MT) (Q : MV → MH → Prop) (vars : Vars) (ov : MV) (m : MH) : Prop := ∃ i xs0, ov = .ref i ∧ m[i]? = some (.list xs0) ∧ Pe (kApp2 Q i) vars m
@[reducible] noncomputable def tAppend (Po Pe : MT) : MT := fun Q vars mh => Po (kApp1 Pe Q vars) vars mh
theorem SE_append {o e apos pos} {Po Pe : MT} (ho : SE C k tab env o Po) (he : SE C k tab env e Pe) (hst : notStar e = true) (hl : (apos.endLine == pos.line) = true) (hb : attributeBase o "append" env (eval o env) = eval o env) :
    SE C k tab env (.Call (.Attribute o "append" apos) [e] [] pos) (tAppend Po Pe) := by
  intro A E s ad mh vars Q hR hW hV hP
  refine wpAny_Call_method hb (fewArgs (by simp [hst]) (by simp)) hl F.plainAttrs_list F.slot_list_append F.type_list_append
    (wpAny_mono (ho A E s ad mh vars _ hR hW hV hP) (fun va s1 h1 => ?_) fun _ _ e => e)
  obtain ⟨ma, mh1, ad1, ⟨i, xs0, rfl, hm, hq⟩, hva, hW1, st1⟩ := h1
  obtain ⟨a, ha, rfl⟩ := hva.isRef
  obtain ⟨vs0, n0, l0, _, _⟩ := hW1.list ha hm
  refine ⟨(IsL.isL l0).typeIs, isL_noDict l0, ?_⟩
  rw [backTo1 hst]
  refine P.append_list (wpAny_mono (he A E s1 ad1 mh1 vars _ hR hW1 (hV.step st1) hq) (fun v s2 h2 => ?_) fun _ _ e => e)
  obtain ⟨mv, mh2, ad2, ⟨xs, hm2, hlt, _, rfl, hq2⟩, hv, hW2, st2⟩ := h2
  obtain ⟨B, hB⟩ := st2.pre
  have ha2 : ad2[i]? = some a := by rw [hB]; exact getElem?_pre ha
  obtain ⟨vs, n, l1, l2, l3⟩ := hW2.list ha2 hm2
  have el := l2.length
  refine ⟨vs.toArray, n, by rw [List.size_toArray]; exact line4 (by lia), l1, ?_⟩
  obtain ⟨w1, w2⟩ := W.setList (ys := xs ++ [mv]) (us := vs ++ [v]) hW2 ha2 l1 (f := fun ys => ys.push v) (by simp) (l2.append (.cons hv .nil)) (by simp; lia) s2.toks
  exact ⟨.none, _, ad2, hq2, VR.none', w1, (st1.trans st2).trans w2⟩

@[reducible] noncomputable def tExtend (Po Pe : MT) : MT := fun Q vars mh => Po (fun ov mh1 => ∃ i xs0, ov = .ref i ∧ mh1[i]? = some (.list xs0) ∧
      Pe (fun v mh2 => ∃ j xs ys, v = .ref j ∧ i ≠ j ∧ mh2[i]? = some (.list xs) ∧ mh2[j]? = some (.list ys) ∧ xs.length + ys.length ≤ 4096 ∧ ∃ m', mh2.set i (.list (xs ++ ys)) = m' ∧ Q .none m') vars mh1) vars mh
theorem SE_extend {o e apos pos} {Po Pe : MT} (ho : SE C k tab env o Po) (he : SE C k tab env e Pe) (hst : notStar e = true) (hl : (apos.endLine == pos.line) = true) (hb : attributeBase o "extend" env (eval o env) = eval o env) :
    SE C k tab env (.Call (.Attribute o "extend" apos) [e] [] pos) (tExtend Po Pe) := by
  intro A E s ad mh vars Q hR hW hV hP
  refine wpAny_Call_method hb (fewArgs (by simp [hst]) (by simp)) hl F.plainAttrs_list F.slot_list_extend F.type_list_extend
    (wpAny_mono (ho A E s ad mh vars _ hR hW hV hP) (fun va s1 h1 => ?_) fun _ _ e => e)
  obtain ⟨ma, mh1, ad1, ⟨i, xs0, rfl, hm, hq⟩, hva, hW1, st1⟩ := h1
  obtain ⟨a, ha, rfl⟩ := hva.isRef
  obtain ⟨vs0, n0, l0, _, _⟩ := hW1.list ha hm
  refine ⟨(IsL.isL l0).typeIs, isL_noDict l0, ?_⟩
  rw [backTo1 hst]
  refine P.extend_list (wpAny_mono (he A E s1 ad1 mh1 vars _ hR hW1 (hV.step st1) hq) (fun v s2 h2 => ?_) fun _ _ e => e)
  obtain ⟨mv, mh2, ad2, ⟨j, xs, ys, rfl, hij, hm2, hm3, hlt, _, rfl, hq2⟩, hv, hW2, st2⟩ := h2
  obtain ⟨B, hB⟩ := st2.pre
  have ha2 : ad2[i]? = some a := by rw [hB]; exact getElem?_pre ha
  obtain ⟨b, hb2, rfl⟩ := hv.isRef
  obtain ⟨vs, n, l1, l2, l3⟩ := hW2.list ha2 hm2
  obtain ⟨us, n', m1, m2, m3⟩ := hW2.list hb2 hm3
  have el := l2.length
  have em := m2.length
  have hz : vs.toArray.size + us.toArray.size ≤ 4096 := by simp only [List.size_toArray]; lia
  refine ⟨b, vs.toArray, us.toArray, n, n', line4 (by lia), Nat.le_succ_of_le (line4 hz), ?_, rfl, l1, m1, ?_⟩
  · simp only [Bool.and_eq_true, not_and, Bool.not_eq_true]
    intro _
    simp [Builtin.List.listTooLong, sizeLine]
    simp only [List.size_toArray] at hz
    lia
  obtain ⟨w1, w2⟩ := W.setList (ys := xs ++ ys) (us := vs ++ us) hW2 ha2 l1 (f := fun ys => ys ++ us.toArray) (by simp) (l2.append m2) (by simp; lia) s2.toks
  exact ⟨.none, _, ad2, hq2, VR.none', w1, (st1.trans st2).trans w2⟩

theorem ints_at {A scr h} : ∀ {ns : List Int} {vs}, VRs A scr h (ns.map .int) vs → ∀ (j : Nat) (hj : j < vs.length), ∃ t, vs[j] = .int (ns.getD j 0) t
  | [], _, x, j, hj => by simp only [List.map_nil] at x; unfold VRs at x; subst x; exact absurd hj (Nat.not_lt_zero _)
  | n :: ns, _, x, j, hj => by
    obtain ⟨v, r, rfl, hv, hr⟩ := x.uncons
    cases j with
    | zero => obtain ⟨t, rfl⟩ := hv.isInt; exact ⟨t, rfl⟩
    | succ j => simpa using ints_at hr j (by simpa using hj)

theorem map_eraseIdx' {α β : Type} (f : α → β) : ∀ (l : List α) (n : Nat), (l.map f).eraseIdx n = (l.eraseIdx n).map f
  | [], _ => rfl
  | _ :: _, 0 => rfl
  | a :: l, n + 1 => by simp [map_eraseIdx' f l n]
theorem erase_idx (ns : List Int) (k : Int) (h : k ∈ ns) : ns.idxOf k < ns.length ∧ ns.erase k = ns.eraseIdx (ns.idxOf k) := by
  exact ⟨List.idxOf_lt_length_of_mem h, List.erase_eq_eraseIdx_of_idxOf rfl⟩

@[reducible] noncomputable def tRemove (Po Pe : MT) : MT := fun Q vars mh => Po (fun ov mh1 => ∃ i xs0, ov = .ref i ∧ mh1[i]? = some (.list xs0) ∧
      Pe (fun v mh2 => ∃ (x : Int) (ns : List Int), v = .int x ∧ mh2[i]? = some (.list (ns.map .int)) ∧ x ∈ ns ∧ ∃ m', mh2.set i (.list ((ns.erase x).map .int)) = m' ∧ Q .none m') vars mh1) vars mh
theorem SE_remove {o e apos pos} {Po Pe : MT} (ho : SE C k tab env o Po) (he : SE C k tab env e Pe) (hst : notStar e = true) (hl : (apos.endLine == pos.line) = true) (hb : attributeBase o "remove" env (eval o env) = eval o env) :
    SE C k tab env (.Call (.Attribute o "remove" apos) [e] [] pos) (tRemove Po Pe) := by
  intro A E s ad mh vars Q hR hW hV hP
  refine wpAny_Call_method hb (fewArgs (by simp [hst]) (by simp)) hl F.plainAttrs_list F.slot_list_remove F.type_list_remove
    (wpAny_mono (ho A E s ad mh vars _ hR hW hV hP) (fun va s1 h1 => ?_) fun _ _ e => e)
  obtain ⟨ma, mh1, ad1, ⟨i, xs0, rfl, hm, hq⟩, hva, hW1, st1⟩ := h1
  obtain ⟨a, ha, rfl⟩ := hva.isRef
  obtain ⟨vs0, n0, l0, _, _⟩ := hW1.list ha hm
  refine ⟨(IsL.isL l0).typeIs, isL_noDict l0, ?_⟩
  rw [backTo1 hst]
  refine P.remove_list (wpAny_mono (he A E s1 ad1 mh1 vars _ hR hW1 (hV.step st1) hq) (fun v s2 h2 => ?_) fun _ _ e => e)
  obtain ⟨mv, mh2, ad2, ⟨x, ns, rfl, hm2, hx, _, rfl, hq2⟩, hv, hW2, st2⟩ := h2
  obtain ⟨B, hB⟩ := st2.pre
  have ha2 : ad2[i]? = some a := by rw [hB]; exact getElem?_pre ha
  obtain ⟨vs, n, l1, l2, l3⟩ := hW2.list ha2 hm2
  have el := l2.length
  rw [List.length_map] at el l3
  obtain ⟨t, rfl⟩ := hv.isInt
  obtain ⟨hj, ee⟩ := erase_idx ns x hx
  have hat := ints_at l2
  refine ⟨vs.toArray, n, fun y => vEq y (.int x t), ns.idxOf x, by simp; lia, by rw [List.size_toArray]; exact line4 (by lia), l1, fun y hy => ?_, ?_, fun m hm hlt => ?_, ?_⟩
  · obtain ⟨j, hj, rfl⟩ := List.getElem_of_mem (show y ∈ vs by simpa using hy)
    obtain ⟨u, e⟩ := hat j hj
    rw [e]
    exact MeetsSeq.EqGives.int _ _ _ _
  · obtain ⟨u, e⟩ := hat (ns.idxOf x) (by lia)
    simp only [List.getElem_toArray]
    rw [e]
    show (ns.getD (ns.idxOf x) 0 == x) = true
    simp [List.getD_eq_getElem?_getD, List.getElem?_eq_getElem hj]
  · obtain ⟨u, e⟩ := hat m (by simpa using hm)
    simp only [List.getElem_toArray]
    rw [e]
    have hm' : m < ns.length := by lia
    have := List.not_of_lt_findIdx (p := fun y => y == x) (xs := ns) hlt
    show (ns.getD m 0 == x) = false
    rw [List.getD_eq_getElem?_getD, List.getElem?_eq_getElem hm', Option.getD_some]
    exact this
  · obtain ⟨w1, w2⟩ := W.setList (ys := (ns.erase x).map .int) (us := vs.eraseIdx (ns.idxOf x)) hW2 ha2 l1 (f := fun xs => xs.eraseIdxIfInBounds (ns.idxOf x)) (by simp)
      (by rw [ee, ← map_eraseIdx']; exact l2.eraseIdx _) (by rw [List.length_map]; have := List.length_erase_le (a := x) (l := ns); lia) s2.toks
    exact ⟨.none, _, ad2, hq2, VR.none', w1, (st1.trans st2).trans w2⟩

@[reducible] noncomputable def tPop (Po : MT) : MT := fun Q vars mh => Po (fun ov mh1 => ∃ i xs y, ov = .ref i ∧ mh1[i]? = some (.list (xs ++ [y])) ∧ ∃ m', mh1.set i (.list xs) = m' ∧ Q y m') vars mh
theorem SE_pop {o apos pos} {Po : MT} (ho : SE C k tab env o Po) (hl : (apos.endLine == pos.line) = true) (hb : attributeBase o "pop" env (eval o env) = eval o env) :
    SE C k tab env (.Call (.Attribute o "pop" apos) [] [] pos) (tPop Po) := by
  intro A E s ad mh vars Q hR hW hV hP
  refine wpAny_Call_method hb (fewArgs (by simp) (by simp)) hl F.plainAttrs_list F.slot_list_pop F.type_list_pop
    (wpAny_mono (ho A E s ad mh vars _ hR hW hV hP) (fun va s1 h1 => ?_) fun _ _ e => e)
  obtain ⟨ma, mh1, ad1, ⟨i, xs, y, rfl, hm, _, rfl, hq⟩, hva, hW1, st1⟩ := h1
  obtain ⟨a, ha, rfl⟩ := hva.isRef
  obtain ⟨vs, n, l1, l2, l3⟩ := hW1.list ha hm
  have el := l2.length
  rw [List.length_append, List.length_singleton] at el l3
  refine ⟨(IsL.isL l1).typeIs, isL_noDict l1, ?_⟩
  obtain ⟨v, hv, hr⟩ := l2.get (i := xs.length) (m := y) (by simp)
  show wpAny C.M A (callWith pos (.builtin "list.pop") [.ref a] [] []) _ E s1
  refine P.pop_list (y := v) l1 (by simp only [List.size_toArray, el]; simpa using hv) ?_ (by rw [List.size_toArray]; exact line4 (by lia))
  have hz : vs.toArray.size - 1 = xs.length := by rw [List.size_toArray]; lia
  rw [hz]
  have htk := l2.eraseIdx xs.length
  have e1 : (xs ++ [y]).eraseIdx xs.length = xs := by
    rw [List.eraseIdx_append_of_length_le (Nat.le_refl _)]; simp
  rw [e1] at htk
  obtain ⟨w1, w2⟩ := W.setList (ys := xs) (us := vs.eraseIdx xs.length) hW1 ha l1 (f := fun ys => ys.eraseIdxIfInBounds xs.length) (by simp) htk (by lia) s1.toks
  exact ⟨y, _, ad1, hq, hr.mono w2, w1, st1.trans w2⟩
end
/-- what a call of the text's own def leaves -/
noncomputable def CallR (C : Cx) (k : Nat) (f : Str) (args : List MV) (Q : MV → MH → Prop) (mh : MH) : Prop :=
  ∀ (A : Around) (E : Value → Shared → Prop) (s : Shared) (ad : List Addr) (vs : List Value), Room A k → W C ad mh s → VRs ad C.scr s.heap args vs →
    wpAny C.M A (call (.ref (C.fa f)) vs) (Post C ad s Q) E s

noncomputable def FnAt (C : Cx) (f : Str) : Prop := ∃ o fd, C.base.get? (C.fa f) = some o ∧ o.data = .func fd ∧ GName C f (.ref (C.fa f))

theorem W.dicts {C A mh s} (x : W C A mh s) {i : Nat} {a es} (hi : A[i]? = some a) (hm : mh[i]? = some (.dict es) ∨ ∃ ep, mh[i]? = some (.fz es ep)) :
    ∃ kvs : List (Int × Value), s.heap.DictOf (intKind C.prog C.w) a kvs ∧ kvs.map (·.1) = es.map (·.1) ∧ VRs A C.scr s.heap (es.map (·.2)) (kvs.map (·.2)) ∧ es.length ≤ 4096 ∧ (a == sysModules) = false := by
  rcases hm with hm | ⟨ep, hm⟩
  · exact x.dict hi hm
  · exact x.fz hi hm

/-- built-in functions -/
noncomputable def listMax : List Int → Int
  | [] => 0
  | a :: r => r.foldl max a

inductive bcallI (mh : MH) (Q : MV → MH → Prop) : String → List MV → Prop
  | len {i : Nat} (h : (∃ xs, mh[i]? = some (.list xs) ∧ Q (.int xs.length) mh) ∨ (∃ es, (mh[i]? = some (.dict es) ∨ ∃ ep, mh[i]? = some (.fz es ep)) ∧ Q (.int es.length) mh)) : bcallI mh Q "len" [.ref i]
  | lens {x : Str} (h : x.length ≤ 100000 ∧ Q (.int x.length) mh) : bcallI mh Q "len" [.str x]
  | max2 {a b : Int} (h : Q (.int (max a b)) mh) : bcallI mh Q "max" [.int a, .int b]
  | maxl {i : Nat} (h : ∃ ns : List Int, mh[i]? = some (.list (ns.map .int)) ∧ ns ≠ [] ∧ Q (.int (listMax ns)) mh) : bcallI mh Q "max" [.ref i]
@[reducible] noncomputable def bcallM (id : String) (args : List MV) (mh : MH) (Q : MV → MH → Prop) : Prop := bcallI mh Q id args

inductive tcallI (mh : MH) (Q : MV → MH → Prop) : String → List MV → Prop
  | r1 {b : Int} (h : Q (.range 0 b 1) mh) : tcallI mh Q "range" [.int b]
  | r2 {a b : Int} (h : Q (.range a b 1) mh) : tcallI mh Q "range" [.int a, .int b]
  | r3 {a b c : Int} (h : (c ≠ 0 ∧ c.natAbs < 1000) ∧ Q (.range a b c) mh) : tcallI mh Q "range" [.int a, .int b, .int c]
  | tup {i : Nat} (h : ∃ xs, mh[i]? = some (.list xs) ∧ Q (.tup xs) mh) : tcallI mh Q "tuple" [.ref i]
  | list {i : Nat} (h : (∃ xs, mh[i]? = some (.list xs) ∧ Q (.ref mh.length) (mh ++ [.list xs])) ∨ (∃ es : List (Int × MV), (mh[i]? = some (.dict es) ∨ ∃ ep, mh[i]? = some (.fz es ep)) ∧ Q (.ref mh.length) (mh ++ [.list (es.map fun e => .int e.1)]))) : tcallI mh Q "list" [.ref i]
  | listr {a b c : Int} (h : (Builtin.Range.small a b c = true ∧ 0 ≤ Builtin.Range.rangeSize a b c ∧ Builtin.Range.rangeSize a b c ≤ 4096) ∧
      Q (.ref mh.length) (mh ++ [.list ((List.range (Builtin.Range.rangeSize a b c).toNat).map fun (j : Nat) => .int (a + j * c))])) : tcallI mh Q "list" [.range a b c]
@[reducible] noncomputable def tcallM (t : String) (args : List MV) (mh : MH) (Q : MV → MH → Prop) : Prop := tcallI mh Q t args

theorem listMax_spec : ∀ (ns : List Int), ns ≠ [] → listMax ns ∈ ns ∧ ∀ a ∈ ns, a ≤ listMax ns := by
  have key : ∀ (r : List Int) (a : Int), (r.foldl max a = a ∨ r.foldl max a ∈ r) ∧ a ≤ r.foldl max a ∧ ∀ b ∈ r, b ≤ r.foldl max a := by
    intro r
    induction r with
    | nil => intro a; exact ⟨.inl rfl, Int.le_refl _, (fun _ h => nomatch h)⟩
    | cons b r ih =>
      intro a
      obtain ⟨h1, h2, h3⟩ := ih (max a b)
      refine ⟨?_, by simp only [List.foldl_cons]; lia, fun c hc => ?_⟩
      · simp only [List.foldl_cons, List.mem_cons]
        rcases h1 with h1 | h1
        · rw [h1]; rcases Int.le_total a b with h | h
          · right; left; lia
          · left; lia
        · right; right; exact h1
      · simp only [List.foldl_cons]
        rcases List.mem_cons.mp hc with rfl | hc
        · lia
        · exact h3 c hc
  intro ns hn
  cases ns with
  | nil => exact absurd rfl hn
  | cons a r =>
    obtain ⟨h1, h2, h3⟩ := key r a
    refine ⟨?_, fun b hb => ?_⟩
    · show r.foldl max a ∈ _
      rcases h1 with h1 | h1
      · rw [h1]; exact List.mem_cons_self
      · exact List.mem_cons_of_mem _ h1
    · rcases List.mem_cons.mp hb with rfl | hb
      · exact h2
      · exact h3 b hb

theorem ints_items {A scr h} : ∀ {ns : List Int} {vs}, VRs A scr h (ns.map .int) vs → ∃ xs : List (Int × Tok), vs = xs.map (fun p => Value.int p.1 p.2) ∧ xs.map (·.1) = ns
  | [], _, x => by simp only [List.map_nil] at x; unfold VRs at x; subst x; exact ⟨[], rfl, rfl⟩
  | n :: ns, _, x => by
    obtain ⟨v, r, rfl, hv, hr⟩ := x.uncons
    obtain ⟨t, rfl⟩ := hv.isInt
    obtain ⟨xs, e1, e2⟩ := ints_items hr
    exact ⟨(n, t) :: xs, by rw [e1]; rfl, by simp [e2]⟩

theorem Post.grown {C ad mh} {s s' : Shared} {Q : MV → MH → Prop} {mv v} (hw : W C ad mh s) (hk : ∀ b o, s.heap.get? b = some o → s'.heap.get? b = some o) (hg : s'.gens = s.gens) (ho : s'.os = s.os)
    (hv : VR ad C.scr s'.heap mv v) (hq : Q mv mh) : Post C ad s Q v s' := ⟨mv, mh, ad, hq, hv, hw.grow hk hg ho, Stp.grow hk⟩

theorem VR.int' {A scr h i t} : VR A scr h (.int i) (Value.int i t) := by unfold VR; exact ⟨t, rfl⟩

theorem bcall_ok {C : Cx} {k A id args mh vs} {E : Value → Shared → Prop} {s : Shared} {ad} {Q : MV → MH → Prop} (hR : Room A k) (hW : W C ad mh s) (hv : VRs ad C.scr s.heap args vs) (hP : bcallM id args mh Q) :
    wpAny C.M A (call (.builtin id) vs) (Post C ad s Q) E s := by
  rcases hP with ⟨hP⟩ | ⟨hP⟩ | ⟨hP⟩ | ⟨hP⟩
  · obtain ⟨v, r, rfl, h1, h2⟩ := hv.uncons
    have : r = [] := by unfold VRs at h2; exact h2
    subst this
    obtain ⟨a, ha, rfl⟩ := h1.isRef
    rcases hP with ⟨xs, hm, hq⟩ | ⟨es, hm, hq⟩
    · obtain ⟨us, n, l1, l2, l3⟩ := hW.list ha hm
      have e := l2.length
      refine call_len_list (IsL.isL l1) (by simp only [List.size_toArray]; lia) ?_
      rw [List.size_toArray, e]
      exact Post.int hW hq
    · obtain ⟨ka, d1, d2, d3, d4, d5⟩ := hW.dicts ha hm
      have el : ka.length = es.length := by have := congrArg List.length d2; simpa using this
      refine call_len_dict d5 d1 (by lia) ?_
      rw [el]
      exact Post.int hW hq
  · obtain ⟨v, r, rfl, h1, h2⟩ := hv.uncons
    have : r = [] := by unfold VRs at h2; exact h2
    subst this
    obtain ⟨t, rfl⟩ := h1.isStr
    exact PyProof.Rows.len_str (by lia) (Post.int hW hP.2)
  · obtain ⟨v, r, rfl, h1, h2⟩ := hv.uncons
    obtain ⟨u, r', rfl, h3, h4⟩ := h2.uncons
    have : r' = [] := by unfold VRs at h4; exact h4
    subst this
    obtain ⟨t, rfl⟩ := h1.isInt
    obtain ⟨t', rfl⟩ := h3.isInt
    rename_i a b
    refine max_two_ints hR.handled fun h' tk hk => ?_
    refine Post.grown hW hk rfl rfl ?_ hP
    split
    · rw [show max a b = b by lia]; exact VR.int'
    · rw [show max a b = a by lia]; exact VR.int'
  · obtain ⟨v, r, rfl, h1, h2⟩ := hv.uncons
    have : r = [] := by unfold VRs at h2; exact h2
    subst this
    obtain ⟨a, ha, rfl⟩ := h1.isRef
    obtain ⟨ns, hm, hne, hq⟩ := hP
    obtain ⟨us, n, l1, l2, l3⟩ := hW.list ha hm
    obtain ⟨xs, rfl, e2⟩ := ints_items l2
    have hl : s.heap.IsList a (intItems xs.toArray) := by
      have := IsL.isL l1
      simpa [intItems] using this
    have hz : 0 < xs.length := by
      rw [← List.length_map (f := (·.1)) (as := xs), e2]
      exact List.length_pos_iff.mpr hne
    refine max_intList hR.handled hl (by simpa using hz) fun v h' tk hv hk => ?_
    obtain ⟨t, rfl⟩ := intItems_at hv
    obtain ⟨g1, g2⟩ := argBest_gt (numAt xs.toArray) (xs.toArray.size - 1)
    refine Post.grown hW hk rfl rfl ?_ hq
    have hz' : xs.toArray.size = xs.length := by simp
    have eq : numAt xs.toArray (argBest (fun i j => decide (numAt xs.toArray i > numAt xs.toArray j)) (xs.toArray.size - 1)) = listMax ns := by
      obtain ⟨m1, m2⟩ := listMax_spec ns hne
      apply Int.le_antisymm
      · refine m2 _ ?_
        rw [numAt_eq, ← e2]
        exact getD_mem (by rw [List.length_map, Array.length_toList]; rw [hz'] at g1; have h9 := hz; rw [hz']; show _ < xs.length; lia)
      · obtain ⟨j, hj, e⟩ := mem_getD m1
        rw [← e]
        have := g2 j (by rw [← e2, List.length_map] at hj; lia)
        rw [numAt_eq] at this
        simpa [e2] using this
    rw [eq]
    exact VR.int'

theorem range_items {A scr h} {a c : Int} : ∀ {n : Nat} {acc : Array Value}, ItemsOf (fun i v => ∃ t, v = Value.int (a + i * c) t) acc n → VRs A scr h ((List.range n).map fun (j : Nat) => .int (a + j * c)) acc.toList := by
  intro n acc x
  have key : ∀ (m i : Nat) (l : List Value), l.length = m → (∀ j v, l[j]? = some v → ∃ t, v = Value.int (a + (i + j : Nat) * c) t) → VRs A scr h ((List.range' i m).map fun (j : Nat) => .int (a + j * c)) l := by
    intro m
    induction m with
    | zero => intro i l hl _; rw [List.eq_nil_of_length_eq_zero hl]; exact .nil
    | succ m ih =>
      intro i l hl hj
      cases l with
      | nil => simp at hl
      | cons v r =>
        rw [List.range'_succ, List.map_cons]
        obtain ⟨t, e⟩ := hj 0 v rfl
        refine .cons ?_ (ih (i + 1) r (by simpa using hl) fun j u hu => ?_)
        · rw [e]; unfold VR; exact ⟨t, by simp⟩
        · obtain ⟨t', e'⟩ := hj (j + 1) u (by simpa using hu)
          exact ⟨t', by rw [e']; congr 3; lia⟩
  rw [List.range_eq_range']
  refine key n 0 acc.toList (by rw [Array.length_toList]; exact x.1) fun j v hv => ?_
  obtain ⟨t, e⟩ := x.2 j v (by simpa using hv)
  exact ⟨t, by rw [e]; simp⟩

theorem key_items {A scr h} {p : Program} {w : World} : ∀ {es : List (Int × MV)} {kvs : List (Int × Value)} {l : List Value}, kvs.map (·.1) = es.map (·.1) → l.length = kvs.length →
    (∀ (j : Nat) (v : Value), l[j]? = some v → ∃ k x, kvs[j]? = some (k, x) ∧ (intKind p w).is k v = true) → VRs A scr h (es.map fun e => .int e.1) l
  | [], [], l, _, hl, _ => by rw [List.eq_nil_of_length_eq_zero hl]; exact .nil
  | e :: es, q :: kvs, [], _, hl, _ => by simp at hl
  | e :: es, q :: kvs, v :: l, he, hl, hj => by
    simp only [List.map_cons, List.cons.injEq] at he
    obtain ⟨k, x, e1, e2⟩ := hj 0 v rfl
    simp only [List.getElem?_cons_zero, Option.some.injEq] at e1
    subst e1
    obtain ⟨t, rfl⟩ := Value.isInt_shape (k := k) (v := v) e2
    rw [List.map_cons]
    refine .cons ?_ (key_items (p := p) (w := w) he.2 (by simpa using hl) fun j u hu => ?_)
    · rw [← he.1]; exact VR.int'
    · exact hj (j + 1) u (by simpa using hu)
  | [], _ :: _, _, he, _, _ => by cases he
  | _ :: _, [], _, he, _, _ => by cases he

theorem tcall_ok {C : Cx} {k A t args mh vs} {E : Value → Shared → Prop} {s : Shared} {ad} {Q : MV → MH → Prop} (hR : Room A k) (hW : W C ad mh s) (hv : VRs ad C.scr s.heap args vs) (hP : tcallM t args mh Q) :
    wpAny C.M A (call (.type t) vs) (Post C ad s Q) E s := by
  have one : ∀ {m v r}, VRs ad C.scr s.heap [m] (v :: r) → VR ad C.scr s.heap m v ∧ r = [] := fun x => by
    obtain ⟨v', r', e, h1, h2⟩ := x.uncons
    cases e
    unfold VRs at h2
    exact ⟨h1, h2⟩
  have rng : ∀ (a b c : Int) (t u y : Tok) (tk : Nat), Q (.range a b c) mh → Post C ad s Q (.ref s.heap.objs.size) { s with heap := s.heap.push { cls := .type "range", data := .fields #[.int a t, .int b u, .int c y] }, toks := tk } := fun a b c t u y tk hq =>
    Post.grown hW (fun _ _ e => Heap.get?_push_of_some _ e) rfl rfl (by unfold VR; exact ⟨_, t, u, y, rfl, fun h => Nat.lt_irrefl _ (hW.lt h), IsRange.new ..⟩) hq
  rcases hP with ⟨hP⟩ | ⟨hP⟩ | ⟨hP⟩ | ⟨hP⟩ | ⟨hP⟩ | ⟨hP⟩
  · obtain ⟨v, r, rfl, h1, h2⟩ := hv.uncons
    have : r = [] := by unfold VRs at h2; exact h2
    subst this
    obtain ⟨u, rfl⟩ := h1.isInt
    exact call_range_1 (rng _ _ _ _ _ _ _ hP)
  · obtain ⟨v, r, rfl, h1, h2⟩ := hv.uncons
    obtain ⟨u, r', rfl, h3, h4⟩ := h2.uncons
    have : r' = [] := by unfold VRs at h4; exact h4
    subst this
    obtain ⟨t1, rfl⟩ := h1.isInt
    obtain ⟨t2, rfl⟩ := h3.isInt
    exact call_range_2 (rng _ _ _ _ _ _ _ hP)
  · obtain ⟨v, r, rfl, h1, h2⟩ := hv.uncons
    obtain ⟨u, r', rfl, h3, h4⟩ := h2.uncons
    obtain ⟨x, r'', rfl, h5, h6⟩ := h4.uncons
    have : r'' = [] := by unfold VRs at h6; exact h6
    subst this
    obtain ⟨t1, rfl⟩ := h1.isInt
    obtain ⟨t2, rfl⟩ := h3.isInt
    obtain ⟨t3, rfl⟩ := h5.isInt
    exact call_range_3 hP.1.1 (rng _ _ _ _ _ _ _ hP.2) (Or.inl (PyProof.noPylong_small (by lia)))
  · obtain ⟨v, r, rfl, h1, h2⟩ := hv.uncons
    have : r = [] := by unfold VRs at h2; exact h2
    subst this
    obtain ⟨a, ha, rfl⟩ := h1.isRef
    obtain ⟨xs, hm, hq⟩ := hP
    obtain ⟨us, n, l1, l2, l3⟩ := hW.list ha hm
    have e := l2.length
    refine call_tuple_list (IsL.isL l1) (fun h' hk => ?_) (by simp only [List.size_toArray]; exact line4 (by lia))
    have st : Stp [] ad s ad { s with heap := h' } := Stp.grow hk
    exact Post.trans st (Post.newTup (tk := s.toks) (hW.grow (s' := { s with heap := h' }) hk rfl rfl) (l2.mono st) rfl hq)
  · obtain ⟨v, r, rfl, h1, h2⟩ := hv.uncons
    have : r = [] := by unfold VRs at h2; exact h2
    subst this
    obtain ⟨a, ha, rfl⟩ := h1.isRef
    rcases hP with ⟨xs, hm, hq⟩ | ⟨es, hm, hq⟩
    · obtain ⟨us, n, l1, l2, l3⟩ := hW.list ha hm
      have e := l2.length
      refine call_list_seq a (.inl rfl) l1 rfl rfl (fun h' c' hk hn => ?_) (by simp only [List.size_toArray]; exact line4 (by lia))
      exact Post.alloc (mo := .list xs) hW get_new hk (fun st => ⟨us, c', hn, l2.mono st, l3⟩) rfl rfl hq
    · obtain ⟨ka, d1, d2, d3, d4, d5⟩ := hW.dicts ha hm
      obtain ⟨ep, hat⟩ := d1.dictAt
      have el : ka.length = es.length := by have := congrArg List.length d2; simpa using this
      refine kdl_call (kdl_dict (knd := intKind C.prog C.w) (kvs := ka) (ep := ep) d5) hR.handled hat (line4 (by lia)) fun h' tk acc c' hk hn hit => ?_
      refine Post.alloc (mo := .list (es.map fun e => .int e.1)) hW get_new hk (fun st => ⟨acc.toList, c', by simpa using hn, ?_, by simpa using d4⟩) rfl rfl hq
      exact key_items d2 (by rw [Array.length_toList]; exact hit.1) fun j v hj => hit.2 j v (by simpa using hj)
  · rename_i a b c
    obtain ⟨v, r, rfl, h1, h2⟩ := hv.uncons
    have : r = [] := by unfold VRs at h2; exact h2
    subst this
    unfold VR at h1
    obtain ⟨p, t, u, y, rfl, _, hr⟩ := h1
    obtain ⟨⟨g1, g2, g3⟩, hq⟩ := hP
    refine call_list_range hR.handled hr g1 (n := (Builtin.Range.rangeSize a b c).toNat) (by lia) (by lia) fun h' tk acc c' hk hn hit => ?_
    exact Post.alloc (mo := .list _) hW get_new hk (fun st => ⟨acc.toList, c', by simpa using hn, range_items hit, by simp; lia⟩) rfl rfl hq
section
variable {C : Cx} {k : Nat} {tab : List (Str × Nat)} {env : Env}

theorem args_wp {e es f pos} {PL : LT} {A : Around} {E : Value → Shared → Prop} {s : Shared} {ad mh vars} {Q : Args → Shared → Prop} {R : List MV → MH → Prop} (ha : SEL C k tab env (e :: es) PL) (hst : notStar e = true)
    (hR : Room A k) (hW : W C ad mh s) (hV : VOK C tab env ad s.heap vars) (hP : PL R vars mh) (h : ∀ vs s', PostL C ad s R vs s' → Q ⟨vs, []⟩ s') :
    wpAny C.M A (evalArgs f true (backTo pos (starEach (e :: es) env)) []) Q E s := by
  have h1 := ha pos A E s ad mh vars R hR hW hV hP
  rw [starEach_plain hst] at h1 ⊢
  exact evalArgs_plain (wpAny_mono h1 (fun vs s' x => h vs s' x) fun _ _ e => e)

@[reducible] noncomputable def kCall (C : Cx) (k : Nat) (f : Str) (Q : MV → MH → Prop) (ms : List MV) (m : MH) : Prop := CallR C k f ms Q m
@[reducible] noncomputable def tCall (C : Cx) (k : Nat) (f : Str) (PL : LT) : MT := fun Q vars mh => PL (kCall C k f Q) vars mh
/-- a call of the text's own def -/
theorem SE_call {f fpos pos e es} {PL : LT} (he : EOK env) (hk : env.kindOf f = some .globalImplicit) (hd : (f == ("__debug__" : Str)) = false) (hf : FnAt C f)
    (ha : SEL C k tab env (e :: es) PL) (hst : notStar e = true) :
    SE C k tab env (.Call (.Name f fpos) (e :: es) [] pos) (tCall C k f PL) := by
  intro A E s ad mh vars Q hR hW hV hP
  obtain ⟨o, fd, h1, h2, h3⟩ := hf
  refine wpAny_Call_Name_kw (glob_wp he hk hd h3 hW ?_)
  show wpAny C.M A (callWith pos (.ref (C.fa f)) [] (backTo pos (starEach (e :: es) env)) []) _ E s
  refine callWith_function (o := o) (fd := fd) (args_wp ha hst hR hW hV hP fun vs s1 hl => ?_)
  obtain ⟨ms, mh1, ad1, hq, hv, hW1, st1⟩ := hl
  exact ⟨⟨hW1.keep _ _ h1, h2⟩, wpAny_mono (hq A E s1 ad1 vs hR hW1 hv) (fun v s2 h => h.trans st1) fun _ _ e => e⟩

theorem backTo_noStar {es : List Expr} {env : Env} {pos : Pos} (h : es.all notStar = true) : (backTo pos (starEach es env)).any (·.1) = false := by
  induction es with
  | nil => rfl
  | cons e es ih =>
    simp only [List.all_cons, Bool.and_eq_true] at h
    rw [starEach_plain h.1]
    show (false || (backTo pos (starEach es env)).any (·.1)) = false
    rw [ih h.2]; rfl

@[reducible] noncomputable def kB (id : String) (Q : MV → MH → Prop) (ms : List MV) (m : MH) : Prop := bcallM id ms m Q
@[reducible] noncomputable def tB (id : String) (PL : LT) : MT := fun Q vars mh => PL (kB id Q) vars mh
theorem SE_bcall {f fpos pos e es id} {PL : LT} (he : EOK env) (hk : env.kindOf f = some .globalImplicit) (hd : (f == ("__debug__" : Str)) = false) (hf : GName C f (.builtin id))
    (ha : SEL C k tab env (e :: es) PL) (hst : (e :: es).all notStar = true) :
    SE C k tab env (.Call (.Name f fpos) (e :: es) [] pos) (tB id PL) := by
  intro A E s ad mh vars Q hR hW hV hP
  refine wpAny_Call_Name_kw (glob_wp he hk hd hf hW ?_)
  show wpAny C.M A (callWith pos (.builtin id) [] (backTo pos (starEach (e :: es) env)) []) _ E s
  have hst1 : notStar e = true := by simp only [List.all_cons, Bool.and_eq_true] at hst; exact hst.1
  refine callWith_builtin (backTo_noStar hst) (args_wp ha hst1 hR hW hV hP fun vs s1 hl => ?_)
  obtain ⟨ms, mh1, ad1, hq, hv, hW1, st1⟩ := hl
  exact wpAny_mono (bcall_ok hR hW1 hv hq) (fun v s2 h => h.trans st1) fun _ _ e => e

@[reducible] noncomputable def kT (t : String) (Q : MV → MH → Prop) (ms : List MV) (m : MH) : Prop := tcallM t ms m Q
@[reducible] noncomputable def tT (t : String) (PL : LT) : MT := fun Q vars mh => PL (kT t Q) vars mh
theorem SE_tcall {f fpos pos e es t} {PL : LT} (he : EOK env) (hk : env.kindOf f = some .globalImplicit) (hd : (f == ("__debug__" : Str)) = false) (hf : GName C f (.type t))
    (ha : SEL C k tab env (e :: es) PL) (hst : (e :: es).all notStar = true) :
    SE C k tab env (.Call (.Name f fpos) (e :: es) [] pos) (tT t PL) := by
  intro A E s ad mh vars Q hR hW hV hP
  refine wpAny_Call_Name_kw (glob_wp he hk hd hf hW ?_)
  show wpAny C.M A (callWith pos (.type t) [] (backTo pos (starEach (e :: es) env)) []) _ E s
  have hst1 : notStar e = true := by simp only [List.all_cons, Bool.and_eq_true] at hst; exact hst.1
  refine PySem.callWith_type (backTo_noStar hst) (args_wp ha hst1 hR hW hV hP fun vs s1 hl => ?_)
  obtain ⟨ms, mh1, ad1, hq, hv, hW1, st1⟩ := hl
  exact wpAny_mono (tcall_ok hR hW1 hv hq) (fun v s2 h => h.trans st1) fun _ _ e => e

/-- -1 -/
theorem SE_neg {i u p pos} : SE C k tab env (.UnaryOp .USub (.Constant (.int i) u p) pos) (tInt (-i)) :=
  fun _ _ _ _ _ _ _ _ hW _ hP => wpAny_UnaryOp (wpAny_Constant_int (PyProof.Rows.neg_int (Post.trans (Stp.toks _) (Post.int (hW.toks _) hP))))

/-! dicts -/
noncomputable def put {K : Type} [DecidableEq K] (es : List (K × MV)) (k : K) (v : MV) : List (K × MV) :=
  if es.any (fun e => decide (e.1 = k)) then es.map (fun e => if e.1 = k then (e.1, v) else e) else es ++ [(k, v)]
noncomputable def del {K : Type} [DecidableEq K] (es : List (K × MV)) (k : K) : List (K × MV) := es.filter fun e => decide (e.1 ≠ k)

theorem VRs.snd_map {K : Type} [DecidableEq K] {A scr h} {k : K} {m v} (hm : VR A scr h m v) : ∀ {es : List (K × MV)} {kvs : List (K × Value)}, kvs.map (·.1) = es.map (·.1) → VRs A scr h (es.map (·.2)) (kvs.map (·.2)) →
    VRs A scr h ((es.map fun e => if e.1 = k then (e.1, m) else e).map (·.2)) ((kvs.map fun e => if e.1 = k then (e.1, v) else e).map (·.2)) ∧
      (kvs.map fun e => if e.1 = k then (e.1, v) else e).map (·.1) = (es.map fun e => if e.1 = k then (e.1, m) else e).map (·.1) ∧
      kvs.any (fun e => decide (e.1 = k)) = es.any (fun e => decide (e.1 = k))
  | [], [], _, _ => ⟨.nil, rfl, rfl⟩
  | (k1, m1) :: es, (k2, v2) :: kvs, e, r => by
    simp only [List.map_cons, List.cons.injEq] at e
    obtain ⟨rfl, e⟩ := e
    obtain ⟨u, q, e', hu, hq⟩ := r.uncons
    simp only [List.map_cons, List.cons.injEq] at e'
    obtain ⟨rfl, e'⟩ := e'
    subst e'
    obtain ⟨i1, i2, i3⟩ := VRs.snd_map (k := k) hm e hq
    refine ⟨?_, ?_, ?_⟩
    · simp only [List.map_cons]
      refine .cons ?_ i1
      by_cases hk : k2 = k
      · simp only [hk, if_true]; exact hm
      · simp only [hk, if_false]; exact hu
    · simp only [List.map_cons, i2]
      by_cases hk : k2 = k <;> simp [hk]
    · simp only [List.any_cons, i3]
  | [], _ :: _, e, _ => by cases e
  | _ :: _, [], e, _ => by cases e

theorem put_rel {K : Type} [DecidableEq K] {A scr h} {k : K} {m v} (hm : VR A scr h m v) {es : List (K × MV)} {kvs : List (K × Value)} (e : kvs.map (·.1) = es.map (·.1)) (r : VRs A scr h (es.map (·.2)) (kvs.map (·.2))) :
    (stored kvs k v).map (·.1) = (put es k m).map (·.1) ∧ VRs A scr h ((put es k m).map (·.2)) ((stored kvs k v).map (·.2)) := by
  obtain ⟨i1, i2, i3⟩ := VRs.snd_map (k := k) hm e r
  unfold stored put
  rw [i3]
  split
  · exact ⟨i2, i1⟩
  · refine ⟨by simp [e], ?_⟩
    simp only [List.map_append, List.map_cons, List.map_nil]
    exact r.append (.cons hm .nil)

theorem put_len {K : Type} [DecidableEq K] (es : List (K × MV)) (k : K) (m : MV) : (put es k m).length ≤ es.length + 1 := by
  unfold put; split <;> simp

theorem del_rel {K : Type} [DecidableEq K] {A scr h} {k : K} : ∀ {es : List (K × MV)} {kvs : List (K × Value)}, kvs.map (·.1) = es.map (·.1) → VRs A scr h (es.map (·.2)) (kvs.map (·.2)) →
    (PySem.without kvs k).map (·.1) = (del es k).map (·.1) ∧ VRs A scr h ((del es k).map (·.2)) ((PySem.without kvs k).map (·.2))
  | [], [], _, _ => ⟨rfl, .nil⟩
  | (k1, m1) :: es, (k2, v2) :: kvs, e, r => by
    simp only [List.map_cons, List.cons.injEq] at e
    obtain ⟨rfl, e⟩ := e
    obtain ⟨u, q, e', hu, hq⟩ := r.uncons
    simp only [List.map_cons, List.cons.injEq] at e'
    obtain ⟨rfl, e'⟩ := e'
    subst e'
    obtain ⟨i1, i2⟩ := del_rel (k := k) e hq
    unfold PySem.without del at *
    by_cases hk : k2 = k
    · simp only [List.filter_cons, hk, ne_eq, not_true_eq_false, decide_false, Bool.false_eq_true, if_false]
      exact ⟨i1, i2⟩
    · simp only [List.filter_cons, hk, ne_eq, not_false_eq_true, decide_true, if_true, List.map_cons]
      exact ⟨by rw [i1], .cons hu i2⟩
  | [], _ :: _, e, _ => by cases e
  | _ :: _, [], e, _ => by cases e

theorem dictOf_noDict {K : Type} [DecidableEq K] {p w} {knd : KeyKind p w K} {h : Heap} {l : Addr} {kvs : List (K × Value)} (x : h.DictOf knd l kvs) : ∀ a, Value.ref l = .ref a → ∃ ob, h.get? a = some ob ∧ ob.dict = none := fun a e => by
  injection e with e; subst e
  obtain ⟨o, es, ep, h1, h2, _⟩ := x
  exact ⟨o, h1, h2.2.1⟩

theorem W.setDict {C A mh s} (x : W C A mh s) {i : Nat} {a : Addr} {es : List (Int × MV)} {kvs : List (Int × Value)} {h' : Heap} (hi : A[i]? = some a) (hs : Heap.SameBut a s.heap h') (tk : Nat)
    (hd : h'.DictOf (intKind C.prog C.w) a kvs) (e : kvs.map (·.1) = es.map (·.1)) (r : VRs A C.scr s.heap (es.map (·.2)) (kvs.map (·.2))) (hn : es.length ≤ 4096) (hsy : (a == sysModules) = false) :
    W C A (mh.set i (.dict es)) { s with heap := h', toks := tk } ∧ Stp [] A s A { s with heap := h', toks := tk } := by
  have st : Stp [] A s A { s with heap := h', toks := tk } := Stp.at (s' := { s with heap := h', toks := tk }) (List.mem_of_getElem? hi) hs (by
    obtain ⟨o, _, _, h1, _⟩ := hd
    show h'.get? a ≠ none
    rw [h1]; exact (fun h => nomatch h))
  exact W.setAt (s' := { s with heap := h', toks := tk }) x hi hs ⟨kvs, hd, e, r.mono st, hn, hsy⟩ rfl rfl
theorem W.setSdict {C A mh s} (x : W C A mh s) {i : Nat} {a : Addr} {es : List (Str × MV)} {kvs : List (Str × Value)} {h' : Heap} (hi : A[i]? = some a) (hs : Heap.SameBut a s.heap h') (tk : Nat)
    (hd : h'.DictOf (strKind C.prog C.w) a kvs) (e : kvs.map (·.1) = es.map (·.1)) (r : VRs A C.scr s.heap (es.map (·.2)) (kvs.map (·.2))) (hn : es.length ≤ 4096) (hsy : (a == sysModules) = false) :
    W C A (mh.set i (.sdict es)) { s with heap := h', toks := tk } ∧ Stp [] A s A { s with heap := h', toks := tk } := by
  have st : Stp [] A s A { s with heap := h', toks := tk } := Stp.at (s' := { s with heap := h', toks := tk }) (List.mem_of_getElem? hi) hs (by
    obtain ⟨o, _, _, h1, _⟩ := hd
    show h'.get? a ≠ none
    rw [h1]; exact (fun h => nomatch h))
  exact W.setAt (s' := { s with heap := h', toks := tk }) x hi hs ⟨kvs, hd, e, r.mono st, hn, hsy⟩ rfl rfl

theorem look_val {A scr h} {k : Int} {es : List (Int × MV)} {kvs : List (Int × Value)} {m} (e : kvs.map (·.1) = es.map (·.1)) (r : VRs A scr h (es.map (·.2)) (kvs.map (·.2))) (hl : look es k = some m) : ∃ v, valueAt kvs k = some v ∧ VR A scr h m v := by
  have := look_at (k := k) e r
  rw [hl] at this
  exact this
theorem look_no {A scr h} {k : Int} {es : List (Int × MV)} {kvs : List (Int × Value)} (e : kvs.map (·.1) = es.map (·.1)) (r : VRs A scr h (es.map (·.2)) (kvs.map (·.2))) (hl : look es k = none) : valueAt kvs k = none := by
  have := look_at (k := k) e r
  rw [hl] at this
  exact this

@[reducible] noncomputable def tDpop (Po Pe : MT) : MT := fun Q vars mh => Po (fun ov mh1 => ∃ i es0, ov = .ref i ∧ mh1[i]? = some (.dict es0) ∧
      Pe (fun v mh2 => ∃ x es m, v = .int x ∧ mh2[i]? = some (.dict es) ∧ look es x = some m ∧ ∃ m', mh2.set i (.dict (del es x)) = m' ∧ Q m m') vars mh1) vars mh
/-- d.pop(k) -/
theorem SE_dpop {o e apos pos} {Po Pe : MT} (ho : SE C k tab env o Po) (he : SE C k tab env e Pe) (hst : notStar e = true) (hl : (apos.endLine == pos.line) = true) (hb : attributeBase o "pop" env (eval o env) = eval o env) :
    SE C k tab env (.Call (.Attribute o "pop" apos) [e] [] pos) (tDpop Po Pe) := by
  intro A E s ad mh vars Q hR hW hV hP
  refine wpAny_Call_method hb (fewArgs (by simp [hst]) (by simp)) hl F.plainAttrs_dict F.slot_dict_pop F.type_dict_pop
    (wpAny_mono (ho A E s ad mh vars _ hR hW hV hP) (fun va s1 h1 => ?_) fun _ _ e => e)
  obtain ⟨ma, mh1, ad1, ⟨i, es0, rfl, hm, hq⟩, hva, hW1, st1⟩ := h1
  obtain ⟨a, ha, rfl⟩ := hva.isRef
  obtain ⟨ka0, d0, _⟩ := hW1.dict ha hm
  refine ⟨d0.typeIs, dictOf_noDict d0, ?_⟩
  rw [backTo1 hst]
  refine method1_meetsIn F.slot_dict_pop F.entry_dict_pop (wpAny_mono (he A E s1 ad1 mh1 vars _ hR hW1 (hV.step st1) hq) (fun v s2 h2 => ?_) fun _ _ e => e)
  obtain ⟨mv, mh2, ad2, ⟨x, es, m, rfl, hm2, hlk, _, rfl, hq2⟩, hv, hW2, st2⟩ := h2
  obtain ⟨B, hB⟩ := st2.pre
  have ha2 : ad2[i]? = some a := by rw [hB]; exact getElem?_pre ha
  obtain ⟨ka, d1, d2, d3, d4, d5⟩ := hW2.dict ha2 hm2
  obtain ⟨t, rfl⟩ := hv.isInt
  obtain ⟨y, hy, hr⟩ := look_val d2 d3 hlk
  have el : ka.length = es.length := by have := congrArg List.length d2; simpa using this
  refine ⟨d1.typeIs, F.args_dict_pop_2 _ _, _, meets_dict_pop_there (intKind C.prog C.w) a (k := x) (by simp [intKind, Value.isInt]) [] (.inl rfl) rfl, ka, y, d1, line4 (by lia), hy, fun h' hd' hs' => ?_⟩
  obtain ⟨g1, g2⟩ := del_rel (k := x) d2 d3
  obtain ⟨w1, w2⟩ := W.setDict hW2 ha2 hs' (s2.toks + 1) hd' g1 g2 (Nat.le_trans (List.length_filter_le _ _) d4) d5
  exact ⟨m, _, ad2, hq2, hr.mono w2, w1, (st1.trans st2).trans w2⟩

@[reducible] noncomputable def tDget (Po Pe Pf : MT) : MT := fun Q vars mh => Po (fun ov mh1 => ∃ i es0, ov = .ref i ∧ mh1[i]? = some (.dict es0) ∧
      Pe (fun v mh2 => Pf (fun u mh3 => ∃ x es, v = .int x ∧ mh3[i]? = some (.dict es) ∧ Q ((look es x).getD u) mh3) vars mh2) vars mh1) vars mh
/-- d.get(k, x) -/
theorem SE_dget {o e f apos pos} {Po Pe Pf : MT} (ho : SE C k tab env o Po) (he : SE C k tab env e Pe) (hf : SE C k tab env f Pf) (hst : notStar e = true) (hst' : notStar f = true) (hl : (apos.endLine == pos.line) = true) (hb : attributeBase o "get" env (eval o env) = eval o env) :
    SE C k tab env (.Call (.Attribute o "get" apos) [e, f] [] pos) (tDget Po Pe Pf) := by
  intro A E s ad mh vars Q hR hW hV hP
  refine wpAny_Call_method hb (fewArgs (by simp [hst, hst']) (by simp)) hl F.plainAttrs_dict F.slot_dict_get F.type_dict_get
    (wpAny_mono (ho A E s ad mh vars _ hR hW hV hP) (fun va s1 h1 => ?_) fun _ _ e => e)
  obtain ⟨ma, mh1, ad1, ⟨i, es0, rfl, hm, hq⟩, hva, hW1, st1⟩ := h1
  obtain ⟨a, ha, rfl⟩ := hva.isRef
  obtain ⟨ka0, d0, _, _, _, d05⟩ := hW1.dict ha hm
  refine ⟨d0.typeIs, dictOf_noDict d0, ?_⟩
  rw [backTo2 hst hst']
  refine wpAny_dict_get2 (knd := intKind C.prog C.w) d05 (wpAny_mono (he A E s1 ad1 mh1 vars _ hR hW1 (hV.step st1) hq) (fun v s2 h2 => ?_) fun _ _ e => e)
  obtain ⟨mv, mh2, ad2, hq2, hv, hW2, st2⟩ := h2
  refine wpAny_mono (hf A E s2 ad2 mh2 vars _ hR hW2 (hV.step (st1.trans st2)) hq2) (fun u s3 h3 => ?_) fun _ _ e => e
  obtain ⟨mu, mh3, ad3, ⟨x, es, rfl, hm3, hq3⟩, hu, hW3, st3⟩ := h3
  obtain ⟨B, hB⟩ := (st2.trans st3).pre
  have ha3 : ad3[i]? = some a := by rw [hB]; exact getElem?_pre ha
  obtain ⟨ka, d1, d2, d3, d4, d5⟩ := hW3.dict ha3 hm3
  obtain ⟨t, rfl⟩ := hv.isInt
  refine ⟨x, valueAt ka, by simp [intKind, Value.isInt], d1.mapOf, ?_⟩
  refine Post.trans ((st1.trans st2).trans st3) ⟨(look es x).getD mu, mh3, ad3, hq3, ?_, hW3.toks _, Stp.toks _⟩
  cases hk : look es x with
  | none => rw [look_no d2 d3 hk]; exact hu
  | some m =>
    obtain ⟨y, hy, hr⟩ := look_val d2 d3 hk
    rw [hy]; exact hr

/-- o[i] = v -/
noncomputable def setO (mh : MH) (r : Nat) (j : Int) (v : MV) : Option MO → Option MH
  | some (.list xs) => if 0 ≤ j ∧ j < xs.length then some (mh.set r (.list (xs.set j.toNat v))) else none
  | some (.dict es) => if es.length < 4096 then some (mh.set r (.dict (put es j v))) else none
  | _ => none
noncomputable def setS (mh : MH) (r : Nat) (x : Str) (v : MV) : Option MO → Option MH
  | some (.sdict es) => if es.length < 4096 then some (mh.set r (.sdict (put es x v))) else none
  | _ => none
noncomputable def setM (mh : MH) (o i v : MV) : Option MH :=
  match o with
  | .ref r => (match i with
    | .int j => setO mh r j v mh[r]?
    | .str x => setS mh r x v mh[r]?
    | _ => none)
  | _ => none
end
inductive MF where
  | next | brk | cont | ret (v : MV)

noncomputable def FR (A : List Addr) (scr : Addr) (h : Heap) : MF → Flow → Prop
  | .next, f => f = .next
  | .brk, f => f = .brk
  | .cont, f => f = .cont
  | .ret m, f => ∃ v, f = .ret v ∧ VR A scr h m v

/-- what a statement leaves -/
inductive PostS (C : Cx) (tab : List (Str × Nat)) (env : Env) (ad : List Addr) (s : Shared) (Q : MF → Vars → MH → Prop) (f : Flow) (s' : Shared) : Prop
  | intro (mf : MF) (vars' : Vars) (mh' : MH) (ad' : List Addr) (q : Q mf vars' mh') (r : FR ad' C.scr s'.heap mf f) (w : W C ad' mh' s') (v : VOK C tab env ad' s'.heap vars') (st : Stp (fas env) ad s ad' s')
inductive PostA (C : Cx) (tab : List (Str × Nat)) (env : Env) (ad : List Addr) (s : Shared) (Q : Vars → MH → Prop) (s' : Shared) : Prop
  | intro (vars' : Vars) (mh' : MH) (ad' : List Addr) (q : Q vars' mh') (w : W C ad' mh' s') (v : VOK C tab env ad' s'.heap vars') (st : Stp (fas env) ad s ad' s')

theorem Stp.up {X A s A' s'} (x : Stp [] A s A' s') : Stp X A s A' s' := x.mono fun _ h => nomatch h

theorem PostS.trans {C tab env ad s ad1 s1 Q f s'} (st : Stp (fas env) ad s ad1 s1) (p : PostS C tab env ad1 s1 Q f s') : PostS C tab env ad s Q f s' := by
  obtain ⟨a, b, c, d, h1, h2, h3, h4, h5⟩ := p
  exact ⟨a, b, c, d, h1, h2, h3, h4, st.trans h5⟩
theorem PostA.trans {C tab env ad s ad1 s1 Q s'} (st : Stp (fas env) ad s ad1 s1) (p : PostA C tab env ad1 s1 Q s') : PostA C tab env ad s Q s' := by
  obtain ⟨b, c, d, h1, h3, h4, h5⟩ := p
  exact ⟨b, c, d, h1, h3, h4, st.trans h5⟩

abbrev STT := (MF → Vars → MH → Prop) → Vars → MH → Prop
abbrev AT := (Vars → MH → Prop) → MV → Vars → MH → Prop

noncomputable def SS (C : Cx) (k : Nat) (tab : List (Str × Nat)) (env : Env) (st : Stmt) (P : STT) : Prop :=
  ∀ (A : Around) (E : Value → Shared → Prop) (s : Shared) (ad : List Addr) (mh : MH) (vars : Vars) (Q : MF → Vars → MH → Prop),
    Room A k → W C ad mh s → VOK C tab env ad s.heap vars → P Q vars mh → wpAny C.M A (exec st env) (PostS C tab env ad s Q) E s
noncomputable def SSs (C : Cx) (k : Nat) (tab : List (Str × Nat)) (env : Env) (sts : List Stmt) (P : STT) : Prop :=
  ∀ (A : Around) (E : Value → Shared → Prop) (s : Shared) (ad : List Addr) (mh : MH) (vars : Vars) (Q : MF → Vars → MH → Prop),
    Room A k → W C ad mh s → VOK C tab env ad s.heap vars → P Q vars mh → wpAny C.M A (execs sts env) (PostS C tab env ad s Q) E s
/-- a target -/
noncomputable def SA (C : Cx) (k : Nat) (tab : List (Str × Nat)) (env : Env) (t : Expr) (P : AT) : Prop :=
  ∀ (A : Around) (E : Value → Shared → Prop) (s : Shared) (ad : List Addr) (mh : MH) (vars : Vars) (Q : Vars → MH → Prop) (mv : MV) (v : Value),
    Room A k → W C ad mh s → VOK C tab env ad s.heap vars → VR ad C.scr s.heap mv v → P Q mv vars mh → wpAny C.M A (assign t env v) (fun _ => PostA C tab env ad s Q) E s

structure TOK (tab : List (Str × Nat)) : Prop where
  nodup : (tab.map (·.2)).Nodup

theorem TOK.inj {tab} (h : TOK tab) {x y : Str} {i : Nat} (hx : tab.lookup x = some i) (hy : tab.lookup y = some i) : x = y := by
  have h1 := mem_of_lookup hx
  have h2 := mem_of_lookup hy
  obtain ⟨a, ha, ea⟩ := List.getElem_of_mem h1
  obtain ⟨b, hb, eb⟩ := List.getElem_of_mem h2
  have : a = b := by
    apply (List.getElem_inj (xs := tab.map (·.2)) (h₀ := by simpa using ha) (h₁ := by simpa using hb) h.nodup).mp
    simp [ea, eb]
  subst this
  rw [ea] at eb
  exact (Prod.mk.inj eb).1

/-- the frame's own places lie apart -/
noncomputable def FOK (env : Env) : Prop := (fas env).Nodup

theorem cells_inj {env : Env} (hF : FOK env) {x y : Str} {c : Addr} (hx : (x, c) ∈ env.cells) (hy : (y, c) ∈ env.cells) : x = y := by
  obtain ⟨a, ha, ea⟩ := List.getElem_of_mem hx
  obtain ⟨b, hb, eb⟩ := List.getElem_of_mem hy
  have h1 : (env.cells.map (·.2)).Nodup := (List.nodup_cons.mp hF).2
  have : a = b := by
    apply (List.getElem_inj (xs := env.cells.map (·.2)) (h₀ := by simpa using ha) (h₁ := by simpa using hb) h1).mp
    simp [ea, eb]
  subst this
  rw [ea] at eb
  exact (Prod.mk.inj eb).1
theorem cell_not_locals {env : Env} (hF : FOK env) {x : Str} {c : Addr} (hx : (x, c) ∈ env.cells) : c ≠ env.locals := fun e =>
  (List.nodup_cons.mp hF).1 (List.mem_map.mpr ⟨(x, c), hx, e⟩)

theorem mem_fas {env : Env} {x : Str} {c : Addr} (hx : (x, c) ∈ env.cells) : c ∈ fas env := List.mem_cons_of_mem _ (List.mem_map.mpr ⟨(x, c), hx, rfl⟩)

theorem Stp.own1 {A : List Addr} {s s' : Shared} {b : Addr} (hs : Heap.SameBut b s.heap s'.heap) (ht : s'.heap.get? b ≠ none)
    (hi : ∀ o, s.heap.get? b = some o → ¬ Imm o) : Stp [b] A s A s' where
  keep c o e hA hX := sameBut_keep hs e fun h => hX (h ▸ List.mem_singleton.mpr rfl)
  imm c o e hA hI := sameBut_keep hs e fun h => hi o (h ▸ e) hI
  alive c e := by
    by_cases h : c = b
    · subst h; exact ht
    · rw [hs.2 c h]; exact e
  pre := ⟨[], by simp⟩
  new _ h := .inl h

theorem not_imm_dict {o : Obj} {es ep} (h : o.data = .dict es ep) : ¬ Imm o := by
  rintro (⟨_, xs, n, e⟩ | ⟨_, vs, e⟩) <;> rw [h] at e <;> cases e
theorem not_imm_cell {o : Obj} {v} (h : o.data = .cell v) : ¬ Imm o := by
  rintro (⟨_, xs, n, e⟩ | ⟨_, vs, e⟩) <;> rw [h] at e <;> cases e

theorem get_set {vars : Vars} {i j : Nat} {x : Option MV} (h : i ≠ j) : (vars.set i x)[j]? = vars[j]? := List.getElem?_set_ne h

section
variable {C : Cx} {k : Nat} {tab : List (Str × Nat)} {env : Env}

theorem store_ok2 {x i mv v} {c : Addr} {A : Around} {E : Value → Shared → Prop} {s : Shared} {ad mh vars} {Q : Shared → Prop} (he : EOK env) (hT : TOK tab) (hF : FOK env) (ht : tab.lookup x = some i)
    (hk : (env.kindOf x = some .local ∧ c = env.locals) ∨ (env.kindOf x = some .cell ∧ env.cells.lookup x = some c))
    (hW : W C ad mh s) (hV : VOK C tab env ad s.heap vars) (hv : VR ad C.scr s.heap mv v)
    (h : ∀ s', W C ad mh s' → VOK C tab env ad s'.heap (vars.set i (some mv)) → Stp [c] ad s ad s' → Q s') :
    wpAny C.M A (storeName env x v) (fun _ => Q) E s := by
  rcases hk with ⟨hk, rfl⟩ | ⟨hk, hc⟩
  · obtain ⟨m, hn, hm⟩ := hV.ns
    refine wpAny_storeName_local hk hn (fun h' hn' hs' => ?_) (by rw [he.kind]; rfl)
    obtain ⟨o, es, ep, ho, hd, r⟩ := id hn
    obtain ⟨o', es', ep', ho', r'⟩ := id hn'
    have st : Stp [env.locals] ad s ad { s with heap := h', toks := s.toks + 1 } := Stp.own1 hs' (by show h'.get? env.locals ≠ none; rw [ho']; exact (fun h => nomatch h)) (fun o2 e2 => by rw [ho] at e2; cases e2; exact not_imm_dict hd)
    have hX : ∀ b ∈ [env.locals], C.base.get? b = none ∧ b ∉ ad := fun b hb => by rw [List.mem_singleton.mp hb]; exact hV.own _ List.mem_cons_self
    have hW' : W C ad mh { s with heap := h', toks := s.toks + 1 } := ⟨fun b o e => sameBut_keep hs' (hW.keep b o e) (fun q => by rw [q, (hV.own _ List.mem_cons_self).1] at e; cases e), hW.len, hW.nodup, hW.fresh,
      fun j b o hj hm' => (hW.objs j b o hj hm').mono st (hs'.2 b fun q => (hV.own _ List.mem_cons_self).2 (q ▸ List.mem_of_getElem? hj)), hW.gens, hW.os⟩
    refine h _ hW' ⟨⟨_, hn', fun y j my h1 h2 h3 => ?_⟩, fun y j my c' h1 h2 h3 h4 => ?_, fun y c' h1 => ?_, hV.own⟩ st
    · by_cases hij : i = j
      · subst hij
        have exy := hT.inj ht h1
        subst exy
        simp only [if_true]
        have hlt : i < vars.length := by
          by_cases hlt : i < vars.length
          · exact hlt
          · rw [List.getElem?_eq_none (by rw [List.length_set]; lia)] at h2; cases h2
        rw [List.getElem?_set_self hlt] at h2
        cases h2
        exact ⟨v, rfl, hv.mono st⟩
      · rw [get_set hij] at h2
        obtain ⟨u, hu, hr⟩ := hm y j my h1 h2 h3
        have : y ≠ x := fun e => hij (by rw [e, ht] at h1; cases h1; rfl)
        simp only [this, if_false]
        exact ⟨u, hu, hr.mono st⟩
    · have hij : i ≠ j := by
        rintro rfl
        have := hT.inj ht h1
        subst this
        rcases h3 with h3 | h3 <;> rw [hk] at h3 <;> cases h3
      rw [get_set hij] at h2
      obtain ⟨u, hu, hr⟩ := hV.cell y j my c' h1 h2 h3 h4
      exact ⟨u, hu.sameBut hs' (cell_not_locals hF (mem_of_lookup h4)), hr.mono st⟩
    · obtain ⟨u, hu⟩ := hV.live y c' h1
      exact ⟨u, hu.sameBut hs' (cell_not_locals hF h1)⟩
  · have hcm := mem_of_lookup hc
    obtain ⟨v₀, hv₀⟩ := hV.live x c hcm
    refine wpAny_storeName_cell he.kind hk hc hv₀ fun h' hn' hs' => ?_
    obtain ⟨o, ho, hd⟩ := id hv₀
    obtain ⟨o', ho', hd'⟩ := id hn'
    have ownc := hV.own c (mem_fas hcm)
    have st : Stp [c] ad s ad { s with heap := h' } := Stp.own1 hs' (by show h'.get? c ≠ none; rw [ho']; exact (fun h => nomatch h)) (fun o2 e2 => by rw [ho] at e2; cases e2; exact not_imm_cell hd)
    have hW' : W C ad mh { s with heap := h' } := ⟨fun b o e => sameBut_keep hs' (hW.keep b o e) (fun q => by rw [q, ownc.1] at e; cases e), hW.len, hW.nodup, hW.fresh,
      fun j b o hj hm' => (hW.objs j b o hj hm').mono st (hs'.2 b fun q => ownc.2 (q ▸ List.mem_of_getElem? hj)), hW.gens, hW.os⟩
    obtain ⟨m, hn, hm⟩ := hV.ns
    refine h _ hW' ⟨⟨m, hn.sameBut hs' (Ne.symm (cell_not_locals hF hcm)), fun y j my h1 h2 h3 => ?_⟩, fun y j my c' h1 h2 h3 h4 => ?_, fun y c' h1 => ?_, hV.own⟩ st
    · have hij : i ≠ j := by
        rintro rfl
        have := hT.inj ht h1
        subst this
        rw [hk] at h3; cases h3
      rw [get_set hij] at h2
      obtain ⟨u, hu, hr⟩ := hm y j my h1 h2 h3
      exact ⟨u, hu, hr.mono st⟩
    · by_cases hij : i = j
      · subst hij
        have exy := hT.inj ht h1
        subst exy
        have hlt : i < vars.length := by
          by_cases hlt : i < vars.length
          · exact hlt
          · rw [List.getElem?_eq_none (by rw [List.length_set]; lia)] at h2; cases h2
        rw [List.getElem?_set_self hlt] at h2
        cases h2
        rw [hc] at h4; cases h4
        exact ⟨v, hn', hv.mono st⟩
      · rw [get_set hij] at h2
        obtain ⟨u, hu, hr⟩ := hV.cell y j my c' h1 h2 h3 h4
        have : c' ≠ c := fun e => hij (by
          have := cells_inj hF (mem_of_lookup h4) (e ▸ hcm)
          subst this
          rw [ht] at h1; cases h1; rfl)
        exact ⟨u, hu.sameBut hs' this, hr.mono st⟩
    · by_cases e : c' = c
      · subst e; exact ⟨_, hn'⟩
      · obtain ⟨u, hu⟩ := hV.live y c' h1
        exact ⟨u, hu.sameBut hs' e⟩

theorem store_ok {x i mv v} {A : Around} {E : Value → Shared → Prop} {s : Shared} {ad mh vars} {Q : Shared → Prop} (he : EOK env) (hT : TOK tab) (hF : FOK env) (ht : tab.lookup x = some i)
    (hk : env.kindOf x = some .local ∨ (env.kindOf x = some .cell ∧ ∃ c, env.cells.lookup x = some c))
    (hW : W C ad mh s) (hV : VOK C tab env ad s.heap vars) (hv : VR ad C.scr s.heap mv v)
    (h : ∀ s', W C ad mh s' → VOK C tab env ad s'.heap (vars.set i (some mv)) → Stp (fas env) ad s ad s' → Q s') :
    wpAny C.M A (storeName env x v) (fun _ => Q) E s := by
  rcases hk with hk | ⟨hk, c, hc⟩
  · exact store_ok2 he hT hF ht (.inl ⟨hk, rfl⟩) hW hV hv fun s' w1 w2 w3 => h s' w1 w2 (w3.mono fun b hb => by rw [List.mem_singleton.mp hb]; exact List.mem_cons_self)
  · exact store_ok2 he hT hF ht (.inr ⟨hk, hc⟩) hW hV hv fun s' w1 w2 w3 => h s' w1 w2 (w3.mono fun b hb => by rw [List.mem_singleton.mp hb]; exact mem_fas (mem_of_lookup hc))

@[reducible] noncomputable def tAName (i : Nat) : AT := fun Q mv vars mh => Q (vars.set i (some mv)) mh
theorem SA_name {x pos i} (he : EOK env) (hT : TOK tab) (hF : FOK env) (ht : tab.lookup x = some i) (hk : env.kindOf x = some .local ∨ (env.kindOf x = some .cell ∧ ∃ c, env.cells.lookup x = some c)) :
    SA C k tab env (.Name x pos) (tAName i) := by
  intro A E s ad mh vars Q mv v _ hW hV hv hP
  exact wpAny_assign_Name (store_ok he hT hF ht hk hW hV hv fun s' w1 w2 w3 => ⟨_, mh, ad, hP, w1, w2, w3⟩)

theorem setItem_list_at {A : Around} {E : Value → Shared → Prop} {s : Shared} {l : Addr} {items : Array Value} {n : Nat} {k : Int} {t : Tok} {v : Value} {Q : Unit → Shared → Prop} (hl : IsL s.heap l items n)
    (h0 : 0 ≤ k) (hfit : k < 2 ^ 63) (hn : k < items.size)
    (hQ : Q () { s with heap := s.heap.update l (Obj.mapSeq (·.setIfInBounds k.toNat v)) }) : wpAny C.M A (setItem (.ref l) (.int k t) v) Q E s := by
  have hl' := IsL.isL hl
  unfold setItem
  try with_reducible refine wpAny_holding ?_
  first | refine wpAny_bind (wpAny_pure ?_) | skip
  refine wpAny_bind (wpAny_sequenceKey hl'.typeIs (by decide) ?_)
  refine wpAny_bind (wpAny_callSpecial?_slot (name := Str.ofString "__setitem__") hl'.typeIs slot_list_setitem
    (wpAny_call_entry slot_list_setitem hl'.typeIs entry_list_setitem ?_ (args_list_setitem _ _ _)))
  show wpAny _ _ (Builtin.List.listSubscript? (.int k t) >>= _) _ _ s
  refine wpAny_bind (wpAny_listSubscript_int (fitsIndex_of h0 hfit) ?_)
  clear hfit
  obtain ⟨j, rfl⟩ := Int.eq_ofNat_of_zero_le h0
  have hj : j < items.size := by lia
  have hx' : items[j]? = some items[j] := Array.getElem?_eq_getElem hj
  show wpAny _ _ ((seqItemAt l j >>= fun r => pure (r.map (j, ·))) >>= _) _ _ s
  refine wpAny_bind (wpAny_bind (wpAny_seqItemAt hl rfl (wpAny_pure ?_)))
  rw [hx']
  show wpAny _ _ (setSeqItemAt l j v >>= _) _ _ s
  refine wpAny_bind (wpAny_setSeqItemAt hl rfl ?_)
  first
    | exact wpAny_bind (wpAny_pure (wpAny_pure ⟨.none, rfl, wpAny_pure hQ⟩))
    | exact wpAny_pure ⟨.none, rfl, wpAny_pure hQ⟩

theorem set_ok {o i mo mi mv v mh'} {A : Around} {E : Value → Shared → Prop} {s : Shared} {ad mh} {Q : Unit → Shared → Prop} (hW : W C ad mh s) (ho : VR ad C.scr s.heap mo o) (hi : VR ad C.scr s.heap mi i) (hv : VR ad C.scr s.heap mv v)
    (hP : setM mh mo mi mv = some mh') (h : ∀ s', W C ad mh' s' → Stp [] ad s ad s' → Q () s') : wpAny C.M A (setItem o i v) Q E s := by
  cases mo with
  | ref r =>
    obtain ⟨a, ha, rfl⟩ := ho.isRef
    cases mi with
    | int j =>
      obtain ⟨t, rfl⟩ := hi.isInt
      have hP : setO mh r j mv mh[r]? = some mh' := hP
      generalize hm : mh[r]? = oo at hP
      cases oo with
      | none => cases hP
      | some oo => cases oo with
        | list xs =>
          have hP : (if 0 ≤ j ∧ j < xs.length then some (mh.set r (.list (xs.set j.toNat mv))) else none) = some mh' := hP
          by_cases hj : 0 ≤ j ∧ j < xs.length
          · rw [if_pos hj] at hP
            cases hP
            obtain ⟨us, n, l1, l2, l3⟩ := hW.list ha hm
            have e := l2.length
            refine setItem_list_at l1 hj.1 (by lia) (by simp only [List.size_toArray]; lia) ?_
            obtain ⟨w1, w2⟩ := W.setList (us := us.set j.toNat v) hW ha l1 (f := fun xs => xs.setIfInBounds j.toNat v) (by simp) (l2.set hv _) (by simpa using l3) s.toks
            exact h _ w1 w2
          · rw [if_neg hj] at hP; cases hP
        | dict es =>
          have hP : (if es.length < 4096 then some (mh.set r (.dict (put es j mv))) else none) = some mh' := hP
          by_cases hz : es.length < 4096
          · rw [if_pos hz] at hP
            cases hP
            obtain ⟨ka, d1, d2, d3, d4, d5⟩ := hW.dict ha hm
            have el : ka.length = es.length := by have := congrArg List.length d2; simpa using this
            refine wpAny_setItem_pairs (knd := intKind C.prog C.w) (by simp [intKind, Value.isInt]; rfl) d1 (fun h' hd' hs' => ?_) (line4 (by lia))
            obtain ⟨g1, g2⟩ := put_rel hv d2 d3
            obtain ⟨w1, w2⟩ := W.setDict hW ha hs' (s.toks + 1) hd' g1 g2 (Nat.le_trans (put_len _ _ _) hz) d5
            exact h _ w1 w2
          · rw [if_neg hz] at hP; cases hP
        | _ => cases hP
    | str x =>
      obtain ⟨t, rfl⟩ := hi.isStr
      have hP : setS mh r x mv mh[r]? = some mh' := hP
      generalize hm : mh[r]? = oo at hP
      cases oo with
      | none => cases hP
      | some oo => cases oo with
        | sdict es =>
          have hP : (if es.length < 4096 then some (mh.set r (.sdict (put es x mv))) else none) = some mh' := hP
          by_cases hz : es.length < 4096
          · rw [if_pos hz] at hP
            cases hP
            obtain ⟨ka, d1, d2, d3, d4, d5⟩ := hW.sdict ha hm
            have el : ka.length = es.length := by have := congrArg List.length d2; simpa using this
            refine wpAny_setItem_pairs (knd := strKind C.prog C.w) (strKind_is _ _ _ _) d1 (fun h' hd' hs' => ?_) (line4 (by lia))
            obtain ⟨g1, g2⟩ := put_rel hv d2 d3
            obtain ⟨w1, w2⟩ := W.setSdict hW ha hs' (s.toks + 1) hd' g1 g2 (Nat.le_trans (put_len _ _ _) hz) d5
            exact h _ w1 w2
          · rw [if_neg hz] at hP; cases hP
        | _ => cases hP
    | _ => cases hP
  | _ => cases hP

@[reducible] noncomputable def tASub (Po Pi : MT) : AT := fun Q mv vars mh => Po (fun ov mh1 => Pi (fun iv mh2 => ∃ mh3, setM mh2 ov iv mv = some mh3 ∧ Q vars mh3) vars mh1) vars mh
theorem SA_sub {o i pos} {Po Pi : MT} (ho : SE C k tab env o Po) (hi : SE C k tab env i Pi) :
    SA C k tab env (.Subscript o i pos) (tASub Po Pi) := by
  intro A E s ad mh vars Q mv v hR hW hV hv hP
  rw [assign_Subscript]
  refine wpAny_bind (wpAny_holding (wpAny_mono (ho A E s ad mh vars _ hR hW hV hP) (fun ov s1 h1 => ?_) fun _ _ e => e))
  obtain ⟨mo, mh1, ad1, hq, hov, hW1, st1⟩ := h1
  refine wpAny_bind (wpAny_holding (wpAny_mono (hi A E s1 ad1 mh1 vars _ hR hW1 (hV.step st1) hq) (fun iv s2 h2 => ?_) fun _ _ e => e))
  obtain ⟨mi, mh2, ad2, ⟨mh3, hs, hq2⟩, hiv, hW2, st2⟩ := h2
  refine wpAny_bind (wpAny_standAt (wpAny_bind (wpAny_holding ?_)))
  refine set_ok hW2 (hov.mono st2) hiv (hv.mono (st1.trans st2)) hs fun s3 w1 w2 => ?_
  refine wpAny_release ?_
  have st := (st1.trans st2).trans w2
  exact ⟨vars, mh3, ad2, hq2, w1, hV.step st, st.up⟩

/-- targets one after the other -/
noncomputable def SAL (C : Cx) (k : Nat) (tab : List (Str × Nat)) (env : Env) (ts : List Expr) (P : (Vars → MH → Prop) → List MV → Vars → MH → Prop) : Prop :=
  ∀ (A : Around) (E : Value → Shared → Prop) (s : Shared) (ad : List Addr) (mh : MH) (vars : Vars) (Q : Vars → MH → Prop) (ms : List MV) (vs : List Value),
    Room A k → W C ad mh s → VOK C tab env ad s.heap vars → VRs ad C.scr s.heap ms vs → ms.length = ts.length → P Q ms vars mh →
    wpAny C.M A (assignInOrder ((assignEach ts env).map (·.2)) vs) (fun _ => PostA C tab env ad s Q) E s

@[reducible] noncomputable def tALnil  : (Vars → MH → Prop) → List MV → Vars → MH → Prop := fun Q _ vars mh => Q vars mh
theorem SAL_nil : SAL C k tab env [] tALnil := by
  intro A E s ad mh vars Q ms vs _ hW hV hvs hl hP
  have : ms = [] := List.eq_nil_of_length_eq_zero hl
  subst this
  have : vs = [] := by unfold VRs at hvs; exact hvs
  subst this
  exact wpAny_assignInOrder_none ⟨vars, mh, ad, hP, hW, hV, Stp.refl ..⟩


theorem assignEach_plain {t : Expr} {rest : List Expr} (h : notStar t = true) : assignEach (t :: rest) env = (false, assign t env) :: assignEach rest env := by
  cases t <;> first | rfl | exact absurd (show false = true from h) Bool.false_ne_true

@[reducible] noncomputable def tALcons (Pt : AT) (Ps : (Vars → MH → Prop) → List MV → Vars → MH → Prop) : (Vars → MH → Prop) → List MV → Vars → MH → Prop := fun Q ms vars mh => match ms with | m :: r => Pt (fun vars1 mh1 => Ps Q r vars1 mh1) m vars mh | [] => False
theorem SAL_cons {t ts} {Pt : AT} {Ps} (ht : SA C k tab env t Pt) (hs : SAL C k tab env ts Ps) (hst : notStar t = true) :
    SAL C k tab env (t :: ts) (tALcons Pt Ps) := by
  intro A E s ad mh vars Q ms vs hR hW hV hvs hl hP
  cases ms with
  | nil => simp at hl
  | cons m r =>
    obtain ⟨v, r', rfl, hv, hr⟩ := hvs.uncons
    rw [assignEach_plain hst]
    refine wpAny_assignInOrder_more (wpAny_mono (ht A E s ad mh vars _ m v hR hW hV hv hP) (fun _ s1 h1 => ?_) fun _ _ e => e)
    obtain ⟨vars1, mh1, ad1, hq, hW1, hV1, st1⟩ := h1
    exact wpAny_mono (hs A E s1 ad1 mh1 vars1 _ r r' hR hW1 hV1 (hr.mono st1) (by simpa using hl) hq) (fun _ s2 h2 => h2.trans st1) fun _ _ e => e

theorem assignEach_len : ∀ {ts : List Expr}, ts.all notStar = true → (assignEach ts env).length = ts.length ∧ (assignEach ts env).findIdx? (·.1) = none
  | [], _ => ⟨rfl, rfl⟩
  | t :: ts, h => by
    simp only [List.all_cons, Bool.and_eq_true] at h
    obtain ⟨h1, h2⟩ := assignEach_len h.2
    rw [assignEach_plain h.1]
    refine ⟨by simp [h1], ?_⟩
    rw [List.findIdx?_cons]
    simp [h2]

@[reducible] noncomputable def tATup (n : Nat) (P : (Vars → MH → Prop) → List MV → Vars → MH → Prop) : AT := fun Q mv vars mh => ∃ ms, mv = .tup ms ∧ ms.length = n ∧ P Q ms vars mh
theorem SA_tuple {ts u pos P} (hs : SAL C k tab env ts P) (hst : ts.all notStar = true) :
    SA C k tab env (.Tuple ts u pos) (tATup ts.length P) := by
  intro A E s ad mh vars Q mv v hR hW hV hv hP
  obtain ⟨ms, rfl, hl, hq⟩ := hP
  obtain ⟨a, vs, n, rfl, hA, l1, l2⟩ := hv.isTup
  obtain ⟨e1, e2⟩ := assignEach_len (env := env) hst
  have e := l2.length
  refine wpAny_assign_Tuple hR.handled (IsT.isT l1) (by rw [e1, List.size_toArray]; lia) e2 fun h' hx => ?_
  have hk : ∀ b o, s.heap.get? b = some o → h'.get? b = some o := fun b o e => hx b o (Nat.ne_of_lt (Heap.lt_size e)) e
  have st : Stp [] ad s ad { s with heap := h' } := Stp.grow hk
  exact wpAny_mono (hs A E { s with heap := h' } ad mh vars Q ms vs hR (hW.grow (s' := { s with heap := h' }) hk rfl rfl) (hV.step st) (l2.mono st) hl hq) (fun _ s2 h2 => h2.trans st.up) fun _ _ e => e
end
/-- what is iterated over, once its iterator stands -/
structure IsSrc (C : Cx) (chk : MH → Prop) (items : List MV) (at' : List Addr → Heap → Addr → Nat → Prop) : Prop where
  frame : ∀ {A h A' h' it j}, at' A h it j → (∃ B, A' = A ++ B) → (∀ o, h.get? it = some o → h'.get? it = some o) → at' A' h' it j
  item : ∀ {Ar : Around} {E : Value → Shared → Prop} {s : Shared} {ad mh it j} {Q : Option Value → Shared → Prop}, W C ad mh s → chk mh → at' ad s.heap it j → it ∉ ad → j < items.length →
    (∀ v m h' tk, items[j]? = some m → VR ad C.scr h' m v → at' ad h' it (j + 1) → Heap.SameBut it s.heap h' → Q (some v) { s with heap := h', toks := tk }) → wpAny C.M Ar (pyNext (.ref it)) Q E s
  done : ∀ {Ar : Around} {E : Value → Shared → Prop} {s : Shared} {ad mh it} {Q : Option Value → Shared → Prop}, Ar.handled = none → W C ad mh s → chk mh → at' ad s.heap it items.length →
    (∀ h' tk, Heap.ExtBut it s.heap h' → Q none { s with heap := h', toks := tk }) → wpAny C.M Ar (pyNext (.ref it)) Q E s
  notImm : ∀ {A h it j o}, at' A h it j → h.get? it = some o → ¬ Imm o
  there : ∀ {A h it j}, at' A h it j → ∃ o, h.get? it = some o
  self : ∀ {Ar : Around} {E : Value → Shared → Prop} {s : Shared} {A it j} {Q : Value → Shared → Prop}, at' A s.heap it j → Q (.ref it) s → wpAny C.M Ar (pyIter (.ref it)) Q E s
  noPair : ∀ {Ar : Around} {E : Value → Shared → Prop} {s : Shared} {A it j elts x1} {pos : Pos} {v : Value} {Q : Unit → Shared → Prop}, at' A s.heap it j → Q () s → wpAny C.M Ar (letOwnedTupleGo (.Tuple elts x1 pos) (.ref it) v) Q E s

theorem noPair_any {C : Cx} {Ar : Around} {E : Value → Shared → Prop} {s : Shared} {it elts x1} {pos : Pos} {v : Value} {Q : Unit → Shared → Prop} {o : Obj} {T : String} {vs} (ho : s.heap.get? it = some o) (hc : o.cls = .type T) (hd : o.data = .fields vs)
    (hT : ["enumerate", "zip", "dict_itemiterator", "dict_reverseitemiterator", "odict_iterator", "itertools.zip_longest", "itertools.pairwise"].contains T = false) (hQ : Q () s) :
    wpAny C.M Ar (letOwnedTupleGo (.Tuple elts x1 pos) (.ref it) v) Q E s := by
  unfold letOwnedTupleGo
  cases v with
  | ref a =>
    refine wpAny_bind (wpAny_load ho ?_)
    rw [hc, hd]
    show wpAny C.M Ar (if (["enumerate", "zip", "dict_itemiterator", "dict_reverseitemiterator", "odict_iterator", "itertools.zip_longest", "itertools.pairwise"].contains T &&
      vs[0]? == some (rawInt a)) = true then _ else _) Q E s
    rw [hT, Bool.false_and, if_neg (by decide)]
    exact wpAny_pure hQ
  | _ => exact wpAny_pure hQ

theorem SameBut.own {it : Addr} {h h' : Heap} (hs : Heap.SameBut it h h') {b o} (e : h.get? b = some o) (hb : b ≠ it) : h'.get? b = some o := (hs.2 b hb).trans e

theorem q_at {A : List Addr} {h h' : Heap} {it : Addr} (hk : ∀ b o, h.get? b = some o → b ≠ it → h'.get? b = some o) (hi : ∀ o, h.get? it = some o → ¬ Imm o) : Stq A h A h' where
  imm b o e _ hI := hk b o e fun q => hi o (q ▸ e) hI
  pre := ⟨[], by simp⟩
  new _ h := .inl h

theorem not_imm_cls {o : Obj} {T : String} (h : o.cls = .type T) (h1 : T ≠ "tuple") (h2 : T ≠ "range") : ¬ Imm o := by
  rintro (⟨e, _⟩ | ⟨e, _⟩) <;> rw [h] at e <;> cases e <;> contradiction

theorem src_list {C : Cx} {i : Nat} {xs : List MV} : IsSrc C (fun m => m[i]? = some (.list xs)) xs (fun A h it j => ∃ a, A[i]? = some a ∧ h.IsListIter it a j) where
  frame := by
    rintro A h A' h' it j ⟨a, ha, o, ho, r⟩ ⟨B, rfl⟩ hk
    exact ⟨a, getElem?_pre ha, o, hk o ho, r⟩
  item := by
    rintro Ar E s ad mh it j Q hW hm ⟨a, ha, hit⟩ hA hj hQ
    obtain ⟨vs, n, l1, l2, l3⟩ := hW.list ha hm
    obtain ⟨v, hv, hr⟩ := l2.get (List.getElem?_eq_getElem hj)
    refine wpAny_pyNext_list_item hit (IsL.isL l1) (x := v) (by simpa using hv) fun h' hit' hs' => ?_
    obtain ⟨o, ho, hc, _⟩ := hit
    exact hQ v _ h' s.toks (List.getElem?_eq_getElem hj) (hr.monoQ (q_at (fun b o e hb => SameBut.own hs' e hb) fun o' e' => by rw [ho] at e'; cases e'; exact not_imm_cls hc (by decide) (by decide))) ⟨a, ha, hit'⟩ hs'
  done := by
    rintro Ar E s ad mh it Q hh hW hm ⟨a, ha, hit⟩ hQ
    obtain ⟨vs, n, l1, l2, l3⟩ := hW.list ha hm
    have e := l2.length
    exact wpAny_pyNext_list_end hh hit (IsL.isL l1) (by simp; lia) fun h' he => hQ h' s.toks he
  notImm := by
    rintro A h it j o ⟨a, ha, o', ho', hc, _⟩ ho
    rw [ho] at ho'; cases ho'
    exact not_imm_cls hc (by decide) (by decide)
  there := by rintro A h it j ⟨a, ha, o, ho, _⟩; exact ⟨o, ho⟩
  self := by
    rintro Ar E s A it j Q ⟨a, ha, x⟩ h
    exact wpAny_pyIter_listiter x h
  noPair := by
    rintro Ar E s A it j elts x1 pos v Q ⟨a, ha, o, ho, hc, hd⟩ hQ
    exact noPair_any ho hc hd (by decide) hQ

theorem W.fzAt {C A mh s} (x : W C A mh s) {i : Nat} {a es ep} (hi : A[i]? = some a) (hm : mh[i]? = some (.fz es ep)) :
    ∃ kvs : List (Int × Value), s.heap.DictAt (intKind C.prog C.w) a kvs ep ∧ kvs.map (·.1) = es.map (·.1) ∧ VRs A C.scr s.heap (es.map (·.2)) (kvs.map (·.2)) ∧ es.length ≤ 4096 ∧ (a == sysModules) = false := x.objs i a _ hi hm

theorem src_fz {C : Cx} {i : Nat} {es : List (Int × MV)} {ep : Nat} : IsSrc C (fun m => m[i]? = some (.fz es ep)) (es.map fun e => .int e.1) (fun A h it j => ∃ a, A[i]? = some a ∧ h.IsKeyIter it a j es.length ep) where
  frame := by
    rintro A h A' h' it j ⟨a, ha, o, ho, r⟩ ⟨B, rfl⟩ hk
    exact ⟨a, getElem?_pre ha, o, hk o ho, r⟩
  item := by
    rintro Ar E s ad mh it j Q hW hm ⟨a, ha, hit⟩ hA hj hQ
    obtain ⟨ka, d1, d2, d3, d4, d5⟩ := hW.fzAt ha hm
    have el : ka.length = es.length := by have := congrArg List.length d2; simpa using this
    rw [List.length_map] at hj
    have hjk : j < ka.length := by lia
    rw [← el] at hit
    refine wpAny_pyNext_dict_item (k := ka[j].1) (v := ka[j].2) hit d1 (by rw [List.getElem?_eq_getElem hjk]) fun key h' hkey hit' hs' => ?_
    obtain ⟨t, rfl⟩ := Value.isInt_shape (k := ka[j].1) (v := key) hkey
    rw [el] at hit'
    refine hQ _ (.int (es[j].1)) h' s.toks (by simp [hj]) ?_ ⟨a, ha, hit'⟩ hs'
    have : ka[j].1 = es[j].1 := by
      have := congrArg (·[j]?) d2
      simpa [hj, hjk] using this
    rw [← this]
    exact VR.int'
  done := by
    rintro Ar E s ad mh it Q hh hW hm ⟨a, ha, hit⟩ hQ
    obtain ⟨ka, d1, d2, d3, d4, d5⟩ := hW.fzAt ha hm
    have el : ka.length = es.length := by have := congrArg List.length d2; simpa using this
    rw [List.length_map, ← el] at hit
    exact wpAny_pyNext_dict_end hh hit d1 (by simp) fun h' he => hQ h' s.toks he
  notImm := by
    rintro A h it j o ⟨a, ha, o', ho', hc, _⟩ ho
    rw [ho] at ho'; cases ho'
    exact not_imm_cls hc (by decide) (by decide)
  there := by rintro A h it j ⟨a, ha, o, ho, _⟩; exact ⟨o, ho⟩
  self := by
    rintro Ar E s A it j Q ⟨a, ha, x⟩ h
    exact wpAny_pyIter_keyiter x h
  noPair := by
    rintro Ar E s A it j elts x1 pos v Q ⟨a, ha, o, ho, hc, hd⟩ hQ
    exact noPair_any ho hc hd (by decide) hQ

noncomputable def rangeItems (a b c : Int) : List MV := (List.range (Builtin.Range.rangeSize a b c).toNat).map fun (j : Nat) => .int (a + j * c)

theorem src_range {C : Cx} {a b c : Int} (h0 : 0 ≤ Builtin.Range.rangeSize a b c) : IsSrc C (fun _ => True) (rangeItems a b c) (fun _ h it j => IsRangeIter h it (a + (j : Nat) * c) (Builtin.Range.rangeSize a b c - (j : Nat)) c) where
  frame := by
    intro A h A' h' it j x _ hk
    exact hk _ x
  item := by
    intro Ar E s ad mh it j Q hW _ hit hA hj hQ
    have hj' : j < (Builtin.Range.rangeSize a b c).toNat := by simpa [rangeItems] using hj
    refine wpAny_pyNext_range_item hit (by lia) fun h' hit' hs' => ?_
    refine hQ _ (.int (a + (j : Nat) * c)) h' _ (by simp [rangeItems, hj']) VR.int' ?_ hs'
    have e1 : a + ((j + 1 : Nat) : Int) * c = a + (j : Int) * c + c := by push_cast; rw [Int.add_mul, Int.one_mul, Int.add_assoc]
    have e2 : Builtin.Range.rangeSize a b c - ((j + 1 : Nat) : Int) = Builtin.Range.rangeSize a b c - (j : Int) - 1 := by push_cast; lia
    rw [e1, e2]; exact hit'
  done := by
    intro Ar E s ad mh it Q hh hW _ hit hQ
    refine wpAny_pyNext_range_end hh hit ?_ fun h' he => hQ h' s.toks he
    simp [rangeItems]; lia
  notImm := by
    intro A h it j o x0 ho
    have x : h.get? it = some _ := x0
    rw [ho] at x
    injection x with x
    exact not_imm_cls (T := "range_iterator") (by rw [x]) (by decide) (by decide)
  there := by intro A h it j x; exact ⟨_, x⟩
  self := by
    intro Ar E s A it j Q x h
    exact wpAny_pyIter_rangeiter x h
  noPair := by
    intro Ar E s A it j elts x1 pos v Q x hQ
    exact noPair_any x rfl rfl (by decide) hQ

/-- how a value is walked -/
noncomputable def iterO (i : Nat) (mh : MH) (K : (MH → Prop) → List MV → (MH → MH) → MH → Prop) : Option MO → Prop
  | some (.list xs) => K (fun m => m[i]? = some (.list xs)) xs id mh
  | some (.dict es) => ∀ ep, K (fun m => m[i]? = some (.fz es ep)) (es.map fun e => .int e.1) (fun m => m.set i (.dict es)) (mh.set i (.fz es ep))
  | _ => False
noncomputable def iterP (src : MV) (mh : MH) (K : (MH → Prop) → List MV → (MH → MH) → MH → Prop) : Prop :=
  match src with
  | .ref i => iterO i mh K mh[i]?
  | .range a b c => (Builtin.Range.small a b c = true ∧ 0 ≤ Builtin.Range.rangeSize a b c) ∧ K (fun _ => True) (rangeItems a b c) id mh
  | _ => False

theorem W.same {C A mh s} (x : W C A mh s) {i : Nat} {a : Addr} {mo : MO} (hi : A[i]? = some a) (hr : ObjR C A s.heap a mo) : W C A (mh.set i mo) s :=
  (x.setAt (s' := s) hi (Heap.SameBut.refl ..) hr rfl rfl).1

theorem set_back {mh : MH} {i : Nat} {o p : MO} (h : mh[i]? = some o) : (mh.set i p).set i o = mh := by
  rw [List.set_set]
  apply List.ext_getElem?
  intro j
  by_cases e : i = j
  · subst e
    have hl := (List.getElem?_eq_some_iff.mp h).1
    rw [List.getElem?_set_self hl, h]
  · rw [List.getElem?_set_ne e]

theorem iter_ok {C : Cx} {Ar : Around} {E : Value → Shared → Prop} {s : Shared} {ad mh src v} {K} {Q : Value → Shared → Prop} (hW : W C ad mh s) (hv : VR ad C.scr s.heap src v) (hP : iterP src mh K)
    (h : ∀ at' it chk items un mh' s', IsSrc C chk items at' → (∀ m A s'', chk m → W C A m s'' → (∃ B, A = ad ++ B) → W C A (un m) s'') → K chk items un mh' → chk mh' → W C ad mh' s' → at' ad s'.heap it 0 →
      (∀ b o, s.heap.get? b = some o → s'.heap.get? b = some o) → s.heap.get? it = none → it ∉ ad → C.base.get? it = none → Q (.ref it) s') :
    wpAny C.M Ar (pyIter v) Q E s := by
  have hnew : s.heap.objs.size ∉ ad := fun h => Nat.lt_irrefl _ (hW.lt h)
  cases src with
  | ref i =>
    obtain ⟨a, ha, rfl⟩ := hv.isRef
    have hP : iterO i mh K mh[i]? := hP
    generalize hm : mh[i]? = oo at hP
    cases oo with
    | none => exact hP.elim
    | some oo => cases oo with
     | list xs =>
      obtain ⟨vs, n, l1, l2, l3⟩ := hW.list ha hm
      refine wpAny_pyIter_list (IsL.isL l1) ?_
      exact h _ _ _ _ id mh { s with heap := s.heap.push _ } src_list (fun m A s'' _ w _ => w) hP hm (hW.grow (fun _ _ e => Heap.get?_push_of_some _ e) rfl rfl) ⟨a, ha, _, Heap.get?_push_size _ rfl, rfl, rfl⟩
        (fun _ _ e => Heap.get?_push_of_some _ e) get_new hnew (base_new hW)
     | dict es =>
      obtain ⟨ka, d1, d2, d3, d4, d5⟩ := hW.dict ha hm
      obtain ⟨ep, hat⟩ := d1.dictAt
      have el : ka.length = es.length := by have := congrArg List.length d2; simpa using this
      refine wpAny_pyIter_dict d5 hat ?_
      rw [el]
      refine h _ _ _ _ _ (mh.set _ (.fz es ep)) { s with heap := s.heap.push _ } src_fz (fun m A s'' hc w hp => ?_) (hP ep) ?_ ((hW.same (mo := .fz es ep) ha ⟨ka, hat, d2, d3, d4, d5⟩).grow (fun _ _ e => Heap.get?_push_of_some _ e) rfl rfl) ⟨a, ha, _, Heap.get?_push_size _ rfl, rfl, rfl⟩
        (fun _ _ e => Heap.get?_push_of_some _ e) get_new hnew (base_new hW)
      · obtain ⟨B, rfl⟩ := hp
        obtain ⟨kb, e1, e2, e3, e4, e5⟩ := w.fz (getElem?_pre ha) hc
        exact w.same (mo := .dict es) (getElem?_pre ha) ⟨kb, e1, e2, e3, e4, e5⟩
      · rw [List.getElem?_set_self (List.getElem?_eq_some_iff.mp hm).1]
     | _ => exact hP.elim
  | range a b c =>
    unfold VR at hv
    obtain ⟨p, t, u, y, rfl, _, hr⟩ := hv
    refine wpAny_pyIter_range hr hP.1.1 ?_
    refine h _ _ _ _ id mh { s with heap := s.heap.push _ } (src_range hP.1.2) (fun m A s'' _ w _ => w) hP.2 trivial (hW.grow (fun _ _ e => Heap.get?_push_of_some _ e) rfl rfl) ?_
        (fun _ _ e => Heap.get?_push_of_some _ e) get_new hnew (base_new hW)
    show IsRangeIter _ _ _ _ _
    rw [show ((0 : Nat) : Int) = 0 from rfl, Int.zero_mul, Int.add_zero, Int.sub_zero]
    exact Heap.get?_push_size _ rfl
  | _ => exact hP.elim
theorem Stp.late {X A s A' s' it} {s'' : Shared} (x : Stp X A s A' s') (hn : s.heap.get? it = none) (h : ∀ b o, b ≠ it → s'.heap.get? b = some o → s''.heap.get? b = some o) : Stp X A s A' s'' where
  keep b o e hA hX := h b o (fun q => by rw [q, hn] at e; cases e) (x.keep b o e hA hX)
  imm b o e hA hI := h b o (fun q => by rw [q, hn] at e; cases e) (x.imm b o e hA hI)
  alive b e := by
    have h1 := x.alive b e
    cases q : s'.heap.get? b with
    | none => exact absurd q h1
    | some o => rw [h b o (fun q => by rw [q, hn] at e; exact e rfl) q]; exact (fun h => nomatch h)
  pre := x.pre
  new := x.new

@[reducible] noncomputable def flowN (r : Vars → MH → Prop) (Q : MF → Vars → MH → Prop) (un : MH → MH) (f : MF) (v : Vars) (m : MH) : Prop :=
  match f with
  | .next => r v m
  | .cont => r v m
  | .brk => Q .next v (un m)
  | .ret x => Q (.ret x) v (un m)

@[reducible] noncomputable def turnK (chk : MH → Prop) (un : MH → MH) (R : Vars → MH → Prop) (Q : MF → Vars → MH → Prop) (f : MF) (v : Vars) (m : MH) : Prop := chk m ∧ flowN R Q un f v m
/-- turn after turn -/
noncomputable def forN (chk : MH → Prop) (un : MH → MH) (B : MV → STT) : List MV → STT
  | [], Q, vars, mh => Q .next vars (un mh)
  | x :: r, Q, vars, mh => B x (turnK chk un (forN chk un B r Q) Q) vars mh

noncomputable def whileN (T : BT) (B : STT) : Nat → STT
  | 0, _, _, _ => False
  | n + 1, Q, vars, mh => T (fun b mh1 => if b = true then B (fun f v m => flowN (fun v m => whileN T B n Q v m) Q id f v m) vars mh1 else Q .next vars mh1) vars mh

section
variable {C : Cx} {k : Nat} {tab : List (Str × Nat)} {env : Env}

@[reducible] noncomputable def tNil  : STT := fun Q vars mh => Q .next vars mh
theorem SSs_nil : SSs C k tab env [] tNil :=
  fun _ _ _ ad mh vars _ _ hW hV hP => wpAny_execs_nil ⟨.next, vars, mh, ad, hP, rfl, hW, hV, Stp.refl ..⟩

@[reducible] noncomputable def seqK (Ps : STT) (Q : MF → Vars → MH → Prop) : MF → Vars → MH → Prop
  | .next, v, m => Ps Q v m
  | .cont, v, m => Q .cont v m
  | .brk, v, m => Q .brk v m
  | .ret x, v, m => Q (.ret x) v m
@[reducible] noncomputable def tSeq (P Ps : STT) : STT := fun Q vars mh => P (seqK Ps Q) vars mh
theorem SSs_cons {st sts} {P Ps : STT} (h : SS C k tab env st P) (hs : SSs C k tab env sts Ps) :
    SSs C k tab env (st :: sts) (tSeq P Ps) := by
  intro A E s ad mh vars Q hR hW hV hP
  refine wpAny_execs_cons (wpAny_mono (h A E s ad mh vars _ hR hW hV hP) (fun f s1 h1 => ?_) fun _ _ e => e)
  obtain ⟨mf, v1, m1, ad1, hq, hf, hW1, hV1, st1⟩ := h1
  cases mf with
  | next =>
    unfold FR at hf; subst hf
    exact wpAny_mono (hs A E s1 ad1 m1 v1 Q hR hW1 hV1 hq) (fun f s2 h2 => h2.trans st1) fun _ _ e => e
  | brk => unfold FR at hf; subst hf; exact ⟨.brk, v1, m1, ad1, hq, rfl, hW1, hV1, st1⟩
  | cont => unfold FR at hf; subst hf; exact ⟨.cont, v1, m1, ad1, hq, rfl, hW1, hV1, st1⟩
  | ret m => obtain ⟨v, rfl, hv⟩ := hf; exact ⟨.ret m, v1, m1, ad1, hq, ⟨v, rfl, hv⟩, hW1, hV1, st1⟩

@[reducible] noncomputable def kNx (Q : MF → Vars → MH → Prop) (v : Vars) (m : MH) : Prop := Q .next v m
@[reducible] noncomputable def kAsg (Pt : AT) (Q : MF → Vars → MH → Prop) (vars : Vars) (x : MV) (m : MH) : Prop := Pt (kNx Q) x vars m
@[reducible] noncomputable def tAssign (P : MT) (Pt : AT) : STT := fun Q vars mh => P (kAsg Pt Q vars) vars mh
theorem SS_assign {t value pos} {P : MT} {Pt : AT} (h : SE C k tab env value P) (ht : SA C k tab env t Pt) (hst : notStar t = true)
    (hs : swapsWithSole [t] value pos.line env = pure false) (hw : swappedStores [t] value env = pure none) :
    SS C k tab env (.Assign [t] value pos) (tAssign P Pt) := by
  intro A E s ad mh vars Q hR hW hV hP
  refine wpAny_Assign_stores (wpAny_mono (h A E s ad mh vars _ hR hW hV hP) (fun v s1 h1 => ?_) fun _ _ e => e) hs hw
  obtain ⟨mv, m1, ad1, hq, hv, hW1, st1⟩ := h1
  rw [assignEach_plain hst]
  show wpAny C.M A (assign t env v) _ E s1
  refine wpAny_mono (ht A E s1 ad1 m1 vars _ mv v hR hW1 (hV.step st1) hv hq) (fun _ s2 h2 => ?_) fun _ _ e => e
  obtain ⟨v2, m2, ad2, hq2, hW2, hV2, st2⟩ := h2
  exact ⟨.next, v2, m2, ad2, hq2, rfl, hW2, hV2, st1.up.trans st2⟩

@[reducible] noncomputable def kRet (Q : MF → Vars → MH → Prop) (vars : Vars) (x : MV) (m : MH) : Prop := Q (.ret x) vars m
@[reducible] noncomputable def tRet (P : MT) : STT := fun Q vars mh => P (kRet Q vars) vars mh
theorem SS_return {e pos} {P : MT} (h : SE C k tab env e P) : SS C k tab env (.Return (some e) pos) (tRet P) := by
  intro A E s ad mh vars Q hR hW hV hP
  refine wpAny_Return_some (wpAny_mono (h A E s ad mh vars _ hR hW hV hP) (fun v s1 h1 => ?_) fun _ _ e => e)
  obtain ⟨mv, m1, ad1, hq, hv, hW1, st1⟩ := h1
  exact ⟨.ret mv, vars, m1, ad1, hq, ⟨v, rfl, hv⟩, hW1, hV.step st1, st1.up⟩

@[reducible] noncomputable def tCont  : STT := fun Q vars mh => Q .cont vars mh
theorem SS_continue {pos} : SS C k tab env (.Continue pos) tCont :=
  fun _ _ _ ad mh vars _ _ hW hV hP => wpAny_Continue ⟨.cont, vars, mh, ad, hP, rfl, hW, hV, Stp.refl ..⟩

@[reducible] noncomputable def kExpr (Q : MF → Vars → MH → Prop) (vars : Vars) (x : MV) (m : MH) : Prop := x = .none ∧ Q .next vars m
@[reducible] noncomputable def tExpr (P : MT) : STT := fun Q vars mh => P (kExpr Q vars) vars mh
theorem SS_expr {e pos} {P : MT} (h : SE C k tab env e P) (hi : interactive env = false) (hs : swapsWith e none pos.line env = pure false) :
    SS C k tab env (.Expr e pos) (tExpr P) := by
  intro A E s ad mh vars Q hR hW hV hP
  refine wpAny_Expr (wpAny_mono (h A E s ad mh vars _ hR hW hV hP) (fun v s1 h1 => ?_) fun _ _ e => e) hi hs
  obtain ⟨mv, m1, ad1, ⟨rfl, hq⟩, hv, hW1, st1⟩ := h1
  rw [hv.isNone]
  exact ⟨.next, vars, m1, ad1, hq, rfl, hW1, hV.step st1, st1.up⟩

@[reducible] noncomputable def kIf (Pb Po : STT) (Q : MF → Vars → MH → Prop) (vars : Vars) (b : Bool) (m : MH) : Prop := if b = true then Pb Q vars m else Po Q vars m
noncomputable def tIf (P : BT) (Pb Po : STT) : STT := fun Q vars mh => P (kIf Pb Po Q vars) vars mh
theorem SS_if {test body orelse pos} {P : BT} {Pb Po : STT} (h : ST C k tab env test P) (hb : SSs C k tab env body Pb) (ho : SSs C k tab env orelse Po) :
    SS C k tab env (.If test body orelse pos) (tIf P Pb Po) := by
  intro A E s ad mh vars Q hR hW hV hP
  refine wpAny_If (wpAny_mono (h A E s ad mh vars _ hR hW hV hP) (fun b s1 h1 => ?_) fun _ _ e => e)
  obtain ⟨m1, ad1, hq, hW1, st1⟩ := h1
  cases b with
  | true => exact wpAny_mono (hb A E s1 ad1 m1 vars Q hR hW1 (hV.step st1) hq) (fun f s2 h2 => h2.trans st1.up) fun _ _ e => e
  | false => exact wpAny_mono (ho A E s1 ad1 m1 vars Q hR hW1 (hV.step st1) hq) (fun f s2 h2 => h2.trans st1.up) fun _ _ e => e

/-! in place -/
noncomputable def SN (C : Cx) (k : Nat) (tab : List (Str × Nat)) (env : Env) (x : Str) (P : MT) : Prop :=
  ∀ (A : Around) (E : Value → Shared → Prop) (s : Shared) (ad : List Addr) (mh : MH) (vars : Vars) (Q : MV → MH → Prop),
    Room A k → W C ad mh s → VOK C tab env ad s.heap vars → P Q vars mh → wpAny C.M A (loadName env x) (Post C ad s Q) E s

theorem SN_local {x i} (he : EOK env) (hk : env.kindOf x = some .local) (ht : tab.lookup x = some i) :
    SN C k tab env x (tLoc i) := by
  intro A E s ad mh vars Q _ hW hV ⟨mv, hv, hP⟩
  obtain ⟨m, hn, hm⟩ := hV.ns
  obtain ⟨v, h1, h2⟩ := hm x i mv ht hv hk
  exact wpAny_loadName_local he.kind hk hn h1 (Post.now hP h2 hW)
theorem SN_cell {x i c} (he : EOK env) (hk : env.kindOf x = some .cell) (hc : env.cells.lookup x = some c) (ht : tab.lookup x = some i) :
    SN C k tab env x (tLoc i) := by
  intro A E s ad mh vars Q _ hW hV ⟨mv, hv, hP⟩
  obtain ⟨v, h1, h2⟩ := hV.cell x i mv c ht hv (.inl hk) hc
  exact wpAny_loadName_cell he.kind hk hc h1 (Post.now hP h2 hW)

inductive iopI (mh : MH) (Q : MV → MH → Prop) : Operator → MV → MV → Prop
  | add {a b : Int} (h : Q (.int (a + b)) mh) : iopI mh Q .Add (.int a) (.int b)
  | sub {a b : Int} (h : Q (.int (a - b)) mh) : iopI mh Q .Sub (.int a) (.int b)
  | or {a b : Int} (h : Q (.int (Builtin.bitOr a b)) mh) : iopI mh Q .BitOr (.int a) (.int b)
  | shr {a b : Int} (h : 0 ≤ b ∧ Q (.int (a.fdiv (2 ^ b.toNat))) mh) : iopI mh Q .RShift (.int a) (.int b)
@[reducible] noncomputable def iopM (op : Operator) (a b : MV) (mh : MH) (Q : MV → MH → Prop) : Prop := iopI mh Q op a b

theorem iop_ok {A : Around} {E : Value → Shared → Prop} {s : Shared} {ad mh op ma mb a b} {Q : MV → MH → Prop} (hW : W C ad mh s) (ha : VR ad C.scr s.heap ma a) (hb : VR ad C.scr s.heap mb b)
    (hP : iopM op ma mb mh Q) : wpAny C.M A (inplaceOp op a b) (Post C ad s Q) E s := by
  rcases hP with ⟨hP⟩ | ⟨hP⟩ | ⟨hP⟩ | ⟨hP⟩
  · obtain ⟨t, rfl⟩ := ha.isInt; obtain ⟨u, rfl⟩ := hb.isInt
    exact wpAny_iadd_int (Post.int hW hP)
  · obtain ⟨t, rfl⟩ := ha.isInt; obtain ⟨u, rfl⟩ := hb.isInt
    exact PyProof.Rows.isub_int (Post.int hW hP)
  · obtain ⟨t, rfl⟩ := ha.isInt; obtain ⟨u, rfl⟩ := hb.isInt
    exact ior_int (Post.int hW hP)
  · obtain ⟨t, rfl⟩ := ha.isInt; obtain ⟨u, rfl⟩ := hb.isInt
    exact irshift_int hP.1 (Post.int hW hP.2)

@[reducible] noncomputable def kAug3 (i : Nat) (Q : MF → Vars → MH → Prop) (vars : Vars) (r : MV) (m : MH) : Prop := Q .next (vars.set i (some r)) m
@[reducible] noncomputable def kAug2 (i : Nat) (op : Operator) (Q : MF → Vars → MH → Prop) (vars : Vars) (a b : MV) (m : MH) : Prop := iopM op a b m (kAug3 i Q vars)
@[reducible] noncomputable def kAug1 (i : Nat) (op : Operator) (P : MT) (Q : MF → Vars → MH → Prop) (vars : Vars) (a : MV) (m : MH) : Prop := P (kAug2 i op Q vars a) vars m
@[reducible] noncomputable def tAugN (i : Nat) (op : Operator) (Pn P : MT) : STT := fun Q vars mh => Pn (kAug1 i op P Q vars) vars mh
theorem SS_augName {x tpos op value pos i} {Pn P : MT} (he : EOK env) (hT : TOK tab) (hF : FOK env) (ht : tab.lookup x = some i)
    (hk : env.kindOf x = some .local ∨ (env.kindOf x = some .cell ∧ ∃ c, env.cells.lookup x = some c)) (hn : SN C k tab env x Pn) (h : SE C k tab env value P) :
    SS C k tab env (.AugAssign (.Name x tpos) op value pos) (tAugN i op Pn P) := by
  intro A E s ad mh vars Q hR hW hV hP
  refine wpAny_AugAssign_Name (wpAny_mono (hn A E s ad mh vars _ hR hW hV hP) (fun va s1 h1 => ?_) fun _ _ e => e)
  obtain ⟨ma, m1, ad1, hq, hva, hW1, st1⟩ := h1
  refine wpAny_mono (h A E s1 ad1 m1 vars _ hR hW1 (hV.step st1) hq) (fun vb s2 h2 => ?_) fun _ _ e => e
  obtain ⟨mb, m2, ad2, hq2, hvb, hW2, st2⟩ := h2
  refine wpAny_mono (iop_ok hW2 (hva.mono st2) hvb hq2) (fun r s3 h3 => ?_) fun _ _ e => e
  obtain ⟨mr, m3, ad3, hq3, hvr, hW3, st3⟩ := h3
  have st := (st1.trans st2).trans st3
  exact store_ok he hT hF ht hk hW3 (hV.step st) hvr fun s' w1 w2 w3 => ⟨.next, _, m3, ad3, hq3, rfl, w1, w2, st.up.trans w3⟩

@[reducible] noncomputable def tAugS (op : Operator) (Po Pi P : MT) : STT := fun Q vars mh => Po (fun ov m1 => Pi (fun iv m2 => ∃ old, getM m2 ov iv = some old ∧
      P (fun b m3 => iopM op old b m3 (fun r m4 => ∃ m5, setM m4 ov iv r = some m5 ∧ Q .next vars m5)) vars m2) vars m1) vars mh
theorem SS_augSub {o i value tpos op pos} {Po Pi P : MT} (ho : SE C k tab env o Po) (hi : SE C k tab env i Pi) (h : SE C k tab env value P) (hns : notSlice i = true) :
    SS C k tab env (.AugAssign (.Subscript o i tpos) op value pos) (tAugS op Po Pi P) := by
  intro A E s ad mh vars Q hR hW hV hP
  refine wpAny_AugAssign_SubscriptAny (wpAny_mono (ho A E s ad mh vars _ hR hW hV hP) (fun va s1 h1 => ?_) fun _ _ e => e) ?_
  · obtain ⟨mo, m1, ad1, hq, hva, hW1, st1⟩ := h1
    refine wpAny_mono (hi A E s1 ad1 m1 vars _ hR hW1 (hV.step st1) hq) (fun vb s2 h2 => ?_) fun _ _ e => e
    obtain ⟨mi, m2, ad2, ⟨old, hold, hq2⟩, hvb, hW2, st2⟩ := h2
    refine (get_ok hW2 (hva.mono st2) hvb hold fun vo tk hvo => ?_).1
    have st12 : Stp [] ad s ad2 { s2 with toks := tk } := (st1.trans st2).trans (Stp.toks tk)
    have hvo' : VR ad2 C.scr ({ s2 with toks := tk } : Shared).heap old vo := hvo
    refine wpAny_mono (h A E { s2 with toks := tk } ad2 m2 vars _ hR (hW2.toks tk) (hV.step st12) hq2) (fun vc s3 h3 => ?_) fun _ _ e => e
    obtain ⟨mc, m3, ad3, hq3, hvc, hW3, st3⟩ := h3
    refine wpAny_mono (iop_ok hW3 (hvo'.mono st3) hvc hq3) (fun r s4 h4 => ?_) fun _ _ e => e
    obtain ⟨mr, m4, ad4, ⟨m5, h5, hq4⟩, hvr, hW4, st4⟩ := h4
    have st24 : Stp [] ad2 s2 ad4 s4 := ((Stp.toks tk).trans st3).trans st4
    refine set_ok hW4 ((hva.mono st2).mono st24) (hvb.mono st24) hvr h5 fun s5 w1 w2 => ?_
    have st := ((st1.trans st2).trans st24).trans w2
    exact ⟨.next, vars, m5, ad4, hq4, rfl, w1, hV.step st, st.up⟩
  · intro ov iv new
    cases i <;> first | rfl | exact absurd (show false = true from hns) Bool.false_ne_true

inductive WInv (C : Cx) (tab : List (Str × Nat)) (env : Env) (P : BT) (Pb : STT) (Q : MF → Vars → MH → Prop) (ad : List Addr) (s : Shared) (n : Nat) (s' : Shared) : Prop
  | mk (vars' : Vars) (mh' : MH) (ad' : List Addr) (h1 : whileN P Pb n Q vars' mh') (h2 : W C ad' mh' s') (h3 : VOK C tab env ad' s'.heap vars') (h4 : Stp (fas env) ad s ad' s')
inductive FInv (C : Cx) (tab : List (Str × Nat)) (env : Env) (B : MV → STT) (items : List MV) (Q : MF → Vars → MH → Prop) (chk : MH → Prop) (un : MH → MH) (at' : List Addr → Heap → Addr → Nat → Prop) (it : Addr) (ad : List Addr) (s : Shared) (n : Nat) (s' : Shared) : Prop
  | mk (j : Nat) (vars' : Vars) (mh' : MH) (ad' : List Addr) (h1 : n + j = items.length) (h2 : forN chk un B (items.drop j) Q vars' mh') (h3 : chk mh') (h4 : W C ad' mh' s') (h5 : VOK C tab env ad' s'.heap vars') (h6 : at' ad' s'.heap it j) (h7 : Stp (fas env) ad s ad' s') (h8 : it ∉ ad')
@[reducible] noncomputable def tWhile (P : BT) (Pb : STT) : STT := fun Q vars mh => ∃ n, whileN P Pb n Q vars mh
theorem SS_while {test body pos} {P : BT} {Pb : STT} (h : ST C k tab env test P) (hb : SSs C k tab env body Pb) :
    SS C k tab env (.While test body [] pos) (tWhile P Pb) := by
  intro A E s ad mh vars Q hR hW hV ⟨n, hP⟩
  refine wpAny_While (codeAny_whileLoop (WInv C tab env P Pb Q ad s) ?_ n ⟨vars, mh, ad, hP, hW, hV, Stp.refl ..⟩)
  rintro n s1 ⟨v1, m1, ad1, hq, hW1, hV1, st1⟩
  cases n with
  | zero => exact hq.elim
  | succ n =>
    refine wpAny_mono (h A _ s1 ad1 m1 v1 _ hR hW1 hV1 hq) (fun b s2 h2 => ?_) fun _ _ e => e
    obtain ⟨m2, ad2, hq2, hW2, st2⟩ := h2
    have hV2 := hV1.step st2
    cases b with
    | true =>
      refine wpAny_mono (hb A _ s2 ad2 m2 v1 _ hR hW2 hV2 hq2) (fun f s3 h3 => ?_) fun _ _ e => e
      obtain ⟨mf, v3, m3, ad3, hq3, hf, hW3, hV3, st3⟩ := h3
      have st := (st1.trans st2.up).trans st3
      cases mf with
      | next => unfold FR at hf; subst hf; exact ⟨n, Nat.lt_succ_self _, v3, m3, ad3, hq3, hW3, hV3, st⟩
      | cont => unfold FR at hf; subst hf; exact ⟨n, Nat.lt_succ_self _, v3, m3, ad3, hq3, hW3, hV3, st⟩
      | brk => unfold FR at hf; subst hf; exact ⟨.next, v3, m3, ad3, hq3, rfl, hW3, hV3, st⟩
      | ret m => obtain ⟨v, rfl, hv⟩ := hf; exact ⟨.ret m, v3, m3, ad3, hq3, ⟨v, rfl, hv⟩, hW3, hV3, st⟩
    | false => exact wpAny_execs_nil ⟨.next, v1, m2, ad2, hq2, rfl, hW2, hV2, st1.trans st2.up⟩

@[reducible] noncomputable def forB (Pt : AT) (Pb : STT) (x : MV) (Q : MF → Vars → MH → Prop) (v : Vars) (m : MH) : Prop := Pt (Pb Q) x v m
@[reducible] noncomputable def kFor2 (Pt : AT) (Pb : STT) (Q : MF → Vars → MH → Prop) (vars : Vars) (chk : MH → Prop) (items : List MV) (un : MH → MH) (m : MH) : Prop := forN chk un (forB Pt Pb) items Q vars m
@[reducible] noncomputable def kFor1 (Pt : AT) (Pb : STT) (Q : MF → Vars → MH → Prop) (vars : Vars) (src : MV) (m : MH) : Prop := iterP src m (kFor2 Pt Pb Q vars)
@[reducible] noncomputable def tFor (Pi : MT) (Pt : AT) (Pb : STT) : STT := fun Q vars mh => Pi (kFor1 Pt Pb Q vars) vars mh
theorem SS_for {target iter body pos} {Pi : MT} {Pt : AT} {Pb : STT} (hi : SE C k tab env iter Pi) (ht : SA C k tab env target Pt) (hb : SSs C k tab env body Pb)
    (hfs : ∀ x, foldedSetIterable iter env x = pure x) (hgo : (∀ it v, letOwnedTupleGo target it v = pure ()) ∨ ∃ elts x1 p, target = .Tuple elts x1 p) :
    SS C k tab env (.For target iter body [] pos) (tFor Pi Pt Pb) := by
  intro A E s ad mh vars Q hR hW hV hP
  refine wpAny_For (wpAny_mono (hi A E s ad mh vars _ hR hW hV hP) (fun va s1 h1 => ?_) fun _ _ e => e) hfs
  obtain ⟨ma, m1, ad1, hq, hva, hW1, st1⟩ := h1
  refine iter_ok hW1 hva hq fun at' it chk items un mh2 s2 src hun hq2 hc2 hW2 hat hk2 hn hA hB => ?_
  have hV1 := hV.step st1
  have st12 : Stp (fas env) ad1 s1 ad1 s2 := Stp.grow hk2
  have hfas : it ∉ fas env := fun hm => by obtain ⟨o, ho⟩ := hV1.fas_there it hm; rw [hn] at ho; cases ho
  refine codeAny_forLoop_any (FInv C tab env (forB Pt Pb) items Q chk un at' it ad1 s1) ?_ items.length ⟨0, vars, mh2, ad1, by lia, hq2, hc2, hW2, hV1.stepQ (Stp.grow (X := []) hk2).q (fun b hb o e => hk2 b o e), hat, st12, hA⟩
  rintro n s3 ⟨j, v3, m3, ad3, hnj, hq3, hc3, hW3, hV3, hat3, st3, hA3⟩
  have hI3 : ∀ o, s3.heap.get? it = some o → ¬ Imm o := fun o ho => src.notImm hat3 ho
  have fin : ∀ (un' : Nat) {mf v' m' ad'} {s' : Shared} {f}, chk m' → Q mf v' (un m') → FR ad' C.scr s'.heap mf f → W C ad' m' s' → VOK C tab env ad' s'.heap v' → Stp (fas env) ad1 s1 ad' s' → PostS C tab env ad s Q f s' := fun _ {mf v' m' ad' s' f} c q f' w v st =>
    ⟨mf, v', un m', ad', q, f', hun m' ad' s' c w st.pre, v, st1.up.trans st⟩
  by_cases hj : j < items.length
  · have hd : items.drop j = items[j] :: items.drop (j + 1) := List.drop_eq_getElem_cons hj
    rw [hd] at hq3
    refine src.item hW3 hc3 hat3 hA3 hj fun v m h' tk hm hv hat4 hs4 => ?_
    rw [List.getElem?_eq_getElem hj, Option.some.injEq] at hm
    subst hm
    have hk4 : ∀ b o, s3.heap.get? b = some o → b ≠ it → h'.get? b = some o := fun b o e hb => SameBut.own hs4 e hb
    have q4 : Stq ad3 s3.heap ad3 h' := q_at hk4 hI3
    have hW4 : W C ad3 m3 { s3 with heap := h', toks := tk } := hW3.change (X := [it]) (fun b o e hb => hk4 b o e (by simpa using hb)) q4 (fun b hb => by rw [List.mem_singleton.mp hb]; exact ⟨hB, hA3⟩) rfl rfl
    have hV4 : VOK C tab env ad3 h' v3 := hV3.stepQ q4 fun b hb o e => hk4 b o e fun q => hfas (q ▸ hb)
    have st4 : Stp (fas env) ad1 s1 ad3 { s3 with heap := h', toks := tk } := st3.late hn fun b o hb e => hk4 b o e hb
    have go : ∀ {Q' : Unit → Shared → Prop} {E'}, Q' () { s3 with heap := h', toks := tk } → wpAny C.M A (letOwnedTupleGo target (.ref it) v) Q' E' { s3 with heap := h', toks := tk } := by
      intro Q' E' hQ
      rcases hgo with hgo | ⟨elts, x1, p, rfl⟩
      · rw [hgo]; exact wpAny_pure hQ
      · exact src.noPair (A := ad3) (j := j + 1) hat4 hQ
    refine go ?_
    refine wpAny_mono (ht A _ { s3 with heap := h', toks := tk } ad3 m3 v3 _ items[j] v hR hW4 hV4 hv hq3) (fun _ s5 h5 => ?_) fun _ _ e => e
    obtain ⟨v5, m5, ad5, hq5, hW5, hV5, st5⟩ := h5
    refine wpAny_mono (hb A _ s5 ad5 m5 v5 _ hR hW5 hV5 hq5) (fun f s6 h6 => ?_) fun _ _ e => e
    obtain ⟨mf, v6, m6, ad6, ⟨hc6, hq6⟩, hf, hW6, hV6, st6⟩ := h6
    have st46 := st5.trans st6
    have st := st4.trans st46
    obtain ⟨oi, hoi⟩ := src.there hat4
    have hat6 : at' ad6 s6.heap it (j + 1) := src.frame hat4 st46.pre fun o e => st46.keep it o e hA3 hfas
    have hA6 : it ∉ ad6 := fun hm => by
      rcases st46.new it hm with q | q
      · exact hA3 q
      · have q' : h'.get? it = none := q
        rw [hoi] at q'; cases q'
    cases mf with
    | next => unfold FR at hf; subst hf; exact ⟨n - 1, by lia, j + 1, v6, m6, ad6, by lia, hq6, hc6, hW6, hV6, hat6, st, hA6⟩
    | cont => unfold FR at hf; subst hf; exact ⟨n - 1, by lia, j + 1, v6, m6, ad6, by lia, hq6, hc6, hW6, hV6, hat6, st, hA6⟩
    | brk => unfold FR at hf; subst hf; exact fin 0 hc6 hq6 rfl hW6 hV6 st
    | ret m => obtain ⟨v, rfl, hv⟩ := hf; exact fin 0 hc6 hq6 ⟨v, rfl, hv⟩ hW6 hV6 st
  · have e : j = items.length := by lia
    subst e
    rw [List.drop_length] at hq3
    refine src.done hR.handled hW3 hc3 hat3 fun h' tk he => ?_
    have hk4 : ∀ b o, s3.heap.get? b = some o → b ≠ it → h'.get? b = some o := fun b o e hb => he b o hb e
    have q4 : Stq ad3 s3.heap ad3 h' := q_at hk4 hI3
    have hW4 : W C ad3 m3 { s3 with heap := h', toks := tk } := hW3.change (X := [it]) (fun b o e hb => hk4 b o e (by simpa using hb)) q4 (fun b hb => by rw [List.mem_singleton.mp hb]; exact ⟨hB, hA3⟩) rfl rfl
    have hV4 : VOK C tab env ad3 h' v3 := hV3.stepQ q4 fun b hb o e => hk4 b o e fun q => hfas (q ▸ hb)
    have st4 : Stp (fas env) ad1 s1 ad3 { s3 with heap := h', toks := tk } := st3.late hn fun b o hb e => hk4 b o e hb
    exact wpAny_execs_nil (fin 0 hc3 hq3 rfl hW4 hV4 st4)
end
/-- the frame of a comprehension -/
noncomputable def cenvK (scope : Scope) (cl : List (Str × Addr)) (L : Addr) (env : Env) : Env :=
  { scope := relabel scope env, locals := L, globals := env.globals, cells := cellsFrom (L + 1) scope.names cl, qual := env.qual, func := none, code := env.code, frame := env.frame, builtins := env.builtins }

theorem cellsFrom_mem : ∀ {names : List (Str × NameKind)} {n : Nat} {acc : List (Str × Addr)} {y c}, (y, c) ∈ cellsFrom n names acc → (y, c) ∈ acc ∨ n ≤ c
  | [], _, _, _, _, h => .inl h
  | (name, kind) :: r, n, acc, y, c, h => by
    unfold cellsFrom at h
    split at h
    · rcases cellsFrom_mem h with h | h
      · rcases List.mem_cons.mp h with h | h
        · cases h; exact .inr (Nat.le_refl _)
        · exact .inl h
      · exact .inr (by lia)
    · exact cellsFrom_mem h

theorem cellsFrom_nodup : ∀ {names : List (Str × NameKind)} {n : Nat} {acc : List (Str × Addr)}, (acc.map (·.2)).Nodup → (∀ c ∈ acc.map (·.2), c < n) → ((cellsFrom n names acc).map (·.2)).Nodup
  | [], _, _, h, _ => h
  | (name, kind) :: r, n, acc, h, hl => by
    unfold cellsFrom
    split
    · refine cellsFrom_nodup (List.nodup_cons.mpr ⟨fun hm => Nat.lt_irrefl _ (hl _ hm), h⟩) fun c hc => ?_
      rcases List.mem_cons.mp hc with rfl | hc
      · exact Nat.lt_succ_self _
      · exact Nat.lt_succ_of_lt (hl c hc)
    · exact cellsFrom_nodup h hl

theorem cellsFrom_live : ∀ {names : List (Str × NameKind)} {h : Heap} {acc : List (Str × Addr)}, (∀ y c, (y, c) ∈ acc → ∃ v, h.IsCell c v) → ∀ y c, (y, c) ∈ cellsFrom h.objs.size names acc → ∃ v, (pushCells h names).IsCell c v
  | [], _, _, h, y, c, hm => h y c hm
  | (name, kind) :: r, h, acc, hh, y, c, hm => by
    unfold cellsFrom at hm
    unfold pushCells
    split at hm
    · rename_i hk
      rw [if_pos hk]
      have e : (h.push { cls := .type "cell", data := .cell none }).objs.size = h.objs.size + 1 := Heap.size_push ..
      rw [← e] at hm
      refine cellsFrom_live (fun y' c' hm' => ?_) y c hm
      rcases List.mem_cons.mp hm' with q | q
      · cases q; exact ⟨none, _, Heap.get?_push_size _ rfl, rfl⟩
      · obtain ⟨v, hv⟩ := hh y' c' q
        exact ⟨v, hv.keeps fun b o e => Heap.get?_push_of_some _ e⟩
    · rename_i hk
      rw [if_neg hk]
      exact cellsFrom_live hh y c hm

/-- the frame is laid -/
theorem newCompEnv_ok {C : Cx} {A : Around} {E : Value → Shared → Prop} {s : Shared} {scope : Scope} {cl : List (Str × Addr)} {env : Env} {Q : Env → Shared → Prop} (hk : scope.kind = .function)
    (hQ : ∀ s' m, s'.heap.Ns s.heap.objs.size m → (∀ b o, s.heap.get? b = some o → s'.heap.get? b = some o) → s'.gens = s.gens → s'.os = s.os →
      ((∀ y c, (y, c) ∈ cl → ∃ v, s.heap.IsCell c v) → ∀ y c, (y, c) ∈ cellsFrom (s.heap.objs.size + 1) scope.names cl → ∃ v, s'.heap.IsCell c v) →
      Q { scope := scope, locals := s.heap.objs.size, globals := env.globals, cells := cellsFrom (s.heap.objs.size + 1) scope.names cl, qual := env.qual, func := none, code := env.code, frame := env.frame, builtins := env.builtins } s') :
    wpAny C.M A (newFunctionEnv scope env.globals cl [] env.qual none .none (some env)) Q E s := by
  simp only [newFunctionEnv, Option.isSome_some, if_true]
  refine wpAny_bind (wpAny_alloc ?_)
  refine wpAny_bind (wpAny_layCells _ (fun name kind cells => by cases hkc : kind == NameKind.cell <;> simp [hkc]) _ _ _ _ ?_)
  have e : (s.heap.push { cls := .type "dict", data := .dict #[] }).objs.size = s.heap.objs.size + 1 := Heap.size_push ..
  refine wpAny_pure ?_
  have hns : (pushCells (s.heap.push { cls := .type "dict", data := .dict #[] }) scope.names).Ns s.heap.objs.size (fun _ => none) := (Heap.Ns.new s.heap (.type "dict")).keeps (pushCells_keeps _ _)
  have := hQ { s with heap := pushCells (s.heap.push { cls := .type "dict", data := .dict #[] }) scope.names } _ hns (fun b o e => pushCells_keeps _ _ b o (Heap.get?_push_of_some _ e)) rfl rfl
    (fun hl y c hm => by
      rw [← e] at hm
      exact cellsFrom_live (fun y' c' h' => by obtain ⟨v, hv⟩ := hl y' c' h'; exact ⟨v, hv.keeps fun b o e => Heap.get?_push_of_some _ e⟩) y c hm)
  rw [← e] at this
  exact this

theorem relabel_kind {scope : Scope} {env : Env} {y k} (h : (relabel scope env).names.lookup y = some k) : ∃ k0, (y, k0) ∈ scope.names ∧ (k = k0 ∨ (k0 = .free ∧ k = .cell)) := by
  have hm := mem_of_lookup h
  obtain ⟨⟨n, k0⟩, h1, h2⟩ := List.mem_map.mp hm
  simp only at h2
  split at h2
  · rename_i hc
    cases h2
    simp only [Bool.and_eq_true, beq_iff_eq] at hc
    exact ⟨_, h1, .inr ⟨hc.1.1, rfl⟩⟩
  · cases h2; exact ⟨_, h1, .inl rfl⟩

/-- what a comprehension's scope must be like -/
structure COK (scope : Scope) (x : Str) (cl : List (Str × Addr)) (tab : List (Str × Nat)) (env : Env) : Prop where
  kind : scope.kind = .function
  names : ∀ y k, (y, k) ∈ scope.names → (k = .local ∧ (y = x ∨ y = (".0" : Str))) ∨ (k = .cell ∧ y = x) ∨ (k = .free ∧ y ≠ x ∧ (env.kindOf y = some .cell ∨ env.kindOf y = some .free)) ∨ k = .globalImplicit
  dot : tab.lookup (".0" : Str) = none
  sub : ∀ y c, cl.lookup y = some c → env.cells.lookup y = some c
  mem : ∀ y c, (y, c) ∈ cl → (y, c) ∈ env.cells
  nodup : (cl.map (·.2)).Nodup
  lk : ∀ y, y ≠ x → ∀ n c, (cellsFrom n scope.names cl).lookup y = some c → cl.lookup y = some c
  loc : ∀ y ∈ scope.names, y.2 = .local → scope.names.lookup y.1 = some .local

theorem VOK.comp {C : Cx} {tab env A h vars scope x cl n h' L m} (hV : VOK C tab env A h vars) (hc : COK scope x cl tab env) (hn : vars.length = n) (hk : ∀ b o, h.get? b = some o → h'.get? b = some o)
    (hns : h'.Ns L m) (hL : C.base.get? L = none ∧ L ∉ A) (hlive : ∀ y c, (y, c) ∈ cellsFrom (L + 1) scope.names cl → ∃ v, h'.IsCell c v) (hbig : ∀ c, L + 1 ≤ c → C.base.get? c = none ∧ c ∉ A) :
    VOK C ((x, n) :: tab) (cenvK scope cl L env) A h' (vars ++ [none]) := by
  have q : Stq A h A h' := ⟨fun b o e _ _ => hk b o e, ⟨[], by simp⟩, fun _ h => .inl h⟩
  have var : ∀ {y i mv}, ((x, n) :: tab).lookup y = some i → (vars ++ [none])[i]? = some (some mv) → y ≠ x ∧ tab.lookup y = some i ∧ vars[i]? = some (some mv) := by
    intro y i mv h1 h2
    have hlt : i < vars.length := by
      by_cases hlt : i < vars.length
      · exact hlt
      · rw [List.getElem?_append_right (by lia)] at h2
        cases q : i - vars.length with
        | zero => rw [q] at h2; simp at h2
        | succ j => rw [q] at h2; simp at h2
    rw [List.getElem?_append_left hlt] at h2
    rw [List.lookup_cons] at h1
    by_cases e : y = x
    · subst e
      simp only [beq_self_eq_true] at h1
      cases h1
      lia
    · rw [beq_false_of_ne e] at h1
      exact ⟨e, h1, h2⟩
  refine ⟨⟨m, hns, fun y i mv h1 h2 h3 => ?_⟩, fun y i mv c h1 h2 h3 h4 => ?_, fun y c hm => hlive y c hm, fun b hb => ?_⟩
  · obtain ⟨e, h1', _⟩ := var h1 h2
    obtain ⟨k0, hm, hk0⟩ := relabel_kind h3
    rcases hk0 with rfl | ⟨_, h⟩
    · rcases hc.names _ _ hm with ⟨_, h | h⟩ | ⟨h, _⟩ | ⟨h, _⟩ | h
      · exact absurd h e
      · rw [h, hc.dot] at h1'; cases h1'
      · cases h
      · cases h
      · cases h
    · cases h
  · obtain ⟨e, h1', h2'⟩ := var h1 h2
    have h4' := hc.lk y e _ c h4
    have hk1 : env.kindOf y = some .cell ∨ env.kindOf y = some .free := by
      have key : ∀ k, (relabel scope env).names.lookup y = some k → (k = .cell ∨ k = .free) → env.kindOf y = some .cell ∨ env.kindOf y = some .free := by
        intro k hk hkk
        obtain ⟨k0, hm, hk0⟩ := relabel_kind hk
        rcases hc.names _ _ hm with ⟨r, _⟩ | ⟨_, r⟩ | ⟨_, _, r⟩ | r
        · subst r; rcases hk0 with rfl | ⟨h, _⟩
          · rcases hkk with h | h <;> cases h
          · cases h
        · exact absurd r e
        · exact r
        · subst r; rcases hk0 with rfl | ⟨h, _⟩
          · rcases hkk with h | h <;> cases h
          · cases h
      rcases h3 with h3 | h3
      · exact key _ h3 (.inl rfl)
      · exact key _ h3 (.inr rfl)
    obtain ⟨v, hv, hr⟩ := hV.cell y i mv c h1' h2' hk1 (hc.sub y c h4')
    exact ⟨v, hv.keeps hk, hr.monoQ q⟩
  · rcases List.mem_cons.mp hb with rfl | hb
    · exact hL
    · obtain ⟨⟨y, c⟩, hm, rfl⟩ := List.mem_map.mp hb
      rcases cellsFrom_mem hm with h | h
      · exact hV.own c (mem_fas (hc.mem y c h))
      · exact hbig c h

theorem FOK.comp {env : Env} {scope : Scope} {cl : List (Str × Addr)} {L : Addr} {x tab} (hc : COK scope x cl tab env) (hlt : ∀ y c, (y, c) ∈ cl → c < L) : FOK (cenvK scope cl L env) := by
  refine List.nodup_cons.mpr ⟨fun hm => ?_, cellsFrom_nodup hc.nodup fun c hm => ?_⟩
  · obtain ⟨⟨y, c⟩, hm, e⟩ := List.mem_map.mp hm
    simp only at e
    rcases cellsFrom_mem hm with h | h
    · have := hlt y c h; rw [e] at this; exact Nat.lt_irrefl _ this
    · rw [e] at h; exact Nat.lt_irrefl _ h
  · obtain ⟨⟨y, c'⟩, hm', rfl⟩ := List.mem_map.mp hm
    exact Nat.lt_succ_of_lt (hlt y _ hm')
/-- item after item -/
noncomputable def compN (chk : MH → Prop) (un : MH → MH) (T : BT) (P : MT) (vars : Vars) : List MV → List MV → (List MV → MH → Prop) → MH → Prop
  | [], out, Q, mh => Q out (un mh)
  | x :: r, out, Q, mh => T (fun b m1 => if b = true then P (fun y m2 => chk m2 ∧ compN chk un T P vars r (out ++ [y]) Q m2) (vars ++ [some x]) m1 else chk m1 ∧ compN chk un T P vars r out Q m1) (vars ++ [some x]) mh

/-- the tests of a comprehension -/
noncomputable def SI (C : Cx) (k : Nat) (tab : List (Str × Nat)) (env : Env) (ifs : List Expr) (T : BT) : Prop :=
  ∀ (A : Around) (E : Value → Shared → Prop) (s : Shared) (ad : List Addr) (mh : MH) (vars : Vars) (Q : Bool → MH → Prop),
    Room A k → W C ad mh s → VOK C tab env ad s.heap vars → T Q vars mh →
    wpAny C.M A (forIn ifs true fun c r => if r = true then do let ok ← isTrue c env (eval c env); pure (ForInStep.yield ok) else pure (ForInStep.yield r)) (PostB C ad s Q) E s

@[reducible] noncomputable def tTrue  : BT := fun Q _ mh => Q true mh
theorem SI_nil {C k tab env} : SI C k tab env [] tTrue :=
  fun _ _ _ ad mh _ _ _ hW _ hP => wpAny_tests_nil ⟨mh, ad, hP, hW, Stp.refl ..⟩
theorem SI_one {C k tab env} {e : Expr} {T : BT} (h : ST C k tab env e T) : SI C k tab env [e] T :=
  fun A E s ad mh vars Q hR hW hV hP => wpAny_tests_one (h A E s ad mh vars Q hR hW hV hP)

theorem append_call {C : Cx} {A : Around} {E : Value → Shared → Prop} {s : Shared} {l : Addr} {items : Array Value} {n : Nat} {x : Value} {Q : Value → Shared → Prop} (hl : IsL s.heap l items n) (hz : items.size ≤ 4096)
    (hQ : Q .none { s with heap := s.heap.update l (Obj.mapSeq (·.push x)) }) : wpAny C.M A (call (.builtin "list.append") [.ref l, x]) Q E s := by
  refine wpAny_call_entry slot_list_append hl.isList.typeIs entry_list_append ?_ (args_list_append _ _)
  show wpAny _ _ (updateSeq l (·.push x) >>= fun _ => ret .none) _ _ s
  exact wpAny_bind (wpAny_updateSeq hl rfl (wpAny_pure ⟨.none, rfl, hQ⟩) (line4 hz) (by simp only [Array.size_push]; exact Nat.succ_le_succ (line4 hz)))

/-- the step of an own object -/
theorem W.ownStep {C A mh} {s s' : Shared} {it : Addr} (hW : W C A mh s) (hk : ∀ b o, b ≠ it → s.heap.get? b = some o → s'.heap.get? b = some o) (hI : ∀ o, s.heap.get? it = some o → ¬ Imm o) (hB : C.base.get? it = none) (hA : it ∉ A) (hg : s'.gens = s.gens) (ho : s'.os = s.os) :
    Stq A s.heap A s'.heap ∧ W C A mh s' := by
  have q : Stq A s.heap A s'.heap := q_at (it := it) (fun b o e hb => hk b o hb e) hI
  exact ⟨q, hW.change (X := [it]) (fun b o e hb => hk b o (by simpa using hb) e) q (fun b hb => by rw [List.mem_singleton.mp hb]; exact ⟨hB, hA⟩) hg ho⟩

theorem imm_list {h : Heap} {l : Addr} {vs n} (x : IsL h l vs n) : ∀ o, h.get? l = some o → ¬ Imm o := fun o e => by rw [x] at e; cases e; exact not_imm_cls (T := "list") rfl (by decide) (by decide)

section
variable {C : Cx} {k : Nat} {tab : List (Str × Nat)} {env : Env}

inductive CInv (C : Cx) (tab : List (Str × Nat)) (cenv : Env) (T : BT) (P : MT) (vars : Vars) (items : List MV) (Q : List MV → MH → Prop) (chk : MH → Prop) (un : MH → MH) (at' : List Addr → Heap → Addr → Nat → Prop) (it D L : Addr) (ad : List Addr) (s1 : Shared) (n : Nat) (s' : Shared) : Prop
  | mk (j : Nat) (out : List MV) (vs : List Value) (nn : Nat) (mh' : MH) (ad' : List Addr) (w' : Option MV) (h1 : n + j = items.length + 1) (h2 : j ≤ items.length) (h3 : compN chk un T P vars (items.drop j) out Q mh') (h4 : chk mh') (h5 : W C ad' mh' s') (h6 : VOK C tab cenv ad' s'.heap (vars ++ [w']))
    (h7 : at' ad' s'.heap it j) (h8 : VRs ad' C.scr s'.heap out vs) (h9 : out.length ≤ j) (h10 : IsL s'.heap D vs.toArray nn) (h11 : Stp [] ad s1 ad' s') (h12 : it ∉ ad') (h13 : D ∉ ad') (h14 : L ∉ ad')

theorem comp_core {elt iter : Expr} {x : Str} {px : Pos} {ifs : List Expr} {scope : Scope} {pos : Pos} {cl : List (Str × Addr)} {n : Nat} {T : BT} {P : MT} {A : Around} {E : Value → Shared → Prop} {s1 s2 : Shared} {ad mh vars chk items un at'} {it : Nat}
    {Q : List MV → MH → Prop} {RR : Value → Addr → Result → Shared → Prop}
    (he : EOK env) (hc : COK scope x cl tab env) (hT : TOK ((x, n) :: tab)) (hx : ∀ L : Nat, ((cenvK scope cl L env).kindOf x = some .local) ∨ ((cenvK scope cl L env).kindOf x = some .cell ∧ ∃ c : Nat, (cenvK scope cl L env).cells.lookup x = some c ∧ L < c))
    (hi : ∀ L, FOK (cenvK scope cl L env) → SI C k ((x, n) :: tab) (cenvK scope cl L env) ifs T) (hp : ∀ L, FOK (cenvK scope cl L env) → SE C k ((x, n) :: tab) (cenvK scope cl L env) elt P)
    (hR : Room A k) (hn : vars.length = n) (hz : items.length ≤ 4096) (src : IsSrc C chk items at') (hV : VOK C tab env ad s1.heap vars) (hW : W C ad mh s2) (hat : at' ad s2.heap it 0) (hchk : chk mh)
    (hk : ∀ b o, s1.heap.get? b = some o → s2.heap.get? b = some o) (hit : s1.heap.get? it = none) (hA : it ∉ ad) (hB : C.base.get? it = none)
    (hP : compN chk un T P vars items [] Q mh)
    (hRR : ∀ D L s' ad' mh' out vs nn m, Q out (un mh') → chk mh' → (∃ B, ad' = ad ++ B) → W C ad' mh' s' → VRs ad' C.scr s'.heap out vs → out.length ≤ 4096 → IsL s'.heap D vs.toArray nn → D ∉ ad' → s2.heap.get? D = none → s'.heap.Ns L m → L ∉ ad' → s2.heap.get? L = none → D ≠ L →
      Stp [] ad s1 ad' s' → RR (.ref D) L (.ok .next) s') :
    wpAny C.M A (newList []) (fun acc s₃ => wpAny C.M A (newFunctionEnv scope env.globals cl [] env.qual none .none (some env)) (fun cenv s₄ =>
      codeAny C.M A (.compStart (.ListComp elt [⟨.Name x px, iter, ifs, 0⟩] scope pos) 0 (.ref it) acc { cenv with scope := relabel scope env }) (RR acc cenv.locals) s₄) E s₃) E s2 := by
  refine wpAny_newObj_type (newCompEnv_ok hc.kind fun s4 m4 hns hk4 hg4 ho4 hlive => ?_)
  dsimp only at hns hk4 hg4 ho4 hlive ⊢
  generalize hH : s2.heap.push { cls := .type "list", dict := none, data := .seq ([] : List Value).toArray } = H at hns hk4 hlive ⊢
  have hL0 : H.objs.size = s2.heap.objs.size + 1 := by rw [← hH, Heap.size_push]
  generalize hL : H.objs.size = L at hns hlive hL0 ⊢
  generalize hD : s2.heap.objs.size = D at hL0 ⊢
  have lt2 : ∀ (b : Nat) o, s2.heap.get? b = some o → b < D := fun b o e => hD ▸ Heap.lt_size e
  have fresh : ∀ b : Nat, D ≤ b → s2.heap.get? b = none := fun b hb => by
    cases e : s2.heap.get? b with
    | none => rfl
    | some o => have := lt2 _ _ e; lia
  have kHD : ∀ b o, s2.heap.get? b = some o → H.get? b = some o := fun b o e => hH ▸ Heap.get?_push_of_some _ e
  have k24 : ∀ b o, s2.heap.get? b = some o → s4.heap.get? b = some o := fun b o e => hk4 b o (kHD b o e)
  have k14 : ∀ b o, s1.heap.get? b = some o → s4.heap.get? b = some o := fun b o e => k24 b o (hk b o e)
  have hDL : D ≠ L := by lia
  have lD4 : IsL s4.heap D #[] 0 := hk4 D _ (by rw [← hH, ← hD]; exact Heap.get?_push_size _ rfl)
  have noA : ∀ b : Nat, D ≤ b → b ∉ ad := fun b hb hm => by obtain ⟨o, ho⟩ := hW.there hm; have := lt2 _ _ ho; lia
  have noB : ∀ b : Nat, D ≤ b → C.base.get? b = none := fun b hb => by
    cases e : C.base.get? b with
    | none => rfl
    | some o => have := lt2 _ _ (hW.keep _ _ e); lia
  have hgen : s4.gens = s2.gens := hg4
  have hW4 : W C ad mh s4 := hW.grow k24 hgen ho4
  have hV1c : ∀ y c, (y, c) ∈ cl → ∃ v, s1.heap.IsCell c v := fun y c hm => hV.live y c (hc.mem y c hm)
  have hcl : ∀ y (c : Nat), (y, c) ∈ cl → c < L := fun y c hm => by
    obtain ⟨v, o, ho, _⟩ := hV1c y c hm
    have := lt2 _ _ (hk _ _ ho)
    lia
  have hF : FOK (cenvK scope cl L env) := FOK.comp hc hcl
  have hV4 : VOK C ((x, n) :: tab) (cenvK scope cl L env) ad s4.heap (vars ++ [none]) :=
    hV.comp hc hn k14 hns ⟨noB L (by lia), noA L (by lia)⟩ (hlive fun y c hm => by obtain ⟨v, hv⟩ := hV1c y c hm; exact ⟨v, (hv.keeps hk).keeps kHD⟩) fun c h => ⟨noB c (Nat.le_trans (show D ≤ L + 1 by lia) h), noA c (Nat.le_trans (show D ≤ L + 1 by lia) h)⟩
  have heC : EOK (cenvK scope cl L env) := ⟨hc.kind, he.glob, he.bi⟩
  have hitD : it < D := by obtain ⟨o, ho⟩ := src.there hat; exact lt2 _ _ ho
  have fasC : ∀ b : Nat, b ∈ fas (cenvK scope cl L env) → b = L ∨ L < b ∨ ∃ y, (y, b) ∈ cl := fun b hb => by
    rcases List.mem_cons.mp hb with h | h
    · exact .inl h
    · obtain ⟨⟨y, c⟩, hm, rfl⟩ := List.mem_map.mp h
      rcases cellsFrom_mem hm with q | q
      · exact .inr (.inr ⟨y, q⟩)
      · exact .inr (.inl q)
  have hitF : it ∉ fas (cenvK scope cl L env) := fun hm => by
    rcases fasC it hm with h | h | ⟨y, h⟩
    · lia
    · lia
    · obtain ⟨v, o, ho, _⟩ := hV1c y it h; rw [hit] at ho; cases ho
  have hDF : D ∉ fas (cenvK scope cl L env) := fun hm => by
    rcases fasC D hm with h | h | ⟨y, h⟩
    · exact hDL h
    · lia
    · obtain ⟨v, o, ho, _⟩ := hV1c y D h; have := lt2 _ _ (hk _ _ ho); lia
  obtain ⟨cx, hcx, hcL⟩ : ∃ c : Nat, (((cenvK scope cl L env).kindOf x = some .local ∧ c = (cenvK scope cl L env).locals) ∨ ((cenvK scope cl L env).kindOf x = some .cell ∧ (cenvK scope cl L env).cells.lookup x = some c)) ∧ L ≤ c := by
    rcases hx L with h | ⟨h, c, h1, h2⟩
    · exact ⟨L, .inl ⟨h, rfl⟩, Nat.le_refl _⟩
    · exact ⟨c, .inr ⟨h, h1⟩, Nat.le_of_lt h2⟩
  have hitc : it ≠ cx := by lia
  have hDc : D ≠ cx := by lia
  have s1none : ∀ b : Nat, D ≤ b → s1.heap.get? b = none := fun b hb => by
    cases e : s1.heap.get? b with
    | none => rfl
    | some o => have := fresh b hb; rw [hk b o e] at this; cases this
  have st14 : Stp [] ad s1 ad s4 := Stp.grow k14
  have loop : codeAny C.M A (.compLoop (.ListComp elt [⟨.Name x px, iter, ifs, 0⟩] scope pos) 0 (.ref it) (.ref D) (cenvK scope cl L env)) (RR (.ref D) L) s4 := by
    refine codeAny_compLoop_tests (CInv C ((x, n) :: tab) (cenvK scope cl L env) T P vars items Q chk un at' it D L ad s1) ?_ (items.length + 1)
      ⟨0, [], [], 0, mh, ad, none, by lia, by lia, hP, hchk, hW4, hV4, src.frame hat ⟨[], by simp⟩ (fun o e => k24 it o e), .nil, Nat.le_refl _, lD4, st14, hA, noA D (Nat.le_refl _), noA L (by lia)⟩
    rintro n' s5 ⟨j, out, vs, nn, m5, ad5, w5, hnj, hjle, hq5, hc5, hW5, hV5, hat5, hvs5, hol, hl5, st5, hA5, hD5, hL5⟩
    have hlen5 := hvs5.length
    have hI5 : ∀ o, s5.heap.get? it = some o → ¬ Imm o := fun o ho => src.notImm hat5 ho
    by_cases hj : j < items.length
    · rw [List.drop_eq_getElem_cons hj] at hq5
      refine src.item hW5 hc5 hat5 hA5 hj fun v m h' tk hm hv hat6 hs6 => ?_
      rw [List.getElem?_eq_getElem hj, Option.some.injEq] at hm
      subst hm
      have k6 : ∀ b o, b ≠ it → s5.heap.get? b = some o → h'.get? b = some o := fun b o hb e => SameBut.own hs6 e hb
      obtain ⟨q6, hW6⟩ := W.ownStep (s' := { s5 with heap := h', toks := tk }) hW5 k6 hI5 hB hA5 rfl rfl
      have hV6 : VOK C ((x, n) :: tab) (cenvK scope cl L env) ad5 h' (vars ++ [w5]) := hV5.stepQ q6 fun b hb o e => k6 b o (fun q => hitF (q ▸ hb)) e
      have st6 : Stp [] ad s1 ad5 { s5 with heap := h', toks := tk } := st5.late hit k6
      have hl6 : IsL h' D vs.toArray nn := k6 D _ (fun q => by lia) hl5
      have hvs6 : VRs ad5 C.scr h' out vs := hvs5.monoQ q6
      refine wpAny_assign_Name (store_ok2 (s := { s5 with heap := h', toks := tk }) heC hT hF (i := n) (by rw [List.lookup_cons]; simp) hcx hW6 hV6 hv fun s7 hW7 hV7 st67 => ?_)
      have hset : (vars ++ [w5]).set n (some items[j]) = vars ++ [some items[j]] := by subst hn; simp
      rw [hset] at hV7
      have k67 : ∀ b o, b ∉ ad5 → b ≠ cx → h'.get? b = some o → s7.heap.get? b = some o := fun b o h1 h2 e => st67.keep b o e h1 (by simpa using h2)
      have st7 : Stp [] ad s1 ad5 s7 := by
        refine ⟨fun b o e h1 h2 => ?_, fun b o e h1 h2 => ?_, fun b e => st67.alive b (st6.alive b e), st6.pre, st6.new⟩
        · have e6 := st6.keep b o e h1 h2
          have hne : b ≠ cx := fun q => by rw [q, s1none cx (by lia)] at e; cases e
          have hb5 : b ∉ ad5 := fun hm => by
            rcases st6.new b hm with q | q
            · exact h1 q
            · rw [q] at e; cases e
          exact k67 b o hb5 hne e6
        · have e6 := st6.imm b o e h1 h2
          have hne : b ≠ cx := fun q => by rw [q, s1none cx (by lia)] at e; cases e
          have hb5 : b ∉ ad5 := fun hm => by
            rcases st6.new b hm with q | q
            · exact h1 q
            · rw [q] at e; cases e
          exact k67 b o hb5 hne e6
      have hat7 : at' ad5 s7.heap it (j + 1) := src.frame hat6 ⟨[], by simp⟩ fun o e => k67 it o hA5 hitc e
      have hl7 : IsL s7.heap D vs.toArray nn := k67 D _ hD5 hDc hl6
      have hvs7 : VRs ad5 C.scr s7.heap out vs := hvs6.mono st67
      refine wpAny_mono (hi L hF A _ s7 ad5 m5 _ _ hR hW7 hV7 hq5) (fun b s8 h8 => ?_) fun _ _ e => e
      obtain ⟨m8, ad8, hq8, hW8, st78⟩ := h8
      have hV8 := hV7.step st78
      have out8 : ∀ {b'}, b' ∉ ad5 → (∃ o, s7.heap.get? b' = some o) → b' ∉ ad8 := fun {b'} h1 ⟨o, h2⟩ hm => by
        rcases st78.new b' hm with q | q
        · exact h1 q
        · rw [h2] at q; cases q
      have hatL : ∃ o, s7.heap.get? L = some o := hV7.fas_there L List.mem_cons_self
      have hA8 := out8 hA5 (src.there hat7)
      have hD8 := out8 hD5 ⟨_, hl7⟩
      have hL8 := out8 hL5 hatL
      have hat8 : at' ad8 s8.heap it (j + 1) := src.frame hat7 st78.pre fun o e => st78.keep it o e hA5 (fun h => nomatch h)
      have hl8 : IsL s8.heap D vs.toArray nn := st78.keep D _ hl7 hD5 (fun h => nomatch h)
      have hvs8 := hvs7.mono st78
      cases b with
      | false =>
        simp only [Bool.false_eq_true, if_false] at hq8 ⊢
        exact ⟨n' - 1, by lia, j + 1, out, vs, nn, m8, ad8, _, by lia, by lia, hq8.2, hq8.1, hW8, hV8, hat8, hvs8, by lia, hl8, st7.trans st78, hA8, hD8, hL8⟩
      | true =>
        simp only [if_true] at hq8 ⊢
        refine wpAny_mono (hp L hF A _ s8 ad8 m8 _ _ hR hW8 hV8 hq8) (fun y s9 h9 => ?_) fun _ _ e => e
        obtain ⟨my, m9, ad9, ⟨hc9, hq9⟩, hy, hW9, st89⟩ := h9
        have hV9 := hV8.step st89
        have out9 : ∀ {b'}, b' ∉ ad8 → (∃ o, s8.heap.get? b' = some o) → b' ∉ ad9 := fun {b'} h1 ⟨o, h2⟩ hm => by
          rcases st89.new b' hm with q | q
          · exact h1 q
          · rw [h2] at q; cases q
        have hA9 := out9 hA8 (src.there hat8)
        have hD9 := out9 hD8 ⟨_, hl8⟩
        have hL9 := out9 hL8 (hV8.fas_there L List.mem_cons_self)
        have hat9 : at' ad9 s9.heap it (j + 1) := src.frame hat8 st89.pre fun o e => st89.keep it o e hA8 (fun h => nomatch h)
        have hl9 : IsL s9.heap D vs.toArray nn := st89.keep D _ hl8 hD8 (fun h => nomatch h)
        have hvs9 := hvs8.mono st89
        refine append_call hl9 (by simp only [List.size_toArray]; lia) ?_
        have k10 : ∀ b o, b ≠ D → s9.heap.get? b = some o → (s9.heap.update D (Obj.mapSeq (·.push y))).get? b = some o := fun b o hb e => SameBut.own (Heap.SameBut.update ..) e hb
        obtain ⟨q10, hW10⟩ := W.ownStep (s' := { s9 with heap := s9.heap.update D (Obj.mapSeq (·.push y)) }) hW9 k10 (imm_list hl9) (noB D (Nat.le_refl _)) hD9 rfl rfl
        have hl10 := IsL.update hl9 (·.push y)
        have hpu : vs.toArray.push y = (vs ++ [y]).toArray := by simp
        rw [hpu] at hl10
        refine ⟨n' - 1, by lia, j + 1, out ++ [my], vs ++ [y], _, m9, ad9, _, by lia, by lia, hq9, hc9, hW10, hV9.stepQ q10 fun b hb o e => k10 b o (fun q => hDF (q ▸ hb)) e, src.frame hat9 ⟨[], by simp⟩ fun o e => k10 it o (by lia) e,
          (hvs9.monoQ q10).append (.cons (hy.monoQ q10) .nil), by simp; lia, hl10, ((st7.trans st78).trans st89).late (s1none D (Nat.le_refl _)) k10, hA9, hD9, hL9⟩
    · have e : j = items.length := by lia
      subst e
      rw [List.drop_length] at hq5
      refine src.done hR.handled hW5 hc5 hat5 fun h' tk he => ?_
      have k6 : ∀ b o, b ≠ it → s5.heap.get? b = some o → h'.get? b = some o := fun b o hb e => he b o hb e
      obtain ⟨q6, hW6⟩ := W.ownStep (s' := { s5 with heap := h', toks := tk }) hW5 k6 hI5 hB hA5 rfl rfl
      have hV6 : VOK C ((x, n) :: tab) (cenvK scope cl L env) ad5 h' (vars ++ [w5]) := hV5.stepQ q6 fun b hb o e => k6 b o (fun q => hitF (q ▸ hb)) e
      obtain ⟨mm, hmm, _⟩ := hV6.ns
      exact hRR D L { s5 with heap := h', toks := tk } ad5 m5 out vs nn mm hq5 hc5 st5.pre hW6 (hvs5.monoQ q6) (by lia) (k6 D _ (by lia) hl5) hD5 (fresh D (Nat.le_refl _)) hmm hL5 (fresh L (by lia)) hDL (st5.late hit k6)
  refine codeAny_compStart_list loop ?_
  exact src.self (A := ad) (j := 0) (src.frame hat ⟨[], by simp⟩ fun o e => k24 it o e) loop
end
theorem Stq.adopt {A : List Addr} {h : Heap} {D : Addr} (hI : ∀ o, h.get? D = some o → ¬ Imm o) : Stq A h (A ++ [D]) h where
  imm b o e _ _ := e
  pre := ⟨[D], rfl⟩
  new a ha := by
    rcases List.mem_append.mp ha with h | h
    · exact .inl h
    · rw [List.mem_singleton.mp h]; exact .inr hI

theorem W.adopt {C A mh s} (x : W C A mh s) {D : Addr} {mo : MO} (hA : D ∉ A) (hB : C.base.get? D = none) (hI : ∀ o, s.heap.get? D = some o → ¬ Imm o) (hr : ObjR C (A ++ [D]) s.heap D mo) : W C (A ++ [D]) (mh ++ [mo]) s := by
  have q := Stq.adopt (A := A) hI
  refine ⟨x.keep, by simp [x.len], ?_, fun b hb => ?_, fun j b o hj hm => ?_, x.gens, x.os⟩
  · refine List.nodup_append.mpr ⟨x.nodup, by simp, fun b hb c hc e => ?_⟩
    rw [List.mem_singleton] at hc
    subst hc; subst e
    exact hA hb
  · rcases List.mem_append.mp hb with h | h
    · exact x.fresh b h
    · rw [List.mem_singleton.mp h]; exact hB
  · by_cases hj' : j < A.length
    · rw [List.getElem?_append_left hj'] at hj
      rw [List.getElem?_append_left (by rw [← x.len]; exact hj')] at hm
      exact (x.objs j b o hj hm).monoQ q rfl
    · rw [List.getElem?_append_right (by lia)] at hj
      rw [List.getElem?_append_right (by rw [← x.len]; lia)] at hm
      have e1 : j - A.length = 0 := by
        cases q : j - A.length with
        | zero => rfl
        | succ n => rw [q] at hj; simp at hj
      rw [e1] at hj
      rw [← x.len, e1] at hm
      simp only [List.getElem?_cons_zero, Option.some.injEq] at hj hm
      subst hj; subst hm
      exact hr

theorem Stp.adopt {X A0 s0 A s} (x : Stp X A0 s0 A s) {D : Addr} (hD : s0.heap.get? D = none) : Stp X A0 s0 (A ++ [D]) s where
  keep := x.keep
  imm := x.imm
  alive := x.alive
  pre := by obtain ⟨B, rfl⟩ := x.pre; exact ⟨B ++ [D], by simp⟩
  new a ha := by
    rcases List.mem_append.mp ha with h | h
    · exact x.new a h
    · rw [List.mem_singleton.mp h]; exact .inr hD

section
variable {C : Cx} {k : Nat} {tab : List (Str × Nat)} {env : Env}

theorem ns_dict {h : Heap} {L : Addr} {m} (x : h.Ns L m) : ∀ o, h.get? L = some o → ¬ Imm o := fun o e => by
  obtain ⟨o', es, ep, ho, hd, _⟩ := x
  rw [ho] at e; cases e
  exact not_imm_dict hd

/-- the list is built, the frame is let go -/
theorem comp_end {s1 s' : Shared} {h' : Heap} {ad ad' : List Addr} {mh' : MH} {D L : Addr} {out vs nn m} (hW : W C ad' mh' s') (hvs : VRs ad' C.scr s'.heap out vs) (hol : out.length ≤ 4096) (hl : IsL s'.heap D vs.toArray nn) (hD : D ∉ ad') (h1D : s1.heap.get? D = none) (hDB : C.base.get? D = none)
    (hn : s'.heap.Ns L m) (hL : L ∉ ad') (h1L : s1.heap.get? L = none) (hLB : C.base.get? L = none) (hne : D ≠ L) (st : Stp [] ad s1 ad' s') (hs : Heap.SameBut L s'.heap h') :
    W C (ad' ++ [D]) (mh' ++ [.list out]) { s' with heap := h' } ∧ Stp [] ad s1 (ad' ++ [D]) { s' with heap := h' } := by
  have k6 : ∀ b o, b ≠ L → s'.heap.get? b = some o → h'.get? b = some o := fun b o hb e => SameBut.own hs e hb
  obtain ⟨q6, hW6⟩ := W.ownStep (s' := { s' with heap := h' }) hW k6 (ns_dict hn) hLB hL rfl rfl
  have hl6 : IsL h' D vs.toArray nn := k6 D _ hne hl
  have hI := imm_list hl6
  refine ⟨hW6.adopt (mo := .list out) hD hDB hI ⟨vs, nn, hl6, (hvs.monoQ q6).monoQ (Stq.adopt hI), hol⟩, (st.late h1L k6).adopt h1D⟩

@[reducible] noncomputable def tComp (n : Nat) (Pi : MT) (T : BT) (P : MT) : MT := fun Q vars mh => vars.length = n ∧ Pi (fun src mh1 => iterP src mh1 (fun chk items un mh2 => items.length ≤ 4096 ∧
      compN chk un T P vars items [] (fun out mh3 => Q (.ref mh3.length) (mh3 ++ [.list out])) mh2)) vars mh
theorem SE_comp {elt iter : Expr} {x : Str} {px : Pos} {ifs : List Expr} {scope : Scope} {pos : Pos} {cl : List (Str × Addr)} {n : Nat} {Pi : MT} {T : BT} {P : MT}
    (he : EOK env) (hc : COK scope x cl tab env) (hT : TOK ((x, n) :: tab)) (hx : ∀ L : Nat, ((cenvK scope cl L env).kindOf x = some .local) ∨ ((cenvK scope cl L env).kindOf x = some .cell ∧ ∃ c : Nat, (cenvK scope cl L env).cells.lookup x = some c ∧ L < c))
    (hclos : closureFor scope env = pure cl) (hs : ∀ x, foldedSetIterable iter env x = pure x)
    (hit : SE C k tab env iter Pi) (hi : ∀ L, FOK (cenvK scope cl L env) → SI C k ((x, n) :: tab) (cenvK scope cl L env) ifs T) (hp : ∀ L, FOK (cenvK scope cl L env) → SE C k ((x, n) :: tab) (cenvK scope cl L env) elt P) :
    SE C k tab env (.ListComp elt [⟨.Name x px, iter, ifs, 0⟩] scope pos) (tComp n Pi T P) := by
  rintro A E s ad mh vars Q hR hW hV ⟨hn, hP⟩
  rw [eval_ListComp]
  refine wpAny_comprehension_free (use := none) rfl hs hclos hc.kind hc.loc (wpAny_mono (hit A E s ad mh vars _ hR hW hV hP) (fun va s1 h1 => ?_) fun _ _ e => e)
  obtain ⟨ma, m1, ad1, hq, hva, hW1, st1⟩ := h1
  refine iter_ok hW1 hva hq fun at' it chk items un mh2 s2 src hun hq2 hc2 hW2 hat hk2 hnew hA hB => ?_
  refine comp_core (RR := fun acc L => compPost C.M A E none (Post C ad s Q) acc L) he hc hT hx hi hp hR hn hq2.1 src (hV.step st1) hW2 hat hc2 hk2 hnew hA hB hq2.2 ?_
  intro D L s' ad' mh' out vs nn m hq3 hc3 hpre hW3 hvs hol hl hD h2D hns hL h2L hDL st
  have no1 : ∀ {b : Addr}, s2.heap.get? b = none → s1.heap.get? b = none := fun {b} h => by
    cases e : s1.heap.get? b with
    | none => rfl
    | some o => rw [hk2 b o e] at h; cases h
  have noB : ∀ {b : Addr}, s2.heap.get? b = none → C.base.get? b = none := fun {b} h => by
    cases e : C.base.get? b with
    | none => rfl
    | some o => rw [hW2.keep b o e] at h; cases h
  refine ⟨m, hns, fun h' hs' => ?_⟩
  have hW4 := hun mh' ad' s' hc3 hW3 hpre
  obtain ⟨w1, w2⟩ := comp_end hW4 hvs hol hl hD (no1 h2D) (noB h2D) hns hL (no1 h2L) (noB h2L) hDL st hs'
  refine ⟨.ref (un mh').length, _, _, hq3, ?_, w1, st1.trans w2⟩
  unfold VR
  exact ⟨D, by rw [← hW4.len]; simp, rfl⟩

@[reducible] noncomputable def tAComp (n i : Nat) (Pi : MT) (T : BT) (P : MT) : STT := fun Q vars mh => vars.length = n ∧ Pi (fun src mh1 => iterP src mh1 (fun chk items un mh2 => items.length ≤ 4096 ∧
      compN chk un T P vars items [] (fun out mh3 => Q .next (vars.set i (some (.ref mh3.length))) (mh3 ++ [.list out])) mh2)) vars mh
/-- x = [..] on one line -/
theorem SS_assignComp {elt iter : Expr} {x y : Str} {px py : Pos} {ifs : List Expr} {scope : Scope} {pos spos : Pos} {cl : List (Str × Addr)} {n i : Nat} {Pi : MT} {T : BT} {P : MT}
    (he : EOK env) (hc : COK scope x cl tab env) (hT : TOK ((x, n) :: tab)) (hT0 : TOK tab) (hF : FOK env) (hx : ∀ L : Nat, ((cenvK scope cl L env).kindOf x = some .local) ∨ ((cenvK scope cl L env).kindOf x = some .cell ∧ ∃ c : Nat, (cenvK scope cl L env).cells.lookup x = some c ∧ L < c))
    (hclos : closureFor scope env = pure cl) (hs : ∀ x, foldedSetIterable iter env x = pure x)
    (hsw : swapsWith (.ListComp elt [⟨.Name x px, iter, ifs, 0⟩] scope pos) (some (.Name y py)) spos.line env = pure true)
    (hy : env.kindOf y = some .local) (ht : tab.lookup y = some i)
    (hit : SE C k tab env iter Pi) (hi : ∀ L, FOK (cenvK scope cl L env) → SI C k ((x, n) :: tab) (cenvK scope cl L env) ifs T) (hp : ∀ L, FOK (cenvK scope cl L env) → SE C k ((x, n) :: tab) (cenvK scope cl L env) elt P) :
    SS C k tab env (.Assign [.Name y py] (.ListComp elt [⟨.Name x px, iter, ifs, 0⟩] scope pos) spos) (tAComp n i Pi T P) := by
  rintro A E s ad mh vars Q hR hW hV ⟨hn, hP⟩
  rw [exec_Assign_Name_used _ _ _ _ hsw]
  refine wpAny_bind (wpAny_standAt (wpAny_bind ?_))
  show wpAny _ A (do let _ ← comprehension (.ListComp elt [⟨.Name x px, iter, ifs, 0⟩] scope pos) scope env _ (newList []) false (eval iter env) (some (assign (.Name y py) env))) _ _ s
  refine wpAny_bind (wpAny_mono (wpAny_comprehension_free (use := some (assign (.Name y py) env)) (Q := fun _ s' => PostS C tab env ad s Q .next s') rfl hs hclos hc.kind hc.loc
    (wpAny_mono (hit A E s ad mh vars _ hR hW hV hP) (fun va s1 h1 => ?_) fun _ _ e => e)) (fun _ s' hq => wpAny_pure (wpAny_pure hq)) fun _ _ e => e)
  obtain ⟨ma, m1, ad1, hq, hva, hW1, st1⟩ := h1
  have hV1 := hV.step st1
  refine iter_ok hW1 hva hq fun at' it chk items un mh2 s2 src hun hq2 hc2 hW2 hat hk2 hnew hA hB => ?_
  refine comp_core (RR := fun acc L => compPost C.M A E (some (assign (.Name y py) env)) (fun _ s' => PostS C tab env ad s Q .next s') acc L) he hc hT hx hi hp hR hn hq2.1 src hV1 hW2 hat hc2 hk2 hnew hA hB hq2.2 ?_
  intro D L s' ad' mh' out vs nn m hq3 hc3 hpre hW3 hvs hol hl hD h2D hns hL h2L hDL st
  have no1 : ∀ {b : Addr}, s2.heap.get? b = none → s1.heap.get? b = none := fun {b} h => by
    cases e : s1.heap.get? b with
    | none => rfl
    | some o => rw [hk2 b o e] at h; cases h
  have noB : ∀ {b : Addr}, s2.heap.get? b = none → C.base.get? b = none := fun {b} h => by
    cases e : C.base.get? b with
    | none => rfl
    | some o => rw [hW2.keep b o e] at h; cases h
  have hW4 := hun mh' ad' s' hc3 hW3 hpre
  have w1 : W C (ad' ++ [D]) (un mh' ++ [.list out]) s' := hW4.adopt (mo := .list out) hD (noB h2D) (imm_list hl) ⟨vs, nn, hl, hvs.monoQ (Stq.adopt (imm_list hl)), hol⟩
  have w2 : Stp [] ad1 s1 (ad' ++ [D]) s' := st.adopt (no1 h2D)
  have hv : VR (ad' ++ [D]) C.scr s'.heap (.ref (un mh').length) (.ref D) := by
    unfold VR
    exact ⟨D, by rw [← hW4.len]; simp, rfl⟩
  have hLf : L ∉ fas env := fun hm => by obtain ⟨o, ho⟩ := hV1.fas_there L hm; rw [no1 h2L] at ho; cases ho
  show wpAny C.M A (assign (.Name y py) env (.ref D)) _ E s'
  refine wpAny_assign_Name (store_ok2 he hT0 hF ht (.inl ⟨hy, rfl⟩) w1 (hV1.step w2) hv fun s5 hW5 hV5 st5 => ?_)
  have hlL : env.locals ≠ L := fun e => hLf (e ▸ List.mem_cons_self)
  obtain ⟨oL, esL, epL, hoL, hdL, rL⟩ := id hns
  have hL5 : L ∉ ad' ++ [D] := fun hm => by
    rcases List.mem_append.mp hm with h | h
    · exact hL h
    · exact hDL (List.mem_singleton.mp h).symm
  have hoL5 := st5.keep L oL hoL hL5 (by simpa using Ne.symm hlL)
  refine ⟨m, ⟨oL, esL, epL, hoL5, hdL, rL⟩, fun h' hs' => ?_⟩
  have k6 : ∀ b o, b ≠ L → s5.heap.get? b = some o → h'.get? b = some o := fun b o hb e => SameBut.own hs' e hb
  obtain ⟨q6, hW6⟩ := W.ownStep (s' := { s5 with heap := h' }) hW5 k6 (fun o e => by rw [hoL5] at e; cases e; exact not_imm_dict hdL) (noB h2L) hL5 rfl rfl
  have st15 : Stp (fas env) ad1 s1 (ad' ++ [D]) s5 := w2.up.trans (st5.mono fun b hb => by rw [List.mem_singleton.mp hb]; exact List.mem_cons_self)
  exact ⟨.next, _, _, _, hq3, rfl, hW6, hV5.stepQ q6 fun b hb o e => k6 b o (fun q => hLf (q ▸ hb)) e, st1.up.trans (st15.late (no1 h2L) k6)⟩
end
noncomputable def run {α : Type} (lt : Nat → Nat → Bool) : KasT α → α
  | .ret a => a
  | .ask i j k => run lt (k (lt i j))

noncomputable def reach (cs : List (Nat × Nat)) : Nat → Nat → Nat → Bool
  | 0, _, _ => false
  | f + 1, a, b => cs.any fun e => e.1 == a && (e.2 == b || reach cs f e.2 b)

noncomputable def adj (cs : List (Nat × Nat)) (n : Nat) : List Nat → Bool
  | a :: b :: r => reach cs n a b && adj cs n (b :: r)
  | _ => true

noncomputable def check (n : Nat) : KasT (Array Nat) → List (Nat × Nat) → Bool
  | .ret p, cs => p.toList.isPerm (List.range n) && adj cs n p.toList
  | .ask i j k, cs => decide (i < n) && decide (j < n) && i != j && (reach cs n j i || check n (k true) ((i, j) :: cs)) && (reach cs n i j || check n (k false) ((j, i) :: cs))

theorem check2 : check 2 (kas_sort 2) [] = true := by decide +kernel
theorem check3 : check 3 (kas_sort 3) [] = true := by decide +kernel
theorem check4 : check 4 (kas_sort 4) [] = true := by decide +kernel
theorem check5 : check 5 (kas_sort 5) [] = true := by decide +kernel

/-- an order without ties on the first n -/
structure Ord' (n : Nat) (lt : Nat → Nat → Bool) : Prop where
  trans : ∀ a b c, lt a b = true → lt b c = true → lt a c = true
  irr : ∀ a, lt a a = false
  tot : ∀ a b, a < n → b < n → a ≠ b → lt a b = false → lt b a = true

theorem reach_ok {n lt cs} (o : Ord' n lt) (hcs : ∀ e ∈ cs, lt e.1 e.2 = true) : ∀ f a b, reach cs f a b = true → lt a b = true
  | 0, _, _, h => by cases h
  | f + 1, a, b, h => by
    unfold reach at h
    obtain ⟨e, he, h⟩ := List.any_eq_true.mp h
    simp only [Bool.and_eq_true, beq_iff_eq, Bool.or_eq_true] at h
    obtain ⟨rfl, h | h⟩ := h
    · rw [← h]; exact hcs e he
    · exact o.trans _ _ _ (hcs e he) (reach_ok o hcs f _ _ h)

theorem adj_ok {n lt cs} (o : Ord' n lt) (hcs : ∀ e ∈ cs, lt e.1 e.2 = true) : ∀ l, adj cs n l = true → l.Pairwise (fun a b => lt a b = true)
  | [], _ => .nil
  | [_], _ => List.pairwise_singleton ..
  | a :: b :: r, h => by
    unfold adj at h
    simp only [Bool.and_eq_true] at h
    have ih := adj_ok o hcs (b :: r) h.2
    have hab := reach_ok o hcs _ _ _ h.1
    refine List.pairwise_cons.mpr ⟨fun c hc => ?_, ih⟩
    rcases List.mem_cons.mp hc with rfl | hc
    · exact hab
    · exact o.trans _ _ _ hab ((List.pairwise_cons.mp ih).1 c hc)

theorem check_ok {n lt} (o : Ord' n lt) : ∀ (t : KasT (Array Nat)) (cs : List (Nat × Nat)), (∀ e ∈ cs, lt e.1 e.2 = true) → check n t cs = true →
    (run lt t).toList.Perm (List.range n) ∧ (run lt t).toList.Pairwise (fun a b => lt a b = true)
  | .ret p, cs, hcs, h => by
    unfold check at h
    simp only [Bool.and_eq_true] at h
    exact ⟨List.isPerm_iff.mp h.1, adj_ok o hcs _ h.2⟩
  | .ask i j k, cs, hcs, h => by
    unfold check at h
    simp only [Bool.and_eq_true, decide_eq_true_eq, bne_iff_ne, ne_eq] at h
    obtain ⟨⟨⟨⟨h1, h2⟩, h3⟩, h4⟩, h5⟩ := h
    unfold run
    cases q : lt i j with
    | true =>
      refine check_ok o (k true) ((i, j) :: cs) (fun e he => ?_) ?_
      · rcases List.mem_cons.mp he with rfl | he
        · exact q
        · exact hcs e he
      · rcases Bool.or_eq_true _ _ |>.mp h4 with h | h
        · have := o.trans _ _ _ q (reach_ok o hcs _ _ _ h)
          rw [o.irr] at this; cases this
        · exact h
    | false =>
      refine check_ok o (k false) ((j, i) :: cs) (fun e he => ?_) ?_
      · rcases List.mem_cons.mp he with rfl | he
        · exact o.tot i j h1 h2 h3 q
        · exact hcs e he
      · rcases Bool.or_eq_true _ _ |>.mp h5 with h | h
        · have := reach_ok o hcs _ _ _ h
          rw [q] at this; cases this
        · exact h

/-- comparisons answered by lt -/
theorem check_wp {lt : Nat → Nat → Bool} {cmp : Nat → Nat → (Bool → Shared → Prop) → Shared → Prop} {G : Array Nat → Shared → Prop} {s : Shared} {n : Nat} (o : Ord' n lt) (hc : ∀ i j R, i < n → j < n → R (lt i j) s → cmp i j R s) :
    ∀ (t : KasT (Array Nat)) (cs : List (Nat × Nat)), (∀ e ∈ cs, lt e.1 e.2 = true) → check n t cs = true → G (run lt t) s → t.kasWp cmp G s
  | .ret a, _, _, _, h => h
  | .ask i j k, cs, hcs, h, hG => by
    unfold check at h
    simp only [Bool.and_eq_true, decide_eq_true_eq, bne_iff_ne, ne_eq] at h
    obtain ⟨⟨⟨⟨h1, h2⟩, h3⟩, h4⟩, h5⟩ := h
    refine hc i j _ h1 h2 ?_
    unfold run at hG
    cases q : lt i j with
    | true =>
      rw [q] at hG
      refine check_wp o hc (k true) ((i, j) :: cs) (fun e he => ?_) ?_ hG
      · rcases List.mem_cons.mp he with rfl | he
        · exact q
        · exact hcs e he
      · rcases Bool.or_eq_true _ _ |>.mp h4 with h | h
        · have := o.trans _ _ _ q (reach_ok o hcs _ _ _ h)
          rw [o.irr] at this; cases this
        · exact h
    | false =>
      rw [q] at hG
      refine check_wp o hc (k false) ((j, i) :: cs) (fun e he => ?_) ?_ hG
      · rcases List.mem_cons.mp he with rfl | he
        · exact o.tot i j h1 h2 h3 q
        · exact hcs e he
      · rcases Bool.or_eq_true _ _ |>.mp h5 with h | h
        · have := reach_ok o hcs _ _ _ h
          rw [q] at this; cases this
        · exact h

theorem check_n {n : Nat} (h2 : 2 ≤ n) (h5 : n ≤ 5) : check n (kas_sort n) [] = true := by
  have : n = 2 ∨ n = 3 ∨ n = 4 ∨ n = 5 := by lia
  rcases this with rfl | rfl | rfl | rfl
  · exact check2
  · exact check3
  · exact check4
  · exact check5
noncomputable def lexlt (a b : Int × Int) : Bool := if a.1 == b.1 then (if a.2 == b.2 then false else decide (a.2 < b.2)) else decide (a.1 < b.1)

theorem lexlt_ord {ps : List (Int × Int)} (hn : ps.Nodup) : Ord' ps.length (fun i j => lexlt (ps.getD i (0, 0)) (ps.getD j (0, 0))) where
  trans a b c := by
    generalize ps.getD a (0, 0) = x
    generalize ps.getD b (0, 0) = y
    generalize ps.getD c (0, 0) = z
    unfold lexlt
    simp only [beq_iff_eq]
    split <;> split <;> split <;> (try split) <;> (try split) <;> simp_all <;> lia
  irr a := by unfold lexlt; simp
  tot a b ha hb hab := by
    have hne : ps.getD a (0, 0) ≠ ps.getD b (0, 0) := by
      rw [List.getD_eq_getElem?_getD, List.getD_eq_getElem?_getD, List.getElem?_eq_getElem ha, List.getElem?_eq_getElem hb]
      simp only [Option.getD_some]
      exact fun e => hab ((List.getElem_inj hn).mp e)
    revert hne
    generalize ps.getD a (0, 0) = x
    generalize ps.getD b (0, 0) = y
    intro hne
    have : ¬ (x.1 = y.1 ∧ x.2 = y.2) := fun h => hne (Prod.ext h.1 h.2)
    intro h
    unfold lexlt at h ⊢
    by_cases h1 : x.1 = y.1
    · have h2 : ¬ x.2 = y.2 := fun e => this ⟨h1, e⟩
      have h3 : ¬ y.2 = x.2 := fun e => h2 e.symm
      simp only [h1, beq_self_eq_true, if_true, beq_iff_eq, h2, h3, if_false, decide_eq_false_iff_not, decide_eq_true_eq] at h ⊢
      lia
    · have h3 : ¬ y.1 = x.1 := fun e => h1 e.symm
      simp only [beq_iff_eq, h1, h3, if_false, decide_eq_false_iff_not, decide_eq_true_eq] at h ⊢
      lia

section
variable {C : Cx} {A : Around} {E : Value → Shared → Prop} {s : Shared}

theorem tup_lt {a b : Addr} {f1 f2 r1 r2 : Int} {t1 t2 u1 u2 : Tok} {n1 n2 : Nat} {Q : Bool → Shared → Prop} (ha : IsT s.heap a #[.int f1 t1, .int r1 u1] n1) (hb : IsT s.heap b #[.int f2 t2, .int r2 u2] n2)
    (h : Q (lexlt (f1, r1) (f2, r2)) s) : wpAny C.M A (keyLt' (tuples' true) (.ref a) (.ref b)) Q (fun _ _ => False) s := by
  refine kat_lt ha rfl hb rfl ?_
  show KatLex C.prog C.w A true _ Q [(Value.int f1 t1, Value.int f2 t2), (Value.int r1 u1, Value.int r2 u2)] 0 s
  refine kat_cons (wpAny_eqBool_int ?_)
  unfold lexlt at h
  cases e : f1 == f2 with
  | true =>
    simp only [e, if_true] at h
    refine kat_yes (kat_cons (wpAny_eqBool_int ?_))
    cases e' : r1 == r2 with
    | true =>
      simp only [e', if_true] at h
      exact kat_yes (kat_nil h)
    | false =>
      simp only [e', Bool.false_eq_true, if_false] at h
      refine kat_no (kat_one _ _ (lt_int ?_))
      exact h
  | false =>
    simp only [e, Bool.false_eq_true, if_false] at h
    exact kat_no (oneLt_int h)

/-- the tuples of a list of pairs -/
noncomputable def Pr (h : Heap) : List (Int × Int) → List Value → Prop
  | [], vs => vs = []
  | p :: ps, vs => ∃ a t u n r, vs = .ref a :: r ∧ IsT h a #[.int p.1 t, .int p.2 u] n ∧ Pr h ps r

theorem Pr.length {h} : ∀ {ps vs}, Pr h ps vs → vs.length = ps.length
  | [], _, x => by unfold Pr at x; subst x; rfl
  | _ :: _, _, x => by obtain ⟨a, t, u, n, r, rfl, _, x⟩ := x; simp [x.length]
theorem Pr.at {h} : ∀ {ps vs} {i : Nat}, Pr h ps vs → i < ps.length → ∃ a t u n, vs.getD i .none = .ref a ∧ IsT h a #[.int (ps.getD i (0, 0)).1 t, .int (ps.getD i (0, 0)).2 u] n
  | [], _, i, _, hi => absurd hi (Nat.not_lt_zero _)
  | p :: ps, _, 0, x, _ => by obtain ⟨a, t, u, n, r, rfl, x1, _⟩ := x; exact ⟨a, t, u, n, rfl, x1⟩
  | p :: ps, _, i + 1, x, hi => by
    obtain ⟨a, t, u, n, r, rfl, _, x⟩ := x
    simpa using x.at (i := i) (by simpa using hi)
theorem Pr.keep {h h'} (hk : ∀ a o, h.get? a = some o → o.cls = .type "tuple" → h'.get? a = some o) : ∀ {ps vs}, Pr h ps vs → Pr h' ps vs
  | [], _, x => x
  | _ :: _, _, x => by obtain ⟨a, t, u, n, r, e, x1, x⟩ := x; exact ⟨a, t, u, n, r, e, hk _ _ x1 rfl, x.keep hk⟩
theorem Pr.tups {h} : ∀ {ps vs}, Pr h ps vs → ∃ fs, KatTups h vs fs ∧ fs.length = vs.length ∧ ∀ v ∈ fs, ∃ i t, v = .int i t
  | [], _, x => by unfold Pr at x; subst x; exact ⟨[], trivial, rfl, (fun _ h => nomatch h)⟩
  | p :: ps, _, x => by
    obtain ⟨a, t, u, n, r, rfl, x1, x⟩ := x
    obtain ⟨fs, y1, y2, y3⟩ := x.tups
    refine ⟨.int p.1 t :: fs, KatTups.cons x1 rfl rfl rfl y1, by simp [y2], fun v hv => ?_⟩
    rcases List.mem_cons.mp hv with rfl | hv
    · exact ⟨_, _, rfl⟩
    · exact y3 v hv

theorem list_sort_pairs {a : Addr} {vs : List Value} {ps : List (Int × Int)} {n : Nat} {P : PySem.Fin → Shared → Prop} (ho : s.heap.get? a = some (seqObj "list" vs.toArray n)) (hp : Pr s.heap ps vs) (hn : ps.Nodup) (h5 : ps.length ≤ 5)
    (h : ∀ (q : List Nat), q.Perm (List.range ps.length) → q.Pairwise (fun i j => lexlt (ps.getD i (0, 0)) (ps.getD j (0, 0)) = true) →
      P (.done (.ret .none)) { s with heap := sortedHeap s.heap a vs (q.map fun i => vs.getD i Value.none).toArray }) :
    wpAny C.M A (Builtin.«list.sort» ⟨[.ref a], []⟩) P E s := by
  rw [list_sort_plain]
  have ha : a < s.heap.objs.size := Heap.lt_size ho
  have hl := hp.length
  refine wpAny_bind (listItems_at ho rfl ?_)
  refine wpAny_bind (listUpdate_at ho rfl ?_ (by rw [List.size_toArray]; exact line4 (by lia)) (Nat.zero_le _))
  obtain ⟨e1, ho1⟩ : ∃ e1, (s.heap.update a (Obj.mapSeq fun _ => #[])).get? a = some (seqObj "list" #[] e1) := ⟨_, get?_update_seq ho (fun _ => #[])⟩
  refine wpAny_bind (seqEpoch_at ho1 rfl ?_)
  refine wpAny_bind (wpAny_newTuple ?_ (by show vs.length ≤ _; exact line4 (by lia)))
  refine wpAny_bind (wpAny_newList ?_ (Nat.zero_le _))
  refine wpAny_holding ?_
  have keep : ∀ b o, s.heap.get? b = some o → b ≠ a → (((s.heap.update a (Obj.mapSeq fun _ => #[])).push (seqObj "tuple" vs.toArray 0)).push (seqObj "list" #[] 0)).get? b = some o := fun b o e hb => by
    refine Heap.get?_push_of_some _ (Heap.get?_push_of_some _ ?_)
    rw [Heap.get?_update_ne _ _ _ _ hb]; exact e
  have ho6 : (((s.heap.update a (Obj.mapSeq fun _ => #[])).push (seqObj "tuple" vs.toArray 0)).push (seqObj "list" #[] 0)).get? a = some (seqObj "list" #[] e1) :=
    Heap.get?_push_of_some _ (Heap.get?_push_of_some _ ho1)
  show wpAny C.M A _ P E { s with heap := ((s.heap.update a (Obj.mapSeq fun _ => #[])).push (seqObj "tuple" vs.toArray 0)).push (seqObj "list" #[] 0) }
  dsimp only
  have hsz : vs.toArray.size = vs.length := by simp
  by_cases h2 : vs.toArray.size < 2
  · rw [if_pos h2, if_pos h2]
    refine wpAny_bind (wpAny_pure ?_)
    rw [StateT.run_pure]
    refine wpAny_bind (wpAny_pure ?_)
    dsimp only
    have hout : (arrOf (SortSt.mk' general' (vs.toArray.zip vs.toArray) #[] 7 none)).map (·.2) = ((List.range ps.length).map fun i => vs.getD i Value.none).toArray := by
      rw [← hl]
      show (vs.toArray.zip vs.toArray).map (·.2) = _
      rw [hsz] at h2
      match vs, h2 with
      | [], _ => simp
      | [v], _ => simp
      | _ :: _ :: _, h2 => simp at h2; lia
    rw [hout]
    refine wpAny_bind (seqEpoch_at ho6 rfl ?_)
    refine wpAny_bind (listUpdate_at ho6 rfl ?_ (Nat.zero_le _) (by simp only [List.size_toArray, List.length_map, List.length_range]; exact Nat.le_trans (by lia) (show 2 ≤ sizeLine + 1 by decide)))
    simp only [bne_self_eq_false, Bool.false_eq_true, if_false]
    refine wpAny_pure (h (List.range ps.length) (List.Perm.refl _) ?_)
    have : ps.length < 2 := by lia
    match ps, this with
    | [], _ => exact .nil
    | [p], _ => exact List.pairwise_singleton ..
    | _ :: _ :: _, h2 => simp at h2; lia
  · rw [if_neg h2, if_neg h2]
    have hp6 : Pr (((s.heap.update a (Obj.mapSeq fun _ => #[])).push (seqObj "tuple" vs.toArray 0)).push (seqObj "list" #[] 0)) ps vs :=
      hp.keep fun b o e hc => keep b o e fun q => by rw [q, ho] at e; cases e; exact absurd hc (by simp)
    obtain ⟨fs, k1, k2, k3⟩ := hp6.tups
    refine wpAny_bind (kat_kind (T := .type "int") k1 (by lia) (fun v hv => by obtain ⟨i, t, rfl⟩ := k3 v hv; exact Looks.of_pure rfl) rfl ?_)
    have hk : (kas_sort vs.length).kasWp (kas_ask C.prog C.w A (tuples' true) vs) (fun p s' => s' = { s with heap := ((s.heap.update a (Obj.mapSeq fun _ => #[])).push (seqObj "tuple" vs.toArray 0)).push (seqObj "list" #[] 0) } ∧ p = Mine.run (fun i j => lexlt (ps.getD i (0, 0)) (ps.getD j (0, 0))) (kas_sort vs.length))
        { s with heap := ((s.heap.update a (Obj.mapSeq fun _ => #[])).push (seqObj "tuple" vs.toArray 0)).push (seqObj "list" #[] 0) } := by
      refine check_wp (n := ps.length) (lexlt_ord hn) (fun i j R hi hj hR => ?_) _ [] (fun _ h => nomatch h) (by rw [hl]; exact check_n (by lia) h5) ⟨rfl, rfl⟩
      obtain ⟨x, t1, u1, n1, e1, x1⟩ := hp6.at hi
      obtain ⟨y, t2, u2, n2, e2, y1⟩ := hp6.at hj
      unfold kas_ask
      rw [e1, e2]
      exact tup_lt x1 y1 hR
    have okp := check_ok (lexlt_ord hn) (kas_sort vs.length) [] (fun _ h => nomatch h) (by rw [hl]; exact check_n (by lia) h5)
    refine wpAny_bind (wpAny_mono (kat_run (Q := fun st' s' => ∃ p : Array Nat, s' = { s with heap := ((s.heap.update a (Obj.mapSeq fun _ => #[])).push (seqObj "tuple" vs.toArray 0)).push (seqObj "list" #[] 0) } ∧ p.size = vs.length ∧ arrOf st' = p.map (kas_item (vs.toArray.zip vs.toArray)) ∧ failedOf st' = none ∧
        p = Mine.run (fun i j => lexlt (ps.getD i (0, 0)) (ps.getD j (0, 0))) (kas_sort vs.length)) rfl (by lia) (by lia) (fun p' st' s' a1 a2 a3 a4 => ⟨p', a4.1, a1, a2, a3, a4.2⟩) hk) ?_ fun _ _ e => e)
    rintro ⟨⟨⟩, st'⟩ s' ⟨p, rfl, hps, har, hf, hpr⟩
    dsimp only
    have hout := kat_snds (ks := vs) (vs := vs) rfl har
    rw [hout]
    refine wpAny_bind (seqEpoch_at ho6 rfl ?_)
    refine wpAny_bind (listUpdate_at ho6 rfl ?_ (Nat.zero_le _) (by simp only [List.size_toArray, List.length_map, Array.length_toList, hps]; exact Nat.le_trans (show _ ≤ 5 by lia) (show 5 ≤ sizeLine + 1 by decide)))
    rw [hf]
    simp only [bne_self_eq_false, Bool.false_eq_true, if_false]
    rw [← hpr] at okp
    exact wpAny_pure (h p.toList okp.1 okp.2)
end
section
variable {C : Cx} {A : Around} {E : Value → Shared → Prop} {s : Shared}

theorem call_sorted {v : Value} {Q : Value → Shared → Prop}
    (h : wpAny C.M A.in1 (collect v) (fun vs s1 => vs.length ≤ 4096 ∧ wpAny C.M A.in1 (call (.builtin "list.sort") [.ref s1.heap.objs.size]) (fun _ s' => Q (.ref s1.heap.objs.size) s') E
      { s1 with heap := s1.heap.push { cls := .type "list", data := .seq vs.toArray } }) E s) : wpAny C.M A (call (.builtin "sorted") [v]) Q E s := by
  refine Calls.call_function_entry kind_sorted plain_sorted entry_sorted (args_sorted1 _) ?_
  unfold Builtin.«sorted»
  refine wpAny_bind (m := checkCount "sorted" 1 1 _) (wpAny_pure ?_)
  refine wpAny_bind (wpAny_mono h (fun vs s1 x => ?_) fun _ _ e => e)
  refine wpAny_bind (wpAny_newList ?_ (line4 x.1))
  refine wpAny_bind (wpAny_holding (wpAny_mono x.2 (fun _ s' x => ?_) fun _ _ e => e))
  exact wpAny_pure ⟨_, rfl, x⟩

theorem post_sorted {ad mh} {h1 : Heap} {tk : Nat} {Q : MV → MH → Prop} {vs : List Value} {out : List Value} {ys : List MV} (hW : W C ad mh s) (hk : ∀ b o, s.heap.get? b = some o → h1.get? b = some o)
    (hv : VRs ad C.scr h1 ys out) (hz : ys.length ≤ 4096) (hq : Q (.ref mh.length) (mh ++ [.list ys])) :
    Post C ad s Q (.ref h1.objs.size) { s with heap := sortedHeap (h1.push { cls := .type "list", data := .seq vs.toArray }) h1.objs.size vs out.toArray, toks := tk } := by
  have old : ∀ b o, h1.get? b = some o → (sortedHeap (h1.push { cls := .type "list", data := .seq vs.toArray }) h1.objs.size vs out.toArray).get? b = some o := fun b o e => by
    have hlt := Heap.lt_size e
    rw [sortedHeap_old (Nat.ne_of_lt hlt) (by rw [Heap.size_push]; exact Nat.lt_succ_of_lt hlt)]
    exact Heap.get?_push_of_some _ e
  obtain ⟨c, hc⟩ := sortedHeap_at (h := h1.push { cls := .type "list", data := .seq vs.toArray }) (a := h1.objs.size) (vs := vs) (n := 0) (out := out.toArray) (Heap.get?_push_size _ rfl)
  refine Post.alloc (mo := .list ys) hW ?_ (fun b o e => old b o (hk b o e)) (fun st => ⟨out, c, hc, ?_, hz⟩) rfl rfl hq
  · cases e : s.heap.get? h1.objs.size with
    | none => rfl
    | some o => exact absurd (Heap.lt_size (hk _ _ e)) (Nat.lt_irrefl _)
  · refine hv.monoQ ⟨fun b o e _ _ => old b o e, ⟨[h1.objs.size], rfl⟩, fun a ha => ?_⟩
    rcases List.mem_append.mp ha with h | h
    · exact .inl h
    · refine .inr fun o e => ?_
      rw [List.mem_singleton.mp h] at e
      exact absurd (Heap.lt_size e) (Nat.lt_irrefl _)

noncomputable def pairM (p : Int × Int) : MV := .tup [.int p.1, .int p.2]

noncomputable def sortedM (args : List MV) (mh : MH) (Q : MV → MH → Prop) : Prop :=
  match args with
  | [.ref i] => (∃ ns : List Int, (mh[i]? = some (.list (ns.map .int)) ∨ ∃ es : List (Int × MV), mh[i]? = some (.dict es) ∧ ns = es.map (·.1)) ∧ ns.length < 64 ∧ ∀ ns' : List Int, ns'.Perm ns → ns'.Pairwise (· ≤ ·) → Q (.ref mh.length) (mh ++ [.list (ns'.map .int)])) ∨
    (∃ ps : List (Int × Int), mh[i]? = some (.list (ps.map pairM)) ∧ ps.length ≤ 5 ∧ ps.Nodup ∧ ∀ ps' : List (Int × Int), ps'.Perm ps → ps'.Pairwise (fun a b => lexlt a b = true) → Q (.ref mh.length) (mh ++ [.list (ps'.map pairM)]))
  | _ => False

theorem ints_are {A scr h} : ∀ {ns : List Int} {vs}, VRs A scr h (ns.map .int) vs → IntsAre vs ns
  | [], _, x => by simp only [List.map_nil] at x; unfold VRs at x; subst x; exact .nil
  | n :: ns, _, x => by
    obtain ⟨v, r, rfl, hv, hr⟩ := x.uncons
    obtain ⟨t, rfl⟩ := hv.isInt
    exact .cons _ _ (ints_are hr)
theorem ints_vr {A scr h} : ∀ {ns : List Int} {vs}, IntsAre vs ns → VRs A scr h (ns.map .int) vs
  | _, _, .nil => .nil
  | _, _, .cons _ _ x => .cons VR.int' (ints_vr x)

theorem pairs_pr {A scr h} : ∀ {ps : List (Int × Int)} {vs}, VRs A scr h (ps.map pairM) vs → Pr h ps vs
  | [], _, x => by simp only [List.map_nil] at x; unfold VRs at x; subst x; rfl
  | p :: ps, _, x => by
    obtain ⟨v, r, rfl, hv, hr⟩ := x.uncons
    obtain ⟨a, us, n, rfl, hA, ht, hu⟩ := hv.isTup
    obtain ⟨f, r1, rfl, hf, hr1⟩ := hu.uncons
    obtain ⟨g, r2, rfl, hg, hr2⟩ := hr1.uncons
    have : r2 = [] := by unfold VRs at hr2; exact hr2
    subst this
    obtain ⟨t, rfl⟩ := hf.isInt
    obtain ⟨u, rfl⟩ := hg.isInt
    exact ⟨a, t, u, n, r, rfl, ht, pairs_pr hr⟩

theorem VRs.picks {A scr h} {ms : List MV} {vs : List Value} (x : VRs A scr h ms vs) : ∀ {q : List Nat}, (∀ i ∈ q, i < ms.length) → VRs A scr h (q.map fun i => ms.getD i .none) (q.map fun i => vs.getD i .none)
  | [], _ => .nil
  | i :: q, hq => by
    have hi := hq i List.mem_cons_self
    obtain ⟨v, hv, hr⟩ := x.get (List.getElem?_eq_getElem hi)
    refine .cons ?_ (x.picks fun j hj => hq j (List.mem_cons_of_mem _ hj))
    show VR A scr h (ms.getD i .none) (vs.getD i .none)
    rw [List.getD_eq_getElem?_getD, List.getD_eq_getElem?_getD, hv, List.getElem?_eq_getElem hi]
    exact hr

theorem sorted_ok {args mh vs ad k} {Q : MV → MH → Prop} (hR : Room A k) (hW : W C ad mh s) (hv : VRs ad C.scr s.heap args vs) (hP : sortedM args mh Q) : wpAny C.M A (call (.builtin "sorted") vs) (Post C ad s Q) E s := by
  unfold sortedM at hP
  split at hP
  · rename_i i
    obtain ⟨v, r, rfl, h1, h2⟩ := hv.uncons
    have : r = [] := by unfold VRs at h2; exact h2
    subst this
    obtain ⟨a, ha, rfl⟩ := h1.isRef
    rcases hP with ⟨ns, hm, hn, hq⟩ | ⟨ps, hm, h5, hnd, hq⟩
    · refine call_sorted ?_
      have fin : ∀ (h1 : Heap) (tk : Nat) (us : List Value), (∀ b o, s.heap.get? b = some o → h1.get? b = some o) → IntsAre us ns → us.length = ns.length →
          us.length ≤ 4096 ∧ wpAny C.M A.in1 (call (.builtin "list.sort") [.ref h1.objs.size]) (fun _ s' => Post C ad s Q (.ref h1.objs.size) s') E
            { s with heap := h1.push { cls := .type "list", data := .seq us.toArray }, toks := tk } := fun h1 tk us hk hI hl => by
        refine ⟨by lia, wpAny_call_entry slot_list_sort ⟨_, Heap.get?_push_size _ rfl, rfl⟩ entry_list_sort (list_sort_tree (vs := us) (n := 0) (Heap.get?_push_size _ rfl) hI (by lia) fun out ns' a1 a2 a3 => ⟨_, rfl, ?_⟩) (args_list_sort _)⟩
        have := post_sorted (C := C) (s := s) (tk := tk) (vs := us) (out := out.toList) (ys := ns'.map .int) (h1 := h1) hW hk (ints_vr a1) (by have := a2.length_eq; simp; lia) (hq ns' a2 a3)
        simpa using this
      rcases hm with hm | ⟨es, hm, rfl⟩
      · obtain ⟨us, n, l1, l2, l3⟩ := hW.list ha hm
        have e := l2.length
        rw [List.length_map] at e
        exact collect_list (IsL.isL l1) (fin _ s.toks us (fun b o eb => by
          have hlt := Heap.lt_size eb
          rw [Heap.get?_update_ne _ _ _ _ (Nat.ne_of_lt hlt)]
          exact Heap.get?_push_of_some _ eb) (ints_are l2) e) (line4 (by lia))
      · obtain ⟨ka, d1, d2, d3, d4, d5⟩ := hW.dict ha hm
        obtain ⟨ep, hat⟩ := d1.dictAt
        have el : ka.length = es.length := by have := congrArg List.length d2; simpa using this
        refine kdu_collect (kdl_dict (knd := intKind C.prog C.w) (kvs := ka) (ep := ep) d5) (show A.in1.handled = none from hR.handled) hat (line4 (by lia)) fun h' tk acc hk hit => ?_
        have hV : VRs ad C.scr h' (es.map fun e => .int e.1) acc.toList := key_items (p := C.prog) (w := C.w) d2 (by rw [Array.length_toList]; exact hit.1) fun j v hj => hit.2 j v (by simpa using hj)
        have e2 : (es.map fun e => (MV.int e.1)) = (es.map (·.1)).map .int := by simp
        rw [e2] at hV
        have := hV.length
        exact fin h' tk acc.toList hk (ints_are hV) (by simpa using this)
    · refine call_sorted ?_
      obtain ⟨us, n, l1, l2, l3⟩ := hW.list ha hm
      have e := l2.length
      rw [List.length_map] at e l3
      refine collect_list (IsL.isL l1) ?_ (line4 (by lia))
      have hk : ∀ b o, s.heap.get? b = some o → ((s.heap.push (seqObj "list" #[] 0)).update s.heap.objs.size (Obj.mapSeq (· ++ us.toArray))).get? b = some o := fun b o eb => by
        have hlt := Heap.lt_size eb
        rw [Heap.get?_update_ne _ _ _ _ (Nat.ne_of_lt hlt)]
        exact Heap.get?_push_of_some _ eb
      refine ⟨by lia, ?_⟩
      have hp := (pairs_pr l2).keep (h' := ((s.heap.push (seqObj "list" #[] 0)).update s.heap.objs.size (Obj.mapSeq (· ++ us.toArray))).push { cls := .type "list", data := .seq us.toArray }) fun b o eb _ => Heap.get?_push_of_some _ (hk b o eb)
      refine wpAny_call_entry slot_list_sort ⟨_, Heap.get?_push_size _ rfl, rfl⟩ entry_list_sort (list_sort_pairs (vs := us) (n := 0) (Heap.get?_push_size _ rfl) hp hnd h5 fun q a1 a2 => ⟨_, rfl, ?_⟩) (args_list_sort _)
      have hqn : ∀ i ∈ q, i < ps.length := fun i hi => List.mem_range.mp (a1.mem_iff.mp hi)
      have hm2 : (q.map fun i => ps.getD i (0, 0)).map pairM = q.map fun i => (ps.map pairM).getD i .none := by
        rw [List.map_map]
        refine List.map_congr_left fun i hi => ?_
        have := hqn i hi
        simp [List.getD_eq_getElem?_getD, this]
      have hperm : (q.map fun i => ps.getD i (0, 0)).Perm ps := by
        have := a1.map (fun i => ps.getD i (0, 0))
        refine this.trans (List.Perm.of_eq ?_)
        apply List.ext_getElem
        · simp
        · intro j h1 h2
          simp [List.getD_eq_getElem?_getD, List.getElem?_eq_getElem h2]
      refine post_sorted (C := C) (s := s) (tk := s.toks) (vs := us) (ys := (q.map fun i => ps.getD i (0, 0)).map pairM) hW hk ?_ (by have := a1.length_eq; simp at this ⊢; lia) (hq _ hperm ?_)
      · rw [hm2]
        refine VRs.picks (l2.mono (Stp.grow (X := []) (s' := { s with heap := (s.heap.push (seqObj "list" #[] 0)).update s.heap.objs.size (Obj.mapSeq (· ++ us.toArray)) }) hk)) fun i hi => by simpa using hqn i hi
      · exact List.pairwise_map.mpr a2
  · exact hP.elim
end

section
variable {C : Cx} {k : Nat} {tab : List (Str × Nat)} {env : Env}

theorem SE_bcallG {f fpos pos e es id} {PL : LT} {M : List MV → MH → (MV → MH → Prop) → Prop}
    (hM : ∀ {A : Around} {E : Value → Shared → Prop} {s : Shared} {ad mh args vs} {Q : MV → MH → Prop}, Room A k → W C ad mh s → VRs ad C.scr s.heap args vs → M args mh Q → wpAny C.M A (call (.builtin id) vs) (Post C ad s Q) E s)
    (he : EOK env) (hk : env.kindOf f = some .globalImplicit) (hd : (f == ("__debug__" : Str)) = false) (hf : GName C f (.builtin id))
    (ha : SEL C k tab env (e :: es) PL) (hst : (e :: es).all notStar = true) :
    SE C k tab env (.Call (.Name f fpos) (e :: es) [] pos) (fun Q vars mh => PL (fun ms mh1 => M ms mh1 Q) vars mh) := by
  intro A E s ad mh vars Q hR hW hV hP
  refine wpAny_Call_Name_kw (glob_wp he hk hd hf hW ?_)
  show wpAny C.M A (callWith pos (.builtin id) [] (backTo pos (starEach (e :: es) env)) []) _ E s
  have hst1 : notStar e = true := by simp only [List.all_cons, Bool.and_eq_true] at hst; exact hst.1
  refine callWith_builtin (backTo_noStar hst) (args_wp ha hst1 hR hW hV hP fun vs s1 hl => ?_)
  obtain ⟨ms, mh1, ad1, hq, hv, hW1, st1⟩ := hl
  exact wpAny_mono (hM hR hW1 hv hq) (fun v s2 h => h.trans st1) fun _ _ e => e

@[reducible] noncomputable def tSorted (PL : LT) : MT := fun Q vars mh => PL (fun ms mh1 => sortedM ms mh1 Q) vars mh
theorem SE_sorted {f fpos pos e es} {PL : LT} (he : EOK env) (hk : env.kindOf f = some .globalImplicit) (hd : (f == ("__debug__" : Str)) = false) (hf : GName C f (.builtin "sorted"))
    (ha : SEL C k tab env (e :: es) PL) (hst : (e :: es).all notStar = true) :
    SE C k tab env (.Call (.Name f fpos) (e :: es) [] pos) (tSorted PL) :=
  SE_bcallG (fun hR hW hv hP => sorted_ok hR hW hv hP) he hk hd hf ha hst
end
theorem MapOf.keeps {K : Type} [DecidableEq K] {prog w} {knd : KeyKind prog w K} {h h' : Heap} {a : Addr} {f} (x : h.MapOf knd a f) (hk : ∀ b o, h.get? b = some o → h'.get? b = some o) : h'.MapOf knd a f :=
  let ⟨o, es, ep, ho, r⟩ := x; ⟨o, es, ep, hk a o ho, r⟩

/-- a global table of texts -/
noncomputable def GTab (C : Cx) (x : Str) (tb : Str → Option Str) : Prop :=
  ∃ a m, GName C x (.ref a) ∧ C.base.MapOf (strKind C.prog C.w) a m ∧ ∀ y r, tb y = some r → ∃ t, m y = some (.str r t)

/-- a global tuple of texts -/
noncomputable def GTup (C : Cx) (x : Str) (ts : List Str) : Prop :=
  ∃ a vs n, GName C x (.ref a) ∧ IsT C.base a vs.toArray n ∧ ∀ A h, VRs A C.scr h (ts.map .str) vs

/-- the script -/
noncomputable def ScOK (C : Cx) : Prop := ∃ vs, C.base.IsList C.scr vs.toArray ∧ IntsAre vs C.nums ∧ C.nums.length ≤ 63

section
variable {C : Cx} {k : Nat} {tab : List (Str × Nat)} {env : Env}

@[reducible] noncomputable def tTab (tb : Str → Option Str) (Pi : MT) : MT := fun Q vars mh => Pi (fun i m1 => ∃ y r, i = .str y ∧ tb y = some r ∧ Q (.str r) m1) vars mh
theorem SE_tab {x pos1 pos e tb} {Pi : MT} (he : EOK env) (hk : env.kindOf x = some .globalImplicit) (hd : (x == ("__debug__" : Str)) = false) (hg : GTab C x tb) (hi : SE C k tab env e Pi) (hs : notSlice e = true) :
    SE C k tab env (.Subscript (.Name x pos1) e pos) (tTab tb Pi) := by
  intro A E s ad mh vars Q hR hW hV hP
  obtain ⟨a, m, g1, g2, g3⟩ := hg
  refine Subscript_ (glob_wp he hk hd g1 hW ?_)
  refine wpAny_mono (hi A E s ad mh vars _ hR hW hV hP) (fun vb s2 h2 => ?_) fun _ _ e => e
  obtain ⟨mb, mh2, ad2, ⟨y, r, rfl, hr, hq2⟩, hvb, hW2, st2⟩ := h2
  obtain ⟨t, rfl⟩ := hvb.isStr
  obtain ⟨u, hu⟩ := g3 y r hr
  have hm := MapOf.keeps g2 hW2.keep
  exact tail_any hm.typeIs slot_dict_getitem.lookup (wpAny_getItem_of (knd := strKind C.prog C.w) (k := y) (strKind_is C.prog C.w y t) hm hu ⟨.str r, mh2, ad2, hq2, by unfold VR; exact ⟨_, rfl⟩, hW2.toks _, st2.trans (Stp.toks _)⟩) (subscripted_plain hs)

@[reducible] noncomputable def tGtup (ts : List Str) : MT := fun Q _ mh => Q (.tup (ts.map .str)) mh
theorem SE_gtup {x pos ts} (he : EOK env) (hk : env.kindOf x = some .globalImplicit) (hd : (x == ("__debug__" : Str)) = false) (hg : GTup C x ts) :
    SE C k tab env (.Name x pos) (tGtup ts) := by
  intro A E s ad mh vars Q hR hW hV hP
  obtain ⟨a, vs, n, g1, g2, g3⟩ := hg
  refine glob_wp he hk hd g1 hW (Post.now hP ?_ hW)
  unfold VR
  exact ⟨a, vs, n, rfl, hW.notBase g2, hW.keep _ _ g2, g3 _ _⟩

@[reducible] noncomputable def tScr (C : Cx) (n : Nat) (Pv : MT) : MT := fun Q vars mh => Pv (fun o mh1 => o = .script ∧ Q (.ref mh1.length) (mh1 ++ [.list ((C.nums.take n).map .int)])) vars mh
/-- script[:n] -/
theorem SE_scriptTo {value : Expr} {n : Nat} {u p1 p pos} {Pv : MT} (hsc : ScOK C) (hv : SE C k tab env value Pv) :
    SE C k tab env (.Subscript value (.Slice none (some (.Constant (.int (n : Int)) u p1)) none p) pos) (tScr C n Pv) := by
  intro A E s ad mh vars Q hR hW hV hP
  refine Subscript_ (wpAny_mono (hv A E s ad mh vars _ hR hW hV hP) (fun va s1 h1 => ?_) fun _ _ e => e)
  obtain ⟨ma, mh1, ad1, ⟨rfl, hq⟩, hva, hW1, st1⟩ := h1
  obtain ⟨vs, g1, g2, g3⟩ := hsc
  have : va = .ref C.scr := by unfold VR at hva; exact hva
  subst this
  refine wpAny_Slice (wpAny_evalPart_none (wpAny_evalPart_some (wpAny_Constant_int (wpAny_evalPart_none ?_))))
  have hgrow : ∀ b o, s1.heap.get? b = some o → (s1.heap.push { cls := .type "slice", data := .fields #[.none, .int (n : Int) s1.toks, .none] }).get? b = some o := fun _ _ e => Heap.get?_push_of_some _ e
  have hW3 : W C ad1 mh1 { s1 with heap := s1.heap.push { cls := .type "slice", data := .fields #[.none, .int (n : Int) s1.toks, .none] }, toks := s1.toks + 1 } := hW1.grow hgrow rfl rfl
  have hl : (s1.heap.push { cls := .type "slice", data := .fields #[.none, .int (n : Int) s1.toks, .none] }).IsList C.scr vs.toArray := g1.at fun o e => hW3.keep _ _ e
  have hlen : vs.length = C.nums.length := (ints_vr (A := []) (scr := 0) (h := s1.heap) g2).length.trans (by simp)
  refine tail_any (s := { s1 with heap := s1.heap.push { cls := .type "slice", data := .fields #[.none, .int (n : Int) s1.toks, .none] }, toks := s1.toks + 1 }) hl.typeIs slot_list_getitem.lookup
    (wpAny_getItem_list_slice (lo := none) (hi := some (n : Int)) (st := none) hl (Heap.IsSliceOf.new ..) .none (.int (n : Int) _) .none (by simp) ?_ (by simp only [List.size_toArray]; exact line4 (by lia))) subscripted_slice
  have hv2 : VRs ad1 C.scr (s1.heap.push { cls := .type "slice", data := .fields #[.none, .int (n : Int) s1.toks, .none] }) ((C.nums.take n).map .int) (vs.take n) := by
    rw [List.map_take]
    exact (ints_vr g2).take n
  refine Post.trans (st1.trans (Stp.grow (X := []) (s' := { s1 with heap := s1.heap.push { cls := .type "slice", data := .fields #[.none, .int (n : Int) s1.toks, .none] }, toks := s1.toks + 1 }) hgrow)) ?_
  exact Post.newList hW3 hv2 (by simp; lia) (by rw [slicePick_upto']) hq

@[reducible] noncomputable def tD2 (k1 k2 : Str) (P1 P2 : MT) : MT := fun Q vars mh => P1 (fun a m1 => P2 (fun b m2 => Q (.ref m2.length) (m2 ++ [.sdict [(k1, a), (k2, b)]])) vars m1) vars mh
/-- {'a': x, 'b': y} -/
theorem SE_dict2 {k1 k2 : Str} {u1 u2 p1 p2 pos} {v1 v2 : Expr} {P1 P2 : MT} (hsys : ∃ o, C.base.get? sysModules = some o) (h1 : SE C k tab env v1 P1) (h2 : SE C k tab env v2 P2) (hne : (k1 == k2) = false) :
    SE C k tab env (.Dict [some (.Constant (.str k1) u1 p1), some (.Constant (.str k2) u2 p2)] [v1, v2] pos) (tD2 k1 k2 P1 P2) := by
  intro A E s ad mh vars Q hR hW hV hP
  refine wpAny_Dict_pairs (knd := strKind C.prog C.w) (pairs := [(eval (.Constant (.str k1) u1 p1) env, (do let x ← eval v1 env; standAt pos; pure x)), (eval (.Constant (.str k2) u2 p2) env, (do let x ← eval v2 env; standAt pos; pure x))]) rfl (by simp) (by simp) ?_
  generalize hD : s.heap.objs.size = D
  have k0 : ∀ b o, s.heap.get? b = some o → (s.heap.push { cls := .type "dict", data := .dict #[] }).get? b = some o := fun b o e => Heap.get?_push_of_some _ e
  have hnD : s.heap.get? D = none := hD ▸ get_new
  have hDB : C.base.get? D = none := hD ▸ base_new hW
  have hDA : D ∉ ad := fun hm => by have := hW.lt hm; rw [hD] at this; exact Nat.lt_irrefl _ this
  have st0 : ∀ tk, Stp [] ad s ad { s with heap := s.heap.push { cls := .type "dict", data := .dict #[] }, toks := tk } := fun tk => Stp.grow k0
  have oD : ∀ tk, ({ s with heap := s.heap.push { cls := .type "dict", data := .dict #[] }, toks := tk } : Shared).heap.DictOf (strKind C.prog C.w) D [] := fun tk => hD ▸ Heap.DictOf.new _
  refine evalPairs_cons (wpAny_Constant_str (wpAny_bind ?_))
  refine wpAny_mono (h1 A E _ ad mh vars _ hR (hW.grow (s' := { s with heap := s.heap.push { cls := .type "dict", data := .dict #[] }, toks := s.toks + 1 }) k0 rfl rfl) (hV.step (st0 (s.toks + 1))) hP) (fun va s1 x1 => wpAny_bind (wpAny_standAt (wpAny_pure ?_))) fun _ _ e => e
  obtain ⟨ma, m1, ad1, hq1, hva, hW1, st1⟩ := x1
  have st01 := (st0 (s.toks + 1)).trans st1
  refine evalPairs_cons (wpAny_Constant_str (wpAny_bind ?_))
  refine wpAny_mono (h2 A E { s1 with toks := s1.toks + 1 } ad1 m1 vars _ hR (hW1.toks _) (hV.step (st01.trans (Stp.toks _))) hq1) (fun vb s2 x2 => wpAny_bind (wpAny_standAt (wpAny_pure ?_))) fun _ _ e => e
  obtain ⟨mb, m2, ad2, hq2, hvb, hW2, st2⟩ := x2
  have st02 : Stp [] ad s ad2 s2 := st01.trans ((Stp.toks (s1.toks + 1)).trans st2)
  refine evalPairs_nil ?_
  have kD : ∀ {A1 A2 : List Addr} {x y : Shared} (st : Stp [] A1 x A2 y), D ∉ A1 → x.heap.DictOf (strKind C.prog C.w) D [] → y.heap.DictOf (strKind C.prog C.w) D [] := fun st hA hd => by
    obtain ⟨o, es, ep, ho, r⟩ := hd
    exact ⟨o, es, ep, st.keep _ _ ho hA (fun h => nomatch h), r⟩
  have nD : ∀ {A1 A2 : List Addr} {x y : Shared} (st : Stp [] A1 x A2 y), D ∉ A1 → x.heap.DictOf (strKind C.prog C.w) D [] → D ∉ A2 := fun st hA hd hm => by
    obtain ⟨o, es, ep, ho, r⟩ := hd
    rcases st.new D hm with q | q
    · exact hA q
    · rw [ho] at q; cases q
  have d1 := kD st1 hDA (oD _)
  have n1 := nD st1 hDA (oD _)
  have d2 := kD ((Stp.toks (s1.toks + 1)).trans st2) n1 d1
  have n2 := nD ((Stp.toks (s1.toks + 1)).trans st2) n1 d1
  refine ⟨[(k1, va), (k2, vb)], ⟨strKind_is _ _ _ _, rfl, strKind_is _ _ _ _, rfl, trivial⟩, d2, fun h' hd hs => ?_⟩
  have em : merged ([] : List (Str × Value)) [(k1, va), (k2, vb)] = [(k1, va), (k2, vb)] := by
    have : ¬ k1 = k2 := by simpa using hne
    simp [merged, stored, this]
  rw [em] at hd
  have k6 : ∀ b o, b ≠ D → s2.heap.get? b = some o → h'.get? b = some o := fun b o hb e => SameBut.own hs e hb
  obtain ⟨oo, es, ep, ho, hc, hdd, rest⟩ := id d2
  have hI : ∀ o, s2.heap.get? D = some o → ¬ Imm o := fun o e => by rw [ho] at e; cases e; exact not_imm_dict hdd
  obtain ⟨q6, hW6⟩ := W.ownStep (s' := { s2 with heap := h', toks := s2.toks + 2 }) hW2 k6 hI hDB n2 rfl rfl
  obtain ⟨oo', es', ep', ho', hc', hdd', rest'⟩ := id hd
  have hI' : ∀ o, h'.get? D = some o → ¬ Imm o := fun o e => by rw [ho'] at e; cases e; exact not_imm_dict hdd'
  have hsy : (D == sysModules) = false := hD ▸ not_sys hW hsys
  have hva2 : VR (ad2 ++ [D]) C.scr h' ma va := ((hva.mono ((Stp.toks (X := []) (s1.toks + 1)).trans st2)).monoQ q6).monoQ (Stq.adopt hI')
  have hvb2 : VR (ad2 ++ [D]) C.scr h' mb vb := (hvb.monoQ q6).monoQ (Stq.adopt hI')
  have w1 := hW6.adopt (mo := .sdict [(k1, ma), (k2, mb)]) n2 hDB hI' ⟨[(k1, va), (k2, vb)], hd, rfl, .cons hva2 (.cons hvb2 .nil), by simp, hsy⟩
  refine ⟨.ref m2.length, _, _, hq2, ?_, w1, (st02.late (s'' := { s2 with heap := h', toks := s2.toks + 2 }) hnD k6).adopt hnD⟩
  unfold VR
  exact ⟨D, by rw [← hW2.len]; simp, rfl⟩

theorem swap_start {t value : Expr} {pos : Pos} {names : List Str} {A : Around} {E : Value → Shared → Prop} {s : Shared} {ad mh vars} {P : MT} {Q : Flow → Shared → Prop} (hs : swapsWithSole [t] value pos.line env = pure false) (hw : swappedStores [t] value env = pure (some names))
    (h : SE C k tab env value P) (hR : Room A k) (hW : W C ad mh s) (hV : VOK C tab env ad s.heap vars) (R : List MV → MH → Prop) (hP : P (fun v m => ∃ ms, v = .tup ms ∧ ms.length = names.length ∧ R ms m) vars mh)
    (hQ : ∀ ms m ad' s' vs, R ms m → ms.length = names.length → W C ad' m s' → VRs ad' C.scr s'.heap ms vs → Stp [] ad s ad' s' → wpAny C.M A (assignInOrder (names.reverse.map fun n => bindName env n) vs.reverse) (fun _ => Q .next) E s') :
    wpAny C.M A (exec (.Assign [t] value pos) env) Q E s := by
  rw [exec_Assign_arm]
  refine wpAny_bind (wpAny_standAt ?_)
  rw [hs]
  refine wpAny_bind (wpAny_pure ?_)
  rw [if_neg (by decide)]
  refine wpAny_bind (wpAny_mono (h A E s ad mh vars _ hR hW hV hP) (fun v s₁ h₁ => ?_) fun _ _ x => x)
  rw [hw]
  refine wpAny_bind (wpAny_pure ?_)
  obtain ⟨mv, m1, ad1, ⟨ms, rfl, hl, hr⟩, hv, hW1, st1⟩ := h₁
  obtain ⟨a, vs, n, rfl, hA, l1, l2⟩ := hv.isTup
  show wpAny C.M A (do rule "assign.swapped-stores"; let items ← unpackItems (.ref a) names.length none; assignInOrder (names.reverse.map fun n => bindName env n) items.reverse; pure .next) Q E s₁
  refine wpAny_bind (wpAny_rule (wpAny_bind ?_))
  have e : names.length = vs.toArray.size := by rw [← hl, ← l2.length]; simp
  rw [e]
  refine wpAny_unpackItems_tuple hR.handled (IsT.isT l1) fun h' hx => ?_
  have hk : ∀ b o, s₁.heap.get? b = some o → h'.get? b = some o := fun b o e => hx b o (Nat.ne_of_lt (Heap.lt_size e)) e
  have st : Stp [] ad1 s₁ ad1 { s₁ with heap := h' } := Stp.grow hk
  refine wpAny_bind (wpAny_mono (hQ ms m1 ad1 { s₁ with heap := h' } vs hr hl (hW1.grow (s' := { s₁ with heap := h' }) hk rfl rfl) (l2.mono st) (st1.trans st)) (fun _ s2 q => wpAny_pure q) fun _ _ e => e)

@[reducible] noncomputable def tSwap3 (i j l : Nat) (P : MT) : STT := fun Q vars mh => P (fun v m => ∃ a b c, v = .tup [a, b, c] ∧ Q .next (((vars.set l (some c)).set j (some b)).set i (some a)) m) vars mh
theorem SS_swap3 {t value : Expr} {pos : Pos} {x y z : Str} {i j l : Nat} {P : MT} (he : EOK env) (hT : TOK tab) (hF : FOK env) (hs : swapsWithSole [t] value pos.line env = pure false) (hw : swappedStores [t] value env = pure (some [x, y, z]))
    (hx : env.kindOf x = some .local) (hy : env.kindOf y = some .local) (hz : env.kindOf z = some .local) (ix : tab.lookup x = some i) (iy : tab.lookup y = some j) (iz : tab.lookup z = some l) (h : SE C k tab env value P) :
    SS C k tab env (.Assign [t] value pos) (tSwap3 i j l P) := by
  intro A E s ad mh vars Q hR hW hV hP
  have hP' : P (fun v m => ∃ ms, v = .tup ms ∧ ms.length = [x, y, z].length ∧ (∃ a b c, ms = [a, b, c] ∧ Q .next (((vars.set l (some c)).set j (some b)).set i (some a)) m)) vars mh := by
    have e : (fun (v : MV) (m : MH) => ∃ ms, v = .tup ms ∧ ms.length = [x, y, z].length ∧ (∃ a b c, ms = [a, b, c] ∧ Q .next (((vars.set l (some c)).set j (some b)).set i (some a)) m)) = (fun v m => ∃ a b c, v = .tup [a, b, c] ∧ Q .next (((vars.set l (some c)).set j (some b)).set i (some a)) m) := by
      funext v m
      refine propext ⟨fun ⟨ms, h1, h2, a, b, c, h3, h4⟩ => ⟨a, b, c, h3 ▸ h1, h4⟩, fun ⟨a, b, c, h1, h2⟩ => ⟨[a, b, c], h1, rfl, a, b, c, rfl, h2⟩⟩
    rw [e]; exact hP
  refine swap_start hs hw h hR hW hV (fun ms m => ∃ a b c, ms = [a, b, c] ∧ Q .next (((vars.set l (some c)).set j (some b)).set i (some a)) m) hP' fun ms m ad' s' vs hr _ hW1 hv st => ?_
  obtain ⟨a, b, c, rfl, hq⟩ := hr
  obtain ⟨va, r1, rfl, ha, hr1⟩ := hv.uncons
  obtain ⟨vb, r2, rfl, hb, hr2⟩ := hr1.uncons
  obtain ⟨vc, r3, rfl, hc, hr3⟩ := hr2.uncons
  have : r3 = [] := by unfold VRs at hr3; exact hr3
  subst this
  show wpAny C.M A (assignInOrder [bindName env z, bindName env y, bindName env x] [vc, vb, va]) _ E s'
  refine wpAny_assignInOrder_more (wpAny_bindName (store_ok he hT hF iz (.inl hz) hW1 (hV.step st) hc fun s2 w1 w2 w3 => ?_))
  refine wpAny_assignInOrder_more (wpAny_bindName (store_ok he hT hF iy (.inl hy) w1 w2 (hb.mono w3) fun s3 u1 u2 u3 => ?_))
  refine wpAny_assignInOrder_more (wpAny_bindName (store_ok he hT hF ix (.inl hx) u1 u2 ((ha.mono w3).mono u3) fun s4 x1 x2 x3 => ?_))
  exact wpAny_assignInOrder_none ⟨.next, _, m, ad', hq, rfl, x1, x2, ((st.up.trans w3).trans u3).trans x3⟩

theorem SE_dead {e} : SE C k tab env e (fun _ _ _ => False) := fun _ _ _ _ _ _ _ _ _ _ h => h.elim
theorem SS_dead {st} : SS C k tab env st (fun _ _ _ => False) := fun _ _ _ _ _ _ _ _ _ _ h => h.elim
end
/-- the frame of a call -/
noncomputable def fenv (sc : Scope) (L : Addr) (qual : Str) (fa : Addr) (code : Value) : Env := newEnv sc L mainGlobals (cellsFrom (L + 1) sc.names []) qual (some fa) code none builtinsNs

/-- a def of the text, as it stands in the base -/
structure FnF (C : Cx) (f : Str) (ps : List Str) (sc : Scope) (body : List Stmt) : Prop where
  ex : ∃ o fd, C.base.get? (C.fa f) = some o ∧ o.data = .func fd ∧ fd.scope = sc ∧ fd.body = .stmts body ∧ fd.closure = [] ∧ fd.globals = mainGlobals ∧ fd.builtins = builtinsNs ∧ C.base.CodeRec fd.code fd.qualname ∧
    ∀ vals : List Value, vals.length = ps.length → bindArgs fd ⟨vals, []⟩ = pure (ps.zip vals)
  nm : GName C f (.ref (C.fa f))
  lim : C.base.NoLimit

theorem FnF.at {C f ps sc body} (h : FnF C f ps sc body) : FnAt C f := by
  obtain ⟨o, fd, h1, h2, _⟩ := h.ex
  exact ⟨o, fd, h1, h2, h.nm⟩

/-- what a scope must be like -/
structure SOK (ps : List Str) (sc : Scope) (names : List Str) : Prop where
  kind : sc.kind = .function
  co : sc.isCoroutine = false
  gen : sc.isGenerator = false
  pk : ∀ p ∈ ps, sc.names.lookup p = some .local ∨ (sc.names.lookup p = some .cell ∧ ∀ n, ((cellsFrom n sc.names []).lookup p).isSome = true)
  nd : ((cellsFrom 0 sc.names []).map (·.1)).Nodup
  psnd : ps.Nodup
  pre : ∀ (i : Nat) (p : Str), ps[i]? = some p → names[i]? = some p
  names : names.Nodup

noncomputable def tabOf (names : List Str) : List (Str × Nat) := names.zipIdx

theorem tab_lookup {names : List Str} (_hn : names.Nodup) {x : Str} {i : Nat} (h : (tabOf names).lookup x = some i) : names[i]? = some x := by
  have := mem_of_lookup h
  unfold tabOf at this
  rw [List.mk_mem_zipIdx_iff_getElem?] at this
  exact this

theorem tok_of (names : List Str) : TOK (tabOf names) := ⟨by
  unfold tabOf
  rw [List.zipIdx_map_snd]
  exact List.nodup_range' _⟩

@[reducible] noncomputable def endR (Q : MV → MH → Prop) (f : MF) (_ : Vars) (m : MH) : Prop :=
  match f with
  | .ret x => Q x m
  | .next => Q .none m
  | _ => False

theorem bindL_get {kindOf : Str → Option NameKind} : ∀ {ps : List Str} {vals : List Value} {m : Str → Option Value} {i : Nat} {p : Str} {v : Value}, ps.Nodup → ps[i]? = some p → vals[i]? = some v → kindOf p = some .local → bindL kindOf (ps.zip vals) m p = some v
  | [], _, _, i, _, _, _, h, _, _ => by simp at h
  | q :: ps, [], _, i, _, _, _, _, h, _ => by simp at h
  | q :: ps, u :: vals, m, 0, p, v, hn, h1, h2, hk => by
    simp only [List.getElem?_cons_zero, Option.some.injEq] at h1 h2
    subst h1; subst h2
    have rest : ∀ (ps : List Str) (vals : List Value) (m : Str → Option Value), q ∉ ps → bindL kindOf (ps.zip vals) m q = m q := by
      intro ps
      induction ps with
      | nil => intro vals m _; rfl
      | cons r ps ih =>
        intro vals m hq
        cases vals with
        | nil => rfl
        | cons w vals =>
          rw [List.zip_cons_cons]
          unfold bindL
          rw [ih vals _ (fun h => hq (List.mem_cons_of_mem _ h))]
          split
          · exact if_neg (fun e => hq (by rw [show q = r from e]; exact List.mem_cons_self))
          · rfl
    rw [List.zip_cons_cons]
    unfold bindL
    rw [rest ps vals _ (List.nodup_cons.mp hn).1, if_pos hk, if_pos rfl]
  | q :: ps, u :: vals, m, i + 1, p, v, hn, h1, h2, hk => by
    rw [List.zip_cons_cons]
    unfold bindL
    exact bindL_get (List.nodup_cons.mp hn).2 (by simpa using h1) (by simpa using h2) hk

theorem bindC_get {kindOf : Str → Option NameKind} : ∀ {ps : List Str} {vals : List Value} {m : Str → Option Value} {i : Nat} {p : Str} {v : Value}, ps.Nodup → ps[i]? = some p → vals[i]? = some v → kindOf p ≠ some .local → bindC kindOf (ps.zip vals) m p = some v
  | [], _, _, i, _, _, _, h, _, _ => by simp at h
  | q :: ps, [], _, i, _, _, _, _, h, _ => by simp at h
  | q :: ps, u :: vals, m, 0, p, v, hn, h1, h2, hk => by
    simp only [List.getElem?_cons_zero, Option.some.injEq] at h1 h2
    subst h1; subst h2
    have rest : ∀ (ps : List Str) (vals : List Value) (m : Str → Option Value), q ∉ ps → bindC kindOf (ps.zip vals) m q = m q := by
      intro ps
      induction ps with
      | nil => intro vals m _; rfl
      | cons r ps ih =>
        intro vals m hq
        cases vals with
        | nil => rfl
        | cons w vals =>
          rw [List.zip_cons_cons]
          unfold bindC
          rw [ih vals _ (fun h => hq (List.mem_cons_of_mem _ h))]
          split
          · rfl
          · exact if_neg (fun e => hq (by rw [show q = r from e]; exact List.mem_cons_self))
    rw [List.zip_cons_cons]
    unfold bindC
    rw [rest ps vals _ (List.nodup_cons.mp hn).1, if_neg hk, if_pos rfl]
  | q :: ps, u :: vals, m, i + 1, p, v, hn, h1, h2, hk => by
    rw [List.zip_cons_cons]
    unfold bindC
    exact bindC_get (List.nodup_cons.mp hn).2 (by simpa using h1) (by simpa using h2) hk

theorem Room.deeper {A k env} (h : Room A (k + 1)) : Room (A.deeper env) k := ⟨h.handled, by have := h.depth; show A.depth + 1 + k < _; lia, by have := h.units; show A.units + 3 + 20 * k + 200 < _; lia⟩

theorem own_env {C : Cx} {f : Str} {ps : List Str} {sc : Scope} {body : List Stmt} (hf : FnF C f ps sc body) {names : List Str} (ho : SOK ps sc names) {nl : Nat} {A : Around} {s : Shared} {ad mh} {args : List MV} {vs : List Value} {R : Result → Shared → Prop}
    (hd : A.depth < recursionLimit) (hl : args.length = ps.length) (hW : W C ad mh s) (hv : VRs ad C.scr s.heap args vs)
    (h : ∀ qual code s1, W C ad mh s1 → VOK C (tabOf names) (fenv sc s.heap.objs.size qual (C.fa f) code) ad s1.heap (args.map some ++ List.replicate nl none) → FOK (fenv sc s.heap.objs.size qual (C.fa f) code) →
      (∀ b o, s.heap.get? b = some o → s1.heap.get? b = some o) → (∀ b ∈ fas (fenv sc s.heap.objs.size qual (C.fa f) code), s.heap.get? b = none) →
      wpAny C.M (A.deeper (fenv sc s.heap.objs.size qual (C.fa f) code)) (execs body (fenv sc s.heap.objs.size qual (C.fa f) code)) (fun f s' => R (.ok (.ret (match f with | .ret v => v | _ => .none))) s')
        (fun e s' => wpAny C.M (A.deeper (fenv sc s.heap.objs.size qual (C.fa f) code)) (leaving (fenv sc s.heap.objs.size qual (C.fa f) code) e) (fun _ s'' => R (.error e) s'') (fun e' s'' => R (.error e') s'') s') s1) :
    codeAny C.M A (.call (.ref (C.fa f)) ⟨vs, []⟩) R s := by
  obtain ⟨o, fd, f1, f2, f3, f4, f5, f6, f7, f8, f9⟩ := hf.ex
  have hvl := hv.length
  have henv : callEnvC fd s.heap.objs.size (C.fa f) = fenv sc s.heap.objs.size (fd.qualname ++ ".<locals>.") (C.fa f) fd.code := by
    unfold callEnvC fenv
    rw [f3, f6, f7]
  refine codeAny_call_cells hd (hW.keep _ _ f1) f2 (hf.lim.keeps hW.keep) (f8.keeps hW.keep) f4 (f9 vs (by lia)) f5 ?_ (fun s1 x => ?_) (by rw [f3]; exact ho.co) (by rw [f3]; exact ho.gen) (by rw [f3]; exact ho.kind)
  · intro x hx
    rw [f3]
    have := (List.of_mem_zip hx).1
    rcases ho.pk x.1 this with q | ⟨q1, q2⟩
    · exact .inl q
    · exact .inr ⟨q1, q2 _⟩
  · rw [henv] at x ⊢
    have hks : (fenv sc s.heap.objs.size (fd.qualname ++ ".<locals>.") (C.fa f) fd.code).kindOf = fun n => sc.names.lookup n := rfl
    have hloc : (fenv sc s.heap.objs.size (fd.qualname ++ ".<locals>.") (C.fa f) fd.code).locals = s.heap.objs.size := rfl
    obtain ⟨h1, tk, rfl, hk⟩ := x.done
    have hW1 : W C ad mh { s with heap := h1, toks := tk } := hW.grow hk rfl rfl
    have st : Stp [] ad s ad { s with heap := h1, toks := tk } := Stp.grow hk
    have noneAt : ∀ b : Nat, s.heap.objs.size ≤ b → s.heap.get? b = none := fun b hb => by
      cases e : s.heap.get? b with
      | none => rfl
      | some o => exact absurd (Nat.lt_of_lt_of_le (Heap.lt_size e) hb) (Nat.lt_irrefl _)
    have fasn : ∀ b ∈ fas (fenv sc s.heap.objs.size (fd.qualname ++ ".<locals>.") (C.fa f) fd.code), s.heap.get? b = none := fun b hb => by
      rcases List.mem_cons.mp hb with rfl | hb
      · exact noneAt _ (Nat.le_refl _)
      · obtain ⟨⟨y, c⟩, hm, rfl⟩ := List.mem_map.mp hb
        exact noneAt _ (Nat.le_of_lt (x.above y c hm))
    have argAt : ∀ {y i mv}, (tabOf names).lookup y = some i → (args.map some ++ List.replicate nl (none : Option MV))[i]? = some (some mv) → ps[i]? = some y ∧ ∃ v, vs[i]? = some v ∧ VR ad C.scr h1 mv v := by
      intro y i mv g1 g2
      have hi : i < args.length := by
        by_cases hi : i < args.length
        · exact hi
        · rw [List.getElem?_append_right (by simp; lia)] at g2
          rw [List.getElem?_replicate] at g2
          split at g2 <;> simp at g2
      rw [List.getElem?_append_left (by simpa using hi)] at g2
      have g2' : args[i]? = some mv := by
        rw [List.getElem?_map] at g2
        cases q : args[i]? with
        | none => rw [q] at g2; cases g2
        | some m => rw [q] at g2; cases g2; rfl
      obtain ⟨v, hv1, hv2⟩ := hv.get g2'
      refine ⟨?_, v, hv1, hv2.mono st⟩
      have g3 := tab_lookup ho.names g1
      have hp : i < ps.length := by lia
      have := ho.pre i _ (List.getElem?_eq_getElem hp)
      rw [g3] at this
      rw [List.getElem?_eq_getElem hp, this]
    refine h (fd.qualname ++ ".<locals>.") fd.code { s with heap := h1, toks := tk } hW1 ⟨⟨_, x.toInCall.ns, fun y i mv g1 g2 g3 => ?_⟩, fun y i mv c g1 g2 g3 g4 => ?_, fun y c g1 => ?_, fun b hb => ⟨?_, fun hA => ?_⟩⟩ ?_ hk fasn
    · obtain ⟨p1, v, p2, p3⟩ := argAt g1 g2
      exact ⟨v, bindL_get ho.psnd p1 p2 g3, p3⟩
    · obtain ⟨p1, v, p2, p3⟩ := argAt g1 g2
      have hne : (fenv sc s.heap.objs.size (fd.qualname ++ ".<locals>.") (C.fa f) fd.code).kindOf y ≠ some .local := by
        rcases g3 with g3 | g3 <;> rw [g3] <;> decide
      have := x.cell y c g4
      rw [bindC_get ho.psnd p1 p2 hne] at this
      exact ⟨v, this, p3⟩
    · have hnd : ((fenv sc s.heap.objs.size (fd.qualname ++ ".<locals>.") (C.fa f) fd.code).cells.map (·.1)).Nodup := cellsFrom_names sc.names 0 (s.heap.objs.size + 1) [] [] rfl ▸ ho.nd
      exact ⟨_, x.cell y c (lookup_of_mem_nodup hnd g1)⟩
    · cases e : C.base.get? b with
      | none => rfl
      | some o => have := hW.keep _ _ e; rw [fasn b hb] at this; cases this
    · obtain ⟨o, ho⟩ := hW.there hA
      rw [fasn b hb] at ho; cases ho
    · refine List.nodup_cons.mpr ⟨fun hm => ?_, ?_⟩
      · obtain ⟨⟨y, c⟩, hm, e⟩ := List.mem_map.mp hm
        have := x.above y c hm
        rw [show c = _ from e] at this
        exact Nat.lt_irrefl _ this
      · exact List.pairwise_map.mpr x.apart

theorem Stp.drop {X A s s1 A' s'} (x : Stp X A s1 A' s') (hk : ∀ b o, s.heap.get? b = some o → s1.heap.get? b = some o) (hX : ∀ b ∈ X, s.heap.get? b = none) : Stp [] A s A' s' where
  keep b o e hA _ := x.keep b o (hk b o e) hA fun h => by rw [hX b h] at e; cases e
  imm b o e hA hI := x.imm b o (hk b o e) hA hI
  alive b e := x.alive b (by
    cases q : s.heap.get? b with
    | none => exact absurd q e
    | some o => rw [hk b o q]; exact (fun h => nomatch h))
  pre := x.pre
  new a ha := by
    rcases x.new a ha with h | h
    · exact .inl h
    · right
      cases q : s.heap.get? a with
      | none => rfl
      | some o => rw [hk a o q] at h; cases h

/-- a call of a def whose body is known -/
theorem call_own {C : Cx} {f : Str} {ps : List Str} {sc : Scope} {body : List Stmt} (hf : FnF C f ps sc body) (names : List Str) (ho : SOK ps sc names) (nl : Nat) {k : Nat} {P : STT} {args : List MV} {Q : MV → MH → Prop} {mh : MH}
    (hb : ∀ L qual code, FOK (fenv sc L qual (C.fa f) code) → SSs C k (tabOf names) (fenv sc L qual (C.fa f) code) body P)
    (hl : args.length = ps.length) (hP : P (endR Q) (args.map some ++ List.replicate nl none) mh) : CallR C (k + 1) f args Q mh := by
  intro A E s ad vs hR hW hv
  refine wpAny_call (own_env hf ho (nl := nl) (by have := hR.depth; lia) hl hW hv fun qual code s1 hW1 hV1 hF hk hn => ?_)
  refine wpAny_mono (hb _ qual code hF _ _ s1 ad mh _ _ hR.deeper hW1 hV1 hP) (fun fl s' hp => ?_) fun _ _ e => e
  obtain ⟨mf, v', m', ad', hq, hfr, hW', hV', st'⟩ := hp
  have st := st'.drop hk hn
  cases mf with
  | next => unfold FR at hfr; subst hfr; exact ⟨.none, m', ad', hq, VR.none', hW', st⟩
  | brk => exact hq.elim
  | cont => exact hq.elim
  | ret m => obtain ⟨v, rfl, hv⟩ := hfr; exact ⟨m, m', ad', hq, hv, hW', st⟩
noncomputable def stAt (i : Nat) : Stmt := PySem.Challenge.pw_sa0213_01.main.body.getD i (.Pass ⟨0, 0, 0, 0⟩)
noncomputable def bodyAt (i : Nat) : List Stmt := match stAt i with | .FunctionDef _ _ b _ _ _ _ _ _ _ => b | _ => []
noncomputable def scopeAt (i : Nat) : Scope := match stAt i with | .FunctionDef _ _ _ _ _ _ sc _ _ _ => sc | _ => PySem.Challenge.pw_sa0213_01.main.scope
theorem eok_fenv {sc : Scope} {L qual fa code} (hk : sc.kind = .function) : EOK (fenv sc L qual fa code) := ⟨hk, rfl, rfl⟩
theorem eok_cenv {scope : Scope} {cl L env} (he : EOK env) (hk : scope.kind = .function) : EOK (cenvK scope cl L env) := ⟨hk, he.glob, he.bi⟩

noncomputable def cokB (scope : Scope) (x : Str) (cln : List Str) (tab : List (Str × Nat)) (env : Env) : Bool :=
  scope.kind == .function && scope.names.all (fun p => match p.2 with
    | .local => p.1 == x || p.1 == (".0" : Str)
    | .cell => p.1 == x
    | .free => p.1 != x && (env.kindOf p.1 == some .cell || env.kindOf p.1 == some .free)
    | .globalImplicit => true
    | _ => false) && (tab.lookup (".0" : Str)).isNone && decide cln.Nodup && scope.names.all (fun p => p.2 != .local || scope.names.lookup p.1 == some .local)

theorem cellsFrom_look {x y : Str} (hy : y ≠ x) {cl : List (Str × Addr)} : ∀ {names : List (Str × NameKind)} {acc : List (Str × Addr)} {n c}, (∀ p ∈ names, p.2 = .cell → p.1 = x) → (∀ c, acc.lookup y = some c → cl.lookup y = some c) → (cellsFrom n names acc).lookup y = some c → cl.lookup y = some c
  | [], _, _, _, _, h, e => h _ e
  | (z, k) :: r, acc, n, c, hn, h, e => by
    unfold cellsFrom at e
    split at e
    · rename_i hk
      refine cellsFrom_look hy (fun p hp => hn p (List.mem_cons_of_mem _ hp)) (fun c' e' => ?_) e
      have hz : z = x := hn (z, k) List.mem_cons_self (by simpa using hk)
      rw [List.lookup_cons] at e'
      rw [beq_false_of_ne (by rw [hz]; exact hy)] at e'
      exact h _ e'
    · exact cellsFrom_look hy (fun p hp => hn p (List.mem_cons_of_mem _ hp)) h e

theorem cok_mk {scope : Scope} {x : Str} {cl : List (Str × Addr)} {tab : List (Str × Nat)} {env : Env} (hF : FOK env) (hm : ∀ p ∈ cl, env.cells.lookup p.1 = some p.2) (h : cokB scope x (cl.map (·.1)) tab env = true) : COK scope x cl tab env := by
  unfold cokB at h
  simp only [Bool.and_eq_true, decide_eq_true_eq] at h
  obtain ⟨⟨⟨⟨h1, h2⟩, h3⟩, h4⟩, h5⟩ := h
  have hn : ∀ y k, (y, k) ∈ scope.names → (k = .local ∧ (y = x ∨ y = (".0" : Str))) ∨ (k = .cell ∧ y = x) ∨ (k = .free ∧ y ≠ x ∧ (env.kindOf y = some .cell ∨ env.kindOf y = some .free)) ∨ k = .globalImplicit := by
    intro y k hyk
    have := List.all_eq_true.mp h2 _ hyk
    cases k <;> simp at this ⊢ <;> first | exact this | skip
  refine ⟨by simpa using h1, hn, by simpa using h3, fun y c e => hm (y, c) (mem_of_lookup e), fun y c e => mem_of_lookup (hm (y, c) e), ?_, fun y hy n c e => ?_, fun y hy hl => ?_⟩
  · rw [List.nodup_iff_pairwise_ne, List.pairwise_map]
    have h4' := List.nodup_iff_pairwise_ne.mp h4
    rw [List.pairwise_map] at h4'
    refine List.Pairwise.imp_of_mem (fun {a b} ha hb hab e => hab ?_) h4'
    exact cells_inj hF (c := a.2) (mem_of_lookup (hm a ha)) (by rw [e]; exact mem_of_lookup (hm b hb))
  · refine cellsFrom_look hy (acc := cl) (fun p hp hk => ?_) (fun _ e => e) e
    rcases hn p.1 p.2 hp with ⟨h, _⟩ | ⟨_, h⟩ | ⟨h, _⟩ | h
    · rw [h] at hk; cases hk
    · exact h
    · rw [h] at hk; cases hk
    · rw [h] at hk; cases hk
  · have := List.all_eq_true.mp h5 y hy
    rw [hl] at this
    simpa using this

theorem hm1 {cs : List (Str × Addr)} {x : Str} {c : Addr} (h : cs.lookup x = some c) : ∀ p ∈ [(x, c)], cs.lookup p.1 = some p.2 := fun p hp => by
  rw [List.mem_singleton.mp hp]; exact h
theorem hm2 {cs : List (Str × Addr)} {x y : Str} {c d : Addr} (h : cs.lookup x = some c) (h' : cs.lookup y = some d) : ∀ p ∈ [(x, c), (y, d)], cs.lookup p.1 = some p.2 := fun p hp => by
  rcases List.mem_cons.mp hp with rfl | hp
  · exact h
  · rw [List.mem_singleton.mp hp]; exact h'
theorem hm0 {cs : List (Str × Addr)} : ∀ p ∈ ([] : List (Str × Addr)), cs.lookup p.1 = some p.2 := fun _ h => nomatch h

noncomputable def sokB (ps : List Str) (sc : Scope) (names : List Str) : Bool :=
  sc.kind == .function && !sc.isCoroutine && !sc.isGenerator && decide ((cellsFrom 0 sc.names []).map (·.1)).Nodup && decide ps.Nodup && decide names.Nodup && (names.take ps.length == ps) &&
    ps.all fun p => sc.names.lookup p == some .local || (sc.names.lookup p == some .cell && ((cellsFrom 0 sc.names []).lookup p).isSome)

theorem cellsFrom_some {p : Str} : ∀ {names : List (Str × NameKind)} {acc acc' : List (Str × Addr)} {n m : Nat}, (acc.lookup p).isSome = (acc'.lookup p).isSome → ((cellsFrom n names acc).lookup p).isSome = ((cellsFrom m names acc').lookup p).isSome
  | [], _, _, _, _, h => h
  | (z, k) :: r, acc, acc', n, m, h => by
    unfold cellsFrom
    split
    · refine cellsFrom_some ?_
      rw [List.lookup_cons, List.lookup_cons]
      split <;> simp_all
    · exact cellsFrom_some h

theorem sok_mk {ps : List Str} {sc : Scope} {names : List Str} (h : sokB ps sc names = true) : SOK ps sc names := by
  unfold sokB at h
  simp only [Bool.and_eq_true, decide_eq_true_eq, Bool.not_eq_true', beq_iff_eq] at h
  obtain ⟨⟨⟨⟨⟨⟨⟨h1, h2⟩, h3⟩, h4⟩, h5⟩, h6⟩, h7⟩, h8⟩ := h
  refine ⟨h1, h2, h3, fun p hp => ?_, h4, h5, fun i p e => ?_, h6⟩
  · have := List.all_eq_true.mp h8 p hp
    simp only [Bool.or_eq_true, beq_iff_eq, Bool.and_eq_true] at this
    rcases this with h | ⟨h, h'⟩
    · exact .inl h
    · exact .inr ⟨h, fun n => by rw [cellsFrom_some (acc' := []) (m := 0) rfl]; exact h'⟩
  · rw [← h7] at e
    have hi := (List.getElem?_eq_some_iff.mp e).1
    rw [List.getElem?_take_of_lt (by simp at hi; lia)] at e
    exact e

/-- prefixes of the mini heap -/
abbrev Ext (a b : MH) : Prop := a <+: b
theorem Ext.get {a b : MH} (h : Ext a b) {i : Nat} {o : MO} (e : a[i]? = some o) : b[i]? = some o := by
  obtain ⟨l, rfl⟩ := h
  rw [List.getElem?_append_left (List.getElem?_eq_some_iff.mp e).1]
  exact e
theorem get_app {a : MH} {i : Nat} {o : MO} {l : MH} (e : a[i]? = some o) : (a ++ l)[i]? = some o := Ext.get ⟨l, rfl⟩ e
theorem get_last {a : MH} {o : MO} : (a ++ [o])[a.length]? = some o := by simp
theorem set_last' {a : MH} {o p : MO} : (a ++ [o]).set a.length p = a ++ [p] := by simp
theorem tok_cons {x : Str} {n : Nat} {tab : List (Str × Nat)} (h : TOK tab) (hn : tab.all (fun p => p.2 != n) = true) : TOK ((x, n) :: tab) := ⟨by
  rw [List.map_cons, List.nodup_cons]
  refine ⟨fun hm => ?_, h.nodup⟩
  obtain ⟨p, hp, e⟩ := List.mem_map.mp hm
  have := List.all_eq_true.mp hn p hp
  simp [e] at this⟩

theorem eok_of {scope : Scope} {cl : List (Str × Addr)} {L : Addr} {env : Env} (_hF : FOK (cenvK scope cl L env)) (he : EOK env) (hk : scope.kind = .function) : EOK (cenvK scope cl L env) := eok_cenv he hk

noncomputable def shapes : Str → Option Str := fun y => ([("set", "w--"), ("move", "wr"), ("bin", "w--rr"), ("store", "rr"), ("true", "rj"), ("return", "o"), ("keep", "-r"), ("fetch", "w-")] : List (Str × Str)).lookup y
noncomputable def leaving : List Str := ["jump", "sign", "agoto", "return", "stop"]

/-- what the base holds -/
structure Hyp (C : Cx) : Prop where
  integer : ∃ t, GName C "INTEGER" (.int 0 t)
  leaving : GTup C "LEAVING" leaving
  shapes : GTab C "SHAPES" shapes
  script : ScOK C
  sys : ∃ o, C.base.get? sysModules = some o
  b_len : GName C "len" (.builtin "len")
  b_max : GName C "max" (.builtin "max")
  b_sorted : GName C "sorted" (.builtin "sorted")
  b_range : GName C "range" (.type "range")
  b_list : GName C "list" (.type "list")
  b_tuple : GName C "tuple" (.type "tuple")
  f_reads_of : FnF C "reads_of" ["op"] (scopeAt 3) (bodyAt 3)
  f_writes_of : FnF C "writes_of" ["op"] (scopeAt 4) (bodyAt 4)
  f_jumps_of : FnF C "jumps_of" ["op"] (scopeAt 5) (bodyAt 5)
  f_goes_on : FnF C "goes_on" ["op"] (scopeAt 6) (bodyAt 6)
  f_with_jumps : FnF C "with_jumps" ["op", "ats"] (scopeAt 7) (bodyAt 7)
  f_read_part : FnF C "read_part" ["role", "part", "mapping"] (scopeAt 8) (bodyAt 8)
  f_with_reads : FnF C "with_reads" ["op", "mapping"] (scopeAt 9) (bodyAt 9)
  f_with_write : FnF C "with_write" ["op", "register"] (scopeAt 10) (bodyAt 10)
  f_follows : FnF C "follows" ["ops", "at"] (scopeAt 12) (bodyAt 12)
  f_mask_of : FnF C "mask_of" ["registers"] (scopeAt 13) (bodyAt 13)
  f_live_ahead : FnF C "live_ahead" ["ops"] (scopeAt 14) (bodyAt 14)
  f_live_behind : FnF C "live_behind" ["ops", "live", "at"] (scopeAt 15) (bodyAt 15)
  f_ranges_of : FnF C "ranges_of" ["ops"] (scopeAt 20) (bodyAt 20)
  f_registers_of : FnF C "registers_of" ["mask"] (scopeAt 21) (bodyAt 21)
  f_widen : FnF C "widen" ["found", "register", "at"] (scopeAt 22) (bodyAt 22)
  f_most_reads : FnF C "most_reads" ["ops"] (scopeAt 23) (bodyAt 23)
  f_distinct : FnF C "distinct" ["registers"] (scopeAt 24) (bodyAt 24)
  f_scan : FnF C "scan" ["ranges", "count"] (scopeAt 25) (bodyAt 25)
  f_spread : FnF C "spread" ["op", "dealt", "cells", "scratch"] (scopeAt 26) (bodyAt 26)
  f_dealt_ops : FnF C "dealt_ops" ["ops", "starts", "count"] (scopeAt 27) (bodyAt 27)
  f__law_knob : FnF C "_law_knob" ["drum", "many"] (scopeAt 30) (bodyAt 30)
  f__law_ranges : FnF C "_law_ranges" ["drum"] (scopeAt 31) (bodyAt 31)
  f__law_fullest : FnF C "_law_fullest" ["ranges"] (scopeAt 32) (bodyAt 32)
  f__law_is_fair : FnF C "_law_is_fair" ["ranges", "count", "absent"] (scopeAt 33) (bodyAt 33)
  f__law_code : FnF C "_law_code" ["drum"] (scopeAt 34) (bodyAt 34)
  f__law_dealt : FnF C "_law_dealt" ["ops", "starts", "count"] (scopeAt 35) (bodyAt 35)
  f__law_words : FnF C "_law_words" ["ops"] (scopeAt 36) (bodyAt 36)
  f__law_is_told : FnF C "_law_is_told" ["ops", "out", "count"] (scopeAt 37) (bodyAt 37)
  f_law : FnF C "law" ["script"] (scopeAt 38) (bodyAt 38)

theorem forN_ind {α : Type} {chk : MH → Prop} {un : MH → MH} {B : MV → STT} {f : α → MV} {Q : MF → Vars → MH → Prop} (I : List α → Vars → MH → Prop) (hnil : ∀ v m, I [] v m → Q .next v (un m))
    (hcons : ∀ a r v m (K : Vars → MH → Prop), I (a :: r) v m → (∀ v' m', I r v' m' → K v' m') → B (f a) (turnK chk un K Q) v m) : ∀ (xs : List α) (v : Vars) (m : MH), I xs v m → forN chk un B (xs.map f) Q v m
  | [], v, m, h => hnil v m h
  | a :: r, v, m, h => hcons a r v m _ h fun v' m' h' => forN_ind I hnil hcons r v' m' h'

theorem compN_ind {α : Type} {chk : MH → Prop} {un : MH → MH} {T : BT} {P : MT} {vars : Vars} {f : α → MV} {Q : List MV → MH → Prop} (I : List α → List MV → MH → Prop) (hnil : ∀ out m, I [] out m → Q out (un m))
    (hcons : ∀ a r out m (K : List MV → MH → Prop), I (a :: r) out m → (∀ out' m', I r out' m' → K out' m') →
      T (fun b m1 => if b = true then P (fun y m2 => chk m2 ∧ K (out ++ [y]) m2) (vars ++ [some (f a)]) m1 else chk m1 ∧ K out m1) (vars ++ [some (f a)]) m) : ∀ (xs : List α) (out : List MV) (m : MH), I xs out m → compN chk un T P vars (xs.map f) out Q m
  | [], out, m, h => hnil out m h
  | a :: r, out, m, h => hcons a r out m _ h fun out' m' h' => compN_ind I hnil hcons r out' m' h'
theorem tLoc_i {i : Nat} {Q : MV → MH → Prop} {vars : Vars} {mh : MH} {x : MV} (h : vars[i]? = some (some x)) (q : Q x mh) : tLoc i Q vars mh := ⟨x, h, q⟩
theorem tIf_i {P : BT} {Pb Po : STT} {Q : MF → Vars → MH → Prop} {vars : Vars} {m : MH} (h : P (kIf Pb Po Q vars) vars m) : tIf P Pb Po Q vars m := h
/-- what stands behind an if is walked once -/
theorem if_tail {P : BT} {Pb Po Ps : STT} {Q : MF → Vars → MH → Prop} {vars : Vars} {m : MH} (I : MH → Prop) (tail : ∀ m', I m' → Ps Q vars m') (go : (∀ m', I m' → Ps Q vars m') → P (kIf Pb Po (seqK Ps Q) vars) vars m) : tIf P Pb Po (seqK Ps Q) vars m := go tail
theorem if_tailV {P : BT} {Pb Po Ps : STT} {Q : MF → Vars → MH → Prop} {vars : Vars} {m : MH} (I : Vars → MH → Prop) (tail : ∀ v' m', I v' m' → Ps Q v' m') (go : (∀ v' m', I v' m' → Ps Q v' m') → P (kIf Pb Po (seqK Ps Q) vars) vars m) : tIf P Pb Po (seqK Ps Q) vars m := go tail
section
variable {prog : Program} {w : World} {A : Around} {E : Value → Shared → Prop} {h : Heap} {g : Array GenState} {d : Drawn} {t : Nat} {os : OsState}
variable {nm q : Str} {C N : Addr} {bs bm : List Value} {hdct : Bool} {sn : List Str} {sub : List Value} {ab : Bool} {col : Option Bool} {dd : Option Addr} {k0 k1 k2 k3 k5 : Option Value}

/-- the class over Exception, its line of classes as it may be -/
abbrev KO (nm q : Str) (C N : Addr) (bs bm : List Value) (hdct : Bool) (sn : List Str) (sub : List Value) (ab : Bool) (col : Option Bool) (dd : Option Addr) (k0 k1 k2 k3 k5 : Option Value) : Obj := excClassObj nm q C N bs bm hdct sn sub ab col dd k0 k1 k2 k3 k5 "Exception.__new__"

theorem x_check_init {e : Addr} {oe : Obj} {rest : List Value} {M : Model} {Q : Unit → Shared → Prop} (hb : (Value.ref C :: bm).contains (.type "Exception") = true)
    (hC : h.get? C = some (KO nm q C N bs bm hdct sn sub ab col dd k0 k1 k2 k3 k5)) (he : h.get? e = some oe) (hcls : oe.cls = .ref C) (hq : Q () ⟨h, g, d, t, os⟩) :
    wpAny M A (checkBuiltinCall "Exception.__init__" ⟨.ref e :: rest, []⟩) Q E ⟨h, g, d, t, os⟩ := by
  have F := PySem.F.excBase_Exception
  have hshort := F.noStar
  simp only [checkBuiltinCall, F.initKind, F.initSplit, F.initRow]
  repeat (first | (with_reducible refine wpAny_loadPart_at he ?_; rw [hcls]) | with_reducible refine wpAny_loadPart_at hC ?_ | (with_reducible refine wpAny_isSubtype_exc hC ?_; rw [hb]) | wp_step)
  refine wpAny_onRaise ?_
  rw [show ∀ (a b : String) (n : Nat), Bind.check ⟨.positional, "*", "Exception", .self, [⟨"args", .varPos, false⟩]⟩ a b n (List.map (fun x => x.fst) ({ pos := Value.ref e :: rest } : Args).kw) = pure () from
    fun a b n => check_star_args _ _ _ _ _ _]
  exact wpAny_pure hq

abbrev excO (C t0 : Addr) : Obj := { cls := .ref C, data := .fields #[.ref t0, .none, .none, .none, .bool false, .none] }

/-- Exception.__init__(e, ..) -/
theorem x_init {e t0 : Addr} {rest : List Value} {Q : Value → Shared → Prop} (hb : (Value.ref C :: bm).contains (.type "Exception") = true)
    (hC : h.get? C = some (KO nm q C N bs bm hdct sn sub ab col dd k0 k1 k2 k3 k5)) (he : h.get? e = some (excO C t0)) (hr : rest.length ≤ sizeLine)
    (hq : ∀ h', h'.get? e = some (excO C h.objs.size) → (∀ b o, b ≠ e → h.get? b = some o → h'.get? b = some o) → Q .none ⟨h', g, d, t, os⟩) :
    wpAny (model prog w) A (call (.builtin "Exception.__init__") (.ref e :: rest)) Q E ⟨h, g, d, t, os⟩ := by
  have F := PySem.F.excBase_Exception
  refine wpAny_call (codeAny_call_builtin F.init.plain F.initEntry (x_check_init hb hC he rfl ?_))
  have he1 := Heap.get?_push_of_some (h := h) { cls := .type "tuple", dict := none, data := .seq rest.toArray } he
  unfold Builtin.«BaseException.__init__»
  wp_walk
  refine hq _ ?_ fun b o hb ho => ?_
  · rw [Heap.get?_update_self _ he1 rfl]; rfl
  · rw [Heap.get?_update_other _ _ (Ne.symm hb)]
    exact Heap.get?_push_of_some _ ho

theorem x_check_new {rest : List Value} {M : Model} {Q : Unit → Shared → Prop} (hb : (Value.ref C :: bm).contains (.type "Exception") = true)
    (hC : h.get? C = some (KO nm q C N bs bm hdct sn sub ab col dd k0 k1 k2 k3 k5)) (hq : Q () ⟨h, g, d, t, os⟩) :
    wpAny M A (checkBuiltinCall "Exception.__new__" ⟨.ref C :: rest, []⟩) Q E ⟨h, g, d, t, os⟩ := by
  have F := PySem.F.excBase_Exception
  have hstar := F.noStar
  simp only [checkBuiltinCall, F.newKind, F.newSplit, F.newRow]
  repeat (first | refine wpAny_loadPart_at hC ?_ | (refine wpAny_isSubtype_exc hC ?_; rw [hb]) | refine wpAny_staticBase_exc hC ?_ | refine wpAny_madeBy_exc hC ?_ | simp only [bne_self_eq_false, Bool.false_eq_true, if_false] | wp_step)
  exact hq

theorem x_new {rest : List Value} {R : Result → Shared → Prop} (hb : (Value.ref C :: bm).contains (.type "Exception") = true) (hA : (Value.ref C :: bm).contains (.type "AttributeError") = false) (hN : (Value.ref C :: bm).contains (.type "NameError") = false)
    (hC : h.get? C = some (KO nm q C N bs bm hdct sn sub ab col dd k0 k1 k2 k3 k5)) (hr : rest.length ≤ sizeLine)
    (hq : R (.ok (.ret (.ref (h.objs.size + 1)))) ⟨(h.push { cls := .type "tuple", data := .seq rest.toArray }).push (excO C h.objs.size), g, d, t, os⟩) :
    codeAny (model prog w) A (.builtin "Exception.__new__" ⟨.ref C :: rest, []⟩) R ⟨h, g, d, t, os⟩ := by
  have F := PySem.F.excBase_Exception
  have hends := F.ends
  refine codeAny_builtinAt F.entry ?_
  unfold Builtin.«BaseException.__new__»
  refine PySem.wpAt_bind ?_
  show PySem.wpAt _ _ _ (stack >>= _) _ _ _
  refine PySem.wpAt_bind (PySem.wpAt_stack fun p below => PySem.wpAt_of_wpAny ?_)
  wp_walk
  refine PySem.wpAt_of_wpAny ?_
  rw [F.owner]
  repeat (first | with_reducible refine wpAny_madeHere_exc F.canon hC ?_ | with_reducible refine wpAny_loadPart_at hC ?_ | (with_reducible refine wpAny_isSubtype_exc hC ?_; first | rw [hb] | rw [hA] | rw [hN]) | wp_step)
  show R _ _
  rw [Heap.size_push]
  exact hq

/-- the class is called: the object is made, its own __init__ runs -/
theorem x_type_call {K : Frag} {fI : Addr} {rest : List Value} {Q : Fin → Shared → Prop} (hb : (Value.ref C :: bm).contains (.type "Exception") = true) (hA : (Value.ref C :: bm).contains (.type "AttributeError") = false) (hN : (Value.ref C :: bm).contains (.type "NameError") = false)
    (hC : h.get? C = some (KO nm q C N bs bm hdct sn sub ab col dd k0 k1 k2 k3 k5)) (X : K.In h) (hi : findIn K (.ref C) "__init__" = some (some (.ref fI))) (hf : typeIn K (.ref fI) = some (.type "function")) (hr : rest.length ≤ sizeLine)
    (hq : ∀ h' e t0, (∀ b o, h.get? b = some o → h'.get? b = some o) → h.get? e = none → h.get? t0 = none → h'.get? e = some (excO C t0) →
      wpAny (model prog w) A (call (.ref fI) (.ref e :: rest)) (fun r s' => r = .none ∧ Q (.done (.ret (.ref e))) s') E ⟨h', g, d, t, os⟩) :
    wpAny (model prog w) A (Builtin.«type.__call__» ⟨.ref C :: rest, []⟩) Q E ⟨h, g, d, t, os⟩ := by
  have F := PySem.F.excBase_Exception
  repeat (first | with_reducible refine wpAny_loadPart_at hC ?_ | with_reducible refine wpAny_madeBy_exc hC ?_ | wp_step)
  refine codeAny_call_builtin_code (Code.quiet_builtin _ F.quiet) (x_check_new hb hC ?_)
  refine x_new hb hA hN hC hr ?_
  show wpAny _ _ _ _ _ _
  have kp : ∀ b o, h.get? b = some o → ((h.push { cls := .type "tuple", data := .seq rest.toArray }).push (excO C h.objs.size)).get? b = some o := fun b o e => Heap.get?_push_of_some _ (Heap.get?_push_of_some _ e)
  have hC₁ := kp _ _ hC
  have X₁ := X.keeps kp
  have hget : ((h.push { cls := .type "tuple", data := .seq rest.toArray }).push (excO C h.objs.size)).get? (h.objs.size + 1) = some (excO C h.objs.size) := by heap_get
  have hcC : (Value.ref C :: bm).contains (.ref C) = true := by simp
  generalize (h.push { cls := .type "tuple", data := .seq rest.toArray }).push (excO C h.objs.size) = h1 at *
  unfold isInstance
  repeat (first | with_reducible refine wpAny_loadPart_at hget ?_ | (with_reducible refine wpAny_isSubtype_exc hC₁ ?_; rw [hcC]) | wp_step)
  show wpAny _ _ (typeLookup (.ref C) _) _ _ _
  refine (looks_findIn (M := model prog w) X₁ hi).here ?_
  refine wpAny_holding (wpAny_bind ?_)
  refine (bind_fn X₁ _ hf).here ?_
  refine wpAny_bind (wpAny_mono (hq _ (h.objs.size + 1) h.objs.size kp (Heap.get?_none_of_le (Nat.le_succ _)) (Heap.get?_none_of_le (Nat.le_refl _)) hget) (fun r s' hr => ?_) fun _ _ x => x)
  obtain ⟨rfl, hQ⟩ := hr
  wp_walk
  exact hQ

theorem x_call {K : Frag} {fI : Addr} {rest : List Value} {Q : Value → Shared → Prop} (hb : (Value.ref C :: bm).contains (.type "Exception") = true) (hA : (Value.ref C :: bm).contains (.type "AttributeError") = false) (hN : (Value.ref C :: bm).contains (.type "NameError") = false)
    (hC : h.get? C = some (KO nm q C N bs bm hdct sn sub ab col dd k0 k1 k2 k3 k5)) (X : K.In h) (hi : findIn K (.ref C) "__init__" = some (some (.ref fI))) (hf : typeIn K (.ref fI) = some (.type "function")) (hr : rest.length ≤ sizeLine)
    (hq : ∀ h' e t0, (∀ b o, h.get? b = some o → h'.get? b = some o) → h.get? e = none → h.get? t0 = none → h'.get? e = some (excO C t0) →
      wpAny (model prog w) (A.under (.builtin "type.__call__" ⟨.ref C :: rest, []⟩)) (call (.ref fI) (.ref e :: rest)) (fun r s' => r = .none ∧ Q (.ref e) s') E ⟨h', g, d, t, os⟩) :
    wpAny (model prog w) A (call (.ref C) rest) Q E ⟨h, g, d, t, os⟩ := by
  have f1 := tc_lookup
  have f2 := tc_bind (.ref C)
  have hT : (⟨h, g, d, t, os⟩ : Shared).TypeIs (.ref C) "type" := ⟨_, hC, rfl⟩
  refine wpAny_call (codeAny_of_tree ?_)
  show wpAny _ _ (callAny (.ref C) _) _ _ _
  repeat (any_goals (first | assumption | with_reducible refine wpAny_loadPart_at hC ?_ | wp_step))
  refine ⟨rfl, ?_⟩
  refine codeAny_call_builtin_at (Code.quiet_builtin _ (by decide +kernel)) entry_typeCall (wpAny_check_type_call_sub hC (x_type_call hb hA hN hC X hi hf hr fun h' e t0 h1 h2 h3 h4 => ?_))
  exact hq h' e t0 h1 h2 h3 h4
end
section
variable {prog : Program} {w : World} {A : Around} {E : Value → Shared → Prop} {h : Heap} {g : Array GenState} {d : Drawn} {t : Nat} {os : OsState}
variable {nm q : Str} {C FE N : Addr} {bs : List Value} {sn : List Str} {sub : List Value} {ab : Bool} {col : Option Bool} {dd : Option Addr} {k0 k1 k2 k3 k5 : Option Value}

abbrev exMro (FE : Addr) : List Value := [.ref FE, .type "Exception", .type "BaseException", .type "object"]

theorem x_store {K : Frag} {e t0 : Addr} {name : Str} {tk : Tok} {v : Value} {R : Result → Shared → Prop} (X : K.In h) (hK : K.lookup C = some (KO nm q C N bs (exMro FE) true sn sub ab col dd k0 k1 k2 k3 k5))
    (ht : findIn K (.ref C) name = some none) (he : h.get? e = some (excO C t0))
    (hq : ∀ h' tk' dx, h'.get? e = some { excO C t0 with dict := some dx } → (∀ b o, b ≠ e → h.get? b = some o → h'.get? b = some o) → R (.ok (.ret .none)) ⟨h', g, d, tk', os⟩) :
    codeAny (model prog w) A (.call (.builtin "object.__setattr__") ⟨[.ref e, .str name tk, v], []⟩) R ⟨h, g, d, t, os⟩ := by
  have SF := PySem.F.store_Exception
  have hC : h.get? C = some (KO nm q C N bs (exMro FE) true sn sub ab col dd k0 k1 k2 k3 k5) := X _ _ hK
  have LT : Looks (model prog w) h (typeOf (.ref e)) (.ref C) := (Looks.ld (part := none) he).andThen .now
  obtain ⟨cd, hcl, hmro, hdict⟩ : ∃ cd, clsIn K C = some cd ∧ cd.mro = .ref C :: exMro FE ∧ cd.hasDict = true := by unfold clsIn; rw [hK]; exact ⟨_, rfl, rfl, rfl⟩
  have sub : Looks (model prog w) h (isInstance (.ref e) (.type "object")) true := LT.andThen (looks_mroIn X (by unfold mroIn; rw [hcl, Option.bind_some, hmro]; simp))
  refine codeAny_call_builtin SF.slot.plain SF.entry (@check_slot (model prog w) _ _ ⟨h, g, d, t, os⟩ "object.__setattr__" "object" "__setattr__" (.ref e) [.str name tk, v] [] _ SF.kind SF.split sub (SF.args (.ref e) (.str name tk) v) ?_)
  rw [osa_eq, refuse_eq]
  have hm : Looks (model prog w) h (mroOf (.ref C)) (.ref C :: exMro FE) := by rw [← hmro]; exact (looks_clsIn X hcl).andThen .now
  refine wpAny_bind (wpAny_bind (LT.here (wpAny_bind (hm.here ?_))))
  rw [refuseLoop_ref, refuseLoop_ref, SF.passes]
  refine wpAny_pure (wpAny_bind (LT.here (wpAny_bind ((looks_findIn X ht).here (wpAny_bind ?_)))))
  refine wpAny_pure ?_
  show wpAny _ _ (Builtin.ObjectAttr.storeInOwnDict (Value.ref e) (Value.ref C) (Value.str name tk) name v false) _ _ _
  unfold Builtin.ObjectAttr.storeInOwnDict
  have he1 : (h.push { cls := .type "dict", data := .dict #[] }).get? e = some (excO C t0) := Heap.get?_push_of_some _ he
  have hes : e ≠ h.objs.size := Nat.ne_of_lt (Heap.lt_size he)
  have hgd : ((h.push { cls := .type "dict", data := .dict #[] }).update e fun o => { cls := o.cls, dict := some h.objs.size, data := o.data, slots := o.slots }).get? h.objs.size
      = some { cls := .type "dict", data := .dict #[] } := (Heap.get?_update_ne _ _ _ _ hes.symm).trans (Heap.get?_push_at rfl rfl)
  have hnd : ((h.push { cls := .type "dict", data := .dict #[] }).update e fun o => { cls := o.cls, dict := some h.objs.size, data := o.data, slots := o.slots }).Ns h.objs.size (fun _ => none) :=
    ⟨_, #[], _, hgd, rfl, fun e he => absurd he (by simp), fun _ => rfl⟩
  have hge : ((h.push { cls := .type "dict", data := .dict #[] }).update e fun o => { cls := o.cls, dict := some h.objs.size, data := o.data, slots := o.slots }).get? e = some { excO C t0 with dict := some h.objs.size } :=
    Heap.get?_update_self _ he1 rfl
  have hrest : ∀ b o, b ≠ e → h.get? b = some o → ((h.push { cls := .type "dict", data := .dict #[] }).update e fun o => { cls := o.cls, dict := some h.objs.size, data := o.data, slots := o.slots }).get? b = some o := fun b o hb ho =>
    (Heap.get?_update_ne _ _ _ _ hb).trans (Heap.get?_push_of_some _ ho)
  have fin : ∀ (h1 : Heap), h1.Ns h.objs.size (fun _ => none) → h1.get? e = some { excO C t0 with dict := some h.objs.size } → (∀ b o, b ≠ e → h.get? b = some o → h1.get? b = some o) →
      wpAny (model prog w) A.in1 (Builtin.ObjectAttr.storeInDict h.objs.size (.str name tk) name v) (fun fin s' => match fin with | Fin.done f => R (Except.ok f) s' | Fin.again c' => c'.quiet = true ∧ codeAny (model prog w) A c' R s') (fun e s' => R (Except.error e) s') ⟨h1, g, d, t, os⟩ := by
    intro h1 hn1 he2 hk
    unfold Builtin.ObjectAttr.storeInDict Builtin.ObjectAttr.newKeyGuard
    refine wpAny_bind (wpAny_pure (wpAny_bind (wpAny_nsSet1 (Heap.Ns1.of_empty hn1) fun h' hn' hs => ?_)))
    obtain ⟨oD, esD, epD, hoD, hdD, hcD⟩ := hn'.count (Within.cons name v Within.nil)
    refine wpAny_bind (wpAny_lookBehind hoD (by rw [hdD]; exact pastItsLine_dict (Nat.le_trans hcD (by rw [List.length_cons, List.length_nil, sizeLine_eq]; lia))) ?_)
    wp_walk
    exact hq h' _ h.objs.size ((hs.2 e hes).trans he2) fun b o hb ho => (hs.2 b (Nat.ne_of_lt (Heap.lt_size ho))).trans (hk b o hb ho)
  generalize Builtin.ObjectAttr.storeInDict = SD at fin ⊢
  repeat (first | (with_reducible refine wpAny_loadPart_at he ?_) | with_reducible refine wpAny_mroOf_exc hC ?_ | wp_step)
  exact fin _ hnd hge hrest

theorem x_set {K : Frag} {e t0 : Addr} {name : Str} {v : Value} {Q : Unit → Shared → Prop} (X : K.In h) (hK : K.lookup C = some (KO nm q C N bs (exMro FE) true sn sub ab col dd k0 k1 k2 k3 k5))
    (hs : findIn K (.ref C) "__setattr__" = some (some (.builtin "object.__setattr__"))) (ht : findIn K (.ref C) name = some none) (he : h.get? e = some (excO C t0))
    (hq : ∀ h' tk' dx, h'.get? e = some { excO C t0 with dict := some dx } → (∀ b o, b ≠ e → h.get? b = some o → h'.get? b = some o) → Q () ⟨h', g, d, tk', os⟩) :
    wpAny (model prog w) A (setAttr (.ref e) name v) Q E ⟨h, g, d, t, os⟩ :=
  set_plain (s := ⟨h, g, d, t, os⟩) (ox := excO C t0) (od := none) X ⟨he, rfl, rfl, trivial⟩ hs (x_store (R := fun r s' => match r with | .ok (.ret _) => Q () s' | .ok _ => False | .error e => E e s') X hK ht he hq)
end
noncomputable def initSt : Stmt := match stAt 17 with | .ClassDef _ _ _ (b :: _) _ _ _ _ _ _ _ => b | s => s
noncomputable def initBody : List Stmt := match initSt with | .FunctionDef _ _ b _ _ _ _ _ _ _ => b | _ => []
noncomputable def initScope : Scope := match initSt with | .FunctionDef _ _ _ _ _ _ sc _ _ _ => sc | _ => PySem.Challenge.pw_sa0213_01.main.scope

/-- what the base holds of CodeFault -/
structure EH (C : Cx) (K : Frag) (CF fI FE : Addr) : Prop where
  X : K.In C.base
  lk : ∃ nm q N bs sn sub ab col dd k0 k1 k2 k3 k5, K.lookup CF = some (KO nm q CF N bs (exMro FE) true sn sub ab col dd k0 k1 k2 k3 k5)
  init : findIn K (.ref CF) "__init__" = some (some (.ref fI))
  fn : typeIn K (.ref fI) = some (.type "function")
  sa : findIn K (.ref CF) "__setattr__" = some (some (.builtin "object.__setattr__"))
  text : findIn K (.ref CF) "text" = some none
  ex : ∃ o fd, C.base.get? fI = some o ∧ o.data = .func fd ∧ fd.scope = initScope ∧ fd.body = .stmts initBody ∧ fd.closure = [] ∧ fd.globals = mainGlobals ∧ fd.builtins = builtinsNs ∧ C.base.CodeRec fd.code fd.qualname ∧
    ∀ a b : Value, bindArgs fd ⟨[a, b], []⟩ = pure [(("self" : Str), a), (("text" : Str), b)]
  lim : C.base.NoLimit
  cf : GName C "CodeFault" (.ref CF)
  exc : GName C "Exception" (.type "Exception")

theorem exc_found : findCls [] (.type "Exception") (.type "type") "__init__" = some (.val (.builtin "Exception.__init__")) := by kernel_rfl
theorem exc_meta : typeOf (.type "Exception") = pure (.type "type") := kitMeta_of (by decide +kernel)

theorem cf_type (CF FE : Addr) : (Value.ref CF :: exMro FE).contains (.type "Exception") = true := rfl

theorem ns_other {h h' : Heap} {L e : Addr} {m} (x : h.Ns L m) (hne : L ≠ e) (hk : ∀ b o, b ≠ e → h.get? b = some o → h'.get? b = some o) : h'.Ns L m := by
  obtain ⟨o, es, ep, ho, r⟩ := x
  exact ⟨o, es, ep, hk _ _ hne ho, r⟩

theorem x_body {C : Cx} {K : Frag} {CF fI FE : Addr} (H : EH C K CF fI FE) {A : Around} {E : Value → Shared → Prop} {Q : Flow → Shared → Prop} {env : Env} {s : Shared} {e t0 : Addr} {txt : Str} {tk : Tok} {mm : Str → Option Value} {p1 p2 p3 p4 p5 p6 p7 p8 p9 p10 : Pos}
    (eok : EOK env) (k1 : env.kindOf "self" = some .local) (k2 : env.kindOf "text" = some .local) (k3 : env.kindOf "Exception" = some .globalImplicit) (hns : s.heap.Ns env.locals mm) (m1 : mm "self" = some (.ref e)) (m2 : mm "text" = some (.str txt tk)) (heL : env.locals ≠ e)
    (hcall : eval (.Call (.Attribute (.Name "Exception" p1) "__init__" p2) [.Name "self" p3, .Name "text" p4] [] p5) env = (do
      let ov ← eval (.Name "Exception" p1) env
      standAt p2.atName
      let (f, first) ← holding [ov] (getMethod ov "__init__" (do return (← importBound (.Name "Exception" p1) env).getD true))
      callWith p5 f first (backTo p5 (starEach [.Name "self" p3, .Name "text" p4] env)) (backToKw p5 (keywordEach [] env)))) (hsw : swapsWith (.Call (.Attribute (.Name "Exception" p1) "__init__" p2) [.Name "self" p3, .Name "text" p4] [] p5) none p6.line env = pure false) (hi : interactive env = false)
    (hsw2 : swapsWith (.Name "text" p9) (some (.Attribute (.Name "self" p7) "text" p8)) p10.line env = pure false)
    (hW : W C [] [] s) (he : s.heap.get? e = some (excO CF t0)) (heb : C.base.get? e = none)
    (hQ : ∀ h' tk' t1 dx, h'.get? e = some { excO CF t1 with dict := some dx } → (∀ b o, b ≠ e → s.heap.get? b = some o → h'.get? b = some o) → Q .next { s with heap := h', toks := tk' }) :
    wpAny C.M A (execs [.Expr (.Call (.Attribute (.Name "Exception" p1) "__init__" p2) [.Name "self" p3, .Name "text" p4] [] p5) p6, .Assign [.Attribute (.Name "self" p7) "text" p8] (.Name "text" p9) p10] env) Q E s := by
  obtain ⟨nm, q, N, bs, sn, sub, ab, col, dd, c0, c1, c2, c3, c5, hlk⟩ := H.lk
  have XS := H.X.keeps hW.keep
  have hC := XS _ _ hlk
  obtain ⟨hh, g, dr, tt, os⟩ := s
  have F : Fr ⟨#[], {}⟩ env.locals hh mm := ⟨hns, fun b o e => by simp [Heap.get?] at e, Nat.zero_le _⟩
  have X0 : Frag.In [] ⟨#[], {}⟩ := fun _ _ h => nomatch h
  refine wpAny_execs_cons (wpAny_Expr ?_ hi hsw)
  refine methodCall_KW (pl := do return (← importBound (.Name "Exception" p1) env).getD true) ?_ hcall
  refine glob_wp eok k3 (by decide) H.exc hW ?_
  refine method_type (K := []) F X0 exc_meta (by kernel_rfl) exc_found (by decide +kernel) ?_
  rw [backTo2 rfl rfl]
  refine callWith_builtin rfl (evalArgs_plain ?_)
  refine spliced_cons (wpAny_Name (wpAny_loadName_local eok.kind k1 hns m1 ?_) (by decide))
  refine spliced_cons (wpAny_Name (wpAny_loadName_local eok.kind k2 hns m2 ?_) (by decide))
  refine spliced_nil ?_
  refine x_init (rest := [.str txt tk]) (cf_type CF FE) hC he (line4 (by simp)) fun h1 he1 hk1 => ?_
  have hns1 := ns_other hns heL hk1
  have XS1 : K.In h1 := H.X.keeps fun b o hb => hk1 b o (fun q => by rw [q, heb] at hb; cases hb) (hW.keep b o hb)
  refine wpAny_execs_cons (plainObj_wpAny_Assign_Attribute (wpAny_Name (wpAny_loadName_local eok.kind k2 hns1 m2 (wpAny_Name (wpAny_loadName_local eok.kind k1 hns1 m1 ?_) (by decide))) (by decide)) hsw2)
  refine x_set XS1 hlk H.sa H.text he1 fun h2 tk2 dx he2 hk2 => ?_
  exact wpAny_execs_nil (hQ h2 tk2 _ dx he2 fun b o hb ho => hk2 b o hb (hk1 b o hb ho))

theorem x_init_call {C : Cx} {K : Frag} {CF fI FE : Addr} (H : EH C K CF fI FE) {A : Around} {E : Value → Shared → Prop} {s : Shared} {e t0 : Addr} {txt : Str} {tk : Tok} {Q : Value → Shared → Prop} (hd : A.depth < recursionLimit)
    (hW : W C [] [] s) (he : s.heap.get? e = some (excO CF t0)) (heb : C.base.get? e = none)
    (hQ : ∀ h' tk' t1 dx, h'.get? e = some { excO CF t1 with dict := some dx } → (∀ b o, b ≠ e → s.heap.get? b = some o → h'.get? b = some o) → Q .none { s with heap := h', toks := tk' }) :
    wpAny C.M A (call (.ref fI) [.ref e, .str txt tk]) Q E s := by
  obtain ⟨o, fd, f1, f2, f3, f4, f5, f6, f7, f8, f9⟩ := H.ex
  have henv : callEnvC fd s.heap.objs.size fI = fenv initScope s.heap.objs.size (fd.qualname ++ ".<locals>.") fI fd.code := by
    unfold callEnvC fenv
    rw [f3, f6, f7]
  have hk := hW.keep
  refine wpAny_call (codeAny_call_cells hd (hk _ _ f1) f2 (H.lim.keeps hk) (f8.keeps hk) f4 (f9 _ _) f5 ?_ (fun s1 x => ?_) (by rw [f3]; rfl) (by rw [f3]; rfl) (by rw [f3]; rfl))
  · intro x hx
    rw [f3]
    rcases List.mem_cons.mp hx with rfl | hx
    · exact .inl (by kernel_rfl)
    · rw [List.mem_singleton.mp hx]; exact .inl (by kernel_rfl)
  · rw [henv] at x ⊢
    generalize hqn : fd.qualname ++ ".<locals>." = qual at x
    have hloc : (fenv initScope s.heap.objs.size qual fI fd.code).locals = s.heap.objs.size := rfl
    obtain ⟨h1, tk1, rfl, hk1⟩ := x.done
    have hL : s.heap.get? s.heap.objs.size = none := Heap.get?_none_of_le (Nat.le_refl _)
    have eok : EOK (fenv initScope s.heap.objs.size qual fI fd.code) := eok_fenv (by kernel_rfl)
    have hW1 : W C [] [] { s with heap := h1, toks := tk1 } := hW.grow hk1 rfl rfl
    have k1 : (fenv initScope s.heap.objs.size qual fI fd.code).kindOf "self" = some .local := by kernel_rfl
    have k2 : (fenv initScope s.heap.objs.size qual fI fd.code).kindOf "text" = some .local := by kernel_rfl
    have k3 : (fenv initScope s.heap.objs.size qual fI fd.code).kindOf "Exception" = some .globalImplicit := by kernel_rfl
    have hns := x.toInCall.ns
    have m1 : bindL (fenv initScope s.heap.objs.size qual fI fd.code).kindOf [(("self" : Str), Value.ref e), (("text" : Str), Value.str txt tk)] (fun _ => none) "self" = some (.ref e) := by
      have := bindL_get (kindOf := (fenv initScope s.heap.objs.size qual fI fd.code).kindOf) (ps := ["self", "text"]) (vals := [Value.ref e, Value.str txt tk]) (m := fun _ => none) (i := 0) (p := "self") (v := .ref e) (by decide +kernel) rfl rfl k1
      exact this
    have m2 : bindL (fenv initScope s.heap.objs.size qual fI fd.code).kindOf [(("self" : Str), Value.ref e), (("text" : Str), Value.str txt tk)] (fun _ => none) "text" = some (.str txt tk) := by
      have := bindL_get (kindOf := (fenv initScope s.heap.objs.size qual fI fd.code).kindOf) (ps := ["self", "text"]) (vals := [Value.ref e, Value.str txt tk]) (m := fun _ => none) (i := 1) (p := "text") (v := .str txt tk) (by decide +kernel) rfl rfl k2
      exact this
    generalize bindL (fenv initScope s.heap.objs.size qual fI fd.code).kindOf [(("self" : Str), Value.ref e), (("text" : Str), Value.str txt tk)] (fun _ => none) = mm at *
    rw [hloc] at hns
    have he1 : h1.get? e = some (excO CF t0) := hk1 _ _ he
    have heL : e ≠ s.heap.objs.size := fun q => by rw [q, hL] at he; cases he
    refine x_body H eok k1 k2 k3 hns m1 m2 (Ne.symm heL) (by rfl) (by rfl) (by rfl) (by rfl) hW1 he1 heb fun h' tk' t1 dx a1 a2 => ?_
    exact hQ h' tk' t1 dx a1 fun b o hb ho => a2 b o hb (hk1 b o ho)
section
variable {M : Model} {A : Around} {E : Value → Shared → Prop} {env : Env}
variable {nm q : Str} {C FE N : Addr} {bs : List Value} {hdct : Bool} {sn : List Str} {sub : List Value} {ab : Bool} {col : Option Bool} {dd : Option Addr} {k0 k1 k2 k3 k5 : Option Value}

theorem x_raiseStmt {s : Shared} {x : Sem Value} {Q : Flow → Shared → Prop} (hh : A.handled = none)
    (h : wpAny M A x (fun v s₁ => ∃ e t dx, v = .ref e ∧ s₁.heap.get? C = some (KO nm q C N bs (exMro FE) hdct sn sub ab col dd k0 k1 k2 k3 k5) ∧
      s₁.heap.get? e = some { excO C t with dict := some dx } ∧ E (.ref e) s₁) E s) :
    wpAny M A (raiseStmt env (some x) none) Q E s := by
  have hcB : (Value.ref C :: exMro FE).contains (.type "BaseException") = true := rfl
  unfold raiseStmt
  refine wpAny_bind (wpAny_mono h (fun v s₁ h₁ => ?_) fun _ _ x => x)
  obtain ⟨e, t, dx, rfl, hC, he, hE⟩ := h₁
  obtain ⟨hp, g, d, tk, os⟩ := s₁
  repeat (first | with_reducible refine wpAny_loadPart_at he ?_ | with_reducible refine wpAny_loadPart_at hC ?_ | (with_reducible refine wpAny_isSubtype_exc hC ?_; rw [hcB]) | wp_step)
  exact wpAny_raiseNew_none hh hE
end

theorem x_raise {C : Cx} {K : Frag} {CF fI FE : Addr} (H : EH C K CF fI FE) {A : Around} {E : Value → Shared → Prop} {Q : Flow → Shared → Prop} {env : Env} {s : Shared} {txt : Str} {u : Nat} {np p cpos pos : Pos}
    (eok : EOK env) (k : env.kindOf "CodeFault" = some .globalImplicit) (hh : A.handled = none) (hd : A.depth + 5 < recursionLimit) (hW : W C [] [] s)
    (hE : ∀ h' tk e t dx, (∀ b o, s.heap.get? b = some o → h'.get? b = some o) → s.heap.get? e = none → h'.get? e = some { excO CF t with dict := some dx } → E (.ref e) { s with heap := h', toks := tk }) :
    wpAny C.M A (exec (.Raise (some (.Call (.Name "CodeFault" np) [.Constant (.str txt) u p] [] cpos)) none pos) env) Q E s := by
  obtain ⟨nm, q, N, bs, sn, sub, ab, col, dd, c0, c1, c2, c3, c5, hlk⟩ := H.lk
  have XS := H.X.keeps hW.keep
  have hC := XS _ _ hlk
  rw [arm_exec_Raise]
  have key : wpAny C.M A (callWith cpos (.ref CF) [] (backTo cpos (starEach [.Constant (.str txt) u p] env)) []) (fun v s₁ => ∃ e t dx, v = .ref e ∧ s₁.heap.get? CF = some (KO nm q CF N bs (exMro FE) true sn sub ab col dd c0 c1 c2 c3 c5) ∧
      s₁.heap.get? e = some { excO CF t with dict := some dx } ∧ E (.ref e) s₁) E s := by
    rw [backTo1 rfl]
    unfold callWith
    refine wpAny_bind (wpAny_holding (evalArgs_plain (spliced_cons (wpAny_Constant_str (spliced_nil (wpAny_bind (wpAny_standAt ?_)))))))
    obtain ⟨hp, g, d, tk, os⟩ := s
    refine wpAny_bind (wpAny_keeperOf_exc hC ?_)
    refine wpAny_bind (x_call (cf_type CF FE) rfl rfl hC XS H.init H.fn (line4 (by simp)) fun h1 e t0 a1 a2 a3 a4 => ?_)
    have hW1 : W C [] [] ⟨h1, g, d, tk + 1, os⟩ := hW.grow (s' := ⟨h1, g, d, tk + 1, os⟩) a1 rfl rfl
    have heb : C.base.get? e = none := by
      cases q : C.base.get? e with
      | none => rfl
      | some o => rw [hW.keep _ _ q] at a2; cases a2
    refine x_init_call H (by show A.depth + 1 < _; lia) hW1 a4 heb fun h2 tk2 t1 dx b1 b2 => ⟨rfl, ?_⟩
    have kp : ∀ b o, hp.get? b = some o → h2.get? b = some o := fun b o hb => b2 b o (fun q => by rw [q, a2] at hb; cases hb) (a1 b o hb)
    refine wpAny_bind (wpAny_holding (wpAny_point (wpAny_pure ?_)))
    exact ⟨e, t1, dx, rfl, kp _ _ hC, b1, hE h2 tk2 e t1 dx kp a2 b1⟩
  have hmain : wpAny C.M A (eval (.Call (.Name "CodeFault" np) [.Constant (.str txt) u p] [] cpos) env) (fun v s₁ => ∃ e t dx, v = .ref e ∧ s₁.heap.get? CF = some (KO nm q CF N bs (exMro FE) true sn sub ab col dd c0 c1 c2 c3 c5) ∧
      s₁.heap.get? e = some { excO CF t with dict := some dx } ∧ E (.ref e) s₁) E s := wpAny_Call_Name_kw (glob_wp eok k (by decide) H.cf hW key)
  refine wpAny_bind (wpAny_standAt ?_)
  refine x_raiseStmt hh (wpAny_bind (wpAny_mono hmain (fun v s₃ h₃ => wpAny_bind (wpAny_standAt (wpAny_pure h₃))) fun _ _ x => x))
abbrev frs (l : List Env) : List Addr := l.filterMap (·.frame)

theorem frames_keep {base h h' : Heap} : ∀ {l : List Env}, h.FunFrames base l → (∀ b ∈ frs l, ∀ o, h.get? b = some o → ∃ o', h'.get? b = some o' ∧ o'.data = o.data) → h'.FunFrames base l
  | [], _, _ => trivial
  | env :: rest, ⟨hk, ⟨L, o, hf, hn, ho, hd⟩, hr⟩, hq => by
    have hL : L ∈ frs (env :: rest) := List.mem_filterMap.mpr ⟨env, List.mem_cons_self, hf⟩
    obtain ⟨o', ho', hd'⟩ := hq L hL o ho
    exact ⟨hk, ⟨L, o', hf, hn, ho', fun vs => hd' ▸ hd vs⟩, frames_keep hr fun b hb => hq b (by
      obtain ⟨e, he, h2⟩ := List.mem_filterMap.mp hb
      exact List.mem_filterMap.mpr ⟨e, List.mem_cons_of_mem _ he, h2⟩)⟩

theorem W.nil {C A mh s} (x : W C A mh s) : W C [] [] s := ⟨x.keep, rfl, List.nodup_nil, (fun _ h => nomatch h), (fun i a o h => by simp at h), x.gens, x.os⟩

/-- some of the heap hidden -/
theorem W.hide {C A mh} {s s' : Shared} (x : W C A mh s) {fr : List Addr} (hB : ∀ b ∈ fr, C.base.get? b = none) (hA : ∀ b ∈ fr, b ∉ A) (hI : ∀ b ∈ fr, ∀ o, s.heap.get? b = some o → ¬ Imm o) (e : s'.heap = hideAll s.heap fr) (hg : s'.gens = s.gens) (ho : s'.os = s.os) : W C A mh s' where
  keep b o h := by
    rw [e]
    exact hideAll_get _ (x.keep b o h) fun hm => by rw [hB b hm] at h; cases h
  len := x.len
  nodup := x.nodup
  fresh := x.fresh
  objs i a o ha hm := by
    rw [e]
    have r := x.objs i a o ha hm
    obtain ⟨ob, hob⟩ := r.there
    refine r.monoQ ⟨fun b o h _ hi => hideAll_get _ h fun hm => hI b hm o h hi, ⟨[], by simp⟩, fun _ h => .inl h⟩ ?_
    rw [hob]
    exact hideAll_get _ hob fun hm => hA a hm (List.mem_of_getElem? ha)
  gens := hg.trans x.gens
  os := ho.trans x.os

/-- raised in a callee, on the way out -/
structure RaisedM (C : Cx) (CF : Addr) (R : MH → Prop) (outer : List Env) (ad : List Addr) (s : Shared) (e : Addr) (s' : Shared) : Prop where
  ex : ∃ (B : Heap) (a0 : Value) (mh' : MH) (ad' : List Addr), R mh' ∧ Heap.FlyingW B outer e (.ref CF) a0 s'.heap ∧ W C ad' mh' { s' with heap := B } ∧
    (∀ b o, s.heap.get? b = some o → b ∉ ad → b ∉ frs outer → B.get? b = some o) ∧ (∀ b o, s.heap.get? b = some o → b ∉ ad → Imm o → B.get? b = some o) ∧
    (∃ D, ad' = ad ++ D) ∧ (∀ a ∈ ad', a ∈ ad ∨ s.heap.get? a = none)
  slots : ∀ b ∈ frs outer, ∀ o, s.heap.get? b = some o → ∃ sl, s'.heap.get? b = some { o with slots := sl }

/-- raised in the body -/
noncomputable def RB (C : Cx) (CF : Addr) (R : MH → Prop) (tab : List (Str × Nat)) (env : Env) (ad : List Addr) (s : Shared) (e : Addr) (s'' : Shared) : Prop :=
  ∃ (s' : Shared) (ad' : List Addr) (m' : MH) (vars' : Vars) (t dx : Addr), R m' ∧ W C ad' m' s' ∧ VOK C tab env ad' s'.heap vars' ∧ Stp (fas env) ad s ad' s' ∧ (∀ b o, s'.heap.get? b = some o → s''.heap.get? b = some o) ∧ s'.heap.get? e = none ∧
    s''.heap.get? e = some { excO CF t with dict := some dx } ∧ s''.gens = s'.gens ∧ s''.os = s'.os

theorem RB.trans {C CF R tab env ad s ad1 s1 e s''} (st : Stp (fas env) ad s ad1 s1) (x : RB C CF R tab env ad1 s1 e s'') : RB C CF R tab env ad s e s'' := by
  obtain ⟨s', ad', m', v', t, dx, h0, h1, h2, h3, h4⟩ := x
  exact ⟨s', ad', m', v', t, dx, h0, h1, h2, st.trans h3, h4⟩

noncomputable def SSX (C : Cx) (CF : Addr) (k : Nat) (tab : List (Str × Nat)) (env : Env) (st : Stmt) (P : (MH → Prop) → Vars → MH → Prop) : Prop :=
  ∀ (A : Around) (E : Value → Shared → Prop) (s : Shared) (ad : List Addr) (mh : MH) (vars : Vars) (Q : Flow → Shared → Prop) (R : MH → Prop),
    Room A k → W C ad mh s → VOK C tab env ad s.heap vars → P R vars mh → (∀ e s'', RB C CF R tab env ad s e s'' → E (.ref e) s'') → wpAny C.M A (exec st env) Q E s
noncomputable def SSsX (C : Cx) (CF : Addr) (k : Nat) (tab : List (Str × Nat)) (env : Env) (sts : List Stmt) (P : (MH → Prop) → Vars → MH → Prop) : Prop :=
  ∀ (A : Around) (E : Value → Shared → Prop) (s : Shared) (ad : List Addr) (mh : MH) (vars : Vars) (Q : Flow → Shared → Prop) (R : MH → Prop),
    Room A k → W C ad mh s → VOK C tab env ad s.heap vars → P R vars mh → (∀ e s'', RB C CF R tab env ad s e s'' → E (.ref e) s'') → wpAny C.M A (execs sts env) Q E s

section
variable {C : Cx} {CF : Addr} {k : Nat} {tab : List (Str × Nat)} {env : Env}
theorem SSsX_skip {st sts} {P : STT} {Px : (MH → Prop) → Vars → MH → Prop} (h : SS C k tab env st P) (hs : SSsX C CF k tab env sts Px) : SSsX C CF k tab env (st :: sts) (fun R vars mh => P (fun f v m => f = .next ∧ Px R v m) vars mh) := by
  intro A E s ad mh vars Q R hR hW hV hP hE
  refine wpAny_execs_cons (wpAny_mono (h A E s ad mh vars _ hR hW hV hP) (fun f s1 h1 => ?_) fun _ _ e => e)
  obtain ⟨mf, v1, m1, ad1, ⟨rfl, hq⟩, hf, hW1, hV1, st1⟩ := h1
  unfold FR at hf; subst hf
  exact hs A E s1 ad1 m1 v1 Q R hR hW1 hV1 hq fun e s'' x => hE e s'' (x.trans st1)
theorem SSsX_here {st sts} {P : (MH → Prop) → Vars → MH → Prop} (h : SSX C CF k tab env st P) : SSsX C CF k tab env (st :: sts) P := by
  intro A E s ad mh vars Q R hR hW hV hP hE
  exact wpAny_execs_cons (h A E s ad mh vars _ R hR hW hV hP hE)
theorem SSX_if {test body orelse pos} {Pt : BT} {Pb : (MH → Prop) → Vars → MH → Prop} (h : ST C k tab env test Pt) (hb : SSsX C CF k tab env body Pb) : SSX C CF k tab env (.If test body orelse pos) (fun R vars mh => Pt (fun b m => b = true ∧ Pb R vars m) vars mh) := by
  intro A E s ad mh vars Q R hR hW hV hP hE
  refine wpAny_If (wpAny_mono (h A E s ad mh vars _ hR hW hV hP) (fun b s1 h1 => ?_) fun _ _ e => e)
  obtain ⟨m1, ad1, ⟨rfl, hq⟩, hW1, st1⟩ := h1
  exact hb A E s1 ad1 m1 vars Q R hR hW1 (hV.step st1) hq fun e s'' x => hE e s'' (x.trans st1.up)
theorem SSX_raise {K fI FE txt u np p cpos pos} (H : EH C K CF fI FE) (eok : EOK env) (hk : env.kindOf "CodeFault" = some .globalImplicit) (h5 : 5 ≤ k) :
    SSX C CF k tab env (.Raise (some (.Call (.Name "CodeFault" np) [.Constant (.str txt) u p] [] cpos)) none pos) (fun R _ mh => R mh) := by
  intro A E s ad mh vars Q R hR hW hV hP hE
  refine x_raise H eok hk hR.handled (by have := hR.depth; lia) hW.nil fun h' tk e t dx a1 a2 a3 => hE e _ ⟨s, ad, mh, vars, t, dx, hP, hW, hV, Stp.refl .., a1, a2, a3, rfl, rfl⟩
end

/-- a call of a def whose body raises -/
theorem call_ownX {C : Cx} {CF : Addr} {f : Str} {ps : List Str} {sc : Scope} {body : List Stmt} (hf : FnF C f ps sc body) (names : List Str) (ho : SOK ps sc names) (nl : Nat) {k : Nat} {P : (MH → Prop) → Vars → MH → Prop} {R : MH → Prop} {args : List MV} {mh : MH}
    (hb : ∀ L qual code, FOK (fenv sc L qual (C.fa f) code) → SSsX C CF k (tabOf names) (fenv sc L qual (C.fa f) code) body P)
    (hl : args.length = ps.length) (hP : P R (args.map some ++ List.replicate nl none) mh)
    {A : Around} {E : Value → Shared → Prop} {s : Shared} {ad : List Addr} {vs : List Value} {Q : Value → Shared → Prop} {outer : List Env} (hR : Room A (k + 1)) (hfr : A.frames = some outer) (hFF : s.heap.FunFrames C.base outer) (hFA : ∀ b ∈ frs outer, b ∉ ad) (hFI : ∀ b ∈ frs outer, ∀ o, s.heap.get? b = some o → ¬ Imm o)
    (hW : W C ad mh s) (hv : VRs ad C.scr s.heap args vs) (hE : ∀ e s'', RaisedM C CF R outer ad s e s'' → E (.ref e) s'') : wpAny C.M A (call (.ref (C.fa f)) vs) Q E s := by
  refine wpAny_call (own_env hf ho (nl := nl) (by have := hR.depth; lia) hl hW hv fun qual code s1 hW1 hV1 hF hk hn => ?_)
  refine hb _ qual code hF _ _ s1 ad mh _ _ R hR.deeper hW1 hV1 hP fun e s' x => ?_
  obtain ⟨sr, ad', m', v', t, dx, hRm, hWr, hVr, st, kp, hfresh, hexc, hg, hos⟩ := x
  generalize henv : fenv sc s.heap.objs.size qual (C.fa f) code = env at *
  have hfe : env.frame = some s.heap.objs.size := by rw [← henv]; rfl
  have hloc : env.locals = s.heap.objs.size := by rw [← henv]; rfl
  have hkind : env.scope.kind ≠ .module := by rw [← henv]; show sc.kind ≠ _; rw [ho.kind]; decide
  have hLn : s.heap.get? s.heap.objs.size = none := Heap.get?_none_of_le (Nat.le_refl _)
  -- the outer frames lie as they lay
  have outerAt : ∀ b ∈ frs outer, ∀ o, s.heap.get? b = some o → sr.heap.get? b = some o := fun b hb o e0 => st.keep b o (hk b o e0) (hFA b hb) fun hm => by rw [hn b hm] at e0; cases e0
  have hFFr : sr.heap.FunFrames C.base outer := frames_keep hFF fun b hb o e0 => ⟨o, outerAt b hb o e0, rfl⟩
  obtain ⟨mm, hNs, _⟩ := hVr.ns
  rw [hloc] at hNs
  have hownL := hVr.own _ (List.mem_cons_self (a := env.locals))
  rw [hloc] at hownL
  have hFFe : sr.heap.FunFrames C.base (env :: outer) := .cons hkind hfe hNs hownL.1 hFFr
  have hfrs : frs (env :: outer) = s.heap.objs.size :: frs outer := by unfold frs; rw [List.filterMap_cons, hfe]
  have hin : ∀ en ∈ (env :: outer), ∀ a, en.frame = some a → a ∈ frs (env :: outer) := fun en he a ha => List.mem_filterMap.mpr ⟨en, he, ha⟩
  have hFFB := funFrames_hide hFFe hin
  generalize hB : hideAll sr.heap (frs (env :: outer)) = B at hFFB
  have hBr : B.StaysIn sr.heap := fun b o q => of_hideAll _ (hB ▸ q)
  have hBs : B.StaysIn s'.heap := fun b o q => kp b o (hBr b o q)
  have heB : B.get? e = none := by
    cases q : B.get? e with
    | none => rfl
    | some o => rw [hBr _ _ q] at hfresh; cases hfresh
  have hFFs : s'.heap.FunFrames B (env :: outer) := frames_keep hFFB fun b _ o e0 => ⟨o, kp b o e0, rfl⟩
  refine wpAny_leaving_firstW (Around.frames_deeper hfr) hFFs hfe hexc hBs heB rfl rfl rfl fun h' hL => ?_
  obtain ⟨k1, ⟨_, _, k2⟩, k3, k4⟩ := hL
  refine hE e _ ⟨⟨B, _, m', ad', hRm, ⟨k1, heB, k2, k3⟩, ?_, ?_, ?_, st.pre, ?_⟩, ?_⟩
  · refine hWr.hide (fr := frs (env :: outer)) (fun b hb => (hFFe.mem hb).1) (fun b hb hm => ?_) (fun b hb o e0 hi => ?_) hB.symm hg hos
    · rw [hfrs] at hb
      rcases List.mem_cons.mp hb with rfl | hb
      · exact hownL.2 hm
      · rcases st.new b hm with q | q
        · exact hFA b hb q
        · obtain ⟨o, ho, _⟩ := (hFF.mem hb).2
          rw [hk b o ho] at q; cases q
    · rw [hfrs] at hb
      rcases List.mem_cons.mp hb with rfl | hb
      · obtain ⟨o', es, ep, ho', hd', _⟩ := hNs
        rw [e0] at ho'; cases ho'
        exact not_imm_dict hd' hi
      · obtain ⟨o', ho', hd'⟩ := (hFF.mem hb).2
        have := outerAt b hb o' ho'
        rw [e0] at this; cases this
        exact hFI b hb o ho' hi
  · intro b o e0 hA hfr'
    rw [← hB]
    refine hideAll_get _ (st.keep b o (hk b o e0) hA fun hm => by rw [hn b hm] at e0; cases e0) fun hm => ?_
    rw [hfrs] at hm
    rcases List.mem_cons.mp hm with rfl | hm
    · rw [hLn] at e0; cases e0
    · exact hfr' hm
  · intro b o e0 hA hi
    rw [← hB]
    refine hideAll_get _ (st.imm b o (hk b o e0) hA hi) fun hm => ?_
    rw [hfrs] at hm
    rcases List.mem_cons.mp hm with rfl | hm
    · rw [hLn] at e0; cases e0
    · exact hFI b hm o e0 hi
  · intro a ha
    rcases st.new a ha with q | q
    · exact .inl q
    · right
      cases q' : s.heap.get? a with
      | none => rfl
      | some o => rw [hk a o q'] at q; cases q
  · intro b hb o e0
    obtain ⟨o', ho', hd'⟩ := (hFF.mem hb).2
    rw [e0] at ho'; cases ho'
    exact k4 b o (kp b o (outerAt b hb o e0)) hd'
/-- what a call leaves that may have marked the frames below -/
inductive PostF (C : Cx) (outer : List Env) (ad : List Addr) (s : Shared) (Q : MV → MH → Prop) (v : Value) (s' : Shared) : Prop
  | intro (mv : MV) (mh' : MH) (ad' : List Addr) (q : Q mv mh') (r : VR ad' C.scr s'.heap mv v) (w : W C ad' mh' s') (st : Stp (frs outer) ad s ad' s') (k : ∀ b ∈ frs outer, ∀ o, s.heap.get? b = some o → ∃ sl, s'.heap.get? b = some { o with slots := sl })

structure Outer (C : Cx) (A : Around) (outer : List Env) (ad : List Addr) (s : Shared) : Prop where
  frames : A.frames = some outer
  fun_ : s.heap.FunFrames C.base outer
  notA : ∀ b ∈ frs outer, b ∉ ad
  notI : ∀ b ∈ frs outer, ∀ o, s.heap.get? b = some o → ¬ Imm o

noncomputable def CallD (C : Cx) (k : Nat) (f : Str) (args : List MV) (Q : MV → MH → Prop) (mh : MH) : Prop :=
  ∀ (A : Around) (E : Value → Shared → Prop) (s : Shared) (ad : List Addr) (vs : List Value) (outer : List Env), Room A k → Outer C A outer ad s → W C ad mh s → VRs ad C.scr s.heap args vs →
    wpAny C.M A (call (.ref (C.fa f)) vs) (PostF C outer ad s Q) E s

/-- a call that surely raises CodeFault -/
noncomputable def CallX (C : Cx) (CF : Addr) (k : Nat) (f : Str) (args : List MV) (R : MH → Prop) (mh : MH) : Prop :=
  ∀ (A : Around) (E : Value → Shared → Prop) (s : Shared) (ad : List Addr) (vs : List Value) (outer : List Env) (Q : Value → Shared → Prop), Room A k → Outer C A outer ad s → W C ad mh s → VRs ad C.scr s.heap args vs →
    (∀ e s'', RaisedM C CF R outer ad s e s'' → E (.ref e) s'') → wpAny C.M A (call (.ref (C.fa f)) vs) Q E s

theorem CallX.of {C : Cx} {CF : Addr} {f : Str} {ps : List Str} {sc : Scope} {body : List Stmt} (hf : FnF C f ps sc body) (names : List Str) (ho : SOK ps sc names) (nl : Nat) {k : Nat} {P : (MH → Prop) → Vars → MH → Prop} {R : MH → Prop} {args : List MV} {mh : MH}
    (hb : ∀ L qual code, FOK (fenv sc L qual (C.fa f) code) → SSsX C CF k (tabOf names) (fenv sc L qual (C.fa f) code) body P)
    (hl : args.length = ps.length) (hP : P R (args.map some ++ List.replicate nl none) mh) : CallX C CF (k + 1) f args R mh :=
  fun _ _ _ _ _ _ _ hR hO hW hv hE => call_ownX hf names ho nl hb hl hP hR hO.frames hO.fun_ hO.notA hO.notI hW hv hE

theorem Post.postF {C outer ad s Q v s'} (x : Post C ad s Q v s') (hA : ∀ b ∈ frs outer, b ∉ ad) : PostF C outer ad s Q v s' := by
  obtain ⟨mv, mh', ad', h1, h2, h3, h4⟩ := x
  exact ⟨mv, mh', ad', h1, h2, h3, h4.mono (fun _ h => nomatch h), fun b hb o ho => ⟨o.slots, h4.keep b o ho (hA b hb) (fun h => nomatch h)⟩⟩

section
variable {C : Cx} {CF : Addr} {k : Nat} {tab : List (Str × Nat)} {env : Env}

/-- the suite behind the raise: caught, None is given back -/
theorem caught_none {K : Frag} {fI FE : Addr} (H : EH C K CF fI FE) (eok : EOK env) (hkx : env.kindOf "CodeFault" = some .globalImplicit) {R : MH → Prop} {A : Around} {E : Value → Shared → Prop} {outer : List Env} {ad : List Addr} {s0 s : Shared} {e : Addr} {Q : Flow → Shared → Prop} {np hpos rpos cpos : Pos} {u : Nat} {rest : List ExceptHandler}
    (hfr : A.frames = some (env :: outer)) {L : Addr} (hfe : env.frame = some L) (x : RaisedM C CF R (env :: outer) ad s0 e s)
    (hQ : ∀ h' mh' ad', R mh' → W C ad' mh' { s with heap := h' } → (∀ b o, s0.heap.get? b = some o → b ∉ ad → b ∉ frs (env :: outer) → h'.get? b = some o) → (∀ b o, s0.heap.get? b = some o → b ∉ ad → Imm o → h'.get? b = some o) → (∃ D, ad' = ad ++ D) → (∀ a ∈ ad', a ∈ ad ∨ s0.heap.get? a = none) →
      (∀ b ∈ frs (env :: outer), ∀ o, s0.heap.get? b = some o → (∀ vs, o.data ≠ .fields vs) → ∃ sl, h'.get? b = some { o with slots := sl }) → Q (.ret .none) { s with heap := h' }) :
    wpAny C.M A (noteFrame (.ref e) env) (fun _ s₂ => wpAny C.M A (setFlight (.ref e) none) (fun _ s₃ => wpAny C.M A (handleBy (.ref e) env (.ExceptHandler (some (.Name "CodeFault" np)) none [.Return (some (.Constant .none u cpos)) rpos] hpos :: rest)) Q E s₃) E s₂) E s := by
  obtain ⟨nm, q, N, bs, sn, sub, ab, col, dd, c0, c1, c2, c3, c5, hlk⟩ := H.lk
  obtain ⟨⟨B, a0, mh', ad', hRm, hfl, hWB, hk, hi, hpre, hnew⟩, hsl⟩ := x
  have WB : ∀ h', B.StaysIn h' → W C ad' mh' { s with heap := h' } := fun h' hB => hWB.grow (s' := { s with heap := h' }) hB rfl rfl
  refine wpAny_looks_onW hfr hfe hfl fun h₄ hheld₄ hsm₄ => ?_
  refine wpAny_landsW hheld₄ fun h₅ hheld hsm₅ => ?_
  obtain ⟨ob, hob, hobc⟩ := hheld.there
  have hW5 := WB h₅ hheld.1
  refine wpAny_handleBy_cons (codeAny_handlers_test ?_) (by intro q; cases q)
  refine glob_wp eok hkx (by decide) H.cf hW5 ?_
  have hC : h₅.get? CF = some (KO nm q CF N bs (exMro FE) true sn sub ab col dd c0 c1 c2 c3 c5) := hW5.keep _ _ (H.X _ _ hlk)
  refine wpAny_excMatches_sub_self hC hob hobc (by rfl) ?_
  refine codeAny_handlers_suite ?_
  refine lands_againW hheld fun h₆ hfl₆ hsm₆ => ?_
  refine wpAny_noRaise ?_
  refine wpAny_execs_cons (wpAny_Return_some (wpAny_Constant_none ?_))
  refine hQ h₆ mh' ad' hRm (WB h₆ hfl₆.1) (fun b o h1 h2 h3 => hfl₆.1 b o (hk b o h1 h2 h3)) (fun b o h1 h2 h3 => hfl₆.1 b o (hi b o h1 h2 h3)) hpre hnew fun b hb o ho hd => ?_
  obtain ⟨sl, h1⟩ := hsl b hb o ho
  obtain ⟨sl2, h2⟩ := ((hsm₄.trans hsm₅).trans hsm₆) b _ h1 hd
  exact ⟨sl2, h2⟩
end
/-- dealt_ops: gives back, or raises -/
noncomputable def Either (C : Cx) (CF : Addr) (k : Nat) (args : List MV) (Q : MV → MH → Prop) (mh : MH) : Prop :=
  CallR C k "dealt_ops" args Q mh ∨ ∃ R, CallX C CF k "dealt_ops" args R mh ∧ ∀ m, R m → Q .none m

theorem Stp.back {X fs : List Addr} {A A1 A' : List Addr} {s s1 s2 s' : Shared} (hk : ∀ b o, s.heap.get? b = some o → s1.heap.get? b = some o) (st : Stp [] A s1 A1 s2)
    (kp : ∀ b o, s2.heap.get? b = some o → b ∉ A1 → b ∉ fs → s'.heap.get? b = some o) (im : ∀ b o, s2.heap.get? b = some o → b ∉ A1 → Imm o → s'.heap.get? b = some o) (pre : ∃ D, A' = A1 ++ D) (nw : ∀ a ∈ A', a ∈ A1 ∨ s2.heap.get? a = none)
    (hfs : ∀ b ∈ fs, b ∈ X ∨ s.heap.get? b = none) (live : ∀ b ∈ A', s'.heap.get? b ≠ none) (sl : ∀ b ∈ X, ∀ o, s.heap.get? b = some o → s'.heap.get? b ≠ none) : Stp X A s A' s' := by
  have notA1 : ∀ b o, s.heap.get? b = some o → b ∉ A → b ∉ A1 := fun b o e h hm => by
    rcases st.new b hm with q | q
    · exact h q
    · rw [hk b o e] at q; cases q
  have kk : ∀ b o, s.heap.get? b = some o → b ∉ A → b ∉ X → s'.heap.get? b = some o := fun b o e hA hX =>
    kp b o (st.keep b o (hk b o e) hA (fun h => nomatch h)) (notA1 b o e hA) fun hm => by
      rcases hfs b hm with q | q
      · exact hX q
      · rw [q] at e; cases e
  have pre' : ∃ D, A' = A ++ D := by
    obtain ⟨D1, rfl⟩ := st.pre
    obtain ⟨D2, rfl⟩ := pre
    exact ⟨D1 ++ D2, by simp⟩
  refine ⟨kk, fun b o e hA hi => im b o (st.imm b o (hk b o e) hA hi) (notA1 b o e hA) hi, fun b e => ?_, pre', fun a ha => ?_⟩
  · cases q : s.heap.get? b with
    | none => exact absurd q e
    | some o =>
      by_cases hA : b ∈ A
      · obtain ⟨D, rfl⟩ := pre'
        exact live b (List.mem_append_left _ hA)
      · by_cases hX : b ∈ X
        · exact sl b hX o q
        · rw [kk b o q hA hX]; exact fun h => nomatch h
  · rcases nw a ha with q | q
    · rcases st.new a q with r | r
      · exact .inl r
      · right
        cases e : s.heap.get? a with
        | none => rfl
        | some o => rw [hk a o e] at r; cases r
    · by_cases hA : a ∈ A
      · exact .inl hA
      · right
        cases e : s.heap.get? a with
        | none => rfl
        | some o => rw [st.keep a o (hk a o e) hA (fun h => nomatch h)] at q; cases q

theorem c_law_dealt {C : Cx} {CF : Addr} {K : Frag} {fI FE : Addr} (H : Hyp C) (X : EH C K CF fI FE) {k i ist : Nat} {c : Int} {Q : MV → MH → Prop} {mh : MH} (h : Either C CF k [.ref i, .ref ist, .int c] Q mh) :
    CallD C (k + 1) "_law_dealt" [.ref i, .ref ist, .int c] Q mh := by
  intro A E s ad vs outer hR hO hW hv
  refine wpAny_call (own_env H.f__law_dealt (names := ["ops", "starts", "count"]) (sok_mk (by kernel_rfl)) (nl := 0) (by have := hR.depth; lia) rfl hW hv fun qual code s1 hW1 hV1 hF hk hn => ?_)
  have he : EOK (fenv (scopeAt 35) s.heap.objs.size qual (C.fa "_law_dealt") code) := eok_fenv (by kernel_rfl)
  have hx : (fenv (scopeAt 35) s.heap.objs.size qual (C.fa "_law_dealt") code).kindOf "CodeFault" = some .globalImplicit := by kernel_rfl
  have hcall : SSs C k (tabOf ["ops", "starts", "count"]) (fenv (scopeAt 35) s.heap.objs.size qual (C.fa "_law_dealt") code) _ _ := SSs_cons (SS_return (SE_call (pos := ⟨272, 15, 272, 44⟩) (fpos := ⟨272, 15, 272, 24⟩) (f := "dealt_ops") he (by kernel_rfl) (by kernel_rfl) H.f_dealt_ops.at
    (SEL_cons (SE_local (x := "ops") (pos := ⟨272, 25, 272, 28⟩) (i := 0) he (by kernel_rfl) (by kernel_rfl) (by kernel_rfl)) (SEL_cons (SE_local (x := "starts") (pos := ⟨272, 30, 272, 36⟩) (i := 1) he (by kernel_rfl) (by kernel_rfl) (by kernel_rfl)) (SEL_cons (SE_local (x := "count") (pos := ⟨272, 38, 272, 43⟩) (i := 2) he (by kernel_rfl) (by kernel_rfl) (by kernel_rfl)) SEL_nil rfl) rfl) rfl) rfl) (pos := ⟨272, 8, 272, 44⟩)) SSs_nil
  have hargs : SEL C k (tabOf ["ops", "starts", "count"]) (fenv (scopeAt 35) s.heap.objs.size qual (C.fa "_law_dealt") code) _ _ := SEL_cons (SE_local (x := "ops") (pos := ⟨272, 25, 272, 28⟩) (i := 0) he (by kernel_rfl) (by kernel_rfl) (by kernel_rfl)) (SEL_cons (SE_local (x := "starts") (pos := ⟨272, 30, 272, 36⟩) (i := 1) he (by kernel_rfl) (by kernel_rfl) (by kernel_rfl)) (SEL_cons (SE_local (x := "count") (pos := ⟨272, 38, 272, 43⟩) (i := 2) he (by kernel_rfl) (by kernel_rfl) (by kernel_rfl)) SEL_nil rfl) rfl) rfl
  have hdk : (fenv (scopeAt 35) s.heap.objs.size qual (C.fa "_law_dealt") code).kindOf "dealt_ops" = some .globalImplicit := by kernel_rfl
  refine wpAny_execs_cons (wpAny_Try_except ?_)
  have hfe : (fenv (scopeAt 35) s.heap.objs.size qual (C.fa "_law_dealt") code).frame = some s.heap.objs.size := rfl
  have hloc : (fenv (scopeAt 35) s.heap.objs.size qual (C.fa "_law_dealt") code).locals = s.heap.objs.size := rfl
  have hkind : (fenv (scopeAt 35) s.heap.objs.size qual (C.fa "_law_dealt") code).scope.kind ≠ .module := by rw [show (fenv (scopeAt 35) s.heap.objs.size qual (C.fa "_law_dealt") code).scope.kind = .function from by kernel_rfl]; decide
  generalize fenv (scopeAt 35) s.heap.objs.size qual (C.fa "_law_dealt") code = env at *
  rcases h with h | ⟨R, h, hRQ⟩
  · refine wpAny_mono (hcall (A.deeper env) _ s1 ad mh _ (fun f v m => match f with | .ret x => Q x m | _ => False) hR.deeper hW1 hV1 ?_) (fun f s2 h2 => ?_) fun _ _ e => e
    · exact ⟨_, rfl, _, rfl, _, rfl, h⟩
    · obtain ⟨mf, v', m', ad', hq, hfr, hW', hV', st'⟩ := h2
      have st := st'.drop hk hn
      cases mf with
      | ret m =>
        obtain ⟨v, rfl, hv⟩ := hfr
        exact Post.postF ⟨m, m', ad', hq, hv, hW', st⟩ hO.notA
      | next => exact hq.elim
      | brk => exact hq.elim
      | cont => exact hq.elim
  · refine wpAny_execs_cons (wpAny_Return_some ?_)
    refine wpAny_Call_Name_kw (glob_wp he hdk (by decide) H.f_dealt_ops.nm hW1 ?_)
    obtain ⟨o, fd, g1, g2, g3⟩ := H.f_dealt_ops.at
    refine callWith_function (o := o) (fd := fd) (args_wp hargs rfl hR.deeper hW1 hV1 (R := fun ms m => ms = [.ref i, .ref ist, .int c] ∧ m = mh) ?_ fun vs2 s2 hl => ?_)
    · exact ⟨_, rfl, _, rfl, _, rfl, rfl, rfl⟩
    obtain ⟨ms, mh2, ad2, ⟨rfl, rfl⟩, hv2, hW2, st2⟩ := hl
    refine ⟨⟨hW2.keep _ _ g1, g2⟩, ?_⟩
    have hV2 := hV1.step st2
    have nA2 : ∀ b o, s.heap.get? b = some o → b ∉ ad → b ∉ ad2 := fun b o e h hm => by
      rcases st2.new b hm with q | q
      · exact h q
      · rw [hk b o e] at q; cases q
    have out2 : ∀ b ∈ frs outer, ∀ o, s.heap.get? b = some o → s2.heap.get? b = some o := fun b hb o e => st2.keep b o (hk b o e) (hO.notA b hb) (fun h => nomatch h)
    obtain ⟨mm, hNs, _⟩ := hV2.ns
    have hown := hV2.own _ (List.mem_cons_self (a := env.locals))
    rw [hloc] at hNs hown
    have hfrs : frs (env :: outer) = s.heap.objs.size :: frs outer := by unfold frs; rw [List.filterMap_cons, hfe]
    have hLn : s.heap.get? s.heap.objs.size = none := Heap.get?_none_of_le (Nat.le_refl _)
    have hO2 : Outer C (A.deeper env) (env :: outer) ad2 s2 := by
      refine ⟨Around.frames_deeper hO.frames, .cons hkind hfe hNs hown.1 (frames_keep hO.fun_ fun b hb o e => ⟨o, out2 b hb o e, rfl⟩), fun b hb => ?_, fun b hb o e => ?_⟩
      · rw [hfrs] at hb
        rcases List.mem_cons.mp hb with rfl | hb
        · exact hown.2
        · obtain ⟨o, ho, _⟩ := (hO.fun_.mem hb).2
          exact nA2 b o ho (hO.notA b hb)
      · rw [hfrs] at hb
        rcases List.mem_cons.mp hb with rfl | hb
        · exact ns_dict hNs o e
        · obtain ⟨o', ho', _⟩ := (hO.fun_.mem hb).2
          have := out2 b hb o' ho'
          rw [e] at this; cases this
          exact hO.notI b hb o ho'
    refine h (A.deeper env) _ s2 ad2 vs2 (env :: outer) _ hR.deeper hO2 hW2 hv2 fun e s3 x => ?_
    refine caught_none X he hx (Around.frames_deeper hO.frames) hfe x fun h' mh' ad' hRm hW' kp im pre nw sl => ?_
    refine ⟨.none, mh', ad', hRQ mh' hRm, VR.none', hW', ?_, ?_⟩
    · refine Stp.back (X := frs outer) (s' := { s3 with heap := h' }) hk st2 kp im pre nw (fun b hb => ?_) (fun b hb => ?_) fun b hb o e => ?_
      · rw [hfrs] at hb
        rcases List.mem_cons.mp hb with rfl | hb
        · exact .inr hLn
        · exact .inl hb
      · obtain ⟨o, ho⟩ := hW'.there hb
        have ho : h'.get? b = some o := ho
        show h'.get? b ≠ none
        rw [ho]; exact fun h => nomatch h
      · obtain ⟨o', ho', hd'⟩ := (hO.fun_.mem hb).2
        obtain ⟨sl', hs'⟩ := sl b (by rw [hfrs]; exact List.mem_cons_of_mem _ hb) o' (out2 b hb o' ho') hd'
        show h'.get? b ≠ none
        rw [hs']; exact fun h => nomatch h
    · intro b hb o e
      obtain ⟨o', ho', hd'⟩ := (hO.fun_.mem hb).2
      rw [e] at ho'; cases ho'
      exact sl b (by rw [hfrs]; exact List.mem_cons_of_mem _ hb) o (out2 b hb o e) hd'
/-- the frame's own namespace may have been marked -/
theorem VOK.marked {C tab env A A' vars} {h0 h1 : Heap} (x : VOK C tab env A h0 vars) (hF : FOK env) (st : Stq A h0 A' h1) (hl : ∀ o, h0.get? env.locals = some o → ∃ sl, h1.get? env.locals = some { o with slots := sl })
    (hc : ∀ b ∈ fas env, b ≠ env.locals → ∀ o, h0.get? b = some o → h1.get? b = some o) (hn : ∀ b ∈ fas env, b ∉ A') : VOK C tab env A' h1 vars := by
  have cellM : ∀ n c, (n, c) ∈ env.cells → c ∈ fas env ∧ c ≠ env.locals := fun n c h => ⟨mem_fas h, cell_not_locals hF h⟩
  refine ⟨?_, fun y i mv c h1' h2 h3 h4 => ?_, fun y c h1' => ?_, fun b hb => ⟨(x.own b hb).1, hn b hb⟩⟩
  · obtain ⟨m, ⟨o, es, ep, ho, hd, r⟩, hm⟩ := x.ns
    obtain ⟨sl, hs⟩ := hl o ho
    refine ⟨m, ⟨_, es, ep, hs, hd, r⟩, fun y i mv h1 h2 h3 => ?_⟩
    obtain ⟨v, hv, hr⟩ := hm y i mv h1 h2 h3
    exact ⟨v, hv, hr.monoQ st⟩
  · obtain ⟨v, ⟨o, ho, hd⟩, hr⟩ := x.cell y i mv c h1' h2 h3 h4
    have := cellM y c (mem_of_lookup h4)
    exact ⟨v, ⟨o, hc c this.1 this.2 o ho, hd⟩, hr.monoQ st⟩
  · obtain ⟨v, o, ho, hd⟩ := x.live y c h1'
    have := cellM y c h1'
    exact ⟨v, o, hc c this.1 this.2 o ho, hd⟩

/-- what an expression leaves where calls below may raise and be caught -/
inductive PostZ (C : Cx) (tab : List (Str × Nat)) (env : Env) (ad : List Addr) (s : Shared) (vars : Vars) (Q : MV → MH → Prop) (v : Value) (s' : Shared) : Prop
  | intro (mv : MV) (mh' : MH) (ad' : List Addr) (q : Q mv mh') (r : VR ad' C.scr s'.heap mv v) (w : W C ad' mh' s') (v : VOK C tab env ad' s'.heap vars) (st : Stp (fas env) ad s ad' s')

noncomputable def SEZ (C : Cx) (A : Around) (tab : List (Str × Nat)) (env : Env) (e : Expr) (P : MT) : Prop :=
  ∀ (E : Value → Shared → Prop) (s : Shared) (ad : List Addr) (mh : MH) (vars : Vars) (Q : MV → MH → Prop), W C ad mh s → VOK C tab env ad s.heap vars → P Q vars mh → wpAny C.M A (eval e env) (PostZ C tab env ad s vars Q) E s
noncomputable def SSZ (C : Cx) (A : Around) (tab : List (Str × Nat)) (env : Env) (st : Stmt) (P : STT) : Prop :=
  ∀ (E : Value → Shared → Prop) (s : Shared) (ad : List Addr) (mh : MH) (vars : Vars) (Q : MF → Vars → MH → Prop), W C ad mh s → VOK C tab env ad s.heap vars → P Q vars mh → wpAny C.M A (exec st env) (PostS C tab env ad s Q) E s
noncomputable def SSsZ (C : Cx) (A : Around) (tab : List (Str × Nat)) (env : Env) (sts : List Stmt) (P : STT) : Prop :=
  ∀ (E : Value → Shared → Prop) (s : Shared) (ad : List Addr) (mh : MH) (vars : Vars) (Q : MF → Vars → MH → Prop), W C ad mh s → VOK C tab env ad s.heap vars → P Q vars mh → wpAny C.M A (execs sts env) (PostS C tab env ad s Q) E s

section
variable {C : Cx} {k : Nat} {tab : List (Str × Nat)} {env : Env} {A : Around}

theorem SSZ_of {st P} (hR : Room A k) (h : SS C k tab env st P) : SSZ C A tab env st P := fun E s ad mh vars Q hW hV hP => h A E s ad mh vars Q hR hW hV hP
theorem SSsZ_nil : SSsZ C A tab env [] tNil :=
  fun _ _ ad mh vars _ hW hV hP => wpAny_execs_nil ⟨.next, vars, mh, ad, hP, rfl, hW, hV, Stp.refl ..⟩
theorem SSsZ_cons {st sts} {P Ps : STT} (h : SSZ C A tab env st P) (hs : SSsZ C A tab env sts Ps) :
    SSsZ C A tab env (st :: sts) (tSeq P Ps) := by
  intro E s ad mh vars Q hW hV hP
  refine wpAny_execs_cons (wpAny_mono (h E s ad mh vars _ hW hV hP) (fun f s1 h1 => ?_) fun _ _ e => e)
  obtain ⟨mf, v1, m1, ad1, hq, hf, hW1, hV1, st1⟩ := h1
  cases mf with
  | next =>
    unfold FR at hf; subst hf
    exact wpAny_mono (hs E s1 ad1 m1 v1 Q hW1 hV1 hq) (fun f s2 h2 => h2.trans st1) fun _ _ e => e
  | brk => unfold FR at hf; subst hf; exact ⟨.brk, v1, m1, ad1, hq, rfl, hW1, hV1, st1⟩
  | cont => unfold FR at hf; subst hf; exact ⟨.cont, v1, m1, ad1, hq, rfl, hW1, hV1, st1⟩
  | ret m => obtain ⟨v, rfl, hv⟩ := hf; exact ⟨.ret m, v1, m1, ad1, hq, ⟨v, rfl, hv⟩, hW1, hV1, st1⟩

@[reducible] noncomputable def tCallD (C : Cx) (k : Nat) (f : Str) (PL : LT) : MT := fun Q vars mh => PL (fun ms mh1 => CallD C k f ms Q mh1) vars mh
theorem SEZ_callD {f fpos pos e es} {PL : LT} (hR : Room A k) (hF : FOK env) (hfr : A.frames = some [env]) (hfe : env.frame = some env.locals) (he : EOK env) (hk : env.kindOf f = some .globalImplicit) (hd : (f == ("__debug__" : Str)) = false) (hf : FnAt C f)
    (ha : SEL C k tab env (e :: es) PL) (hst : notStar e = true) :
    SEZ C A tab env (.Call (.Name f fpos) (e :: es) [] pos) (tCallD C k f PL) := by
  intro E s ad mh vars Q hW hV hP
  obtain ⟨o, fd, h1, h2, h3⟩ := hf
  refine wpAny_Call_Name_kw (glob_wp he hk hd h3 hW ?_)
  show wpAny C.M A (callWith pos (.ref (C.fa f)) [] (backTo pos (starEach (e :: es) env)) []) _ E s
  refine callWith_function (o := o) (fd := fd) (args_wp ha hst hR hW hV hP fun vs s1 hl => ?_)
  obtain ⟨ms, mh1, ad1, hq, hv, hW1, st1⟩ := hl
  have hV1 := hV.step st1
  obtain ⟨mm, hNs, _⟩ := hV1.ns
  have hown := hV1.own _ (List.mem_cons_self (a := env.locals))
  have hfrs : frs [env] = [env.locals] := by unfold frs; rw [List.filterMap_cons, hfe]; rfl
  have hO : Outer C A [env] ad1 s1 := ⟨hfr, .cons (by rw [he.kind]; decide) hfe hNs hown.1 trivial, fun b hb => by rw [hfrs] at hb; rw [List.mem_singleton.mp hb]; exact hown.2,
    fun b hb o e => by rw [hfrs] at hb; rw [List.mem_singleton.mp hb] at e; exact ns_dict hNs o e⟩
  refine ⟨⟨hW1.keep _ _ h1, h2⟩, wpAny_mono (hq A E s1 ad1 vs [env] hR hO hW1 hv) (fun v s2 h => ?_) fun _ _ e => e⟩
  obtain ⟨mv, mh2, ad2, hq2, hv2, hW2, st2, sl⟩ := h
  rw [hfrs] at st2 sl
  have hn2 : ∀ b ∈ fas env, b ∉ ad2 := fun b hb hm => by
    rcases st2.new b hm with q | q
    · exact (hV1.own b hb).2 q
    · obtain ⟨o, ho⟩ := hV1.fas_there b hb
      rw [q] at ho; cases ho
  refine ⟨mv, mh2, ad2, hq2, hv2, hW2, hV1.marked hF st2.q (fun o ho => sl _ (List.mem_singleton.mpr rfl) o ho) (fun b hb hne o ho => st2.keep b o ho (hV1.own b hb).2 (by simpa using hne)) hn2, st1.up.trans (st2.mono fun b hb => by rw [List.mem_singleton.mp hb]; exact List.mem_cons_self)⟩

/-- name = value -/
theorem SSZ_assign {t value pos} {P : MT} {Pt : AT} (hR : Room A k) (h : SEZ C A tab env value P) (ht : SA C k tab env t Pt) (hst : notStar t = true)
    (hs : swapsWithSole [t] value pos.line env = pure false) (hw : swappedStores [t] value env = pure none) :
    SSZ C A tab env (.Assign [t] value pos) (tAssign P Pt) := by
  intro E s ad mh vars Q hW hV hP
  refine wpAny_Assign_stores (wpAny_mono (h E s ad mh vars _ hW hV hP) (fun v s1 h1 => ?_) fun _ _ e => e) hs hw
  obtain ⟨mv, m1, ad1, hq, hv, hW1, hV1, st1⟩ := h1
  rw [assignEach_plain hst]
  show wpAny C.M A (assign t env v) _ E s1
  refine wpAny_mono (ht A E s1 ad1 m1 vars _ mv v hR hW1 hV1 hv hq) (fun _ s2 h2 => ?_) fun _ _ e => e
  obtain ⟨v2, m2, ad2, hq2, hW2, hV2, st2⟩ := h2
  exact ⟨.next, v2, m2, ad2, hq2, rfl, hW2, hV2, st1.trans st2⟩

@[reducible] noncomputable def tPairS (i j : Nat) (P1 P2 : MT) : STT := fun Q vars mh => P1 (fun a m1 => P2 (fun b m2 => Q .next ((vars.set j (some b)).set i (some a)) m2) vars m1) vars mh
/-- x, y = (a, b), both calls -/
theorem SSZ_pair {t e1 e2 : Expr} {u : Nat} {tpos pos : Pos} {x y : Str} {i j : Nat} {P1 P2 : MT} (he : EOK env) (hT : TOK tab) (hF : FOK env) (hR : Room A k) (hs : swapsWithSole [t] (.Tuple [e1, e2] u tpos) pos.line env = pure false) (hw : swappedStores [t] (.Tuple [e1, e2] u tpos) env = pure (some [x, y]))
    (hx : env.kindOf x = some .local) (hy : env.kindOf y = some .local) (ix : tab.lookup x = some i) (iy : tab.lookup y = some j) (h1 : SEZ C A tab env e1 P1) (h2 : SEZ C A tab env e2 P2) (n1 : notStar e1 = true) (n2 : notStar e2 = true) :
    SSZ C A tab env (.Assign [t] (.Tuple [e1, e2] u tpos) pos) (tPairS i j P1 P2) := by
  intro E s ad mh vars Q hW hV hP
  rw [exec_Assign_arm]
  refine wpAny_bind (wpAny_standAt ?_)
  rw [hs]
  refine wpAny_bind (wpAny_pure ?_)
  rw [if_neg (by decide)]
  refine wpAny_bind (PyProof.Rows.Tuple_ ?_)
  rw [backTo2 n1 n2]
  refine spliced_cons (wpAny_mono (h1 E s ad mh vars _ hW hV hP) (fun va s1 q1 => ?_) fun _ _ e => e)
  obtain ⟨ma, m1, ad1, hq1, hva, hW1, hV1, st1⟩ := q1
  refine spliced_cons (wpAny_mono (h2 E s1 ad1 m1 vars _ hW1 hV1 hq1) (fun vb s2 q2 => ?_) fun _ _ e => e)
  obtain ⟨mb, m2, ad2, hq2, hvb, hW2, hV2, st2⟩ := q2
  refine spliced_nil (wpAny_newTuple ?_ (line4 (by simp)))
  rw [hw]
  refine wpAny_bind (wpAny_pure ?_)
  have hg2 : ∀ b o, s2.heap.get? b = some o → (s2.heap.push { cls := .type "tuple", data := .seq #[va, vb] }).get? b = some o := fun _ _ e => Heap.get?_push_of_some _ e
  have l1 : IsT (s2.heap.push { cls := .type "tuple", data := .seq #[va, vb] }) s2.heap.objs.size [va, vb].toArray 0 := Heap.get?_push_size _ rfl
  have hW2' : W C ad2 m2 { s2 with heap := s2.heap.push { cls := .type "tuple", data := .seq #[va, vb] } } := hW2.grow (s' := { s2 with heap := s2.heap.push { cls := .type "tuple", data := .seq #[va, vb] } }) hg2 rfl rfl
  have st2' : Stp (fas env) ad1 s1 ad2 { s2 with heap := s2.heap.push { cls := .type "tuple", data := .seq #[va, vb] } } := st2.trans (Stp.grow (s' := { s2 with heap := s2.heap.push { cls := .type "tuple", data := .seq #[va, vb] } }) hg2)
  have hV2' : VOK C tab env ad2 (s2.heap.push { cls := .type "tuple", data := .seq #[va, vb] }) vars := hV2.step (s' := { s2 with heap := s2.heap.push { cls := .type "tuple", data := .seq #[va, vb] } }) (Stp.grow hg2)
  have hva2 : VR ad2 C.scr (s2.heap.push { cls := .type "tuple", data := .seq #[va, vb] }) ma va := hva.mono st2'
  have hvb2 : VR ad2 C.scr (s2.heap.push { cls := .type "tuple", data := .seq #[va, vb] }) mb vb := hvb.mono (Stp.grow (X := []) (s := s2) (s' := { s2 with heap := s2.heap.push { cls := .type "tuple", data := .seq #[va, vb] } }) hg2)
  generalize s2.heap.push { cls := .type "tuple", data := .seq #[va, vb] } = hp at *
  show wpAny C.M A (do rule "assign.swapped-stores"; let items ← unpackItems (.ref s2.heap.objs.size) [x, y].length none; assignInOrder ([x, y].reverse.map fun n => bindName env n) items.reverse; pure Flow.next) _ E { s2 with heap := hp }
  refine wpAny_bind (wpAny_rule (wpAny_bind ?_))
  rw [show [x, y].length = [va, vb].toArray.size from rfl]
  refine wpAny_unpackItems_tuple hR.handled (IsT.isT l1) fun h' hxt => ?_
  have hk : ∀ b o, hp.get? b = some o → h'.get? b = some o := fun b o e => hxt b o (Nat.ne_of_lt (Heap.lt_size e)) e
  have st : Stp [] ad2 { s2 with heap := hp } ad2 { s2 with heap := h' } := Stp.grow hk
  have hW3 : W C ad2 m2 { s2 with heap := h' } := hW2'.grow (s' := { s2 with heap := h' }) hk rfl rfl
  refine wpAny_bind (wpAny_mono (Q := fun _ s' => PostS C tab env ad s Q .next s') (E := E) ?_ (fun _ s2 q => wpAny_pure q) fun _ _ e => e)
  show wpAny C.M A (assignInOrder [bindName env y, bindName env x] [vb, va]) _ E _
  refine wpAny_assignInOrder_more (wpAny_bindName (store_ok he hT hF iy (.inl hy) hW3 (hV2'.step (s := { s2 with heap := hp }) st) (hvb2.mono st) fun s4 w1 w2 w3 => ?_))
  refine wpAny_assignInOrder_more (wpAny_bindName (store_ok he hT hF ix (.inl hx) w1 w2 ((hva2.mono st).mono w3) fun s5 u1 u2 u3 => ?_))
  exact wpAny_assignInOrder_none ⟨.next, _, m2, ad2, hq2, rfl, u1, u2, (((st1.trans st2').trans st.up).trans w3).trans u3⟩
end
abbrev pw : Program := PySem.Challenge.pw_sa0213_01
abbrev row : OpenRow := OpenLaw.row PySem.Challenge.rw_sa0213_01
/-- the law's def alone -/
noncomputable def lawQ : Program := { pw with main := { pw.main with body := pw.main.body.drop 38 } }

noncomputable def paramsAt (i : Nat) : Arguments := match stAt i with | .FunctionDef _ a _ _ _ _ _ _ _ _ => a | _ => ⟨[], [], none, [], [], none, []⟩
noncomputable def initParams : Arguments := match initSt with | .FunctionDef _ a _ _ _ _ _ _ _ _ => a | _ => ⟨[], [], none, [], [], none, []⟩
/-- name, address, place in the text -/
noncomputable def fnsL : List (Str × Nat × Nat) := ("reads_of", 22, 3) :: ("writes_of", 29, 4) :: ("jumps_of", 34, 5) :: ("goes_on", 41, 6) :: ("with_jumps", 46, 7) :: ("read_part", 51, 8) :: ("with_reads", 58, 9) :: ("with_write", 65, 10) :: ("follows", 72, 12) :: ("mask_of", 79, 13) :: ("live_ahead", 86, 14) :: ("live_behind", 93, 15) :: ("ranges_of", 132, 20) :: ("registers_of", 139, 21) :: ("widen", 146, 22) :: ("most_reads", 153, 23) :: ("distinct", 160, 24) :: ("scan", 165, 25) :: ("spread", 172, 26) :: ("dealt_ops", 177, 27) :: ("_law_knob", 184, 30) :: ("_law_ranges", 191, 31) :: ("_law_fullest", 196, 32) :: ("_law_is_fair", 201, 33) :: ("_law_code", 208, 34) :: ("_law_dealt", 215, 35) :: ("_law_words", 220, 36) :: ("_law_is_told", 225, 37) :: ("law", 230, 38) :: []
noncomputable def en (P : Params) (k : Str) (t : Nat) (v : Value) : DictEntry := { hash := PyData.keyHash P k, key := .str k t, val := v }
noncomputable def shapesT : List (Str × Nat × Str × Nat) := ("set", 189, "w--", 190) :: ("move", 192, "wr", 193) :: ("bin", 195, "w--rr", 196) :: ("cmp", 198, "w--rr", 199) :: ("un", 201, "w--r", 202) :: ("conv", 204, "w--r", 205) :: ("cat", 207, "wrr", 208) :: ("addr", 210, "w-", 211) :: ("elem", 213, "wrR", 214) :: ("cut", 216, "wroo", 217) :: ("load", 219, "wr", 220) :: ("store", 222, "rr", 223) :: ("temp", 225, "w-r", 226) :: ("intr", 228, "w--R", 229) :: ("call", 231, "v-AJ", 232) :: ("count", 234, "w-rrr", 235) :: ("jump", 237, "j", 238) :: ("true", 240, "rj", 241) :: ("false", 242, "rj", 243) :: ("sign", 244, "rjjj", 245) :: ("switch", 246, "rJ", 247) :: ("setlabel", 248, "r-", 249) :: ("agoto", 250, "rP", 251) :: ("return", 252, "o", 253) :: ("stop", 254, "-", 255) :: ("pause", 256, "-", 257) :: ("io", 258, "-D", 259) :: ("nop", 260, "", 261) :: ("length", 262, "wr", 263) :: ("keep", 264, "-r", 265) :: ("fetch", 266, "w-", 267) :: []
noncomputable def cfFrag (P : Params) : Frag :=
  [(15, { cls := .type "dict", data := .dict (shapesT.map fun x => en P x.1 x.2.1 (.str x.2.2.1 x.2.2.2)).toArray 31 }),
   (17, { cls := .type "tuple", data := .seq #[.str "jump" 283, .str "sign" 284, .str "agoto" 285, .str "return" 286, .str "stop" 287] }),
   (106, { cls := .type "code", data := .fields #[.str "__init__" 404, .str "F77Error.__init__" 405, .str "/claim/cut.py" 406, .int 112 0, .int 2 0, .int 0 0, .int 0 0, .int 3 0, .ref 101, .bool true, .int 181 0, .ref 102, .none, .ref 103, .ref 104, .ref 105, .int 409 0, .int 112 0, .str "/claim/cut.py" 410] }),
   (107, { cls := .type "function", data := .func { name := "__init__", qualname := "F77Error.__init__", params := initParams, body := .stmts initBody, scope := initScope, globals := 3, closure := [], defaults := .none, kwdefaults := .none, pyModule := .str "f77.errors" 390, code := .ref 106 } }),
   (109, { cls := .type "dict", data := .dict #[en P "__module__" 399 (.str "f77.errors" 390), en P "__firstlineno__" 403 (.int 110 402), en P "__init__" 411 (.ref 107), en P "__static_attributes__" 413 (.ref 108), en P "__weakref__" 415 (.ref 111), en P "__doc__" 416 (.none)] 3 }),
   (110, { cls := .type "type", data := .cls { name := "F77Error", bases := [.type "Exception"], mro := [.ref 110, .type "Exception", .type "BaseException", .type "object"], ns := 109, qualname := "F77Error", subclasses := [.ref 123] }, slots := #[some (.ref 94), none, some (.str "F77Error" 392), some (.str "F77Error" 400), some (.builtin "Exception.__new__"), some (.bool true)] }),
   (122, { cls := .type "dict", data := .dict #[en P "__module__" 428 (.str "f77.errors" 390), en P "__firstlineno__" 432 (.int 115 431), en P "__static_attributes__" 433 (.ref 121), en P "__doc__" 434 (.none)] 2 }),
   (123, { cls := .type "type", data := .cls { name := "CodeFault", bases := [.ref 110], mro := [.ref 123, .ref 110, .type "Exception", .type "BaseException", .type "object"], ns := 122, qualname := "CodeFault" }, slots := #[some (.ref 114), none, some (.str "CodeFault" 421), some (.str "CodeFault" 429), some (.builtin "Exception.__new__"), some (.bool true)] })]

noncomputable def codeOk (h : Heap) (cd : Value) (q : Str) : Bool := match cd with
  | .ref c => match h.get? c with
    | some o => match o.data with
      | .fields vs => match (vs[1]? : Option Value) with
        | some (.str q' _) => decide (q' = q)
        | _ => false
      | _ => false
    | none => false
  | _ => false
abbrev FnV := FuncBody × Scope × Arguments × List (Str × Addr) × Addr × Addr × Value × Value × Bool
noncomputable def fnView (h : Heap) (a : Addr) : Option FnV := match h.get? a with
  | some o => match o.data with
    | .func fd => some (fd.body, fd.scope, fd.params, fd.closure, fd.globals, fd.builtins, fd.defaults, fd.kwdefaults, codeOk h fd.code fd.qualname)
    | _ => none
  | none => none
noncomputable def fnVal (i : Nat) : FnV := (.stmts (bodyAt i), scopeAt i, paramsAt i, [], mainGlobals, builtinsNs, .none, .none, true)
noncomputable def zeroAt (v : Option Value) : Bool := match v with | some (.int 0 _) => true | _ => false
noncomputable def ownNames : List (Str × Value) := ("SHAPES", .ref 15) :: ("LEAVING", .ref 17) :: ("CodeFault", .ref 123) :: fnsL.map fun p => (p.1, .ref p.2.1)
noncomputable def boots : List (Str × Value) := ("len", .builtin "len") :: ("max", .builtin "max") :: ("sorted", .builtin "sorted") :: ("range", .type "range") :: ("list", .type "list") :: ("tuple", .type "tuple") :: ("Exception", .type "Exception") :: []

abbrev ObsT := List (Option Obj) × List (Option FnV) × Bool × List (Option Value) × List (Option Value × Option Value)
noncomputable def obsH (s : Shared) : ObsT := ([15, 17, 106, 107, 109, 110, 122, 123].map s.heap.get?, fnsL.map (fun p => fnView s.heap p.2.1),
  s.heap.isNs mainGlobals && s.heap.isNs builtinsNs && s.heap.isNs cStatics && (s.heap.nsMap cStatics "sys.recursionlimit").isNone && (s.heap.get? sysModules).isSome && zeroAt (s.heap.nsMap mainGlobals "INTEGER"),
  ownNames.map (fun p => s.heap.nsMap mainGlobals p.1), boots.map fun p => (s.heap.nsMap mainGlobals p.1, s.heap.nsMap builtinsNs p.1))
noncomputable def valH (w : World) : ObsT := ((cfFrag w.params).map (fun p => some p.2), fnsL.map (fun p => some (fnVal p.2.2)), true, ownNames.map (fun p => some p.2), boots.map fun p => (none, some p.2))

structure SaysH (w : World) (h : Heap) : Prop where
  frag : (cfFrag w.params).In h
  fn : ∀ p ∈ fnsL, ∃ o fd, h.get? p.2.1 = some o ∧ o.data = .func fd ∧ fd.scope = scopeAt p.2.2 ∧ fd.body = .stmts (bodyAt p.2.2) ∧ fd.closure = [] ∧ fd.globals = mainGlobals ∧ fd.builtins = builtinsNs ∧ h.CodeRec fd.code fd.qualname ∧
    fd.params = paramsAt p.2.2 ∧ fd.defaults = .none ∧ fd.kwdefaults = .none
  ns : ∃ mg mb, h.Ns mainGlobals mg ∧ h.Ns builtinsNs mb ∧ (∀ p ∈ ownNames, mg p.1 = some p.2) ∧ (∀ p ∈ boots, mg p.1 = none ∧ mb p.1 = some p.2) ∧ ∃ t, mg "INTEGER" = some (.int 0 t)
  lim : h.NoLimit
  sys : ∃ o, h.get? sysModules = some o

theorem codeRec_of {h : Heap} {cd : Value} {q : Str} (x : codeOk h cd q = true) : h.CodeRec cd q := by
  unfold codeOk at x
  cases cd with
  | ref c =>
    dsimp only at x
    cases e : h.get? c with
    | none => rw [e] at x; cases x
    | some o =>
      rw [e] at x
      dsimp only at x
      cases d : o.data with
      | fields vs =>
        rw [d] at x
        dsimp only at x
        split at x
        · rename_i q' t e'
          rw [of_decide_eq_true x] at e'
          exact ⟨c, o, vs, t, rfl, e, d, e'⟩
        · cases x
      | _ => rw [d] at x; cases x
  | _ => cases x

theorem fnView_of {h : Heap} {a i : Nat} (x : fnView h a = some (fnVal i)) : ∃ o fd, h.get? a = some o ∧ o.data = .func fd ∧ fd.scope = scopeAt i ∧ fd.body = .stmts (bodyAt i) ∧ fd.closure = [] ∧ fd.globals = mainGlobals ∧ fd.builtins = builtinsNs ∧ h.CodeRec fd.code fd.qualname ∧
    fd.params = paramsAt i ∧ fd.defaults = .none ∧ fd.kwdefaults = .none := by
  unfold fnView at x
  cases e : h.get? a with
  | none => rw [e] at x; cases x
  | some o =>
    rw [e] at x
    dsimp only at x
    cases d : o.data with
    | func fd =>
      rw [d] at x
      unfold fnVal at x
      simp only [Option.some.injEq, Prod.mk.injEq] at x
      obtain ⟨x1, x2, x3, x4, x5, x6, x7, x8, x9⟩ := x
      exact ⟨o, fd, rfl, d, x2, x1, x4, x5, x6, codeRec_of x9, x3, x7, x8⟩
    | _ => rw [d] at x; cases x

theorem map_eq {α β : Type} {f g : α → β} : ∀ {l : List α}, l.map f = l.map g → ∀ p ∈ l, f p = g p
  | a :: r, e, p, hp => by
    rw [List.map_cons, List.map_cons] at e
    injection e with e1 e2
    rcases List.mem_cons.mp hp with rfl | hp
    · exact e1
    · exact map_eq e2 p hp

theorem says_of (w : World) (s : Shared) (e : obsH s = valH w) : SaysH w s.heap := by
  have e1 := congrArg (·.1) e
  have e2 := congrArg (·.2.1) e
  have e3 := congrArg (·.2.2.1) e
  have e4 := congrArg (·.2.2.2.1) e
  have e5 := congrArg (·.2.2.2.2) e
  dsimp only [obsH, valH] at e1 e2 e3 e4 e5
  simp only [Bool.and_eq_true, Option.isNone_iff_eq_none, Option.isSome_iff_exists] at e3
  obtain ⟨⟨⟨⟨⟨g, b⟩, c⟩, l⟩, m⟩, z⟩ := e3
  refine ⟨Frag.in_of rfl e1, fun p hp => fnView_of (map_eq e2 p hp), ⟨_, _, .of_isNs g, .of_isNs b, map_eq e4, fun p hp => by have := map_eq e5 p hp; exact ⟨congrArg Prod.fst this, congrArg Prod.snd this⟩, ?_⟩, ⟨_, .of_isNs c, l⟩, m⟩
  unfold zeroAt at z
  split at z
  · rename_i t e; exact ⟨t, e⟩
  · cases z

theorem SaysH.keeps (w : World) (h h' : Heap) (x : SaysH w h) (k : ∀ b o, h.get? b = some o → h'.get? b = some o) : SaysH w h' where
  frag := Frag.In.keeps x.frag k
  fn p hp := by
    obtain ⟨o, fd, f1, f2, f3, f4, f5, f6, f7, f8, r⟩ := x.fn p hp
    exact ⟨o, fd, k _ _ f1, f2, f3, f4, f5, f6, f7, f8.keeps k, r⟩
  ns := by
    obtain ⟨mg, mb, n1, n2, r⟩ := x.ns
    exact ⟨mg, mb, n1.keeps k, n2.keeps k, r⟩
  lim := x.lim.keeps k
  sys := by obtain ⟨o, e⟩ := x.sys; exact ⟨o, k _ _ e⟩

noncomputable def lawH : Hook := ⟨ObsT, obsH, valH, SaysH, says_of, SaysH.keeps⟩

noncomputable def looseL : List Str := "SHAPES" :: "LEAVING" :: "F77Error" :: "CodeFault" :: "INTEGER" :: ((fnsL.map (·.1)).take 28)
/-! the top, run over a tree of objects and over the library's quick twins -/
noncomputable def topRunF (tb : String → Option Builtin) (p : Program) (w : World) (n₀ : Nat) (ann : Option Value) : Nat → SharedT → Thread → Option SharedT
  | 0, _, _ => none
  | n + 1, s, t => match through t with
    | true => some s
    | false => match PySem.W.Fast.tw6613529449190102663 n₀ ann t with
      | false => none
      | true => match PySem.W.Fast.tw10156331382660048174 (PySem.W.Fast.tw11892475500146522536 tb) p w s t with
        | some (s', t') => topRunF tb p w n₀ ann n s' t'
        | none => none
theorem topRun_ofF {tb : String → Option Builtin} {p : Program} {w : World} {n₀ : Nat} {ann : Option Value} : ∀ {n : Nat} {s s' : SharedT} {t : Thread}, topRunF tb p w n₀ ann n s t = some s' → topRun tb p w n₀ ann n s.abs t = some s'.abs
  | 0, _, _, _, h => by cases h
  | n + 1, s, s', t, h => by
    unfold topRunF at h
    unfold topRun
    cases he : through t with
    | true => rw [he] at h; cases h; rfl
    | false =>
      rw [he, ← PySem.W.Fast.te6613529449190102663, ← PySem.W.Fast.te10156331382660048174, ← PySem.W.Fast.te11892475500146522536] at h
      cases hk : stepOk n₀ ann t with
      | false => rw [hk] at h; cases h
      | true =>
        rw [hk] at h
        cases hs : stepT (denote tb) p w s t with
        | none => rw [hs] at h; cases h
        | some r => obtain ⟨s₂, t₂⟩ := r; rw [hs] at h; rw [stepT_spec hs]; exact topRun_ofF h
noncomputable def toT (s : Shared) : SharedT := ⟨(s.heap.objs.toList.foldl (fun x o => (x.1.ins x.2 o, x.2 + 1)) (BT.nil, 0)).1, s.heap.objs.size, s.heap.life, s.gens, s.drawn, s.toks, s.os⟩
noncomputable def okTop (p : Program) (s₀ s₁ : Shared) : Bool := staticsOk (importedModules p.main.body) s₀.heap s₁.heap && namesBound p s₁.heap && gensDone s₁ && laidKept s₀.heap s₁.heap
noncomputable def topFromF (tb : String → Option Builtin) (p : Program) (w : World) (N : Nat) (s₀ : Shared) : Option Shared :=
  match s₀.heap.isNs mainGlobals && s₀.gens.size == 0 with
  | true => (topRunF tb p w s₀.heap.objs.size (s₀.heap.nsMap mainGlobals "__annotations__") N (toT s₀) (topStub p)).bind fun s' => match okTop p s₀ s'.abs with
      | true => some s'.abs
      | false => none
  | false => none
theorem topFrom_ofF {tb : String → Option Builtin} {p : Program} {w : World} {N : Nat} {s₀ s : Shared} (h0 : (toT s₀).abs = s₀) (h : topFromF tb p w N s₀ = some s) : topFrom tb p w N s₀ = some s := by
  unfold topFromF at h
  unfold topFrom
  cases hg : s₀.heap.isNs mainGlobals && s₀.gens.size == 0 with
  | false => rw [hg] at h; cases h
  | true =>
    rw [hg] at h
    obtain ⟨s', h1, h2⟩ := Option.bind_eq_some_iff.mp h
    have h3 := topRun_ofF h1
    rw [h0] at h3
    show (topRun tb p w _ _ N s₀ (topStub p)).bind _ = _
    rw [h3]
    cases hk : okTop p s₀ s'.abs with
    | false => rw [hk] at h2; cases h2
    | true =>
      rw [hk] at h2
      cases h2
      show (match okTop p s₀ s'.abs with | true => some s'.abs | false => none) = _
      rw [hk]
noncomputable abbrev lawX (s : Shared) : Bool := xlAt lawQ [] s && recOk (RowW.records row.toRowW) s
noncomputable abbrev lawSeen (s : Shared) := (PySem.W.Fast.tw4187177175401517315 lawQ looseL (importedModules pw.main.body) lawX true s, Hook.obs lawH s)
theorem open_abs : ∀ w : World, (fencedOpening treeTable pw w 4004).map (fun s₀ => (toT s₀).abs) = fencedOpening treeTable pw w 4004 := fun w => by kernel_rfl
theorem left_f : ∀ w : World, (fencedOpening treeTable pw w 4004).map (fun s₀ => (topFromF PySem.W.Fast.tw14364793385576792824 pw (w.withFollow "special-get-raises" false) 4004 s₀).map lawSeen) =
    some (some (openGood lawQ looseL, Hook.val lawH (w.withFollow "special-get-raises" false))) := fun w => by kernel_rfl
theorem left_t : ∀ w : World, (fencedOpening treeTable pw w 4004).map (fun s₀ => (topFromF PySem.W.Fast.tw14364793385576792824 pw (w.withFollow "special-get-raises" true) 4004 s₀).map lawSeen) =
    some (some (openGood lawQ looseL, Hook.val lawH (w.withFollow "special-get-raises" true))) := fun w => by kernel_rfl
theorem left_one {w : World} {s₀ : Shared} {α : Type} {f : Shared → α} {v : α} (h0 : (toT s₀).abs = s₀) (h : (topFromF PySem.W.Fast.tw14364793385576792824 pw w 4004 s₀).map f = some v) : (topFrom treeTable pw w 4004 s₀).map f = some v := by
  obtain ⟨s, c, d⟩ := Option.map_eq_some_iff.mp h
  rw [← PySem.W.Fast.te14364793385576792824] at c
  rw [topFrom_ofF h0 c]
  exact congrArg some d
theorem some_pair {α β γ : Type} {o : Option α} {a : α} {f : α → β} {g : α → γ} {x : β} {y : γ} (e : o = some a) (h1 : f a = x) (h2 : g a = y) : o.map (fun a => (f a, g a)) = some (x, y) := by
  subst e h1 h2; rfl
theorem law_left : LeftO pw lawQ looseL lawX (Hook.obs lawH) (Hook.val lawH) 4004 := LeftO.of_split "special-get-raises" fun w => by
  obtain ⟨s₀, a, b⟩ := Option.map_eq_some_iff.mp (left_f w)
  obtain ⟨s₁, a', b'⟩ := Option.map_eq_some_iff.mp (left_t w)
  have e : s₁ = s₀ := Option.some.inj (a'.symm.trans a)
  rw [e] at b'
  have h0 : (toT s₀).abs = s₀ := by
    have h := open_abs w
    rw [a] at h
    exact Option.some.inj h
  rw [PySem.W.Fast.te4187177175401517315]
  exact some_pair a (left_one h0 b) (left_one h0 b')
theorem law_said : PySem.Challenge.rw_sa0213_01.wellSaid = true := (congrFun PySem.W.Fast.te9446332074065402090 _).trans (by kernel_rfl : PySem.W.Fast.tw9446332074065402090 PySem.Challenge.rw_sa0213_01 = true)
theorem law_head (hc : ∀ d kwd, defOf lawQ row.name = some (d, kwd) → WalkO lawQ looseL (XL lawQ []) (Hook.says lawH) row.toRowW d kwd fun f vs => PySem.call f vs) : PySem.Challenge.rw_sa0213_01.Holds := by
  refine holds_law law_said fun _ => ?_
  refine holds_open (r := row) (q := lawQ) (loose := looseL) (XP := XL lawQ []) (YP := Hook.says lawH) law_left (Hook.of lawH) (Hook.keeps lawH) (fun s e => xl_of s (Bool.and_eq_true_iff.mp e).1) XL.keeps (by rfl) (by rfl) (by rfl) (fun s e => recFacts_of (Bool.and_eq_true_iff.mp e).2) (by rfl) ?k1 ?k2 ⟨rfl, rfl, rfl, rfl, rfl, by decide +kernel⟩ ?hw (hc _ _ rfl)
  case k1 => exact row_said law_said
  case k2 => kernel_rfl
  case hw => w_witness2

/-- how a def of the text takes its arguments -/
noncomputable def BindsP (P : Arguments) : List Str → Prop
  | [x] => ∀ (fd : FuncData) (a : Value), bindArgs { fd with params := P, defaults := .none, kwdefaults := .none } ⟨[a], []⟩ = pure [(x, a)]
  | [x, y] => ∀ (fd : FuncData) (a b : Value), bindArgs { fd with params := P, defaults := .none, kwdefaults := .none } ⟨[a, b], []⟩ = pure [(x, a), (y, b)]
  | [x, y, z] => ∀ (fd : FuncData) (a b c : Value), bindArgs { fd with params := P, defaults := .none, kwdefaults := .none } ⟨[a, b, c], []⟩ = pure [(x, a), (y, b), (z, c)]
  | [x, y, z, u] => ∀ (fd : FuncData) (a b c d : Value), bindArgs { fd with params := P, defaults := .none, kwdefaults := .none } ⟨[a, b, c, d], []⟩ = pure [(x, a), (y, b), (z, c), (u, d)]
  | _ => False

noncomputable def BindsB (i : Nat) (ps : List Str) : Prop := BindsP (paramsAt i) ps
theorem fd_eta {fd : FuncData} {P : Arguments} (hp : fd.params = P) (hd : fd.defaults = .none) (hk : fd.kwdefaults = .none) : fd = { fd with params := P, defaults := .none, kwdefaults := .none } := by
  subst hp
  cases fd
  subst hd
  subst hk
  rfl
theorem binds_of {i : Nat} {ps : List Str} (h : BindsB i ps) {fd : FuncData} (hp : fd.params = paramsAt i) (hd : fd.defaults = .none) (hk : fd.kwdefaults = .none) (vals : List Value) (hl : vals.length = ps.length) : bindArgs fd ⟨vals, []⟩ = pure (ps.zip vals) := by
  rw [fd_eta hp hd hk]
  unfold BindsB at h
  generalize paramsAt i = P at h ⊢
  clear hp
  cases ps with
  | nil => exact h.elim
  | cons x ps => cases vals with
    | nil => cases hl
    | cons a vals => cases ps with
      | nil => cases vals with
        | nil => exact h fd a
        | cons b vals => cases hl
      | cons y ps => cases vals with
        | nil => cases hl
        | cons b vals => cases ps with
          | nil => cases vals with
            | nil => exact h fd a b
            | cons c vals => cases hl
          | cons z ps => cases vals with
            | nil => cases hl
            | cons c vals => cases ps with
              | nil => cases vals with
                | nil => exact h fd a b c
                | cons d vals => cases hl
              | cons u ps => cases vals with
                | nil => cases hl
                | cons d vals => cases ps with
                  | nil => cases vals with
                    | nil => exact h fd a b c d
                    | cons d vals => cases hl
                  | cons _ ps => exact h.elim

noncomputable def shapesL : List (Str × Str) := [("set", "w--"), ("move", "wr"), ("bin", "w--rr"), ("store", "rr"), ("true", "rj"), ("return", "o"), ("keep", "-r"), ("fetch", "w-")]
theorem keysLit_en {P : Params} : ∀ l : List (Str × Nat × Str × Nat), KeysLit P (l.map fun x => en P x.1 x.2.1 (.str x.2.2.1 x.2.2.2))
  | [] => trivial
  | _ :: r => ⟨⟨_, _, rfl, rfl⟩, keysLit_en r⟩
noncomputable def strOfV : Option Value → Option Str
  | some (.str x _) => some x
  | _ => none
theorem strOfV_some {v : Option Value} {x : Str} (h : strOfV v = some x) : ∃ t, v = some (.str x t) := by
  unfold strOfV at h
  split at h
  · cases h; exact ⟨_, rfl⟩
  · cases h
theorem shapes_all (P : Params) : shapesL.map (fun p => strOfV (findBy Value.isStrOf (shapesT.map fun x => en P x.1 x.2.1 (.str x.2.2.1 x.2.2.2)).toArray p.1)) = shapesL.map fun p => some p.2 := by kernel_rfl
theorem shapes_at {P : Params} {y r : Str} (h : (y, r) ∈ shapesL) : ∃ t, findBy Value.isStrOf (shapesT.map fun x => en P x.1 x.2.1 (.str x.2.2.1 x.2.2.2)).toArray y = some (.str r t) := strOfV_some (map_eq (shapes_all P) _ h)
noncomputable def faOf (f : Str) : Addr := ((fnsL.lookup f).map (·.1)).getD 0
noncomputable def lawC (w : World) (s : Shared) (a : Addr) (nums : List Int) : Cx := ⟨pw, w, s.heap, a, nums, s.os, faOf⟩

section
variable {w : World} {s : Shared} {a : Addr} {nums : List Int}

theorem fnF (Y : SaysH w s.heap) (j : Nat) {f : Str} {ad i : Nat} {ps : List Str} (h : fnsL[j]? = some (f, ad, i)) (hf : faOf f = ad) (hb : BindsB i ps) : FnF (lawC w s a nums) f ps (scopeAt i) (bodyAt i) := by
  have hm := List.mem_of_getElem? h
  obtain ⟨o, fd, f1, f2, f3, f4, f5, f6, f7, f8, f9, f10, f11⟩ := Y.fn _ hm
  obtain ⟨mg, mb, n1, n2, n3, _⟩ := Y.ns
  subst hf
  exact ⟨⟨o, fd, f1, f2, f3, f4, f5, f6, f7, f8, binds_of hb f9 f10 f11⟩, ⟨mg, mb, n1, n2, .inl (n3 _ (.tail _ (.tail _ (.tail _ (List.mem_map.mpr ⟨_, hm, rfl⟩)))))⟩, Y.lim⟩

theorem gname (Y : SaysH w s.heap) (j : Nat) {x : Str} {v : Value} (h : ownNames[j]? = some (x, v)) : GName (lawC w s a nums) x v := by
  obtain ⟨mg, mb, n1, n2, n3, _⟩ := Y.ns
  exact ⟨mg, mb, n1, n2, .inl (n3 _ (List.mem_of_getElem? h))⟩
theorem bname (Y : SaysH w s.heap) (j : Nat) {x : Str} {v : Value} (h : boots[j]? = some (x, v)) : GName (lawC w s a nums) x v := by
  obtain ⟨mg, mb, n1, n2, _, n4, _⟩ := Y.ns
  exact ⟨mg, mb, n1, n2, .inr (n4 _ (List.mem_of_getElem? h))⟩

theorem hyp_of (Y : SaysH w s.heap) {vs : List Value} (hL : s.heap.IsList a vs.toArray) (hI : IntsAre vs nums) (hn : nums.length ≤ 63) : Hyp (lawC w s a nums) where
  integer := by
    obtain ⟨mg, mb, n1, n2, _, _, t, e⟩ := Y.ns
    exact ⟨t, mg, mb, n1, n2, .inl e⟩
  leaving := ⟨17, _, _, gname Y 1 rfl, Y.frag 17 _ rfl, fun A h => by
    refine .cons ?_ (.cons ?_ (.cons ?_ (.cons ?_ (.cons ?_ .nil)))) <;> (unfold VR; exact ⟨_, rfl⟩)⟩
  shapes := ⟨15, _, gname Y 0 rfl, mapOf_K Y.frag rfl (keysLit_en _), fun y r e => shapes_at (mem_of_lookup e)⟩
  script := ⟨vs, hL, hI, hn⟩
  sys := Y.sys
  b_len := bname Y 0 rfl
  b_max := bname Y 1 rfl
  b_sorted := bname Y 2 rfl
  b_range := bname Y 3 rfl
  b_list := bname Y 4 rfl
  b_tuple := bname Y 5 rfl
  f_reads_of := fnF Y 0 rfl (by kernel_rfl) (fun _ _ => by kernel_rfl)
  f_writes_of := fnF Y 1 rfl (by kernel_rfl) (fun _ _ => by kernel_rfl)
  f_jumps_of := fnF Y 2 rfl (by kernel_rfl) (fun _ _ => by kernel_rfl)
  f_goes_on := fnF Y 3 rfl (by kernel_rfl) (fun _ _ => by kernel_rfl)
  f_with_jumps := fnF Y 4 rfl (by kernel_rfl) (fun _ _ _ => by kernel_rfl)
  f_read_part := fnF Y 5 rfl (by kernel_rfl) (fun _ _ _ _ => by kernel_rfl)
  f_with_reads := fnF Y 6 rfl (by kernel_rfl) (fun _ _ _ => by kernel_rfl)
  f_with_write := fnF Y 7 rfl (by kernel_rfl) (fun _ _ _ => by kernel_rfl)
  f_follows := fnF Y 8 rfl (by kernel_rfl) (fun _ _ _ => by kernel_rfl)
  f_mask_of := fnF Y 9 rfl (by kernel_rfl) (fun _ _ => by kernel_rfl)
  f_live_ahead := fnF Y 10 rfl (by kernel_rfl) (fun _ _ => by kernel_rfl)
  f_live_behind := fnF Y 11 rfl (by kernel_rfl) (fun _ _ _ _ => by kernel_rfl)
  f_ranges_of := fnF Y 12 rfl (by kernel_rfl) (fun _ _ => by kernel_rfl)
  f_registers_of := fnF Y 13 rfl (by kernel_rfl) (fun _ _ => by kernel_rfl)
  f_widen := fnF Y 14 rfl (by kernel_rfl) (fun _ _ _ _ => by kernel_rfl)
  f_most_reads := fnF Y 15 rfl (by kernel_rfl) (fun _ _ => by kernel_rfl)
  f_distinct := fnF Y 16 rfl (by kernel_rfl) (fun _ _ => by kernel_rfl)
  f_scan := fnF Y 17 rfl (by kernel_rfl) (fun _ _ _ => by kernel_rfl)
  f_spread := fnF Y 18 rfl (by kernel_rfl) (fun _ _ _ _ _ => by kernel_rfl)
  f_dealt_ops := fnF Y 19 rfl (by kernel_rfl) (fun _ _ _ _ => by kernel_rfl)
  f__law_knob := fnF Y 20 rfl (by kernel_rfl) (fun _ _ _ => by kernel_rfl)
  f__law_ranges := fnF Y 21 rfl (by kernel_rfl) (fun _ _ => by kernel_rfl)
  f__law_fullest := fnF Y 22 rfl (by kernel_rfl) (fun _ _ => by kernel_rfl)
  f__law_is_fair := fnF Y 23 rfl (by kernel_rfl) (fun _ _ _ _ => by kernel_rfl)
  f__law_code := fnF Y 24 rfl (by kernel_rfl) (fun _ _ => by kernel_rfl)
  f__law_dealt := fnF Y 25 rfl (by kernel_rfl) (fun _ _ _ _ => by kernel_rfl)
  f__law_words := fnF Y 26 rfl (by kernel_rfl) (fun _ _ => by kernel_rfl)
  f__law_is_told := fnF Y 27 rfl (by kernel_rfl) (fun _ _ _ _ => by kernel_rfl)
  f_law := fnF Y 28 rfl (by kernel_rfl) (fun _ _ => by kernel_rfl)

theorem init_binds (fd : FuncData) (a b : Value) : bindArgs { fd with params := initParams, defaults := .none, kwdefaults := .none } ⟨[a, b], []⟩ = pure [(("self" : Str), a), (("text" : Str), b)] := by kernel_rfl
theorem init_binds' {fd : FuncData} {a b : Value} (hp : fd.params = initParams) (hd : fd.defaults = .none) (hk : fd.kwdefaults = .none) : bindArgs fd ⟨[a, b], []⟩ = pure [(("self" : Str), a), (("text" : Str), b)] := by
  rw [fd_eta hp hd hk]
  exact init_binds fd a b
theorem eh_of (Y : SaysH w s.heap) : EH (lawC w s a nums) (cfFrag w.params) 123 107 110 where
  X := Y.frag
  lk := ⟨"CodeFault", "CodeFault", 122, [.ref 110], _, _, _, _, _, _, _, _, _, _, rfl⟩
  init := by kernel_rfl
  fn := by kernel_rfl
  sa := by kernel_rfl
  text := by kernel_rfl
  ex := ⟨_, _, Y.frag 107 _ rfl, rfl, rfl, rfl, rfl, rfl, rfl, ⟨106, _, _, _, rfl, Y.frag 106 _ rfl, rfl, rfl⟩, fun a b => init_binds' rfl rfl rfl⟩
  lim := Y.lim
  cf := gname Y 2 rfl
  exc := bname Y 6 rfl
end
noncomputable def maskOf : List Int → Int → Int
  | [], m => m
  | r :: rs, m => maskOf rs (Builtin.bitOr m (1 * 2 ^ r.toNat))

theorem c_mask_of {C : Cx} (H : Hyp C) {k i : Nat} {ns : List Int} {Q : MV → MH → Prop} {mh : MH} (hi : mh[i]? = some (.list (ns.map .int))) (hb : ∀ n ∈ ns, 0 ≤ n ∧ n ≤ 1000) (hQ : Q (.int (maskOf ns 0)) mh) : CallR C (k + 1) "mask_of" [.ref i] Q mh := by
  refine call_own H.f_mask_of ["registers", "mask", "register"] (sok_mk (by kernel_rfl)) 2 (fun L qual code hF => have he := eok_fenv (L := L) (qual := qual) (fa := C.fa "mask_of") (code := code) (sc := scopeAt 13) (by kernel_rfl); have hT := tok_of ["registers", "mask", "register"];
   (SSs_cons (SS_assign SE_int (SA_name (i := 1) he hT hF (by kernel_rfl) (.inl (by kernel_rfl))) rfl (by kernel_rfl) (by kernel_rfl))
    (SSs_cons (SS_for (SE_local (i := 0) he (by kernel_rfl) (by kernel_rfl) (by kernel_rfl)) (SA_name (i := 2) he hT hF (by kernel_rfl) (.inl (by kernel_rfl))) (SSs_cons (SS_augName (i := 1) he hT hF (by kernel_rfl) (.inl (by kernel_rfl)) (SN_local (i := 1) he (by kernel_rfl) (by kernel_rfl)) (SE_binop SE_int (SE_local (i := 2) he (by kernel_rfl) (by kernel_rfl) (by kernel_rfl))))
    SSs_nil) (fun _ => rfl) (.inl fun _ _ => rfl))
    (SSs_cons (SS_return (SE_local (i := 1) he (by kernel_rfl) (by kernel_rfl) (by kernel_rfl)))
    SSs_nil)))) rfl ?_
  simp only [tInt, tNone, tBool, tStr, tLoc, tBin, tCmp, tTest, tTruth, tNot, tAnd, tOr, tAndV, tCmp2, tTest2, tSub, tSlA, tSlT, tSlF, tSl1, tLnil, tLcons, tList, tTup, tD0, tAppend, tExtend, tRemove, tPop, tCall, tB, tT, tDpop, tDget, tAName, tASub, tALnil, tALcons, tATup, tNil, tSeq, tAssign, tRet, tCont, tExpr, tIf, tAugN, tAugS, tWhile, tFor, tTrue, tComp, tAComp, tSorted, tTab, tGtup, tScr, tD2, tSwap3, seqK, kBin1, kBin2, kCmp1, kCmp2, kTst1, kTst2, kTruth, kNot, kAnd, kOr, kAndV, kSub1, kSub2, kLc1, kLc2, kList, kTup, kApp1, kApp2, kCall, kB, kT, kNx, kAsg, kRet, kExpr, kIf, kAug1, kAug2, kAug3, forB, kFor1, kFor2, turnK, List.map_cons, List.map_nil, List.replicate_succ, List.replicate_zero, List.cons_append, List.nil_append, List.append_nil, List.set_cons_succ, List.set_cons_zero, List.getElem?_cons_zero, List.getElem?_cons_succ, Option.some.injEq, exists_eq_left', exists_eq_left, MV.int.injEq, MV.str.injEq, MV.tup.injEq, MV.ref.injEq, MV.bool.injEq, endR, flowN]
  show iterO i mh _ mh[i]?
  rw [hi]
  refine forN_ind (f := .int) (fun r v m => m = mh ∧ ∃ acc old, v = [some (.ref i), some (.int acc), old] ∧ maskOf r acc = maskOf ns 0 ∧ ∀ n ∈ r, 0 ≤ n ∧ n ≤ 1000) ?_ ?_ ns _ _ ⟨rfl, 0, none, rfl, rfl, hb⟩
  · rintro v m ⟨rfl, acc, old, rfl, e, _⟩
    simp only [tInt, tNone, tBool, tStr, tLoc, tBin, tCmp, tTest, tTruth, tNot, tAnd, tOr, tAndV, tCmp2, tTest2, tSub, tSlA, tSlT, tSlF, tSl1, tLnil, tLcons, tList, tTup, tD0, tAppend, tExtend, tRemove, tPop, tCall, tB, tT, tDpop, tDget, tAName, tASub, tALnil, tALcons, tATup, tNil, tSeq, tAssign, tRet, tCont, tExpr, tIf, tAugN, tAugS, tWhile, tFor, tTrue, tComp, tAComp, tSorted, tTab, tGtup, tScr, tD2, tSwap3, seqK, kBin1, kBin2, kCmp1, kCmp2, kTst1, kTst2, kTruth, kNot, kAnd, kOr, kAndV, kSub1, kSub2, kLc1, kLc2, kList, kTup, kApp1, kApp2, kCall, kB, kT, kNx, kAsg, kRet, kExpr, kIf, kAug1, kAug2, kAug3, forB, kFor1, kFor2, turnK, List.map_cons, List.map_nil, List.replicate_succ, List.replicate_zero, List.cons_append, List.nil_append, List.append_nil, List.set_cons_succ, List.set_cons_zero, List.getElem?_cons_zero, List.getElem?_cons_succ, Option.some.injEq, exists_eq_left', exists_eq_left, MV.int.injEq, MV.str.injEq, MV.tup.injEq, MV.ref.injEq, MV.bool.injEq, endR, flowN]
    rw [show acc = maskOf ns 0 from e]
    exact hQ
  · rintro a r v m K ⟨rfl, acc, old, rfl, e, hb⟩ hK
    have := hb a List.mem_cons_self
    simp only [tInt, tNone, tBool, tStr, tLoc, tBin, tCmp, tTest, tTruth, tNot, tAnd, tOr, tAndV, tCmp2, tTest2, tSub, tSlA, tSlT, tSlF, tSl1, tLnil, tLcons, tList, tTup, tD0, tAppend, tExtend, tRemove, tPop, tCall, tB, tT, tDpop, tDget, tAName, tASub, tALnil, tALcons, tATup, tNil, tSeq, tAssign, tRet, tCont, tExpr, tIf, tAugN, tAugS, tWhile, tFor, tTrue, tComp, tAComp, tSorted, tTab, tGtup, tScr, tD2, tSwap3, seqK, kBin1, kBin2, kCmp1, kCmp2, kTst1, kTst2, kTruth, kNot, kAnd, kOr, kAndV, kSub1, kSub2, kLc1, kLc2, kList, kTup, kApp1, kApp2, kCall, kB, kT, kNx, kAsg, kRet, kExpr, kIf, kAug1, kAug2, kAug3, forB, kFor1, kFor2, turnK, List.map_cons, List.map_nil, List.replicate_succ, List.replicate_zero, List.cons_append, List.nil_append, List.append_nil, List.set_cons_succ, List.set_cons_zero, List.getElem?_cons_zero, List.getElem?_cons_succ, Option.some.injEq, exists_eq_left', exists_eq_left, MV.int.injEq, MV.str.injEq, MV.tup.injEq, MV.ref.injEq, MV.bool.injEq, endR, flowN, hi]
    refine .shl ⟨⟨this.1, by lia, by decide⟩, .or ⟨hi, hK _ _ ⟨rfl, _, _, rfl, e, fun n hn => hb n (List.mem_cons_of_mem _ hn)⟩⟩⟩
inductive Op where
  | set (a : Int) | move (a b : Int) | bin (a b c : Int) | store (a b : Int) | tru (a g : Int) | ret (r : Int) | keep (c r : Int) | fetch (r c : Int)

noncomputable def opM : Op → MV
  | .set a => .tup [.str "set", .int a, .int 0, .int 7]
  | .move a b => .tup [.str "move", .int a, .int b]
  | .bin a b c => .tup [.str "bin", .int a, .str "add", .int 0, .int b, .int c]
  | .store a b => .tup [.str "store", .int a, .int b]
  | .tru a g => .tup [.str "true", .int a, .int g]
  | .ret r => .tup [.str "return", .int r]
  | .keep c r => .tup [.str "keep", .int c, .int r]
  | .fetch r c => .tup [.str "fetch", .int r, .int c]

noncomputable def reads : Op → List Int
  | .set _ => []
  | .move _ b => [b]
  | .bin _ b c => [b, c]
  | .store a b => [a, b]
  | .tru a _ => [a]
  | .ret r => [r]
  | .keep _ r => [r]
  | .fetch _ _ => []

noncomputable def writes : Op → Int
  | .set a => a
  | .move a _ => a
  | .bin a _ _ => a
  | .fetch r _ => r
  | .store _ _ => -1
  | .tru _ _ => -1
  | .ret _ => -1
  | .keep _ _ => -1

noncomputable def jumps : Op → List Int
  | .tru _ g => [g]
  | .set _ => []
  | .move _ _ => []
  | .bin _ _ _ => []
  | .store _ _ => []
  | .ret _ => []
  | .keep _ _ => []
  | .fetch _ _ => []

noncomputable def goesOn : Op → Bool
  | .ret _ => false
  | .set _ => true
  | .move _ _ => true
  | .bin _ _ _ => true
  | .store _ _ => true
  | .tru _ _ => true
  | .keep _ _ => true
  | .fetch _ _ => true

noncomputable def name : Op → Str
  | .set _ => "set"
  | .move _ _ => "move"
  | .bin _ _ _ => "bin"
  | .store _ _ => "store"
  | .tru _ _ => "true"
  | .ret _ => "return"
  | .keep _ _ => "keep"
  | .fetch _ _ => "fetch"

/-- the return reads a register -/
noncomputable def okRet : Op → Prop
  | .ret r => 0 ≤ r
  | _ => True

theorem st_t {A B : Prop} (h : A) : if true = true then A else B := h
theorem st_f {A B : Prop} (h : B) : if false = true then A else B := h
theorem cmp_t {op a b mh} {Q : Bool → Prop} (h : cmpM op a b mh = some true) (q : Q true) : ∃ e, cmpM op a b mh = some e ∧ Q e := ⟨true, h, q⟩
theorem cmp_f {op a b mh} {Q : Bool → Prop} (h : cmpM op a b mh = some false) (q : Q false) : ∃ e, cmpM op a b mh = some e ∧ Q e := ⟨false, h, q⟩
theorem b_add {a b mh} {Q : MV → MH → Prop} (q : Q (.int (a + b)) mh) : binopM .Add (.int a) (.int b) mh Q := .add q
theorem b_sub {a b mh} {Q : MV → MH → Prop} (q : Q (.int (a - b)) mh) : binopM .Sub (.int a) (.int b) mh Q := .sub q
theorem b_lists {i j mh xs ys} {Q : MV → MH → Prop} (h1 : mh[i]? = some (.list xs)) (h2 : mh[j]? = some (.list ys)) (h3 : xs.length + ys.length ≤ 4096) (q : Q (.ref mh.length) (mh ++ [.list (xs ++ ys)])) : binopM .Add (.ref i) (.ref j) mh Q := .lists ⟨xs, ys, h1, h2, h3, q⟩
theorem b_tups {xs ys mh} {Q : MV → MH → Prop} (h1 : xs ≠ []) (h2 : ys ≠ []) (h3 : xs.length + ys.length ≤ 4096) (q : Q (.tup (xs ++ ys)) mh) : binopM .Add (.tup xs) (.tup ys) mh Q := .tups ⟨h1, h2, h3, q⟩
theorem i_add {a b mh} {Q : MV → MH → Prop} (q : Q (.int (a + b)) mh) : iopM .Add (.int a) (.int b) mh Q := .add q
theorem i_sub {a b mh} {Q : MV → MH → Prop} (q : Q (.int (a - b)) mh) : iopM .Sub (.int a) (.int b) mh Q := .sub q
theorem i_or {a b mh} {Q : MV → MH → Prop} (q : Q (.int (Builtin.bitOr a b)) mh) : iopM .BitOr (.int a) (.int b) mh Q := .or q
theorem g_list {mh i k xs m} {Q : MV → Prop} (h : mh[i]? = some (.list xs)) (h0 : 0 ≤ k) (hx : xs[k.toNat]? = some m) (q : Q m) : ∃ r, getM mh (.ref i) (.int k) = some r ∧ Q r := ⟨m, by show getO k mh[i]? = _; rw [h]; exact (if_pos h0).trans hx, q⟩
theorem g_dict {mh i k es m} {Q : MV → Prop} (h : mh[i]? = some (.dict es)) (hx : look es k = some m) (q : Q m) : ∃ r, getM mh (.ref i) (.int k) = some r ∧ Q r := ⟨m, by show getO k mh[i]? = _; rw [h]; exact hx, q⟩
theorem g_fz {mh i k es ep m} {Q : MV → Prop} (h : mh[i]? = some (.fz es ep)) (hx : look es k = some m) (q : Q m) : ∃ r, getM mh (.ref i) (.int k) = some r ∧ Q r := ⟨m, by show getO k mh[i]? = _; rw [h]; exact hx, q⟩
theorem g_tup {mh xs m} {k : Int} {Q : MV → Prop} (h0 : 0 ≤ k ∧ k < 2 ^ 60) (hx : xs[k.toNat]? = some m) (q : Q m) : ∃ r, getM mh (.tup xs) (.int k) = some r ∧ Q r := ⟨m, (if_pos h0).trans hx, q⟩
theorem g_str {mh x} {k : Int} {c : Str} {Q : MV → Prop} (h : getM mh (.str x) (.int k) = some (.str c)) (q : Q (.str c)) : ∃ r, getM mh (.str x) (.int k) = some r ∧ Q r := ⟨_, h, q⟩
theorem g_sdict {mh i x es m} {Q : MV → Prop} (h : mh[i]? = some (.sdict es)) (hx : slook es x = some m) (q : Q m) : ∃ r, getM mh (.ref i) (.str x) = some r ∧ Q r := ⟨m, by show getS x mh[i]? = _; rw [h]; exact hx, q⟩
theorem bc_len_list {mh i xs} {Q : MV → MH → Prop} (h : mh[i]? = some (.list xs)) (q : Q (.int xs.length) mh) : bcallM "len" [.ref i] mh Q := .len (.inl ⟨xs, h, q⟩)
theorem bc_len_dict {mh i es} {Q : MV → MH → Prop} (h : mh[i]? = some (.dict es)) (q : Q (.int es.length) mh) : bcallM "len" [.ref i] mh Q := .len (.inr ⟨es, .inl h, q⟩)
theorem bc_len_str {mh x} {Q : MV → MH → Prop} (h : x.length ≤ 100000) (q : Q (.int x.length) mh) : bcallM "len" [.str x] mh Q := .lens ⟨h, q⟩
theorem bc_max2 {mh a b} {Q : MV → MH → Prop} (q : Q (.int (max a b)) mh) : bcallM "max" [.int a, .int b] mh Q := .max2 q
theorem bc_max {mh i} {ns : List Int} {Q : MV → MH → Prop} (h : mh[i]? = some (.list (ns.map .int))) (hn : ns ≠ []) (q : Q (.int (listMax ns)) mh) : bcallM "max" [.ref i] mh Q := .maxl ⟨ns, h, hn, q⟩
theorem tc_range1 {mh b} {Q : MV → MH → Prop} (q : Q (.range 0 b 1) mh) : tcallM "range" [.int b] mh Q := .r1 q
theorem tc_range3 {mh a b c} {Q : MV → MH → Prop} (h : c ≠ 0 ∧ c.natAbs < 1000) (q : Q (.range a b c) mh) : tcallM "range" [.int a, .int b, .int c] mh Q := .r3 ⟨h, q⟩
theorem tc_tuple {mh i xs} {Q : MV → MH → Prop} (h : mh[i]? = some (.list xs)) (q : Q (.tup xs) mh) : tcallM "tuple" [.ref i] mh Q := .tup ⟨xs, h, q⟩
theorem tc_list {mh i xs} {Q : MV → MH → Prop} (h : mh[i]? = some (.list xs)) (q : Q (.ref mh.length) (mh ++ [.list xs])) : tcallM "list" [.ref i] mh Q := .list (.inl ⟨xs, h, q⟩)
theorem tc_list_dict {mh i} {es : List (Int × MV)} {Q : MV → MH → Prop} (h : mh[i]? = some (.dict es)) (q : Q (.ref mh.length) (mh ++ [.list (es.map fun e => .int e.1)])) : tcallM "list" [.ref i] mh Q := .list (.inr ⟨es, .inl h, q⟩)
theorem tc_list_range {mh a b c} {Q : MV → MH → Prop} (h : Builtin.Range.small a b c = true ∧ 0 ≤ Builtin.Range.rangeSize a b c ∧ Builtin.Range.rangeSize a b c ≤ 4096) (q : Q (.ref mh.length) (mh ++ [.list (rangeItems a b c)])) : tcallM "list" [.range a b c] mh Q := .listr ⟨h, q⟩
theorem it_list {mh i xs} {K : (MH → Prop) → List MV → (MH → MH) → MH → Prop} (h : mh[i]? = some (.list xs)) (q : K (fun m => m[i]? = some (.list xs)) xs id mh) : iterP (.ref i) mh K := by show iterO i mh K mh[i]?; rw [h]; exact q
theorem it_dict {mh i es} {K : (MH → Prop) → List MV → (MH → MH) → MH → Prop} (h : mh[i]? = some (.dict es)) (q : ∀ ep, K (fun m => m[i]? = some (.fz es ep)) (es.map fun e => .int e.1) (fun m => m.set i (.dict es)) (mh.set i (.fz es ep))) : iterP (.ref i) mh K := by show iterO i mh K mh[i]?; rw [h]; exact q
theorem it_range {mh a b c} {K : (MH → Prop) → List MV → (MH → MH) → MH → Prop} (h : Builtin.Range.small a b c = true ∧ 0 ≤ Builtin.Range.rangeSize a b c) (q : K (fun _ => True) (rangeItems a b c) id mh) : iterP (.range a b c) mh K := ⟨h, q⟩
theorem it_rangeL {mh a b c} {K : (MH → Prop) → List MV → (MH → MH) → MH → Prop} {l : List MV} (h1 : Builtin.Range.small a b c = true) (h2 : decide (0 ≤ Builtin.Range.rangeSize a b c) = true) (h3 : rangeItems a b c = l) (q : K (fun _ => True) l id mh) : iterP (.range a b c) mh K := ⟨⟨h1, of_decide_eq_true h2⟩, h3 ▸ q⟩
theorem fl_next {r : Vars → MH → Prop} {Q un v m} (q : r v m) : flowN r Q un .next v m := q
theorem tb_s {tb : Str → Option Str} {y r : Str} {Q : Str → Str → Prop} (h : tb y = some r) (q : Q y r) : ∃ y' r', MV.str y = .str y' ∧ tb y' = some r' ∧ Q y' r' := ⟨y, r, rfl, h, q⟩
theorem len_ok {vs : List MV} {B : Prop} (h : vs.length ≤ 4096) (q : B) : vs.length ≤ 4096 ∧ B := ⟨h, q⟩
theorem ap1 {m : MH} {i : Nat} {xs0 : List MV} {R : Nat → Prop} (h : m[i]? = some (MO.list xs0)) (q : R i) : ∃ (i' : Nat) (xs0' : List MV), MV.ref i = .ref i' ∧ m[i']? = some (MO.list xs0') ∧ R i' := ⟨i, xs0, rfl, h, q⟩
theorem ap2 {m m' : MH} {i : Nat} {xs : List MV} {v : MV} {R : MH → Prop} (h : m[i]? = some (MO.list xs)) (hl : xs.length < 4096) (hs : m.set i (MO.list (xs ++ [v])) = m') (q : R m') : ∃ xs', m[i]? = some (MO.list xs') ∧ xs'.length < 4096 ∧ ∃ m', m.set i (MO.list (xs' ++ [v])) = m' ∧ R m' := ⟨xs, h, hl, m', hs, q⟩
theorem ap1L {m : MH} {xs0 : List MV} {R : Nat → Prop} (q : R m.length) : ∃ (i' : Nat) (xs0' : List MV), MV.ref m.length = .ref i' ∧ (m ++ [MO.list xs0])[i']? = some (MO.list xs0') ∧ R i' := ⟨_, xs0, rfl, get_last, q⟩
theorem ap2L {m : MH} {xs : List MV} {v : MV} {R : MH → Prop} (hl : xs.length < 4096) (q : R (m ++ [MO.list (xs ++ [v])])) : ∃ xs', (m ++ [MO.list xs])[m.length]? = some (MO.list xs') ∧ xs'.length < 4096 ∧ ∃ m', (m ++ [MO.list xs]).set m.length (MO.list (xs' ++ [v])) = m' ∧ R m' := ⟨xs, get_last, hl, _, set_last', q⟩
theorem none_ok {B : Prop} (q : B) : MV.none = .none ∧ B := ⟨rfl, q⟩
theorem tr_ok {B : Prop} (q : B) : True ∧ B := ⟨trivial, q⟩
theorem sl1 {x : Str} {R : Str → Prop} (hl : (strHead x).length ≤ 100) (q : R x) : ∃ x', MV.str x = .str x' ∧ (strHead x').length ≤ 100 ∧ R x' := ⟨x, rfl, hl, q⟩

/-- a part of an operation under its role -/
inductive RP where
  | w (x : Int) | d (x : MV) | r (x : Int) | o (x : Int) | j (x : Int)
noncomputable def RP.mv : RP → MV
  | .w x => .int x
  | .d x => x
  | .r x => .int x
  | .o x => .int x
  | .j x => .int x
noncomputable def RP.c : RP → Str
  | .w _ => "w"
  | .d _ => "-"
  | .r _ => "r"
  | .o _ => "o"
  | .j _ => "j"
noncomputable def rp : Op → List RP
  | .set a => [.w a, .d (.int 0), .d (.int 7)]
  | .move a b => [.w a, .r b]
  | .bin a b c => [.w a, .d (.str "add"), .d (.int 0), .r b, .r c]
  | .store a b => [.r a, .r b]
  | .tru a g => [.r a, .j g]
  | .ret r => [.o r]
  | .keep c r => [.d (.int c), .r r]
  | .fetch r c => [.w r, .d (.int c)]
noncomputable def shp (l : List RP) : Str := ⟨(l.map fun e => (e.c.cps[0]?).getD default).toArray⟩

theorem opM_rp (op : Op) : opM op = .tup (.str (name op) :: (rp op).map RP.mv) := by cases op <;> rfl
theorem sh_rp (op : Op) : shapes (name op) = some (shp (rp op)) := by cases op <;> kernel_rfl
theorem rp_len (op : Op) : (rp op).length ≤ 5 := by cases op <;> exact Nat.le_of_ble_eq_true rfl
theorem shp_len (op : Op) : (shp (rp op)).length ≤ 100000 := by cases op <;> exact Nat.le_of_ble_eq_true rfl
theorem it_rp {op mh} {K : (MH → Prop) → List MV → (MH → MH) → MH → Prop} (q : K (fun _ => True) ((List.range (rp op).length).map fun (j : Nat) => MV.int (j : Int)) id mh) : iterP (.range 0 ((shp (rp op)).length : Int) 1) mh K := by
  cases op <;> exact it_rangeL (by kernel_rfl) (by kernel_rfl) (by kernel_rfl) q
theorem g_op0 {mh op} {Q : MV → Prop} (q : Q (.str (name op))) : ∃ r, getM mh (opM op) (.int 0) = some r ∧ Q r := by
  rw [opM_rp]; exact g_tup (by decide) rfl q
theorem g_op {mh op done e} {Q : MV → Prop} (h : ∃ todo, rp op = done ++ e :: todo) (q : Q e.mv) : ∃ r, getM mh (opM op) (.int ((done.length : Int) + 1)) = some r ∧ Q r := by
  have h5 := rp_len op
  obtain ⟨todo, h⟩ := h
  rw [opM_rp]
  rw [h] at h5 ⊢
  rw [List.length_append] at h5
  refine g_tup ⟨by lia, by lia⟩ ?_ q
  rw [show ((done.length : Int) + 1).toNat = done.length + 1 by lia, List.getElem?_cons_succ, List.map_append, List.getElem?_append_right (by simp)]
  simp
theorem RP.c_eq (e : RP) : (⟨#[(e.c.cps[0]?).getD 0]⟩ : Str) = e.c := by cases e <;> kernel_rfl
theorem g_shp {mh op done e} {Q : MV → Prop} (h : ∃ todo, rp op = done ++ e :: todo) (q : Q (.str e.c)) : ∃ r, getM mh (.str (shp (rp op))) (.int (done.length : Int)) = some r ∧ Q r := by
  have h5 := rp_len op
  obtain ⟨todo, h⟩ := h
  rw [h] at h5 ⊢
  rw [List.length_append] at h5
  refine g_str ?_ q
  show getC (shp _) _ = _
  unfold getC shp
  rw [if_pos ⟨by lia, by lia⟩]
  simp
  exact RP.c_eq e
theorem rp_go {l : List RP} {B : MV → STT} {Q : MF → Vars → MH → Prop} (I : List RP → Vars → MH → Prop) (hnil : ∀ v m, I l v m → Q .next v m)
    (hcons : ∀ done e v m (K : Vars → MH → Prop), (∃ todo, l = done ++ e :: todo) → I done v m → (∀ v' m', I (done ++ [e]) v' m' → K v' m') → B (.int (done.length : Int)) (turnK (fun _ => True) id K Q) v m) :
    ∀ (todo done : List RP) (v : Vars) (m : MH) (n : Nat), l = done ++ todo → n = done.length → I done v m → forN (fun _ => True) id B ((List.range' n todo.length).map fun (j : Nat) => MV.int (j : Int)) Q v m
  | [], done, v, m, _, h, _, hI => hnil v m (by rw [h, List.append_nil]; exact hI)
  | e :: t, done, v, m, _, h, rfl, hI => hcons done e v m _ ⟨t, h⟩ hI fun v' m' h' => rp_go I hnil hcons t (done ++ [e]) v' m' _ (by rw [h, List.append_assoc]; rfl) (by rw [List.length_append]; rfl) h'
theorem rp_loop {l : List RP} {B : MV → STT} {Q : MF → Vars → MH → Prop} (I : List RP → Vars → MH → Prop) (hnil : ∀ v m, I l v m → Q .next v m)
    (hcons : ∀ done e v m (K : Vars → MH → Prop), (∃ todo, l = done ++ e :: todo) → I done v m → (∀ v' m', I (done ++ [e]) v' m' → K v' m') → B (.int (done.length : Int)) (turnK (fun _ => True) id K Q) v m)
    {v : Vars} {m : MH} (h : I [] v m) : forN (fun _ => True) id B ((List.range l.length).map fun (j : Nat) => MV.int (j : Int)) Q v m := by
  rw [List.range_eq_range']
  exact rp_go I hnil hcons l [] v m 0 rfl rfl h

theorem fm_len {f : RP → List MV} {op done} {e : RP} (hf : ∀ e, (f e).length ≤ 1) (he : ∃ todo, rp op = done ++ e :: todo) : (done.flatMap f).length < 4096 := by
  have h1 := rp_len op
  obtain ⟨todo, h⟩ := he
  rw [h, List.length_append] at h1
  have h2 : ∀ l : List RP, (l.flatMap f).length ≤ l.length := fun l => by
    induction l with
    | nil => exact Nat.le_refl _
    | cons e l ih =>
      rw [List.flatMap_cons, List.length_append, List.length_cons, Nat.add_comm]
      exact Nat.add_le_add ih (hf e)
  exact Nat.lt_of_le_of_lt (Nat.le_trans (h2 done) (Nat.le_trans (Nat.le_add_right _ _) h1)) (Nat.le_of_ble_eq_true rfl)
noncomputable def rdE : RP → List MV
  | .r x => [.int x]
  | .o x => [.int x]
  | _ => []
noncomputable def jmE : RP → List MV
  | .j x => [.int x]
  | _ => []
inductive RdI (f : RP → List MV) (op : Op) (mh : MH) (done : List RP) (v : Vars) (m : MH) : Prop
  | mk (at' part : Option MV) (l : List MV) (hl : l = done.flatMap f) (h1 : v = [some (opM op), at', some (.ref mh.length), part, some (.str (shp (rp op)))]) (h2 : m = mh ++ [.list l])
theorem RdI.add {f op mh done e at' part v m} (hv : v = [some (opM op), at', some (.ref mh.length), part, some (.str (shp (rp op)))]) (hm : m = mh ++ [.list (done.flatMap f ++ f e)]) : RdI f op mh (done ++ [e]) v m :=
  ⟨at', part, _, by rw [List.flatMap_append, List.flatMap_singleton], hv, hm⟩
theorem RdI.non {f op mh done e at' part v m} (h : f e = []) (hv : v = [some (opM op), at', some (.ref mh.length), part, some (.str (shp (rp op)))]) (hm : m = mh ++ [.list (done.flatMap f)]) : RdI f op mh (done ++ [e]) v m :=
  ⟨at', part, _, by rw [List.flatMap_append, List.flatMap_singleton, h, List.append_nil], hv, hm⟩
noncomputable def okO : RP → Prop
  | .o x => 0 ≤ x
  | _ => True
noncomputable def okAll : List RP → Prop
  | [] => True
  | e :: l => okO e ∧ okAll l
theorem okAll.at {e : RP} {todo : List RP} : ∀ {done}, okAll (done ++ e :: todo) → okO e
  | [], h => h.1
  | _ :: _, h => okAll.at h.2
theorem okAll.of {op : Op} (ho : okRet op) : okAll (rp op) := by cases op <;> first | exact ⟨trivial, trivial⟩ | exact ⟨trivial, trivial, trivial⟩ | exact ⟨trivial, trivial, trivial, trivial⟩ | exact ⟨trivial, trivial, trivial, trivial, trivial, trivial⟩ | exact ⟨ho, trivial⟩
theorem o_nonneg {op done x} (ho : okRet op) (he : ∃ todo, rp op = done ++ .o x :: todo) {mh : MH} : cmpM .GtE (.int x) (.int 0) mh = some true := by
  obtain ⟨todo, h⟩ := he
  have h0 : (0 : Int) ≤ x := (okAll.at (e := .o x) (h ▸ okAll.of ho) : okO (.o x))
  show some (decide ((0 : Int) ≤ x)) = some true
  rw [decide_eq_true h0]

local macro_rules | `(tactic| walk_at "s0") => `(tactic| (first | ((with_reducible apply tLoc_i); exact rfl) | (with_reducible first | apply st_f | apply st_t | apply b_add | apply none_ok | apply ap1L | apply b_sub | apply i_add | apply tc_range1 | apply tr_ok) | ((with_reducible refine cmp_f ?_ ?_); kernel_rfl!) | ((with_reducible refine cmp_t ?_ ?_); kernel_rfl!) | ((with_reducible apply g_tup); decide; exact rfl) | ((with_reducible first | refine len_ok ?_ ?_ | refine ap2L ?_ ?_); exact Nat.le_of_ble_eq_true rfl)))
local macro_rules | `(tactic| walk_at "s1") => `(tactic| (first | walk_at "s0" | refine tIf_i ?_))
local macro_rules | `(tactic| walk_at "s") => `(tactic| (repeat walk_at "s1"))
theorem c_reads_of {C : Cx} (H : Hyp C) {k : Nat} {op : Op} {Q : MV → MH → Prop} {mh : MH} (ho : okRet op) (hQ : Q (.ref mh.length) (mh ++ [.list ((reads op).map .int)])) : CallR C (k + 1) "reads_of" [opM op] Q mh := by
  refine call_own H.f_reads_of ["op", "at", "found", "part", "shape"] (sok_mk (by kernel_rfl)) 4 (fun L qual code hF => have he := eok_fenv (L := L) (qual := qual) (fa := C.fa "reads_of") (code := code) (sc := scopeAt 3) (by kernel_rfl); have hT := tok_of ["op", "at", "found", "part", "shape"];
   (SSs_cons (SS_assign (SE_list SEL_nil) (SA_name (i := 2) he hT hF (by kernel_rfl) (.inl (by kernel_rfl))) rfl (by kernel_rfl) (by kernel_rfl))
    (SSs_cons (SS_assign (SE_tab he (by kernel_rfl) (by kernel_rfl) H.shapes (SE_sub (SE_local (i := 0) he (by kernel_rfl) (by kernel_rfl) (by kernel_rfl)) SE_int rfl) rfl) (SA_name (i := 4) he hT hF (by kernel_rfl) (.inl (by kernel_rfl))) rfl (by kernel_rfl) (by kernel_rfl))
    (SSs_cons (SS_for (SE_tcall (t := "range") he (by kernel_rfl) (by kernel_rfl) H.b_range (SEL_cons (SE_bcall (id := "len") he (by kernel_rfl) (by kernel_rfl) H.b_len (SEL_cons (SE_local (i := 4) he (by kernel_rfl) (by kernel_rfl) (by kernel_rfl)) SEL_nil rfl) rfl) SEL_nil rfl) rfl) (SA_name (i := 1) he hT hF (by kernel_rfl) (.inl (by kernel_rfl))) (SSs_cons (SS_assign (SE_sub (SE_local (i := 0) he (by kernel_rfl) (by kernel_rfl) (by kernel_rfl)) (SE_binop (SE_local (i := 1) he (by kernel_rfl) (by kernel_rfl) (by kernel_rfl)) SE_int) rfl) (SA_name (i := 3) he hT hF (by kernel_rfl) (.inl (by kernel_rfl))) rfl (by kernel_rfl) (by kernel_rfl))
    (SSs_cons (SS_if (ST_or (ST_cmp (SE_sub (SE_local (i := 4) he (by kernel_rfl) (by kernel_rfl) (by kernel_rfl)) (SE_local (i := 1) he (by kernel_rfl) (by kernel_rfl) (by kernel_rfl)) rfl) SE_str (by kernel_rfl)) (ST_and (ST_cmp (SE_sub (SE_local (i := 4) he (by kernel_rfl) (by kernel_rfl) (by kernel_rfl)) (SE_local (i := 1) he (by kernel_rfl) (by kernel_rfl) (by kernel_rfl)) rfl) SE_str (by kernel_rfl)) (ST_cmp (SE_local (i := 3) he (by kernel_rfl) (by kernel_rfl) (by kernel_rfl)) SE_int (by kernel_rfl)))) (SSs_cons (SS_expr (SE_append (SE_local (i := 2) he (by kernel_rfl) (by kernel_rfl) (by kernel_rfl)) (SE_local (i := 3) he (by kernel_rfl) (by kernel_rfl) (by kernel_rfl)) rfl (by kernel_rfl) rfl) (by kernel_rfl) (by kernel_rfl))
    SSs_nil) (SSs_cons (SS_if (ST_cmp (SE_sub (SE_local (i := 4) he (by kernel_rfl) (by kernel_rfl) (by kernel_rfl)) (SE_local (i := 1) he (by kernel_rfl) (by kernel_rfl) (by kernel_rfl)) rfl) SE_str (by kernel_rfl)) (SSs_cons (SS_augName (i := 2) he hT hF (by kernel_rfl) (.inl (by kernel_rfl)) (SN_local (i := 2) he (by kernel_rfl) (by kernel_rfl)) (SE_local (i := 3) he (by kernel_rfl) (by kernel_rfl) (by kernel_rfl)))
    SSs_nil) (SSs_cons (SS_if (ST_cmp (SE_sub (SE_local (i := 4) he (by kernel_rfl) (by kernel_rfl) (by kernel_rfl)) (SE_local (i := 1) he (by kernel_rfl) (by kernel_rfl) (by kernel_rfl)) rfl) SE_str (by kernel_rfl)) (SSs_cons (SS_augName (i := 2) he hT hF (by kernel_rfl) (.inl (by kernel_rfl)) (SN_local (i := 2) he (by kernel_rfl) (by kernel_rfl)) SE_dead)
    SSs_nil) (SSs_cons (SS_if (ST_cmp (SE_sub (SE_local (i := 4) he (by kernel_rfl) (by kernel_rfl) (by kernel_rfl)) (SE_local (i := 1) he (by kernel_rfl) (by kernel_rfl) (by kernel_rfl)) rfl) SE_str (by kernel_rfl)) (SSs_cons (SS_augName (i := 2) he hT hF (by kernel_rfl) (.inl (by kernel_rfl)) (SN_local (i := 2) he (by kernel_rfl) (by kernel_rfl)) (SE_sub (SE_local (i := 3) he (by kernel_rfl) (by kernel_rfl) (by kernel_rfl)) SE_int rfl))
    SSs_nil) SSs_nil)
    SSs_nil))
    SSs_nil))
    SSs_nil))
    SSs_nil)) (fun _ => rfl) (.inl fun _ _ => rfl))
    (SSs_cons (SS_return (SE_local (i := 2) he (by kernel_rfl) (by kernel_rfl) (by kernel_rfl)))
    SSs_nil))))) rfl ?_
  walk_at "s"
  refine g_op0 ?_
  refine tb_s (sh_rp op) ?_
  walk_at "s"
  refine bc_len_str (shp_len op) ?_
  walk_at "s"
  refine it_rp ?_
  refine rp_loop (RdI rdE op mh) ?_ ?_ ⟨none, none, [], rfl, rfl, rfl⟩
  · rintro v m ⟨at', part, l, hl, rfl, rfl⟩
    walk_at "s"
    rw [hl, show (rp op).flatMap rdE = (reads op).map .int by cases op <;> rfl]
    exact hQ
  · rintro done e v m K he ⟨at', part, l, rfl, rfl, rfl⟩ hK
    have hl := fm_len (f := rdE) (by intro e; cases e <;> exact Nat.le_of_ble_eq_true rfl) he
    walk_at "s"
    refine g_op he ?_
    walk_at "s"
    refine g_shp he ?_
    cases e
    case r x =>
      walk_at "s"
      refine ap2L hl ?_
      walk_at "s"
      exact hK _ _ (.add rfl rfl)
    case o x =>
      walk_at "s"
      refine g_shp he ?_
      walk_at "s"
      refine cmp_t (o_nonneg ho he) ?_
      walk_at "s"
      refine ap2L hl ?_
      walk_at "s"
      exact hK _ _ (.add rfl rfl)
    all_goals
      walk_at "s"
      iterate 4
        refine g_shp he ?_
        walk_at "s"
      exact hK _ _ (.non rfl rfl rfl)
theorem head_len (op : Op) : (strHead (shp (rp op))).length ≤ 100 := by cases op <;> exact Nat.le_of_ble_eq_true (by kernel_rfl)
theorem c_writes_of {C : Cx} (H : Hyp C) {k : Nat} {op : Op} {Q : MV → MH → Prop} {mh : MH} (hQ : Q (.int (writes op)) mh) : CallR C (k + 1) "writes_of" [opM op] Q mh := by
  refine call_own H.f_writes_of ["op"] (sok_mk (by kernel_rfl)) 0 (fun L qual code hF => have he := eok_fenv (L := L) (qual := qual) (fa := C.fa "writes_of") (code := code) (sc := scopeAt 4) (by kernel_rfl); have hT := tok_of ["op"];
   (SSs_cons (SS_if (ST_cmp (SE_sliceStr1 (SE_tab he (by kernel_rfl) (by kernel_rfl) H.shapes (SE_sub (SE_local (i := 0) he (by kernel_rfl) (by kernel_rfl) (by kernel_rfl)) SE_int rfl) rfl)) (SE_tuple (SEL_cons SE_str (SEL_cons SE_str SEL_nil rfl) rfl)) (by kernel_rfl)) (SSs_cons (SS_return (SE_sub (SE_local (i := 0) he (by kernel_rfl) (by kernel_rfl) (by kernel_rfl)) SE_int rfl))
    SSs_nil) SSs_nil)
    (SSs_cons (SS_return SE_neg)
    SSs_nil))) rfl ?_
  walk_at "s"
  refine g_op0 ?_
  refine tb_s (sh_rp op) ?_
  refine sl1 (head_len op) ?_
  cases op <;> (dsimp only [opM]; walk_at "s"; exact hQ)

theorem c_goes_on {C : Cx} (H : Hyp C) {k : Nat} {op : Op} {Q : MV → MH → Prop} {mh : MH} (hQ : Q (.bool (goesOn op)) mh) : CallR C (k + 1) "goes_on" [opM op] Q mh := by
  refine call_own H.f_goes_on ["op"] (sok_mk (by kernel_rfl)) 0 (fun L qual code hF => have he := eok_fenv (L := L) (qual := qual) (fa := C.fa "goes_on") (code := code) (sc := scopeAt 6) (by kernel_rfl); have hT := tok_of ["op"];
   (SSs_cons (SS_return (SE_cmp (SE_sub (SE_local (i := 0) he (by kernel_rfl) (by kernel_rfl) (by kernel_rfl)) SE_int rfl) (SE_gtup he (by kernel_rfl) (by kernel_rfl) H.leaving) (by kernel_rfl)))
    SSs_nil)) rfl ?_
  walk_at "s"
  refine g_op0 ?_
  cases op <;> (dsimp only [opM]; walk_at "s"; exact hQ)

theorem c_jumps_of {C : Cx} (H : Hyp C) {k : Nat} {op : Op} {Q : MV → MH → Prop} {mh : MH} (hQ : Q (.ref mh.length) (mh ++ [.list ((jumps op).map .int)])) : CallR C (k + 1) "jumps_of" [opM op] Q mh := by
  refine call_own H.f_jumps_of ["op", "at", "found", "part", "shape"] (sok_mk (by kernel_rfl)) 4 (fun L qual code hF => have he := eok_fenv (L := L) (qual := qual) (fa := C.fa "jumps_of") (code := code) (sc := scopeAt 5) (by kernel_rfl); have hT := tok_of ["op", "at", "found", "part", "shape"];
   (SSs_cons (SS_assign (SE_list SEL_nil) (SA_name (i := 2) he hT hF (by kernel_rfl) (.inl (by kernel_rfl))) rfl (by kernel_rfl) (by kernel_rfl))
    (SSs_cons (SS_assign (SE_tab he (by kernel_rfl) (by kernel_rfl) H.shapes (SE_sub (SE_local (i := 0) he (by kernel_rfl) (by kernel_rfl) (by kernel_rfl)) SE_int rfl) rfl) (SA_name (i := 4) he hT hF (by kernel_rfl) (.inl (by kernel_rfl))) rfl (by kernel_rfl) (by kernel_rfl))
    (SSs_cons (SS_for (SE_tcall (t := "range") he (by kernel_rfl) (by kernel_rfl) H.b_range (SEL_cons (SE_bcall (id := "len") he (by kernel_rfl) (by kernel_rfl) H.b_len (SEL_cons (SE_local (i := 4) he (by kernel_rfl) (by kernel_rfl) (by kernel_rfl)) SEL_nil rfl) rfl) SEL_nil rfl) rfl) (SA_name (i := 1) he hT hF (by kernel_rfl) (.inl (by kernel_rfl))) (SSs_cons (SS_assign (SE_sub (SE_local (i := 0) he (by kernel_rfl) (by kernel_rfl) (by kernel_rfl)) (SE_binop (SE_local (i := 1) he (by kernel_rfl) (by kernel_rfl) (by kernel_rfl)) SE_int) rfl) (SA_name (i := 3) he hT hF (by kernel_rfl) (.inl (by kernel_rfl))) rfl (by kernel_rfl) (by kernel_rfl))
    (SSs_cons (SS_if (ST_cmp (SE_sub (SE_local (i := 4) he (by kernel_rfl) (by kernel_rfl) (by kernel_rfl)) (SE_local (i := 1) he (by kernel_rfl) (by kernel_rfl) (by kernel_rfl)) rfl) SE_str (by kernel_rfl)) (SSs_cons (SS_expr (SE_append (SE_local (i := 2) he (by kernel_rfl) (by kernel_rfl) (by kernel_rfl)) (SE_local (i := 3) he (by kernel_rfl) (by kernel_rfl) (by kernel_rfl)) rfl (by kernel_rfl) rfl) (by kernel_rfl) (by kernel_rfl))
    SSs_nil) (SSs_cons (SS_if (ST_cmp (SE_sub (SE_local (i := 4) he (by kernel_rfl) (by kernel_rfl) (by kernel_rfl)) (SE_local (i := 1) he (by kernel_rfl) (by kernel_rfl) (by kernel_rfl)) rfl) SE_str (by kernel_rfl)) (SSs_cons (SS_augName (i := 2) he hT hF (by kernel_rfl) (.inl (by kernel_rfl)) (SN_local (i := 2) he (by kernel_rfl) (by kernel_rfl)) (SE_local (i := 3) he (by kernel_rfl) (by kernel_rfl) (by kernel_rfl)))
    SSs_nil) (SSs_cons (SS_if (ST_cmp (SE_sub (SE_local (i := 4) he (by kernel_rfl) (by kernel_rfl) (by kernel_rfl)) (SE_local (i := 1) he (by kernel_rfl) (by kernel_rfl) (by kernel_rfl)) rfl) SE_str (by kernel_rfl)) (SSs_cons (SS_augName (i := 2) he hT hF (by kernel_rfl) (.inl (by kernel_rfl)) (SN_local (i := 2) he (by kernel_rfl) (by kernel_rfl)) SE_dead)
    SSs_nil) (SSs_cons (SS_if (ST_cmp (SE_sub (SE_local (i := 4) he (by kernel_rfl) (by kernel_rfl) (by kernel_rfl)) (SE_local (i := 1) he (by kernel_rfl) (by kernel_rfl) (by kernel_rfl)) rfl) SE_str (by kernel_rfl)) (SSs_cons (SS_augName (i := 2) he hT hF (by kernel_rfl) (.inl (by kernel_rfl)) (SN_local (i := 2) he (by kernel_rfl) (by kernel_rfl)) (SE_sub (SE_local (i := 3) he (by kernel_rfl) (by kernel_rfl) (by kernel_rfl)) SE_int rfl))
    SSs_nil) SSs_nil)
    SSs_nil))
    SSs_nil))
    SSs_nil))
    SSs_nil)) (fun _ => rfl) (.inl fun _ _ => rfl))
    (SSs_cons (SS_return (SE_local (i := 2) he (by kernel_rfl) (by kernel_rfl) (by kernel_rfl)))
    SSs_nil))))) rfl ?_
  walk_at "s"
  refine g_op0 ?_
  refine tb_s (sh_rp op) ?_
  walk_at "s"
  refine bc_len_str (shp_len op) ?_
  walk_at "s"
  refine it_rp ?_
  refine rp_loop (RdI jmE op mh) ?_ ?_ ⟨none, none, [], rfl, rfl, rfl⟩
  · rintro v m ⟨at', part, l, hl, rfl, rfl⟩
    walk_at "s"
    rw [hl, show (rp op).flatMap jmE = (jumps op).map .int by cases op <;> rfl]
    exact hQ
  · rintro done e v m K he ⟨at', part, l, rfl, rfl, rfl⟩ hK
    have hl := fm_len (f := jmE) (by intro e; cases e <;> exact Nat.le_of_ble_eq_true rfl) he
    walk_at "s"
    refine g_op he ?_
    walk_at "s"
    refine g_shp he ?_
    cases e
    case j x =>
      walk_at "s"
      refine ap2L hl ?_
      walk_at "s"
      exact hK _ _ (.add rfl rfl)
    all_goals
      walk_at "s"
      iterate 3
        refine g_shp he ?_
        walk_at "s"
      exact hK _ _ (.non rfl rfl rfl)
noncomputable def setJumps : Op → List Int → Op
  | .tru a g, ns => .tru a (ns.headD g)
  | .set a, _ => .set a
  | .move a b, _ => .move a b
  | .bin a b c, _ => .bin a b c
  | .store a b, _ => .store a b
  | .ret r, _ => .ret r
  | .keep c r, _ => .keep c r
  | .fetch r c, _ => .fetch r c
noncomputable def wjE (ns : List Int) : RP → MV
  | .j _ => .int (ns.headD 0)
  | e => e.mv
noncomputable def isJ : RP → Int
  | .j _ => 1
  | _ => 0
noncomputable def nJ : List RP → Int
  | [] => 0
  | e :: l => isJ e + nJ l
theorem nJ_app {b : List RP} : ∀ {a : List RP}, nJ (a ++ b) = nJ a + nJ b
  | [] => by show nJ b = 0 + nJ b; rw [Int.zero_add]
  | e :: a => by show isJ e + nJ (a ++ b) = isJ e + nJ a + nJ b; rw [nJ_app, Int.add_assoc]
theorem nJ_add {e : RP} {l : List RP} : nJ (l ++ [e]) = nJ l + isJ e := by rw [nJ_app]; show nJ l + (isJ e + 0) = _; rw [Int.add_zero]
theorem isJ_nn (e : RP) : 0 ≤ isJ e := by cases e <;> first | exact (by decide : (0 : Int) ≤ 0) | exact (by decide : (0 : Int) ≤ 1)
theorem nJ_nn : ∀ l, 0 ≤ nJ l
  | [] => Int.le_refl 0
  | e :: l => Int.add_nonneg (isJ_nn e) (nJ_nn l)
theorem nJ_rp (op : Op) : nJ (rp op) = (jumps op).length ∧ (jumps op).length ≤ 1 := by cases op <;> exact ⟨rfl, Nat.le_of_ble_eq_true rfl⟩
/-- at a jump none was met, and there is a goal for it -/
theorem j_first {op : Op} {ns : List Int} {done x} (hl : ns.length = (jumps op).length) (he : ∃ todo, rp op = done ++ .j x :: todo) : nJ done = 0 ∧ ns[0]? = some (ns.headD 0) := by
  obtain ⟨todo, h⟩ := he
  obtain ⟨h1, h2⟩ := nJ_rp op
  rw [h, nJ_app, ← hl] at h1
  rw [← hl] at h2
  have h1 : nJ done + (1 + nJ todo) = ns.length := h1
  have h3 := nJ_nn done
  have h4 := nJ_nn todo
  clear h hl
  refine ⟨by lia, ?_⟩
  cases ns with
  | nil => rw [List.length_nil] at h1; lia
  | cons n l => rfl
inductive WjI (ns : List Int) (i : Nat) (op : Op) (mh : MH) (done : List RP) (v : Vars) (m : MH) : Prop
  | mk (at' part : Option MV) (u : Int) (l : List MV) (hu : u = nJ done) (hl : l = done.map (wjE ns)) (h1 : v = [some (opM op), some (.ref i), at', part, some (.ref mh.length), some (.str (shp (rp op))), some (.int u)]) (h2 : m = mh ++ [.list (.str (name op) :: l)])
theorem WjI.non {ns i op mh done e at' part v m} (hj : isJ e = 0) (h : wjE ns e = e.mv) (hv : v = [some (opM op), some (.ref i), at', part, some (.ref mh.length), some (.str (shp (rp op))), some (.int (nJ done))]) (hm : m = mh ++ [.list (.str (name op) :: (done.map (wjE ns) ++ [e.mv]))]) : WjI ns i op mh (done ++ [e]) v m :=
  ⟨at', part, nJ done, done.map (wjE ns) ++ [e.mv], by rw [nJ_add, hj, Int.add_zero], by rw [List.map_append, List.map_singleton, h], hv, hm⟩
theorem ml_len {f : RP → MV} {op done} {e : RP} {x : MV} (he : ∃ todo, rp op = done ++ e :: todo) : (x :: done.map f).length < 4096 := by
  have h1 := rp_len op
  obtain ⟨todo, h⟩ := he
  rw [h, List.length_append] at h1
  rw [List.length_cons, List.length_map]
  exact Nat.lt_of_le_of_lt (Nat.succ_le_succ (Nat.le_trans (Nat.le_add_right _ _) h1)) (Nat.le_of_ble_eq_true rfl)

theorem c_with_jumps {C : Cx} (H : Hyp C) {k i : Nat} {op : Op} {ns : List Int} {Q : MV → MH → Prop} {mh : MH} (hi : mh[i]? = some (.list (ns.map .int))) (hl : ns.length = (jumps op).length) (hQ : ∀ o, Q (opM (setJumps op ns)) (mh ++ [o])) : CallR C (k + 1) "with_jumps" [opM op, .ref i] Q mh := by
  refine call_own H.f_with_jumps ["op", "ats", "at", "part", "parts", "shape", "used"] (sok_mk (by kernel_rfl)) 5 (fun L qual code hF => have he := eok_fenv (L := L) (qual := qual) (fa := C.fa "with_jumps") (code := code) (sc := scopeAt 7) (by kernel_rfl); have hT := tok_of ["op", "ats", "at", "part", "parts", "shape", "used"];
   (SSs_cons (SS_assign (SE_tab he (by kernel_rfl) (by kernel_rfl) H.shapes (SE_sub (SE_local (i := 0) he (by kernel_rfl) (by kernel_rfl) (by kernel_rfl)) SE_int rfl) rfl) (SA_name (i := 5) he hT hF (by kernel_rfl) (.inl (by kernel_rfl))) rfl (by kernel_rfl) (by kernel_rfl))
    (SSs_cons (SS_assign (SE_list (SEL_cons (SE_sub (SE_local (i := 0) he (by kernel_rfl) (by kernel_rfl) (by kernel_rfl)) SE_int rfl) SEL_nil rfl)) (SA_name (i := 4) he hT hF (by kernel_rfl) (.inl (by kernel_rfl))) rfl (by kernel_rfl) (by kernel_rfl))
    (SSs_cons (SS_assign SE_int (SA_name (i := 6) he hT hF (by kernel_rfl) (.inr ⟨(by kernel_rfl), L+1+1, (by kernel_rfl)⟩)) rfl (by kernel_rfl) (by kernel_rfl))
    (SSs_cons (SS_for (SE_tcall (t := "range") he (by kernel_rfl) (by kernel_rfl) H.b_range (SEL_cons (SE_bcall (id := "len") he (by kernel_rfl) (by kernel_rfl) H.b_len (SEL_cons (SE_local (i := 5) he (by kernel_rfl) (by kernel_rfl) (by kernel_rfl)) SEL_nil rfl) rfl) SEL_nil rfl) rfl) (SA_name (i := 2) he hT hF (by kernel_rfl) (.inl (by kernel_rfl))) (SSs_cons (SS_assign (SE_sub (SE_local (i := 0) he (by kernel_rfl) (by kernel_rfl) (by kernel_rfl)) (SE_binop (SE_local (i := 2) he (by kernel_rfl) (by kernel_rfl) (by kernel_rfl)) SE_int) rfl) (SA_name (i := 3) he hT hF (by kernel_rfl) (.inr ⟨(by kernel_rfl), L+1+1+1, (by kernel_rfl)⟩)) rfl (by kernel_rfl) (by kernel_rfl))
    (SSs_cons (SS_if (ST_cmp (SE_sub (SE_local (i := 5) he (by kernel_rfl) (by kernel_rfl) (by kernel_rfl)) (SE_local (i := 2) he (by kernel_rfl) (by kernel_rfl) (by kernel_rfl)) rfl) SE_str (by kernel_rfl)) (SSs_cons (SS_assign (SE_sub (SE_cell (i := 1) (c := L+1) he (by kernel_rfl) (by kernel_rfl) (by kernel_rfl) (by kernel_rfl)) (SE_cell (i := 6) (c := L+1+1) he (by kernel_rfl) (by kernel_rfl) (by kernel_rfl) (by kernel_rfl)) rfl) (SA_name (i := 3) he hT hF (by kernel_rfl) (.inr ⟨(by kernel_rfl), L+1+1+1, (by kernel_rfl)⟩)) rfl (by kernel_rfl) (by kernel_rfl))
    (SSs_cons (SS_augName (i := 6) he hT hF (by kernel_rfl) (.inr ⟨(by kernel_rfl), L+1+1, (by kernel_rfl)⟩) (SN_cell (i := 6) (c := L+1+1) he (by kernel_rfl) (by kernel_rfl) (by kernel_rfl)) SE_int)
    SSs_nil)) (SSs_cons (SS_if (ST_cmp (SE_sub (SE_local (i := 5) he (by kernel_rfl) (by kernel_rfl) (by kernel_rfl)) (SE_local (i := 2) he (by kernel_rfl) (by kernel_rfl) (by kernel_rfl)) rfl) SE_str (by kernel_rfl)) (SSs_cons (SS_assign SE_dead (SA_name (i := 3) he hT hF (by kernel_rfl) (.inr ⟨(by kernel_rfl), L+1+1+1, (by kernel_rfl)⟩)) rfl (by kernel_rfl) (by kernel_rfl))
    (SSs_cons (SS_augName (i := 6) he hT hF (by kernel_rfl) (.inr ⟨(by kernel_rfl), L+1+1, (by kernel_rfl)⟩) (SN_cell (i := 6) (c := L+1+1) he (by kernel_rfl) (by kernel_rfl) (by kernel_rfl)) (SE_bcall (id := "len") he (by kernel_rfl) (by kernel_rfl) H.b_len (SEL_cons (SE_cell (i := 3) (c := L+1+1+1) he (by kernel_rfl) (by kernel_rfl) (by kernel_rfl) (by kernel_rfl)) SEL_nil rfl) rfl))
    SSs_nil)) (SSs_cons (SS_if (ST_cmp (SE_sub (SE_local (i := 5) he (by kernel_rfl) (by kernel_rfl) (by kernel_rfl)) (SE_local (i := 2) he (by kernel_rfl) (by kernel_rfl) (by kernel_rfl)) rfl) SE_str (by kernel_rfl)) (SSs_cons SS_dead
    (SSs_cons (SS_augName (i := 6) he hT hF (by kernel_rfl) (.inr ⟨(by kernel_rfl), L+1+1, (by kernel_rfl)⟩) (SN_cell (i := 6) (c := L+1+1) he (by kernel_rfl) (by kernel_rfl) (by kernel_rfl)) (SE_bcall (id := "len") he (by kernel_rfl) (by kernel_rfl) H.b_len (SEL_cons (SE_cell (i := 3) (c := L+1+1+1) he (by kernel_rfl) (by kernel_rfl) (by kernel_rfl) (by kernel_rfl)) SEL_nil rfl) rfl))
    SSs_nil)) (SSs_cons (SS_if (ST_cmp (SE_sub (SE_local (i := 5) he (by kernel_rfl) (by kernel_rfl) (by kernel_rfl)) (SE_local (i := 2) he (by kernel_rfl) (by kernel_rfl) (by kernel_rfl)) rfl) SE_str (by kernel_rfl)) (SSs_cons (SS_assign (SE_tuple (SEL_cons (SE_sub (SE_cell (i := 3) (c := L+1+1+1) he (by kernel_rfl) (by kernel_rfl) (by kernel_rfl) (by kernel_rfl)) SE_int rfl) (SEL_cons SE_dead (SEL_cons (SE_sub (SE_cell (i := 3) (c := L+1+1+1) he (by kernel_rfl) (by kernel_rfl) (by kernel_rfl) (by kernel_rfl)) SE_int rfl) SEL_nil rfl) rfl) rfl)) (SA_name (i := 3) he hT hF (by kernel_rfl) (.inr ⟨(by kernel_rfl), L+1+1+1, (by kernel_rfl)⟩)) rfl (by kernel_rfl) (by kernel_rfl))
    (SSs_cons (SS_augName (i := 6) he hT hF (by kernel_rfl) (.inr ⟨(by kernel_rfl), L+1+1, (by kernel_rfl)⟩) (SN_cell (i := 6) (c := L+1+1) he (by kernel_rfl) (by kernel_rfl) (by kernel_rfl)) (SE_bcall (id := "len") he (by kernel_rfl) (by kernel_rfl) H.b_len (SEL_cons (SE_sub (SE_cell (i := 3) (c := L+1+1+1) he (by kernel_rfl) (by kernel_rfl) (by kernel_rfl) (by kernel_rfl)) SE_int rfl) SEL_nil rfl) rfl))
    SSs_nil)) SSs_nil)
    SSs_nil))
    SSs_nil))
    SSs_nil))
    (SSs_cons (SS_expr (SE_append (SE_local (i := 4) he (by kernel_rfl) (by kernel_rfl) (by kernel_rfl)) (SE_cell (i := 3) (c := L+1+1+1) he (by kernel_rfl) (by kernel_rfl) (by kernel_rfl) (by kernel_rfl)) rfl (by kernel_rfl) rfl) (by kernel_rfl) (by kernel_rfl))
    SSs_nil))) (fun _ => rfl) (.inl fun _ _ => rfl))
    (SSs_cons (SS_return (SE_tcall (t := "tuple") he (by kernel_rfl) (by kernel_rfl) H.b_tuple (SEL_cons (SE_local (i := 4) he (by kernel_rfl) (by kernel_rfl) (by kernel_rfl)) SEL_nil rfl) rfl))
    SSs_nil)))))) rfl ?_
  walk_at "s"
  refine g_op0 ?_
  refine tb_s (sh_rp op) ?_
  walk_at "s"
  refine g_op0 ?_
  walk_at "s"
  refine bc_len_str (shp_len op) ?_
  walk_at "s"
  refine it_rp ?_
  refine rp_loop (WjI ns i op mh) ?_ ?_ ⟨none, none, 0, [], rfl, rfl, rfl, rfl⟩
  · rintro v m ⟨at', part, u, l, _, hl', rfl, rfl⟩
    walk_at "s"
    refine tc_tuple get_last ?_
    walk_at "s"
    rw [hl', show MV.tup (.str (name op) :: (rp op).map (wjE ns)) = opM (setJumps op ns) from ?_]
    exact hQ _
    cases op
    case tru a g =>
      obtain ⟨n, rfl⟩ : ∃ n, ns = [n] := List.length_eq_one_iff.mp hl
      rfl
    all_goals rfl
  · rintro done e v m K he ⟨at', part, u, l, rfl, rfl, rfl, rfl⟩ hK
    walk_at "s"
    refine g_op he ?_
    walk_at "s"
    refine g_shp he ?_
    cases e
    case j x =>
      obtain ⟨h0, h1⟩ := j_first hl he
      walk_at "s"
      refine g_list (m := .int (ns.headD 0)) (get_app hi) (by rw [h0]; exact Int.le_refl _) (by rw [h0]; show (ns.map MV.int)[0]? = _; rw [List.getElem?_map, h1]; rfl) ?_
      walk_at "s"
      refine ap2L (ml_len he) ?_
      walk_at "s"
      exact hK _ _ ⟨_, _, _, done.map (wjE ns) ++ [.int (ns.headD 0)], nJ_add.symm, by rw [List.map_append]; rfl, rfl, rfl⟩
    all_goals
      walk_at "s"
      iterate 3
        refine g_shp he ?_
        walk_at "s"
      refine ap2L (ml_len he) ?_
      walk_at "s"
      exact hK _ _ (.non rfl rfl rfl rfl)

theorem dg1 {m : MH} {i : Nat} {es0 : List (Int × MV)} {R : Nat → Prop} (h : m[i]? = some (MO.dict es0)) (q : R i) : ∃ (i' : Nat) (es0' : List (Int × MV)), MV.ref i = .ref i' ∧ m[i']? = some (MO.dict es0') ∧ R i' := ⟨i, es0, rfl, h, q⟩
theorem dg2 {m : MH} {i : Nat} {es : List (Int × MV)} {x : Int} {R : Int → List (Int × MV) → Prop} (h : m[i]? = some (MO.dict es)) (q : R x es) : ∃ (x' : Int) (es' : List (Int × MV)), MV.int x = .int x' ∧ m[i]? = some (MO.dict es') ∧ R x' es' := ⟨x, es, rfl, h, q⟩
/-- what a register is called in the mapping -/
noncomputable def mapReads (f : Int → Int) : Op → Op
  | .set a => .set a
  | .move a b => .move a (f b)
  | .bin a b c => .bin a (f b) (f c)
  | .store a b => .store (f a) (f b)
  | .tru a g => .tru (f a) g
  | .ret r => .ret (f r)
  | .keep c r => .keep c (f r)
  | .fetch r c => .fetch r c
noncomputable def rrE (f : Int → Int) : RP → MV
  | .r x => .int (f x)
  | .o x => .int (f x)
  | e => e.mv
theorem look_map {β : Type} (g : β → MV) : ∀ (es : List (Int × β)) (x : Int), look (es.map fun e => (e.1, g e.2)) x = (es.lookup x).map g
  | [], _ => rfl
  | (a, b) :: es, x => by
    have ih := look_map g es x
    by_cases h : x = a
    · subst h; simp [look]
    · have h' : ¬ a = x := fun e => h e.symm
      have e1 : look (((a, b) :: es).map fun e => (e.1, g e.2)) x = look (es.map fun e => (e.1, g e.2)) x := by simp [look, h']
      rw [e1, ih, List.lookup_cons, beq_false_of_ne h]

theorem look_get (es : List (Int × Int)) (x : Int) : (look (es.map fun e => (e.1, MV.int e.2)) x).getD (.int x) = .int ((es.lookup x).getD x) := by
  rw [look_map MV.int]; cases es.lookup x <;> rfl
theorem c_read_part {C : Cx} (H : Hyp C) {k i : Nat} {e : RP} {es : List (Int × Int)} {Q : MV → MH → Prop} {mh : MH} (hi : mh[i]? = some (.dict (es.map fun e => (e.1, .int e.2)))) (hQ : Q (rrE (fun x => (es.lookup x).getD x) e) mh) : CallR C (k + 1) "read_part" [.str e.c, e.mv, .ref i] Q mh := by
  refine call_own H.f_read_part ["role", "part", "mapping"] (sok_mk (by kernel_rfl)) 0 (fun L qual code hF => have he := eok_fenv (L := L) (qual := qual) (fa := C.fa "read_part") (code := code) (sc := scopeAt 8) (by kernel_rfl); have hT := tok_of ["role", "part", "mapping"];
   (SSs_cons (SS_if (ST_or (ST_cmp (SE_local (i := 0) he (by kernel_rfl) (by kernel_rfl) (by kernel_rfl)) SE_str (by kernel_rfl)) (ST_cmp (SE_local (i := 0) he (by kernel_rfl) (by kernel_rfl) (by kernel_rfl)) SE_str (by kernel_rfl))) (SSs_cons (SS_return (SE_dget (SE_cell (i := 2) (c := L+1) he (by kernel_rfl) (by kernel_rfl) (by kernel_rfl) (by kernel_rfl)) (SE_local (i := 1) he (by kernel_rfl) (by kernel_rfl) (by kernel_rfl)) (SE_local (i := 1) he (by kernel_rfl) (by kernel_rfl) (by kernel_rfl)) rfl rfl (by kernel_rfl) rfl))
    SSs_nil) SSs_nil)
    (SSs_cons (SS_if (ST_cmp (SE_local (i := 0) he (by kernel_rfl) (by kernel_rfl) (by kernel_rfl)) SE_str (by kernel_rfl)) (SSs_cons (SS_return SE_dead)
    SSs_nil) SSs_nil)
    (SSs_cons (SS_if (ST_cmp (SE_local (i := 0) he (by kernel_rfl) (by kernel_rfl) (by kernel_rfl)) SE_str (by kernel_rfl)) (SSs_cons (SS_return SE_dead)
    SSs_nil) SSs_nil)
    (SSs_cons (SS_if (ST_cmp (SE_local (i := 0) he (by kernel_rfl) (by kernel_rfl) (by kernel_rfl)) SE_str (by kernel_rfl)) (SSs_cons (SS_return (SE_tuple (SEL_cons SE_dead (SEL_cons (SE_sub (SE_local (i := 1) he (by kernel_rfl) (by kernel_rfl) (by kernel_rfl)) SE_int rfl) (SEL_cons (SE_sub (SE_local (i := 1) he (by kernel_rfl) (by kernel_rfl) (by kernel_rfl)) SE_int rfl) SEL_nil rfl) rfl) rfl)))
    SSs_nil) SSs_nil)
    (SSs_cons (SS_return (SE_local (i := 1) he (by kernel_rfl) (by kernel_rfl) (by kernel_rfl)))
    SSs_nil)))))) rfl ?_
  cases e
  case r x =>
    (repeat (first | refine dg1 hi ?_ | refine dg2 hi ?_ | walk_at "s1"))
    exact (congrArg (fun y => Q y mh) (look_get es x)).mpr hQ
  case o x =>
    (repeat (first | refine dg1 hi ?_ | refine dg2 hi ?_ | walk_at "s1"))
    exact (congrArg (fun y => Q y mh) (look_get es x)).mpr hQ
  all_goals
    walk_at "s"
    exact hQ
inductive RrI (f : Int → Int) (i : Nat) (op : Op) (mh : MH) (done : List RP) (v : Vars) (m : MH) : Prop
  | mk (at' : Option MV) (l : List MV) (hl : l = done.map (rrE f)) (h1 : v = [some (opM op), some (.ref i), at', some (.ref mh.length), some (.str (shp (rp op)))]) (h2 : m = mh ++ [.list (.str (name op) :: l)])

theorem c_with_reads {C : Cx} (H : Hyp C) {k i : Nat} {op : Op} {es : List (Int × Int)} {Q : MV → MH → Prop} {mh : MH} (hi : mh[i]? = some (.dict (es.map fun e => (e.1, .int e.2))))
    (hQ : ∀ o, Q (opM (mapReads (fun x => (es.lookup x).getD x) op)) (mh ++ [o])) : CallR C (k + 2) "with_reads" [opM op, .ref i] Q mh := by
  refine call_own H.f_with_reads ["op", "mapping", "at", "parts", "shape"] (sok_mk (by kernel_rfl)) 3 (fun L qual code hF => have he := eok_fenv (L := L) (qual := qual) (fa := C.fa "with_reads") (code := code) (sc := scopeAt 9) (by kernel_rfl); have hT := tok_of ["op", "mapping", "at", "parts", "shape"];
   (SSs_cons (SS_assign (SE_tab he (by kernel_rfl) (by kernel_rfl) H.shapes (SE_sub (SE_local (i := 0) he (by kernel_rfl) (by kernel_rfl) (by kernel_rfl)) SE_int rfl) rfl) (SA_name (i := 4) he hT hF (by kernel_rfl) (.inl (by kernel_rfl))) rfl (by kernel_rfl) (by kernel_rfl))
    (SSs_cons (SS_assign (SE_list (SEL_cons (SE_sub (SE_local (i := 0) he (by kernel_rfl) (by kernel_rfl) (by kernel_rfl)) SE_int rfl) SEL_nil rfl)) (SA_name (i := 3) he hT hF (by kernel_rfl) (.inl (by kernel_rfl))) rfl (by kernel_rfl) (by kernel_rfl))
    (SSs_cons (SS_for (SE_tcall (t := "range") he (by kernel_rfl) (by kernel_rfl) H.b_range (SEL_cons (SE_bcall (id := "len") he (by kernel_rfl) (by kernel_rfl) H.b_len (SEL_cons (SE_local (i := 4) he (by kernel_rfl) (by kernel_rfl) (by kernel_rfl)) SEL_nil rfl) rfl) SEL_nil rfl) rfl) (SA_name (i := 2) he hT hF (by kernel_rfl) (.inl (by kernel_rfl))) (SSs_cons (SS_expr (SE_append (SE_local (i := 3) he (by kernel_rfl) (by kernel_rfl) (by kernel_rfl)) (SE_call he (by kernel_rfl) (by kernel_rfl) H.f_read_part.at (SEL_cons (SE_sub (SE_local (i := 4) he (by kernel_rfl) (by kernel_rfl) (by kernel_rfl)) (SE_local (i := 2) he (by kernel_rfl) (by kernel_rfl) (by kernel_rfl)) rfl) (SEL_cons (SE_sub (SE_local (i := 0) he (by kernel_rfl) (by kernel_rfl) (by kernel_rfl)) (SE_binop (SE_local (i := 2) he (by kernel_rfl) (by kernel_rfl) (by kernel_rfl)) SE_int) rfl) (SEL_cons (SE_local (i := 1) he (by kernel_rfl) (by kernel_rfl) (by kernel_rfl)) SEL_nil rfl) rfl) rfl) rfl) rfl (by kernel_rfl) rfl) (by kernel_rfl) (by kernel_rfl))
    SSs_nil) (fun _ => rfl) (.inl fun _ _ => rfl))
    (SSs_cons (SS_return (SE_tcall (t := "tuple") he (by kernel_rfl) (by kernel_rfl) H.b_tuple (SEL_cons (SE_local (i := 3) he (by kernel_rfl) (by kernel_rfl) (by kernel_rfl)) SEL_nil rfl) rfl))
    SSs_nil))))) rfl ?_
  generalize hf : (fun x => (es.lookup x).getD x) = f at hQ
  walk_at "s"
  refine g_op0 ?_
  refine tb_s (sh_rp op) ?_
  walk_at "s"
  refine g_op0 ?_
  walk_at "s"
  refine bc_len_str (shp_len op) ?_
  walk_at "s"
  refine it_rp ?_
  refine rp_loop (RrI f i op mh) ?_ ?_ ⟨none, [], rfl, rfl, rfl⟩
  · rintro v m ⟨at', l, hl', rfl, rfl⟩
    walk_at "s"
    refine tc_tuple get_last ?_
    walk_at "s"
    rw [hl', show MV.tup (.str (name op) :: (rp op).map (rrE f)) = opM (mapReads f op) by cases op <;> rfl]
    exact hQ _
  · rintro done e v m K he ⟨at', l, rfl, rfl, rfl⟩ hK
    walk_at "s"
    refine g_shp he ?_
    walk_at "s"
    refine g_op he ?_
    walk_at "s"
    refine c_read_part H (get_app hi) ?_
    refine ap2L (ml_len he) ?_
    walk_at "s"
    exact hK _ _ ⟨_, done.map (rrE f) ++ [rrE f e], by rw [List.map_append]; rfl, rfl, by rw [hf]; rfl⟩
noncomputable def setWrite : Op → Int → Op
  | .set _, r => .set r
  | .move _ b, r => .move r b
  | .bin _ b c, r => .bin r b c
  | .fetch _ c, r => .fetch r c
  | .store a b, _ => .store a b
  | .tru a g, _ => .tru a g
  | .ret r, _ => .ret r
  | .keep c r, _ => .keep c r

theorem lt_f {a b : Int} {mh} (h : b ≤ a) : cmpM .Lt (.int a) (.int b) mh = some false := by
  show some (decide (a < b)) = _
  rw [decide_eq_false (by lia)]
theorem lt_t {a b : Int} {mh} (h : a < b) : cmpM .Lt (.int a) (.int b) mh = some true := by
  show some (decide (a < b)) = _
  rw [decide_eq_true h]
theorem ge_t {a b : Int} {mh} (h : b ≤ a) : cmpM .GtE (.int a) (.int b) mh = some true := by
  show some (decide (b ≤ a)) = _
  rw [decide_eq_true h]
theorem ge_f {a b : Int} {mh} (h : a < b) : cmpM .GtE (.int a) (.int b) mh = some false := by
  show some (decide (b ≤ a)) = _
  rw [decide_eq_false (by lia)]
theorem gt_t {a b : Int} {mh} (h : b < a) : cmpM .Gt (.int a) (.int b) mh = some true := by
  show some (decide (b < a)) = _
  rw [decide_eq_true h]
theorem gt_f {a b : Int} {mh} (h : a ≤ b) : cmpM .Gt (.int a) (.int b) mh = some false := by
  show some (decide (b < a)) = _
  rw [decide_eq_false (by lia)]
theorem sf1 {xs : List MV} {n : Int} {R : List MV → Int → Prop} (h1 : 1 ≤ n) (h2 : n ≤ xs.length) (h3 : xs.length ≤ 4096) (q : R xs n) : ∃ (xs' : List MV) (n' : Int), MV.tup xs = .tup xs' ∧ MV.int n = .int n' ∧ 1 ≤ n' ∧ n' ≤ xs'.length ∧ xs'.length ≤ 4096 ∧ R xs' n' := ⟨xs, n, rfl, rfl, h1, h2, h3, q⟩

theorem c_with_write {C : Cx} (H : Hyp C) {k : Nat} {op : Op} {r : Int} {Q : MV → MH → Prop} {mh : MH} (hw : 0 ≤ writes op) (hQ : Q (opM (setWrite op r)) mh) : CallR C (k + 2) "with_write" [opM op, .int r] Q mh := by
  refine call_own H.f_with_write ["op", "register"] (sok_mk (by kernel_rfl)) 0 (fun L qual code hF => have he := eok_fenv (L := L) (qual := qual) (fa := C.fa "with_write") (code := code) (sc := scopeAt 10) (by kernel_rfl); have hT := tok_of ["op", "register"];
   (SSs_cons (SS_if (ST_cmp (SE_call he (by kernel_rfl) (by kernel_rfl) H.f_writes_of.at (SEL_cons (SE_local (i := 0) he (by kernel_rfl) (by kernel_rfl) (by kernel_rfl)) SEL_nil rfl) rfl) SE_int (by kernel_rfl)) (SSs_cons (SS_return (SE_local (i := 0) he (by kernel_rfl) (by kernel_rfl) (by kernel_rfl)))
    SSs_nil) SSs_nil)
    (SSs_cons (SS_return (SE_binop (SE_tuple (SEL_cons (SE_sub (SE_local (i := 0) he (by kernel_rfl) (by kernel_rfl) (by kernel_rfl)) SE_int rfl) (SEL_cons (SE_local (i := 1) he (by kernel_rfl) (by kernel_rfl) (by kernel_rfl)) SEL_nil rfl) rfl)) (SE_sliceFrom (SE_local (i := 0) he (by kernel_rfl) (by kernel_rfl) (by kernel_rfl)) SE_int)))
    SSs_nil))) rfl ?_
  have w := fun Q' (q : Q' (.int (writes op)) mh) => c_writes_of (Q := Q') H (k := k) (op := op) (mh := mh) q
  cases op <;> (try (simp [writes] at hw; done)) <;> dsimp only [opM] at w ⊢
  all_goals
    walk_at "s"
    refine w _ ?_
    walk_at "s"
    refine cmp_f (lt_f hw) ?_
    walk_at "s"
    refine sf1 (by decide) (by simp) (by simp) ?_
    refine b_tups (by simp) (by simp) (by simp) ?_
    walk_at "s"
    exact hQ

noncomputable def follow (op : Op) (at' : Int) : List Int := jumps op ++ if goesOn op = true then [at' + 1] else []

theorem getElem_map {α β : Type} {f : α → β} {l : List α} {i : Nat} {x : α} (h : l[i]? = some x) : (l.map f)[i]? = some (f x) := by simp [h]

theorem c_follows {C : Cx} (H : Hyp C) {k i : Nat} {ops : List Op} {a : Nat} {op : Op} {Q : MV → MH → Prop} {mh : MH} (hi : mh[i]? = some (.list (ops.map opM))) (ha : ops[a]? = some op)
    (hQ : ∀ o, Q (.ref (mh ++ [o]).length) (mh ++ [o] ++ [.list ((follow op a).map .int)])) : CallR C (k + 2) "follows" [.ref i, .int a] Q mh := by
  refine call_own H.f_follows ["ops", "at", "found"] (sok_mk (by kernel_rfl)) 1 (fun L qual code hF => have he := eok_fenv (L := L) (qual := qual) (fa := C.fa "follows") (code := code) (sc := scopeAt 12) (by kernel_rfl); have hT := tok_of ["ops", "at", "found"];
   (SSs_cons (SS_assign (SE_tcall (t := "list") he (by kernel_rfl) (by kernel_rfl) H.b_list (SEL_cons (SE_call he (by kernel_rfl) (by kernel_rfl) H.f_jumps_of.at (SEL_cons (SE_sub (SE_local (i := 0) he (by kernel_rfl) (by kernel_rfl) (by kernel_rfl)) (SE_local (i := 1) he (by kernel_rfl) (by kernel_rfl) (by kernel_rfl)) rfl) SEL_nil rfl) rfl) SEL_nil rfl) rfl) (SA_name (i := 2) he hT hF (by kernel_rfl) (.inl (by kernel_rfl))) rfl (by kernel_rfl) (by kernel_rfl))
    (SSs_cons (SS_if (ST_val (SE_call he (by kernel_rfl) (by kernel_rfl) H.f_goes_on.at (SEL_cons (SE_sub (SE_local (i := 0) he (by kernel_rfl) (by kernel_rfl) (by kernel_rfl)) (SE_local (i := 1) he (by kernel_rfl) (by kernel_rfl) (by kernel_rfl)) rfl) SEL_nil rfl) rfl) rfl) (SSs_cons (SS_expr (SE_append (SE_local (i := 2) he (by kernel_rfl) (by kernel_rfl) (by kernel_rfl)) (SE_binop (SE_local (i := 1) he (by kernel_rfl) (by kernel_rfl) (by kernel_rfl)) SE_int) rfl (by kernel_rfl) rfl) (by kernel_rfl) (by kernel_rfl))
    SSs_nil) SSs_nil)
    (SSs_cons (SS_return (SE_local (i := 2) he (by kernel_rfl) (by kernel_rfl) (by kernel_rfl)))
    SSs_nil)))) rfl ?_
  walk_at "s"
  refine g_list hi (by lia) (by simpa using getElem_map ha) ?_
  walk_at "s"
  refine c_jumps_of H ?_
  walk_at "s"
  refine tc_list get_last ?_
  walk_at "s"
  refine g_list (get_app (get_app hi)) (by lia) (by simpa using getElem_map ha) ?_
  walk_at "s"
  refine c_goes_on H ?_
  refine ⟨_, rfl, ?_⟩
  have hQ' := hQ (.list ((jumps op).map .int))
  unfold follow at hQ'
  cases hg : goesOn op with
  | true =>
    rw [hg] at hQ'
    simp only [if_true, List.map_append, List.map_cons, List.map_nil] at hQ'
    walk_at "s"
    refine ap2 get_last (by cases op <;> simp [jumps]) set_last' ?_
    walk_at "s"
    exact hQ'
  | false =>
    rw [hg] at hQ'
    simp only [Bool.false_eq_true, if_false, List.append_nil] at hQ'
    walk_at "s"
    exact hQ'

noncomputable def behindF (lv : List Int) (goals : List Int) (m : Int) : Int := goals.foldl (fun m g => Builtin.bitOr m (lv.getD g.toNat 0)) m

theorem getD_map {l : List Int} {g : Int} (h0 : 0 ≤ g) (h : g < l.length) : (l.map MV.int)[g.toNat]? = some (.int (l.getD g.toNat 0)) := by
  have : g.toNat < l.length := by lia
  simp [this]

theorem c_live_behind {C : Cx} (H : Hyp C) {k i j : Nat} {ops : List Op} {lv : List Int} {a : Nat} {op : Op} {Q : MV → MH → Prop} {mh : MH} (hi : mh[i]? = some (.list (ops.map opM))) (hj : mh[j]? = some (.list (lv.map .int))) (ha : ops[a]? = some op)
    (hg : ∀ g ∈ follow op a, 0 ≤ g ∧ g < lv.length)
    (hQ : ∀ o o', Q (.int (behindF lv (follow op a) 0)) (mh ++ [o] ++ [o'])) : CallR C (k + 3) "live_behind" [.ref i, .ref j, .int a] Q mh := by
  refine call_own H.f_live_behind ["ops", "live", "at", "goal", "mask"] (sok_mk (by kernel_rfl)) 2 (fun L qual code hF => have he := eok_fenv (L := L) (qual := qual) (fa := C.fa "live_behind") (code := code) (sc := scopeAt 15) (by kernel_rfl); have hT := tok_of ["ops", "live", "at", "goal", "mask"];
   (SSs_cons (SS_assign SE_int (SA_name (i := 4) he hT hF (by kernel_rfl) (.inl (by kernel_rfl))) rfl (by kernel_rfl) (by kernel_rfl))
    (SSs_cons (SS_for (SE_call he (by kernel_rfl) (by kernel_rfl) H.f_follows.at (SEL_cons (SE_local (i := 0) he (by kernel_rfl) (by kernel_rfl) (by kernel_rfl)) (SEL_cons (SE_local (i := 2) he (by kernel_rfl) (by kernel_rfl) (by kernel_rfl)) SEL_nil rfl) rfl) rfl) (SA_name (i := 3) he hT hF (by kernel_rfl) (.inl (by kernel_rfl))) (SSs_cons (SS_augName (i := 4) he hT hF (by kernel_rfl) (.inl (by kernel_rfl)) (SN_local (i := 4) he (by kernel_rfl) (by kernel_rfl)) (SE_sub (SE_local (i := 1) he (by kernel_rfl) (by kernel_rfl) (by kernel_rfl)) (SE_local (i := 3) he (by kernel_rfl) (by kernel_rfl) (by kernel_rfl)) rfl))
    SSs_nil) (fun _ => rfl) (.inl fun _ _ => rfl))
    (SSs_cons (SS_return (SE_local (i := 4) he (by kernel_rfl) (by kernel_rfl) (by kernel_rfl)))
    SSs_nil)))) rfl ?_
  walk_at "s"
  refine c_follows H hi ha fun o => ?_
  refine it_list get_last ?_
  refine forN_ind (f := .int) (fun r v m => m = mh ++ [o] ++ [.list ((follow op a).map .int)] ∧ ∃ acc old, v = [some (.ref i), some (.ref j), some (.int a), old, some (.int acc)] ∧ behindF lv r acc = behindF lv (follow op a) 0 ∧ ∀ n ∈ r, 0 ≤ n ∧ n < lv.length) ?_ ?_ _ _ _ ⟨rfl, 0, none, rfl, rfl, hg⟩
  · rintro v m ⟨rfl, acc, old, rfl, e, _⟩
    walk_at "s"
    rw [show acc = behindF lv (follow op a) 0 from e]
    exact hQ _ _
  · rintro g r v m K ⟨rfl, acc, old, rfl, e, hb⟩ hK
    have hgg := hb g List.mem_cons_self
    walk_at "s"
    refine g_list (get_app (get_app hj)) hgg.1 (getD_map hgg.1 hgg.2) ?_
    refine i_or ?_
    refine ⟨get_last, ?_⟩
    refine fl_next ?_
    exact hK _ _ ⟨rfl, _, _, rfl, e, fun n hn => hb n (List.mem_cons_of_mem _ hn)⟩

noncomputable def distinctF : List Int → List Int → List Int
  | [], out => out
  | r :: rs, out => distinctF rs (if out.contains r then out else out ++ [r])

theorem any_ints {x : Int} : ∀ {l : List Int}, anyEq (.int x) (l.map .int) = some (l.contains x)
  | [] => rfl
  | a :: r => by
    rw [List.map_cons]
    show or2 (some (a == x)) (anyEq (.int x) (r.map .int)) = _
    rw [any_ints, show (a == x) = (x == a) from Bool.beq_comm, List.contains_cons]
    rfl

theorem in_list {m : MH} {i : Nat} {x : Int} {l : List Int} (h : m[i]? = some (.list (l.map .int))) : cmpM .In (.int x) (.ref i) m = some (l.contains x) := by
  show inO (.int x) m[i]? = _
  rw [h]
  exact any_ints
theorem notin_list {m : MH} {i : Nat} {x : Int} {l : List Int} (h : m[i]? = some (.list (l.map .int))) : cmpM .NotIn (.int x) (.ref i) m = some (!l.contains x) := by
  have := in_list (x := x) h
  show (inM m (.int x) (.ref i)).map (!·) = _
  rw [show inM m (.int x) (.ref i) = some (l.contains x) from this]
  rfl

theorem distinct_len : ∀ (l out : List Int), (distinctF l out).length ≤ out.length + l.length
  | [], out => by simp [distinctF]
  | r :: rs, out => by
    unfold distinctF
    cases h : out.contains r with
    | true =>
      have := distinct_len rs out
      show (distinctF rs out).length ≤ _
      rw [List.length_cons]; lia
    | false =>
      have := distinct_len rs (out ++ [r])
      show (distinctF rs (out ++ [r])).length ≤ _
      rw [List.length_append, List.length_singleton] at this
      rw [List.length_cons]; lia

theorem c_distinct {C : Cx} (H : Hyp C) {k i : Nat} {ns : List Int} {Q : MV → MH → Prop} {mh : MH} (hi : mh[i]? = some (.list (ns.map .int))) (hn : ns.length ≤ 1000) (hQ : Q (.ref mh.length) (mh ++ [.list ((distinctF ns []).map .int)])) : CallR C (k + 1) "distinct" [.ref i] Q mh := by
  refine call_own H.f_distinct ["registers", "found", "register"] (sok_mk (by kernel_rfl)) 2 (fun L qual code hF => have he := eok_fenv (L := L) (qual := qual) (fa := C.fa "distinct") (code := code) (sc := scopeAt 24) (by kernel_rfl); have hT := tok_of ["registers", "found", "register"];
   (SSs_cons (SS_assign (SE_list SEL_nil) (SA_name (i := 1) he hT hF (by kernel_rfl) (.inl (by kernel_rfl))) rfl (by kernel_rfl) (by kernel_rfl))
    (SSs_cons (SS_for (SE_local (i := 0) he (by kernel_rfl) (by kernel_rfl) (by kernel_rfl)) (SA_name (i := 2) he hT hF (by kernel_rfl) (.inl (by kernel_rfl))) (SSs_cons (SS_if (ST_cmp (SE_local (i := 2) he (by kernel_rfl) (by kernel_rfl) (by kernel_rfl)) (SE_local (i := 1) he (by kernel_rfl) (by kernel_rfl) (by kernel_rfl)) (by kernel_rfl)) (SSs_cons (SS_expr (SE_append (SE_local (i := 1) he (by kernel_rfl) (by kernel_rfl) (by kernel_rfl)) (SE_local (i := 2) he (by kernel_rfl) (by kernel_rfl) (by kernel_rfl)) rfl (by kernel_rfl) rfl) (by kernel_rfl) (by kernel_rfl))
    SSs_nil) SSs_nil)
    SSs_nil) (fun _ => rfl) (.inl fun _ _ => rfl))
    (SSs_cons (SS_return (SE_local (i := 1) he (by kernel_rfl) (by kernel_rfl) (by kernel_rfl)))
    SSs_nil)))) rfl ?_
  walk_at "s"
  refine it_list (get_app hi) ?_
  refine forN_ind (f := .int) (fun r v m => ∃ out old, m = mh ++ [.list (out.map .int)] ∧ v = [some (.ref i), some (.ref mh.length), old] ∧ distinctF r out = distinctF ns [] ∧ out.length + r.length ≤ 1000) ?_ ?_ _ _ _ ⟨[], none, rfl, rfl, rfl, by simpa using hn⟩
  · rintro v m ⟨out, old, rfl, rfl, e, _⟩
    walk_at "s"
    rw [show out = distinctF ns [] from e]
    exact hQ
  · rintro g r v m K ⟨out, old, rfl, rfl, e, hl⟩ hK
    rw [List.length_cons] at hl
    walk_at "s"
    refine ⟨_, notin_list get_last, ?_⟩
    cases hc : out.contains g with
    | true =>
      refine st_f ?_
      walk_at "s"
      refine ⟨get_app hi, ?_⟩
      walk_at "s"
      refine hK _ _ ⟨out, _, rfl, rfl, ?_, by lia⟩
      rw [← e, distinctF, hc]; rfl
    | false =>
      refine st_t ?_
      walk_at "s"
      refine ap2 (xs := out.map .int) get_last (by rw [List.length_map]; lia) set_last' ?_
      walk_at "s"
      refine ⟨get_app hi, ?_⟩
      walk_at "s"
      refine hK _ _ ⟨out ++ [g], _, by simp, rfl, ?_, by simp; lia⟩
      rw [← e, distinctF, hc]; rfl
noncomputable def mostF (ops : List Op) (m : Int) : Int := ops.foldl (fun m op => max m ((distinctF (reads op) []).length : Int)) m

theorem reads_len (op : Op) : (reads op).length ≤ 2 := by cases op <;> simp [reads]

theorem c_most_reads {C : Cx} (H : Hyp C) {k i : Nat} {ops : List Op} {Q : MV → MH → Prop} {mh : MH} (hi : mh[i]? = some (.list (ops.map opM))) (hr : ∀ op ∈ ops, okRet op) (hQ : ∀ l, Q (.int (mostF ops 1)) (mh ++ l)) : CallR C (k + 2) "most_reads" [.ref i] Q mh := by
  refine call_own H.f_most_reads ["ops", "most", "op"] (sok_mk (by kernel_rfl)) 2 (fun L qual code hF => have he := eok_fenv (L := L) (qual := qual) (fa := C.fa "most_reads") (code := code) (sc := scopeAt 23) (by kernel_rfl); have hT := tok_of ["ops", "most", "op"];
   (SSs_cons (SS_assign SE_int (SA_name (i := 1) he hT hF (by kernel_rfl) (.inl (by kernel_rfl))) rfl (by kernel_rfl) (by kernel_rfl))
    (SSs_cons (SS_for (SE_local (i := 0) he (by kernel_rfl) (by kernel_rfl) (by kernel_rfl)) (SA_name (i := 2) he hT hF (by kernel_rfl) (.inl (by kernel_rfl))) (SSs_cons (SS_assign (SE_bcall (id := "max") he (by kernel_rfl) (by kernel_rfl) H.b_max (SEL_cons (SE_local (i := 1) he (by kernel_rfl) (by kernel_rfl) (by kernel_rfl)) (SEL_cons (SE_bcall (id := "len") he (by kernel_rfl) (by kernel_rfl) H.b_len (SEL_cons (SE_call he (by kernel_rfl) (by kernel_rfl) H.f_distinct.at (SEL_cons (SE_call he (by kernel_rfl) (by kernel_rfl) H.f_reads_of.at (SEL_cons (SE_local (i := 2) he (by kernel_rfl) (by kernel_rfl) (by kernel_rfl)) SEL_nil rfl) rfl) SEL_nil rfl) rfl) SEL_nil rfl) rfl) SEL_nil rfl) rfl) rfl) (SA_name (i := 1) he hT hF (by kernel_rfl) (.inl (by kernel_rfl))) rfl (by kernel_rfl) (by kernel_rfl))
    SSs_nil) (fun _ => rfl) (.inl fun _ _ => rfl))
    (SSs_cons (SS_return (SE_local (i := 1) he (by kernel_rfl) (by kernel_rfl) (by kernel_rfl)))
    SSs_nil)))) rfl ?_
  walk_at "s"
  refine it_list hi ?_
  refine forN_ind (f := opM) (fun r v m => ∃ l acc old, m = mh ++ l ∧ v = [some (.ref i), some (.int acc), old] ∧ mostF r acc = mostF ops 1 ∧ ∀ op ∈ r, okRet op) ?_ ?_ _ _ _ ⟨[], 1, none, by simp, rfl, rfl, hr⟩
  · rintro v m ⟨l, acc, old, rfl, rfl, e, _⟩
    walk_at "s"
    rw [show acc = mostF ops 1 from e]
    exact hQ _
  · rintro op r v m K ⟨l, acc, old, rfl, rfl, e, hr⟩ hK
    walk_at "s"
    refine c_reads_of H (hr op List.mem_cons_self) ?_
    refine c_distinct H get_last (by have := reads_len op; lia) ?_
    refine bc_len_list get_last ?_
    refine bc_max2 ?_
    refine ⟨get_app (get_app (get_app hi)), ?_⟩
    walk_at "s"
    refine hK _ _ ⟨l ++ [_] ++ [_], _, _, by simp only [List.append_assoc]; rfl, rfl, ?_, fun op hop => hr op (List.mem_cons_of_mem _ hop)⟩
    rw [← e, List.length_map]
    rfl

/-! ranges as pairs -/
abbrev Rg := List (Int × (Int × Int))
noncomputable def rgM (es : Rg) : List (Int × MV) := es.map fun e => (e.1, pairM e.2)
noncomputable def putP {β : Type} (es : List (Int × β)) (k : Int) (v : β) : List (Int × β) := if es.any (fun e => decide (e.1 = k)) then es.map (fun e => if e.1 = k then (e.1, v) else e) else es ++ [(k, v)]

theorem put_map {β : Type} (g : β → MV) (es : List (Int × β)) (k : Int) (v : β) : put (es.map fun e => (e.1, g e.2)) k (g v) = (putP es k v).map fun e => (e.1, g e.2) := by
  unfold put putP
  rw [List.any_map]
  have : ((fun e : Int × MV => decide (e.1 = k)) ∘ fun e : Int × β => (e.1, g e.2)) = fun e : Int × β => decide (e.1 = k) := rfl
  rw [this]
  split
  · rw [List.map_map, List.map_map]
    refine List.map_congr_left fun e _ => ?_
    simp only [Function.comp]
    split <;> rfl
  · simp

theorem in_dict {m : MH} {i : Nat} {x : Int} {es : List (Int × MV)} (h : m[i]? = some (.dict es)) : cmpM .In (.int x) (.ref i) m = some (look es x).isSome := by
  show inO (.int x) m[i]? = _
  rw [h]
  rfl
theorem notin_dict {m : MH} {i : Nat} {x : Int} {es : List (Int × MV)} (h : m[i]? = some (.dict es)) : cmpM .NotIn (.int x) (.ref i) m = some (!(look es x).isSome) := by
  have := in_dict (x := x) h
  show (inM m (.int x) (.ref i)).map (!·) = _
  rw [show inM m (.int x) (.ref i) = some (look es x).isSome from this]
  rfl

theorem set_dict {m : MH} {i : Nat} {x : Int} {v : MV} {es : List (Int × MV)} {R : MH → Prop} (h : m[i]? = some (.dict es)) (hl : es.length < 4096) (q : R (m.set i (.dict (put es x v)))) : ∃ m3, setM m (.ref i) (.int x) v = some m3 ∧ R m3 := by
  refine ⟨_, ?_, q⟩
  show setO m i x v m[i]? = _
  rw [h]
  exact if_pos hl

theorem set_list {m : MH} {i : Nat} {x : Int} {v : MV} {xs : List MV} {R : MH → Prop} (h : m[i]? = some (.list xs)) (hl : 0 ≤ x ∧ x < xs.length) (q : R (m.set i (.list (xs.set x.toNat v)))) : ∃ m3, setM m (.ref i) (.int x) v = some m3 ∧ R m3 := by
  refine ⟨_, ?_, q⟩
  show setO m i x v m[i]? = _
  rw [h]
  exact if_pos hl

theorem set_sdict {m : MH} {i : Nat} {x : Str} {v : MV} {es : List (Str × MV)} {R : MH → Prop} (h : m[i]? = some (.sdict es)) (hl : es.length < 4096) (q : R (m.set i (.sdict (put es x v)))) : ∃ m3, setM m (.ref i) (.str x) v = some m3 ∧ R m3 := by
  refine ⟨_, ?_, q⟩
  show setS m i x v m[i]? = _
  rw [h]
  exact if_pos hl

noncomputable def widenF (es : Rg) (r at' : Int) : Rg := putP es r (((es.lookup r).map (·.1)).getD at', at')

theorem c_widen {C : Cx} (H : Hyp C) {k i : Nat} {es : Rg} {r a : Int} {Q : MV → MH → Prop} {mh : MH} (hi : mh[i]? = some (.dict (rgM es))) (hl : es.length < 1000) (hQ : Q .none (mh.set i (.dict (rgM (widenF es r a))))) : CallR C (k + 1) "widen" [.ref i, .int r, .int a] Q mh := by
  refine call_own H.f_widen ["found", "register", "at", "first"] (sok_mk (by kernel_rfl)) 1 (fun L qual code hF => have he := eok_fenv (L := L) (qual := qual) (fa := C.fa "widen") (code := code) (sc := scopeAt 22) (by kernel_rfl); have hT := tok_of ["found", "register", "at", "first"];
   (SSs_cons (SS_assign (SE_local (i := 2) he (by kernel_rfl) (by kernel_rfl) (by kernel_rfl)) (SA_name (i := 3) he hT hF (by kernel_rfl) (.inl (by kernel_rfl))) rfl (by kernel_rfl) (by kernel_rfl))
    (SSs_cons (SS_if (ST_cmp (SE_local (i := 1) he (by kernel_rfl) (by kernel_rfl) (by kernel_rfl)) (SE_local (i := 0) he (by kernel_rfl) (by kernel_rfl) (by kernel_rfl)) (by kernel_rfl)) (SSs_cons (SS_assign (SE_sub (SE_sub (SE_local (i := 0) he (by kernel_rfl) (by kernel_rfl) (by kernel_rfl)) (SE_local (i := 1) he (by kernel_rfl) (by kernel_rfl) (by kernel_rfl)) rfl) SE_int rfl) (SA_name (i := 3) he hT hF (by kernel_rfl) (.inl (by kernel_rfl))) rfl (by kernel_rfl) (by kernel_rfl))
    SSs_nil) SSs_nil)
    (SSs_cons (SS_assign (SE_tuple (SEL_cons (SE_local (i := 3) he (by kernel_rfl) (by kernel_rfl) (by kernel_rfl)) (SEL_cons (SE_local (i := 2) he (by kernel_rfl) (by kernel_rfl) (by kernel_rfl)) SEL_nil rfl) rfl)) (SA_sub (SE_local (i := 0) he (by kernel_rfl) (by kernel_rfl) (by kernel_rfl)) (SE_local (i := 1) he (by kernel_rfl) (by kernel_rfl) (by kernel_rfl))) rfl (by kernel_rfl) (by kernel_rfl))
    SSs_nil)))) rfl ?_
  have hk : look (rgM es) r = (es.lookup r).map pairM := look_map pairM es r
  have hp : ∀ p, put (rgM es) r (pairM p) = rgM (putP es r p) := fun p => put_map pairM es r p
  have hlen : (rgM es).length < 4096 := by simp [rgM]; lia
  walk_at "s"
  refine ⟨_, in_dict hi, ?_⟩
  rw [hk]
  unfold widenF at hQ
  cases hs : es.lookup r with
  | none =>
    rw [hs] at hQ
    refine st_f ?_
    walk_at "s"
    refine set_dict hi hlen ?_
    have := hp (a, a)
    unfold pairM at this
    rw [this]
    walk_at "s"
    exact hQ
  | some p =>
    rw [hs] at hQ
    refine st_t ?_
    walk_at "s"
    refine g_dict hi (by rw [hk, hs]; rfl) ?_
    unfold pairM
    walk_at "s"
    refine set_dict hi hlen ?_
    have := hp (p.1, a)
    unfold pairM at this
    rw [this]
    walk_at "s"
    exact hQ
theorem whileN_ind {T : BT} {B : STT} {Q : MF → Vars → MH → Prop} (I : Nat → Vars → MH → Prop)
    (step : ∀ n v m (K : Vars → MH → Prop), I n v m → (∀ n', n = n' + 1 → ∀ v' m', I n' v' m' → K v' m') → T (fun b m1 => if b = true then B (fun f v m => flowN K Q id f v m) v m1 else Q .next v m1) v m) :
    ∀ n v m, I n v m → whileN T B (n + 1) Q v m
  | 0, v, m, h => step 0 v m _ h (fun n' e => by cases e)
  | n + 1, v, m, h => step (n + 1) v m _ h fun n' e v' m' h' => by
      cases e
      exact whileN_ind I step n v' m' h'
theorem w_one {T : BT} {B : STT} {Q : MF → Vars → MH → Prop} {v m} (q : T (fun b m1 => if b = true then B (fun f v m => flowN (fun v m => whileN T B 0 Q v m) Q id f v m) v m1 else Q .next v m1) v m) : ∃ n, whileN T B n Q v m := ⟨1, q⟩
theorem w_many {T : BT} {B : STT} {Q : MF → Vars → MH → Prop} {v m} {n : Nat} (q : whileN T B n Q v m) : ∃ n, whileN T B n Q v m := ⟨n, q⟩

noncomputable def regsF : Nat → Nat → Int → List Int
  | 0, _, _ => []
  | f + 1, m, r => if m = 0 then [] else (if m % 2 = 1 then [r] else []) ++ regsF f (m / 2) (r + 1)

theorem and255 : ∀ m, m < 16 → Builtin.bitAnd ((m : Nat) : Int) 255 = m := by decide
theorem and1 : ∀ m, m < 16 → Builtin.bitAnd ((m : Nat) : Int) 1 = ((m % 2 : Nat) : Int) := by decide
theorem half : ∀ m, m < 16 → Int.fdiv ((m : Nat) : Int) (2 ^ Int.toNat 1) = ((m / 2 : Nat) : Int) := by decide

theorem t_int {i : Int} {mh} {Q : Bool → Prop} (q : Q (i != 0)) : ∃ b, truthM mh (.int i) = some b ∧ Q b := ⟨_, rfl, q⟩
theorem b_and {a b mh} {Q : MV → MH → Prop} (q : Q (.int (Builtin.bitAnd a b)) mh) : binopM .BitAnd (.int a) (.int b) mh Q := .and q
theorem i_shr {a b mh} {Q : MV → MH → Prop} (h : 0 ≤ b) (q : Q (.int (a.fdiv (2 ^ b.toNat))) mh) : iopM .RShift (.int a) (.int b) mh Q := .shr ⟨h, q⟩
theorem b_shr {a b mh} {Q : MV → MH → Prop} (h : 0 ≤ b) (q : Q (.int (a.fdiv (2 ^ b.toNat))) mh) : binopM .RShift (.int a) (.int b) mh Q := .shr ⟨h, q⟩
theorem b_shl {a b mh} {Q : MV → MH → Prop} (h : 0 ≤ b ∧ b ≤ 1000000 ∧ a.natAbs < 2 ^ 60) (q : Q (.int (a * 2 ^ b.toNat)) mh) : binopM .LShift (.int a) (.int b) mh Q := .shl ⟨h, q⟩
theorem eq_int {a b : Int} {mh} : cmpM .Eq (.int a) (.int b) mh = some (a == b) := rfl
theorem ne_int {a b : Int} {mh} : cmpM .NotEq (.int a) (.int b) mh = some (!(a == b)) := rfl
theorem if_t {A B : Prop} {b : Bool} (hb : b = true) (h : A) : if b = true then A else B := by rw [if_pos hb]; exact h
theorem if_f {A B : Prop} {b : Bool} (hb : b = false) (h : B) : if b = true then A else B := by rw [if_neg (by rw [hb]; decide)]; exact h

theorem c_registers_of {C : Cx} (H : Hyp C) {k : Nat} {n : Nat} {Q : MV → MH → Prop} {mh : MH} (hn : n < 16) (hQ : Q (.ref mh.length) (mh ++ [.list ((regsF 4 n 0).map .int)])) : CallR C (k + 1) "registers_of" [.int n] Q mh := by
  generalize hR : regsF 4 n 0 = R at hQ
  refine call_own H.f_registers_of ["mask", "found", "register"] (sok_mk (by kernel_rfl)) 2 (fun L qual code hF => have he := eok_fenv (L := L) (qual := qual) (fa := C.fa "registers_of") (code := code) (sc := scopeAt 21) (by kernel_rfl); have hT := tok_of ["mask", "found", "register"];
   (SSs_cons (SS_assign (SE_list SEL_nil) (SA_name (i := 1) he hT hF (by kernel_rfl) (.inl (by kernel_rfl))) rfl (by kernel_rfl) (by kernel_rfl))
    (SSs_cons (SS_assign SE_int (SA_name (i := 2) he hT hF (by kernel_rfl) (.inl (by kernel_rfl))) rfl (by kernel_rfl) (by kernel_rfl))
    (SSs_cons (SS_while (ST_val (SE_local (i := 0) he (by kernel_rfl) (by kernel_rfl) (by kernel_rfl)) rfl) (SSs_cons (SS_while (ST_cmp (SE_binop (SE_local (i := 0) he (by kernel_rfl) (by kernel_rfl) (by kernel_rfl)) SE_int) SE_int (by kernel_rfl)) (SSs_cons (SS_augName (i := 0) he hT hF (by kernel_rfl) (.inl (by kernel_rfl)) (SN_local (i := 0) he (by kernel_rfl) (by kernel_rfl)) SE_int)
    (SSs_cons (SS_augName (i := 2) he hT hF (by kernel_rfl) (.inl (by kernel_rfl)) (SN_local (i := 2) he (by kernel_rfl) (by kernel_rfl)) SE_int)
    SSs_nil)))
    (SSs_cons (SS_if (ST_val (SE_binop (SE_local (i := 0) he (by kernel_rfl) (by kernel_rfl) (by kernel_rfl)) SE_int) rfl) (SSs_cons (SS_expr (SE_append (SE_local (i := 1) he (by kernel_rfl) (by kernel_rfl) (by kernel_rfl)) (SE_local (i := 2) he (by kernel_rfl) (by kernel_rfl) (by kernel_rfl)) rfl (by kernel_rfl) rfl) (by kernel_rfl) (by kernel_rfl))
    SSs_nil) SSs_nil)
    (SSs_cons (SS_augName (i := 0) he hT hF (by kernel_rfl) (.inl (by kernel_rfl)) (SN_local (i := 0) he (by kernel_rfl) (by kernel_rfl)) SE_int)
    (SSs_cons (SS_augName (i := 2) he hT hF (by kernel_rfl) (.inl (by kernel_rfl)) (SN_local (i := 2) he (by kernel_rfl) (by kernel_rfl)) SE_int)
    SSs_nil)))))
    (SSs_cons (SS_return (SE_local (i := 1) he (by kernel_rfl) (by kernel_rfl) (by kernel_rfl)))
    SSs_nil))))) rfl ?_
  walk_at "s"
  refine w_many (whileN_ind (fun f v m => ∃ (x : Nat) (r : Int) (out : List Int), f ≤ 4 ∧ x < 2 ^ f ∧ m = mh ++ [.list (out.map .int)] ∧ v = [some (.int x), some (.ref mh.length), some (.int r)] ∧ out ++ regsF f x r = R ∧ out.length ≤ 4 - f) ?_ 4 _ _ ⟨n, 0, [], by lia, by lia, rfl, rfl, hR, by simp⟩)
  rintro f v m K ⟨x, r, out, hf, hx, rfl, rfl, e, ho⟩ hK
  have hx16 : x < 16 := Nat.lt_of_lt_of_le hx (Nat.pow_le_pow_right (by decide) hf)
  walk_at "s"
  refine t_int ?_
  by_cases h0 : x = 0
  · subst h0
    refine if_f rfl ?_
    walk_at "s"
    have : regsF f 0 r = [] := by cases f <;> simp [regsF]
    rw [this, List.append_nil] at e
    rw [e]
    exact hQ
  · refine if_t (by simpa using h0) ?_
    obtain ⟨f, rfl⟩ : ∃ f', f = f' + 1 := by cases f with
      | zero => simp at hx; lia
      | succ f => exact ⟨f, rfl⟩
    refine w_one ?_
    walk_at "s"
    refine b_and ?_
    rw [and255 x hx16]
    refine ⟨_, eq_int, ?_⟩
    refine if_f (by simpa using h0) ?_
    walk_at "s"
    refine b_and ?_
    rw [and1 x hx16]
    refine t_int ?_
    unfold regsF at e
    rw [if_neg h0] at e
    have hx2 : x / 2 < 2 ^ f := by rw [Nat.pow_succ] at hx; lia
    by_cases h1 : x % 2 = 1
    · refine if_t (by rw [h1]; rfl) ?_
      rw [if_pos h1] at e
      walk_at "s"
      refine ap2 (xs := out.map .int) get_last (by rw [List.length_map]; lia) set_last' ?_
      walk_at "s"
      refine i_shr (by decide) ?_
      rw [half x hx16]
      walk_at "s"
      exact hK f rfl _ _ ⟨x / 2, r + 1, out ++ [r], by lia, hx2, by simp, rfl, by simpa using e, by simp; lia⟩
    · have h1' : x % 2 = 0 := by lia
      refine if_f (by rw [h1']; rfl) ?_
      rw [if_neg h1] at e
      walk_at "s"
      refine i_shr (by decide) ?_
      rw [half x hx16]
      walk_at "s"
      exact hK f rfl _ _ ⟨x / 2, r + 1, out, by lia, hx2, rfl, rfl, by simpa using e, by lia⟩

/-! live -/
theorem Ext.refl' (a : MH) : Ext a a := ⟨[], by simp⟩
theorem Ext.app {a b : MH} (h : Ext a b) (l : MH) : Ext a (b ++ l) := by obtain ⟨x, rfl⟩ := h; exact ⟨x ++ l, by simp⟩
theorem Ext.set {a b : MH} (h : Ext a b) {j : Nat} (hj : a.length ≤ j) (o : MO) : Ext a (b.set j o) := by
  obtain ⟨x, rfl⟩ := h
  rw [List.set_append_right _ _ hj]
  exact ⟨_, rfl⟩
theorem Ext.trans' {a b c : MH} (h : Ext a b) (h' : Ext b c) : Ext a c := List.IsPrefix.trans h h'
theorem Ext.len {a b : MH} (h : Ext a b) : a.length ≤ b.length := h.length_le
theorem get_set_self {m : MH} {j : Nat} {o p : MO} (h : m[j]? = some o) : (m.set j p)[j]? = some p := List.getElem?_set_self (List.getElem?_eq_some_iff.mp h).1

noncomputable def maskN (rs : List Int) (m : Nat) : Nat := rs.foldl (fun m r => m ||| 2 ^ r.toNat) m
noncomputable def behindN (ln : List Nat) (gs : List Int) (m : Nat) : Nat := gs.foldl (fun m g => m ||| ln.getD g.toNat 0) m
noncomputable def clr (b : Nat) (w : Int) : Nat := if 0 ≤ w then b &&& (15 - 2 ^ w.toNat) else b
noncomputable def stepN (ln : List Nat) (op : Op) (a : Nat) : Nat := clr (behindN ln (follow op a) 0) (writes op) ||| maskN (reads op) 0

theorem or_nat : ∀ a, a < 16 → ∀ b, b < 16 → Builtin.bitOr ((a : Nat) : Int) ((b : Nat) : Int) = ((a ||| b : Nat) : Int) := by decide +kernel
theorem clr_bit : ∀ b, b < 16 → ∀ w, w < 4 → (if (Builtin.bitAnd (Int.fdiv ((b : Nat) : Int) (2 ^ w)) 1 != 0) = true then ((b : Nat) : Int) - 1 * 2 ^ w else (b : Int)) = ((b &&& (15 - 2 ^ w) : Nat) : Int) := by decide +kernel
theorem clr_mono : ∀ a, a < 16 → ∀ b, b < 16 → ∀ w, w < 4 → a ||| b = b → (a &&& (15 - 2 ^ w)) ||| (b &&& (15 - 2 ^ w)) = b &&& (15 - 2 ^ w) := by decide +kernel

theorem or_lt {a b N : Nat} (h : a < 2 ^ N) (h' : b < 2 ^ N) : a ||| b < 2 ^ N := Nat.or_lt_two_pow h h'

theorem maskN_lt {N : Nat} : ∀ (rs : List Int) (m : Nat), (∀ r ∈ rs, 0 ≤ r ∧ r < N) → m < 2 ^ N → maskN rs m < 2 ^ N
  | [], m, _, h => h
  | r :: rs, m, hr, h => by
    have h1 := hr r List.mem_cons_self
    exact maskN_lt rs _ (fun x hx => hr x (List.mem_cons_of_mem _ hx)) (or_lt h (Nat.pow_lt_pow_right (by decide) (by lia)))

theorem maskOf_nat {N : Nat} (hN : N ≤ 4) : ∀ (rs : List Int) (m : Nat), (∀ r ∈ rs, 0 ≤ r ∧ r < N) → m < 2 ^ N → maskOf rs (m : Int) = ((maskN rs m : Nat) : Int)
  | [], m, _, h => rfl
  | r :: rs, m, hr, h => by
    have h1 := hr r List.mem_cons_self
    have h16 : 2 ^ N ≤ 16 := Nat.pow_le_pow_right (n := 2) (by decide) hN
    have h2 : 2 ^ r.toNat < 2 ^ N := Nat.pow_lt_pow_right (by decide) (by lia)
    have e : (1 : Int) * 2 ^ r.toNat = ((2 ^ r.toNat : Nat) : Int) := by simp
    unfold maskOf
    rw [e, or_nat m (by lia) _ (by lia)]
    exact maskOf_nat hN rs _ (fun x hx => hr x (List.mem_cons_of_mem _ hx)) (or_lt h h2)

theorem getD_lt {N : Nat} {ln : List Nat} (h : ∀ x ∈ ln, x < 2 ^ N) (i : Nat) : ln.getD i 0 < 2 ^ N := by
  rw [List.getD_eq_getElem?_getD]
  cases e : ln[i]? with
  | none => exact Nat.two_pow_pos N
  | some x => exact h x (List.mem_of_getElem? e)

theorem behindN_lt {N : Nat} {ln : List Nat} (h : ∀ x ∈ ln, x < 2 ^ N) : ∀ (gs : List Int) (m : Nat), m < 2 ^ N → behindN ln gs m < 2 ^ N
  | [], m, hm => hm
  | g :: gs, m, hm => behindN_lt h gs _ (or_lt hm (getD_lt h _))

theorem behind_nat {N : Nat} (hN : N ≤ 4) {ln : List Nat} (h : ∀ x ∈ ln, x < 2 ^ N) : ∀ (gs : List Int) (m : Nat), m < 2 ^ N → behindF (ln.map Int.ofNat) gs (m : Int) = ((behindN ln gs m : Nat) : Int)
  | [], m, hm => rfl
  | g :: gs, m, hm => by
    have h16 : 2 ^ N ≤ 16 := Nat.pow_le_pow_right (n := 2) (by decide) hN
    have hg := getD_lt h g.toNat
    have e : (ln.map Int.ofNat).getD g.toNat 0 = ((ln.getD g.toNat 0 : Nat) : Int) := by
      rw [List.getD_eq_getElem?_getD, List.getD_eq_getElem?_getD, List.getElem?_map]
      cases ln[g.toNat]? <;> rfl
    show behindF (ln.map Int.ofNat) gs (Builtin.bitOr (m : Int) ((ln.map Int.ofNat).getD g.toNat 0)) = _
    rw [e, or_nat m (by lia) _ (by lia)]
    exact behind_nat hN h gs _ (or_lt hm hg)

theorem clr_le (b : Nat) (w : Int) : clr b w ≤ b := by
  unfold clr
  split
  · exact Nat.and_le_left
  · exact Nat.le_refl _

theorem stepN_lt {N : Nat} {ln : List Nat} (h : ∀ x ∈ ln, x < 2 ^ N) {op : Op} {a : Nat} (hr : ∀ r ∈ reads op, 0 ≤ r ∧ r < N) : stepN ln op a < 2 ^ N :=
  or_lt (Nat.lt_of_le_of_lt (clr_le _ _) (behindN_lt h _ _ (Nat.two_pow_pos N))) (maskN_lt _ _ hr (Nat.two_pow_pos N))

/-- below, as sets -/
noncomputable def sub (a b : Nat) : Prop := a ||| b = b
theorem sub.refl (a : Nat) : sub a a := Nat.or_self a
theorem sub.le {a b : Nat} (h : sub a b) : a ≤ b := by unfold sub at h; rw [← h]; exact Nat.left_le_or
theorem sub.or {a b c d : Nat} (h : sub a b) (h' : sub c d) : sub (a ||| c) (b ||| d) := by
  unfold sub at *
  calc (a ||| c) ||| (b ||| d) = (a ||| b) ||| (c ||| d) := by rw [Nat.or_assoc, Nat.or_assoc, ← Nat.or_assoc c b d, Nat.or_comm c b, Nat.or_assoc b c d]
    _ = b ||| d := by rw [h, h']
theorem sub.trans {a b c : Nat} (h : sub a b) (h' : sub b c) : sub a c := by
  unfold sub at *
  rw [← h', ← Nat.or_assoc, h]

theorem behind_mono {ln lm : List Nat} (h : ∀ i, sub (ln.getD i 0) (lm.getD i 0)) : ∀ (gs : List Int) (m m' : Nat), sub m m' → sub (behindN ln gs m) (behindN lm gs m')
  | [], _, _, hm => hm
  | g :: gs, _, _, hm => behind_mono h gs _ _ (hm.or (h _))

theorem step_mono {N : Nat} (hN : N ≤ 4) {ln lm : List Nat} (hl : ∀ x ∈ ln, x < 2 ^ N) (hm : ∀ x ∈ lm, x < 2 ^ N) (h : ∀ i, sub (ln.getD i 0) (lm.getD i 0)) {op : Op} {a : Nat} (hw : writes op < 4) : sub (stepN ln op a) (stepN lm op a) := by
  have h16 : 2 ^ N ≤ 16 := Nat.pow_le_pow_right (n := 2) (by decide) hN
  refine sub.or ?_ (sub.refl _)
  have hb := behind_mono h (follow op a) 0 0 (sub.refl 0)
  have b1 := behindN_lt hl (follow op a) 0 (Nat.two_pow_pos N)
  have b2 := behindN_lt hm (follow op a) 0 (Nat.two_pow_pos N)
  unfold clr
  split
  · exact clr_mono _ (by lia) _ (by lia) _ (by lia) hb
  · exact hb
noncomputable def meas (ln : List Nat) : Nat := (ln.map fun x => 16 - x).sum

theorem meas_set : ∀ (ln : List Nat) (a x : Nat), a < ln.length → ln.getD a 0 < x → x ≤ 16 → meas (ln.set a x) < meas ln
  | [], a, x, h, _, _ => absurd h (Nat.not_lt_zero _)
  | y :: ln, 0, x, _, h, h' => by
    simp only [meas, List.set_cons_zero, List.map_cons, List.sum_cons]
    simp only [List.getD_cons_zero] at h
    lia
  | y :: ln, a + 1, x, hl, h, h' => by
    have := meas_set ln a x (by simpa using hl) (by simpa using h) h'
    simp only [meas, List.set_cons_succ, List.map_cons, List.sum_cons] at this ⊢
    lia

theorem meas_le (ln : List Nat) : meas ln ≤ 16 * ln.length := by
  induction ln with
  | nil => simp [meas]
  | cons x ln ih => simp only [meas, List.map_cons, List.sum_cons, List.length_cons] at ih ⊢; lia

structure LInv (ops : List Op) (N : Nat) (ln : List Nat) : Prop where
  len : ln.length = ops.length + 1
  lt : ∀ x ∈ ln, x < 2 ^ N
  up : ∀ (a : Nat) (op : Op), ops[a]? = some op → sub (ln.getD a 0) (stepN ln op a)

/-- what the code must be like -/
structure OpsOK (ops : List Op) (N : Nat) : Prop where
  hN : N ≤ 4
  reads : ∀ op ∈ ops, ∀ r ∈ reads op, 0 ≤ r ∧ r < N
  writes : ∀ op ∈ ops, writes op < N
  jumps : ∀ op ∈ ops, ∀ g ∈ jumps op, 0 ≤ g ∧ g < ops.length
  size : ops.length ≤ 60

theorem OpsOK.ret {ops N} (h : OpsOK ops N) : ∀ op ∈ ops, okRet op := fun op ho => by
  cases op <;> simp only [okRet]
  exact (h.reads _ ho _ (by simp [Mine.reads])).1

theorem b_or {a b mh} {Q : MV → MH → Prop} (q : Q (.int (Builtin.bitOr a b)) mh) : binopM .BitOr (.int a) (.int b) mh Q := .or q

theorem getD_set (ln : List Nat) (a i x : Nat) (ha : a < ln.length) : (ln.set a x).getD i 0 = if a = i then x else ln.getD i 0 := by
  rw [List.getD_eq_getElem?_getD, List.getD_eq_getElem?_getD]
  by_cases h : a = i
  · subst h; rw [if_pos rfl, List.getElem?_set_self ha]; rfl
  · rw [if_neg h, List.getElem?_set_ne h]

theorem LInv.set {ops N ln} (h : LInv ops N ln) (hok : OpsOK ops N) {a : Nat} {op : Op} (ha : ops[a]? = some op) : LInv ops N (ln.set a (stepN ln op a)) ∧ (stepN ln op a ≠ ln.getD a 0 → meas (ln.set a (stepN ln op a)) < meas ln) := by
  have hm := List.mem_of_getElem? ha
  have hal : a < ln.length := by have := (List.getElem?_eq_some_iff.mp ha).1; rw [h.len]; lia
  have h16 : 2 ^ N ≤ 16 := Nat.pow_le_pow_right (n := 2) (by decide) hok.hN
  have hx := stepN_lt h.lt (a := a) (hok.reads op hm)
  have hlt' : ∀ x ∈ ln.set a (stepN ln op a), x < 2 ^ N := fun x hx' => by
    rcases List.mem_or_eq_of_mem_set hx' with q | rfl
    · exact h.lt x q
    · exact hx
  have hup : ∀ i, sub (ln.getD i 0) ((ln.set a (stepN ln op a)).getD i 0) := fun i => by
    rw [getD_set _ _ _ _ hal]
    split
    · rename_i e; subst e; exact h.up a op ha
    · exact sub.refl _
  refine ⟨⟨by rw [List.length_set]; exact h.len, hlt', fun b ob hb => ?_⟩, fun hne => meas_set ln a _ hal ?_ (by lia)⟩
  · have hwb : writes ob < 4 := by have := hok.writes ob (List.mem_of_getElem? hb); have := hok.hN; lia
    have hs := step_mono hok.hN h.lt hlt' hup (op := ob) (a := b) hwb
    rw [getD_set _ _ _ _ hal]
    split
    · rename_i e
      subst e
      rw [ha] at hb; cases hb
      exact hs
    · exact (h.up b ob hb).trans hs
  · have := (h.up a op ha).le
    lia

theorem follow_ok {ops N} (hok : OpsOK ops N) {a : Nat} {op : Op} (ha : ops[a]? = some op) : ∀ g ∈ follow op a, 0 ≤ g ∧ g < ((ops.length + 1 : Nat) : Int) := by
  intro g hg
  have hal := (List.getElem?_eq_some_iff.mp ha).1
  unfold follow at hg
  rcases List.mem_append.mp hg with h | h
  · have := hok.jumps op (List.mem_of_getElem? ha) g h
    lia
  · split at h
    · rw [List.mem_singleton.mp h]; lia
    · cases h

theorem range_down : ∀ n, n ≤ 64 → Builtin.Range.small ((n : Nat) - 1) (-1) (-1) = true ∧ Builtin.Range.rangeSize ((n : Nat) - 1) (-1) (-1) = n := by decide +kernel
theorem range_up : ∀ n, n ≤ 64 → Builtin.Range.small 0 ((n : Nat)) 1 = true ∧ Builtin.Range.rangeSize 0 ((n : Nat)) 1 = n := by decide +kernel

/-- one sweep from the end, and sweep after sweep -/
noncomputable def sweepF (ops : List Op) : List Nat → List Nat × Bool → List Nat × Bool
  | [], s => s
  | x :: r, s => sweepF ops r (if stepN s.1 (ops.getD (ops.length - 1 - x) (.ret 0)) (ops.length - 1 - x) = s.1.getD (ops.length - 1 - x) 0 then s else (s.1.set (ops.length - 1 - x) (stepN s.1 (ops.getD (ops.length - 1 - x) (.ret 0)) (ops.length - 1 - x)), true))
noncomputable def loopF (ops : List Op) : Nat → List Nat → List Nat
  | 0, ln => ln
  | f + 1, ln => if (sweepF ops (List.range ops.length) (ln, false)).2 = true then loopF ops f (sweepF ops (List.range ops.length) (ln, false)).1 else (sweepF ops (List.range ops.length) (ln, false)).1
noncomputable def liveF (ops : List Op) : List Nat := loopF ops (16 * (ops.length + 1) + 1) (List.replicate (ops.length + 1) 0)

inductive LaI (mh : MH) (ops : List Op) (N i j f : Nat) (v : Vars) (m : MH) : Prop
  | mk (ln : List Nat) (new : Bool) (a b c d : Option MV) (h1 : Ext mh m) (h2 : m[j]? = some (.list ((ln.map Int.ofNat).map .int))) (h3 : v = [some (.ref i), a, b, some (.bool new), some (.ref j), c, d]) (h4 : LInv ops N ln) (h5 : new = false ∨ meas ln < f) (h6 : new = false → ln = liveF ops) (h7 : new = true → loopF ops f ln = liveF ops)
inductive LaJ (mh : MH) (ops : List Op) (N i j f : Nat) (ln : List Nat) (r : List Nat) (v : Vars) (m : MH) : Prop
  | mk (lm : List Nat) (new : Bool) (a b c d : Option MV) (h1 : Ext mh m) (h2 : m[j]? = some (.list ((lm.map Int.ofNat).map .int))) (h3 : v = [some (.ref i), a, b, some (.bool new), some (.ref j), c, d]) (h4 : LInv ops N lm)
    (h5 : ∀ x ∈ r, x < ops.length) (h6 : new = false ∨ meas lm < f) (h7 : meas lm ≤ meas ln) (h8 : sweepF ops r (lm, new) = sweepF ops (List.range ops.length) (ln, false))

theorem c_live_ahead {C : Cx} (H : Hyp C) {k i N : Nat} {ops : List Op} {Q : MV → MH → Prop} {mh : MH} (hi : mh[i]? = some (.list (ops.map opM))) (hok : OpsOK ops N)
    (hQ : ∀ (ln : List Nat) (j : Nat) (m : MH), ln = liveF ops → ln.length = ops.length + 1 → (∀ x ∈ ln, x < 2 ^ N) → Ext mh m → m[j]? = some (.list ((ln.map Int.ofNat).map .int)) → Q (.ref j) m) : CallR C (k + 4) "live_ahead" [.ref i] Q mh := by
  have hN := hok.hN
  have h16 : 2 ^ N ≤ 16 := Nat.pow_le_pow_right (n := 2) (by decide) hN
  refine call_own H.f_live_ahead ["ops", "at", "behind", "is_new", "live", "made", "mask"] (sok_mk (by kernel_rfl)) 6 (fun L qual code hF => have he := eok_fenv (L := L) (qual := qual) (fa := C.fa "live_ahead") (code := code) (sc := scopeAt 14) (by kernel_rfl); have hT := tok_of ["ops", "at", "behind", "is_new", "live", "made", "mask"];
   (SSs_cons (SS_assign (SE_binop (SE_list (SEL_cons SE_int SEL_nil rfl)) (SE_binop (SE_bcall (id := "len") he (by kernel_rfl) (by kernel_rfl) H.b_len (SEL_cons (SE_local (i := 0) he (by kernel_rfl) (by kernel_rfl) (by kernel_rfl)) SEL_nil rfl) rfl) SE_int)) (SA_name (i := 4) he hT hF (by kernel_rfl) (.inl (by kernel_rfl))) rfl (by kernel_rfl) (by kernel_rfl))
    (SSs_cons (SS_assign SE_bool (SA_name (i := 3) he hT hF (by kernel_rfl) (.inl (by kernel_rfl))) rfl (by kernel_rfl) (by kernel_rfl))
    (SSs_cons (SS_while (ST_val (SE_local (i := 3) he (by kernel_rfl) (by kernel_rfl) (by kernel_rfl)) rfl) (SSs_cons (SS_assign SE_bool (SA_name (i := 3) he hT hF (by kernel_rfl) (.inl (by kernel_rfl))) rfl (by kernel_rfl) (by kernel_rfl))
    (SSs_cons (SS_for (SE_tcall (t := "range") he (by kernel_rfl) (by kernel_rfl) H.b_range (SEL_cons (SE_binop (SE_bcall (id := "len") he (by kernel_rfl) (by kernel_rfl) H.b_len (SEL_cons (SE_local (i := 0) he (by kernel_rfl) (by kernel_rfl) (by kernel_rfl)) SEL_nil rfl) rfl) SE_int) (SEL_cons SE_neg (SEL_cons SE_neg SEL_nil rfl) rfl) rfl) rfl) (SA_name (i := 1) he hT hF (by kernel_rfl) (.inl (by kernel_rfl))) (SSs_cons (SS_assign (SE_call he (by kernel_rfl) (by kernel_rfl) H.f_live_behind.at (SEL_cons (SE_local (i := 0) he (by kernel_rfl) (by kernel_rfl) (by kernel_rfl)) (SEL_cons (SE_local (i := 4) he (by kernel_rfl) (by kernel_rfl) (by kernel_rfl)) (SEL_cons (SE_local (i := 1) he (by kernel_rfl) (by kernel_rfl) (by kernel_rfl)) SEL_nil rfl) rfl) rfl) rfl) (SA_name (i := 2) he hT hF (by kernel_rfl) (.inl (by kernel_rfl))) rfl (by kernel_rfl) (by kernel_rfl))
    (SSs_cons (SS_assign (SE_call he (by kernel_rfl) (by kernel_rfl) H.f_writes_of.at (SEL_cons (SE_sub (SE_local (i := 0) he (by kernel_rfl) (by kernel_rfl) (by kernel_rfl)) (SE_local (i := 1) he (by kernel_rfl) (by kernel_rfl) (by kernel_rfl)) rfl) SEL_nil rfl) rfl) (SA_name (i := 5) he hT hF (by kernel_rfl) (.inl (by kernel_rfl))) rfl (by kernel_rfl) (by kernel_rfl))
    (SSs_cons (SS_if (ST_and (ST_cmp (SE_local (i := 5) he (by kernel_rfl) (by kernel_rfl) (by kernel_rfl)) SE_int (by kernel_rfl)) (ST_val (SE_binop (SE_binop (SE_local (i := 2) he (by kernel_rfl) (by kernel_rfl) (by kernel_rfl)) (SE_local (i := 5) he (by kernel_rfl) (by kernel_rfl) (by kernel_rfl))) SE_int) rfl)) (SSs_cons (SS_augName (i := 2) he hT hF (by kernel_rfl) (.inl (by kernel_rfl)) (SN_local (i := 2) he (by kernel_rfl) (by kernel_rfl)) (SE_binop SE_int (SE_local (i := 5) he (by kernel_rfl) (by kernel_rfl) (by kernel_rfl))))
    SSs_nil) SSs_nil)
    (SSs_cons (SS_assign (SE_binop (SE_local (i := 2) he (by kernel_rfl) (by kernel_rfl) (by kernel_rfl)) (SE_call he (by kernel_rfl) (by kernel_rfl) H.f_mask_of.at (SEL_cons (SE_call he (by kernel_rfl) (by kernel_rfl) H.f_reads_of.at (SEL_cons (SE_sub (SE_local (i := 0) he (by kernel_rfl) (by kernel_rfl) (by kernel_rfl)) (SE_local (i := 1) he (by kernel_rfl) (by kernel_rfl) (by kernel_rfl)) rfl) SEL_nil rfl) rfl) SEL_nil rfl) rfl)) (SA_name (i := 6) he hT hF (by kernel_rfl) (.inl (by kernel_rfl))) rfl (by kernel_rfl) (by kernel_rfl))
    (SSs_cons (SS_if (ST_cmp (SE_local (i := 6) he (by kernel_rfl) (by kernel_rfl) (by kernel_rfl)) (SE_sub (SE_local (i := 4) he (by kernel_rfl) (by kernel_rfl) (by kernel_rfl)) (SE_local (i := 1) he (by kernel_rfl) (by kernel_rfl) (by kernel_rfl)) rfl) (by kernel_rfl)) (SSs_cons (SS_assign (SE_local (i := 6) he (by kernel_rfl) (by kernel_rfl) (by kernel_rfl)) (SA_sub (SE_local (i := 4) he (by kernel_rfl) (by kernel_rfl) (by kernel_rfl)) (SE_local (i := 1) he (by kernel_rfl) (by kernel_rfl) (by kernel_rfl))) rfl (by kernel_rfl) (by kernel_rfl))
    (SSs_cons (SS_assign SE_bool (SA_name (i := 3) he hT hF (by kernel_rfl) (.inl (by kernel_rfl))) rfl (by kernel_rfl) (by kernel_rfl))
    SSs_nil)) SSs_nil)
    SSs_nil))))) (fun _ => rfl) (.inl fun _ _ => rfl))
    SSs_nil)))
    (SSs_cons (SS_return (SE_local (i := 4) he (by kernel_rfl) (by kernel_rfl) (by kernel_rfl)))
    SSs_nil))))) rfl ?_
  walk_at "s"
  refine bc_len_list (get_app hi) ?_
  rw [List.length_map]
  walk_at "s"
  refine .rep ⟨_, get_last, by lia, by have := hok.size; lia, ?_⟩
  have hrep : (List.replicate ((ops.length : Int) + 1).toNat (MV.int 0)) = ((List.replicate (ops.length + 1) 0 : List Nat).map Int.ofNat).map .int := by
    rw [List.map_replicate, List.map_replicate]
    congr 1
  rw [hrep]
  have hinit : LInv ops N (List.replicate (ops.length + 1) 0) := by
    refine ⟨by simp, fun x hx => by rw [List.eq_of_mem_replicate hx]; exact Nat.two_pow_pos N, fun a op _ => ?_⟩
    have : (List.replicate (ops.length + 1) 0).getD a 0 = 0 := by
      rw [List.getD_eq_getElem?_getD, List.getElem?_replicate]
      split <;> rfl
    rw [this]
    exact Nat.zero_or _
  walk_at "s"
  have hext0 : Ext mh (mh ++ [MO.list [MV.int 0]] ++ [.list (((List.replicate (ops.length + 1) 0 : List Nat).map Int.ofNat).map .int)]) := ((Ext.refl' mh).app _).app _
  have hj0 : mh.length ≤ (mh ++ [MO.list [MV.int 0]]).length := by simp
  have hg0 : (mh ++ [MO.list [MV.int 0]] ++ [MO.list (((List.replicate (ops.length + 1) 0 : List Nat).map Int.ofNat).map .int)])[(mh ++ [MO.list [MV.int 0]]).length]? = some (.list (((List.replicate (ops.length + 1) 0 : List Nat).map Int.ofNat).map .int)) := get_last
  generalize (mh ++ [MO.list [MV.int 0]]).length = j at hj0 hg0 ⊢
  generalize (mh ++ [MO.list [MV.int 0]] ++ [MO.list (((List.replicate (ops.length + 1) 0 : List Nat).map Int.ofNat).map .int)]) = m0 at hext0 hg0 ⊢
  refine w_many (whileN_ind (LaI mh ops N i j) ?_
    (16 * (ops.length + 1) + 1) _ _ ⟨_, true, none, none, none, none, hext0, hg0, rfl, hinit, .inr ?_, (fun h => nomatch h), fun _ => rfl⟩)
  · rintro f v m K ⟨ln, new, a, b, c, d, hext, hg, rfl, hinv, hm, hL0, hL1⟩ hK
    walk_at "s"
    refine ⟨new, rfl, ?_⟩
    cases new with
    | false =>
      walk_at "s"
      exact hQ ln j m (hL0 rfl) hinv.len hinv.lt hext hg
    | true =>
      obtain ⟨f, rfl⟩ : ∃ f', f = f' + 1 := by
        cases f with
        | zero => rcases hm with h | h
                  · cases h
                  · lia
        | succ f => exact ⟨f, rfl⟩
      have hm : meas ln < f + 1 := by rcases hm with h | h
                                      · cases h
                                      · exact h
      walk_at "s"
      refine bc_len_list (hext.get hi) ?_
      rw [List.length_map]
      refine b_sub ?_
      have hr := range_down ops.length (by have := hok.size; lia)
      refine tc_range3 (by decide) ?_
      refine it_range ⟨hr.1, by rw [show (-1 : Int) = -1 from rfl]; rw [hr.2]; lia⟩ ?_
      have hitems : rangeItems ((ops.length : Int) - 1) (-1) (-1) = (List.range ops.length).map fun (x : Nat) => MV.int ((ops.length : Int) - 1 + x * (-1)) := by
        unfold rangeItems
        rw [hr.2]
        simp
      rw [hitems]
      refine forN_ind (f := fun (x : Nat) => MV.int ((ops.length : Int) - 1 + x * (-1))) (LaJ mh ops N i j f ln) ?_ ?_ _ _ _ ⟨ln, false, _, _, _, _, hext, hg, rfl, hinv, fun x hx => List.mem_range.mp hx, .inl rfl, Nat.le_refl _, rfl⟩
      · rintro v m ⟨lm, new, a, b, c, d, hext, hg, rfl, hinv, _, hm', _, hsw⟩
        walk_at "s"
        have hsw : (lm, new) = sweepF ops (List.range ops.length) (ln, false) := hsw
        have hL1 := hL1 rfl
        rw [loopF, ← hsw] at hL1
        refine hK f rfl _ _ ⟨lm, new, a, b, c, d, hext, hg, rfl, hinv, hm', fun e => ?_, fun e => ?_⟩
        · rw [e] at hL1; exact hL1
        · rw [e] at hL1; exact hL1
      · rintro x r v m K' ⟨lm, new, a, b, c, d, hext, hg, rfl, hinv, hb, hm', hle, hsw⟩ hK'
        have hx := hb x List.mem_cons_self
        have hpos : ((ops.length : Int) - 1 + x * (-1)) = ((ops.length - 1 - x : Nat) : Int) := by lia
        rw [hpos]
        obtain ⟨op, hop⟩ : ∃ op, ops[ops.length - 1 - x]? = some op := ⟨_, List.getElem?_eq_getElem (by lia)⟩
        have hsw : sweepF ops r (if stepN lm (ops.getD (ops.length - 1 - x) (.ret 0)) (ops.length - 1 - x) = lm.getD (ops.length - 1 - x) 0 then (lm, new) else (lm.set (ops.length - 1 - x) (stepN lm (ops.getD (ops.length - 1 - x) (.ret 0)) (ops.length - 1 - x)), true)) = sweepF ops (List.range ops.length) (ln, false) := hsw
        have hopd : ops.getD (ops.length - 1 - x) (.ret 0) = op := by rw [List.getD_eq_getElem?_getD, hop]; rfl
        rw [hopd] at hsw
        generalize ops.length - 1 - x = at' at hop hsw
        have hmem := List.mem_of_getElem? hop
        have hlen : (lm.map Int.ofNat).length = ops.length + 1 := by rw [List.length_map]; exact hinv.len
        have hfol : ∀ g ∈ follow op at', 0 ≤ g ∧ g < (lm.map Int.ofNat).length := by rw [hlen]; exact follow_ok hok hop
        walk_at "s"
        refine c_live_behind H (hext.get hi) hg hop hfol fun o o' => ?_
        have hext2 : Ext mh (m ++ [o] ++ [o']) := (hext.app _).app _
        have hg2 : (m ++ [o] ++ [o'])[j]? = some (.list ((lm.map Int.ofNat).map .int)) := get_app (get_app hg)
        generalize m ++ [o] ++ [o'] = m2 at hext2 hg2
        have hbn := behind_nat hN hinv.lt (follow op at') 0 (Nat.two_pow_pos N)
        rw [show ((0 : Nat) : Int) = 0 from rfl] at hbn
        rw [hbn]
        have hblt := behindN_lt hinv.lt (follow op at') 0 (Nat.two_pow_pos N)
        have hgo : (ops.map opM)[(at' : Int).toNat]? = some (opM op) := by simpa using getElem_map hop
        walk_at "s"
        refine g_list (hext2.get hi) (Int.natCast_nonneg _) hgo ?_
        refine c_writes_of H ?_
        have hw4 := hok.writes op hmem
        have hreads := hok.reads op hmem
        have hrd : ∀ r ∈ reads op, 0 ≤ r ∧ r ≤ 1000 := fun r hr => by have := hreads r hr; lia
        have hstep : Builtin.bitOr ((clr (behindN lm (follow op at') 0) (writes op) : Nat) : Int) (maskOf (reads op) 0) = ((stepN lm op at' : Nat) : Int) := by
          have e1 := maskOf_nat hN (reads op) 0 hreads (Nat.two_pow_pos N)
          rw [show ((0 : Nat) : Int) = 0 from rfl] at e1
          rw [e1, or_nat _ (by have := clr_le (behindN lm (follow op at') 0) (writes op); lia) _ (by have := maskN_lt (reads op) 0 hreads (Nat.two_pow_pos N); lia)]
          rfl
        have hclr : ∀ (hw : 0 ≤ writes op), (if (Builtin.bitAnd (Int.fdiv ((behindN lm (follow op at') 0 : Nat) : Int) (2 ^ (writes op).toNat)) 1 != 0) = true then ((behindN lm (follow op at') 0 : Nat) : Int) - 1 * 2 ^ (writes op).toNat else ((behindN lm (follow op at') 0 : Nat) : Int)) = ((clr (behindN lm (follow op at') 0) (writes op) : Nat) : Int) := fun hw => by
          rw [clr_bit _ (by lia) _ (by lia)]
          unfold clr
          rw [if_pos hw]
        have hal : at' < lm.length := by have := (List.getElem?_eq_some_iff.mp hop).1; rw [hinv.len]; lia
        have hget : ((lm.map Int.ofNat).map MV.int)[(at' : Int).toNat]? = some (.int ((lm.getD at' 0 : Nat) : Int)) := by
          simp [hal]
        obtain ⟨hset, hmeas⟩ := hinv.set hok hop
        have hmset : ((lm.map Int.ofNat).map MV.int).set (at' : Int).toNat (.int ((stepN lm op at' : Nat) : Int)) = (((lm.set at' (stepN lm op at')).map Int.ofNat).map MV.int) := by
          simp [List.map_set]
        (repeat walk_at "s0")
        refine if_tailV (fun v' m' => m' = m2 ∧ v' = [some (.ref i), some (.int at'), some (.int ((clr (behindN lm (follow op at') 0) (writes op) : Nat) : Int)), some (.bool new), some (.ref j), some (.int (writes op)), d]) ?_ fun tail => ?_
        · rintro v' m' ⟨rfl, rfl⟩
          clear hclr hblt hfol
          walk_at "s"
          refine g_list (hext2.get hi) (Int.natCast_nonneg _) hgo ?_
          refine c_reads_of H (hok.ret op hmem) ?_
          refine c_mask_of H get_last hrd ?_
          refine b_or ?_
          rw [hstep]
          walk_at "s"
          refine g_list (get_app hg2) (Int.natCast_nonneg _) hget ?_
          refine ⟨_, ne_int, ?_⟩
          by_cases he : stepN lm op at' = lm.getD at' 0
          · refine if_f (by rw [he]; simp) ?_
            walk_at "s"
            exact hK' _ _ ⟨lm, new, _, _, _, _, hext2.app _, get_app hg2, rfl, hinv, fun y hy => hb y (List.mem_cons_of_mem _ hy), hm', hle, by rw [if_pos he] at hsw; exact hsw⟩
          · have hmm := hmeas he
            refine if_t (by rw [show ((((stepN lm op at') : Nat) : Int) == ((lm.getD at' 0 : Nat) : Int)) = false from beq_eq_false_iff_ne.mpr (by lia)]; rfl) ?_
            walk_at "s"
            refine set_list (get_app hg2) ⟨Int.natCast_nonneg _, by rw [List.length_map, List.length_map]; exact Int.ofNat_lt.mpr hal⟩ ?_
            rw [hmset]
            walk_at "s"
            exact hK' _ _ ⟨_, true, _, _, _, _, (hext2.app _).set hj0 _, get_set_self (get_app hg2), rfl, hset, fun y hy => hb y (List.mem_cons_of_mem _ hy), .inr (by lia), by lia, by rw [if_neg he] at hsw; exact hsw⟩
        · by_cases hw : 0 ≤ writes op
          · walk_at "s"
            refine cmp_t (ge_t hw) ?_
            walk_at "s"
            refine b_shr hw ?_
            refine b_and ?_
            refine t_int ?_
            have hc := hclr hw
            cases hbit : (Builtin.bitAnd (Int.fdiv ((behindN lm (follow op at') 0 : Nat) : Int) (2 ^ (writes op).toNat)) 1 != 0) with
            | true =>
              rw [hbit, if_pos rfl] at hc
              walk_at "s"
              refine b_shl ⟨hw, by lia, by decide⟩ ?_
              refine i_sub ?_
              exact tail _ _ ⟨rfl, by rw [hc]; rfl⟩
            | false =>
              rw [hbit, if_neg (by decide)] at hc
              refine st_f ?_
              exact tail _ _ ⟨rfl, by rw [← hc]; rfl⟩
          · have hc : ((clr (behindN lm (follow op at') 0) (writes op) : Nat) : Int) = ((behindN lm (follow op at') 0 : Nat) : Int) := by
              unfold clr
              rw [if_neg hw]
            walk_at "s"
            refine cmp_f (ge_f (by lia)) ?_
            refine st_f ?_
            refine st_f ?_
            exact tail _ _ ⟨rfl, by rw [hc]; rfl⟩
  · have := meas_le (List.replicate (ops.length + 1) 0)
    rw [List.length_replicate] at this
    lia
theorem lookup_map_set {β : Type} (k : Int) (v : β) (x : Int) : ∀ (es : List (Int × β)), (es.map fun e => if e.1 = k then (e.1, v) else e).lookup x = if x = k then (es.lookup x).map (fun _ => v) else es.lookup x
  | [] => by simp
  | (a, b) :: es => by
    have ih := lookup_map_set k v x es
    rw [List.map_cons]
    by_cases hak : a = k
    · subst hak
      simp only [if_true]
      rw [List.lookup_cons, List.lookup_cons, ih]
      by_cases hx : x = a
      · subst hx; simp
      · rw [beq_false_of_ne hx]
    · rw [if_neg hak, List.lookup_cons, List.lookup_cons, ih]
      by_cases hx : x = a
      · subst hx; simp [hak]
      · rw [beq_false_of_ne hx]

theorem any_key {β : Type} (k : Int) : ∀ (es : List (Int × β)), es.any (fun e => decide (e.1 = k)) = (es.lookup k).isSome
  | [] => rfl
  | (a, b) :: es => by
    rw [List.any_cons, any_key k es, List.lookup_cons]
    by_cases h : k = a
    · subst h; simp
    · rw [beq_false_of_ne h]
      simp [show ¬ a = k from fun e => h e.symm]

theorem putP_lookup {β : Type} (es : List (Int × β)) (k : Int) (v : β) (x : Int) : (putP es k v).lookup x = if x = k then some v else es.lookup x := by
  unfold putP
  rw [any_key]
  cases h : es.lookup k with
  | some w =>
    simp only [Option.isSome_some, if_true]
    rw [lookup_map_set]
    by_cases hx : x = k
    · subst hx; simp [h]
    · rw [if_neg hx, if_neg hx]
  | none =>
    simp only [Option.isSome_none, Bool.false_eq_true, if_false]
    rw [List.lookup_append]
    by_cases hx : x = k
    · subst hx; simp [h]
    · rw [if_neg hx, List.lookup_cons, beq_false_of_ne hx]
      simp

theorem putP_keys {β : Type} (es : List (Int × β)) (k : Int) (v : β) : (putP es k v).map (·.1) = if (es.lookup k).isSome = true then es.map (·.1) else es.map (·.1) ++ [k] := by
  unfold putP
  rw [any_key]
  split
  · rw [List.map_map]
    refine List.map_congr_left fun e _ => ?_
    simp only [Function.comp]
    split <;> rfl
  · simp

theorem lookup_none_keys {β : Type} {k : Int} : ∀ {es : List (Int × β)}, es.lookup k = none → k ∉ es.map (·.1)
  | [], _ => by simp
  | (a, b) :: es, h => by
    rw [List.lookup_cons] at h
    by_cases hk : k = a
    · subst hk; simp at h
    · rw [beq_false_of_ne hk] at h
      have := lookup_none_keys h
      simp only [List.map_cons, List.mem_cons, not_or]
      exact ⟨hk, this⟩

theorem putP_nodup {β : Type} {es : List (Int × β)} {k : Int} {v : β} (h : (es.map (·.1)).Nodup) : ((putP es k v).map (·.1)).Nodup := by
  rw [putP_keys]
  cases hs : es.lookup k with
  | some w => simpa using h
  | none =>
    simp only [Option.isSome_none, Bool.false_eq_true, if_false]
    refine List.nodup_append.mpr ⟨h, by simp, fun a ha b hb => ?_⟩
    rw [List.mem_singleton.mp hb]
    rintro rfl
    exact lookup_none_keys hs ha

theorem putP_mem {β : Type} {es : List (Int × β)} {k : Int} {v : β} {e : Int × β} (h : e ∈ putP es k v) : e = (k, v) ∨ e ∈ es := by
  unfold putP at h
  split at h
  · obtain ⟨e0, h0, h1⟩ := List.mem_map.mp h
    split at h1
    · rename_i hk
      rw [← h1, hk]; exact .inl rfl
    · rw [← h1]; exact .inr h0
  · rcases List.mem_append.mp h with h | h
    · exact .inr h
    · exact .inl (List.mem_singleton.mp h)

theorem lookup_mem {β : Type} {k : Int} {v : β} : ∀ {es : List (Int × β)}, es.lookup k = some v → (k, v) ∈ es
  | (a, b) :: es, h => by
    rw [List.lookup_cons] at h
    by_cases hk : k = a
    · subst hk; simp at h; subst h; exact List.mem_cons_self
    · rw [beq_false_of_ne hk] at h
      exact List.mem_cons_of_mem _ (lookup_mem h)

structure RInv (es : Rg) (N : Nat) (a : Int) : Prop where
  nodup : (es.map (·.1)).Nodup
  keys : ∀ e ∈ es, 0 ≤ e.1 ∧ e.1 < N
  ends : ∀ e ∈ es, e.2.1 ≤ e.2.2 ∧ e.2.2 ≤ a

theorem nodup_len {N : Nat} {l : List Int} (hn : l.Nodup) (h : ∀ x ∈ l, 0 ≤ x ∧ x < N) : l.length ≤ N := by
  have h1 : (l.map Int.toNat).Nodup := by
    rw [List.nodup_iff_pairwise_ne, List.pairwise_map]
    refine List.Pairwise.imp_of_mem (fun {a b} ha hb hab e => hab ?_) (List.nodup_iff_pairwise_ne.mp hn)
    have := h a ha; have := h b hb; lia
  have h2 : ∀ x ∈ l.map Int.toNat, x ∈ List.range N := fun x hx => by
    obtain ⟨y, hy, rfl⟩ := List.mem_map.mp hx
    have := h y hy
    exact List.mem_range.mpr (by lia)
  have key : ∀ (l : List Nat) (N : Nat), l.Nodup → (∀ x ∈ l, x < N) → l.length ≤ N := by
    intro l N
    induction N generalizing l with
    | zero =>
      intro _ hx
      cases l with
      | nil => simp
      | cons a l => exact absurd (hx a List.mem_cons_self) (Nat.not_lt_zero _)
    | succ N ih =>
      intro hn hx
      have := ih (l.erase N) (hn.erase N) fun x hx' => by
        have h1 := hx x (List.mem_of_mem_erase hx')
        have h2 : x ≠ N := fun e => by rw [e] at hx'; exact (List.Nodup.not_mem_erase hn) hx'
        lia
      by_cases hm : N ∈ l
      · rw [List.length_erase_of_mem hm] at this
        have : 0 < l.length := List.length_pos_of_mem hm
        lia
      · rw [List.erase_of_not_mem hm] at this
        lia
  have := key (l.map Int.toNat) N h1 fun x hx => List.mem_range.mp (h2 x hx)
  simpa using this

theorem RInv.len {es N a} (h : RInv es N a) : es.length ≤ N := by
  have := nodup_len h.nodup fun x hx => by
    obtain ⟨e, he, rfl⟩ := List.mem_map.mp hx
    exact h.keys e he
  simpa using this

theorem RInv.widen {es N a r} {a' : Int} (h : RInv es N a) (hr : 0 ≤ r ∧ r < (N : Int)) (ha : a ≤ a') : RInv (widenF es r a') N a' := by
  refine ⟨putP_nodup h.nodup, fun e he => ?_, fun e he => ?_⟩
  · rcases putP_mem he with rfl | he
    · exact hr
    · exact h.keys e he
  · rcases putP_mem he with rfl | he
    · refine ⟨?_, Int.le_refl _⟩
      cases hs : es.lookup r with
      | none => exact Int.le_refl _
      | some p => have := h.ends _ (lookup_mem hs); show p.1 ≤ a'; have h3 : p.1 ≤ p.2 ∧ p.2 ≤ a := this; lia
    · have := h.ends e he; lia

theorem RInv.mono {es N a a'} (h : RInv es N a) (ha : a ≤ a') : RInv es N a' := ⟨h.nodup, h.keys, fun e he => by have := h.ends e he; lia⟩

/-- the registers of a place -/
noncomputable def here (op : Op) : List Int := reads op ++ if 0 ≤ writes op then [writes op] else []

theorem regsF_mem {f m : Nat} : ∀ {r x : Int}, x ∈ regsF f m r → m < 2 ^ f → r ≤ x ∧ x < r + f ∧ 2 ^ (x - r).toNat ≤ m := by
  induction f generalizing m with
  | zero => intro r x h; simp [regsF] at h
  | succ f ih =>
    intro r x h hm
    unfold regsF at h
    split at h
    · cases h
    · rename_i h0
      rcases List.mem_append.mp h with h | h
      · split at h
        · rw [List.mem_singleton.mp h]
          refine ⟨Int.le_refl _, by lia, ?_⟩
          have : (r - r).toNat = 0 := by lia
          rw [this]; show 1 ≤ m; lia
        · cases h
      · obtain ⟨h1, h2, h3⟩ := ih h (by rw [Nat.pow_succ] at hm; lia)
        refine ⟨by lia, by lia, ?_⟩
        have e : (x - r).toNat = (x - (r + 1)).toNat + 1 := by lia
        rw [e, Nat.pow_succ]; lia

theorem regs_ok {m N : Nat} (hm : m < 2 ^ N) (hN : N ≤ 4) : ∀ x ∈ regsF 4 m 0, 0 ≤ x ∧ x < (N : Int) := fun x hx => by
  have h16 : 2 ^ N ≤ 2 ^ 4 := Nat.pow_le_pow_right (n := 2) (by decide) hN
  obtain ⟨h1, h2, h3⟩ := regsF_mem hx (by lia)
  refine ⟨h1, ?_⟩
  have h4 : 2 ^ (x - 0).toNat < 2 ^ N := by lia
  have := (Nat.pow_lt_pow_iff_right (a := 2) (by decide)).mp h4
  lia
theorem get_set_ne {m : MH} {i j : Nat} {p : MO} (h : i ≠ j) : (m.set i p)[j]? = m[j]? := List.getElem?_set_ne h
theorem get_ne {m : MH} {i j : Nat} {p : MO} {o : Option MO} (h : i ≠ j) (e : m[j]? = o) : (m.set i p)[j]? = o := (get_set_ne h).trans e
theorem dict0_nil : (MO.dict []) = .dict (rgM []) := rfl

theorem rangeN {n : Nat} (h : n ≤ 64) : rangeItems 0 (n : Int) 1 = (List.range n).map fun (x : Nat) => MV.int ((x : Nat) : Int) := by
  unfold rangeItems
  rw [(range_up n h).2]
  simp

theorem widen_has {es : Rg} {r a x : Int} (h : (es.lookup x).isSome = true ∨ x = r) : ((widenF es r a).lookup x).isSome = true := by
  unfold widenF
  rw [putP_lookup]
  split
  · rfl
  · rcases h with h | h
    · exact h
    · contradiction

/-- for register in a list: widen(found, register, at) -/
theorem widen_loop {N fi hi' : Nat} {regs : List Int} {a : Int} {mh m0 : MH} {es0 : Rg} {Q : MF → Vars → MH → Prop} {B : MV → STT} {v0 : Vars} (hN : N ≤ 4) (hrg : ∀ r ∈ regs, 0 ≤ r ∧ r < (N : Int)) (hfi : mh.length ≤ fi) (hne : fi ≠ hi')
    (hext : Ext mh m0) (hf : m0[fi]? = some (.dict (rgM es0))) (hh : m0[hi']? = some (.list (regs.map .int))) (hinv : RInv es0 N a) (hv0 : ∃ d, v0 = v0.set 5 d)
    (hB : ∀ (r : Int) v m (K : Vars → MH → Prop) es, (∃ d, v = v0.set 5 d) → 0 ≤ r ∧ r < (N : Int) → m[fi]? = some (.dict (rgM es)) → m[hi']? = some (.list (regs.map .int)) → es.length < 1000 →
      (∀ v', (∃ d, v' = v0.set 5 d) → K v' (m.set fi (.dict (rgM (widenF es r a))))) → B (.int r) (fun g v' m' => m'[hi']? = some (.list (regs.map .int)) ∧ flowN K Q id g v' m') v m)
    (hQ : ∀ v m es, (∃ d, v = v0.set 5 d) → Ext mh m → m[fi]? = some (.dict (rgM es)) → (∀ j, j ≠ fi → m[j]? = m0[j]?) → RInv es N a → (∀ x, (es0.lookup x).isSome = true ∨ x ∈ regs → (es.lookup x).isSome = true) → es = regs.foldl (fun es r => widenF es r a) es0 → Q .next v m) :
    forN (fun m => m[hi']? = some (.list (regs.map .int))) id B (regs.map .int) Q v0 m0 := by
  refine forN_ind (f := .int) (fun rs v m => ∃ es, (∃ d, v = v0.set 5 d) ∧ Ext mh m ∧ m[fi]? = some (.dict (rgM es)) ∧ (∀ j, j ≠ fi → m[j]? = m0[j]?) ∧ RInv es N a ∧ (∀ r ∈ rs, r ∈ regs) ∧ (∀ x, (es0.lookup x).isSome = true ∨ (x ∈ regs ∧ x ∉ rs) → (es.lookup x).isSome = true) ∧ rs.foldl (fun es r => widenF es r a) es = regs.foldl (fun es r => widenF es r a) es0) ?_ ?_ _ _ _
    ⟨es0, hv0, hext, hf, fun _ _ => rfl, hinv, fun r hr => hr, fun x hx => by
      rcases hx with h | h
      · exact h
      · exact absurd h.1 h.2, rfl⟩
  · rintro v m ⟨es, h1, h2, h3, h4, h5, _, h6, h7⟩
    exact hQ v m es h1 h2 h3 h4 h5 (fun x hx => h6 x (by
      rcases hx with h | h
      · exact .inl h
      · exact .inr ⟨h, by simp⟩)) h7
  · rintro r rs v m K ⟨es, h1, h2, h3, h4, h5, hsub, h6, h7⟩ hK
    have hr := hrg r (hsub r List.mem_cons_self)
    have hlen := h5.len
    refine hB r v m K es h1 hr h3 ((h4 _ (Ne.symm hne)).trans hh) (by lia) fun v' hv' => hK _ _ ⟨widenF es r a, hv', h2.set hfi _, get_set_self h3, fun j hj => get_ne (Ne.symm hj) (h4 j hj), h5.widen hr (Int.le_refl _), fun x hx => hsub x (List.mem_cons_of_mem _ hx), fun x hx => ?_, h7⟩
    by_cases e : x = r
    · exact widen_has (.inr e)
    · refine widen_has (.inl (h6 x ?_))
      rcases hx with h | h
      · exact .inl h
      · refine .inr ⟨h.1, fun hm => ?_⟩
        rcases List.mem_cons.mp hm with h' | h'
        · exact e h'
        · exact h.2 h'

/-- the ranges, place after place -/
noncomputable def rngF (ops : List Op) (ln : List Nat) : Nat → Rg
  | 0 => []
  | p + 1 => (regsF 4 (ln.getD p 0) 0).foldl (fun es r => widenF es r (p : Int)) ((here (ops.getD p (.ret 0))).foldl (fun es r => widenF es r (p : Int)) (rngF ops ln p))
noncomputable def rangesF (ops : List Op) : Rg := rngF ops (liveF ops) ops.length

inductive RgI (mh : MH) (ops : List Op) (ln : List Nat) (N i fi lj : Nat) (r : List Nat) (v : Vars) (m : MH) : Prop
  | mk (a b d : Option MV) (es : Rg) (p : Nat) (h1 : v = [some (.ref i), a, some (.ref fi), b, some (.ref lj), d]) (h2 : Ext mh m) (h3 : m[fi]? = some (.dict (rgM es))) (h4 : m[lj]? = some (.list ((ln.map Int.ofNat).map .int))) (h5 : fi < m.length)
    (h6 : r = List.range' p (ops.length - p)) (h7 : p ≤ ops.length) (h8 : RInv es N p) (h9 : ∀ b op, b < p → ops[b]? = some op → ∀ r ∈ here op, (es.lookup r).isSome = true) (h10 : es = rngF ops ln p)
inductive RgJ (mh : MH) (ln : List Nat) (es : Rg) (op : Op) (i x fi lj : Nat) (v : Vars) (m : MH) : Prop
  | mk (hj : Nat) (d : Option MV) (h1 : v = [some (.ref i), some (.int (x : Int)), some (.ref fi), some (.ref hj), some (.ref lj), d]) (h2 : Ext mh m) (h3 : m[fi]? = some (.dict (rgM es))) (h4 : m[lj]? = some (.list ((ln.map Int.ofNat).map .int))) (h5 : m[hj]? = some (.list ((here op).map .int))) (h6 : fi < hj)
theorem regs_here {ops : List Op} {N : Nat} (hok : OpsOK ops N) {op : Op} (hmem : op ∈ ops) : ∀ r ∈ here op, 0 ≤ r ∧ r < (N : Int) := by
  intro r hr
  unfold here at hr
  rcases List.mem_append.mp hr with h | h
  · exact hok.reads op hmem r h
  · split at h
    · rename_i hw
      rw [List.mem_singleton.mp h]; exact ⟨hw, hok.writes op hmem⟩
    · cases h

theorem c_ranges_of {C : Cx} (H : Hyp C) {k i N : Nat} {ops : List Op} {Q : MV → MH → Prop} {mh : MH} (hi : mh[i]? = some (.list (ops.map opM))) (hok : OpsOK ops N)
    (hQ : ∀ (es : Rg) (j : Nat) (m : MH), es = rangesF ops → RInv es N ops.length → (∀ op ∈ ops, ∀ r ∈ here op, (es.lookup r).isSome = true) → Ext mh m → m[j]? = some (.dict (rgM es)) → mh.length ≤ j → Q (.ref j) m) : CallR C (k + 5) "ranges_of" [.ref i] Q mh := by
  have hN := hok.hN
  have h16 : 2 ^ N ≤ 16 := Nat.pow_le_pow_right (n := 2) (by decide) hN
  have hsz := hok.size
  refine call_own H.f_ranges_of ["ops", "at", "found", "here", "live", "register"] (sok_mk (by kernel_rfl)) 5 (fun L qual code hF => have he := eok_fenv (L := L) (qual := qual) (fa := C.fa "ranges_of") (code := code) (sc := scopeAt 20) (by kernel_rfl); have hT := tok_of ["ops", "at", "found", "here", "live", "register"];
   (SSs_cons (SS_assign (SE_call he (by kernel_rfl) (by kernel_rfl) H.f_live_ahead.at (SEL_cons (SE_local (i := 0) he (by kernel_rfl) (by kernel_rfl) (by kernel_rfl)) SEL_nil rfl) rfl) (SA_name (i := 4) he hT hF (by kernel_rfl) (.inl (by kernel_rfl))) rfl (by kernel_rfl) (by kernel_rfl))
    (SSs_cons (SS_assign (SE_dict0 H.sys) (SA_name (i := 2) he hT hF (by kernel_rfl) (.inl (by kernel_rfl))) rfl (by kernel_rfl) (by kernel_rfl))
    (SSs_cons (SS_for (SE_tcall (t := "range") he (by kernel_rfl) (by kernel_rfl) H.b_range (SEL_cons (SE_bcall (id := "len") he (by kernel_rfl) (by kernel_rfl) H.b_len (SEL_cons (SE_local (i := 0) he (by kernel_rfl) (by kernel_rfl) (by kernel_rfl)) SEL_nil rfl) rfl) SEL_nil rfl) rfl) (SA_name (i := 1) he hT hF (by kernel_rfl) (.inl (by kernel_rfl))) (SSs_cons (SS_assign (SE_call he (by kernel_rfl) (by kernel_rfl) H.f_reads_of.at (SEL_cons (SE_sub (SE_local (i := 0) he (by kernel_rfl) (by kernel_rfl) (by kernel_rfl)) (SE_local (i := 1) he (by kernel_rfl) (by kernel_rfl) (by kernel_rfl)) rfl) SEL_nil rfl) rfl) (SA_name (i := 3) he hT hF (by kernel_rfl) (.inl (by kernel_rfl))) rfl (by kernel_rfl) (by kernel_rfl))
    (SSs_cons (SS_if (ST_cmp (SE_call he (by kernel_rfl) (by kernel_rfl) H.f_writes_of.at (SEL_cons (SE_sub (SE_local (i := 0) he (by kernel_rfl) (by kernel_rfl) (by kernel_rfl)) (SE_local (i := 1) he (by kernel_rfl) (by kernel_rfl) (by kernel_rfl)) rfl) SEL_nil rfl) rfl) SE_int (by kernel_rfl)) (SSs_cons (SS_assign (SE_binop (SE_local (i := 3) he (by kernel_rfl) (by kernel_rfl) (by kernel_rfl)) (SE_list (SEL_cons (SE_call he (by kernel_rfl) (by kernel_rfl) H.f_writes_of.at (SEL_cons (SE_sub (SE_local (i := 0) he (by kernel_rfl) (by kernel_rfl) (by kernel_rfl)) (SE_local (i := 1) he (by kernel_rfl) (by kernel_rfl) (by kernel_rfl)) rfl) SEL_nil rfl) rfl) SEL_nil rfl))) (SA_name (i := 3) he hT hF (by kernel_rfl) (.inl (by kernel_rfl))) rfl (by kernel_rfl) (by kernel_rfl))
    SSs_nil) SSs_nil)
    (SSs_cons (SS_for (SE_local (i := 3) he (by kernel_rfl) (by kernel_rfl) (by kernel_rfl)) (SA_name (i := 5) he hT hF (by kernel_rfl) (.inl (by kernel_rfl))) (SSs_cons (SS_expr (SE_call he (by kernel_rfl) (by kernel_rfl) H.f_widen.at (SEL_cons (SE_local (i := 2) he (by kernel_rfl) (by kernel_rfl) (by kernel_rfl)) (SEL_cons (SE_local (i := 5) he (by kernel_rfl) (by kernel_rfl) (by kernel_rfl)) (SEL_cons (SE_local (i := 1) he (by kernel_rfl) (by kernel_rfl) (by kernel_rfl)) SEL_nil rfl) rfl) rfl) rfl) (by kernel_rfl) (by kernel_rfl))
    SSs_nil) (fun _ => rfl) (.inl fun _ _ => rfl))
    (SSs_cons (SS_for (SE_call he (by kernel_rfl) (by kernel_rfl) H.f_registers_of.at (SEL_cons (SE_sub (SE_local (i := 4) he (by kernel_rfl) (by kernel_rfl) (by kernel_rfl)) (SE_local (i := 1) he (by kernel_rfl) (by kernel_rfl) (by kernel_rfl)) rfl) SEL_nil rfl) rfl) (SA_name (i := 5) he hT hF (by kernel_rfl) (.inl (by kernel_rfl))) (SSs_cons (SS_expr (SE_call he (by kernel_rfl) (by kernel_rfl) H.f_widen.at (SEL_cons (SE_local (i := 2) he (by kernel_rfl) (by kernel_rfl) (by kernel_rfl)) (SEL_cons (SE_local (i := 5) he (by kernel_rfl) (by kernel_rfl) (by kernel_rfl)) (SEL_cons (SE_local (i := 1) he (by kernel_rfl) (by kernel_rfl) (by kernel_rfl)) SEL_nil rfl) rfl) rfl) rfl) (by kernel_rfl) (by kernel_rfl))
    SSs_nil) (fun _ => rfl) (.inl fun _ _ => rfl))
    SSs_nil)))) (fun _ => rfl) (.inl fun _ _ => rfl))
    (SSs_cons (SS_return (SE_local (i := 2) he (by kernel_rfl) (by kernel_rfl) (by kernel_rfl)))
    SSs_nil))))) rfl ?_
  walk_at "s"
  refine c_live_ahead H hi hok fun ln lj m1 hlnF hlen hlt hext hlv => ?_
  have hlj : lj < m1.length := (List.getElem?_eq_some_iff.mp hlv).1
  walk_at "s"
  rw [dict0_nil]
  refine bc_len_list (get_app (hext.get hi)) ?_
  rw [List.length_map]
  refine tc_range1 ?_
  have hr := range_up ops.length (by lia)
  refine it_range ⟨hr.1, by rw [hr.2]; lia⟩ ?_
  rw [rangeN (by lia)]
  refine forN_ind (f := fun (x : Nat) => MV.int ((x : Nat) : Int)) (RgI mh ops ln N i m1.length lj) ?_ ?_ _ _ _
    ⟨none, none, none, [], 0, rfl, hext.app _, get_last, get_app hlv, by simp, by rw [List.range_eq_range']; rfl, Nat.zero_le _, ⟨by simp, fun e h => (nomatch h), fun e h => (nomatch h)⟩, (fun b op h => absurd h (Nat.not_lt_zero _)), rfl⟩
  · rintro v m ⟨a, b, d, es, p, rfl, he, hf, hl, hml, hr', hp, hinv, hhas, hes⟩
    have hpe : p = ops.length := by
      have := congrArg List.length hr'
      simp at this
      lia
    subst hpe
    walk_at "s"
    exact hQ es _ m (by rw [hes, hlnF]; rfl) hinv (fun op hop r hr => by
      obtain ⟨b, hb, rfl⟩ := List.getElem_of_mem hop
      exact hhas b _ hb (List.getElem?_eq_getElem hb) r hr) he hf hext.len
  · rintro x r v m K ⟨a, b, d, es, p, rfl, he, hf, hl, hml, hr', hp, hinv, hhas, hes⟩ hK
    obtain ⟨hxp, hrest, hplt⟩ : x = p ∧ r = List.range' (p + 1) (ops.length - (p + 1)) ∧ p < ops.length := by
      cases hq : ops.length - p with
      | zero => rw [hq] at hr'; simp at hr'
      | succ q =>
        rw [hq, List.range'_succ] at hr'
        obtain ⟨h1, h2⟩ := List.cons.inj hr'
        exact ⟨h1, by rw [h2]; congr 1; lia, by lia⟩
    subst hxp
    obtain ⟨op, hop⟩ : ∃ op, ops[x]? = some op := ⟨_, List.getElem?_eq_getElem hplt⟩
    have hopd : ops.getD x (.ret 0) = op := by rw [List.getD_eq_getElem?_getD, hop]; rfl
    have hmem := List.mem_of_getElem? hop
    have hx0 : (0 : Int) ≤ (x : Int) := by lia
    have hgetop : (ops.map opM)[(x : Int).toNat]? = some (opM op) := by simpa using getElem_map hop
    walk_at "s"
    refine g_list (he.get hi) hx0 hgetop ?_
    refine c_reads_of H (hok.ret op hmem) ?_
    (repeat walk_at "s0")
    have hlnx : ((ln.map Int.ofNat).map MV.int)[(x : Int).toNat]? = some (.int ((ln.getD x 0 : Nat) : Int)) := by
      have : x < ln.length := by lia
      simp [this]
    have hlx : ln.getD x 0 < 2 ^ N := getD_lt hlt x
    have hinvx : RInv es N (x : Int) := hinv
    have hreg := regs_here hok hmem
    refine if_tailV (RgJ mh ln es op i x m1.length lj) ?_ fun tail => ?_
    · rintro v m' ⟨hj, d', rfl, hE0, hf0, hl0, hh0, hlt0⟩
      clear hf hl he hml
      walk_at "s"
      refine it_list hh0 ?_
      refine widen_loop (a := (x : Int)) (N := N) (mh := mh) (es0 := es) (fi := m1.length) (hi' := hj) hN hreg hext.len (Nat.ne_of_lt hlt0) hE0 hf0 hh0 hinvx ⟨_, rfl⟩ (fun r v M K' es' hv hr1 hf' hh' hl' hk => ?_) (fun v M es' hv hE hF hJ hR hH hX => ?_)
      · obtain ⟨d, rfl⟩ := hv
        walk_at "s"
        refine c_widen H hf' hl' ?_
        walk_at "s"
        refine ⟨get_ne (Nat.ne_of_lt hlt0) hh', ?_⟩
        walk_at "s"
        exact hk _ ⟨_, rfl⟩
      · obtain ⟨d, rfl⟩ := hv
        walk_at "s"
        have hlM : M[lj]? = some (.list ((ln.map Int.ofNat).map .int)) := (hJ lj (Nat.ne_of_lt hlj)).trans hl0
        refine g_list hlM hx0 hlnx ?_
        refine c_registers_of H (by lia) ?_
        refine it_list get_last ?_
        have hML : m1.length < M.length := (List.getElem?_eq_some_iff.mp hF).1
        clear hJ hf0 hl0 hh0 hE0
        refine widen_loop (a := (x : Int)) (N := N) (mh := mh) (es0 := es') (fi := m1.length) (hi' := M.length) hN (regs_ok hlx hN) hext.len (Nat.ne_of_lt hML) (hE.app _) (get_app hF) get_last hR ⟨_, rfl⟩ (fun r v M' K' es'' hv hr1 hf' hh' hl' hk => ?_) (fun v M' es'' hv hE' hF' hJ' hR' hH' hX' => ?_)
        · obtain ⟨d, rfl⟩ := hv
          walk_at "s"
          refine c_widen H hf' hl' ?_
          walk_at "s"
          refine ⟨get_ne (Nat.ne_of_lt hML) hh', ?_⟩
          walk_at "s"
          exact hk _ ⟨_, rfl⟩
        · obtain ⟨d, rfl⟩ := hv
          refine tr_ok ?_
          refine fl_next ?_
          refine hK _ _ ⟨_, _, _, es'', x + 1, rfl, hE', hF', (hJ' lj (Nat.ne_of_lt hlj)).trans (get_app hlM), (List.getElem?_eq_some_iff.mp hF').1, hrest, hplt, hR'.mono (by lia), (fun b ob hb hob r hr => ?_), by rw [hX', hX, hes, rngF, hopd]⟩
          refine hH' r (.inl (hH r ?_))
          by_cases hbx : b = x
          · subst hbx
            rw [hop] at hob; cases hob
            exact .inr hr
          · exact .inl (hhas b ob (by lia) hob r hr)
    · walk_at "s"
      refine g_list (get_app (he.get hi)) hx0 hgetop ?_
      refine c_writes_of H ?_
      by_cases hw : 0 ≤ writes op
      · refine cmp_t (ge_t hw) ?_
        walk_at "s"
        refine g_list (get_app (he.get hi)) hx0 hgetop ?_
        refine c_writes_of H ?_
        walk_at "s"
        refine b_lists (get_app get_last) get_last (by have := reads_len op; simp; lia) ?_
        rw [show (reads op).map MV.int ++ [MV.int (writes op)] = (here op).map .int by unfold here; rw [if_pos hw]; simp]
        refine tail _ _ ?_
        exact ⟨_, _, rfl, ((he.app _).app _).app _, get_app (get_app (get_app hf)), get_app (get_app (get_app hl)), get_last, by simp; lia⟩
      · refine cmp_f (ge_f (by lia)) ?_
        refine st_f ?_
        refine tail _ _ ?_
        exact ⟨_, _, rfl, he.app _, get_app hf, get_app hl, (by unfold here; rw [if_neg hw, List.append_nil]; exact get_last), hml⟩
noncomputable def endOf (es : Rg) (r : Int) : Int := ((es.lookup r).map (·.2)).getD 0
noncomputable def intsM (d : List (Int × Int)) : List (Int × MV) := d.map fun e => (e.1, .int e.2)
noncomputable def delP {β : Type} (es : List (Int × β)) (k : Int) : List (Int × β) := es.filter fun e => decide (e.1 ≠ k)

structure SSt where
  act : List Int
  free : List Int
  dealt : List (Int × Int)
  sp : List Int

noncomputable def expF (es : Rg) (first : Int) (dealt : List (Int × Int)) : List Int → List Int × List Int → List Int × List Int
  | [], s => s
  | o :: r, s => expF es first dealt r (if endOf es o < first then (s.1.erase o, s.2 ++ [(dealt.lookup o).getD 0]) else s)
noncomputable def lonF (es : Rg) : List Int → Int → Int
  | [], l => l
  | o :: r, l => lonF es r (if endOf es l < endOf es o then o else l)

noncomputable def stepS (es : Rg) (st : SSt) (p : Int × Int) : SSt :=
  let s := expF es p.1 st.dealt st.act (st.act, st.free)
  if s.2 = [] then
    let l := lonF es s.1 p.2
    if l = p.2 then { act := s.1, free := s.2, dealt := st.dealt, sp := st.sp ++ [l] }
    else { act := s.1.erase l ++ [p.2], free := s.2, dealt := putP (delP st.dealt l) p.2 ((st.dealt.lookup l).getD 0), sp := st.sp ++ [l] }
  else { act := s.1 ++ [p.2], free := s.2.dropLast, dealt := putP st.dealt p.2 (s.2.getLastD 0), sp := st.sp }

noncomputable def downF (c : Nat) : List Int := (List.range c).map fun (x : Nat) => (c : Int) - 1 - x
noncomputable def scanF (es : Rg) (c : Nat) (order : List (Int × Int)) : SSt := order.foldl (stepS es) ⟨[], downF c, [], []⟩

noncomputable def orderP (es : Rg) : List (Int × Int) := es.map fun e => (e.2.1, e.1)

theorem rm1 {m : MH} {i : Nat} {xs0 : List MV} {R : Nat → Prop} (h : m[i]? = some (MO.list xs0)) (q : R i) : ∃ (i' : Nat) (xs0' : List MV), MV.ref i = .ref i' ∧ m[i']? = some (MO.list xs0') ∧ R i' := ⟨i, xs0, rfl, h, q⟩
theorem rm2 {m : MH} {i : Nat} {x : Int} {ns : List Int} {R : MH → Prop} (h : m[i]? = some (MO.list (ns.map .int))) (hx : x ∈ ns) (q : R (m.set i (.list ((ns.erase x).map .int)))) :
    ∃ (x' : Int) (ns' : List Int), MV.int x = .int x' ∧ m[i]? = some (MO.list (ns'.map .int)) ∧ x' ∈ ns' ∧ ∃ m', m.set i (.list ((ns'.erase x').map .int)) = m' ∧ R m' := ⟨x, ns, rfl, h, hx, _, rfl, q⟩
theorem dp2 {m : MH} {i : Nat} {x : Int} {es : List (Int × MV)} {w : MV} {R : MV → MH → Prop} (h : m[i]? = some (MO.dict es)) (hx : look es x = some w) (q : R w (m.set i (.dict (del es x)))) :
    ∃ (x' : Int) (es' : List (Int × MV)) (w' : MV), MV.int x = .int x' ∧ m[i]? = some (MO.dict es') ∧ look es' x' = some w' ∧ ∃ m', m.set i (.dict (del es' x')) = m' ∧ R w' m' := ⟨x, es, w, rfl, h, hx, _, rfl, q⟩
theorem pp1 {m : MH} {i : Nat} {xs : List MV} {y : MV} {R : MV → MH → Prop} (h : m[i]? = some (MO.list (xs ++ [y]))) (q : R y (m.set i (.list xs))) :
    ∃ (i' : Nat) (xs' : List MV) (y' : MV), MV.ref i = .ref i' ∧ m[i']? = some (MO.list (xs' ++ [y'])) ∧ ∃ m', m.set i' (.list xs') = m' ∧ R y' m' := ⟨i, xs, y, rfl, h, _, rfl, q⟩
theorem tr_list {m : MH} {i : Nat} {xs : List MV} {R : Bool → Prop} (h : m[i]? = some (MO.list xs)) (q : R (!xs.isEmpty)) : ∃ b, truthM m (.ref i) = some b ∧ R b := ⟨_, by show truthO m[i]? = _; rw [h]; rfl, q⟩
theorem sa1 {m : MH} {i : Nat} {xs : List MV} {R : List MV → Prop} (h : m[i]? = some (MO.list xs)) (q : R xs) : ∃ (i' : Nat) (xs' : List MV), MV.ref i = .ref i' ∧ m[i']? = some (MO.list xs') ∧ R xs' := ⟨i, xs, rfl, h, q⟩

theorem del_map (d : List (Int × Int)) (k : Int) : del (intsM d) k = intsM (delP d k) := by
  unfold del intsM delP
  rw [List.filter_map]
  rfl
theorem put_ints (d : List (Int × Int)) (k v : Int) : put (intsM d) k (.int v) = intsM (putP d k v) := put_map (fun (x : Int) => MV.int x) d k v
theorem look_ints (d : List (Int × Int)) (k : Int) : look (intsM d) k = (d.lookup k).map .int := look_map (fun (x : Int) => MV.int x) d k
theorem look_rg (es : Rg) (k : Int) : look (rgM es) k = (es.lookup k).map pairM := look_map pairM es k

theorem delP_lookup {β : Type} (es : List (Int × β)) (k x : Int) : (delP es k).lookup x = if x = k then none else es.lookup x := by
  unfold delP
  induction es with
  | nil => simp
  | cons e es ih =>
    obtain ⟨a, b⟩ := e
    rw [List.filter_cons, List.lookup_cons]
    by_cases h : a = k
    · subst h
      simp only [ne_eq, not_true_eq_false, decide_false, Bool.false_eq_true, if_false]
      rw [ih]
      by_cases hx : x = a
      · subst hx; simp
      · simp [hx, beq_false_of_ne hx]
    · simp only [ne_eq, h, not_false_eq_true, decide_true, if_true]
      rw [List.lookup_cons, ih]
      by_cases hx : x = a
      · subst hx; simp [h]
      · rw [beq_false_of_ne hx]

theorem delP_nodup {β : Type} {es : List (Int × β)} {k : Int} (h : (es.map (·.1)).Nodup) : ((delP es k).map (·.1)).Nodup := by
  unfold delP
  exact (List.Sublist.map _ List.filter_sublist).nodup h

/-- what holds between two turns -/
structure SInv (es : Rg) (c : Nat) (st : SSt) (done : Nat) : Prop where
  actnd : st.act.Nodup
  actes : ∀ a ∈ st.act, (es.lookup a).isSome = true
  actdl : ∀ a ∈ st.act, (st.dealt.lookup a).isSome = true
  room : st.free.length + st.act.length = c
  dlen : st.dealt.length ≤ done
  splen : st.sp.length ≤ done

theorem expF_inv {es : Rg} {first : Int} {dealt : List (Int × Int)} : ∀ (r : List Int) (s : List Int × List Int), r.Nodup → s.1.Nodup → (∀ x ∈ r, x ∈ s.1) →
    (expF es first dealt r s).1.Nodup ∧ (∀ x ∈ (expF es first dealt r s).1, x ∈ s.1) ∧ (expF es first dealt r s).2.length + (expF es first dealt r s).1.length = s.2.length + s.1.length
  | [], s, _, h, _ => ⟨h, fun _ h => h, rfl⟩
  | o :: r, s, hr, hs, hsub => by
    unfold expF
    obtain ⟨ho, hr'⟩ := List.nodup_cons.mp hr
    by_cases hc : endOf es o < first
    · rw [if_pos hc]
      obtain ⟨h1, h2, h3⟩ := expF_inv (es := es) (first := first) (dealt := dealt) r (s.1.erase o, s.2 ++ [(dealt.lookup o).getD 0]) hr' (hs.erase o) fun x hx => by
        have hne : x ≠ o := fun e => ho (e ▸ hx)
        exact (List.mem_erase_of_ne hne).mpr (hsub x (List.mem_cons_of_mem _ hx))
      refine ⟨h1, fun x hx => List.mem_of_mem_erase (h2 x hx), ?_⟩
      rw [h3]
      have hm := hsub o List.mem_cons_self
      have := List.length_erase_of_mem hm
      have hp : 0 < s.1.length := List.length_pos_of_mem hm
      simp only [List.length_append, List.length_singleton]
      lia
    · rw [if_neg hc]
      exact expF_inv r s hr' hs fun x hx => hsub x (List.mem_cons_of_mem _ hx)

theorem lonF_mem {es : Rg} : ∀ (r : List Int) (l : Int), lonF es r l = l ∨ lonF es r l ∈ r
  | [], l => .inl rfl
  | o :: r, l => by
    unfold lonF
    rcases lonF_mem (es := es) r (if endOf es l < endOf es o then o else l) with h | h
    · rw [h]
      split
      · exact .inr List.mem_cons_self
      · exact .inl rfl
    · exact .inr (List.mem_cons_of_mem _ h)

theorem putP_length {β : Type} (es : List (Int × β)) (k : Int) (v : β) : (putP es k v).length ≤ es.length + 1 := by
  unfold putP; split <;> simp

theorem SInv.step {es : Rg} {c : Nat} {st : SSt} {done : Nat} {p : Int × Int} (h : SInv es c st done) (hp : (es.lookup p.2).isSome = true) (hnew : p.2 ∉ st.act) : SInv es c (stepS es st p) (done + 1) := by
  obtain ⟨e1, e2, e3⟩ := expF_inv (es := es) (first := p.1) (dealt := st.dealt) st.act (st.act, st.free) h.actnd h.actnd fun _ h => h
  have e3 : (expF es p.1 st.dealt st.act (st.act, st.free)).2.length + (expF es p.1 st.dealt st.act (st.act, st.free)).1.length = st.free.length + st.act.length := e3
  have hroom := h.room
  have hd := h.dlen
  have hs := h.splen
  unfold stepS
  simp only
  generalize expF es p.1 st.dealt st.act (st.act, st.free) = s at e1 e2 e3
  have hpn : p.2 ∉ s.1 := fun hm => hnew (e2 _ hm)
  by_cases hf : s.2 = []
  · rw [if_pos hf]
    rw [hf, List.length_nil] at e3
    by_cases hl : lonF es s.1 p.2 = p.2
    · rw [if_pos hl]
      exact ⟨e1, fun a ha => h.actes a (e2 a ha), fun a ha => h.actdl a (e2 a ha), by rw [hf]; simp; lia, by show st.dealt.length ≤ _; lia, by simp; lia⟩
    · rw [if_neg hl]
      have hlm : lonF es s.1 p.2 ∈ s.1 := by
        rcases lonF_mem (es := es) s.1 p.2 with q | q
        · exact absurd q hl
        · exact q
      generalize lonF es s.1 p.2 = l at hl hlm
      have hle := List.length_erase_of_mem hlm
      have hpos : 0 < s.1.length := List.length_pos_of_mem hlm
      refine ⟨?_, fun a ha => ?_, fun a ha => ?_, ?_, ?_, by simp; lia⟩
      · refine List.nodup_append.mpr ⟨e1.erase l, by simp, fun a ha b hb e => ?_⟩
        rw [List.mem_singleton.mp hb] at e
        exact hpn (e ▸ List.mem_of_mem_erase ha)
      · rcases List.mem_append.mp ha with q | q
        · exact h.actes a (e2 a (List.mem_of_mem_erase q))
        · rw [List.mem_singleton.mp q]; exact hp
      · show ((putP (delP st.dealt l) p.2 ((st.dealt.lookup l).getD 0)).lookup a).isSome = true
        rw [putP_lookup]
        split
        · rfl
        · rename_i hap
          rcases List.mem_append.mp ha with q | q
          · have hal : a ≠ l := fun e => (List.Nodup.not_mem_erase e1) (e ▸ q)
            rw [delP_lookup, if_neg hal]
            exact h.actdl a (e2 a (List.mem_of_mem_erase q))
          · exact absurd (List.mem_singleton.mp q) hap
      · rw [hf]; simp; lia
      · have h1 := putP_length (delP st.dealt l) p.2 ((st.dealt.lookup l).getD 0)
        have h2 : (delP st.dealt l).length ≤ st.dealt.length := List.length_filter_le _ _
        show (putP (delP st.dealt l) p.2 ((st.dealt.lookup l).getD 0)).length ≤ _
        lia
  · rw [if_neg hf]
    have hpos : 0 < s.2.length := List.length_pos_iff.mpr hf
    refine ⟨?_, fun a ha => ?_, fun a ha => ?_, ?_, ?_, by show st.sp.length ≤ _; lia⟩
    · refine List.nodup_append.mpr ⟨e1, by simp, fun a ha b hb e => ?_⟩
      rw [List.mem_singleton.mp hb] at e
      exact hpn (e ▸ ha)
    · rcases List.mem_append.mp ha with q | q
      · exact h.actes a (e2 a q)
      · rw [List.mem_singleton.mp q]; exact hp
    · show ((putP st.dealt p.2 (s.2.getLastD 0)).lookup a).isSome = true
      rw [putP_lookup]
      split
      · rfl
      · rename_i hap
        rcases List.mem_append.mp ha with q | q
        · exact h.actdl a (e2 a q)
        · exact absurd (List.mem_singleton.mp q) hap
    · simp; lia
    · have h1 := putP_length st.dealt p.2 (s.2.getLastD 0)
      show (putP st.dealt p.2 (s.2.getLastD 0)).length ≤ _
      lia
theorem range_down_items {c : Nat} (h : c ≤ 64) : rangeItems ((c : Int) - 1) (-1) (-1) = (downF c).map .int := by
  unfold rangeItems downF
  rw [(range_down c h).2, List.map_map]
  simp only [Int.toNat_natCast]
  refine List.map_congr_left fun x _ => ?_
  simp only [Function.comp]
  congr 1; lia

theorem endOf_of {es : Rg} {r : Int} {p : Int × Int} (h : es.lookup r = some p) : endOf es r = p.2 := by unfold endOf; rw [h]; rfl

theorem g_rg {m : MH} {i : Nat} {es : Rg} {r : Int} {R : MV → Prop} (h : m[i]? = some (.dict (rgM es))) (hr : (es.lookup r).isSome = true) (q : ∀ p, es.lookup r = some p → R (pairM p)) : ∃ x, getM m (.ref i) (.int r) = some x ∧ R x := by
  obtain ⟨p, hp⟩ := Option.isSome_iff_exists.mp hr
  exact g_dict h (by rw [look_rg, hp]; rfl) (q p hp)

theorem lexlt_nodup {es : Rg} (h : (es.map (·.1)).Nodup) : (orderP es).Nodup := by
  unfold orderP
  rw [List.nodup_iff_pairwise_ne, List.pairwise_map]
  have h' := List.nodup_iff_pairwise_ne.mp h
  rw [List.pairwise_map] at h'
  exact h'.imp fun hab e => hab (by injection e)

theorem forN_id {α : Type} {chk : MH → Prop} {B : MV → STT} {f : α → MV} {Q : MF → Vars → MH → Prop} (I : List α → Vars → MH → Prop) (hnil : ∀ v m, I [] v m → Q .next v m)
    (hcons : ∀ a r v m (K : Vars → MH → Prop), I (a :: r) v m → (∀ v' m', I r v' m' → K v' m') → B (f a) (turnK chk id K Q) v m) (xs : List α) (v : Vars) (m : MH) (h : I xs v m) : forN chk id B (xs.map f) Q v m := forN_ind I hnil hcons xs v m h

theorem lookup_mid {β : Type} {e : Int × β} {r : List (Int × β)} : ∀ {done : List (Int × β)}, ((done ++ e :: r).map (·.1)).Nodup → (done ++ e :: r).lookup e.1 = some e.2
  | [], _ => by
    obtain ⟨a, b⟩ := e
    show ((a, b) :: r).lookup a = some b
    rw [List.lookup_cons]; simp
  | (a, b) :: done, h => by
    rw [List.cons_append, List.map_cons, List.nodup_cons] at h
    have hne : e.1 ≠ a := fun q => h.1 (by rw [← q]; simp)
    rw [List.cons_append, List.lookup_cons, beq_false_of_ne hne]
    exact lookup_mid h.2

theorem stepS_act {es : Rg} {st : SSt} {p : Int × Int} (hn : st.act.Nodup) {x : Int} (h : x ∈ (stepS es st p).act) : x ∈ st.act ∨ x = p.2 := by
  obtain ⟨e1, e2, e3⟩ := expF_inv (es := es) (first := p.1) (dealt := st.dealt) st.act (st.act, st.free) hn hn fun _ h => h
  unfold stepS at h
  simp only at h
  generalize expF es p.1 st.dealt st.act (st.act, st.free) = s at e1 e2 e3 h
  split at h
  · split at h
    · exact .inl (e2 _ h)
    · rcases List.mem_append.mp h with q | q
      · exact .inl (e2 _ (List.mem_of_mem_erase q))
      · exact .inr (List.mem_singleton.mp q)
  · rcases List.mem_append.mp h with q | q
    · exact .inl (e2 _ q)
    · exact .inr (List.mem_singleton.mp q)

/-- what stands between two turns -/
structure STurn (mh : MH) (es : Rg) (c : Nat) (order rest : List (Int × Int)) (i jo jd ja js jf : Nat) (st : SSt) (v : Vars) (m : MH) : Prop where
  vars : ∃ fo lo ol rg, v = [some (.ref i), some (.int (c : Int)), some (.ref ja), some (.ref jd), fo, some (.ref jf), lo, ol, some (.ref jo), rg, some (.ref js)]
  ext : Ext mh m
  ho : m[jo]? = some (.list (order.map pairM))
  hd : m[jd]? = some (.dict (intsM st.dealt))
  ha : m[ja]? = some (.list (st.act.map .int))
  hs : m[js]? = some (.list (st.sp.map .int))
  hf : m[jf]? = some (.list (st.free.map .int))
  inv : ∃ done, SInv es c st done ∧ done + rest.length = order.length
  fold : rest.foldl (stepS es) st = scanF es c order
  has : ∀ p ∈ rest, (es.lookup p.2).isSome = true
  nd : (rest.map (·.2)).Nodup
  out : ∀ p ∈ rest, p.2 ∉ st.act

inductive SIn1 (mh : MH) (es : Rg) (c i ja jd jf jo js : Nat) (p : Int × Int) (lo : Option MV) (st : SSt) (m0 : MH) (r : List Int) (v : Vars) (m' : MH) : Prop
  | mk (s : List Int × List Int) (ol : Option MV) (h1 : v = [some (.ref i), some (.int (c : Int)), some (.ref ja), some (.ref jd), some (.int p.1), some (.ref jf), lo, ol, some (.ref jo), some (.int p.2), some (.ref js)]) (h2 : Ext mh m')
    (h3 : m'[ja]? = some (.list (s.1.map .int))) (h4 : m'[jf]? = some (.list (s.2.map .int))) (h5 : ∀ j, j ≠ ja → j ≠ jf → m'[j]? = m0[j]?) (h6 : expF es p.1 st.dealt r s = expF es p.1 st.dealt st.act (st.act, st.free)) (h7 : ∀ x ∈ r, x ∈ s.1) (h8 : r.Nodup) (h9 : s.1.Nodup) (h10 : ∀ x ∈ s.1, x ∈ st.act) (h11 : s.2.length + s.1.length = c)
inductive SIn2 (es : Rg) (c i ja jd jf jo js : Nat) (p : Int × Int) (s1 : List Int) (m' : MH) (r : List Int) (v : Vars) (m'' : MH) : Prop
  | mk (h0 : m' = m'') (l : Int) (ol : Option MV) (h1 : v = [some (.ref i), some (.int (c : Int)), some (.ref ja), some (.ref jd), some (.int p.1), some (.ref jf), some (.int l), ol, some (.ref jo), some (.int p.2), some (.ref js)])
    (h2 : lonF es r l = lonF es s1 p.2) (h3 : l = p.2 ∨ l ∈ s1) (h4 : ∀ x ∈ r, x ∈ s1)

theorem c_scan {C : Cx} (H : Hyp C) {k i c : Nat} {es : Rg} {Q : MV → MH → Prop} {mh : MH} (hi : mh[i]? = some (.dict (rgM es))) (hnd : (es.map (·.1)).Nodup) (h5 : es.length ≤ 5) (hc : c ≤ 60)
    (hQ : ∀ (order : List (Int × Int)) (jd js : Nat) (m : MH), order.Perm (orderP es) → order.Pairwise (fun a b => lexlt a b = true) → Ext mh m → m[jd]? = some (.dict (intsM (scanF es c order).dealt)) → m[js]? = some (.list ((scanF es c order).sp.map .int)) → jd ≠ js → mh.length ≤ jd → mh.length ≤ js →
      Q (.tup [.ref jd, .ref js]) m) : CallR C (k + 1) "scan" [.ref i, .int c] Q mh := by
  refine call_own H.f_scan ["ranges", "count", "active", "dealt", "first", "free", "longest", "old", "order", "register", "spilled"] (sok_mk (by kernel_rfl)) 9 (fun L qual code hF => have he := eok_fenv (L := L) (qual := qual) (fa := C.fa "scan") (code := code) (sc := scopeAt 25) (by kernel_rfl); have hT := tok_of ["ranges", "count", "active", "dealt", "first", "free", "longest", "old", "order", "register", "spilled"];
   (SSs_cons (SS_assign (SE_sorted he (by kernel_rfl) (by kernel_rfl) H.b_sorted (SEL_cons (SE_comp (n := 11) (cl := [("ranges", L+1)]) he (cok_mk hF (hm1 (by kernel_rfl)) (by kernel_rfl)) (tok_cons hT (by kernel_rfl)) (fun L1 => .inl (by kernel_rfl)) (by kernel_rfl) (fun _ => rfl) (SE_cell (i := 0) (c := L+1) he (by kernel_rfl) (by kernel_rfl) (by kernel_rfl) (by kernel_rfl)) (fun L1 hF1 => have he1 := eok_of hF1 he (by kernel_rfl); have hT1 := tok_cons (x := "register") (n := 11) hT (by kernel_rfl); SI_nil) (fun L1 hF1 => have he1 := eok_of hF1 he (by kernel_rfl); have hT1 := tok_cons (x := "register") (n := 11) hT (by kernel_rfl); (SE_tuple (SEL_cons (SE_sub (SE_sub (SE_cell (i := 0) (c := L+1) he1 (by kernel_rfl) (by kernel_rfl) (by kernel_rfl) (by kernel_rfl)) (SE_local (i := 11) he1 (by kernel_rfl) (by kernel_rfl) (by kernel_rfl)) rfl) SE_int rfl) (SEL_cons (SE_local (i := 11) he1 (by kernel_rfl) (by kernel_rfl) (by kernel_rfl)) SEL_nil rfl) rfl)))) SEL_nil rfl) rfl) (SA_name (i := 8) he hT hF (by kernel_rfl) (.inl (by kernel_rfl))) rfl (by kernel_rfl) (by kernel_rfl))
    (SSs_cons (SS_assign (SE_dict0 H.sys) (SA_name (i := 3) he hT hF (by kernel_rfl) (.inl (by kernel_rfl))) rfl (by kernel_rfl) (by kernel_rfl))
    (SSs_cons (SS_assign (SE_list SEL_nil) (SA_name (i := 2) he hT hF (by kernel_rfl) (.inl (by kernel_rfl))) rfl (by kernel_rfl) (by kernel_rfl))
    (SSs_cons (SS_assign (SE_list SEL_nil) (SA_name (i := 10) he hT hF (by kernel_rfl) (.inl (by kernel_rfl))) rfl (by kernel_rfl) (by kernel_rfl))
    (SSs_cons (SS_assign (SE_tcall (t := "list") he (by kernel_rfl) (by kernel_rfl) H.b_list (SEL_cons (SE_tcall (t := "range") he (by kernel_rfl) (by kernel_rfl) H.b_range (SEL_cons (SE_binop (SE_local (i := 1) he (by kernel_rfl) (by kernel_rfl) (by kernel_rfl)) SE_int) (SEL_cons SE_neg (SEL_cons SE_neg SEL_nil rfl) rfl) rfl) rfl) SEL_nil rfl) rfl) (SA_name (i := 5) he hT hF (by kernel_rfl) (.inl (by kernel_rfl))) rfl (by kernel_rfl) (by kernel_rfl))
    (SSs_cons (SS_for (SE_local (i := 8) he (by kernel_rfl) (by kernel_rfl) (by kernel_rfl)) (SA_tuple (SAL_cons (SA_name (i := 4) he hT hF (by kernel_rfl) (.inl (by kernel_rfl))) (SAL_cons (SA_name (i := 9) he hT hF (by kernel_rfl) (.inl (by kernel_rfl))) SAL_nil rfl) rfl) rfl) (SSs_cons (SS_for (SE_sliceAll (SE_local (i := 2) he (by kernel_rfl) (by kernel_rfl) (by kernel_rfl))) (SA_name (i := 7) he hT hF (by kernel_rfl) (.inl (by kernel_rfl))) (SSs_cons (SS_if (ST_cmp (SE_sub (SE_sub (SE_cell (i := 0) (c := L+1) he (by kernel_rfl) (by kernel_rfl) (by kernel_rfl) (by kernel_rfl)) (SE_local (i := 7) he (by kernel_rfl) (by kernel_rfl) (by kernel_rfl)) rfl) SE_int rfl) (SE_local (i := 4) he (by kernel_rfl) (by kernel_rfl) (by kernel_rfl)) (by kernel_rfl)) (SSs_cons (SS_expr (SE_remove (SE_local (i := 2) he (by kernel_rfl) (by kernel_rfl) (by kernel_rfl)) (SE_local (i := 7) he (by kernel_rfl) (by kernel_rfl) (by kernel_rfl)) rfl (by kernel_rfl) rfl) (by kernel_rfl) (by kernel_rfl))
    (SSs_cons (SS_expr (SE_append (SE_local (i := 5) he (by kernel_rfl) (by kernel_rfl) (by kernel_rfl)) (SE_sub (SE_local (i := 3) he (by kernel_rfl) (by kernel_rfl) (by kernel_rfl)) (SE_local (i := 7) he (by kernel_rfl) (by kernel_rfl) (by kernel_rfl)) rfl) rfl (by kernel_rfl) rfl) (by kernel_rfl) (by kernel_rfl))
    SSs_nil)) SSs_nil)
    SSs_nil) (fun _ => rfl) (.inl fun _ _ => rfl))
    (SSs_cons (SS_if (ST_val (SE_local (i := 5) he (by kernel_rfl) (by kernel_rfl) (by kernel_rfl)) rfl) (SSs_cons (SS_assign (SE_pop (SE_local (i := 5) he (by kernel_rfl) (by kernel_rfl) (by kernel_rfl)) (by kernel_rfl) rfl) (SA_sub (SE_local (i := 3) he (by kernel_rfl) (by kernel_rfl) (by kernel_rfl)) (SE_local (i := 9) he (by kernel_rfl) (by kernel_rfl) (by kernel_rfl))) rfl (by kernel_rfl) (by kernel_rfl))
    (SSs_cons (SS_expr (SE_append (SE_local (i := 2) he (by kernel_rfl) (by kernel_rfl) (by kernel_rfl)) (SE_local (i := 9) he (by kernel_rfl) (by kernel_rfl) (by kernel_rfl)) rfl (by kernel_rfl) rfl) (by kernel_rfl) (by kernel_rfl))
    (SSs_cons SS_continue
    SSs_nil))) SSs_nil)
    (SSs_cons (SS_assign (SE_local (i := 9) he (by kernel_rfl) (by kernel_rfl) (by kernel_rfl)) (SA_name (i := 6) he hT hF (by kernel_rfl) (.inl (by kernel_rfl))) rfl (by kernel_rfl) (by kernel_rfl))
    (SSs_cons (SS_for (SE_local (i := 2) he (by kernel_rfl) (by kernel_rfl) (by kernel_rfl)) (SA_name (i := 7) he hT hF (by kernel_rfl) (.inl (by kernel_rfl))) (SSs_cons (SS_if (ST_cmp (SE_sub (SE_sub (SE_cell (i := 0) (c := L+1) he (by kernel_rfl) (by kernel_rfl) (by kernel_rfl) (by kernel_rfl)) (SE_local (i := 7) he (by kernel_rfl) (by kernel_rfl) (by kernel_rfl)) rfl) SE_int rfl) (SE_sub (SE_sub (SE_cell (i := 0) (c := L+1) he (by kernel_rfl) (by kernel_rfl) (by kernel_rfl) (by kernel_rfl)) (SE_local (i := 6) he (by kernel_rfl) (by kernel_rfl) (by kernel_rfl)) rfl) SE_int rfl) (by kernel_rfl)) (SSs_cons (SS_assign (SE_local (i := 7) he (by kernel_rfl) (by kernel_rfl) (by kernel_rfl)) (SA_name (i := 6) he hT hF (by kernel_rfl) (.inl (by kernel_rfl))) rfl (by kernel_rfl) (by kernel_rfl))
    SSs_nil) SSs_nil)
    SSs_nil) (fun _ => rfl) (.inl fun _ _ => rfl))
    (SSs_cons (SS_expr (SE_append (SE_local (i := 10) he (by kernel_rfl) (by kernel_rfl) (by kernel_rfl)) (SE_local (i := 6) he (by kernel_rfl) (by kernel_rfl) (by kernel_rfl)) rfl (by kernel_rfl) rfl) (by kernel_rfl) (by kernel_rfl))
    (SSs_cons (SS_if (ST_cmp (SE_local (i := 6) he (by kernel_rfl) (by kernel_rfl) (by kernel_rfl)) (SE_local (i := 9) he (by kernel_rfl) (by kernel_rfl) (by kernel_rfl)) (by kernel_rfl)) (SSs_cons (SS_assign (SE_dpop (SE_local (i := 3) he (by kernel_rfl) (by kernel_rfl) (by kernel_rfl)) (SE_local (i := 6) he (by kernel_rfl) (by kernel_rfl) (by kernel_rfl)) rfl (by kernel_rfl) rfl) (SA_sub (SE_local (i := 3) he (by kernel_rfl) (by kernel_rfl) (by kernel_rfl)) (SE_local (i := 9) he (by kernel_rfl) (by kernel_rfl) (by kernel_rfl))) rfl (by kernel_rfl) (by kernel_rfl))
    (SSs_cons (SS_expr (SE_remove (SE_local (i := 2) he (by kernel_rfl) (by kernel_rfl) (by kernel_rfl)) (SE_local (i := 6) he (by kernel_rfl) (by kernel_rfl) (by kernel_rfl)) rfl (by kernel_rfl) rfl) (by kernel_rfl) (by kernel_rfl))
    (SSs_cons (SS_expr (SE_append (SE_local (i := 2) he (by kernel_rfl) (by kernel_rfl) (by kernel_rfl)) (SE_local (i := 9) he (by kernel_rfl) (by kernel_rfl) (by kernel_rfl)) rfl (by kernel_rfl) rfl) (by kernel_rfl) (by kernel_rfl))
    SSs_nil))) SSs_nil)
    SSs_nil)))))) (fun _ => rfl) (.inr ⟨_, _, _, rfl⟩))
    (SSs_cons (SS_return (SE_tuple (SEL_cons (SE_local (i := 3) he (by kernel_rfl) (by kernel_rfl) (by kernel_rfl)) (SEL_cons (SE_local (i := 10) he (by kernel_rfl) (by kernel_rfl) (by kernel_rfl)) SEL_nil rfl) rfl)))
    SSs_nil)))))))) rfl ?_
  refine ⟨rfl, ?_⟩
  walk_at "s"
  refine it_dict hi fun ep => ?_
  refine len_ok (by simp [rgM]; lia) ?_
  have hfz : (mh.set i (.fz (rgM es) ep))[i]? = some (.fz (rgM es) ep) := get_set_self hi
  rw [show (rgM es).map (fun e => MV.int e.1) = es.map (fun e => MV.int e.1) by simp [rgM]]
  refine compN_ind (f := fun (e : Int × Int × Int) => MV.int e.1) (fun r out m => m = mh.set i (.fz (rgM es) ep) ∧ ∃ done, es = done ++ r ∧ out = (orderP done).map pairM) ?_ ?_ _ _ _ ⟨rfl, [], rfl, rfl⟩
  · rintro out m ⟨rfl, done, hd, rfl⟩
    rw [List.append_nil] at hd
    subst hd
    rw [set_back hi]
    refine .inr ⟨orderP es, get_last, by simpa [orderP] using h5, lexlt_nodup hnd, fun order hperm hsort => ?_⟩
    have hext1 : Ext mh (mh ++ [MO.list ((orderP es).map pairM)] ++ [MO.list (order.map pairM)]) := ((Ext.refl' mh).app _).app _
    have ho1 : (mh ++ [MO.list ((orderP es).map pairM)] ++ [MO.list (order.map pairM)])[(mh ++ [MO.list ((orderP es).map pairM)]).length]? = some (.list (order.map pairM)) := get_last
    have hjo : mh.length ≤ (mh ++ [MO.list ((orderP es).map pairM)]).length := by simp
    generalize (mh ++ [MO.list ((orderP es).map pairM)]).length = jo at ho1 hjo ⊢
    generalize mh ++ [MO.list ((orderP es).map pairM)] ++ [MO.list (order.map pairM)] = m1 at hext1 ho1 ⊢
    have hjo1 : jo < m1.length := (List.getElem?_eq_some_iff.mp ho1).1
    walk_at "s"
    refine tc_range3 (by decide) ?_
    have hrd := range_down c (by lia)
    refine tc_list_range ⟨hrd.1, by rw [show (-1 : Int) = -1 from rfl]; rw [hrd.2]; lia, by rw [hrd.2]; lia⟩ ?_
    rw [range_down_items (by lia)]
    walk_at "s"
    have l1 : (m1 ++ [MO.dict []]).length = m1.length + 1 := by simp
    have l2 : (m1 ++ [MO.dict []] ++ [MO.list []]).length = m1.length + 2 := by simp
    have l3 : (m1 ++ [MO.dict []] ++ [MO.list []] ++ [MO.list []]).length = m1.length + 3 := by simp
    have hd0 : (m1 ++ [MO.dict []] ++ [MO.list []] ++ [MO.list []] ++ [MO.list ((downF c).map .int)])[m1.length]? = some (.dict (intsM [])) := get_app (get_app (get_app get_last))
    have ha0 : (m1 ++ [MO.dict []] ++ [MO.list []] ++ [MO.list []] ++ [MO.list ((downF c).map .int)])[(m1 ++ [MO.dict []]).length]? = some (.list (([] : List Int).map .int)) := get_app (get_app get_last)
    have hs0 : (m1 ++ [MO.dict []] ++ [MO.list []] ++ [MO.list []] ++ [MO.list ((downF c).map .int)])[(m1 ++ [MO.dict []] ++ [MO.list []]).length]? = some (.list (([] : List Int).map .int)) := get_app get_last
    have hf0 : (m1 ++ [MO.dict []] ++ [MO.list []] ++ [MO.list []] ++ [MO.list ((downF c).map .int)])[(m1 ++ [MO.dict []] ++ [MO.list []] ++ [MO.list []]).length]? = some (.list ((downF c).map .int)) := get_last
    have ho0 := get_app (l := [MO.list ((downF c).map .int)]) (get_app (l := [MO.list []]) (get_app (l := [MO.list []]) (get_app (l := [MO.dict []]) ho1)))
    have he0 := (((hext1.app [MO.dict []]).app [MO.list []]).app [MO.list []]).app [MO.list ((downF c).map .int)]
    rw [l1, l2, l3] at *
    generalize hjd : m1.length = jd at *
    generalize hja : jd + 1 = ja at *
    generalize hjs : jd + 2 = js at *
    generalize hjf : jd + 3 = jf at *
    generalize m1 ++ [MO.dict []] ++ [MO.list []] ++ [MO.list []] ++ [MO.list ((downF c).map .int)] = M0 at *
    refine it_list ho0 ?_
    have hpl := hperm.length_eq
    have hol : order.length ≤ 5 := by rw [hpl]; simpa [orderP] using h5
    refine forN_id (f := pairM) (fun rest v m => ∃ st, STurn mh es c order rest i jo jd ja js jf st v m) ?_ ?_ _ _ _ ⟨⟨[], downF c, [], []⟩, ⟨⟨none, none, none, none, rfl⟩, he0, ho0, hd0, ha0, hs0, hf0,
      ⟨0, ⟨List.nodup_nil, (fun _ h => nomatch h), (fun _ h => nomatch h), by simp [downF], Nat.le_refl _, Nat.le_refl _⟩, by simp⟩, rfl, ?_, ?_, fun _ _ h => nomatch h⟩⟩
    · rintro v m ⟨st, T⟩
      obtain ⟨fo, lo, ol, rg, rfl⟩ := T.vars
      have hfold : st = scanF es c order := T.fold
      walk_at "s"
      have := hQ order jd js m hperm hsort T.ext (hfold ▸ T.hd) (hfold ▸ T.hs) (by lia) (by lia) (by lia)
      exact this
    · rintro p rest v m K ⟨st, T⟩ hK
      obtain ⟨fo, lo, ol, rg, rfl⟩ := T.vars
      obtain ⟨done, hinv, hdn⟩ := T.inv
      have hp2 := T.has p List.mem_cons_self
      have hpout := T.out p List.mem_cons_self
      have hnext := hinv.step hp2 hpout
      have hTh := T.ho
      have hTd := T.hd
      have hTa := T.ha
      have hTs := T.hs
      have hTf := T.hf
      have hTe := T.ext
      have hdone : done + 1 + rest.length = order.length := by rw [List.length_cons] at hdn; lia
      have hjam : ja < m.length := (List.getElem?_eq_some_iff.mp hTa).1
      have hjfm : jf < m.length := (List.getElem?_eq_some_iff.mp hTf).1
      have hends : ∀ a ∈ st.act, (es.lookup a).isSome = true := hinv.actes
      have hdls : ∀ a ∈ st.act, (st.dealt.lookup a).isSome = true := hinv.actdl
      have hroom := hinv.room
      have hnd' := List.nodup_cons.mp (show ((p :: rest).map (·.2)).Nodup from T.nd)
      have fin : ∀ (v' : Vars) (m' : MH), (∃ fo lo ol rg, v' = [some (.ref i), some (.int (c : Int)), some (.ref ja), some (.ref jd), fo, some (.ref jf), lo, ol, some (.ref jo), rg, some (.ref js)]) → Ext mh m' → m'[jo]? = some (.list (order.map pairM)) →
          m'[jd]? = some (.dict (intsM (stepS es st p).dealt)) → m'[ja]? = some (.list ((stepS es st p).act.map .int)) → m'[js]? = some (.list ((stepS es st p).sp.map .int)) → m'[jf]? = some (.list ((stepS es st p).free.map .int)) → K v' m' := fun v' m' g1 g2 g3 g4 g5 g6 g7 =>
        hK v' m' ⟨stepS es st p, ⟨g1, g2, g3, g4, g5, g6, g7, ⟨done + 1, hnext, hdone⟩, T.fold, fun q hq => T.has q (List.mem_cons_of_mem _ hq), hnd'.2, fun q hq hm => by
          rcases stepS_act hinv.actnd hm with h | h
          · exact T.out q (List.mem_cons_of_mem _ hq) h
          · exact hnd'.1 (by show p.2 ∈ _; rw [← h]; exact List.mem_map.mpr ⟨q, hq, rfl⟩)⟩⟩
      refine ⟨[.int p.1, .int p.2], rfl, rfl, ?_⟩
      walk_at "s"
      refine sa1 hTa ?_
      refine it_list get_last ?_
      refine forN_id (f := .int) (SIn1 mh es c i ja jd jf jo js p lo st (m ++ [MO.list (st.act.map .int)]))
        ?_ ?_ _ _ _ ⟨(st.act, st.free), ol, rfl, hTe.app _, get_app hTa, get_app hTf, fun _ _ _ => rfl, rfl, fun _ h => h, hinv.actnd, hinv.actnd, fun _ h => h, hroom⟩
      · rintro v' m' ⟨s, ol', rfl, hE, hA, hFr, hJ, hex, _, _, hsn, hss, hsc⟩
        have hs' : expF es p.1 st.dealt st.act (st.act, st.free) = s := hex.symm
        have hO : m'[jo]? = some (.list (order.map pairM)) := (hJ jo (by lia) (by lia)).trans (get_app hTh)
        have hD : m'[jd]? = some (.dict (intsM st.dealt)) := (hJ jd (by lia) (by lia)).trans (get_app hTd)
        have hS : m'[js]? = some (.list (st.sp.map .int)) := (hJ js (by lia) (by lia)).trans (get_app hTs)
        have hst : stepS es st p = (if s.2 = [] then (if lonF es s.1 p.2 = p.2 then { act := s.1, free := s.2, dealt := st.dealt, sp := st.sp ++ [lonF es s.1 p.2] }
            else { act := s.1.erase (lonF es s.1 p.2) ++ [p.2], free := s.2, dealt := putP (delP st.dealt (lonF es s.1 p.2)) p.2 ((st.dealt.lookup (lonF es s.1 p.2)).getD 0), sp := st.sp ++ [lonF es s.1 p.2] })
          else { act := s.1 ++ [p.2], free := s.2.dropLast, dealt := putP st.dealt p.2 (s.2.getLastD 0), sp := st.sp }) := by
          unfold stepS
          rw [hs']
        have hdlen : (intsM st.dealt).length < 4096 := by have := hinv.dlen; simp [intsM]; lia
        have hslen : (st.sp.map MV.int).length < 4096 := by have := hinv.splen; simp; lia
        walk_at "s"
        refine tr_list hFr ?_
        by_cases hf : s.2 = []
        · rw [if_pos hf] at hst
          refine if_f (by rw [hf]; rfl) ?_
          walk_at "s"
          refine it_list hA ?_
          refine forN_id (f := .int) (SIn2 es c i ja jd jf jo js p s.1 m') ?_ ?_ _ _ _ ⟨rfl, p.2, ol', rfl, rfl, .inl rfl, fun _ h => h⟩
          · rintro v'' m'' ⟨rfl, l, ol'', rfl, hl, hlm, _⟩
            have hl : l = lonF es s.1 p.2 := hl
            rw [← hl] at hst
            walk_at "s"
            refine ap1 hS ?_
            walk_at "s"
            refine ap2 hS hslen rfl ?_
            walk_at "s"
            refine ⟨_, ne_int, ?_⟩
            by_cases hlp : l = p.2
            · rw [if_pos hlp] at hst
              refine if_f (by rw [hlp]; simp) ?_
              walk_at "s"
              refine ⟨get_ne (by lia) hO, ?_⟩
              walk_at "s"
              refine fin _ _ ⟨_, _, _, _, rfl⟩ (hE.set (by have := hext1.len; lia) _) (get_ne (by lia) hO) ?_ ?_ ?_ ?_
              · rw [get_set_ne (by lia), hst]; exact hD
              · rw [get_set_ne (by lia), hst]; exact hA
              · rw [get_set_self hS, hst]; simp
              · rw [get_set_ne (by lia), hst]; exact hFr
            · rw [if_neg hlp] at hst
              have hlm' : l ∈ s.1 := by
                rcases hlm with h | h
                · exact absurd h hlp
                · exact h
              refine if_t (by rw [show (l == p.2) = false from beq_eq_false_iff_ne.mpr hlp]; rfl) ?_
              obtain ⟨w, hw⟩ := Option.isSome_iff_exists.mp (hdls l (hss l hlm'))
              rw [hw] at hst
              walk_at "s"
              refine dg1 (get_ne (by lia) hD) ?_
              walk_at "s"
              refine dp2 (get_ne (by lia) hD) (by rw [look_ints, hw]; rfl) ?_
              rw [del_map]
              walk_at "s"
              have hD2 : ((m'.set js (.list (st.sp.map .int ++ [.int l]))).set jd (.dict (intsM (delP st.dealt l))))[jd]? = some (.dict (intsM (delP st.dealt l))) := get_set_self (get_ne (by lia) hD)
              have hdl2 : (delP st.dealt l).length ≤ st.dealt.length := List.length_filter_le _ _
              refine set_dict hD2 (by have := hinv.dlen; simp [intsM]; lia) ?_
              rw [put_ints]
              walk_at "s"
              refine rm1 (get_ne (by lia) (get_ne (by lia) (get_ne (by lia) hA))) ?_
              walk_at "s"
              refine rm2 (ns := s.1) (get_ne (by lia) (get_ne (by lia) (get_ne (by lia) hA))) hlm' ?_
              walk_at "s"
              have hA2 : ((((m'.set js (.list (st.sp.map .int ++ [.int l]))).set jd (.dict (intsM (delP st.dealt l)))).set jd (.dict (intsM (putP (delP st.dealt l) p.2 w)))).set ja (.list ((s.1.erase l).map .int)))[ja]? = some (.list ((s.1.erase l).map .int)) :=
                get_set_self (get_ne (by lia) (get_ne (by lia) (get_ne (by lia) hA)))
              refine ap1 hA2 ?_
              walk_at "s"
              refine ap2 hA2 (by have := List.length_erase_le (a := l) (l := s.1); simp; lia) rfl ?_
              walk_at "s"
              refine ⟨get_ne (by lia) (get_ne (by lia) (get_ne (by lia) (get_ne (by lia) (get_ne (by lia) hO)))), ?_⟩
              walk_at "s"
              refine fin _ _ ⟨_, _, _, _, rfl⟩ (((((hE.set (by have := hext1.len; lia) _).set (by have := hext1.len; lia) _).set (by have := hext1.len; lia) _).set (by have := hext1.len; lia) _).set (by have := hext1.len; lia) _) ?_ ?_ ?_ ?_ ?_
              · exact get_ne (by lia) (get_ne (by lia) (get_ne (by lia) (get_ne (by lia) (get_ne (by lia) hO))))
              · rw [get_set_ne (by lia), get_set_ne (by lia), get_set_self hD2, hst]; rfl
              · rw [get_set_self hA2, hst]; simp
              · rw [get_set_ne (by lia), get_set_ne (by lia), get_set_ne (by lia), get_set_ne (by lia), get_set_self hS, hst]; simp
              · rw [get_set_ne (by lia), get_set_ne (by lia), get_set_ne (by lia), get_set_ne (by lia), get_set_ne (by lia), hst]; exact hFr
          · rintro o r v'' m'' K2 ⟨rfl, l, ol'', rfl, hl, hlm, hsub⟩ hK2
            have ho := hsub o List.mem_cons_self
            have hles : (es.lookup l).isSome = true := by
              rcases hlm with rfl | h
              · exact hp2
              · exact hends l (hss l h)
            walk_at "s"
            refine g_rg (hE.get hi) (hends o (hss o ho)) fun q1 hq1 => ?_
            unfold pairM
            walk_at "s"
            refine g_rg (hE.get hi) hles fun q2 hq2 => ?_
            unfold pairM
            walk_at "s"
            have e1 := endOf_of hq1
            have e2 := endOf_of hq2
            rw [show lonF es (o :: r) l = lonF es r (if endOf es l < endOf es o then o else l) from rfl] at hl
            by_cases hlt : endOf es l < endOf es o
            · rw [if_pos hlt] at hl
              refine cmp_t (gt_t (by lia)) ?_
              walk_at "s"
              refine ⟨hA, ?_⟩
              walk_at "s"
              exact hK2 _ _ ⟨rfl, o, _, rfl, hl, .inr ho, fun x hx => hsub x (List.mem_cons_of_mem _ hx)⟩
            · rw [if_neg hlt] at hl
              refine cmp_f (gt_f (by lia)) ?_
              walk_at "s"
              refine ⟨hA, ?_⟩
              walk_at "s"
              exact hK2 _ _ ⟨rfl, l, _, rfl, hl, hlm, fun x hx => hsub x (List.mem_cons_of_mem _ hx)⟩
        · rw [if_neg hf] at hst
          obtain ⟨fr, lst, hfl⟩ : ∃ fr lst, s.2 = fr ++ [lst] := ⟨s.2.dropLast, s.2.getLast hf, (List.dropLast_concat_getLast hf).symm⟩
          have hfl' : s.2.map MV.int = fr.map .int ++ [.int lst] := by rw [hfl]; simp
          rw [hfl] at hst
          rw [hfl'] at hFr
          refine if_t (by rw [hfl]; simp) ?_
          walk_at "s"
          refine pp1 hFr ?_
          walk_at "s"
          refine set_dict (get_ne (by lia) hD) hdlen ?_
          rw [put_ints]
          walk_at "s"
          refine ap1 (get_ne (by lia) (get_ne (by lia) hA)) ?_
          walk_at "s"
          refine ap2 (xs := s.1.map .int) (get_ne (by lia) (get_ne (by lia) hA)) (by rw [List.length_map]; lia) rfl ?_
          walk_at "s"
          refine ⟨get_ne (by lia) (get_ne (by lia) (get_ne (by lia) hO)), ?_⟩
          walk_at "s"
          refine fin _ _ ⟨_, _, _, _, rfl⟩ (((hE.set (by have := hext1.len; lia) _).set (by have := hext1.len; lia) _).set (by have := hext1.len; lia) _) ?_ ?_ ?_ ?_ ?_
          · exact get_ne (by lia) (get_ne (by lia) (get_ne (by lia) hO))
          · rw [get_set_ne (by lia), get_set_self (get_ne (by lia) hD), hst]; simp
          · rw [get_set_self (get_ne (by lia) (get_ne (by lia) hA)), hst]; simp
          · rw [get_set_ne (by lia), get_set_ne (by lia), get_set_ne (by lia), hst]; exact hS
          · rw [get_set_ne (by lia), get_set_ne (by lia), get_set_self hFr, hst]; simp
      · rintro o r v' m' K2 ⟨s, ol', rfl, hE, hA, hFr, hJ, hex, hsub, hrn, hsn, hss, hsc⟩ hK2
        have ho := hsub o List.mem_cons_self
        have hoact := hss o ho
        have hD : m'[jd]? = some (.dict (intsM st.dealt)) := (hJ jd (by lia) (by lia)).trans (get_app hTd)
        have hcopy : m'[m.length]? = some (.list (st.act.map .int)) := (hJ m.length (by lia) (by lia)).trans get_last
        obtain ⟨hor, hrn'⟩ := List.nodup_cons.mp hrn
        walk_at "s"
        refine g_rg (hE.get hi) (hends o hoact) fun q1 hq1 => ?_
        unfold pairM
        walk_at "s"
        have e1 := endOf_of hq1
        rw [show expF es p.1 st.dealt (o :: r) s = expF es p.1 st.dealt r (if endOf es o < p.1 then (s.1.erase o, s.2 ++ [(st.dealt.lookup o).getD 0]) else s) from rfl] at hex
        by_cases hlt : endOf es o < p.1
        · rw [if_pos hlt] at hex
          refine cmp_t (lt_t (by lia)) ?_
          obtain ⟨w, hw⟩ := Option.isSome_iff_exists.mp (hdls o hoact)
          rw [hw] at hex
          walk_at "s"
          refine rm1 hA ?_
          walk_at "s"
          refine rm2 (ns := s.1) hA ho ?_
          walk_at "s"
          refine ap1 (get_ne (by lia) hFr) ?_
          walk_at "s"
          refine g_dict (get_ne (by lia) hD) (by rw [look_ints, hw]; rfl) ?_
          refine ap2 (xs := s.2.map .int) (get_ne (by lia) hFr) (by rw [List.length_map]; lia) rfl ?_
          walk_at "s"
          refine ⟨get_ne (by lia) (get_ne (by lia) hcopy), ?_⟩
          walk_at "s"
          have hpos : 0 < s.1.length := List.length_pos_of_mem ho
          refine hK2 _ _ ⟨(s.1.erase o, s.2 ++ [w]), _, rfl, (hE.set (by have := hext1.len; lia) _).set (by lia) _, ?_, ?_, ?_, hex, ?_, hrn', hsn.erase o, fun x hx => hss x (List.mem_of_mem_erase hx), ?_⟩
          · rw [get_set_ne (by lia), get_set_self hA]
          · rw [get_set_self (get_ne (by lia) hFr)]; simp
          · intro j h1 h2
            rw [get_set_ne (Ne.symm h2), get_set_ne (Ne.symm h1)]
            exact hJ j h1 h2
          · intro x hx
            exact (List.mem_erase_of_ne fun e => hor (by rw [← e]; exact hx)).mpr (hsub x (List.mem_cons_of_mem _ hx))
          · rw [List.length_append, List.length_singleton, List.length_erase_of_mem ho]; lia
        · rw [if_neg hlt] at hex
          refine cmp_f (lt_f (by lia)) ?_
          walk_at "s"
          refine ⟨hcopy, ?_⟩
          walk_at "s"
          exact hK2 _ _ ⟨s, _, rfl, hE, hA, hFr, hJ, hex, fun x hx => hsub x (List.mem_cons_of_mem _ hx), hrn', hsn, hss, hsc⟩
    · intro p hp
      have := hperm.mem_iff.mp hp
      obtain ⟨e, he, rfl⟩ := List.mem_map.mp this
      obtain ⟨s, t, rfl⟩ := List.append_of_mem he
      rw [lookup_mid hnd]; rfl
    · have h1 : (order.map (·.2)).Perm ((orderP es).map (·.2)) := hperm.map _
      refine h1.nodup_iff.mpr ?_
      have : (orderP es).map (·.2) = es.map (·.1) := by simp [orderP]
      rw [this]; exact hnd
  · rintro e r out m K ⟨rfl, done, rfl, rfl⟩ hK
    have hlk : (done ++ e :: r).lookup e.1 = some e.2 := lookup_mid hnd
    refine st_t ?_
    walk_at "s"
    refine g_fz hfz (by rw [look_rg, hlk]; rfl) ?_
    unfold pairM
    walk_at "s"
    refine ⟨hfz, hK _ _ ⟨rfl, done ++ [e], by simp, ?_⟩⟩
    simp [orderP, pairM]
structure PSt where
  map : List (Int × Int)
  out : List Op
  used : Int

noncomputable def preF (dealt cells : List (Int × Int)) (scratch : Int) (s : PSt) (r : Int) : PSt :=
  match cells.lookup r with
  | some c => { map := putP s.map r (scratch + s.used), out := s.out ++ [.fetch (scratch + s.used) c], used := s.used + 1 }
  | none => { map := putP s.map r ((dealt.lookup r).getD 0), out := s.out, used := s.used }

noncomputable def freshF (dealt cells : List (Int × Int)) (scratch : Int) (op : Op) : PSt × Op :=
  let s := (distinctF (reads op) []).foldl (preF dealt cells scratch) ⟨[], [], 0⟩
  (s, mapReads (fun x => (s.map.lookup x).getD x) op)

noncomputable def spreadF (dealt cells : List (Int × Int)) (scratch : Int) (op : Op) : List Op :=
  let s := freshF dealt cells scratch op
  if writes op < 0 then s.1.out ++ [s.2]
  else match cells.lookup (writes op) with
    | none => s.1.out ++ [setWrite s.2 ((dealt.lookup (writes op)).getD 0)]
    | some c => s.1.out ++ [setWrite s.2 scratch, .keep c scratch]

theorem writes_mapReads (f : Int → Int) (op : Op) : writes (mapReads f op) = writes op := by cases op <;> rfl

theorem g_ints {m : MH} {i : Nat} {d : List (Int × Int)} {r : Int} {R : MV → Prop} (h : m[i]? = some (.dict (intsM d))) (hr : (d.lookup r).isSome = true) (q : R (.int ((d.lookup r).getD 0))) : ∃ x, getM m (.ref i) (.int r) = some x ∧ R x := by
  obtain ⟨p, hp⟩ := Option.isSome_iff_exists.mp hr
  rw [hp] at q
  exact g_dict h (by rw [look_ints, hp]; rfl) q

theorem in_ints {m : MH} {i : Nat} {x : Int} {d : List (Int × Int)} (h : m[i]? = some (.dict (intsM d))) : cmpM .In (.int x) (.ref i) m = some (d.lookup x).isSome := by
  rw [in_dict h, look_ints]; cases d.lookup x <;> rfl
theorem notin_ints {m : MH} {i : Nat} {x : Int} {d : List (Int × Int)} (h : m[i]? = some (.dict (intsM d))) : cmpM .NotIn (.int x) (.ref i) m = some (!(d.lookup x).isSome) := by
  rw [notin_dict h, look_ints]; cases d.lookup x <;> rfl

theorem distinct_mem {x : Int} : ∀ (l out : List Int), x ∈ distinctF l out → x ∈ l ∨ x ∈ out
  | [], out, h => .inr h
  | r :: rs, out, h => by
    unfold distinctF at h
    rcases distinct_mem rs _ h with q | q
    · exact .inl (List.mem_cons_of_mem _ q)
    · split at q
      · exact .inr q
      · rcases List.mem_append.mp q with q | q
        · exact .inr q
        · rw [List.mem_singleton.mp q]; exact .inl List.mem_cons_self

inductive SpI (mh : MH) (op : Op) (dealt cells : List (Int × Int)) (sc : Int) (id ic jm jo jl : Nat) (rest : List Int) (v : Vars) (m : MH) : Prop
  | mk (s : PSt) (rg : Option MV) (h1 : v = [some (opM op), some (.ref id), some (.ref ic), some (.int sc), none, none, some (.ref jm), some (.ref jo), rg, some (.int s.used)]) (h2 : Ext mh m) (h3 : m[jm]? = some (.dict (intsM s.map))) (h4 : m[jo]? = some (.list (s.out.map opM))) (h5 : m[jl]? = some (.list ((distinctF (reads op) []).map .int)))
    (h6 : rest.foldl (preF dealt cells sc) s = (freshF dealt cells sc op).1) (h7 : ∀ r ∈ rest, r ∈ reads op) (h8 : s.map.length + rest.length ≤ 10) (h9 : s.out.length + rest.length ≤ 10)

theorem c_spread {C : Cx} (H : Hyp C) {k id ic : Nat} {op : Op} {dealt cells : List (Int × Int)} {sc : Int} {Q : MV → MH → Prop} {mh : MH} (hd : mh[id]? = some (.dict (intsM dealt))) (hc : mh[ic]? = some (.dict (intsM cells))) (hop : okRet op)
    (hr : ∀ r ∈ here op, (cells.lookup r).isSome = true ∨ (dealt.lookup r).isSome = true)
    (hQ : ∀ m j, Ext mh m → mh.length ≤ j → m[j]? = some (.list ((spreadF dealt cells sc op).map opM)) → Q (.ref j) m) : CallR C (k + 3) "spread" [opM op, .ref id, .ref ic, .int sc] Q mh := by
  refine call_own H.f_spread ["op", "dealt", "cells", "scratch", "fresh", "made", "mapping", "out", "register", "used"] (sok_mk (by kernel_rfl)) 6 (fun L qual code hF => have he := eok_fenv (L := L) (qual := qual) (fa := C.fa "spread") (code := code) (sc := scopeAt 26) (by kernel_rfl); have hT := tok_of ["op", "dealt", "cells", "scratch", "fresh", "made", "mapping", "out", "register", "used"];
   (SSs_cons (SS_assign (SE_dict0 H.sys) (SA_name (i := 6) he hT hF (by kernel_rfl) (.inl (by kernel_rfl))) rfl (by kernel_rfl) (by kernel_rfl))
    (SSs_cons (SS_assign (SE_list SEL_nil) (SA_name (i := 7) he hT hF (by kernel_rfl) (.inl (by kernel_rfl))) rfl (by kernel_rfl) (by kernel_rfl))
    (SSs_cons (SS_assign SE_int (SA_name (i := 9) he hT hF (by kernel_rfl) (.inl (by kernel_rfl))) rfl (by kernel_rfl) (by kernel_rfl))
    (SSs_cons (SS_for (SE_call he (by kernel_rfl) (by kernel_rfl) H.f_distinct.at (SEL_cons (SE_call he (by kernel_rfl) (by kernel_rfl) H.f_reads_of.at (SEL_cons (SE_local (i := 0) he (by kernel_rfl) (by kernel_rfl) (by kernel_rfl)) SEL_nil rfl) rfl) SEL_nil rfl) rfl) (SA_name (i := 8) he hT hF (by kernel_rfl) (.inl (by kernel_rfl))) (SSs_cons (SS_if (ST_cmp (SE_local (i := 8) he (by kernel_rfl) (by kernel_rfl) (by kernel_rfl)) (SE_local (i := 2) he (by kernel_rfl) (by kernel_rfl) (by kernel_rfl)) (by kernel_rfl)) (SSs_cons (SS_assign (SE_binop (SE_local (i := 3) he (by kernel_rfl) (by kernel_rfl) (by kernel_rfl)) (SE_local (i := 9) he (by kernel_rfl) (by kernel_rfl) (by kernel_rfl))) (SA_sub (SE_local (i := 6) he (by kernel_rfl) (by kernel_rfl) (by kernel_rfl)) (SE_local (i := 8) he (by kernel_rfl) (by kernel_rfl) (by kernel_rfl))) rfl (by kernel_rfl) (by kernel_rfl))
    (SSs_cons (SS_expr (SE_append (SE_local (i := 7) he (by kernel_rfl) (by kernel_rfl) (by kernel_rfl)) (SE_tuple (SEL_cons SE_str (SEL_cons (SE_binop (SE_local (i := 3) he (by kernel_rfl) (by kernel_rfl) (by kernel_rfl)) (SE_local (i := 9) he (by kernel_rfl) (by kernel_rfl) (by kernel_rfl))) (SEL_cons (SE_sub (SE_local (i := 2) he (by kernel_rfl) (by kernel_rfl) (by kernel_rfl)) (SE_local (i := 8) he (by kernel_rfl) (by kernel_rfl) (by kernel_rfl)) rfl) SEL_nil rfl) rfl) rfl)) rfl (by kernel_rfl) rfl) (by kernel_rfl) (by kernel_rfl))
    (SSs_cons (SS_augName (i := 9) he hT hF (by kernel_rfl) (.inl (by kernel_rfl)) (SN_local (i := 9) he (by kernel_rfl) (by kernel_rfl)) SE_int)
    SSs_nil))) (SSs_cons (SS_assign (SE_sub (SE_local (i := 1) he (by kernel_rfl) (by kernel_rfl) (by kernel_rfl)) (SE_local (i := 8) he (by kernel_rfl) (by kernel_rfl) (by kernel_rfl)) rfl) (SA_sub (SE_local (i := 6) he (by kernel_rfl) (by kernel_rfl) (by kernel_rfl)) (SE_local (i := 8) he (by kernel_rfl) (by kernel_rfl) (by kernel_rfl))) rfl (by kernel_rfl) (by kernel_rfl))
    SSs_nil))
    SSs_nil) (fun _ => rfl) (.inl fun _ _ => rfl))
    (SSs_cons (SS_assign (SE_call he (by kernel_rfl) (by kernel_rfl) H.f_writes_of.at (SEL_cons (SE_local (i := 0) he (by kernel_rfl) (by kernel_rfl) (by kernel_rfl)) SEL_nil rfl) rfl) (SA_name (i := 5) he hT hF (by kernel_rfl) (.inl (by kernel_rfl))) rfl (by kernel_rfl) (by kernel_rfl))
    (SSs_cons (SS_assign (SE_call he (by kernel_rfl) (by kernel_rfl) H.f_with_reads.at (SEL_cons (SE_local (i := 0) he (by kernel_rfl) (by kernel_rfl) (by kernel_rfl)) (SEL_cons (SE_local (i := 6) he (by kernel_rfl) (by kernel_rfl) (by kernel_rfl)) SEL_nil rfl) rfl) rfl) (SA_name (i := 4) he hT hF (by kernel_rfl) (.inl (by kernel_rfl))) rfl (by kernel_rfl) (by kernel_rfl))
    (SSs_cons (SS_if (ST_cmp (SE_local (i := 5) he (by kernel_rfl) (by kernel_rfl) (by kernel_rfl)) SE_int (by kernel_rfl)) (SSs_cons (SS_return (SE_binop (SE_local (i := 7) he (by kernel_rfl) (by kernel_rfl) (by kernel_rfl)) (SE_list (SEL_cons (SE_local (i := 4) he (by kernel_rfl) (by kernel_rfl) (by kernel_rfl)) SEL_nil rfl))))
    SSs_nil) SSs_nil)
    (SSs_cons (SS_if (ST_cmp (SE_local (i := 5) he (by kernel_rfl) (by kernel_rfl) (by kernel_rfl)) (SE_local (i := 2) he (by kernel_rfl) (by kernel_rfl) (by kernel_rfl)) (by kernel_rfl)) (SSs_cons (SS_return (SE_binop (SE_local (i := 7) he (by kernel_rfl) (by kernel_rfl) (by kernel_rfl)) (SE_list (SEL_cons (SE_call he (by kernel_rfl) (by kernel_rfl) H.f_with_write.at (SEL_cons (SE_local (i := 4) he (by kernel_rfl) (by kernel_rfl) (by kernel_rfl)) (SEL_cons (SE_sub (SE_local (i := 1) he (by kernel_rfl) (by kernel_rfl) (by kernel_rfl)) (SE_local (i := 5) he (by kernel_rfl) (by kernel_rfl) (by kernel_rfl)) rfl) SEL_nil rfl) rfl) rfl) SEL_nil rfl))))
    SSs_nil) SSs_nil)
    (SSs_cons (SS_return (SE_binop (SE_local (i := 7) he (by kernel_rfl) (by kernel_rfl) (by kernel_rfl)) (SE_list (SEL_cons (SE_call he (by kernel_rfl) (by kernel_rfl) H.f_with_write.at (SEL_cons (SE_local (i := 4) he (by kernel_rfl) (by kernel_rfl) (by kernel_rfl)) (SEL_cons (SE_local (i := 3) he (by kernel_rfl) (by kernel_rfl) (by kernel_rfl)) SEL_nil rfl) rfl) rfl) (SEL_cons (SE_tuple (SEL_cons SE_str (SEL_cons (SE_sub (SE_local (i := 2) he (by kernel_rfl) (by kernel_rfl) (by kernel_rfl)) (SE_local (i := 5) he (by kernel_rfl) (by kernel_rfl) (by kernel_rfl)) rfl) (SEL_cons (SE_local (i := 3) he (by kernel_rfl) (by kernel_rfl) (by kernel_rfl)) SEL_nil rfl) rfl) rfl)) SEL_nil rfl) rfl))))
    SSs_nil)))))))))) rfl ?_
  walk_at "s"
  have l1 : (mh ++ [MO.dict []]).length = mh.length + 1 := by simp
  refine c_reads_of H hop ?_
  refine c_distinct H get_last (by have := reads_len op; lia) ?_
  have hmp : (mh ++ [MO.dict []] ++ [MO.list []] ++ [MO.list ((reads op).map .int)] ++ [MO.list ((distinctF (reads op) []).map .int)])[mh.length]? = some (.dict (intsM [])) := get_app (get_app (get_app get_last))
  have hou : (mh ++ [MO.dict []] ++ [MO.list []] ++ [MO.list ((reads op).map .int)] ++ [MO.list ((distinctF (reads op) []).map .int)])[(mh ++ [MO.dict []]).length]? = some (.list (([] : List Op).map opM)) := get_app (get_app get_last)
  have hdi : (mh ++ [MO.dict []] ++ [MO.list []] ++ [MO.list ((reads op).map .int)] ++ [MO.list ((distinctF (reads op) []).map .int)])[(mh ++ [MO.dict []] ++ [MO.list []] ++ [MO.list ((reads op).map .int)]).length]? = some (.list ((distinctF (reads op) []).map .int)) := get_last
  have hex : Ext mh (mh ++ [MO.dict []] ++ [MO.list []] ++ [MO.list ((reads op).map .int)] ++ [MO.list ((distinctF (reads op) []).map .int)]) := ((((Ext.refl' mh).app _).app _).app _).app _
  have l3 : (mh ++ [MO.dict []] ++ [MO.list []] ++ [MO.list ((reads op).map .int)]).length = mh.length + 3 := by simp
  rw [l1] at hou ⊢
  rw [l3] at hdi ⊢
  clear l1 l3
  generalize hjm : mh.length = jm at *
  generalize hjo : jm + 1 = jo at *
  generalize hjl : jm + 3 = jl at *
  generalize mh ++ [MO.dict []] ++ [MO.list []] ++ [MO.list ((reads op).map .int)] ++ [MO.list ((distinctF (reads op) []).map .int)] = M0 at *
  refine it_list hdi ?_
  have hreads : ∀ x ∈ distinctF (reads op) [], x ∈ reads op := fun x hx => by
    rcases distinct_mem _ _ hx with h | h
    · exact h
    · cases h
  refine forN_id (f := .int) (SpI mh op dealt cells sc id ic jm jo jl) ?_ ?_ _ _ _
    ⟨⟨[], [], 0⟩, none, rfl, hex, hmp, hou, hdi, rfl, hreads, by have := distinct_len (reads op) []; have := reads_len op; simp at *; lia, by have := distinct_len (reads op) []; have := reads_len op; simp at *; lia⟩
  · rintro v m ⟨s, rg, rfl, hE, hM, hO, hL, hfold, _, _, hol⟩
    have hfold : s = (freshF dealt cells sc op).1 := hfold
    walk_at "s"
    refine c_writes_of H ?_
    walk_at "s"
    refine c_with_reads H hM fun o => ?_
    have hfr : mapReads (fun x => (s.map.lookup x).getD x) op = (freshF dealt cells sc op).2 := by rw [hfold]; rfl
    rw [hfr]
    have hwf : writes (freshF dealt cells sc op).2 = writes op := writes_mapReads _ _
    have hfin : ∀ ys, spreadF dealt cells sc op = s.out ++ ys → ∀ m' , Ext mh m' → (∀ j, m'[j]? = some (.list ((s.out ++ ys).map opM)) → mh.length ≤ j → Q (.ref j) m') := fun ys hy m' he j hj hl => hQ m' j he (by lia) (by rw [hy]; exact hj)
    unfold spreadF at hfin
    simp only at hfin
    rw [← hfold] at hfin
    generalize (freshF dealt cells sc op).2 = fr at *
    walk_at "s"
    by_cases hw : writes op < 0
    · rw [if_pos hw] at hfin
      refine cmp_t (lt_t hw) ?_
      walk_at "s"
      refine b_lists (get_app (get_app hO)) get_last (by simp at hol ⊢; lia) ?_
      walk_at "s"
      exact hfin [fr] rfl _ (((hE.app _).app _).app _) _ (by rw [List.map_append]; exact get_last) (by simp; have := hE.len; lia)
    · rw [if_neg hw] at hfin
      refine cmp_f (lt_f (by lia)) ?_
      walk_at "s"
      refine ⟨_, notin_ints (get_app (hE.get hc)), ?_⟩
      have hhere : writes op ∈ here op := by unfold here; rw [if_pos (by lia)]; simp
      cases hcl : cells.lookup (writes op) with
      | none =>
        rw [hcl] at hfin
        refine st_t ?_
        have hdl : (dealt.lookup (writes op)).isSome = true := by
          rcases hr _ hhere with h | h
          · rw [hcl] at h; cases h
          · exact h
        walk_at "s"
        refine g_ints (get_app (hE.get hd)) hdl ?_
        refine c_with_write H (by rw [hwf]; lia) ?_
        walk_at "s"
        refine b_lists (get_app (get_app hO)) get_last (by simp at hol ⊢; lia) ?_
        walk_at "s"
        exact hfin _ rfl _ (((hE.app _).app _).app _) _ (by rw [List.map_append]; exact get_last) (by simp; have := hE.len; lia)
      | some c =>
        rw [hcl] at hfin
        refine st_f ?_
        walk_at "s"
        refine c_with_write H (by rw [hwf]; lia) ?_
        walk_at "s"
        refine g_ints (get_app (hE.get hc)) (by rw [hcl]; rfl) ?_
        rw [hcl]
        walk_at "s"
        refine b_lists (get_app (get_app hO)) get_last (by simp at hol ⊢; lia) ?_
        walk_at "s"
        exact hfin _ rfl _ (((hE.app _).app _).app _) _ (by rw [List.map_append]; exact get_last) (by simp; have := hE.len; lia)
  · rintro r rest v m K ⟨s, rg, rfl, hE, hM, hO, hL, hfold, hsub, hml, hol⟩ hK
    have hrm := hsub r List.mem_cons_self
    have hrh : r ∈ here op := by unfold here; exact List.mem_append_left _ hrm
    rw [List.length_cons] at hml hol
    walk_at "s"
    refine ⟨_, in_ints (hE.get hc), ?_⟩
    have hstep : rest.foldl (preF dealt cells sc) (preF dealt cells sc s r) = (freshF dealt cells sc op).1 := hfold
    have hicl : ic < mh.length := (List.getElem?_eq_some_iff.mp hc).1
    cases hcl : cells.lookup r with
    | none =>
      have hpre : preF dealt cells sc s r = { map := putP s.map r ((dealt.lookup r).getD 0), out := s.out, used := s.used } := by unfold preF; rw [hcl]
      rw [hpre] at hstep
      refine st_f ?_
      have hdl : (dealt.lookup r).isSome = true := by
        rcases hr _ hrh with h | h
        · rw [hcl] at h; cases h
        · exact h
      walk_at "s"
      refine g_ints (hE.get hd) hdl ?_
      walk_at "s"
      refine set_dict hM (by simp [intsM]; lia) ?_
      rw [put_ints]
      walk_at "s"
      refine ⟨get_ne (by lia) hL, ?_⟩
      walk_at "s"
      refine hK _ _ ⟨{ map := putP s.map r ((dealt.lookup r).getD 0), out := s.out, used := s.used }, _, rfl, hE.set (by lia) _, get_set_self hM, get_ne (by lia) hO, get_ne (by lia) hL, hstep, fun x hx => hsub x (List.mem_cons_of_mem _ hx), ?_, by show s.out.length + _ ≤ _; lia⟩
      have := putP_length s.map r ((dealt.lookup r).getD 0)
      show (putP s.map r _).length + _ ≤ _
      lia
    | some c =>
      have hpre : preF dealt cells sc s r = { map := putP s.map r (sc + s.used), out := s.out ++ [.fetch (sc + s.used) c], used := s.used + 1 } := by unfold preF; rw [hcl]
      rw [hpre] at hstep
      refine st_t ?_
      walk_at "s"
      refine set_dict hM (by simp [intsM]; lia) ?_
      rw [put_ints]
      walk_at "s"
      refine ap1 (get_ne (by lia) hO) ?_
      walk_at "s"
      refine g_ints (get_ne (by lia) (hE.get hc)) (by rw [hcl]; rfl) ?_
      rw [hcl]
      walk_at "s"
      refine ap2 (xs := s.out.map opM) (get_ne (by lia) hO) (by simp; lia) rfl ?_
      walk_at "s"
      refine ⟨get_ne (by lia) (get_ne (by lia) hL), ?_⟩
      walk_at "s"
      refine hK _ _ ⟨{ map := putP s.map r (sc + s.used), out := s.out ++ [.fetch (sc + s.used) c], used := s.used + 1 }, _, rfl, (hE.set (by lia) _).set (by lia) _, get_ne (by lia) (get_set_self hM), ?_, get_ne (by lia) (get_ne (by lia) hL), hstep, fun x hx => hsub x (List.mem_cons_of_mem _ hx), ?_, ?_⟩
      · rw [get_set_self (get_ne (by lia) hO)]; simp [opM]
      · have := putP_length s.map r (sc + s.used)
        show (putP s.map r _).length + _ ≤ _
        lia
      · show (s.out ++ [_]).length + _ ≤ _
        rw [List.length_append, List.length_singleton]; lia
noncomputable def drumM (ip : Nat) (t : Int) : MO := .sdict [("pins", .ref ip), ("turns", .int t)]
noncomputable def knobF (pins : List Int) (t : Nat) (many : Int) : Int := if t < pins.length then (pins.getD t 0).fmod many else (((5 * ((t : Int) + 1) + 3) * ((t : Int) + 1) + 1).fdiv 2).fmod many

theorem g_turns {m : MH} {id ip : Nat} {t : Int} {R : MV → Prop} (h : m[id]? = some (drumM ip t)) (q : R (.int t)) : ∃ r, getM m (.ref id) (.str "turns") = some r ∧ R r := g_sdict h (by kernel_rfl) q
theorem g_pins {m : MH} {id ip : Nat} {t : Int} {R : MV → Prop} (h : m[id]? = some (drumM ip t)) (q : R (.ref ip)) : ∃ r, getM m (.ref id) (.str "pins") = some r ∧ R r := g_sdict h (by kernel_rfl) q
theorem set_turns {m : MH} {id ip : Nat} {t u : Int} {R : MH → Prop} (h : m[id]? = some (drumM ip t)) (q : R (m.set id (drumM ip u))) : ∃ m3, setM m (.ref id) (.str "turns") (.int u) = some m3 ∧ R m3 := by
  refine set_sdict h (by simp) ?_
  have e : put [(("pins" : Str), MV.ref ip), ("turns", .int t)] "turns" (.int u) = [(("pins" : Str), MV.ref ip), ("turns", .int u)] := by kernel_rfl
  rw [e]
  exact q

theorem le_int {a b : Int} {mh} : cmpM .LtE (.int a) (.int b) mh = some (decide (a ≤ b)) := rfl
theorem b_mod {a b mh} {Q : MV → MH → Prop} (h : b ≠ 0) (q : Q (.int (a.fmod b)) mh) : binopM .Mod (.int a) (.int b) mh Q := .mod ⟨h, q⟩
theorem b_fdiv {a b mh} {Q : MV → MH → Prop} (h : 0 < b ∧ b < 1000000) (q : Q (.int (a.fdiv b)) mh) : binopM .FloorDiv (.int a) (.int b) mh Q := .fdiv ⟨h, q⟩
theorem b_mul {a b mh} {Q : MV → MH → Prop} (h : a.natAbs < 2 ^ 40 ∧ b.natAbs < 2 ^ 40) (q : Q (.int (a * b)) mh) : binopM .Mult (.int a) (.int b) mh Q := .mul ⟨h, q⟩

theorem c_knob {C : Cx} (H : Hyp C) {k id ip t : Nat} {pins : List Int} {many : Int} {Q : MV → MH → Prop} {mh : MH} (hd : mh[id]? = some (drumM ip t)) (hp : mh[ip]? = some (.list (pins.map .int))) (hne : id ≠ ip) (ht : t ≤ 500) (hm : 0 < many)
    (hQ : Q (.int (knobF pins t many)) (mh.set id (drumM ip ((t + 1 : Nat) : Int)))) : CallR C (k + 1) "_law_knob" [.ref id, .int many] Q mh := by
  refine call_own H.f__law_knob ["drum", "many"] (sok_mk (by kernel_rfl)) 0 (fun L qual code hF => have he := eok_fenv (L := L) (qual := qual) (fa := C.fa "_law_knob") (code := code) (sc := scopeAt 30) (by kernel_rfl); have hT := tok_of ["drum", "many"];
   (SSs_cons (SS_augSub (SE_local (i := 0) he (by kernel_rfl) (by kernel_rfl) (by kernel_rfl)) SE_str SE_int rfl)
    (SSs_cons (SS_if (ST_cmp (SE_sub (SE_local (i := 0) he (by kernel_rfl) (by kernel_rfl) (by kernel_rfl)) SE_str rfl) (SE_bcall (id := "len") he (by kernel_rfl) (by kernel_rfl) H.b_len (SEL_cons (SE_sub (SE_local (i := 0) he (by kernel_rfl) (by kernel_rfl) (by kernel_rfl)) SE_str rfl) SEL_nil rfl) rfl) (by kernel_rfl)) (SSs_cons (SS_return (SE_binop (SE_sub (SE_sub (SE_local (i := 0) he (by kernel_rfl) (by kernel_rfl) (by kernel_rfl)) SE_str rfl) (SE_binop (SE_sub (SE_local (i := 0) he (by kernel_rfl) (by kernel_rfl) (by kernel_rfl)) SE_str rfl) SE_int) rfl) (SE_local (i := 1) he (by kernel_rfl) (by kernel_rfl) (by kernel_rfl))))
    SSs_nil) SSs_nil)
    (SSs_cons (SS_return (SE_binop (SE_binop (SE_binop (SE_binop (SE_binop (SE_binop SE_int (SE_sub (SE_local (i := 0) he (by kernel_rfl) (by kernel_rfl) (by kernel_rfl)) SE_str rfl)) SE_int) (SE_sub (SE_local (i := 0) he (by kernel_rfl) (by kernel_rfl) (by kernel_rfl)) SE_str rfl)) SE_int) SE_int) (SE_local (i := 1) he (by kernel_rfl) (by kernel_rfl) (by kernel_rfl))))
    SSs_nil)))) rfl ?_
  walk_at "s"
  refine g_turns hd ?_
  walk_at "s"
  refine set_turns hd ?_
  rw [show ((t : Int) + 1) = ((t + 1 : Nat) : Int) by lia]
  have hd2 : (mh.set id (drumM ip ((t + 1 : Nat) : Int)))[id]? = some (drumM ip ((t + 1 : Nat) : Int)) := get_set_self hd
  have hp2 : (mh.set id (drumM ip ((t + 1 : Nat) : Int)))[ip]? = some (.list (pins.map .int)) := by rw [get_set_ne hne]; exact hp
  generalize mh.set id (drumM ip ((t + 1 : Nat) : Int)) = m2 at *
  walk_at "s"
  refine g_turns hd2 ?_
  walk_at "s"
  refine g_pins hd2 ?_
  refine bc_len_list hp2 ?_
  rw [List.length_map]
  refine ⟨_, le_int, ?_⟩
  unfold knobF at hQ
  by_cases hlt : t < pins.length
  · rw [if_pos hlt] at hQ
    refine if_t (by simp; lia) ?_
    walk_at "s"
    refine g_pins hd2 ?_
    walk_at "s"
    refine g_turns hd2 ?_
    walk_at "s"
    refine g_list hp2 (by lia) (m := .int (pins.getD t 0)) ?_ ?_
    · rw [show (((t + 1 : Nat) : Int) - 1).toNat = t by lia]
      simp [hlt]
    · walk_at "s"
      refine b_mod (by lia) ?_
      walk_at "s"
      exact hQ
  · rw [if_neg hlt] at hQ
    refine if_f (by simp; lia) ?_
    walk_at "s"
    refine g_turns hd2 ?_
    refine b_mul ⟨by decide, by lia⟩ ?_
    walk_at "s"
    refine g_turns hd2 ?_
    refine b_mul ⟨by lia, by lia⟩ ?_
    walk_at "s"
    refine b_fdiv (by decide) ?_
    walk_at "s"
    refine b_mod (by lia) ?_
    walk_at "s"
    exact hQ

theorem knob_range (pins : List Int) (t : Nat) {many : Int} (hm : 0 < many) : 0 ≤ knobF pins t many ∧ knobF pins t many < many := by
  unfold knobF
  split
  · exact ⟨Int.fmod_nonneg_of_pos _ hm, Int.fmod_lt_of_pos _ hm⟩
  · exact ⟨Int.fmod_nonneg_of_pos _ hm, Int.fmod_lt_of_pos _ hm⟩
structure RgOK (es : Rg) : Prop where
  n : 3 ≤ es.length ∧ es.length ≤ 5
  keys : es.map (·.1) = (List.range es.length).map fun (i : Nat) => (5 * (i : Int) + 2).fmod 7
  ends : ∀ e ∈ es, 0 ≤ e.2.1 ∧ e.2.1 ≤ e.2.2 ∧ e.2.2 ≤ 12

theorem Ext.reset {a m : MH} {i : Nat} {x y : MO} (h : Ext (a.set i x) m) (hi : i < a.length) : Ext (a.set i y) (m.set i y) := by
  obtain ⟨l, rfl⟩ := h
  rw [List.set_append_left _ _ (by rw [List.length_set]; exact hi), List.set_set]
  exact ⟨l, rfl⟩

theorem key_new : ∀ n, n ≤ 5 → ((List.range n).map fun (i : Nat) => (5 * (i : Int) + 2).fmod 7).contains ((5 * (n : Int) + 2).fmod 7) = false := by decide +kernel
theorem keys_nodup : ∀ n, n ≤ 5 → ((List.range n).map fun (i : Nat) => (5 * (i : Int) + 2).fmod 7).Nodup := by decide +kernel

theorem RgOK.nodup {es} (h : RgOK es) : (es.map (·.1)).Nodup := by rw [h.keys]; exact keys_nodup _ h.n.2

theorem putP_new {β : Type} {es : List (Int × β)} {k : Int} {v : β} (h : k ∉ es.map (·.1)) : putP es k v = es ++ [(k, v)] := by
  unfold putP
  rw [if_neg]
  intro ha
  obtain ⟨e, he, h1⟩ := List.any_eq_true.mp ha
  exact h (List.mem_map.mpr ⟨e, he, by simpa using h1⟩)

inductive LrI (mh : MH) (ip id t n : Nat) (r : List Nat) (v : Vars) (m : MH) : Prop
  | mk (es : Rg) (p : Nat) (fo tu : Option MV) (h1 : v = [some (.ref id), fo, some (.ref mh.length), tu]) (h2 : Ext (mh.set id (drumM ip ((t + 1 + 2 * p : Nat) : Int))) m) (h3 : m[mh.length]? = some (.dict (rgM es)))
    (h4 : r = List.range' p (n - p)) (h5 : p ≤ n) (h6 : es.length = p) (h7 : es.map (·.1) = (List.range p).map (fun (i : Nat) => (5 * (i : Int) + 2).fmod 7)) (h8 : ∀ e ∈ es, 0 ≤ e.2.1 ∧ e.2.1 ≤ e.2.2 ∧ e.2.2 ≤ 12)

theorem c_law_ranges {C : Cx} (H : Hyp C) {k id ip t : Nat} {pins : List Int} {Q : MV → MH → Prop} {mh : MH} (hd : mh[id]? = some (drumM ip t)) (hp : mh[ip]? = some (.list (pins.map .int))) (hne : id ≠ ip) (ht : t ≤ 100)
    (hQ : ∀ es (t' j : Nat) m, RgOK es → t' ≤ t + 11 → Ext (mh.set id (drumM ip (t' : Int))) m → m[j]? = some (.dict (rgM es)) → mh.length ≤ j → Q (.ref j) m) : CallR C (k + 2) "_law_ranges" [.ref id] Q mh := by
  have hil : id < mh.length := (List.getElem?_eq_some_iff.mp hd).1
  have hpl : ip < mh.length := (List.getElem?_eq_some_iff.mp hp).1
  refine call_own H.f__law_ranges ["drum", "first", "ranges", "turn"] (sok_mk (by kernel_rfl)) 3 (fun L qual code hF => have he := eok_fenv (L := L) (qual := qual) (fa := C.fa "_law_ranges") (code := code) (sc := scopeAt 31) (by kernel_rfl); have hT := tok_of ["drum", "first", "ranges", "turn"];
   (SSs_cons (SS_assign (SE_dict0 H.sys) (SA_name (i := 2) he hT hF (by kernel_rfl) (.inl (by kernel_rfl))) rfl (by kernel_rfl) (by kernel_rfl))
    (SSs_cons (SS_for (SE_tcall (t := "range") he (by kernel_rfl) (by kernel_rfl) H.b_range (SEL_cons (SE_binop SE_int (SE_call he (by kernel_rfl) (by kernel_rfl) H.f__law_knob.at (SEL_cons (SE_local (i := 0) he (by kernel_rfl) (by kernel_rfl) (by kernel_rfl)) (SEL_cons SE_int SEL_nil rfl) rfl) rfl)) SEL_nil rfl) rfl) (SA_name (i := 3) he hT hF (by kernel_rfl) (.inl (by kernel_rfl))) (SSs_cons (SS_assign (SE_call he (by kernel_rfl) (by kernel_rfl) H.f__law_knob.at (SEL_cons (SE_local (i := 0) he (by kernel_rfl) (by kernel_rfl) (by kernel_rfl)) (SEL_cons SE_int SEL_nil rfl) rfl) rfl) (SA_name (i := 1) he hT hF (by kernel_rfl) (.inl (by kernel_rfl))) rfl (by kernel_rfl) (by kernel_rfl))
    (SSs_cons (SS_assign (SE_tuple (SEL_cons (SE_local (i := 1) he (by kernel_rfl) (by kernel_rfl) (by kernel_rfl)) (SEL_cons (SE_binop (SE_local (i := 1) he (by kernel_rfl) (by kernel_rfl) (by kernel_rfl)) (SE_call he (by kernel_rfl) (by kernel_rfl) H.f__law_knob.at (SEL_cons (SE_local (i := 0) he (by kernel_rfl) (by kernel_rfl) (by kernel_rfl)) (SEL_cons SE_int SEL_nil rfl) rfl) rfl)) SEL_nil rfl) rfl)) (SA_sub (SE_local (i := 2) he (by kernel_rfl) (by kernel_rfl) (by kernel_rfl)) (SE_binop (SE_binop (SE_binop SE_int (SE_local (i := 3) he (by kernel_rfl) (by kernel_rfl) (by kernel_rfl))) SE_int) SE_int)) rfl (by kernel_rfl) (by kernel_rfl))
    SSs_nil)) (fun _ => rfl) (.inl fun _ _ => rfl))
    (SSs_cons (SS_return (SE_local (i := 2) he (by kernel_rfl) (by kernel_rfl) (by kernel_rfl)))
    SSs_nil)))) rfl ?_
  walk_at "s"
  refine c_knob H (get_app hd) (get_app hp) hne (by lia) (by decide) ?_
  obtain ⟨k1, k2⟩ := knob_range pins t (many := 3) (by decide)
  obtain ⟨x, hx⟩ : ∃ x : Nat, knobF pins t 3 = x := ⟨(knobF pins t 3).toNat, by lia⟩
  rw [hx] at k2 ⊢
  refine b_add ?_
  rw [show (3 : Int) + (x : Int) = ((3 + x : Nat) : Int) by lia]
  refine tc_range1 ?_
  have hr := range_up (3 + x) (by lia)
  refine it_range ⟨hr.1, by rw [hr.2]; lia⟩ ?_
  rw [rangeN (by lia)]
  have hext0 : Ext (mh.set id (drumM ip ((t + 1 : Nat) : Int))) ((mh ++ [MO.dict []]).set id (drumM ip ((t + 1 : Nat) : Int))) := by
    rw [List.set_append_left _ _ hil]; exact ⟨_, rfl⟩
  have hd0 : ((mh ++ [MO.dict []]).set id (drumM ip ((t + 1 : Nat) : Int)))[mh.length]? = some (.dict (rgM [])) := get_ne (by lia) get_last
  generalize (mh ++ [MO.dict []]).set id (drumM ip ((t + 1 : Nat) : Int)) = m0 at hext0 hd0
  generalize hn : 3 + x = n at *
  refine forN_id (f := fun (x : Nat) => MV.int ((x : Nat) : Int)) (LrI mh ip id t n) ?_ ?_ _ _ _
    ⟨[], 0, none, none, rfl, hext0, hd0, by rw [List.range_eq_range']; rfl, Nat.zero_le _, rfl, rfl, fun _ h => nomatch h⟩
  · rintro v m ⟨es, p, fo, tu, rfl, he, hm, hr', hp', hl, hk, hen⟩
    have hpe : p = n := by
      have := congrArg List.length hr'
      simp at this
      lia
    subst hpe
    walk_at "s"
    refine hQ es _ _ m ⟨by lia, by rw [hl]; exact hk, hen⟩ ?_ he hm (Nat.le_refl _)
    lia
  · rintro x' r v m K ⟨es, p, fo, tu, rfl, he, hm, hr', hp', hl, hk, hen⟩ hK
    obtain ⟨hxp, hrest, hplt⟩ : x' = p ∧ r = List.range' (p + 1) (n - (p + 1)) ∧ p < n := by
      cases hq : n - p with
      | zero => rw [hq] at hr'; simp at hr'
      | succ q =>
        rw [hq, List.range'_succ] at hr'
        obtain ⟨h1, h2⟩ := List.cons.inj hr'
        exact ⟨h1, by rw [h2]; congr 1; lia, by lia⟩
    subst hxp
    have hdm : m[id]? = some (drumM ip ((t + 1 + 2 * x' : Nat) : Int)) := he.get (get_set_self hd)
    have hpm : m[ip]? = some (.list (pins.map .int)) := he.get (get_ne hne hp)
    walk_at "s"
    refine c_knob H hdm hpm hne (by lia) (by decide) ?_
    walk_at "s"
    refine c_knob H (get_set_self hdm) (get_ne hne hpm) hne (by lia) (by decide) ?_
    rw [List.set_set]
    obtain ⟨a1, a2⟩ := knob_range pins (t + 1 + 2 * x') (many := 8) (by decide)
    obtain ⟨b1, b2⟩ := knob_range pins (t + 1 + 2 * x' + 1) (many := 6) (by decide)
    walk_at "s"
    refine b_mul ⟨by decide, by lia⟩ ?_
    walk_at "s"
    refine b_mod (by decide) ?_
    refine set_dict (get_ne (by lia) hm) (by simp [rgM]; lia) ?_
    have hput := put_map pairM es ((5 * (x' : Int) + 2).fmod 7) (knobF pins (t + 1 + 2 * x') 8, knobF pins (t + 1 + 2 * x') 8 + knobF pins (t + 1 + 2 * x' + 1) 6)
    have hnew : ((5 * (x' : Int) + 2).fmod 7) ∉ es.map (·.1) := by
      rw [hk]
      intro hc
      have := key_new x' (by lia)
      rw [List.contains_iff_mem.mpr hc] at this
      cases this
    rw [putP_new hnew] at hput
    unfold pairM at hput
    rw [show put (rgM es) ((5 * (x' : Int) + 2).fmod 7) (MV.tup [MV.int (knobF pins (t + 1 + 2 * x') 8), MV.int (knobF pins (t + 1 + 2 * x') 8 + knobF pins (t + 1 + 2 * x' + 1) 6)]) = rgM (es ++ [((5 * (x' : Int) + 2).fmod 7, (knobF pins (t + 1 + 2 * x') 8, knobF pins (t + 1 + 2 * x') 8 + knobF pins (t + 1 + 2 * x' + 1) 6))]) from hput]
    walk_at "s"
    refine hK _ _ ⟨_, x' + 1, _, _, rfl, ?_, get_set_self (get_ne (by lia) hm), hrest, by lia, by simp [hl], by rw [List.map_append, hk, List.range_succ, List.map_append]; rfl, fun e he' => ?_⟩
    · have h1 := (he.reset (y := drumM ip ((t + 1 + 2 * x' + 1 + 1 : Nat) : Int)) hil).set (j := mh.length) (by simp) (.dict (rgM (es ++ [((5 * (x' : Int) + 2).fmod 7, (knobF pins (t + 1 + 2 * x') 8, knobF pins (t + 1 + 2 * x') 8 + knobF pins (t + 1 + 2 * x' + 1) 6))])))
      rw [show t + 1 + 2 * (x' + 1) = t + 1 + 2 * x' + 1 + 1 by lia]
      exact h1
    · rcases List.mem_append.mp he' with h | h
      · exact hen e h
      · rw [List.mem_singleton.mp h]
        refine ⟨a1, ?_, ?_⟩
        · show knobF pins (t + 1 + 2 * x') 8 ≤ knobF pins (t + 1 + 2 * x') 8 + knobF pins (t + 1 + 2 * x' + 1) 6
          lia
        · show knobF pins (t + 1 + 2 * x') 8 + knobF pins (t + 1 + 2 * x' + 1) 6 ≤ 12
          lia
noncomputable def lies (p : Int) (e : Int × Int × Int) : Bool := decide (e.2.1 ≤ p) && decide (p ≤ e.2.2)
noncomputable def cnt (es : Rg) (p : Int) : Nat := (es.filter (lies p)).length
noncomputable def fullF (es : Rg) : Int := listMax ((List.range 13).map fun (p : Nat) => ((cnt es p : Nat) : Int))

theorem c_fullest {C : Cx} (H : Hyp C) {k i : Nat} {es : Rg} {Q : MV → MH → Prop} {mh : MH} (hi : mh[i]? = some (.dict (rgM es))) (hnd : (es.map (·.1)).Nodup) (h5 : es.length ≤ 5)
    (hQ : ∀ m, Ext mh m → Q (.int (fullF es)) m) : CallR C (k + 1) "_law_fullest" [.ref i] Q mh := by
  refine call_own H.f__law_fullest ["ranges"] (sok_mk (by kernel_rfl)) 0 (fun L qual code hF => have he := eok_fenv (L := L) (qual := qual) (fa := C.fa "_law_fullest") (code := code) (sc := scopeAt 32) (by kernel_rfl); have hT := tok_of ["ranges"];
   (SSs_cons (SS_return (SE_bcall (id := "max") he (by kernel_rfl) (by kernel_rfl) H.b_max (SEL_cons (SE_comp (n := 1) (cl := [("ranges", L+1)]) he (cok_mk hF (hm1 (by kernel_rfl)) (by kernel_rfl)) (tok_cons hT (by kernel_rfl)) (fun L1 => .inr ⟨(by kernel_rfl), L1+1, (by kernel_rfl), Nat.lt_succ_self _⟩) (by kernel_rfl) (fun _ => rfl) (SE_tcall (t := "range") he (by kernel_rfl) (by kernel_rfl) H.b_range (SEL_cons SE_int SEL_nil rfl) rfl) (fun L1 hF1 => have he1 := eok_of hF1 he (by kernel_rfl); have hT1 := tok_cons (x := "place") (n := 1) hT (by kernel_rfl); SI_nil) (fun L1 hF1 => have he1 := eok_of hF1 he (by kernel_rfl); have hT1 := tok_cons (x := "place") (n := 1) hT (by kernel_rfl); (SE_bcall (id := "len") he1 (by kernel_rfl) (by kernel_rfl) H.b_len (SEL_cons (SE_comp (n := 2) (cl := [("ranges", L+1), ("place", L1+1)]) he1 (cok_mk hF1 (hm2 (by kernel_rfl) (by kernel_rfl)) (by kernel_rfl)) (tok_cons hT1 (by kernel_rfl)) (fun L2 => .inl (by kernel_rfl)) (by kernel_rfl) (fun _ => rfl) (SE_cell (i := 0) (c := L+1) he1 (by kernel_rfl) (by kernel_rfl) (by kernel_rfl) (by kernel_rfl)) (fun L2 hF2 => have he2 := eok_of hF2 he1 (by kernel_rfl); have hT2 := tok_cons (x := "one") (n := 2) hT1 (by kernel_rfl); (SI_one (ST_cmp2 (SE_sub (SE_sub (SE_cell (i := 0) (c := L+1) he2 (by kernel_rfl) (by kernel_rfl) (by kernel_rfl) (by kernel_rfl)) (SE_local (i := 2) he2 (by kernel_rfl) (by kernel_rfl) (by kernel_rfl)) rfl) SE_int rfl) (SE_cell (i := 1) (c := L1+1) he2 (by kernel_rfl) (by kernel_rfl) (by kernel_rfl) (by kernel_rfl)) (SE_sub (SE_sub (SE_cell (i := 0) (c := L+1) he2 (by kernel_rfl) (by kernel_rfl) (by kernel_rfl) (by kernel_rfl)) (SE_local (i := 2) he2 (by kernel_rfl) (by kernel_rfl) (by kernel_rfl)) rfl) SE_int rfl) (by kernel_rfl)))) (fun L2 hF2 => have he2 := eok_of hF2 he1 (by kernel_rfl); have hT2 := tok_cons (x := "one") (n := 2) hT1 (by kernel_rfl); SE_int)) SEL_nil rfl) rfl))) SEL_nil rfl) rfl))
    SSs_nil)) rfl ?_
  refine ⟨rfl, ?_⟩
  walk_at "s"
  refine it_range (by exact ⟨(range_up 13 (by decide)).1, by have := (range_up 13 (by decide)).2; rw [show ((13 : Nat) : Int) = 13 from rfl] at this; rw [this]; decide⟩) ?_
  rw [show (13 : Int) = ((13 : Nat) : Int) from rfl, rangeN (by decide)]
  refine len_ok (by simp) ?_
  refine compN_ind (f := fun (x : Nat) => MV.int ((x : Nat) : Int)) (fun r out m => ∃ p, Ext mh m ∧ r = List.range' p (13 - p) ∧ p ≤ 13 ∧ out = ((List.range p).map fun (q : Nat) => ((cnt es q : Nat) : Int)).map .int) ?_ ?_ _ _ _ ⟨0, Ext.refl' _, by rw [List.range_eq_range'], by decide, rfl⟩
  · rintro out m ⟨p, he, hr, hp, rfl⟩
    have hpe : p = 13 := by
      have := congrArg List.length hr
      simp at this
      lia
    subst hpe
    refine bc_max (ns := (List.range 13).map fun (q : Nat) => ((cnt es q : Nat) : Int)) get_last (by simp) ?_
    walk_at "s"
    exact hQ _ (he.app _)
  · rintro x r out m K ⟨p, he, hr, hp, rfl⟩ hK
    obtain ⟨hxp, hrest, hplt⟩ : x = p ∧ r = List.range' (p + 1) (13 - (p + 1)) ∧ p < 13 := by
      cases hq : 13 - p with
      | zero => rw [hq] at hr; simp at hr
      | succ q =>
        rw [hq, List.range'_succ] at hr
        obtain ⟨h1, h2⟩ := List.cons.inj hr
        exact ⟨h1, by rw [h2]; congr 1; lia, by lia⟩
    subst hxp
    refine st_t ?_
    refine ⟨rfl, ?_⟩
    walk_at "s"
    have him := he.get hi
    refine it_dict him fun ep => ?_
    have hfz : (m.set i (.fz (rgM es) ep))[i]? = some (.fz (rgM es) ep) := get_set_self him
    refine len_ok (by simp [rgM]; lia) ?_
    rw [show (rgM es).map (fun e => MV.int e.1) = es.map (fun e => MV.int e.1) by simp [rgM]]
    refine compN_ind (f := fun (e : Int × Int × Int) => MV.int e.1) (fun r out m' => m' = m.set i (.fz (rgM es) ep) ∧ ∃ done, es = done ++ r ∧ out = (done.filter (lies x)).map (fun _ => MV.int 1)) ?_ ?_ _ _ _ ⟨rfl, [], rfl, rfl⟩
    · rintro out m' ⟨rfl, done, hd, rfl⟩
      rw [List.append_nil] at hd
      subst hd
      rw [set_back him]
      refine bc_len_list get_last ?_
      refine ⟨trivial, hK _ _ ⟨x + 1, he.app _, hrest, by lia, ?_⟩⟩
      rw [List.range_succ, List.map_append, List.map_append, List.length_map]
      rfl
    · rintro e r' out m' K' ⟨rfl, done, rfl, rfl⟩ hK'
      have hlk : (done ++ e :: r').lookup e.1 = some e.2 := lookup_mid hnd
      walk_at "s"
      refine g_fz hfz (by rw [look_rg, hlk]; rfl) ?_
      unfold pairM
      walk_at "s"
      refine ⟨_, le_int, ?_⟩
      have hmem : ∀ b, lies x e = b → (done ++ [e]).filter (lies x) = done.filter (lies x) ++ if b = true then [e] else [] := fun b hb => by
        rw [List.filter_append]
        congr 1
        cases b <;> simp [hb]
      by_cases h1 : e.2.1 ≤ (x : Int)
      · refine if_t (by simp [h1]) ?_
        walk_at "s"
        refine g_fz hfz (by rw [look_rg, hlk]; rfl) ?_
        unfold pairM
        walk_at "s"
        refine ⟨_, le_int, ?_⟩
        by_cases h2 : (x : Int) ≤ e.2.2
        · refine if_t (by simp [h2]) ?_
          have := hmem true (by simp [lies, h1, h2])
          refine ⟨hfz, hK' _ _ ⟨rfl, done ++ [e], by simp, ?_⟩⟩
          rw [this]; simp
        · refine if_f (by simp; lia) ?_
          have := hmem false (by simp [lies, h1]; lia)
          refine ⟨hfz, hK' _ _ ⟨rfl, done ++ [e], by simp, ?_⟩⟩
          rw [this]; simp
      · refine if_f (by simp; lia) ?_
        refine if_f rfl ?_
        have := hmem false (by simp [lies]; lia)
        refine ⟨hfz, hK' _ _ ⟨rfl, done ++ [e], by simp, ?_⟩⟩
        rw [this]; simp
noncomputable def isWord : Op → Bool
  | .fetch _ _ => false
  | .keep _ _ => false
  | .set _ => true
  | .move _ _ => true
  | .bin _ _ _ => true
  | .store _ _ => true
  | .tru _ _ => true
  | .ret _ => true
noncomputable def wordsF (ops : List Op) : List Str := (ops.filter isWord).map name

theorem ne_str {a b : Str} {mh} : cmpM .NotEq (.str a) (.str b) mh = some (!(a == b)) := rfl

theorem name_fetch (op : Op) : (name op == ("fetch" : Str)) = (match op with | .fetch _ _ => true | _ => false) := by cases op <;> kernel_rfl
theorem name_keep (op : Op) : (name op == ("keep" : Str)) = (match op with | .keep _ _ => true | _ => false) := by cases op <;> kernel_rfl
theorem name_true (op : Op) : (name op == ("true" : Str)) = (match op with | .tru _ _ => true | _ => false) := by cases op <;> kernel_rfl

theorem c_words {C : Cx} (H : Hyp C) {k i : Nat} {ops : List Op} {Q : MV → MH → Prop} {mh : MH} (hi : mh[i]? = some (.list (ops.map opM))) (hl : ops.length ≤ 4000) (hQ : Q (.ref mh.length) (mh ++ [.list ((wordsF ops).map .str)])) : CallR C (k + 1) "_law_words" [.ref i] Q mh := by
  refine call_own H.f__law_words ["ops"] (sok_mk (by kernel_rfl)) 0 (fun L qual code hF => have he := eok_fenv (L := L) (qual := qual) (fa := C.fa "_law_words") (code := code) (sc := scopeAt 36) (by kernel_rfl); have hT := tok_of ["ops"];
   (SSs_cons (SS_return (SE_comp (n := 1) (cl := []) he (cok_mk hF hm0 (by kernel_rfl)) (tok_cons hT (by kernel_rfl)) (fun L1 => .inl (by kernel_rfl)) (by kernel_rfl) (fun _ => rfl) (SE_local (i := 0) he (by kernel_rfl) (by kernel_rfl) (by kernel_rfl)) (fun L1 hF1 => have he1 := eok_of hF1 he (by kernel_rfl); have hT1 := tok_cons (x := "op") (n := 1) hT (by kernel_rfl); (SI_one (ST_and (ST_cmp (SE_sub (SE_local (i := 1) he1 (by kernel_rfl) (by kernel_rfl) (by kernel_rfl)) SE_int rfl) SE_str (by kernel_rfl)) (ST_cmp (SE_sub (SE_local (i := 1) he1 (by kernel_rfl) (by kernel_rfl) (by kernel_rfl)) SE_int rfl) SE_str (by kernel_rfl))))) (fun L1 hF1 => have he1 := eok_of hF1 he (by kernel_rfl); have hT1 := tok_cons (x := "op") (n := 1) hT (by kernel_rfl); (SE_sub (SE_local (i := 1) he1 (by kernel_rfl) (by kernel_rfl) (by kernel_rfl)) SE_int rfl))))
    SSs_nil)) rfl ?_
  refine ⟨rfl, ?_⟩
  walk_at "s"
  refine it_list hi ?_
  refine len_ok (by simp; lia) ?_
  refine compN_ind (f := opM) (fun r out m => m = mh ∧ ∃ done, ops = done ++ r ∧ out = (wordsF done).map .str) ?_ ?_ _ _ _ ⟨rfl, [], rfl, rfl⟩
  · rintro out m ⟨rfl, done, hd, rfl⟩
    rw [List.append_nil] at hd
    subst hd
    walk_at "s"
    exact hQ
  · rintro op r out m K ⟨rfl, done, rfl, rfl⟩ hK
    walk_at "s"
    refine g_op0 ?_
    refine ⟨_, ne_str, ?_⟩
    rw [name_fetch]
    have hfin : ∀ b, isWord op = b → (wordsF (done ++ [op])) = wordsF done ++ if b = true then [name op] else [] := fun b hb => by
      unfold wordsF
      rw [List.filter_append, List.map_append]
      congr 1
      cases b <;> simp [hb]
    cases op <;> first
      | (refine if_t rfl ?_
         walk_at "s"
         refine g_op0 ?_
         refine ⟨_, ne_str, ?_⟩
         rw [name_keep]
         first
           | (refine if_t rfl ?_
              walk_at "s"
              refine g_op0 ?_
              refine ⟨hi, hK _ _ ⟨rfl, _, (List.append_assoc done [_] r).symm, ?_⟩⟩
              rw [hfin true rfl]
              simp)
           | (refine if_f rfl ?_
              refine ⟨hi, hK _ _ ⟨rfl, _, (List.append_assoc done [_] r).symm, ?_⟩⟩
              rw [hfin false rfl]
              simp))
      | (refine if_f rfl ?_
         refine if_f rfl ?_
         refine ⟨hi, hK _ _ ⟨rfl, _, (List.append_assoc done [_] r).symm, ?_⟩⟩
         rw [hfin false rfl]
         simp)
theorem eqs_m {a b : Str} {mh} : cmpM .Eq (.str a) (.str b) mh = some (a == b) := rfl
noncomputable def truesF (ops : List Op) : List Int := ops.filterMap fun op => match op with | .tru _ g => some g | _ => none

theorem strs_eq : ∀ {xs ys : List Str}, xs.length = ys.length → allEq atomEq (xs.map .str) (ys.map .str) = some (xs == ys)
  | [], [], _ => rfl
  | x :: xs, y :: ys, h => by
    rw [List.map_cons, List.map_cons]
    show and2 (some (x == y)) (allEq atomEq (xs.map .str) (ys.map .str)) = _
    rw [strs_eq (Nat.succ.inj h)]
    rfl

theorem ne_strs {m : MH} {i j : Nat} {xs ys : List Str} (h1 : m[i]? = some (.list (xs.map .str))) (h2 : m[j]? = some (.list (ys.map .str))) : cmpM .NotEq (.ref i) (.ref j) m = some (!(xs == ys)) := by
  show (eqL m[i]? m[j]?).map (!·) = _
  rw [h1, h2]
  show (listEq _ _).map _ = _
  unfold listEq
  rw [List.length_map, List.length_map]
  by_cases h : xs.length = ys.length
  · rw [if_pos h, strs_eq h]; rfl
  · rw [if_neg h]
    have : (xs == ys) = false := by
      rw [beq_eq_false_iff_ne]
      rintro rfl
      exact h rfl
    rw [this]; rfl

theorem ne_nil {m : MH} {i j : Nat} {xs : List MV} (h1 : m[i]? = some (.list xs)) (h2 : m[j]? = some (.list [])) : cmpM .NotEq (.ref i) (.ref j) m = some (!xs.isEmpty) := by
  show (eqL m[i]? m[j]?).map (!·) = _
  rw [h1, h2]
  show (listEq _ _).map _ = _
  unfold listEq
  cases xs with
  | nil => rfl
  | cons a r => rfl
theorem eq_nil {m : MH} {i j : Nat} {xs : List MV} (h1 : m[i]? = some (.list xs)) (h2 : m[j]? = some (.list [])) : cmpM .Eq (.ref i) (.ref j) m = some xs.isEmpty := by
  show eqL m[i]? m[j]? = _
  rw [h1, h2]
  show listEq _ _ = _
  unfold listEq
  cases xs with
  | nil => rfl
  | cons a r => rfl

theorem st1 {m : MH} {i : Nat} {xs : List MV} {n : Int} {R : Nat → List MV → Int → Prop} (h : m[i]? = some (MO.list xs)) (h0 : 0 ≤ n) (h1 : n ≤ xs.length) (q : R i xs n) :
    ∃ (i' : Nat) (xs' : List MV) (n' : Int), MV.ref i = .ref i' ∧ MV.int n = .int n' ∧ m[i']? = some (MO.list xs') ∧ 0 ≤ n' ∧ n' ≤ xs'.length ∧ R i' xs' n' := ⟨i, xs, n, rfl, rfl, h, h0, h1, q⟩

/-- what the told code must be like -/
structure Told (ops out : List Op) (count : Int) : Prop where
  words : wordsF out = wordsF ops
  regs : ∀ op ∈ out, listMax (reads op ++ [writes op]) < count
  okr : ∀ op ∈ out, okRet op
  jumps : ∀ (t : Nat) (g : Int), (truesF ops)[t]? = some g → ∃ p : Nat, (truesF out)[t]? = some (p : Int) ∧ p < out.length ∧ ((wordsF (out.take p)).length : Int) = g ∧
    (∀ op, out[p]? = some op → (name op == ("keep" : Str)) = false) ∧ (0 < p → ∀ op, out[p - 1]? = some op → (name op == ("fetch" : Str)) = false)

inductive TdI (mh : MH) (ops out : List Op) (count : Int) (i j jg jp : Nat) (r : List Nat) (v : Vars) (m : MH) : Prop
  | mk (pl tu : Option MV) (h1 : v = [some (.ref i), some (.ref j), some (.int count), some (.ref jg), pl, some (.ref jp), tu]) (h2 : Ext mh m) (h3 : m[jg]? = some (.list ((truesF ops).map .int))) (h4 : m[jp]? = some (.list ((truesF out).map .int))) (h5 : ∀ x ∈ r, x < (truesF ops).length)

theorem c_told {C : Cx} (H : Hyp C) {k i j : Nat} {ops out : List Op} {count : Int} {Q : MV → MH → Prop} {mh : MH} (hi : mh[i]? = some (.list (ops.map opM))) (hj : mh[j]? = some (.list (out.map opM))) (hl : ops.length ≤ 60) (hlo : out.length ≤ 1000) (T : Told ops out count)
    (hQ : ∀ m, Ext mh m → Q (.bool true) m) : CallR C (k + 2) "_law_is_told" [.ref i, .ref j, .int count] Q mh := by
  refine call_own H.f__law_is_told ["ops", "out", "count", "goals", "place", "places", "turn"] (sok_mk (by kernel_rfl)) 4 (fun L qual code hF => have he := eok_fenv (L := L) (qual := qual) (fa := C.fa "_law_is_told") (code := code) (sc := scopeAt 37) (by kernel_rfl); have hT := tok_of ["ops", "out", "count", "goals", "place", "places", "turn"];
   (SSs_cons (SS_if (ST_cmp (SE_call he (by kernel_rfl) (by kernel_rfl) H.f__law_words.at (SEL_cons (SE_local (i := 1) he (by kernel_rfl) (by kernel_rfl) (by kernel_rfl)) SEL_nil rfl) rfl) (SE_call he (by kernel_rfl) (by kernel_rfl) H.f__law_words.at (SEL_cons (SE_local (i := 0) he (by kernel_rfl) (by kernel_rfl) (by kernel_rfl)) SEL_nil rfl) rfl) (by kernel_rfl)) (SSs_cons (SS_return SE_bool)
    SSs_nil) SSs_nil)
    (SSs_cons (SS_if (ST_cmp (SE_comp (n := 7) (cl := [("count", L+1)]) he (cok_mk hF (hm1 (by kernel_rfl)) (by kernel_rfl)) (tok_cons hT (by kernel_rfl)) (fun L1 => .inl (by kernel_rfl)) (by kernel_rfl) (fun _ => rfl) (SE_local (i := 1) he (by kernel_rfl) (by kernel_rfl) (by kernel_rfl)) (fun L1 hF1 => have he1 := eok_of hF1 he (by kernel_rfl); have hT1 := tok_cons (x := "op") (n := 7) hT (by kernel_rfl); (SI_one (ST_cmp (SE_bcall (id := "max") he1 (by kernel_rfl) (by kernel_rfl) H.b_max (SEL_cons (SE_binop (SE_call he1 (by kernel_rfl) (by kernel_rfl) H.f_reads_of.at (SEL_cons (SE_local (i := 7) he1 (by kernel_rfl) (by kernel_rfl) (by kernel_rfl)) SEL_nil rfl) rfl) (SE_list (SEL_cons (SE_call he1 (by kernel_rfl) (by kernel_rfl) H.f_writes_of.at (SEL_cons (SE_local (i := 7) he1 (by kernel_rfl) (by kernel_rfl) (by kernel_rfl)) SEL_nil rfl) rfl) SEL_nil rfl))) SEL_nil rfl) rfl) (SE_cell (i := 2) (c := L+1) he1 (by kernel_rfl) (by kernel_rfl) (by kernel_rfl) (by kernel_rfl)) (by kernel_rfl)))) (fun L1 hF1 => have he1 := eok_of hF1 he (by kernel_rfl); have hT1 := tok_cons (x := "op") (n := 7) hT (by kernel_rfl); (SE_local (i := 7) he1 (by kernel_rfl) (by kernel_rfl) (by kernel_rfl)))) (SE_list SEL_nil) (by kernel_rfl)) (SSs_cons (SS_return SE_bool)
    SSs_nil) SSs_nil)
    (SSs_cons (SS_assignComp (n := 7) (i := 3) (cl := []) he (cok_mk hF hm0 (by kernel_rfl)) (tok_cons hT (by kernel_rfl)) hT hF (fun L2 => .inl (by kernel_rfl)) (by kernel_rfl) (fun _ => rfl) (by kernel_rfl) (by kernel_rfl) (by kernel_rfl) (SE_local (i := 0) he (by kernel_rfl) (by kernel_rfl) (by kernel_rfl)) (fun L2 hF2 => have he2 := eok_of hF2 he (by kernel_rfl); have hT2 := tok_cons (x := "op") (n := 7) hT (by kernel_rfl); (SI_one (ST_cmp (SE_sub (SE_local (i := 7) he2 (by kernel_rfl) (by kernel_rfl) (by kernel_rfl)) SE_int rfl) SE_str (by kernel_rfl)))) (fun L2 hF2 => have he2 := eok_of hF2 he (by kernel_rfl); have hT2 := tok_cons (x := "op") (n := 7) hT (by kernel_rfl); (SE_sub (SE_local (i := 7) he2 (by kernel_rfl) (by kernel_rfl) (by kernel_rfl)) SE_int rfl)))
    (SSs_cons (SS_assignComp (n := 7) (i := 5) (cl := []) he (cok_mk hF hm0 (by kernel_rfl)) (tok_cons hT (by kernel_rfl)) hT hF (fun L3 => .inl (by kernel_rfl)) (by kernel_rfl) (fun _ => rfl) (by kernel_rfl) (by kernel_rfl) (by kernel_rfl) (SE_local (i := 1) he (by kernel_rfl) (by kernel_rfl) (by kernel_rfl)) (fun L3 hF3 => have he3 := eok_of hF3 he (by kernel_rfl); have hT3 := tok_cons (x := "op") (n := 7) hT (by kernel_rfl); (SI_one (ST_cmp (SE_sub (SE_local (i := 7) he3 (by kernel_rfl) (by kernel_rfl) (by kernel_rfl)) SE_int rfl) SE_str (by kernel_rfl)))) (fun L3 hF3 => have he3 := eok_of hF3 he (by kernel_rfl); have hT3 := tok_cons (x := "op") (n := 7) hT (by kernel_rfl); (SE_sub (SE_local (i := 7) he3 (by kernel_rfl) (by kernel_rfl) (by kernel_rfl)) SE_int rfl)))
    (SSs_cons (SS_for (SE_tcall (t := "range") he (by kernel_rfl) (by kernel_rfl) H.b_range (SEL_cons (SE_bcall (id := "len") he (by kernel_rfl) (by kernel_rfl) H.b_len (SEL_cons (SE_local (i := 3) he (by kernel_rfl) (by kernel_rfl) (by kernel_rfl)) SEL_nil rfl) rfl) SEL_nil rfl) rfl) (SA_name (i := 6) he hT hF (by kernel_rfl) (.inl (by kernel_rfl))) (SSs_cons (SS_assign (SE_sub (SE_local (i := 5) he (by kernel_rfl) (by kernel_rfl) (by kernel_rfl)) (SE_local (i := 6) he (by kernel_rfl) (by kernel_rfl) (by kernel_rfl)) rfl) (SA_name (i := 4) he hT hF (by kernel_rfl) (.inl (by kernel_rfl))) rfl (by kernel_rfl) (by kernel_rfl))
    (SSs_cons (SS_if (ST_or (ST_cmp (SE_bcall (id := "len") he (by kernel_rfl) (by kernel_rfl) H.b_len (SEL_cons (SE_call he (by kernel_rfl) (by kernel_rfl) H.f__law_words.at (SEL_cons (SE_sliceTo (SE_local (i := 1) he (by kernel_rfl) (by kernel_rfl) (by kernel_rfl)) (SE_local (i := 4) he (by kernel_rfl) (by kernel_rfl) (by kernel_rfl))) SEL_nil rfl) rfl) SEL_nil rfl) rfl) (SE_sub (SE_local (i := 3) he (by kernel_rfl) (by kernel_rfl) (by kernel_rfl)) (SE_local (i := 6) he (by kernel_rfl) (by kernel_rfl) (by kernel_rfl)) rfl) (by kernel_rfl)) (ST_cmp (SE_sub (SE_sub (SE_local (i := 1) he (by kernel_rfl) (by kernel_rfl) (by kernel_rfl)) (SE_local (i := 4) he (by kernel_rfl) (by kernel_rfl) (by kernel_rfl)) rfl) SE_int rfl) SE_str (by kernel_rfl))) (SSs_cons (SS_return SE_bool)
    SSs_nil) SSs_nil)
    (SSs_cons (SS_if (ST_and (ST_cmp (SE_local (i := 4) he (by kernel_rfl) (by kernel_rfl) (by kernel_rfl)) SE_int (by kernel_rfl)) (ST_cmp (SE_sub (SE_sub (SE_local (i := 1) he (by kernel_rfl) (by kernel_rfl) (by kernel_rfl)) (SE_binop (SE_local (i := 4) he (by kernel_rfl) (by kernel_rfl) (by kernel_rfl)) SE_int) rfl) SE_int rfl) SE_str (by kernel_rfl))) (SSs_cons (SS_return SE_bool)
    SSs_nil) SSs_nil)
    SSs_nil))) (fun _ => rfl) (.inl fun _ _ => rfl))
    (SSs_cons (SS_return SE_bool)
    SSs_nil))))))) rfl ?_
  walk_at "s"
  refine c_words H hj (by lia) ?_
  walk_at "s"
  refine c_words H (get_app hi) (by lia) ?_
  refine ⟨_, ne_strs (get_app get_last) get_last, ?_⟩
  refine if_f (by rw [T.words]; simp) ?_
  walk_at "s"
  have hE0 : Ext mh (mh ++ [MO.list ((wordsF out).map .str)] ++ [MO.list ((wordsF ops).map .str)]) := ((Ext.refl' mh).app _).app _
  generalize mh ++ [MO.list ((wordsF out).map .str)] ++ [MO.list ((wordsF ops).map .str)] = m0 at hE0
  refine ⟨rfl, ?_⟩
  walk_at "s"
  refine it_list (hE0.get hj) ?_
  refine len_ok (by simp; lia) ?_
  refine compN_ind (f := opM) (fun r ou m => Ext mh m ∧ ou = [] ∧ ∀ op ∈ r, op ∈ out) ?_ ?_ _ _ _ ⟨hE0, rfl, fun _ h => h⟩
  rotate_left
  · rintro op r ou m K ⟨he, rfl, hsub⟩ hK
    have hop := hsub op List.mem_cons_self
    walk_at "s"
    refine c_reads_of H (T.okr op hop) ?_
    walk_at "s"
    refine c_writes_of H ?_
    walk_at "s"
    refine b_lists (get_app get_last) get_last (by have := reads_len op; simp; lia) ?_
    refine bc_max (ns := reads op ++ [writes op]) (by rw [List.map_append]; exact get_last) (by simp) ?_
    walk_at "s"
    have hlt := T.regs op hop
    refine cmp_f (ge_f hlt) ?_
    refine if_f rfl ?_
    refine ⟨get_app (get_app (get_app (he.get hj))), hK _ _ ⟨((he.app _).app _).app _, rfl, fun x hx => hsub x (List.mem_cons_of_mem _ hx)⟩⟩
  rintro ou m1 ⟨he1, rfl, _⟩
  walk_at "s"
  refine ⟨_, ne_nil (get_app get_last) get_last, ?_⟩
  refine if_f rfl ?_
  walk_at "s"
  have hE1 : Ext mh (id m1 ++ [MO.list []] ++ [MO.list []]) := (he1.app _).app _
  generalize id m1 ++ [MO.list []] ++ [MO.list []] = m2 at hE1
  refine ⟨rfl, ?_⟩
  walk_at "s"
  refine it_list (hE1.get hi) ?_
  refine len_ok (by simp; lia) ?_
  have trues_app : ∀ (l : List Op) op, truesF (l ++ [op]) = truesF l ++ (match op with | .tru _ g => [g] | _ => []) := fun l op => by
    unfold truesF
    rw [List.filterMap_append]
    congr 1
    cases op <;> rfl
  refine compN_ind (f := opM) (fun r ou m => m = m2 ∧ ∃ done, ops = done ++ r ∧ ou = (truesF done).map .int) ?_ ?_ _ _ _ ⟨rfl, [], rfl, rfl⟩
  rotate_left
  · rintro op r ou m K ⟨rfl, done, rfl, rfl⟩ hK
    walk_at "s"
    refine g_op0 ?_
    refine ⟨_, eqs_m, ?_⟩
    rw [name_true]
    have := trues_app done op
    cases op <;> first
      | (refine if_t rfl ?_
         dsimp only [opM]
         walk_at "s"
         refine ⟨hE1.get hi, hK _ _ ⟨rfl, _, (List.append_assoc done [_] r).symm, ?_⟩⟩
         rw [this]; simp)
      | (refine if_f rfl ?_
         refine ⟨hE1.get hi, hK _ _ ⟨rfl, _, (List.append_assoc done [_] r).symm, ?_⟩⟩
         rw [this]; simp)
  rintro ou m3 ⟨rfl, done, hd, rfl⟩
  rw [List.append_nil] at hd
  subst hd
  have hG : (id m3 ++ [MO.list ((truesF ops).map .int)])[(id m3).length]? = some (.list ((truesF ops).map .int)) := get_last
  have hE3 : Ext mh (id m3 ++ [MO.list ((truesF ops).map .int)]) := hE1.app _
  generalize id m3 ++ [MO.list ((truesF ops).map .int)] = m4 at hG hE3
  generalize (id m3).length = jg at hG
  walk_at "s"
  refine ⟨rfl, ?_⟩
  walk_at "s"
  refine it_list (hE3.get hj) ?_
  refine len_ok (by simp; lia) ?_
  refine compN_ind (f := opM) (fun r ou m => m = m4 ∧ ∃ done, out = done ++ r ∧ ou = (truesF done).map .int) ?_ ?_ _ _ _ ⟨rfl, [], rfl, rfl⟩
  rotate_left
  · rintro op r ou m K ⟨rfl, done, rfl, rfl⟩ hK
    walk_at "s"
    refine g_op0 ?_
    refine ⟨_, eqs_m, ?_⟩
    rw [name_true]
    have := trues_app done op
    cases op <;> first
      | (refine if_t rfl ?_
         dsimp only [opM]
         walk_at "s"
         refine ⟨hE3.get hj, hK _ _ ⟨rfl, _, (List.append_assoc done [_] r).symm, ?_⟩⟩
         rw [this]; simp)
      | (refine if_f rfl ?_
         refine ⟨hE3.get hj, hK _ _ ⟨rfl, _, (List.append_assoc done [_] r).symm, ?_⟩⟩
         rw [this]; simp)
  rintro ou m5 ⟨rfl, done, hd, rfl⟩
  rw [List.append_nil] at hd
  subst hd
  have hP : (id m5 ++ [MO.list ((truesF out).map .int)])[(id m5).length]? = some (.list ((truesF out).map .int)) := get_last
  have hG5 : (id m5 ++ [MO.list ((truesF out).map .int)])[jg]? = some (.list ((truesF ops).map .int)) := get_app hG
  have hE5 : Ext mh (id m5 ++ [MO.list ((truesF out).map .int)]) := hE3.app _
  generalize id m5 ++ [MO.list ((truesF out).map .int)] = m6 at hP hG5 hE5
  generalize (id m5).length = jp at hP
  walk_at "s"
  refine bc_len_list hG5 ?_
  rw [List.length_map]
  refine tc_range1 ?_
  have htl : (truesF ops).length ≤ 60 := Nat.le_trans (List.length_filterMap_le _ _) hl
  have hr := range_up (truesF ops).length (by lia)
  refine it_range ⟨hr.1, by rw [hr.2]; lia⟩ ?_
  rw [rangeN (by lia)]
  refine forN_id (f := fun (x : Nat) => MV.int ((x : Nat) : Int)) (TdI mh ops out count i j jg jp) ?_ ?_ _ _ _
    ⟨none, none, rfl, hE5, hG5, hP, fun x hx => List.mem_range.mp hx⟩
  · rintro v m ⟨pl, tu, rfl, he, _⟩
    walk_at "s"
    exact hQ _ he
  · rintro x r v m K ⟨pl, tu, rfl, he, hg, hp, hb⟩ hK
    have hx := hb x List.mem_cons_self
    obtain ⟨g, hgx⟩ : ∃ g, (truesF ops)[x]? = some g := ⟨_, List.getElem?_eq_getElem hx⟩
    obtain ⟨p, hpx, hpl, hw, hk1, hk2⟩ := T.jumps x g hgx
    have hjm := he.get hj
    have hopp : ∃ op, out[p]? = some op := ⟨_, List.getElem?_eq_getElem hpl⟩
    obtain ⟨op, hop⟩ := hopp
    walk_at "s"
    refine g_list hp (by lia) (by simpa using getElem_map hpx) ?_
    walk_at "s"
    refine st1 hjm (by lia) (by simp; lia) ?_
    rw [show ((p : Int)).toNat = p by lia, ← List.map_take]
    refine c_words H get_last (by simp; lia) ?_
    refine bc_len_list get_last ?_
    rw [List.length_map]
    walk_at "s"
    refine g_list (get_app (get_app hg)) (by lia) (by simpa using getElem_map hgx) ?_
    refine ⟨_, ne_int, ?_⟩
    refine if_f (by rw [hw]; simp) ?_
    walk_at "s"
    refine g_list (get_app (get_app hjm)) (by lia) (by simpa using getElem_map hop) ?_
    walk_at "s"
    refine g_op0 ?_
    refine ⟨_, eqs_m, ?_⟩
    refine if_f (hk1 op hop) ?_
    walk_at "s"
    by_cases hp0 : 0 < p
    · refine cmp_t (gt_t (by lia)) ?_
      obtain ⟨op', hop'⟩ : ∃ op, out[p - 1]? = some op := ⟨_, List.getElem?_eq_getElem (by lia)⟩
      walk_at "s"
      refine g_list (get_app (get_app hjm)) (by lia) (m := opM op') (by rw [show ((p : Int) - 1).toNat = p - 1 by lia]; exact getElem_map hop') ?_
      walk_at "s"
      refine g_op0 ?_
      refine ⟨_, eqs_m, ?_⟩
      refine if_f (hk2 hp0 op' hop') ?_
      walk_at "s"
      refine hK _ _ ⟨_, _, rfl, (he.app _).app _, get_app (get_app hg), get_app (get_app hp), fun y hy => hb y (List.mem_cons_of_mem _ hy)⟩
    · refine cmp_f (gt_f (by lia)) ?_
      walk_at "s"
      refine hK _ _ ⟨_, _, rfl, (he.app _).app _, get_app (get_app hg), get_app (get_app hp), fun y hy => hb y (List.mem_cons_of_mem _ hy)⟩
noncomputable def in4 (r : Int) : Prop := 0 ≤ r ∧ r < 4
noncomputable def plainOp (n : Nat) : Op → Prop
  | .set a => in4 a
  | .move a b => in4 a ∧ in4 b
  | .bin a b c => in4 a ∧ in4 b ∧ in4 c
  | .store a b => in4 a ∧ in4 b
  | .tru a g => in4 a ∧ 0 ≤ g ∧ g < n
  | .ret _ => False
  | .keep _ _ => False
  | .fetch _ _ => False

structure CodeOK (ops : List Op) : Prop where
  size : 4 ≤ ops.length ∧ ops.length ≤ 6
  shape : ∃ pre r, ops = pre ++ [.ret r] ∧ in4 r ∧ ∀ op ∈ pre, plainOp ops.length op

inductive LcI (mh : MH) (ip id t x : Nat) (r : List Nat) (v : Vars) (m : MH) : Prop
  | mk (ops : List Op) (p : Nat) (a b c tu wa : Option MV) (h1 : v = [some (.ref id), a, b, c, some (.ref mh.length), some (.int ((4 + x : Nat) : Int)), tu, wa]) (h2 : Ext (mh.set id (drumM ip ((t + 1 + 4 * p : Nat) : Int))) m) (h3 : m[mh.length]? = some (.list (ops.map opM)))
    (h4 : r = List.range' p (3 + x - p)) (h5 : p ≤ 3 + x) (h6 : ops.length = p) (h7 : ∀ op ∈ ops, plainOp (4 + x) op)

theorem c_law_code {C : Cx} (H : Hyp C) {k id ip t : Nat} {pins : List Int} {Q : MV → MH → Prop} {mh : MH} (hd : mh[id]? = some (drumM ip t)) (hp : mh[ip]? = some (.list (pins.map .int))) (hne : id ≠ ip) (ht : t ≤ 100)
    (hQ : ∀ ops (t' j : Nat) m, CodeOK ops → t' ≤ t + 22 → Ext (mh.set id (drumM ip (t' : Int))) m → m[j]? = some (.list (ops.map opM)) → mh.length ≤ j → Q (.ref j) m) : CallR C (k + 2) "_law_code" [.ref id] Q mh := by
  have hil : id < mh.length := (List.getElem?_eq_some_iff.mp hd).1
  have hpl : ip < mh.length := (List.getElem?_eq_some_iff.mp hp).1
  refine call_own H.f__law_code ["drum", "a", "b", "c", "ops", "size", "turn", "way"] (sok_mk (by kernel_rfl)) 7 (fun L qual code hF => have he := eok_fenv (L := L) (qual := qual) (fa := C.fa "_law_code") (code := code) (sc := scopeAt 34) (by kernel_rfl); have hT := tok_of ["drum", "a", "b", "c", "ops", "size", "turn", "way"];
   (SSs_cons (SS_assign (SE_binop SE_int (SE_call he (by kernel_rfl) (by kernel_rfl) H.f__law_knob.at (SEL_cons (SE_local (i := 0) he (by kernel_rfl) (by kernel_rfl) (by kernel_rfl)) (SEL_cons SE_int SEL_nil rfl) rfl) rfl)) (SA_name (i := 5) he hT hF (by kernel_rfl) (.inl (by kernel_rfl))) rfl (by kernel_rfl) (by kernel_rfl))
    (SSs_cons (SS_assign (SE_list SEL_nil) (SA_name (i := 4) he hT hF (by kernel_rfl) (.inl (by kernel_rfl))) rfl (by kernel_rfl) (by kernel_rfl))
    (SSs_cons (SS_for (SE_tcall (t := "range") he (by kernel_rfl) (by kernel_rfl) H.b_range (SEL_cons (SE_binop (SE_local (i := 5) he (by kernel_rfl) (by kernel_rfl) (by kernel_rfl)) SE_int) SEL_nil rfl) rfl) (SA_name (i := 6) he hT hF (by kernel_rfl) (.inl (by kernel_rfl))) (SSs_cons (SS_assign (SE_tuple (SEL_cons (SE_call he (by kernel_rfl) (by kernel_rfl) H.f__law_knob.at (SEL_cons (SE_local (i := 0) he (by kernel_rfl) (by kernel_rfl) (by kernel_rfl)) (SEL_cons SE_int SEL_nil rfl) rfl) rfl) (SEL_cons (SE_call he (by kernel_rfl) (by kernel_rfl) H.f__law_knob.at (SEL_cons (SE_local (i := 0) he (by kernel_rfl) (by kernel_rfl) (by kernel_rfl)) (SEL_cons SE_int SEL_nil rfl) rfl) rfl) (SEL_cons (SE_call he (by kernel_rfl) (by kernel_rfl) H.f__law_knob.at (SEL_cons (SE_local (i := 0) he (by kernel_rfl) (by kernel_rfl) (by kernel_rfl)) (SEL_cons SE_int SEL_nil rfl) rfl) rfl) (SEL_cons (SE_call he (by kernel_rfl) (by kernel_rfl) H.f__law_knob.at (SEL_cons (SE_local (i := 0) he (by kernel_rfl) (by kernel_rfl) (by kernel_rfl)) (SEL_cons SE_int SEL_nil rfl) rfl) rfl) SEL_nil rfl) rfl) rfl) rfl)) (SA_tuple (SAL_cons (SA_name (i := 7) he hT hF (by kernel_rfl) (.inl (by kernel_rfl))) (SAL_cons (SA_name (i := 1) he hT hF (by kernel_rfl) (.inl (by kernel_rfl))) (SAL_cons (SA_name (i := 2) he hT hF (by kernel_rfl) (.inl (by kernel_rfl))) (SAL_cons (SA_name (i := 3) he hT hF (by kernel_rfl) (.inl (by kernel_rfl))) SAL_nil rfl) rfl) rfl) rfl) rfl) rfl (by kernel_rfl) (by kernel_rfl))
    (SSs_cons (SS_if (ST_cmp (SE_local (i := 7) he (by kernel_rfl) (by kernel_rfl) (by kernel_rfl)) SE_int (by kernel_rfl)) (SSs_cons (SS_expr (SE_append (SE_local (i := 4) he (by kernel_rfl) (by kernel_rfl) (by kernel_rfl)) (SE_tuple (SEL_cons SE_str (SEL_cons (SE_local (i := 1) he (by kernel_rfl) (by kernel_rfl) (by kernel_rfl)) (SEL_cons (SE_gint he (by kernel_rfl) (by kernel_rfl) H.integer.choose_spec) (SEL_cons SE_int SEL_nil rfl) rfl) rfl) rfl)) rfl (by kernel_rfl) rfl) (by kernel_rfl) (by kernel_rfl))
    SSs_nil) (SSs_cons (SS_if (ST_cmp (SE_local (i := 7) he (by kernel_rfl) (by kernel_rfl) (by kernel_rfl)) SE_int (by kernel_rfl)) (SSs_cons (SS_expr (SE_append (SE_local (i := 4) he (by kernel_rfl) (by kernel_rfl) (by kernel_rfl)) (SE_tuple (SEL_cons SE_str (SEL_cons (SE_local (i := 1) he (by kernel_rfl) (by kernel_rfl) (by kernel_rfl)) (SEL_cons (SE_local (i := 2) he (by kernel_rfl) (by kernel_rfl) (by kernel_rfl)) SEL_nil rfl) rfl) rfl)) rfl (by kernel_rfl) rfl) (by kernel_rfl) (by kernel_rfl))
    SSs_nil) (SSs_cons (SS_if (ST_cmp (SE_local (i := 7) he (by kernel_rfl) (by kernel_rfl) (by kernel_rfl)) SE_int (by kernel_rfl)) (SSs_cons (SS_expr (SE_append (SE_local (i := 4) he (by kernel_rfl) (by kernel_rfl) (by kernel_rfl)) (SE_tuple (SEL_cons SE_str (SEL_cons (SE_local (i := 1) he (by kernel_rfl) (by kernel_rfl) (by kernel_rfl)) (SEL_cons SE_str (SEL_cons (SE_gint he (by kernel_rfl) (by kernel_rfl) H.integer.choose_spec) (SEL_cons (SE_local (i := 2) he (by kernel_rfl) (by kernel_rfl) (by kernel_rfl)) (SEL_cons (SE_local (i := 3) he (by kernel_rfl) (by kernel_rfl) (by kernel_rfl)) SEL_nil rfl) rfl) rfl) rfl) rfl) rfl)) rfl (by kernel_rfl) rfl) (by kernel_rfl) (by kernel_rfl))
    SSs_nil) (SSs_cons (SS_if (ST_cmp (SE_local (i := 7) he (by kernel_rfl) (by kernel_rfl) (by kernel_rfl)) SE_int (by kernel_rfl)) (SSs_cons (SS_expr (SE_append (SE_local (i := 4) he (by kernel_rfl) (by kernel_rfl) (by kernel_rfl)) (SE_tuple (SEL_cons SE_str (SEL_cons (SE_local (i := 1) he (by kernel_rfl) (by kernel_rfl) (by kernel_rfl)) (SEL_cons (SE_local (i := 2) he (by kernel_rfl) (by kernel_rfl) (by kernel_rfl)) SEL_nil rfl) rfl) rfl)) rfl (by kernel_rfl) rfl) (by kernel_rfl) (by kernel_rfl))
    SSs_nil) (SSs_cons (SS_expr (SE_append (SE_local (i := 4) he (by kernel_rfl) (by kernel_rfl) (by kernel_rfl)) (SE_tuple (SEL_cons SE_str (SEL_cons (SE_local (i := 1) he (by kernel_rfl) (by kernel_rfl) (by kernel_rfl)) (SEL_cons (SE_binop (SE_binop (SE_local (i := 2) he (by kernel_rfl) (by kernel_rfl) (by kernel_rfl)) (SE_local (i := 3) he (by kernel_rfl) (by kernel_rfl) (by kernel_rfl))) (SE_local (i := 5) he (by kernel_rfl) (by kernel_rfl) (by kernel_rfl))) SEL_nil rfl) rfl) rfl)) rfl (by kernel_rfl) rfl) (by kernel_rfl) (by kernel_rfl))
    SSs_nil))
    SSs_nil))
    SSs_nil))
    SSs_nil))
    SSs_nil)) (fun _ => rfl) (.inl fun _ _ => rfl))
    (SSs_cons (SS_return (SE_binop (SE_local (i := 4) he (by kernel_rfl) (by kernel_rfl) (by kernel_rfl)) (SE_list (SEL_cons (SE_tuple (SEL_cons SE_str (SEL_cons (SE_call he (by kernel_rfl) (by kernel_rfl) H.f__law_knob.at (SEL_cons (SE_local (i := 0) he (by kernel_rfl) (by kernel_rfl) (by kernel_rfl)) (SEL_cons SE_int SEL_nil rfl) rfl) rfl) SEL_nil rfl) rfl)) SEL_nil rfl))))
    SSs_nil))))) rfl ?_
  walk_at "s"
  refine c_knob H hd hp hne (by lia) (by decide) ?_
  obtain ⟨k1, k2⟩ := knob_range pins t (many := 3) (by decide)
  obtain ⟨x, hx⟩ : ∃ x : Nat, knobF pins t 3 = x := ⟨(knobF pins t 3).toNat, by lia⟩
  rw [hx] at k2 ⊢
  refine b_add ?_
  rw [show (4 : Int) + (x : Int) = ((4 + x : Nat) : Int) by lia]
  have hlen0 : (mh.set id (drumM ip ((t + 1 : Nat) : Int))).length = mh.length := List.length_set
  walk_at "s"
  rw [show ((4 + x : Nat) : Int) - 1 = ((3 + x : Nat) : Int) by lia]
  have hr := range_up (3 + x) (by lia)
  refine it_range ⟨hr.1, by rw [hr.2]; lia⟩ ?_
  rw [rangeN (by lia), hlen0]
  have hext0 : Ext (mh.set id (drumM ip ((t + 1 : Nat) : Int))) (mh.set id (drumM ip ((t + 1 : Nat) : Int)) ++ [MO.list []]) := ⟨_, rfl⟩
  have hd0 : (mh.set id (drumM ip ((t + 1 : Nat) : Int)) ++ [MO.list []])[mh.length]? = some (.list (([] : List Op).map opM)) := by rw [← hlen0]; exact get_last
  generalize mh.set id (drumM ip ((t + 1 : Nat) : Int)) ++ [MO.list []] = m0 at hext0 hd0
  refine forN_id (f := fun (x : Nat) => MV.int ((x : Nat) : Int)) (LcI mh ip id t x) ?_ ?_ _ _ _
    ⟨[], 0, none, none, none, none, none, rfl, hext0, hd0, by rw [List.range_eq_range']; rfl, Nat.zero_le _, rfl, fun _ h => nomatch h⟩
  · rintro v m ⟨ops, p, a, b, c, tu, wa, rfl, he, hm, hr', hp', hl, hen⟩
    have hpe : p = 3 + x := by
      have := congrArg List.length hr'
      simp at this
      lia
    subst hpe
    have hdm : m[id]? = some (drumM ip ((t + 1 + 4 * (3 + x) : Nat) : Int)) := he.get (get_set_self hd)
    have hpm : m[ip]? = some (.list (pins.map .int)) := he.get (get_ne hne hp)
    walk_at "s"
    refine c_knob H hdm hpm hne (by lia) (by decide) ?_
    obtain ⟨r1, r2⟩ := knob_range pins (t + 1 + 4 * (3 + x)) (many := 4) (by decide)
    walk_at "s"
    have hm2 : (m.set id (drumM ip ((t + 1 + 4 * (3 + x) + 1 : Nat) : Int)))[mh.length]? = some (.list (ops.map opM)) := get_ne (by lia) hm
    have he2 := he.reset (y := drumM ip ((t + 1 + 4 * (3 + x) + 1 : Nat) : Int)) hil
    have hml : mh.length ≤ (m.set id (drumM ip ((t + 1 + 4 * (3 + x) + 1 : Nat) : Int)) ++ [MO.list [MV.tup [MV.str "return", MV.int (knobF pins (t + 1 + 4 * (3 + x)) 4)]]]).length := by have := he2.len; simp at this ⊢; lia
    refine b_lists (get_app hm2) get_last (by simp; lia) ?_
    walk_at "s"
    refine hQ (ops ++ [.ret (knobF pins (t + 1 + 4 * (3 + x)) 4)]) (t + 1 + 4 * (3 + x) + 1) _ _ ⟨by simp; lia, ops, _, rfl, ⟨r1, r2⟩, fun op h => ?_⟩ (by lia) ((he2.app _).app _) (by rw [List.map_append]; exact get_last) hml
    have := hen op h
    rw [List.length_append, List.length_singleton, hl, show 3 + x + 1 = 4 + x by lia]
    exact this
  · rintro x' r v m K ⟨ops, p, a, b, c, tu, wa, rfl, he, hm, hr', hp', hl, hen⟩ hK
    obtain ⟨hxp, hrest, hplt⟩ : x' = p ∧ r = List.range' (p + 1) (3 + x - (p + 1)) ∧ p < 3 + x := by
      cases hq : 3 + x - p with
      | zero => rw [hq] at hr'; simp at hr'
      | succ q =>
        rw [hq, List.range'_succ] at hr'
        obtain ⟨h1, h2⟩ := List.cons.inj hr'
        exact ⟨h1, by rw [h2]; congr 1; lia, by lia⟩
    subst hxp
    have hdm : m[id]? = some (drumM ip ((t + 1 + 4 * x' : Nat) : Int)) := he.get (get_set_self hd)
    have hpm : m[ip]? = some (.list (pins.map .int)) := he.get (get_ne hne hp)
    generalize hT : t + 1 + 4 * x' = T at *
    walk_at "s"
    refine c_knob H hdm hpm hne (by lia) (by decide) ?_
    walk_at "s"
    refine c_knob H (get_set_self hdm) (get_ne hne hpm) hne (by lia) (by decide) ?_
    rw [List.set_set]
    walk_at "s"
    refine c_knob H (get_set_self hdm) (get_ne hne hpm) hne (by lia) (by decide) ?_
    rw [List.set_set]
    walk_at "s"
    refine c_knob H (get_set_self hdm) (get_ne hne hpm) hne (by lia) (by decide) ?_
    rw [List.set_set]
    obtain ⟨w1, w2⟩ := knob_range pins T (many := 5) (by decide)
    obtain ⟨a1, a2⟩ := knob_range pins (T + 1) (many := 4) (by decide)
    obtain ⟨b1, b2⟩ := knob_range pins (T + 1 + 1) (many := 4) (by decide)
    obtain ⟨c1, c2⟩ := knob_range pins (T + 1 + 1 + 1) (many := 4) (by decide)
    generalize knobF pins T 5 = way at *
    generalize knobF pins (T + 1) 4 = A at *
    generalize knobF pins (T + 1 + 1) 4 = B at *
    generalize knobF pins (T + 1 + 1 + 1) 4 = D at *
    have hm2 : (m.set id (drumM ip ((T + 1 + 1 + 1 + 1 : Nat) : Int)))[mh.length]? = some (.list (ops.map opM)) := get_ne (by lia) hm
    have he2 : Ext (mh.set id (drumM ip ((t + 1 + 4 * (x' + 1) : Nat) : Int))) (m.set id (drumM ip ((T + 1 + 1 + 1 + 1 : Nat) : Int))) := by
      rw [show t + 1 + 4 * (x' + 1) = T + 1 + 1 + 1 + 1 by lia]
      exact he.reset hil
    generalize m.set id (drumM ip ((T + 1 + 1 + 1 + 1 : Nat) : Int)) = m2 at hm2 he2 ⊢
    refine len_ok (by simp) ?_
    refine ⟨_, rfl, rfl, ?_⟩
    have fin : ∀ (op : Op), plainOp (4 + x) op → ∀ (v' : Vars), (∃ a b c tu wa, v' = [some (.ref id), a, b, c, some (.ref mh.length), some (.int ((4 + x : Nat) : Int)), tu, wa]) → K v' (m2.set mh.length (.list (ops.map opM ++ [opM op]))) := fun op hop v' ⟨a, b, c, tu, wa, hv⟩ => by
      refine hK _ _ ⟨ops ++ [op], x' + 1, a, b, c, tu, wa, hv, he2.set (by rw [List.length_set]; exact Nat.le_refl _) _, ?_, hrest, by lia, by simp [hl], fun o ho => ?_⟩
      · rw [get_set_self hm2]; simp
      · rcases List.mem_append.mp ho with h | h
        · exact hen o h
        · rw [List.mem_singleton.mp h]; exact hop
    have hsz : (ops.map opM).length < 4096 := by simp; lia
    walk_at "s"
    refine ⟨_, eq_int, ?_⟩
    by_cases e0 : way = 0
    · refine if_t (by simp [e0]) ?_
      walk_at "s"
      refine ap1 hm2 ?_
      walk_at "s"
      refine ap2 hm2 hsz rfl ?_
      walk_at "s"
      exact fin (.set A) ⟨a1, a2⟩ _ ⟨_, _, _, _, _, rfl⟩
    refine if_f (by simp [e0]) ?_
    walk_at "s"
    refine ⟨_, eq_int, ?_⟩
    by_cases e1 : way = 1
    · refine if_t (by simp [e1]) ?_
      walk_at "s"
      refine ap1 hm2 ?_
      walk_at "s"
      refine ap2 hm2 hsz rfl ?_
      walk_at "s"
      exact fin (.move A B) ⟨⟨a1, a2⟩, b1, b2⟩ _ ⟨_, _, _, _, _, rfl⟩
    refine if_f (by simp [e1]) ?_
    walk_at "s"
    refine ⟨_, eq_int, ?_⟩
    by_cases e2 : way = 2
    · refine if_t (by simp [e2]) ?_
      walk_at "s"
      refine ap1 hm2 ?_
      walk_at "s"
      refine ap2 hm2 hsz rfl ?_
      walk_at "s"
      exact fin (.bin A B D) ⟨⟨a1, a2⟩, ⟨b1, b2⟩, c1, c2⟩ _ ⟨_, _, _, _, _, rfl⟩
    refine if_f (by simp [e2]) ?_
    walk_at "s"
    refine ⟨_, eq_int, ?_⟩
    by_cases e3 : way = 3
    · refine if_t (by simp [e3]) ?_
      walk_at "s"
      refine ap1 hm2 ?_
      walk_at "s"
      refine ap2 hm2 hsz rfl ?_
      walk_at "s"
      exact fin (.store A B) ⟨⟨a1, a2⟩, b1, b2⟩ _ ⟨_, _, _, _, _, rfl⟩
    refine if_f (by simp [e3]) ?_
    walk_at "s"
    refine ap1 hm2 ?_
    walk_at "s"
    refine b_mod (by lia) ?_
    walk_at "s"
    refine ap2 hm2 hsz rfl ?_
    walk_at "s"
    exact fin (.tru A ((B + D).fmod ((4 + x : Nat) : Int))) ⟨⟨a1, a2⟩, Int.fmod_nonneg_of_pos _ (by lia), Int.fmod_lt_of_pos _ (by lia)⟩ _ ⟨_, _, _, _, _, rfl⟩
noncomputable def turnF (es : Rg) : Rg := es.map fun e => (e.1, ((20 : Int) - e.2.2, (20 : Int) - e.2.1))
noncomputable def apartF (es : Rg) : Rg := es.map fun e => (e.1, (3 * e.2.1 * e.2.1 + e.2.1, 3 * e.2.2 * e.2.2 + e.2.2))
noncomputable def fewF (es : Rg) (absent : Int) : Rg := es.filter fun e => decide (e.1 ≠ absent)

noncomputable def IsOrd (es : Rg) (o : List (Int × Int)) : Prop := o.Perm (orderP es) ∧ o.Pairwise (fun a b => lexlt a b = true)

structure Fair (es : Rg) (c : Nat) (absent : Int) : Prop where
  perm : ∀ o, IsOrd es o → ((scanF es c o).dealt.map (·.1) ++ (scanF es c o).sp).Perm (es.map (·.1))
  full : ∀ o, IsOrd es o → ((scanF es c o).sp = [] ↔ fullF es ≤ c)
  most : ∀ o, IsOrd es o → (scanF es c o).sp = [] → (scanF es c o).dealt ≠ [] ∧ listMax ((scanF es c o).dealt.map (·.2)) + 1 = fullF es
  turn : ∀ o o', IsOrd es o → IsOrd (turnF es) o' → (scanF (turnF es) c o').sp.length = (scanF es c o).sp.length
  apart : ∀ o o', IsOrd es o → IsOrd (apartF es) o' → (scanF (apartF es) c o').dealt = (scanF es c o).dealt ∧ (scanF (apartF es) c o').sp = (scanF es c o).sp
  few : ∀ o o', IsOrd es o → IsOrd (fewF es absent) o' → (scanF (fewF es absent) c o').sp.length ≤ (scanF es c o).sp.length ∧ (scanF es c o).sp.length ≤ (scanF (fewF es absent) c o').sp.length + 1

theorem ints_eq : ∀ {xs ys : List Int}, xs.length = ys.length → allEq atomEq (xs.map .int) (ys.map .int) = some (xs == ys)
  | [], [], _ => rfl
  | x :: xs, y :: ys, h => by
    rw [List.map_cons, List.map_cons]
    show and2 (some (x == y)) (allEq atomEq (xs.map .int) (ys.map .int)) = _
    rw [ints_eq (Nat.succ.inj h)]
    rfl
theorem listEq_ints (xs ys : List Int) : listEq (xs.map .int) (ys.map .int) = some (xs == ys) := by
  unfold listEq
  rw [List.length_map, List.length_map]
  by_cases h : xs.length = ys.length
  · rw [if_pos h, ints_eq h]
  · rw [if_neg h]
    have : (xs == ys) = false := by
      rw [beq_eq_false_iff_ne]
      rintro rfl
      exact h rfl
    rw [this]
theorem ne_ints {m : MH} {i j : Nat} {xs ys : List Int} (h1 : m[i]? = some (.list (xs.map .int))) (h2 : m[j]? = some (.list (ys.map .int))) : cmpM .NotEq (.ref i) (.ref j) m = some (!(xs == ys)) := by
  show (eqL m[i]? m[j]?).map (!·) = _
  rw [h1, h2]
  show (listEq _ _).map _ = _
  rw [listEq_ints]; rfl

theorem ne_bool {a b : Bool} {mh} : cmpM .NotEq (.bool a) (.bool b) mh = some (!(a == b)) := rfl

theorem perm_sorted {xs ys : List Int} (hp : xs.Perm ys) (hx : xs.Pairwise (· ≤ ·)) (hy : ys.Pairwise (· ≤ ·)) : xs = ys :=
  hp.eq_of_pairwise (fun a b _ _ h1 h2 => Int.le_antisymm h1 h2) hx hy

theorem hits_same : ∀ (d : List (Int × Int)) (f : List (Int × Int)), (∀ e ∈ d, f.lookup e.1 = some e.2) → hitsM (intsM f) (intsM d) = some true
  | [], _, _ => rfl
  | (k, v) :: d, f, h => by
    have h1 := h (k, v) List.mem_cons_self
    have ih := hits_same d f fun e he => h e (List.mem_cons_of_mem _ he)
    show hitsM (intsM f) ((k, .int v) :: intsM d) = _
    unfold hitsM
    rw [look_ints, show f.lookup k = some v from h1]
    show and2 (some (v == v)) (hitsM (intsM f) (intsM d)) = _
    rw [ih, beq_self_eq_true]
    rfl

theorem lookup_of_nodup {β : Type} : ∀ {d : List (Int × β)}, (d.map (·.1)).Nodup → ∀ e ∈ d, d.lookup e.1 = some e.2
  | (k, v) :: d, h, e, he => by
    rw [List.map_cons, List.nodup_cons] at h
    rw [List.lookup_cons]
    rcases List.mem_cons.mp he with rfl | he
    · simp
    · have hne : e.1 ≠ k := fun q => h.1 (by rw [← q]; exact List.mem_map.mpr ⟨e, he, rfl⟩)
      rw [beq_false_of_ne hne]
      exact lookup_of_nodup h.2 e he

theorem ne_pairs {m : MH} {i j i' j' : Nat} {d : List (Int × Int)} {xs : List Int} (hn : (d.map (·.1)).Nodup) (h1 : m[i]? = some (.dict (intsM d))) (h2 : m[j]? = some (.dict (intsM d))) (h3 : m[i']? = some (.list (xs.map .int))) (h4 : m[j']? = some (.list (xs.map .int)))
    (hij : i ≠ j) (hij' : i' ≠ j') : cmpM .NotEq (.tup [.ref i, .ref i']) (.tup [.ref j, .ref j']) m = some false := by
  have e1 : tupEq m (.ref i) (.ref j) = some true := by
    show (if i = j then none else eqO m[i]? m[j]?) = _
    rw [if_neg hij, h1, h2]
    show (if (intsM d).length = (intsM d).length then hitsM (intsM d) (intsM d) else some false) = _
    rw [if_pos rfl]
    exact hits_same d d (lookup_of_nodup hn)
  have e2 : tupEq m (.ref i') (.ref j') = some true := by
    show (if i' = j' then none else eqO m[i']? m[j']?) = _
    rw [if_neg hij', h3, h4]
    show listEq _ _ = _
    rw [listEq_ints, beq_self_eq_true]
  show (and2 (tupEq m (.ref i) (.ref j)) (and2 (tupEq m (.ref i') (.ref j')) (some true))).map (!·) = _
  rw [e1, e2]
  rfl

theorem stepS_nodup {es : Rg} {st : SSt} {p : Int × Int} (h : (st.dealt.map (·.1)).Nodup) : ((stepS es st p).dealt.map (·.1)).Nodup := by
  unfold stepS
  simp only
  split
  · split
    · exact h
    · exact putP_nodup (delP_nodup h)
  · exact putP_nodup h

theorem scan_nodup (es : Rg) (c : Nat) (o : List (Int × Int)) : ((scanF es c o).dealt.map (·.1)).Nodup := by
  unfold scanF
  suffices h : ∀ (o : List (Int × Int)) (st : SSt), (st.dealt.map (·.1)).Nodup → ((o.foldl (stepS es) st).dealt.map (·.1)).Nodup from h o _ (by simp)
  intro o
  induction o with
  | nil => intro st h; exact h
  | cons p o ih => intro st h; exact ih _ (stepS_nodup h)

inductive FaI (m4 : MH) (es : Rg) (c : Nat) (absent : Int) (ep i ja jd jf jt js : Nat) (r : Rg) (v : Vars) (m : MH) : Prop
  | mk (done : Rg) (fi la on : Option MV) (h1 : v = [some (.ref i), some (.int (c : Int)), some (.int absent), some (.ref ja), some (.ref jd), some (.ref jf), fi, some (.int (fullF es)), la, on, some (.ref jt), some (.ref js)]) (h2 : es = done ++ r)
    (h3 : m[i]? = some (.fz (rgM es) ep)) (h4 : m[jt]? = some (.dict (rgM (turnF done)))) (h5 : m[ja]? = some (.dict (rgM (apartF done)))) (h6 : m[jf]? = some (.dict (rgM (fewF done absent)))) (h7 : ∀ j, j < jt → j ≠ i → m[j]? = m4[j]?)

theorem c_is_fair {C : Cx} (H : Hyp C) {k i c : Nat} {es : Rg} {absent : Int} {Q : MV → MH → Prop} {mh : MH} (hi : mh[i]? = some (.dict (rgM es))) (hes : RgOK es) (hc : c ≤ 60) (F : Fair es c absent)
    (hQ : ∀ m, Ext mh m → Q (.bool true) m) : CallR C (k + 2) "_law_is_fair" [.ref i, .int c, .int absent] Q mh := by
  have hnd := hes.nodup
  have h5 := hes.n.2
  refine call_own H.f__law_is_fair ["ranges", "count", "absent", "apart", "dealt", "fewer", "first", "fullest", "last", "one", "turned", "without"] (sok_mk (by kernel_rfl)) 9 (fun L qual code hF => have he := eok_fenv (L := L) (qual := qual) (fa := C.fa "_law_is_fair") (code := code) (sc := scopeAt 33) (by kernel_rfl); have hT := tok_of ["ranges", "count", "absent", "apart", "dealt", "fewer", "first", "fullest", "last", "one", "turned", "without"];
   (SSs_cons (SS_assign (SE_call he (by kernel_rfl) (by kernel_rfl) H.f_scan.at (SEL_cons (SE_local (i := 0) he (by kernel_rfl) (by kernel_rfl) (by kernel_rfl)) (SEL_cons (SE_local (i := 1) he (by kernel_rfl) (by kernel_rfl) (by kernel_rfl)) SEL_nil rfl) rfl) rfl) (SA_tuple (SAL_cons (SA_name (i := 4) he hT hF (by kernel_rfl) (.inr ⟨(by kernel_rfl), L+1, (by kernel_rfl)⟩)) (SAL_cons (SA_name (i := 11) he hT hF (by kernel_rfl) (.inl (by kernel_rfl))) SAL_nil rfl) rfl) rfl) rfl (by kernel_rfl) (by kernel_rfl))
    (SSs_cons (SS_assign (SE_call he (by kernel_rfl) (by kernel_rfl) H.f__law_fullest.at (SEL_cons (SE_local (i := 0) he (by kernel_rfl) (by kernel_rfl) (by kernel_rfl)) SEL_nil rfl) rfl) (SA_name (i := 7) he hT hF (by kernel_rfl) (.inl (by kernel_rfl))) rfl (by kernel_rfl) (by kernel_rfl))
    (SSs_cons (SS_if (ST_or (ST_cmp (SE_sorted he (by kernel_rfl) (by kernel_rfl) H.b_sorted (SEL_cons (SE_binop (SE_tcall (t := "list") he (by kernel_rfl) (by kernel_rfl) H.b_list (SEL_cons (SE_cell (i := 4) (c := L+1) he (by kernel_rfl) (by kernel_rfl) (by kernel_rfl) (by kernel_rfl)) SEL_nil rfl) rfl) (SE_local (i := 11) he (by kernel_rfl) (by kernel_rfl) (by kernel_rfl))) SEL_nil rfl) rfl) (SE_sorted he (by kernel_rfl) (by kernel_rfl) H.b_sorted (SEL_cons (SE_local (i := 0) he (by kernel_rfl) (by kernel_rfl) (by kernel_rfl)) SEL_nil rfl) rfl) (by kernel_rfl)) (ST_cmp (SE_cmp (SE_local (i := 11) he (by kernel_rfl) (by kernel_rfl) (by kernel_rfl)) (SE_list SEL_nil) (by kernel_rfl)) (SE_cmp (SE_local (i := 1) he (by kernel_rfl) (by kernel_rfl) (by kernel_rfl)) (SE_local (i := 7) he (by kernel_rfl) (by kernel_rfl) (by kernel_rfl)) (by kernel_rfl)) (by kernel_rfl))) (SSs_cons (SS_return SE_bool)
    SSs_nil) SSs_nil)
    (SSs_cons (SS_if (ST_and (ST_cmp (SE_local (i := 11) he (by kernel_rfl) (by kernel_rfl) (by kernel_rfl)) (SE_list SEL_nil) (by kernel_rfl)) (ST_cmp (SE_binop (SE_bcall (id := "max") he (by kernel_rfl) (by kernel_rfl) H.b_max (SEL_cons (SE_comp (n := 12) (cl := [("dealt", L+1)]) he (cok_mk hF (hm1 (by kernel_rfl)) (by kernel_rfl)) (tok_cons hT (by kernel_rfl)) (fun L1 => .inl (by kernel_rfl)) (by kernel_rfl) (fun _ => rfl) (SE_cell (i := 4) (c := L+1) he (by kernel_rfl) (by kernel_rfl) (by kernel_rfl) (by kernel_rfl)) (fun L1 hF1 => have he1 := eok_of hF1 he (by kernel_rfl); have hT1 := tok_cons (x := "one") (n := 12) hT (by kernel_rfl); SI_nil) (fun L1 hF1 => have he1 := eok_of hF1 he (by kernel_rfl); have hT1 := tok_cons (x := "one") (n := 12) hT (by kernel_rfl); (SE_sub (SE_cell (i := 4) (c := L+1) he1 (by kernel_rfl) (by kernel_rfl) (by kernel_rfl) (by kernel_rfl)) (SE_local (i := 12) he1 (by kernel_rfl) (by kernel_rfl) (by kernel_rfl)) rfl))) SEL_nil rfl) rfl) SE_int) (SE_local (i := 7) he (by kernel_rfl) (by kernel_rfl) (by kernel_rfl)) (by kernel_rfl))) (SSs_cons (SS_return SE_bool)
    SSs_nil) SSs_nil)
    (SSs_cons (SS_swap3 (x := "turned") (y := "apart") (z := "fewer") (i := 10) (j := 3) (l := 5) he hT hF (by kernel_rfl) (by kernel_rfl) (by kernel_rfl) (by kernel_rfl) (by kernel_rfl) (by kernel_rfl) (by kernel_rfl) (by kernel_rfl) (SE_tuple (SEL_cons (SE_dict0 H.sys) (SEL_cons (SE_dict0 H.sys) (SEL_cons (SE_dict0 H.sys) SEL_nil rfl) rfl) rfl)))
    (SSs_cons (SS_for (SE_local (i := 0) he (by kernel_rfl) (by kernel_rfl) (by kernel_rfl)) (SA_name (i := 9) he hT hF (by kernel_rfl) (.inl (by kernel_rfl))) (SSs_cons (SS_assign (SE_sub (SE_local (i := 0) he (by kernel_rfl) (by kernel_rfl) (by kernel_rfl)) (SE_local (i := 9) he (by kernel_rfl) (by kernel_rfl) (by kernel_rfl)) rfl) (SA_tuple (SAL_cons (SA_name (i := 6) he hT hF (by kernel_rfl) (.inl (by kernel_rfl))) (SAL_cons (SA_name (i := 8) he hT hF (by kernel_rfl) (.inl (by kernel_rfl))) SAL_nil rfl) rfl) rfl) rfl (by kernel_rfl) (by kernel_rfl))
    (SSs_cons (SS_assign (SE_tuple (SEL_cons (SE_binop SE_int (SE_local (i := 8) he (by kernel_rfl) (by kernel_rfl) (by kernel_rfl))) (SEL_cons (SE_binop SE_int (SE_local (i := 6) he (by kernel_rfl) (by kernel_rfl) (by kernel_rfl))) SEL_nil rfl) rfl)) (SA_sub (SE_local (i := 10) he (by kernel_rfl) (by kernel_rfl) (by kernel_rfl)) (SE_local (i := 9) he (by kernel_rfl) (by kernel_rfl) (by kernel_rfl))) rfl (by kernel_rfl) (by kernel_rfl))
    (SSs_cons (SS_assign (SE_tuple (SEL_cons (SE_binop (SE_binop (SE_binop SE_int (SE_local (i := 6) he (by kernel_rfl) (by kernel_rfl) (by kernel_rfl))) (SE_local (i := 6) he (by kernel_rfl) (by kernel_rfl) (by kernel_rfl))) (SE_local (i := 6) he (by kernel_rfl) (by kernel_rfl) (by kernel_rfl))) (SEL_cons (SE_binop (SE_binop (SE_binop SE_int (SE_local (i := 8) he (by kernel_rfl) (by kernel_rfl) (by kernel_rfl))) (SE_local (i := 8) he (by kernel_rfl) (by kernel_rfl) (by kernel_rfl))) (SE_local (i := 8) he (by kernel_rfl) (by kernel_rfl) (by kernel_rfl))) SEL_nil rfl) rfl)) (SA_sub (SE_local (i := 3) he (by kernel_rfl) (by kernel_rfl) (by kernel_rfl)) (SE_local (i := 9) he (by kernel_rfl) (by kernel_rfl) (by kernel_rfl))) rfl (by kernel_rfl) (by kernel_rfl))
    (SSs_cons (SS_if (ST_cmp (SE_local (i := 9) he (by kernel_rfl) (by kernel_rfl) (by kernel_rfl)) (SE_local (i := 2) he (by kernel_rfl) (by kernel_rfl) (by kernel_rfl)) (by kernel_rfl)) (SSs_cons (SS_assign (SE_tuple (SEL_cons (SE_local (i := 6) he (by kernel_rfl) (by kernel_rfl) (by kernel_rfl)) (SEL_cons (SE_local (i := 8) he (by kernel_rfl) (by kernel_rfl) (by kernel_rfl)) SEL_nil rfl) rfl)) (SA_sub (SE_local (i := 5) he (by kernel_rfl) (by kernel_rfl) (by kernel_rfl)) (SE_local (i := 9) he (by kernel_rfl) (by kernel_rfl) (by kernel_rfl))) rfl (by kernel_rfl) (by kernel_rfl))
    SSs_nil) SSs_nil)
    SSs_nil)))) (fun _ => rfl) (.inl fun _ _ => rfl))
    (SSs_cons (SS_if (ST_or (ST_cmp (SE_bcall (id := "len") he (by kernel_rfl) (by kernel_rfl) H.b_len (SEL_cons (SE_sub (SE_call he (by kernel_rfl) (by kernel_rfl) H.f_scan.at (SEL_cons (SE_local (i := 10) he (by kernel_rfl) (by kernel_rfl) (by kernel_rfl)) (SEL_cons (SE_local (i := 1) he (by kernel_rfl) (by kernel_rfl) (by kernel_rfl)) SEL_nil rfl) rfl) rfl) SE_int rfl) SEL_nil rfl) rfl) (SE_bcall (id := "len") he (by kernel_rfl) (by kernel_rfl) H.b_len (SEL_cons (SE_local (i := 11) he (by kernel_rfl) (by kernel_rfl) (by kernel_rfl)) SEL_nil rfl) rfl) (by kernel_rfl)) (ST_cmp (SE_call he (by kernel_rfl) (by kernel_rfl) H.f_scan.at (SEL_cons (SE_local (i := 3) he (by kernel_rfl) (by kernel_rfl) (by kernel_rfl)) (SEL_cons (SE_local (i := 1) he (by kernel_rfl) (by kernel_rfl) (by kernel_rfl)) SEL_nil rfl) rfl) rfl) (SE_tuple (SEL_cons (SE_cell (i := 4) (c := L+1) he (by kernel_rfl) (by kernel_rfl) (by kernel_rfl) (by kernel_rfl)) (SEL_cons (SE_local (i := 11) he (by kernel_rfl) (by kernel_rfl) (by kernel_rfl)) SEL_nil rfl) rfl)) (by kernel_rfl))) (SSs_cons (SS_return SE_bool)
    SSs_nil) SSs_nil)
    (SSs_cons (SS_return (SE_cmp2 SE_int (SE_binop (SE_bcall (id := "len") he (by kernel_rfl) (by kernel_rfl) H.b_len (SEL_cons (SE_local (i := 11) he (by kernel_rfl) (by kernel_rfl) (by kernel_rfl)) SEL_nil rfl) rfl) (SE_bcall (id := "len") he (by kernel_rfl) (by kernel_rfl) H.b_len (SEL_cons (SE_sub (SE_call he (by kernel_rfl) (by kernel_rfl) H.f_scan.at (SEL_cons (SE_local (i := 5) he (by kernel_rfl) (by kernel_rfl) (by kernel_rfl)) (SEL_cons (SE_local (i := 1) he (by kernel_rfl) (by kernel_rfl) (by kernel_rfl)) SEL_nil rfl) rfl) rfl) SE_int rfl) SEL_nil rfl) rfl)) SE_int (by kernel_rfl)))
    SSs_nil))))))))) rfl ?_
  walk_at "s"
  refine c_scan H hi hnd h5 hc fun o jd js m1 hp1 hs1 hE1 hD1 hS1 hds hjd hjs => ?_
  have ho : IsOrd es o := ⟨hp1, hs1⟩
  have Fp := F.perm o ho
  have Ff := F.full o ho
  have Fm := F.most o ho
  have Ft := fun o' => F.turn o o' ho
  have Fa := fun o' => F.apart o o' ho
  have Fe := fun o' => F.few o o' ho
  have hdn := scan_nodup es c o
  have hlenD : (scanF es c o).dealt.length ≤ 5 := by
    have := Fp.length_eq; simp at this; lia
  have hlenS : (scanF es c o).sp.length ≤ 5 := by
    have := Fp.length_eq; simp at this; lia
  generalize (scanF es c o).dealt = D at *
  generalize (scanF es c o).sp = S at *
  refine ⟨_, rfl, rfl, ?_⟩
  walk_at "s"
  refine c_fullest H (hE1.get hi) hnd h5 fun m2 hE2 => ?_
  have hE12 := hE1.trans' hE2
  have hD2 := hE2.get hD1
  have hS2 := hE2.get hS1
  walk_at "s"
  refine tc_list_dict hD2 ?_
  rw [show (intsM D).map (fun e => MV.int e.1) = (D.map (·.1)).map .int by simp [intsM]]
  walk_at "s"
  refine b_lists get_last (get_app hS2) (by simp; lia) ?_
  rw [← List.map_append]
  refine .inl ⟨D.map (·.1) ++ S, .inl get_last, by simp; lia, fun ns1 hn1 hn1s => ?_⟩
  walk_at "s"
  refine .inl ⟨es.map (·.1), .inr ⟨rgM es, get_app (get_app (get_app (hE12.get hi))), by simp [rgM]⟩, by simp; lia, fun ns2 hn2 hn2s => ?_⟩
  have hns : ns1 = ns2 := perm_sorted (hn1.trans (Fp.trans hn2.symm)) hn1s hn2s
  subst hns
  refine ⟨_, ne_ints (get_app get_last) get_last, ?_⟩
  refine if_f (by simp) ?_
  have hE3 : Ext m2 (m2 ++ [MO.list ((D.map (·.1)).map .int)] ++ [MO.list ((D.map (·.1) ++ S).map .int)] ++ [MO.list (ns1.map .int)] ++ [MO.list (ns1.map .int)]) := (((((Ext.refl' m2).app _).app _).app _).app _)
  generalize m2 ++ [MO.list ((D.map (·.1)).map .int)] ++ [MO.list ((D.map (·.1) ++ S).map .int)] ++ [MO.list (ns1.map .int)] ++ [MO.list (ns1.map .int)] = m3 at hE3 ⊢
  have hS3 := hE3.get hS2
  have hD3 := hE3.get hD2
  walk_at "s"
  refine ⟨_, eq_nil (get_app hS3) get_last, ?_⟩
  walk_at "s"
  refine ⟨_, rfl, ?_⟩
  refine ⟨_, ne_bool, ?_⟩
  have hSe : (S.map MV.int).isEmpty = decide (fullF es ≤ c) := by
    by_cases hS0 : S = []
    · rw [decide_eq_true (Ff.mp hS0), hS0]; rfl
    · rw [decide_eq_false fun h => hS0 (Ff.mpr h)]
      simp [hS0]
  refine if_f (by rw [hSe]; simp) ?_
  (repeat walk_at "s0")
  refine if_tail (fun m => Ext m2 m) (fun m4 hE4 => ?_) fun tail => ?_
  · walk_at "s"
    have hi4 := hE4.get (hE12.get hi)
    have hD4 := hE4.get hD2
    have hS4 := hE4.get hS2
    have hEm4 := hE12.trans' hE4
    refine ⟨_, _, _, rfl, ?_⟩
    walk_at "s"
    have l1 : (m4 ++ [MO.dict []]).length = m4.length + 1 := by simp
    have l2 : (m4 ++ [MO.dict []] ++ [MO.dict []]).length = m4.length + 2 := by simp
    have hil : i < m4.length := (List.getElem?_eq_some_iff.mp hi4).1
    have hT0 : (m4 ++ [MO.dict []] ++ [MO.dict []] ++ [MO.dict []])[m4.length]? = some (.dict (rgM (turnF []))) := get_app (get_app get_last)
    have hA0 : (m4 ++ [MO.dict []] ++ [MO.dict []] ++ [MO.dict []])[(m4 ++ [MO.dict []]).length]? = some (.dict (rgM (apartF []))) := get_app get_last
    have hF0 : (m4 ++ [MO.dict []] ++ [MO.dict []] ++ [MO.dict []])[(m4 ++ [MO.dict []] ++ [MO.dict []]).length]? = some (.dict (rgM (fewF [] absent))) := get_last
    have hi0 : (m4 ++ [MO.dict []] ++ [MO.dict []] ++ [MO.dict []])[i]? = some (.dict (rgM es)) := get_app (get_app (get_app hi4))
    have hfr0 : ∀ j, j < m4.length → (m4 ++ [MO.dict []] ++ [MO.dict []] ++ [MO.dict []])[j]? = m4[j]? := fun j hj => by
      rw [List.append_assoc, List.append_assoc, List.getElem?_append_left hj]
    rw [l1] at hA0 ⊢
    rw [l2] at hF0 ⊢
    clear l1 l2
    generalize hjt : m4.length = jt at *
    generalize hja : jt + 1 = ja at *
    generalize hjf : jt + 2 = jf at *
    generalize m4 ++ [MO.dict []] ++ [MO.dict []] ++ [MO.dict []] = M0 at *
    refine it_dict hi0 fun ep => ?_
    rw [show (rgM es).map (fun e => MV.int e.1) = es.map (fun e => MV.int e.1) by simp [rgM]]
    refine forN_ind (f := fun (e : Int × Int × Int) => MV.int e.1) (FaI m4 es c absent ep i ja jd jf jt js) ?_ ?_ _ _ _
      ⟨[], none, none, none, rfl, rfl, get_set_self hi0, get_ne (by lia) hT0, get_ne (by lia) hA0, get_ne (by lia) hF0, fun j hj hne => get_ne (Ne.symm hne) (hfr0 j hj)⟩
    · rintro v m ⟨done, fi, la, on, rfl, hd, hfz, hT, hA, hF, hfr⟩
      rw [List.append_nil] at hd
      subst hd
      have hE5 : Ext m4 (m.set i (.dict (rgM es))) := by
        show m4 <+: m.set i (.dict (rgM es))
        rw [List.prefix_iff_getElem?]
        intro j hj
        rw [hjt] at hj
        by_cases e : j = i
        · subst e
          rw [get_set_self hfz, ← hi4, List.getElem?_eq_getElem]
        · rw [get_set_ne (Ne.symm e), hfr j hj e, List.getElem?_eq_getElem]
      have hT5 : (m.set i (.dict (rgM es)))[jt]? = some (.dict (rgM (turnF es))) := get_ne (by lia) hT
      have hA5 : (m.set i (.dict (rgM es)))[ja]? = some (.dict (rgM (apartF es))) := get_ne (by lia) hA
      have hF5 : (m.set i (.dict (rgM es)))[jf]? = some (.dict (rgM (fewF es absent))) := get_ne (by lia) hF
      have hS5 := hE5.get hS4
      have hD5 := hE5.get hD4
      have hE05 := hEm4.trans' hE5
      generalize m.set i (.dict (rgM es)) = m5 at *
      walk_at "s"
      refine c_scan H hT5 (by simpa [turnF, Function.comp_def] using hnd) (by simpa [turnF] using h5) hc fun o1 jd1 js1 m6 p1 s1 e6 d6 sp6 _ _ _ => ?_
      walk_at "s"
      refine bc_len_list sp6 ?_
      walk_at "s"
      refine bc_len_list (e6.get hS5) ?_
      rw [List.length_map, List.length_map, Ft o1 ⟨p1, s1⟩]
      refine ⟨_, ne_int, ?_⟩
      refine if_f (by simp) ?_
      walk_at "s"
      refine c_scan H (e6.get hA5) (by simpa [apartF, Function.comp_def] using hnd) (by simpa [apartF] using h5) hc fun o2 jd2 js2 m7 p2 s2 e7 d7 sp7 hne7 hl7 hl7' => ?_
      obtain ⟨q1, q2⟩ := Fa o2 ⟨p2, s2⟩
      rw [q1] at d7
      rw [q2] at sp7
      walk_at "s"
      have hjd6 : jd < m6.length := by have := (List.getElem?_eq_some_iff.mp (e6.get hD5)).1; exact this
      have hjs6 : js < m6.length := by have := (List.getElem?_eq_some_iff.mp (e6.get hS5)).1; exact this
      refine ⟨_, ne_pairs hdn d7 (e7.get (e6.get hD5)) sp7 (e7.get (e6.get hS5)) (by lia) (by lia), ?_⟩
      refine if_f rfl ?_
      walk_at "s"
      refine bc_len_list (e7.get (e6.get hS5)) ?_
      walk_at "s"
      refine c_scan H (e7.get (e6.get hF5)) ((List.Sublist.map _ List.filter_sublist).nodup hnd) (Nat.le_trans (List.length_filter_le _ _) h5) hc fun o3 jd3 js3 m8 p3 s3 e8 d8 sp8 _ _ _ => ?_
      walk_at "s"
      refine bc_len_list sp8 ?_
      rw [List.length_map, List.length_map]
      obtain ⟨r1, r2⟩ := Fe o3 ⟨p3, s3⟩
      walk_at "s"
      refine ⟨_, le_int, ?_⟩
      refine if_t (by simp; lia) ?_
      walk_at "s"
      refine ⟨_, le_int, ?_⟩
      rw [decide_eq_true (by lia)]
      exact hQ _ (((hE05.trans' e6).trans' e7).trans' e8)
    · rintro e r v m K ⟨done, fi, la, on, rfl, hd, hfz, hT, hA, hF, hfr⟩ hK
      have hlk : es.lookup e.1 = some e.2 := by rw [hd]; exact lookup_mid (hd ▸ hnd)
      have hemem : e ∈ es := by rw [hd]; simp
      obtain ⟨x0, x1, x2⟩ := hes.ends e hemem
      have hknew : e.1 ∉ done.map (·.1) := by
        rw [hd, List.map_append, List.map_cons] at hnd
        intro hm
        exact (List.nodup_append.mp hnd).2.2 _ hm _ List.mem_cons_self rfl
      have hdl : done.length < 100 := by have := congrArg List.length hd; simp at this; lia
      walk_at "s"
      refine g_fz hfz (by rw [look_rg, hlk]; rfl) ?_
      refine ⟨[.int e.2.1, .int e.2.2], rfl, rfl, ?_⟩
      walk_at "s"
      have hp1 := put_map pairM (turnF done) e.1 ((20 : Int) - e.2.2, (20 : Int) - e.2.1)
      rw [putP_new (by simpa [turnF, Function.comp_def] using hknew)] at hp1
      refine set_dict hT (by simp [rgM, turnF]; lia) ?_
      rw [show put (rgM (turnF done)) e.1 (MV.tup [MV.int (20 - e.2.2), MV.int (20 - e.2.1)]) = rgM (turnF (done ++ [e])) from hp1.trans (by simp [rgM, turnF])]
      walk_at "s"
      refine b_mul ⟨by decide, by lia⟩ ?_
      walk_at "s"
      refine b_mul ⟨by lia, by lia⟩ ?_
      walk_at "s"
      refine b_mul ⟨by decide, by lia⟩ ?_
      walk_at "s"
      refine b_mul ⟨by lia, by lia⟩ ?_
      walk_at "s"
      have hp2 := put_map pairM (apartF done) e.1 (3 * e.2.1 * e.2.1 + e.2.1, 3 * e.2.2 * e.2.2 + e.2.2)
      rw [putP_new (by simpa [apartF, Function.comp_def] using hknew)] at hp2
      refine set_dict (get_ne (by lia) hA) (by simp [rgM, apartF]; lia) ?_
      rw [show put (rgM (apartF done)) e.1 (MV.tup [MV.int (3 * e.2.1 * e.2.1 + e.2.1), MV.int (3 * e.2.2 * e.2.2 + e.2.2)]) = rgM (apartF (done ++ [e])) from hp2.trans (by simp [rgM, apartF])]
      walk_at "s"
      refine ⟨_, ne_int, ?_⟩
      have hT2 : ((m.set jt (.dict (rgM (turnF (done ++ [e]))))).set ja (.dict (rgM (apartF (done ++ [e])))))[jt]? = some (.dict (rgM (turnF (done ++ [e])))) := get_ne (by lia) (get_set_self hT)
      have hA2 : ((m.set jt (.dict (rgM (turnF (done ++ [e]))))).set ja (.dict (rgM (apartF (done ++ [e])))))[ja]? = some (.dict (rgM (apartF (done ++ [e])))) := get_set_self (get_ne (by lia) hA)
      have hF2 : ((m.set jt (.dict (rgM (turnF (done ++ [e]))))).set ja (.dict (rgM (apartF (done ++ [e])))))[jf]? = some (.dict (rgM (fewF done absent))) := get_ne (by lia) (get_ne (by lia) hF)
      have hi2 : ((m.set jt (.dict (rgM (turnF (done ++ [e]))))).set ja (.dict (rgM (apartF (done ++ [e])))))[i]? = some (.fz (rgM es) ep) := get_ne (by lia) (get_ne (by lia) hfz)
      have hfr2 : ∀ j, j < jt → j ≠ i → ((m.set jt (.dict (rgM (turnF (done ++ [e]))))).set ja (.dict (rgM (apartF (done ++ [e])))))[j]? = m4[j]? := fun j hj hne => get_ne (by lia) (get_ne (by lia) (hfr j hj hne))
      generalize (m.set jt (.dict (rgM (turnF (done ++ [e]))))).set ja (.dict (rgM (apartF (done ++ [e])))) = m' at *
      by_cases hab : e.1 = absent
      · refine if_f (by simp [hab]) ?_
        have hff : fewF (done ++ [e]) absent = fewF done absent := by simp [fewF, hab]
        walk_at "s"
        refine ⟨hi2, ?_⟩
        walk_at "s"
        exact hK _ _ ⟨done ++ [e], _, _, _, rfl, by rw [hd]; simp, hi2, hT2, hA2, by rw [hff]; exact hF2, hfr2⟩
      · refine if_t (by simp [hab]) ?_
        have hff : fewF (done ++ [e]) absent = fewF done absent ++ [e] := by simp [fewF, hab]
        walk_at "s"
        have hp3 := put_map pairM (fewF done absent) e.1 (e.2.1, e.2.2)
        rw [putP_new (es := fewF done absent) (fun hm => hknew ((List.Sublist.map (·.1) (List.filter_sublist (p := fun e => decide (e.1 ≠ absent)) (l := done))).subset hm))] at hp3
        refine set_dict hF2 (by have := List.length_filter_le (fun e : Int × Int × Int => decide (e.1 ≠ absent)) done; simp only [rgM, fewF, List.length_map]; lia) ?_
        rw [show put (rgM (fewF done absent)) e.1 (MV.tup [MV.int e.2.1, MV.int e.2.2]) = rgM (fewF (done ++ [e]) absent) from hp3.trans (by rw [hff]; rfl)]
        walk_at "s"
        refine ⟨get_ne (by lia) hi2, ?_⟩
        walk_at "s"
        exact hK _ _ ⟨done ++ [e], _, _, _, rfl, by rw [hd]; simp, get_ne (by lia) hi2, get_ne (by lia) hT2, get_ne (by lia) hA2, get_set_self hF2, fun j hj hne => get_ne (by lia) (hfr2 j hj hne)⟩
  walk_at "s"
  refine ⟨_, eq_nil (get_app (get_app hS3)) get_last, ?_⟩
  by_cases hS0 : S = []
  · refine if_t (by rw [hS0]; rfl) ?_
    obtain ⟨hDne, hmax⟩ := Fm hS0
    refine ⟨rfl, ?_⟩
    walk_at "s"
    have hDd := get_app (l := [MO.list []]) (get_app (l := [MO.list []]) hD3)
    have hE3' : Ext m2 (m3 ++ [MO.list []] ++ [MO.list []]) := (hE3.app _).app _
    generalize m3 ++ [MO.list []] ++ [MO.list []] = mm at hDd hE3'
    refine it_dict hDd fun ep => ?_
    have hfz : (mm.set jd (.fz (intsM D) ep))[jd]? = some (.fz (intsM D) ep) := get_set_self hDd
    refine len_ok (by simp [intsM]; lia) ?_
    rw [show (intsM D).map (fun e => MV.int e.1) = D.map (fun e => MV.int e.1) by simp [intsM]]
    refine compN_ind (f := fun (e : Int × Int) => MV.int e.1) (fun r out m' => m' = mm.set jd (.fz (intsM D) ep) ∧ ∃ done, D = done ++ r ∧ out = (done.map (·.2)).map MV.int) ?_ ?_ _ _ _ ⟨rfl, [], rfl, rfl⟩
    rotate_left
    · rintro e r out m' K ⟨rfl, done, hd, rfl⟩ hK
      have hlk : D.lookup e.1 = some e.2 := by rw [hd]; exact lookup_mid (hd ▸ hdn)
      refine st_t ?_
      walk_at "s"
      refine g_fz hfz (by rw [look_ints, hlk]; rfl) ?_
      exact ⟨hfz, hK _ _ ⟨rfl, done ++ [e], by rw [hd]; simp, by simp⟩⟩
    rintro out m' ⟨rfl, done, hd, rfl⟩
    rw [List.append_nil] at hd
    subst hd
    rw [set_back hDd]
    refine bc_max (ns := D.map (·.2)) get_last (by simpa using hDne) ?_
    walk_at "s"
    refine ⟨_, ne_int, ?_⟩
    refine if_f (by rw [hmax]; simp) ?_
    exact tail _ (hE3'.app _)
  · refine if_f (by simp [hS0]) ?_
    refine if_f rfl ?_
    exact tail _ ((hE3.app _).app _)
theorem lookup_isSome_iff {β : Type} {k : Int} : ∀ {es : List (Int × β)}, (es.lookup k).isSome = true ↔ k ∈ es.map (·.1)
  | [] => by simp
  | (a, b) :: es => by
    rw [List.lookup_cons]
    by_cases h : k = a
    · subst h; simp
    · rw [beq_false_of_ne h, lookup_isSome_iff]
      simp [h]

theorem delP_keys {β : Type} (es : List (Int × β)) (k : Int) (h : (es.map (·.1)).Nodup) : (delP es k).map (·.1) = (es.map (·.1)).erase k := by
  unfold delP
  induction es with
  | nil => rfl
  | cons e es ih =>
    rw [List.map_cons, List.nodup_cons] at h
    rw [List.filter_cons, List.map_cons, List.erase_cons]
    by_cases hk : e.1 = k
    · have : es.filter (fun e => decide (e.1 ≠ k)) = es := by
        rw [List.filter_eq_self]
        intro x hx
        have : x.1 ≠ k := fun q => h.1 (by rw [hk, ← q]; exact List.mem_map.mpr ⟨x, hx, rfl⟩)
        simpa using this
      rw [if_neg (by simp [hk]), if_pos (by simp [hk]), this]
    · have hb : (e.1 == k) = false := beq_eq_false_iff_ne.mpr hk
      simp only [ne_eq, hk, not_false_eq_true, decide_true, if_true, List.map_cons, hb, Bool.false_eq_true, if_false]
      rw [ih h.2]

structure SPart (st : SSt) (done : List Int) : Prop where
  nd : (st.dealt.map (·.1)).Nodup
  actnd : st.act.Nodup
  sub : ∀ a ∈ st.act, a ∈ st.dealt.map (·.1)
  perm : (st.dealt.map (·.1) ++ st.sp).Perm done

theorem SPart.step {es : Rg} {st : SSt} {done : List Int} {p : Int × Int} (h : SPart st done) (hn : p.2 ∉ done) : SPart (stepS es st p) (done ++ [p.2]) := by
  obtain ⟨e1, e2, e3⟩ := expF_inv (es := es) (first := p.1) (dealt := st.dealt) st.act (st.act, st.free) h.actnd h.actnd fun _ h => h
  have hpk : p.2 ∉ st.dealt.map (·.1) := fun hm => hn (h.perm.mem_iff.mp (List.mem_append_left _ hm))
  have hnone : st.dealt.lookup p.2 = none := by
    cases q : st.dealt.lookup p.2 with
    | none => rfl
    | some v => exact absurd (lookup_isSome_iff.mp (by rw [q]; rfl)) hpk
  have hpa : p.2 ∉ st.act := fun hm => hpk (h.sub _ hm)
  unfold stepS
  simp only
  generalize expF es p.1 st.dealt st.act (st.act, st.free) = s at e1 e2 e3
  have hps : p.2 ∉ s.1 := fun hm => hpa (e2 _ hm)
  split
  · split
    · rename_i hl
      rw [hl]
      exact ⟨h.nd, e1, fun a ha => h.sub a (e2 a ha), by show (st.dealt.map (·.1) ++ (st.sp ++ [p.2])).Perm _; rw [← List.append_assoc]; exact h.perm.append_right _⟩
    · rename_i hl
      have hlm : lonF es s.1 p.2 ∈ s.1 := by
        rcases lonF_mem (es := es) s.1 p.2 with q | q
        · exact absurd q hl
        · exact q
      generalize lonF es s.1 p.2 = l at hl hlm
      have hlk : l ∈ st.dealt.map (·.1) := h.sub l (e2 l hlm)
      have hdk := delP_keys st.dealt l h.nd
      have hno : (delP st.dealt l).lookup p.2 = none := by rw [delP_lookup]; split <;> first | rfl | exact hnone
      have hpk' : (putP (delP st.dealt l) p.2 ((st.dealt.lookup l).getD 0)).map (·.1) = (st.dealt.map (·.1)).erase l ++ [p.2] := by
        rw [putP_keys, hno, hdk]; rfl
      refine ⟨putP_nodup (delP_nodup h.nd), ?_, fun a ha => ?_, ?_⟩
      · refine List.nodup_append.mpr ⟨e1.erase l, by simp, fun a ha b hb e => ?_⟩
        rw [List.mem_singleton.mp hb] at e
        exact hps (e ▸ List.mem_of_mem_erase ha)
      · show a ∈ (putP (delP st.dealt l) p.2 ((st.dealt.lookup l).getD 0)).map (·.1)
        rw [hpk']
        rcases List.mem_append.mp ha with q | q
        · refine List.mem_append_left _ ?_
          have hal : a ≠ l := fun e => (List.Nodup.not_mem_erase e1) (e ▸ q)
          exact (List.mem_erase_of_ne hal).mpr (h.sub a (e2 a (List.mem_of_mem_erase q)))
        · exact List.mem_append_right _ q
      · show ((putP (delP st.dealt l) p.2 ((st.dealt.lookup l).getD 0)).map (·.1) ++ (st.sp ++ [l])).Perm _
        rw [hpk']
        have h1 : (l :: (st.dealt.map (·.1)).erase l).Perm (st.dealt.map (·.1)) := (List.perm_cons_erase hlk).symm
        have h2 : ((st.dealt.map (·.1)).erase l ++ [p.2] ++ (st.sp ++ [l])).Perm ((l :: (st.dealt.map (·.1)).erase l) ++ st.sp ++ [p.2]) := by
          refine List.perm_iff_count.mpr fun x => ?_
          simp only [List.count_append, List.count_cons, List.count_nil]
          lia
        exact h2.trans (((h1.append_right _).trans h.perm).append_right _)
  · have hkeys : (putP st.dealt p.2 (s.2.getLastD 0)).map (·.1) = st.dealt.map (·.1) ++ [p.2] := by
      rw [putP_keys, hnone]; rfl
    refine ⟨putP_nodup h.nd, ?_, fun a ha => ?_, ?_⟩
    · refine List.nodup_append.mpr ⟨e1, by simp, fun a ha b hb e => ?_⟩
      rw [List.mem_singleton.mp hb] at e
      exact hps (e ▸ ha)
    · show a ∈ (putP st.dealt p.2 (s.2.getLastD 0)).map (·.1)
      rw [hkeys]
      rcases List.mem_append.mp ha with q | q
      · exact List.mem_append_left _ (h.sub a (e2 a q))
      · exact List.mem_append_right _ q
    · show ((putP st.dealt p.2 (s.2.getLastD 0)).map (·.1) ++ st.sp).Perm _
      rw [hkeys]
      have h2 : (st.dealt.map (·.1) ++ [p.2] ++ st.sp).Perm ((st.dealt.map (·.1) ++ st.sp) ++ [p.2]) := by
        refine List.perm_iff_count.mpr fun x => ?_
        simp only [List.count_append]
        lia
      exact h2.trans (h.perm.append_right _)

theorem scan_part {es : Rg} {c : Nat} {o : List (Int × Int)} (hnd : (es.map (·.1)).Nodup) (ho : IsOrd es o) : ((scanF es c o).dealt.map (·.1) ++ (scanF es c o).sp).Perm (es.map (·.1)) := by
  have hkeys : (o.map (·.2)).Perm (es.map (·.1)) := by
    have := ho.1.map (·.2)
    rw [show (orderP es).map (·.2) = es.map (·.1) by simp [orderP]] at this
    exact this
  have key : ∀ (o : List (Int × Int)) (st : SSt) (done : List Int), SPart st done → (done ++ o.map (·.2)).Nodup → SPart (o.foldl (stepS es) st) (done ++ o.map (·.2)) := by
    intro o
    induction o with
    | nil => intro st done h _; simpa using h
    | cons p o ih =>
      intro st done h hn
      have hp : p.2 ∉ done := fun hm => (List.nodup_append.mp hn).2.2 _ hm _ (by simp) rfl
      have := ih (stepS es st p) (done ++ [p.2]) (h.step hp) (by simpa using hn)
      simpa using this
  have := key o ⟨[], downF c, [], []⟩ [] ⟨by simp, List.nodup_nil, (fun _ h => nomatch h), by simp⟩ (by simpa using hkeys.nodup_iff.mpr hnd)
  exact this.perm.trans (by simpa using hkeys)
noncomputable def layF (dealt cells : List (Int × Int)) (sc : Int) (ops : List Op) (s : List Op × List Int) : List Op × List Int :=
  ops.foldl (fun s op => (s.1 ++ spreadF dealt cells sc op, s.2 ++ [(s.1.length : Int)])) s
noncomputable def cellsF (sp : List Int) : List (Int × Int) := sp.zipIdx.map fun x => (x.1, (x.2 : Int))
noncomputable def jumpF (places : List Int) (op : Op) : Op := setJumps op ((jumps op).map fun g => places.getD g.toNat 0)
noncomputable def outF (dealt cells : List (Int × Int)) (sc : Int) (ops : List Op) : List Op := (layF dealt cells sc ops ([], [])).1.map (jumpF (layF dealt cells sc ops ([], [])).2)
noncomputable def placeF (dealt cells : List (Int × Int)) (sc : Int) (ops : List Op) : List Int := (layF dealt cells sc ops ([], [])).2

/-- how the code is dealt -/
structure Dealt (ops : List Op) (N c : Nat) (out : List Op) (pl : List Int) : Prop where
  ex : ∃ (es : Rg) (o : List (Int × Int)), es = rangesF ops ∧ RInv es N ops.length ∧ (∀ op ∈ ops, ∀ r ∈ here op, (es.lookup r).isSome = true) ∧ IsOrd es o ∧
    (((scanF es c o).sp = [] ∧ out = outF (scanF es c o).dealt [] c ops ∧ pl = placeF (scanF es c o).dealt [] c ops) ∨
     ((scanF es c o).sp ≠ [] ∧ ∃ (sc : Nat) (o2 : List (Int × Int)), (c : Int) - mostF ops 1 = sc ∧ IsOrd es o2 ∧ out = outF (scanF es sc o2).dealt (cellsF (scanF es sc o2).sp) sc ops ∧ pl = placeF (scanF es sc o2).dealt (cellsF (scanF es sc o2).sp) sc ops))

theorem spread_len (dealt cells : List (Int × Int)) (sc : Int) (op : Op) : (spreadF dealt cells sc op).length ≤ 4 := by
  have hd := distinct_len (reads op) []
  have hr := reads_len op
  have key : ∀ (l : List Int) (s : PSt), (l.foldl (preF dealt cells sc) s).out.length ≤ s.out.length + l.length := by
    intro l
    induction l with
    | nil => intro s; simp
    | cons r l ih =>
      intro s
      have h1 := ih (preF dealt cells sc s r)
      have h2 : (preF dealt cells sc s r).out.length ≤ s.out.length + 1 := by unfold preF; split <;> simp
      rw [List.foldl_cons, List.length_cons]
      lia
  have h3 := key (distinctF (reads op) []) ⟨[], [], 0⟩
  have h4 : (freshF dealt cells sc op).1.out.length ≤ 2 := by
    unfold freshF
    simp only at h3 ⊢
    simp at hd h3
    lia
  unfold spreadF
  simp only
  split
  · simp; lia
  · split <;> simp <;> lia

theorem lay_len (dealt cells : List (Int × Int)) (sc : Int) : ∀ (ops : List Op) (s : List Op × List Int), (layF dealt cells sc ops s).1.length ≤ s.1.length + 4 * ops.length ∧ (layF dealt cells sc ops s).2.length = s.2.length + ops.length
  | [], s => ⟨by simp [layF], by simp [layF]⟩
  | op :: ops, s => by
    obtain ⟨h1, h2⟩ := lay_len dealt cells sc ops (s.1 ++ spreadF dealt cells sc op, s.2 ++ [(s.1.length : Int)])
    have h3 := spread_len dealt cells sc op
    rw [List.length_append] at h1
    rw [List.length_append] at h2
    refine ⟨?_, ?_⟩
    · show (layF dealt cells sc ops (s.1 ++ spreadF dealt cells sc op, s.2 ++ [(s.1.length : Int)])).1.length ≤ _
      rw [List.length_cons]; lia
    · show (layF dealt cells sc ops (s.1 ++ spreadF dealt cells sc op, s.2 ++ [(s.1.length : Int)])).2.length = _
      rw [List.length_cons]; simp at h2; lia

theorem cells_step {sp : List Int} (hn : sp.Nodup) (p : Nat) (hp : p < sp.length) : putP (cellsF (sp.take p)) (sp.getD p 0) (p : Int) = cellsF (sp.take (p + 1)) := by
  have hk : ∀ l : List Int, (cellsF l).map (·.1) = l := fun l => by
    unfold cellsF
    rw [List.map_map]
    show l.zipIdx.map (fun x => x.1) = l
    exact List.zipIdx_map_fst 0 l
  have hnew : sp.getD p 0 ∉ (cellsF (sp.take p)).map (·.1) := by
    rw [hk]
    intro hm
    obtain ⟨j, hj, e⟩ := List.getElem_of_mem hm
    rw [List.length_take] at hj
    rw [List.getElem_take] at e
    have : sp.getD p 0 = sp[p] := by simp [hp]
    rw [this] at e
    have := (List.getElem_inj hn).mp e
    lia
  rw [putP_new hnew]
  unfold cellsF
  rw [List.take_succ_eq_append_getElem hp, List.zipIdx_append, List.map_append]
  simp [hp, Nat.min_eq_left (Nat.le_of_lt hp)]

theorem cells_lookup {sp : List Int} {r : Int} : ((cellsF sp).lookup r).isSome = true ↔ r ∈ sp := by
  rw [lookup_isSome_iff]
  unfold cellsF
  rw [List.map_map]
  show r ∈ sp.zipIdx.map (fun x => x.1) ↔ _
  rw [List.zipIdx_map_fst]
theorem spread_jumps (dealt cells : List (Int × Int)) (sc : Int) (op : Op) : ∀ op' ∈ spreadF dealt cells sc op, ∀ g ∈ jumps op', g ∈ jumps op := by
  have hpre : ∀ (l : List Int) (s : PSt), (∀ op' ∈ s.out, jumps op' = []) → ∀ op' ∈ (l.foldl (preF dealt cells sc) s).out, jumps op' = [] := by
    intro l
    induction l with
    | nil => intro s h; exact h
    | cons r l ih =>
      intro s h
      refine ih _ fun op' hm => ?_
      unfold preF at hm
      split at hm
      · rcases List.mem_append.mp hm with q | q
        · exact h _ q
        · rw [List.mem_singleton.mp q]; rfl
      · exact h _ hm
  have h1 : ∀ op' ∈ (freshF dealt cells sc op).1.out, jumps op' = [] := hpre _ ⟨[], [], 0⟩ (fun _ h => nomatch h)
  have h2 : jumps (freshF dealt cells sc op).2 = jumps op := by unfold freshF; cases op <;> rfl
  have h3 : ∀ (o : Op) r, jumps (setWrite o r) = jumps o := fun o r => by cases o <;> rfl
  intro op' hm g hg
  unfold spreadF at hm
  simp only at hm
  have a1 : ∀ o, o ∈ (freshF dealt cells sc op).1.out → g ∈ jumps o → g ∈ jumps op := fun o ho h => by rw [h1 o ho] at h; cases h
  split at hm
  · rcases List.mem_append.mp hm with q | q
    · exact a1 _ q hg
    · rw [List.mem_singleton.mp q, h2] at hg; exact hg
  · split at hm
    · rcases List.mem_append.mp hm with q | q
      · exact a1 _ q hg
      · rw [List.mem_singleton.mp q, h3, h2] at hg; exact hg
    · rcases List.mem_append.mp hm with q | q
      · exact a1 _ q hg
      · rcases List.mem_cons.mp q with q | q
        · rw [q, h3, h2] at hg; exact hg
        · rw [List.mem_singleton.mp q] at hg; cases hg

theorem lay_jumps {ops : List Op} {N : Nat} (hok : OpsOK ops N) {dealt cells : List (Int × Int)} {sc : Int} : ∀ (l : List Op) (s : List Op × List Int), (∀ op ∈ s.1, ∀ g ∈ jumps op, 0 ≤ g ∧ g < (ops.length : Int)) → (∀ op ∈ l, op ∈ ops) →
    ∀ op ∈ (layF dealt cells sc l s).1, ∀ g ∈ jumps op, 0 ≤ g ∧ g < (ops.length : Int)
  | [], s, h, _ => h
  | op :: l, s, h, hl => by
    refine lay_jumps hok l (s.1 ++ spreadF dealt cells sc op, s.2 ++ [(s.1.length : Int)]) (fun o ho g hg => ?_) fun o ho => hl o (List.mem_cons_of_mem _ ho)
    rcases List.mem_append.mp ho with q | q
    · exact h o q g hg
    · exact hok.jumps op (hl op List.mem_cons_self) g (spread_jumps dealt cells sc op o q g hg)

inductive DeC (m : MH) (S : List Int) (i ist c jc jd jr js : Nat) (sc : Int) (r : List Nat) (v : Vars) (m' : MH) : Prop
  | mk (p : Nat) (a : Option MV) (h1 : v = [some (.ref i), some (.ref ist), some (.int (c : Int)), a, some (.ref jc), some (.ref jd), none, none, none, some (.ref jr), some (.int sc), some (.ref js)]) (h2 : Ext m m') (h3 : m'[jc]? = some (.dict (intsM (cellsF (S.take p)))))
    (h4 : r = List.range' p (S.length - p)) (h5 : p ≤ S.length)
inductive DeL (m1 : MH) (ops : List Op) (D : List (Int × Int)) (S : List Int) (i ist c jc jd jo jp jr js : Nat) (sc : Int) (a : Option MV) (rest : List Op) (v : Vars) (m' : MH) : Prop
  | mk (s : List Op × List Int) (o9 : Option MV) (h1 : v = [some (.ref i), some (.ref ist), some (.int (c : Int)), a, some (.ref jc), some (.ref jd), o9, some (.ref jo), some (.ref jp), some (.ref jr), some (.int sc), some (.ref js)]) (h2 : Ext m1 m') (h3 : m'[jp]? = some (.list (s.2.map .int))) (h4 : m'[jo]? = some (.list (s.1.map opM)))
    (h5 : layF D (cellsF S) sc rest s = layF D (cellsF S) sc ops ([], [])) (h6 : ∀ op ∈ rest, op ∈ ops) (h7 : s.1.length + 4 * rest.length ≤ 4 * ops.length) (h8 : s.2.length + rest.length = ops.length)
inductive DeT (mh : MH) (ops : List Op) (N c i ist jr : Nat) (es : Rg) (v : Vars) (m : MH) : Prop
  | mk (D : List (Int × Int)) (S : List Int) (jd js : Nat) (sc : Int) (h1 : v = [some (.ref i), some (.ref ist), some (.int (c : Int)), none, none, some (.ref jd), none, none, none, some (.ref jr), some (.int sc), some (.ref js)]) (h2 : Ext mh m) (h3 : m[jd]? = some (.dict (intsM D))) (h4 : m[js]? = some (.list (S.map .int)))
    (h5 : (D.map (·.1) ++ S).Perm (es.map (·.1))) (h6 : ∀ out pl, out = outF D (cellsF S) sc ops → pl = placeF D (cellsF S) sc ops → Dealt ops N c out pl)

theorem c_dealt {C : Cx} (H : Hyp C) {k i ist N c : Nat} {ops : List Op} {sts : List Int} {Q : MV → MH → Prop} {mh : MH} (hi : mh[i]? = some (.list (ops.map opM))) (hst : mh[ist]? = some (.list (sts.map .int))) (hsts : ∀ s ∈ sts, 0 ≤ s ∧ s < ops.length) (hstl : sts.length ≤ 100) (hok : OpsOK ops N) (hc : c ≤ 60)
    (hnr : ∀ es o, es = rangesF ops → RInv es N ops.length → (∀ op ∈ ops, ∀ r ∈ here op, (es.lookup r).isSome = true) → IsOrd es o → (scanF es c o).sp ≠ [] → 0 ≤ (c : Int) - mostF ops 1)
    (hQ : ∀ out pl jo jp m, Dealt ops N c out pl → Ext mh m → m[jo]? = some (.list (out.map opM)) → m[jp]? = some (.list ((sts.map fun s => pl.getD s.toNat 0).map .int)) → Q (.tup [.ref jo, .ref jp]) m) : CallR C (k + 6) "dealt_ops" [.ref i, .ref ist, .int c] Q mh := by
  have hN := hok.hN
  have hsz := hok.size
  refine call_own H.f_dealt_ops ["ops", "starts", "count", "at", "cells", "dealt", "op", "out", "places", "ranges", "scratch", "spilled"] (sok_mk (by kernel_rfl)) 9 (fun L qual code hF => have he := eok_fenv (L := L) (qual := qual) (fa := C.fa "dealt_ops") (code := code) (sc := scopeAt 27) (by kernel_rfl); have hT := tok_of ["ops", "starts", "count", "at", "cells", "dealt", "op", "out", "places", "ranges", "scratch", "spilled"];
   (SSs_cons (SS_assign (SE_call he (by kernel_rfl) (by kernel_rfl) H.f_ranges_of.at (SEL_cons (SE_local (i := 0) he (by kernel_rfl) (by kernel_rfl) (by kernel_rfl)) SEL_nil rfl) rfl) (SA_name (i := 9) he hT hF (by kernel_rfl) (.inl (by kernel_rfl))) rfl (by kernel_rfl) (by kernel_rfl))
    (SSs_cons (SS_assign (SE_call he (by kernel_rfl) (by kernel_rfl) H.f_scan.at (SEL_cons (SE_local (i := 9) he (by kernel_rfl) (by kernel_rfl) (by kernel_rfl)) (SEL_cons (SE_local (i := 2) he (by kernel_rfl) (by kernel_rfl) (by kernel_rfl)) SEL_nil rfl) rfl) rfl) (SA_tuple (SAL_cons (SA_name (i := 5) he hT hF (by kernel_rfl) (.inl (by kernel_rfl))) (SAL_cons (SA_name (i := 11) he hT hF (by kernel_rfl) (.inl (by kernel_rfl))) SAL_nil rfl) rfl) rfl) rfl (by kernel_rfl) (by kernel_rfl))
    (SSs_cons (SS_assign (SE_local (i := 2) he (by kernel_rfl) (by kernel_rfl) (by kernel_rfl)) (SA_name (i := 10) he hT hF (by kernel_rfl) (.inl (by kernel_rfl))) rfl (by kernel_rfl) (by kernel_rfl))
    (SSs_cons (SS_if (ST_val (SE_local (i := 11) he (by kernel_rfl) (by kernel_rfl) (by kernel_rfl)) rfl) (SSs_cons (SS_assign (SE_binop (SE_local (i := 2) he (by kernel_rfl) (by kernel_rfl) (by kernel_rfl)) (SE_call he (by kernel_rfl) (by kernel_rfl) H.f_most_reads.at (SEL_cons (SE_local (i := 0) he (by kernel_rfl) (by kernel_rfl) (by kernel_rfl)) SEL_nil rfl) rfl)) (SA_name (i := 10) he hT hF (by kernel_rfl) (.inl (by kernel_rfl))) rfl (by kernel_rfl) (by kernel_rfl))
    (SSs_cons (SS_if (ST_cmp (SE_local (i := 10) he (by kernel_rfl) (by kernel_rfl) (by kernel_rfl)) SE_int (by kernel_rfl)) (SSs_cons SS_dead
    SSs_nil) SSs_nil)
    (SSs_cons (SS_assign (SE_call he (by kernel_rfl) (by kernel_rfl) H.f_scan.at (SEL_cons (SE_local (i := 9) he (by kernel_rfl) (by kernel_rfl) (by kernel_rfl)) (SEL_cons (SE_local (i := 10) he (by kernel_rfl) (by kernel_rfl) (by kernel_rfl)) SEL_nil rfl) rfl) rfl) (SA_tuple (SAL_cons (SA_name (i := 5) he hT hF (by kernel_rfl) (.inl (by kernel_rfl))) (SAL_cons (SA_name (i := 11) he hT hF (by kernel_rfl) (.inl (by kernel_rfl))) SAL_nil rfl) rfl) rfl) rfl (by kernel_rfl) (by kernel_rfl))
    SSs_nil))) SSs_nil)
    (SSs_cons (SS_assign (SE_dict0 H.sys) (SA_name (i := 4) he hT hF (by kernel_rfl) (.inl (by kernel_rfl))) rfl (by kernel_rfl) (by kernel_rfl))
    (SSs_cons (SS_for (SE_tcall (t := "range") he (by kernel_rfl) (by kernel_rfl) H.b_range (SEL_cons (SE_bcall (id := "len") he (by kernel_rfl) (by kernel_rfl) H.b_len (SEL_cons (SE_local (i := 11) he (by kernel_rfl) (by kernel_rfl) (by kernel_rfl)) SEL_nil rfl) rfl) SEL_nil rfl) rfl) (SA_name (i := 3) he hT hF (by kernel_rfl) (.inl (by kernel_rfl))) (SSs_cons (SS_assign (SE_local (i := 3) he (by kernel_rfl) (by kernel_rfl) (by kernel_rfl)) (SA_sub (SE_local (i := 4) he (by kernel_rfl) (by kernel_rfl) (by kernel_rfl)) (SE_sub (SE_local (i := 11) he (by kernel_rfl) (by kernel_rfl) (by kernel_rfl)) (SE_local (i := 3) he (by kernel_rfl) (by kernel_rfl) (by kernel_rfl)) rfl)) rfl (by kernel_rfl) (by kernel_rfl))
    SSs_nil) (fun _ => rfl) (.inl fun _ _ => rfl))
    (SSs_cons (SS_assign (SE_list SEL_nil) (SA_name (i := 8) he hT hF (by kernel_rfl) (.inr ⟨(by kernel_rfl), L+1, (by kernel_rfl)⟩)) rfl (by kernel_rfl) (by kernel_rfl))
    (SSs_cons (SS_assign (SE_list SEL_nil) (SA_name (i := 7) he hT hF (by kernel_rfl) (.inl (by kernel_rfl))) rfl (by kernel_rfl) (by kernel_rfl))
    (SSs_cons (SS_for (SE_local (i := 0) he (by kernel_rfl) (by kernel_rfl) (by kernel_rfl)) (SA_name (i := 6) he hT hF (by kernel_rfl) (.inl (by kernel_rfl))) (SSs_cons (SS_if (ST_and (ST_cmp (SE_call he (by kernel_rfl) (by kernel_rfl) H.f_writes_of.at (SEL_cons (SE_local (i := 6) he (by kernel_rfl) (by kernel_rfl) (by kernel_rfl)) SEL_nil rfl) rfl) (SE_local (i := 4) he (by kernel_rfl) (by kernel_rfl) (by kernel_rfl)) (by kernel_rfl)) (ST_val (SE_call he (by kernel_rfl) (by kernel_rfl) H.f_jumps_of.at (SEL_cons (SE_local (i := 6) he (by kernel_rfl) (by kernel_rfl) (by kernel_rfl)) SEL_nil rfl) rfl) rfl)) (SSs_cons SS_dead
    SSs_nil) SSs_nil)
    (SSs_cons (SS_expr (SE_append (SE_cell (i := 8) (c := L+1) he (by kernel_rfl) (by kernel_rfl) (by kernel_rfl) (by kernel_rfl)) (SE_bcall (id := "len") he (by kernel_rfl) (by kernel_rfl) H.b_len (SEL_cons (SE_local (i := 7) he (by kernel_rfl) (by kernel_rfl) (by kernel_rfl)) SEL_nil rfl) rfl) rfl (by kernel_rfl) rfl) (by kernel_rfl) (by kernel_rfl))
    (SSs_cons (SS_expr (SE_extend (SE_local (i := 7) he (by kernel_rfl) (by kernel_rfl) (by kernel_rfl)) (SE_call he (by kernel_rfl) (by kernel_rfl) H.f_spread.at (SEL_cons (SE_local (i := 6) he (by kernel_rfl) (by kernel_rfl) (by kernel_rfl)) (SEL_cons (SE_local (i := 5) he (by kernel_rfl) (by kernel_rfl) (by kernel_rfl)) (SEL_cons (SE_local (i := 4) he (by kernel_rfl) (by kernel_rfl) (by kernel_rfl)) (SEL_cons (SE_local (i := 10) he (by kernel_rfl) (by kernel_rfl) (by kernel_rfl)) SEL_nil rfl) rfl) rfl) rfl) rfl) rfl (by kernel_rfl) rfl) (by kernel_rfl) (by kernel_rfl))
    SSs_nil))) (fun _ => rfl) (.inl fun _ _ => rfl))
    (SSs_cons (SS_assignComp (n := 12) (i := 7) (cl := [("places", L+1)]) he (cok_mk hF (hm1 (by kernel_rfl)) (by kernel_rfl)) (tok_cons hT (by kernel_rfl)) hT hF (fun L1 => .inl (by kernel_rfl)) (by kernel_rfl) (fun _ => rfl) (by kernel_rfl) (by kernel_rfl) (by kernel_rfl) (SE_local (i := 7) he (by kernel_rfl) (by kernel_rfl) (by kernel_rfl)) (fun L1 hF1 => have he1 := eok_of hF1 he (by kernel_rfl); have hT1 := tok_cons (x := "op") (n := 12) hT (by kernel_rfl); SI_nil) (fun L1 hF1 => have he1 := eok_of hF1 he (by kernel_rfl); have hT1 := tok_cons (x := "op") (n := 12) hT (by kernel_rfl); (SE_call he1 (by kernel_rfl) (by kernel_rfl) H.f_with_jumps.at (SEL_cons (SE_local (i := 12) he1 (by kernel_rfl) (by kernel_rfl) (by kernel_rfl)) (SEL_cons (SE_comp (n := 13) (cl := [("places", L+1)]) he1 (cok_mk hF1 (hm1 (by kernel_rfl)) (by kernel_rfl)) (tok_cons hT1 (by kernel_rfl)) (fun L2 => .inl (by kernel_rfl)) (by kernel_rfl) (fun _ => rfl) (SE_call he1 (by kernel_rfl) (by kernel_rfl) H.f_jumps_of.at (SEL_cons (SE_local (i := 12) he1 (by kernel_rfl) (by kernel_rfl) (by kernel_rfl)) SEL_nil rfl) rfl) (fun L2 hF2 => have he2 := eok_of hF2 he1 (by kernel_rfl); have hT2 := tok_cons (x := "goal") (n := 13) hT1 (by kernel_rfl); SI_nil) (fun L2 hF2 => have he2 := eok_of hF2 he1 (by kernel_rfl); have hT2 := tok_cons (x := "goal") (n := 13) hT1 (by kernel_rfl); (SE_sub (SE_cell (i := 8) (c := L+1) he2 (by kernel_rfl) (by kernel_rfl) (by kernel_rfl) (by kernel_rfl)) (SE_local (i := 13) he2 (by kernel_rfl) (by kernel_rfl) (by kernel_rfl)) rfl))) SEL_nil rfl) rfl) rfl)))
    (SSs_cons (SS_return (SE_tuple (SEL_cons (SE_local (i := 7) he (by kernel_rfl) (by kernel_rfl) (by kernel_rfl)) (SEL_cons (SE_comp (n := 12) (cl := [("places", L+1)]) he (cok_mk hF (hm1 (by kernel_rfl)) (by kernel_rfl)) (tok_cons hT (by kernel_rfl)) (fun L3 => .inl (by kernel_rfl)) (by kernel_rfl) (fun _ => rfl) (SE_local (i := 1) he (by kernel_rfl) (by kernel_rfl) (by kernel_rfl)) (fun L3 hF3 => have he3 := eok_of hF3 he (by kernel_rfl); have hT3 := tok_cons (x := "start") (n := 12) hT (by kernel_rfl); SI_nil) (fun L3 hF3 => have he3 := eok_of hF3 he (by kernel_rfl); have hT3 := tok_cons (x := "start") (n := 12) hT (by kernel_rfl); (SE_sub (SE_cell (i := 8) (c := L+1) he3 (by kernel_rfl) (by kernel_rfl) (by kernel_rfl) (by kernel_rfl)) (SE_local (i := 12) he3 (by kernel_rfl) (by kernel_rfl) (by kernel_rfl)) rfl))) SEL_nil rfl) rfl)))
    SSs_nil)))))))))))) rfl ?_
  walk_at "s"
  refine c_ranges_of H hi hok fun es jr m1 hesF hinv hhas hE1 hR hjr => ?_
  have hel := hinv.len
  walk_at "s"
  refine c_scan H hR hinv.nodup (by lia) hc fun o jd js m2 p1 s1 hE2 hD hS hds hjd hjs => ?_
  have ho : IsOrd es o := ⟨p1, s1⟩
  refine ⟨_, rfl, rfl, ?_⟩
  (repeat walk_at "s0")
  have hpart := scan_part (c := c) hinv.nodup ho
  have hE := hE1.trans' hE2
  refine if_tailV (DeT mh ops N c i ist jr es) (fun v m h => ?_) fun tail => ?_
  · clear hD hS hds hjd hjs hpart hE hE2 ho p1 s1
    obtain ⟨D, S, jd, js, sc, rfl, hE, hD, hS, hpart, hfin⟩ := h
    have hSn : S.Nodup := (List.nodup_append.mp (hpart.nodup_iff.mpr hinv.nodup)).2.1
    have hSl : S.length ≤ 5 := by have := hpart.length_eq; have := hinv.len; simp at *; lia
    have hS0 : ∀ r ∈ S, 0 ≤ r := fun r hr => by
      have := hpart.mem_iff.mp (List.mem_append_right _ hr)
      obtain ⟨e, he, rfl⟩ := List.mem_map.mp this
      exact (hinv.keys e he).1
    have hcov : ∀ op ∈ ops, ∀ r ∈ here op, ((cellsF S).lookup r).isSome = true ∨ (D.lookup r).isSome = true := fun op hop r hr => by
      have h1 := lookup_isSome_iff.mp (hhas op hop r hr)
      rcases List.mem_append.mp (hpart.mem_iff.mpr h1) with h | h
      · exact .inr (lookup_isSome_iff.mpr h)
      · exact .inl (cells_lookup.mpr h)
    walk_at "s"
    refine bc_len_list (get_app hS) ?_
    rw [List.length_map]
    refine tc_range1 ?_
    have hrS := range_up S.length (by lia)
    refine it_range ⟨hrS.1, by rw [hrS.2]; lia⟩ ?_
    rw [rangeN (by lia)]
    have hmc : (m ++ [MO.dict []])[m.length]? = some (.dict (intsM (cellsF (S.take 0)))) := get_last
    have hE' : Ext m (m ++ [MO.dict []]) := ⟨_, rfl⟩
    have hEx : Ext mh (m ++ [MO.dict []]) := hE.app _
    have hjdm : jd < m.length := (List.getElem?_eq_some_iff.mp hD).1
    have hjsm : js < m.length := (List.getElem?_eq_some_iff.mp hS).1
    generalize hjc : m.length = jc at *
    generalize m ++ [MO.dict []] = m0 at hmc hE' hEx ⊢
    refine forN_id (f := fun (x : Nat) => MV.int ((x : Nat) : Int)) (DeC m S i ist c jc jd jr js sc) ?_ ?_ _ _ _ ⟨0, none, rfl, hE', hmc, by rw [List.range_eq_range']; rfl, Nat.zero_le _⟩
    rotate_left
    · rintro x r v m' K ⟨p, a, rfl, he, hc', hr', hp'⟩ hK
      obtain ⟨hxp, hrest, hplt⟩ : x = p ∧ r = List.range' (p + 1) (S.length - (p + 1)) ∧ p < S.length := by
        cases hq : S.length - p with
        | zero => rw [hq] at hr'; simp at hr'
        | succ q =>
          rw [hq, List.range'_succ] at hr'
          obtain ⟨h1, h2⟩ := List.cons.inj hr'
          exact ⟨h1, by rw [h2]; congr 1; lia, by lia⟩
      subst hxp
      walk_at "s"
      refine g_list (he.get hS) (by lia) (m := .int (S.getD x 0)) (by simp [hplt]) ?_
      refine set_dict hc' (by simp [intsM, cellsF]; lia) ?_
      rw [put_ints, cells_step hSn x hplt]
      walk_at "s"
      exact hK _ _ ⟨x + 1, _, rfl, he.set (by lia) _, get_set_self hc', hrest, by lia⟩
    rintro v m1 ⟨p, a, rfl, he1, hc1, hr1, hp1'⟩
    have hpS : p = S.length := by
      have := congrArg List.length hr1
      simp at this
      lia
    subst hpS
    rw [List.take_length] at hc1
    have hjcm : jc < m1.length := (List.getElem?_eq_some_iff.mp hc1).1
    walk_at "s"
    have l1 : (m1 ++ [MO.list []]).length = m1.length + 1 := by simp
    have hP0 : (m1 ++ [MO.list []] ++ [MO.list []])[m1.length]? = some (.list (([] : List Int).map .int)) := get_app get_last
    have hO0 : (m1 ++ [MO.list []] ++ [MO.list []])[(m1 ++ [MO.list []]).length]? = some (.list (([] : List Op).map opM)) := get_last
    have he2 : Ext m1 (m1 ++ [MO.list []] ++ [MO.list []]) := ((Ext.refl' m1).app _).app _
    rw [l1] at hO0 ⊢
    clear l1
    generalize hjp : m1.length = jp at *
    generalize hjo : jp + 1 = jo at *
    generalize m1 ++ [MO.list []] ++ [MO.list []] = m2 at hP0 hO0 he2 ⊢
    have hEm1 : Ext mh m1 := hE.trans' he1
    refine it_list ((hEm1.trans' he2).get hi) ?_
    have hcl : ((cellsF S).map (·.1)) = S := by
      unfold cellsF
      rw [List.map_map]
      show S.zipIdx.map (fun x => x.1) = S
      exact List.zipIdx_map_fst 0 S
    refine forN_id (f := opM) (DeL m1 ops D S i ist c jc jd jo jp jr js sc a) ?_ ?_ _ _ _
      ⟨([], []), none, rfl, he2, hP0, hO0, rfl, fun _ h => h, by simp, by simp⟩
    rotate_left
    · rintro op rest v m' K ⟨s, o9, rfl, he, hp', ho', hlay, hsub, hl1, hl2⟩ hK
      have hop := hsub op List.mem_cons_self
      rw [List.length_cons] at hl1 hl2
      (repeat walk_at "s0")
      refine if_tail (fun mm => Ext m1 mm ∧ mm[jp]? = some (.list (s.2.map .int)) ∧ mm[jo]? = some (.list (s.1.map opM))) ?_ fun tail => ?_
      · clear he hp' ho'
        rintro m' ⟨he, hp', ho'⟩
        walk_at "s"
        refine ap1 hp' ?_
        walk_at "s"
        refine bc_len_list ho' ?_
        rw [List.length_map]
        refine ap2 hp' (by rw [List.length_map]; lia) rfl ?_
        walk_at "s"
        have ho2 : (m'.set jp (.list (s.2.map .int ++ [.int (s.1.length : Int)])))[jo]? = some (.list (s.1.map opM)) := get_ne (by lia) ho'
        have he2 := he.set (j := jp) (by lia) (.list (s.2.map .int ++ [.int (s.1.length : Int)]))
        have hp2 : (m'.set jp (.list (s.2.map .int ++ [.int (s.1.length : Int)])))[jp]? = some (.list ((s.2 ++ [(s.1.length : Int)]).map .int)) := by rw [get_set_self hp']; simp
        generalize m'.set jp (.list (s.2.map .int ++ [.int (s.1.length : Int)])) = m'' at ho2 he2 hp2 ⊢
        refine ap1 ho2 ?_
        walk_at "s"
        have hjom : jo < m''.length := (List.getElem?_eq_some_iff.mp ho2).1
        refine c_spread H ((he1.trans' he2).get hD) (he2.get hc1) (hok.ret op hop) (hcov op hop) fun m4 j4 he4 hj4 hg4 => ?_
        have hsl := spread_len D (cellsF S) sc op
        refine ⟨j4, s.1.map opM, (spreadF D (cellsF S) sc op).map opM, rfl, by lia, he4.get ho2, hg4, by simp; lia, _, rfl, ?_⟩
        walk_at "s"
        have hjoi : jo ≠ i := by
          have hilt : i < mh.length := (List.getElem?_eq_some_iff.mp hi).1
          have h1 := hEm1.len
          clear he2 hp2 ho2 he4
          lia
        refine ⟨get_ne hjoi ((hEm1.trans' (he2.trans' he4)).get hi), ?_⟩
        walk_at "s"
        refine hK _ _ ⟨(s.1 ++ spreadF D (cellsF S) sc op, s.2 ++ [(s.1.length : Int)]), _, rfl, (he2.trans' he4).set (by lia) _, get_ne (by lia) (he4.get hp2), by rw [get_set_self (he4.get ho2)]; simp, hlay, fun x hx => hsub x (List.mem_cons_of_mem _ hx), ?_, ?_⟩
        · show (s.1 ++ spreadF D (cellsF S) sc op).length + _ ≤ _
          rw [List.length_append]; lia
        · show (s.2 ++ [(s.1.length : Int)]).length + _ = _
          rw [List.length_append, List.length_singleton]; lia
      walk_at "s"
      refine c_writes_of H ?_
      walk_at "s"
      refine ⟨_, in_ints (he.get hc1), ?_⟩
      cases hin : ((cellsF S).lookup (writes op)).isSome with
      | true =>
        refine if_t rfl ?_
        have hw : 0 ≤ writes op := hS0 _ (cells_lookup.mp hin)
        have hj0 : jumps op = [] := by cases op <;> simp [writes, jumps] at hw ⊢
        walk_at "s"
        refine c_jumps_of H ?_
        refine tr_list get_last ?_
        refine if_f (by rw [hj0]; rfl) ?_
        exact tail _ ⟨he.app [MO.list ((jumps op).map .int)], get_app hp', get_app ho'⟩
      | false =>
        refine if_f rfl ?_
        refine if_f rfl ?_
        exact tail _ ⟨he, hp', ho'⟩
    rintro v m3 ⟨s, o9, rfl, he3, hp3, ho3, hlay, _, hl1, hl2⟩
    have hlay : s = layF D (cellsF S) sc ops ([], []) := hlay
    have hjmp : ∀ (l : List Op) (s : List Op × List Int), (∀ op ∈ s.1, ∀ g ∈ jumps op, 0 ≤ g ∧ g < (ops.length : Int)) → (∀ op ∈ l, op ∈ ops) → ∀ op ∈ (layF D (cellsF S) sc l s).1, ∀ g ∈ jumps op, 0 ≤ g ∧ g < (ops.length : Int) := lay_jumps hok
    have hplen : (layF D (cellsF S) sc ops ([], [])).2.length = ops.length := by have := (lay_len D (cellsF S) sc ops ([], [])).2; simpa using this
    have holen : (layF D (cellsF S) sc ops ([], [])).1.length ≤ 4 * ops.length := by have := (lay_len D (cellsF S) sc ops ([], [])).1; simpa using this
    have hj0 := hjmp ops ([], []) (fun _ h => nomatch h) (fun _ h => h)
    have hfin := hfin _ _ rfl rfl
    unfold outF placeF at hfin
    rw [← hlay] at hplen holen hj0 hfin
    have hE3 := hEm1.trans' he3
    walk_at "s"
    refine ⟨rfl, ?_⟩
    walk_at "s"
    refine it_list ho3 ?_
    refine len_ok (by simp; lia) ?_
    refine compN_ind (f := opM) (fun r ou m' => Ext m3 m' ∧ ∃ done, s.1 = done ++ r ∧ ou = (done.map (jumpF s.2)).map opM) ?_ ?_ _ _ _ ⟨Ext.refl' _, [], rfl, rfl⟩
    rotate_left
    · rintro op r ou m' K ⟨he, done, hd, rfl⟩ hK
      have hopm : op ∈ s.1 := by rw [hd]; simp
      refine st_t ?_
      walk_at "s"
      refine ⟨rfl, ?_⟩
      walk_at "s"
      refine c_jumps_of H ?_
      refine it_list get_last ?_
      have hjl : (jumps op).length ≤ 1 := by cases op <;> simp [jumps]
      refine len_ok (by simp; lia) ?_
      refine compN_ind (f := .int) (fun r2 ou2 m'' => m'' = m' ++ [MO.list ((jumps op).map .int)] ∧ ∃ dn, jumps op = dn ++ r2 ∧ ou2 = (dn.map fun g => s.2.getD g.toNat 0).map MV.int) ?_ ?_ _ _ _ ⟨rfl, [], rfl, rfl⟩
      rotate_left
      · rintro g r2 ou2 m'' K2 ⟨rfl, dn, hdn, rfl⟩ hK2
        have hg := hj0 op hopm g (by rw [hdn]; simp)
        refine st_t ?_
        walk_at "s"
        refine g_list (get_app (he.get hp3)) hg.1 (getD_map hg.1 (by lia)) ?_
        exact ⟨get_last, hK2 _ _ ⟨rfl, dn ++ [g], by rw [hdn]; simp, by simp⟩⟩
      rintro ou2 m'' ⟨rfl, dn, hdn, rfl⟩
      rw [List.append_nil] at hdn
      subst hdn
      refine c_with_jumps H get_last (by simp) fun oo => ?_
      refine ⟨get_app (get_app (get_app (he.get ho3))), hK _ _ ⟨((he.app _).app _).app _, done ++ [op], by rw [hd]; simp, ?_⟩⟩
      simp [jumpF]
    rintro ou m4 ⟨he4, done, hd, rfl⟩
    rw [List.append_nil] at hd
    rw [← hd]
    have hO4 : (id m4 ++ [MO.list ((s.1.map (jumpF s.2)).map opM)])[(id m4).length]? = some (.list ((s.1.map (jumpF s.2)).map opM)) := get_last
    have hE4 : Ext m3 (id m4 ++ [MO.list ((s.1.map (jumpF s.2)).map opM)]) := he4.app _
    generalize id m4 ++ [MO.list ((s.1.map (jumpF s.2)).map opM)] = m5 at hO4 hE4
    generalize (id m4).length = jo5 at hO4
    walk_at "s"
    refine ⟨rfl, ?_⟩
    walk_at "s"
    have hst5 := (hE3.trans' hE4).get hst
    refine it_list hst5 ?_
    refine len_ok (by simp; lia) ?_
    refine compN_ind (f := .int) (fun r2 ou2 m'' => m'' = m5 ∧ ∃ dn, sts = dn ++ r2 ∧ ou2 = (dn.map fun g => s.2.getD g.toNat 0).map MV.int) ?_ ?_ _ _ _ ⟨rfl, [], rfl, rfl⟩
    rotate_left
    · rintro g r2 ou2 m'' K2 ⟨rfl, dn, hdn, rfl⟩ hK2
      have hg := hsts g (by rw [hdn]; simp)
      refine st_t ?_
      walk_at "s"
      refine g_list (hE4.get hp3) hg.1 (getD_map hg.1 (by lia)) ?_
      exact ⟨hst5, hK2 _ _ ⟨rfl, dn ++ [g], by rw [hdn]; simp, by simp⟩⟩
    rintro ou2 m'' ⟨rfl, dn, hdn, rfl⟩
    rw [List.append_nil] at hdn
    subst hdn
    walk_at "s"
    exact hQ _ _ _ _ _ hfin ((hE3.trans' hE4).app _) (get_app hO4) get_last
  walk_at "s"
  refine tr_list hS ?_
  by_cases hsp : (scanF es c o).sp = []
  · refine if_f (by rw [hsp]; rfl) ?_
    exact tail _ _ ⟨_, _, jd, js, c, rfl, hE, hD, hS, hpart, fun out pl h1 h2 => ⟨es, o, hesF, hinv, hhas, ho, .inl ⟨hsp, by rw [h1, hsp]; rfl, by rw [h2, hsp]; rfl⟩⟩⟩
  · refine if_t (by simp [hsp]) ?_
    walk_at "s"
    refine c_most_reads H (hE.get hi) hok.ret fun l => ?_
    have hge := hnr es o hesF hinv hhas ho hsp
    obtain ⟨sc, hsc⟩ : ∃ sc : Nat, (c : Int) - mostF ops 1 = sc := ⟨((c : Int) - mostF ops 1).toNat, by lia⟩
    have hm1 : 1 ≤ mostF ops 1 := by
      have key : ∀ (l : List Op) (x : Int), x ≤ mostF l x := by
        intro l
        induction l with
        | nil => intro x; exact Int.le_refl _
        | cons a l ih => intro x; exact Int.le_trans (Int.le_max_left _ _) (ih _)
      exact key ops 1
    have hscc : sc ≤ 60 := by lia
    refine b_sub ?_
    rw [hsc]
    walk_at "s"
    refine c_scan H (get_app (hE2.get hR)) hinv.nodup (by lia) hscc fun o2 jd2 js2 m3 p2 s2 hE3 hD2 hS2 hds2 hjd2 hjs2 => ?_
    have ho2 : IsOrd es o2 := ⟨p2, s2⟩
    refine ⟨_, rfl, rfl, ?_⟩
    exact tail _ _ ⟨_, _, jd2, js2, sc, rfl, (hE.app l).trans' hE3, hD2, hS2, scan_part (c := sc) hinv.nodup ho2, fun out pl h1 h2 => ⟨es, o, hesF, hinv, hhas, ho, .inr ⟨hsp, sc, o2, hsc, ho2, h1, h2⟩⟩⟩
theorem lexlt_asymm {a b : Int × Int} (h : lexlt a b = true) (h' : lexlt b a = true) : False := by
  have t := (lexlt_ord (ps := []) (by simp)).trans
  unfold lexlt at h h'
  by_cases h1 : a.1 = b.1
  · by_cases h2 : a.2 = b.2
    · simp [h1, h2] at h
    · have h3 : ¬ b.2 = a.2 := fun e => h2 e.symm
      simp [h1, h2] at h
      simp [h1, h3] at h'
      lia
  · have h3 : ¬ b.1 = a.1 := fun e => h1 e.symm
    simp [h1] at h
    simp [h3] at h'
    lia

theorem ord_unique {es : Rg} {o o' : List (Int × Int)} (h : IsOrd es o) (h' : IsOrd es o') : o = o' :=
  (h.1.trans h'.1.symm).eq_of_pairwise (fun _ _ _ _ h1 h2 => (lexlt_asymm h1 h2).elim) h.2 h'.2

noncomputable def fx (x : Int) : Int := 3 * x * x + x
theorem fx_lt {a b : Int} (ha : 0 ≤ a) (hb : 0 ≤ b) : fx a < fx b ↔ a < b := by
  have key : ∀ {a b : Int}, 0 ≤ a → a < b → fx a < fx b := by
    intro a b ha h
    have : a * a ≤ b * b := Int.mul_le_mul (by lia) (by lia) ha (by lia)
    unfold fx
    rw [Int.mul_assoc, Int.mul_assoc]
    lia
  refine ⟨fun h => ?_, key ha⟩
  by_cases hab : a < b
  · exact hab
  · by_cases e : a = b
    · rw [e] at h; lia
    · have := key hb (show b < a by lia)
      lia

theorem fx_inj {a b : Int} (ha : 0 ≤ a) (hb : 0 ≤ b) : fx a = fx b ↔ a = b := by
  refine ⟨fun h => ?_, fun h => by rw [h]⟩
  by_cases h1 : a < b
  · have := (fx_lt ha hb).mpr h1; lia
  · by_cases h2 : b < a
    · have := (fx_lt hb ha).mpr h2; lia
    · lia

theorem endOf_apart (es : Rg) (r : Int) : endOf (apartF es) r = fx (endOf es r) := by
  unfold endOf apartF
  induction es with
  | nil => rfl
  | cons e es ih =>
    rw [List.map_cons, List.lookup_cons]
    obtain ⟨a, p⟩ := e
    rw [List.lookup_cons]
    by_cases h : r = a
    · subst h; simp [fx]
    · rw [beq_false_of_ne h]; exact ih

theorem endOf_nonneg {es : Rg} (h : ∀ e ∈ es, 0 ≤ e.2.2) (r : Int) : 0 ≤ endOf es r := by
  unfold endOf
  cases q : es.lookup r with
  | none => exact Int.le_refl _
  | some p => exact h _ (lookup_mem q)

theorem exp_apart {es : Rg} (h : ∀ e ∈ es, 0 ≤ e.2.2) {first : Int} (hf : 0 ≤ first) (d : List (Int × Int)) : ∀ (r : List Int) (s : List Int × List Int), expF (apartF es) (fx first) d r s = expF es first d r s
  | [], s => rfl
  | x :: r, s => by
    have : (endOf (apartF es) x < fx first) = (endOf es x < first) := by
      rw [endOf_apart]; exact propext (fx_lt (endOf_nonneg h x) hf)
    show expF (apartF es) (fx first) d r (if endOf (apartF es) x < fx first then _ else s) = expF es first d r (if endOf es x < first then _ else s)
    rw [exp_apart h hf d r]
    congr 1
    by_cases hc : endOf es x < first
    · rw [if_pos hc, if_pos (this ▸ hc)]
    · rw [if_neg hc, if_neg (fun q => hc (this ▸ q))]

theorem lon_apart {es : Rg} (h : ∀ e ∈ es, 0 ≤ e.2.2) : ∀ (r : List Int) (l : Int), lonF (apartF es) r l = lonF es r l
  | [], l => rfl
  | x :: r, l => by
    have : (endOf (apartF es) l < endOf (apartF es) x) = (endOf es l < endOf es x) := by
      rw [endOf_apart, endOf_apart]; exact propext (fx_lt (endOf_nonneg h l) (endOf_nonneg h x))
    show lonF (apartF es) r (if endOf (apartF es) l < endOf (apartF es) x then x else l) = lonF es r (if endOf es l < endOf es x then x else l)
    rw [lon_apart h r]
    congr 1
    by_cases hc : endOf es l < endOf es x
    · rw [if_pos hc, if_pos (this ▸ hc)]
    · rw [if_neg hc, if_neg (fun q => hc (this ▸ q))]

theorem step_apart {es : Rg} (h : ∀ e ∈ es, 0 ≤ e.2.2) {p : Int × Int} (hp : 0 ≤ p.1) (st : SSt) : stepS (apartF es) st (fx p.1, p.2) = stepS es st p := by
  unfold stepS
  simp only
  rw [exp_apart h hp, lon_apart h]

theorem scan_apart {es : Rg} {c : Nat} {o o' : List (Int × Int)} (h : ∀ e ∈ es, 0 ≤ e.2.1 ∧ 0 ≤ e.2.2) (ho : IsOrd es o) (ho' : IsOrd (apartF es) o') : scanF (apartF es) c o' = scanF es c o := by
  have hpos : ∀ p ∈ o, 0 ≤ p.1 := fun p hp => by
    have := ho.1.mem_iff.mp hp
    obtain ⟨e, he, rfl⟩ := List.mem_map.mp this
    exact (h e he).1
  have e1 : o' = o.map fun p => (fx p.1, p.2) := by
    refine ord_unique ho' ⟨?_, ?_⟩
    · have := ho.1.map fun p : Int × Int => (fx p.1, p.2)
      refine this.trans (List.Perm.of_eq ?_)
      unfold orderP apartF
      rw [List.map_map, List.map_map]
      rfl
    · rw [List.pairwise_map]
      refine List.Pairwise.imp_of_mem (fun {a b} ha hb hab => ?_) ho.2
      have ha' := hpos a ha
      have hb' := hpos b hb
      unfold lexlt at hab ⊢
      simp only
      by_cases he : a.1 = b.1
      · simp only [he, beq_self_eq_true, if_true] at hab ⊢; exact hab
      · have hne : ¬ fx a.1 = fx b.1 := fun q => he ((fx_inj ha' hb').mp q)
        simp only [beq_iff_eq, he, hne, if_false, decide_eq_true_eq] at hab ⊢
        exact (fx_lt ha' hb').mpr hab
  rw [e1]
  unfold scanF
  rw [List.foldl_map]
  have key : ∀ (l : List (Int × Int)) (st : SSt), (∀ p ∈ l, 0 ≤ p.1) → l.foldl (fun st p => stepS (apartF es) st (fx p.1, p.2)) st = l.foldl (stepS es) st := by
    intro l
    induction l with
    | nil => intro st _; rfl
    | cons p l ih =>
      intro st hl
      rw [List.foldl_cons, List.foldl_cons, step_apart (fun e he => (h e he).2) (hl p List.mem_cons_self)]
      exact ih _ fun q hq => hl q (List.mem_cons_of_mem _ hq)
  exact key o _ hpos
noncomputable def stays (es : Rg) (first : Int) (x : Int) : Bool := !decide (endOf es x < first)

theorem exp_gen {es : Rg} {first : Int} {d : List (Int × Int)} : ∀ (r : List Int) (s : List Int × List Int), r.Nodup → s.1.Nodup → (∀ x ∈ r, x ∈ s.1) →
    (expF es first d r s).1 = s.1.filter (fun x => !(r.contains x && decide (endOf es x < first)))
  | [], s, _, _, _ => by
    show s.1 = _
    rw [List.filter_eq_self.mpr]
    intro x _; rfl
  | o :: r, s, hr, hs, hsub => by
    obtain ⟨ho, hr'⟩ := List.nodup_cons.mp hr
    show (expF es first d r (if endOf es o < first then (s.1.erase o, s.2 ++ [(d.lookup o).getD 0]) else s)).1 = _
    by_cases hc : endOf es o < first
    · rw [if_pos hc, exp_gen r _ hr' (hs.erase o) fun x hx => (List.mem_erase_of_ne fun e => ho (by rw [← e]; exact hx)).mpr (hsub x (List.mem_cons_of_mem _ hx))]
      show (s.1.erase o).filter _ = _
      rw [hs.erase_eq_filter, List.filter_filter]
      refine List.filter_congr fun x _ => ?_
      rw [List.contains_cons]
      by_cases hxo : x = o
      · subst hxo; simp [hc]
      · simp [hxo, beq_false_of_ne hxo]
    · rw [if_neg hc, exp_gen r _ hr' hs fun x hx => hsub x (List.mem_cons_of_mem _ hx)]
      refine List.filter_congr fun x _ => ?_
      rw [List.contains_cons]
      by_cases hxo : x = o
      · subst hxo; simp [hc]
      · simp [beq_false_of_ne hxo]

theorem exp_act {es : Rg} {first : Int} {d : List (Int × Int)} {a f : List Int} (ha : a.Nodup) : (expF es first d a (a, f)).1 = a.filter (stays es first) := by
  rw [exp_gen a (a, f) ha ha fun _ h => h]
  refine List.filter_congr fun x hx => ?_
  have : a.contains x = true := List.contains_iff_mem.mpr hx
  rw [this]
  simp [stays]

/-- the step of the active ones alone -/
noncomputable def actS (es : Rg) (c : Nat) (act : List Int) (p : Int × Int) : List Int × List Int :=
  let a := act.filter (stays es p.1)
  if a.length = c then
    let l := lonF es a p.2
    if l = p.2 then (a, [l]) else (a.erase l ++ [p.2], [l])
  else (a ++ [p.2], [])

theorem step_actS {es : Rg} {c : Nat} {st : SSt} {done : Nat} {p : Int × Int} (h : SInv es c st done) : (stepS es st p).act = (actS es c st.act p).1 ∧ (stepS es st p).sp = st.sp ++ (actS es c st.act p).2 := by
  obtain ⟨e1, e2, e3⟩ := expF_inv (es := es) (first := p.1) (dealt := st.dealt) st.act (st.act, st.free) h.actnd h.actnd fun _ h => h
  have e3 : (expF es p.1 st.dealt st.act (st.act, st.free)).2.length + (expF es p.1 st.dealt st.act (st.act, st.free)).1.length = st.free.length + st.act.length := e3
  have ha := exp_act (es := es) (first := p.1) (d := st.dealt) (f := st.free) h.actnd
  have hr := h.room
  unfold stepS actS
  simp only
  rw [← ha]
  generalize expF es p.1 st.dealt st.act (st.act, st.free) = s at *
  by_cases hf : s.2 = []
  · have hl : s.1.length = c := by rw [hf] at e3; simp at e3; lia
    rw [if_pos hf, if_pos hl]
    by_cases hq : lonF es s.1 p.2 = p.2
    · rw [if_pos hq, if_pos hq]; exact ⟨rfl, rfl⟩
    · rw [if_neg hq, if_neg hq]; exact ⟨rfl, rfl⟩
  · have hl : ¬ s.1.length = c := by have := List.length_pos_iff.mpr hf; lia
    rw [if_neg hf, if_neg hl]
    exact ⟨rfl, (List.append_nil _).symm⟩

theorem lon_up {es : Rg} : ∀ (r : List Int) (n x : Int), lonF es r x ≠ x → endOf es n ≤ endOf es x → lonF es r n = lonF es r x
  | [], n, x, h, _ => absurd rfl h
  | o :: r, n, x, h, hn => by
    have h : lonF es r (if endOf es x < endOf es o then o else x) ≠ x := h
    show lonF es r (if endOf es n < endOf es o then o else n) = lonF es r (if endOf es x < endOf es o then o else x)
    by_cases hx : endOf es x < endOf es o
    · rw [if_pos hx, if_pos (by lia)]
    · rw [if_neg hx] at h ⊢
      refine lon_up r _ x h ?_
      split <;> lia

theorem lon_erase {es : Rg} {x : Int} : ∀ (b : List Int) (n : Int), lonF es b n ≠ x → lonF es (b.erase x) n = lonF es b n
  | [], n, _ => rfl
  | o :: r, n, h => by
    have h : lonF es r (if endOf es n < endOf es o then o else n) ≠ x := h
    rw [List.erase_cons]
    by_cases ho : o = x
    · subst ho
      rw [if_pos (by simp)]
      show lonF es r n = lonF es r (if endOf es n < endOf es o then o else n)
      by_cases hn : endOf es n < endOf es o
      · rw [if_pos hn] at h ⊢
        exact lon_up r n o h (by lia)
      · rw [if_neg hn]
    · rw [if_neg (by simpa using ho)]
      exact lon_erase r _ h
/-- the run with c registers beside the run with one more -/
structure Sim (c : Nat) (A B spA spB : List Int) : Prop where
  nd : B.Nodup
  la : A.length ≤ c
  lb : B.length ≤ c + 1
  rel : A = B ∨ ∃ x, x ∈ B ∧ A = B.erase x ∧ x ∈ spA
  sub : ∀ y ∈ spB, y ∈ spA

theorem erase_append_last {l : List Int} {n x : Int} (h : x ∈ l) : (l ++ [n]).erase x = l.erase x ++ [n] := List.erase_append_left _ h
theorem erase_last {l : List Int} {n : Int} (h : n ∉ l) : (l ++ [n]).erase n = l := by
  rw [List.erase_append_right _ h]; simp

theorem filter_erase {l : List Int} {x : Int} (hn : l.Nodup) (q : Int → Bool) : (l.erase x).filter q = (l.filter q).erase x := by
  rw [hn.erase_eq_filter, (List.Sublist.nodup List.filter_sublist hn).erase_eq_filter, List.filter_filter, List.filter_filter]
  refine List.filter_congr fun y _ => ?_
  rw [Bool.and_comm]

theorem Sim.step {es : Rg} {c : Nat} {A B spA spB : List Int} {p : Int × Int} (h : Sim c A B spA spB) (hp : p.2 ∉ B) : Sim c (actS es c A p).1 (actS es (c + 1) B p).1 (spA ++ (actS es c A p).2) (spB ++ (actS es (c + 1) B p).2) := by
  have hbn : (B.filter (stays es p.1)).Nodup := List.Sublist.nodup List.filter_sublist h.nd
  have hpb : p.2 ∉ B.filter (stays es p.1) := fun hm => hp (List.mem_filter.mp hm).1
  have hlb : (B.filter (stays es p.1)).length ≤ c + 1 := Nat.le_trans (List.length_filter_le _ _) h.lb
  have hla : (A.filter (stays es p.1)).length ≤ c := Nat.le_trans (List.length_filter_le _ _) h.la
  have hrel : A.filter (stays es p.1) = B.filter (stays es p.1) ∨ ∃ x, x ∈ B.filter (stays es p.1) ∧ A.filter (stays es p.1) = (B.filter (stays es p.1)).erase x ∧ x ∈ spA := by
    rcases h.rel with e | ⟨x, hx, e, hs⟩
    · exact .inl (by rw [e])
    · rw [e, filter_erase h.nd]
      by_cases hq : x ∈ B.filter (stays es p.1)
      · exact .inr ⟨x, hq, rfl, hs⟩
      · exact .inl (List.erase_of_not_mem hq)
  have hsub := h.sub
  unfold actS
  simp only
  generalize A.filter (stays es p.1) = a at *
  generalize B.filter (stays es p.1) = b at *
  rcases hrel with rfl | ⟨x, hx, rfl, hxs⟩
  · -- alike
    have hb1 : ¬ a.length = c + 1 := by lia
    rw [if_neg hb1]
    have nd1 : (a ++ [p.2]).Nodup := List.nodup_append.mpr ⟨hbn, by simp, fun y hy z hz e => hpb (by rw [List.mem_singleton.mp hz] at e; rw [← e]; exact hy)⟩
    by_cases hf : a.length = c
    · rw [if_pos hf]
      by_cases hl : lonF es a p.2 = p.2
      · rw [if_pos hl]
        refine ⟨nd1, hla, by simp; lia, .inr ⟨p.2, by simp, (erase_last hpb).symm, by simp [hl]⟩, fun y hy => ?_⟩
        rw [List.append_nil] at hy
        exact List.mem_append_left _ (hsub y hy)
      · rw [if_neg hl]
        have hlm : lonF es a p.2 ∈ a := by
          rcases lonF_mem (es := es) a p.2 with q | q
          · exact absurd q hl
          · exact q
        refine ⟨nd1, by have := List.length_erase_of_mem hlm; have := List.length_pos_of_mem hlm; simp; lia, by simp; lia, .inr ⟨_, List.mem_append_left _ hlm, (erase_append_last hlm).symm, by simp⟩, fun y hy => ?_⟩
        rw [List.append_nil] at hy
        exact List.mem_append_left _ (hsub y hy)
    · rw [if_neg hf]
      exact ⟨nd1, by simp; lia, by simp; lia, .inl rfl, fun y hy => by rw [List.append_nil] at hy ⊢; exact hsub y hy⟩
  · -- one apart
    have hle := List.length_erase_of_mem hx
    have hpos : 0 < b.length := List.length_pos_of_mem hx
    have hpx : p.2 ≠ x := fun e => hpb (by rw [e]; exact hx)
    have nd1 : (b ++ [p.2]).Nodup := List.nodup_append.mpr ⟨hbn, by simp, fun y hy z hz e => hpb (by rw [List.mem_singleton.mp hz] at e; rw [← e]; exact hy)⟩
    have hpa : p.2 ∉ b.erase x := fun hm => hpb (List.mem_of_mem_erase hm)
    by_cases hf : b.length = c + 1
    · rw [if_pos hf, if_pos (show (b.erase x).length = c by lia)]
      by_cases hlx : lonF es b p.2 = x
      · rw [hlx, if_neg (Ne.symm hpx)]
        have nd2 : (b.erase x ++ [p.2]).Nodup := List.nodup_append.mpr ⟨hbn.erase x, by simp, fun y hy z hz e => hpa (by rw [List.mem_singleton.mp hz] at e; rw [← e]; exact hy)⟩
        have hsp : ∀ (q : List Int), ∀ y ∈ spB ++ [x], y ∈ spA ++ q := fun q y hy => by
          rcases List.mem_append.mp hy with h | h
          · exact List.mem_append_left _ (hsub y h)
          · rw [List.mem_singleton.mp h]; exact List.mem_append_left _ hxs
        by_cases hl : lonF es (b.erase x) p.2 = p.2
        · rw [if_pos hl]
          exact ⟨nd2, by show (b.erase x).length ≤ c; lia, by simp; lia, .inr ⟨p.2, by simp, (erase_last hpa).symm, by simp [hl]⟩, hsp _⟩
        · rw [if_neg hl]
          have hlm : lonF es (b.erase x) p.2 ∈ b.erase x := by
            rcases lonF_mem (es := es) (b.erase x) p.2 with q | q
            · exact absurd q hl
            · exact q
          exact ⟨nd2, by have := List.length_erase_of_mem hlm; have := List.length_pos_of_mem hlm; simp; lia, by simp; lia, .inr ⟨_, List.mem_append_left _ hlm, (erase_append_last hlm).symm, by simp⟩, hsp _⟩
      · have hll := lon_erase b p.2 hlx
        rw [hll]
        have hsp : ∀ (l : Int), ∀ y ∈ spB ++ [l], y ∈ spA ++ [l] := fun l y hy => by
          rcases List.mem_append.mp hy with h | h
          · exact List.mem_append_left _ (hsub y h)
          · exact List.mem_append_right _ h
        by_cases hl : lonF es b p.2 = p.2
        · rw [if_pos hl, if_pos hl]
          exact ⟨hbn, by show (b.erase x).length ≤ c; lia, hlb, .inr ⟨x, hx, rfl, List.mem_append_left _ hxs⟩, hsp _⟩
        · rw [if_neg hl, if_neg hl]
          have hlm : lonF es b p.2 ∈ b := by
            rcases lonF_mem (es := es) b p.2 with q | q
            · exact absurd q hl
            · exact q
          generalize lonF es b p.2 = l at *
          have hxl : x ∈ b.erase l := (List.mem_erase_of_ne (Ne.symm hlx)).mpr hx
          have hlx' : l ∈ b.erase x := (List.mem_erase_of_ne hlx).mpr hlm
          have nd2 : (b.erase l ++ [p.2]).Nodup := List.nodup_append.mpr ⟨hbn.erase l, by simp, fun y hy z hz e => hpb (by rw [List.mem_singleton.mp hz] at e; rw [← e]; exact List.mem_of_mem_erase hy)⟩
          refine ⟨nd2, by have := List.length_erase_of_mem hlx'; have := List.length_pos_of_mem hlx'; simp; lia, by have := List.length_erase_of_mem hlm; simp; lia, .inr ⟨x, List.mem_append_left _ hxl, ?_, List.mem_append_left _ hxs⟩, hsp _⟩
          rw [erase_append_last hxl, List.erase_comm]
    · rw [if_neg hf, if_neg (show ¬ (b.erase x).length = c by lia)]
      refine ⟨nd1, by simp; lia, by simp; lia, .inr ⟨x, List.mem_append_left _ hx, (erase_append_last hx).symm, List.mem_append_left _ hxs⟩, fun y hy => ?_⟩
      rw [List.append_nil] at hy ⊢
      exact hsub y hy
/-- what the turns have in common -/
structure ORun (es : Rg) (c : Nat) (st : SSt) (done : List Int) : Prop where
  inv : SInv es c st done.length
  act : ∀ a ∈ st.act, a ∈ done

theorem ORun.step {es : Rg} {c : Nat} {st : SSt} {done : List Int} {p : Int × Int} (h : ORun es c st done) (hp : (es.lookup p.2).isSome = true) (hn : p.2 ∉ done) : ORun es c (stepS es st p) (done ++ [p.2]) := by
  refine ⟨by rw [List.length_append]; exact h.inv.step hp fun hm => hn (h.act _ hm), fun a ha => ?_⟩
  rcases stepS_act h.inv.actnd ha with q | q
  · exact List.mem_append_left _ (h.act a q)
  · exact List.mem_append_right _ (List.mem_singleton.mpr q)

theorem orun_init (es : Rg) (c : Nat) : ORun es c ⟨[], downF c, [], []⟩ [] := ⟨⟨List.nodup_nil, (fun _ h => nomatch h), (fun _ h => nomatch h), by simp [downF], Nat.le_refl _, Nat.le_refl _⟩, fun _ h => nomatch h⟩

theorem ord_regs {es : Rg} {o : List (Int × Int)} (hnd : (es.map (·.1)).Nodup) (ho : IsOrd es o) : (∀ p ∈ o, es.lookup p.2 = some (p.1, endOf es p.2)) ∧ (o.map (·.2)).Nodup := by
  refine ⟨fun p hp => ?_, ?_⟩
  · have := ho.1.mem_iff.mp hp
    obtain ⟨e, he, rfl⟩ := List.mem_map.mp this
    have h1 := lookup_of_nodup hnd e he
    rw [endOf_of h1, h1]
  · have h1 : (o.map (·.2)).Perm ((orderP es).map (·.2)) := ho.1.map _
    refine h1.nodup_iff.mpr ?_
    rw [show (orderP es).map (·.2) = es.map (·.1) by simp [orderP]]
    exact hnd

theorem scan_nested {es : Rg} {c : Nat} {o : List (Int × Int)} (hnd : (es.map (·.1)).Nodup) (ho : IsOrd es o) : ∀ y ∈ (scanF es (c + 1) o).sp, y ∈ (scanF es c o).sp := by
  obtain ⟨hreg, hon⟩ := ord_regs hnd ho
  have key : ∀ (l : List (Int × Int)) (s t : SSt) (done : List Int), ORun es c s done → ORun es (c + 1) t done → Sim c s.act t.act s.sp t.sp → (∀ p ∈ l, (es.lookup p.2).isSome = true) → (done ++ l.map (·.2)).Nodup →
      ∀ y ∈ (l.foldl (stepS es) t).sp, y ∈ (l.foldl (stepS es) s).sp := by
    intro l
    induction l with
    | nil => intro s t done _ _ h _ _; exact h.sub
    | cons p l ih =>
      intro s t done hs ht h hl hn
      have hp : p.2 ∉ done := fun hm => (List.nodup_append.mp hn).2.2 _ hm _ (by simp) rfl
      have hpk := hl p List.mem_cons_self
      obtain ⟨a1, a2⟩ := step_actS (p := p) hs.inv
      obtain ⟨b1, b2⟩ := step_actS (p := p) ht.inv
      have hst := h.step (es := es) (p := p) (fun hm => hp (ht.act _ hm))
      rw [← a1, ← a2, ← b1, ← b2] at hst
      exact ih _ _ (done ++ [p.2]) (hs.step hpk hp) (ht.step hpk hp) hst (fun q hq => hl q (List.mem_cons_of_mem _ hq)) (by simpa using hn)
  exact key o _ _ [] (orun_init es c) (orun_init es (c + 1)) ⟨List.nodup_nil, Nat.zero_le _, Nat.zero_le _, .inl rfl, fun _ h => nomatch h⟩ (fun p hp => by rw [hreg p hp]; rfl) (by simpa using hon)
theorem sub_len {l : List Int} : ∀ {m : List Int}, l.Nodup → (∀ x ∈ l, x ∈ m) → l.length ≤ m.length := by
  induction l with
  | nil => intro m _ _; exact Nat.zero_le _
  | cons a l ih =>
    intro m hn hs
    obtain ⟨ha, hl⟩ := List.nodup_cons.mp hn
    have hm := hs a List.mem_cons_self
    have := ih (m := m.erase a) hl fun x hx => (List.mem_erase_of_ne (fun e => ha (by rw [← e]; exact hx))).mpr (hs x (List.mem_cons_of_mem _ hx))
    rw [List.length_erase_of_mem hm] at this
    have := List.length_pos_of_mem hm
    simp only [List.length_cons]
    lia

theorem lon_max {es : Rg} : ∀ (r : List Int) (n : Int), endOf es n ≤ endOf es (lonF es r n) ∧ ∀ y ∈ r, endOf es y ≤ endOf es (lonF es r n)
  | [], n => ⟨Int.le_refl _, (fun _ h => nomatch h)⟩
  | o :: r, n => by
    obtain ⟨h1, h2⟩ := lon_max (es := es) r (if endOf es n < endOf es o then o else n)
    show endOf es n ≤ endOf es (lonF es r (if endOf es n < endOf es o then o else n)) ∧ ∀ y ∈ o :: r, endOf es y ≤ endOf es (lonF es r (if endOf es n < endOf es o then o else n))
    by_cases h : endOf es n < endOf es o
    · rw [if_pos h] at h1 h2 ⊢
      refine ⟨by lia, fun y hy => ?_⟩
      rcases List.mem_cons.mp hy with rfl | hy
      · exact h1
      · exact h2 y hy
    · rw [if_neg h] at h1 h2 ⊢
      refine ⟨h1, fun y hy => ?_⟩
      rcases List.mem_cons.mp hy with rfl | hy
      · lia
      · exact h2 y hy

/-- how many are spilled, from the active ones on -/
noncomputable def runS (es : Rg) (c : Nat) : List Int → List (Int × Int) → Nat
  | _, [] => 0
  | act, p :: L => (actS es c act p).2.length + runS es c (actS es c act p).1 L

/-- who lies at a place -/
noncomputable def hitT (es : Rg) (x : Int) (r : Int) : Bool := decide (x ≤ endOf es r)
noncomputable def hitK (es : Rg) (x : Int) (p : Int × Int) : Bool := decide (p.1 ≤ x) && decide (x ≤ endOf es p.2)
noncomputable def okTK (es : Rg) (c : Nat) (t : Int) (T : List Int) (K : List (Int × Int)) : Prop := ∀ x, t ≤ x → T.countP (hitT es x) + K.countP (hitK es x) ≤ c

theorem filter_split {T : List Int} (q : Int → Bool) : (T.filter q).length + (T.filter fun x => !q x).length = T.length := by
  induction T with
  | nil => rfl
  | cons a T ih =>
    rw [List.filter_cons, List.filter_cons]
    cases h : q a <;> simp <;> lia

theorem count_stays {es : Rg} {T : List Int} {f x : Int} (h : f ≤ x) : (T.filter (stays es f)).countP (hitT es x) = T.countP (hitT es x) := by
  rw [List.countP_filter]
  refine List.countP_congr fun y _ => ?_
  unfold hitT stays
  simp
  intro h1
  lia

theorem act_cases {es : Rg} {c : Nat} {A : List Int} {p : Int × Int} (hn : A.Nodup) (hp : p.2 ∉ A) (hl : A.length ≤ c) :
    ((A.filter (stays es p.1)).length < c ∧ actS es c A p = (A.filter (stays es p.1) ++ [p.2], [])) ∨
    ((A.filter (stays es p.1)).length = c ∧ ∃ l B, actS es c A p = (B, [l]) ∧ B.Nodup ∧ B.length = c ∧ (l = p.2 ∨ l ∈ A.filter (stays es p.1)) ∧ (∀ y, y ∈ B ↔ (y ∈ A.filter (stays es p.1) ∨ y = p.2) ∧ y ≠ l) ∧ (∀ y, (y ∈ A.filter (stays es p.1) ∨ y = p.2) → endOf es y ≤ endOf es l)) := by
  have han : (A.filter (stays es p.1)).Nodup := List.Sublist.nodup List.filter_sublist hn
  have hpa : p.2 ∉ A.filter (stays es p.1) := fun hm => hp (List.mem_filter.mp hm).1
  have hla : (A.filter (stays es p.1)).length ≤ c := Nat.le_trans (List.length_filter_le _ _) hl
  unfold actS
  simp only
  generalize A.filter (stays es p.1) = a at *
  by_cases hf : a.length = c
  · right
    refine ⟨hf, ?_⟩
    rw [if_pos hf]
    obtain ⟨m1, m2⟩ := lon_max (es := es) a p.2
    have hmem := lonF_mem (es := es) a p.2
    generalize lonF es a p.2 = l at *
    by_cases hq : l = p.2
    · rw [if_pos hq]
      refine ⟨l, a, rfl, han, hf, .inl hq, fun y => ⟨fun hy => ⟨.inl hy, fun e => hpa (by rw [← hq, ← e]; exact hy)⟩, fun hy => ?_⟩, fun y hy => ?_⟩
      · rcases hy.1 with h | h
        · exact h
        · exact absurd (h.trans hq.symm) hy.2
      · rcases hy with h | h
        · exact m2 y h
        · rw [h]; exact m1
    · rw [if_neg hq]
      have hlm : l ∈ a := by
        rcases hmem with h | h
        · exact absurd h hq
        · exact h
      refine ⟨l, a.erase l ++ [p.2], rfl, ?_, ?_, .inr hlm, fun y => ?_, fun y hy => ?_⟩
      · refine List.nodup_append.mpr ⟨han.erase l, by simp, fun y hy z hz e => ?_⟩
        rw [List.mem_singleton.mp hz] at e
        exact hpa (by rw [← e]; exact List.mem_of_mem_erase hy)
      · have := List.length_erase_of_mem hlm
        have := List.length_pos_of_mem hlm
        simp; lia
      · rw [List.mem_append, List.mem_singleton, han.mem_erase_iff]
        constructor
        · rintro (⟨h1, h2⟩ | h)
          · exact ⟨.inl h2, h1⟩
          · exact ⟨.inr h, by rw [h]; exact Ne.symm hq⟩
        · rintro ⟨h1 | h1, h2⟩
          · exact .inl ⟨h2, h1⟩
          · exact .inr h1
      · rcases hy with h | h
        · exact m2 y h
        · rw [h]; exact m1
  · left
    rw [if_neg hf]
    exact ⟨by lia, rfl⟩
/-- what the rest must be like -/
structure LOK (es : Rg) (t : Int) (A : List Int) (L : List (Int × Int)) : Prop where
  sorted : L.Pairwise (fun a b => a.1 ≤ b.1)
  from' : ∀ p ∈ L, t ≤ p.1
  ends : ∀ p ∈ L, p.1 ≤ endOf es p.2
  nd : (L.map (·.2)).Nodup
  apart : ∀ p ∈ L, p.2 ∉ A

theorem LOK.tail {es t A p L B} (h : LOK es t A (p :: L)) (hB : ∀ y ∈ B, y ∈ A ∨ y = p.2) : LOK es p.1 B L := by
  have h1 := List.pairwise_cons.mp h.sorted
  have h2 := List.nodup_cons.mp (show (p.2 :: L.map (·.2)).Nodup from h.nd)
  refine ⟨h1.2, fun q hq => h1.1 q hq, fun q hq => h.ends q (List.mem_cons_of_mem _ hq), h2.2, fun q hq hm => ?_⟩
  rcases hB _ hm with e | e
  · exact h.apart q (List.mem_cons_of_mem _ hq) e
  · exact h2.1 (by rw [← e]; exact List.mem_map.mpr ⟨q, hq, rfl⟩)

theorem count_nil_tail {es : Rg} {x : Int} {L : List (Int × Int)} (h : ∀ p ∈ L, x < p.1) : L.countP (hitK es x) = 0 := by
  rw [List.countP_eq_zero]
  intro p hp
  have := h p hp
  unfold hitK
  simp; lia

/-- no valid choice is greater -/
theorem run_best {es : Rg} {c : Nat} : ∀ (L : List (Int × Int)) (A T : List Int) (K : List (Int × Int)) (t : Int), A.Nodup → A.length ≤ c → LOK es t A L → T.Nodup → (∀ x ∈ T, x ∈ A) → K.Sublist L → okTK es c t T K →
    T.length + K.length + runS es c A L ≤ A.length + L.length
  | [], A, T, K, t, hA, _, _, hT, hTA, hK, _ => by
    have := List.sublist_nil.mp hK
    subst this
    have := sub_len hT hTA
    simp [runS]; lia
  | p :: L, A, T, K, t, hA, hAl, hL, hT, hTA, hK, hv => by
    have hpA : p.2 ∉ A := hL.apart p List.mem_cons_self
    have hpe : p.1 ≤ endOf es p.2 := hL.ends p List.mem_cons_self
    have htp : t ≤ p.1 := hL.from' p List.mem_cons_self
    -- the choice behind this turn
    obtain ⟨T2, K2, hT2n, hT2A, hK2, hsum, hv2, hT2p⟩ : ∃ (T2 : List Int) (K2 : List (Int × Int)), T2.Nodup ∧ (∀ y ∈ T2, y ∈ A.filter (stays es p.1) ∨ y = p.2) ∧ K2.Sublist L ∧ T2.length + K2.length = (T.filter (stays es p.1)).length + K.length ∧ okTK es c p.1 T2 K2 ∧ (∀ y ∈ T2, p.1 ≤ endOf es y) := by
      have hTs : ∀ y ∈ T.filter (stays es p.1), y ∈ A.filter (stays es p.1) := fun y hy => List.mem_filter.mpr ⟨hTA y (List.mem_filter.mp hy).1, (List.mem_filter.mp hy).2⟩
      have hTn : (T.filter (stays es p.1)).Nodup := List.Sublist.nodup List.filter_sublist hT
      have hst : ∀ y ∈ T.filter (stays es p.1), p.1 ≤ endOf es y := fun y hy => by
        have := (List.mem_filter.mp hy).2
        unfold stays at this
        simp at this
        exact this
      cases hK with
      | cons _ hK' =>
        refine ⟨T.filter (stays es p.1), K, hTn, fun y hy => .inl (hTs y hy), hK', rfl, fun x hx => ?_, hst⟩
        rw [count_stays hx]
        exact hv x (by lia)
      | cons_cons _ hK' =>
        rename_i K'
        refine ⟨T.filter (stays es p.1) ++ [p.2], K', ?_, fun y hy => ?_, hK', by simp; lia, fun x hx => ?_, fun y hy => ?_⟩
        · refine List.nodup_append.mpr ⟨hTn, by simp, fun y hy z hz e => ?_⟩
          rw [List.mem_singleton.mp hz] at e
          exact hpA (by rw [← e]; exact hTA y (List.mem_filter.mp hy).1)
        · rcases List.mem_append.mp hy with h | h
          · exact .inl (hTs y h)
          · exact .inr (List.mem_singleton.mp h)
        · have h1 := hv x (by lia)
          rw [List.countP_cons] at h1
          rw [List.countP_append, count_stays hx, List.countP_singleton]
          have : hitK es x p = hitT es x p.2 := by unfold hitK hitT; simp; lia
          rw [this] at h1
          lia
        · rcases List.mem_append.mp hy with h | h
          · exact hst y h
          · rw [List.mem_singleton.mp h]; exact hpe
    have hexp : T.length + (A.filter (stays es p.1)).length ≤ A.length + (T.filter (stays es p.1)).length := by
      have h1 := filter_split (T := T) (stays es p.1)
      have h2 := filter_split (T := A) (stays es p.1)
      have h3 := sub_len (l := T.filter fun x => !stays es p.1 x) (m := A.filter fun x => !stays es p.1 x) (List.Sublist.nodup List.filter_sublist hT) fun y hy => List.mem_filter.mpr ⟨hTA y (List.mem_filter.mp hy).1, (List.mem_filter.mp hy).2⟩
      lia
    have han : (A.filter (stays es p.1)).Nodup := List.Sublist.nodup List.filter_sublist hA
    have hpa : p.2 ∉ A.filter (stays es p.1) := fun hm => hpA (List.mem_filter.mp hm).1
    rcases act_cases (es := es) hA hpA hAl with ⟨hlt, e⟩ | ⟨hfull, l, B, e, hBn, hBl, hlm, hBm, hmax⟩
    · have hn : (A.filter (stays es p.1) ++ [p.2]).Nodup := List.nodup_append.mpr ⟨han, by simp, fun y hy z hz e => hpa (by rw [List.mem_singleton.mp hz] at e; rw [← e]; exact hy)⟩
      have ih := run_best L (A.filter (stays es p.1) ++ [p.2]) T2 K2 p.1 hn (by simp; lia) (hL.tail fun y hy => by
        rcases List.mem_append.mp hy with h | h
        · exact .inl (List.mem_filter.mp h).1
        · exact .inr (List.mem_singleton.mp h)) hT2n (fun y hy => by
          rcases hT2A y hy with h | h
          · exact List.mem_append_left _ h
          · exact List.mem_append_right _ (List.mem_singleton.mpr h)) hK2 hv2
      simp only [runS, e, List.length_nil, List.length_append, List.length_cons] at ih ⊢
      lia
    · have hT2c : T2.length ≤ c := by
        have := hv2 p.1 (Int.le_refl _)
        have h1 : T2.countP (hitT es p.1) = T2.length := by
          rw [List.countP_eq_length]
          intro y hy
          have := hT2p y hy
          unfold hitT; simpa using this
        lia
      obtain ⟨T3, hT3n, hT3B, hT3l, hv3⟩ : ∃ T3 : List Int, T3.Nodup ∧ (∀ y ∈ T3, y ∈ B) ∧ T3.length = T2.length ∧ okTK es c p.1 T3 K2 := by
        by_cases hl : l ∈ T2
        · obtain ⟨y, hyD, hyT⟩ : ∃ y, (y ∈ A.filter (stays es p.1) ∨ y = p.2) ∧ y ∉ T2 := by
            apply Classical.byContradiction
            intro hno
            have h1 : ∀ y ∈ A.filter (stays es p.1) ++ [p.2], y ∈ T2 := fun y hy => by
              apply Classical.byContradiction
              intro hyT
              refine hno ⟨y, ?_, hyT⟩
              rcases List.mem_append.mp hy with h | h
              · exact .inl h
              · exact .inr (List.mem_singleton.mp h)
            have hn : (A.filter (stays es p.1) ++ [p.2]).Nodup := List.nodup_append.mpr ⟨han, by simp, fun y hy z hz e => hpa (by rw [List.mem_singleton.mp hz] at e; rw [← e]; exact hy)⟩
            have := sub_len hn h1
            simp at this
            lia
          have hyl : y ≠ l := fun e => hyT (e ▸ hl)
          refine ⟨y :: T2.erase l, List.nodup_cons.mpr ⟨fun h => hyT (List.mem_of_mem_erase h), hT2n.erase l⟩, fun z hz => ?_, ?_, fun x hx => ?_⟩
          · rcases List.mem_cons.mp hz with rfl | hz
            · exact (hBm z).mpr ⟨hyD, hyl⟩
            · have := hT2n.mem_erase_iff.mp hz
              exact (hBm z).mpr ⟨hT2A z this.2, this.1⟩
          · have := List.length_erase_of_mem hl
            have := List.length_pos_of_mem hl
            simp; lia
          · have h1 := hv2 x hx
            have h2 : (l :: T2.erase l).countP (hitT es x) = T2.countP (hitT es x) := (List.perm_cons_erase hl).symm.countP_eq _
            rw [List.countP_cons] at h2 ⊢
            have h3 := hmax y hyD
            have h4 : hitT es x y = true → hitT es x l = true := by unfold hitT; simp; lia
            cases hy : hitT es x y with
            | false => simp; lia
            | true => rw [h4 hy] at h2; simp at h2 ⊢; lia
        · exact ⟨T2, hT2n, fun y hy => (hBm y).mpr ⟨hT2A y hy, fun e => hl (e ▸ hy)⟩, rfl, hv2⟩
      have ih := run_best L B T3 K2 p.1 hBn (by lia) (hL.tail fun y hy => by
        rcases ((hBm y).mp hy).1 with h | h
        · exact .inl (List.mem_filter.mp h).1
        · exact .inr h) hT3n hT3B hK2 hv3
      simp only [runS, e, List.length_cons, List.length_nil] at ih ⊢
      lia

/-- the kept ones are valid -/
theorem run_kept {es : Rg} {c : Nat} : ∀ (L : List (Int × Int)) (A : List Int) (t : Int), A.Nodup → A.length ≤ c → LOK es t A L →
    ∃ (T : List Int) (K : List (Int × Int)), T.Nodup ∧ (∀ x ∈ T, x ∈ A) ∧ K.Sublist L ∧ okTK es c t T K ∧ T.length + K.length + runS es c A L = A.length + L.length
  | [], A, t, hA, hAl, _ => ⟨A, [], hA, fun _ h => h, .slnil, fun x _ => by have := List.countP_le_length (p := hitT es x) (l := A); simp; lia, by simp [runS]⟩
  | p :: L, A, t, hA, hAl, hL => by
    have hpA : p.2 ∉ A := hL.apart p List.mem_cons_self
    have hpe : p.1 ≤ endOf es p.2 := hL.ends p List.mem_cons_self
    have htp : t ≤ p.1 := hL.from' p List.mem_cons_self
    have han : (A.filter (stays es p.1)).Nodup := List.Sublist.nodup List.filter_sublist hA
    have hpa : p.2 ∉ A.filter (stays es p.1) := fun hm => hpA (List.mem_filter.mp hm).1
    have hla : (A.filter (stays es p.1)).length ≤ c := Nat.le_trans (List.length_filter_le _ _) hAl
    have hsp := filter_split (T := A) (stays es p.1)
    -- from the turn behind
    have key : ∀ (B : List Int) (n : Nat), actS es c A p = (B, List.replicate n 0) ∨ (∃ l, actS es c A p = (B, [l]) ∧ n = 1) → B.Nodup → B.length ≤ c → (∀ y ∈ B, y ∈ A.filter (stays es p.1) ∨ y = p.2) → (B.length + n = (A.filter (stays es p.1)).length + 1) →
        ∃ (T : List Int) (K : List (Int × Int)), T.Nodup ∧ (∀ x ∈ T, x ∈ A) ∧ K.Sublist (p :: L) ∧ okTK es c t T K ∧ T.length + K.length + runS es c A (p :: L) = A.length + (p :: L).length := by
      intro B n hact hBn hBl hBm hcnt
      have hB2 : (actS es c A p).1 = B ∧ (actS es c A p).2.length = n := by
        rcases hact with h | ⟨l, h, rfl⟩ <;> rw [h] <;> simp
      obtain ⟨T', K', hTn, hTB, hK, hv, hs⟩ := run_kept L B p.1 hBn hBl (hL.tail fun y hy => (hBm y hy).imp (fun h => (List.mem_filter.mp h).1) id)
      have hmemT : ∀ y ∈ T'.filter (fun y => decide (y ≠ p.2)), y ∈ A.filter (stays es p.1) := fun y hy => by
        obtain ⟨h1, h2⟩ := List.mem_filter.mp hy
        rcases hBm y (hTB y h1) with h | h
        · exact h
        · simp [h] at h2
      have hperm : T'.countP (fun y => decide (y = p.2)) = if p.2 ∈ T' then 1 else 0 := by
        have := hTn.count (a := p.2)
        rw [List.count_eq_countP] at this
        rw [← this]
        exact List.countP_congr fun y _ => by simp
      refine ⟨(A.filter fun x => !stays es p.1 x) ++ T'.filter (fun y => decide (y ≠ p.2)), if p.2 ∈ T' then p :: K' else K', ?_, fun y hy => ?_, ?_, fun x hx => ?_, ?_⟩
      · refine List.nodup_append.mpr ⟨List.Sublist.nodup List.filter_sublist hA, List.Sublist.nodup List.filter_sublist hTn, fun y hy z hz e => ?_⟩
        have h1 := (List.mem_filter.mp hy).2
        have h2 := (List.mem_filter.mp (hmemT z hz)).2
        rw [e] at h1
        rw [h2] at h1
        exact absurd h1 (by decide)
      · rcases List.mem_append.mp hy with h | h
        · exact (List.mem_filter.mp h).1
        · exact (List.mem_filter.mp (hmemT y h)).1
      · split
        · exact hK.cons_cons p
        · exact hK.cons p
      · by_cases hxp : p.1 ≤ x
        · have h1 := hv x hxp
          have h2 : (A.filter fun y => !stays es p.1 y).countP (hitT es x) = 0 := by
            rw [List.countP_eq_zero]
            intro y hy
            have := (List.mem_filter.mp hy).2
            unfold stays at this
            unfold hitT
            simp at this ⊢
            lia
          rw [List.countP_append, h2, Nat.zero_add]
          have h3 : (T'.filter fun y => decide (y ≠ p.2)).countP (hitT es x) + (if p.2 ∈ T' ∧ hitT es x p.2 = true then 1 else 0) = T'.countP (hitT es x) := by
            clear hmemT hs hv hK hTB h1
            induction T' with
            | nil => simp
            | cons a T' ih =>
              obtain ⟨ha, hT⟩ := List.nodup_cons.mp hTn
              by_cases hap : a = p.2
              · subst hap
                have hf : (T'.filter fun y => decide (y ≠ p.2)) = T' := List.filter_eq_self.mpr fun y hy => by
                  have : y ≠ p.2 := fun e => ha (e ▸ hy)
                  simpa using this
                rw [List.filter_cons, if_neg (by simp), hf, List.countP_cons]
                simp
              · have hp' : T'.countP (fun y => decide (y = p.2)) = if p.2 ∈ T' then 1 else 0 := by
                  have := hT.count (a := p.2)
                  rw [List.count_eq_countP] at this
                  rw [← this]
                  exact List.countP_congr fun y _ => by simp
                have := ih hT hp'
                rw [List.filter_cons, if_pos (by simp [hap]), List.countP_cons, List.countP_cons]
                have hiff : (p.2 ∈ a :: T') ↔ p.2 ∈ T' := by simp [Ne.symm hap]
                simp only [hiff]
                lia
          have h4 : hitK es x p = hitT es x p.2 := by unfold hitK hitT; simp; lia
          split
          · rename_i hin
            rw [List.countP_cons, h4]
            cases hh : hitT es x p.2 <;> simp [hin, hh] at h3 ⊢ <;> lia
          · rename_i hin
            rw [if_neg (fun h => hin h.1)] at h3
            lia
        · have h0 : (if p.2 ∈ T' then p :: K' else K').countP (hitK es x) = 0 := by
            refine count_nil_tail fun q hq => ?_
            have hsub : ∀ q ∈ p :: L, x < q.1 := fun q hq => by
              rcases List.mem_cons.mp hq with rfl | hq
              · lia
              · have := (List.pairwise_cons.mp hL.sorted).1 q hq; lia
            split at hq
            · rcases List.mem_cons.mp hq with rfl | hq
              · lia
              · exact hsub q (List.mem_cons_of_mem _ (hK.subset hq))
            · exact hsub q (List.mem_cons_of_mem _ (hK.subset hq))
          rw [h0]
          have h1 := List.countP_le_length (p := hitT es x) (l := (A.filter fun x => !stays es p.1 x) ++ T'.filter (fun y => decide (y ≠ p.2)))
          have h2 := sub_len (l := T'.filter (fun y => decide (y ≠ p.2))) (List.Sublist.nodup List.filter_sublist hTn) hmemT
          rw [List.length_append] at h1
          have h3 : (A.filter fun x => !stays es p.1 x).length + (A.filter (stays es p.1)).length = A.length := by lia
          generalize (A.filter fun x => !stays es p.1 x).length = n1 at *
          generalize (A.filter (stays es p.1)).length = n2 at *
          lia
      · have h5 : (T'.filter fun y => decide (y ≠ p.2)).length + (if p.2 ∈ T' then 1 else 0) = T'.length := by
          have := filter_split (T := T') (fun y => decide (y ≠ p.2))
          rw [← hperm, List.countP_eq_length_filter]
          have e : (T'.filter fun x => !decide (x ≠ p.2)) = T'.filter fun y => decide (y = p.2) := List.filter_congr fun y _ => by simp
          rw [← e]; lia
        have h6 : runS es c A (p :: L) = n + runS es c B L := by simp only [runS, hB2]
        rw [h6, List.length_append]
        split at h5 <;> (rename_i hin; simp only [hin, if_true, if_false, List.length_cons] at h5 ⊢; lia)
    rcases act_cases (es := es) hA hpA hAl with ⟨hlt, e⟩ | ⟨hfull, l, B, e, hBn, hBl, hlm, hBm, hmax⟩
    · refine key _ 0 (.inl (by rw [e]; rfl)) ?_ (by simp; lia) (fun y hy => ?_) (by simp)
      · exact List.nodup_append.mpr ⟨han, by simp, fun y hy z hz e => hpa (by rw [List.mem_singleton.mp hz] at e; rw [← e]; exact hy)⟩
      · rcases List.mem_append.mp hy with h | h
        · exact .inl h
        · exact .inr (List.mem_singleton.mp h)
    · exact key B 1 (.inr ⟨l, e, rfl⟩) hBn (by lia) (fun y hy => ((hBm y).mp hy).1) (by lia)
noncomputable def loOf (es : Rg) (r : Int) : Int := ((es.lookup r).map (·.1)).getD 0
noncomputable def onR (es : Rg) (x r : Int) : Bool := decide (loOf es r ≤ x) && decide (x ≤ endOf es r)
noncomputable def validR (es : Rg) (c : Nat) (R : List Int) : Prop := ∀ x, R.countP (onR es x) ≤ c

structure ROK (es : Rg) : Prop where
  nd : (es.map (·.1)).Nodup
  ends : ∀ e ∈ es, e.2.1 ≤ e.2.2

theorem lower (o : List (Int × Int)) : ∃ t, ∀ p ∈ o, t ≤ p.1 := by
  induction o with
  | nil => exact ⟨0, fun _ h => nomatch h⟩
  | cons p o ih =>
    obtain ⟨t, ht⟩ := ih
    refine ⟨min t p.1, fun q hq => ?_⟩
    rcases List.mem_cons.mp hq with rfl | hq
    · lia
    · have := ht q hq; lia

theorem lex_le {a b : Int × Int} (h : lexlt a b = true) : a.1 ≤ b.1 := by
  unfold lexlt at h
  by_cases he : a.1 = b.1
  · lia
  · simp [he] at h; lia

theorem ord_at {es : Rg} {o : List (Int × Int)} (h : ROK es) (ho : IsOrd es o) {p : Int × Int} (hp : p ∈ o) : loOf es p.2 = p.1 ∧ p.1 ≤ endOf es p.2 ∧ p.2 ∈ es.map (·.1) := by
  have h1 := (ord_regs h.nd ho).1 p hp
  have h2 := h.ends _ (lookup_mem h1)
  refine ⟨?_, h2, lookup_isSome_iff.mp (by rw [h1]; rfl)⟩
  unfold loOf
  rw [h1]; rfl

theorem ord_keys {es : Rg} {o : List (Int × Int)} (ho : IsOrd es o) : (o.map (·.2)).Perm (es.map (·.1)) := by
  have := ho.1.map (·.2)
  rw [show (orderP es).map (·.2) = es.map (·.1) by simp [orderP]] at this
  exact this

theorem ord_lok {es : Rg} {o : List (Int × Int)} (h : ROK es) (ho : IsOrd es o) {t : Int} (ht : ∀ p ∈ o, t ≤ p.1) : LOK es t [] o :=
  ⟨ho.2.imp fun hab => lex_le hab, ht, fun p hp => (ord_at h ho hp).2.1, (ord_regs h.nd ho).2, fun _ _ h => nomatch h⟩

theorem sp_run {es : Rg} {c : Nat} {o : List (Int × Int)} (hnd : (es.map (·.1)).Nodup) (ho : IsOrd es o) : (scanF es c o).sp.length = runS es c [] o := by
  obtain ⟨hreg, hon⟩ := ord_regs hnd ho
  have key : ∀ (l : List (Int × Int)) (s : SSt) (done : List Int), ORun es c s done → (∀ p ∈ l, (es.lookup p.2).isSome = true) → (done ++ l.map (·.2)).Nodup → (l.foldl (stepS es) s).sp.length = s.sp.length + runS es c s.act l := by
    intro l
    induction l with
    | nil => intro s done _ _ _; rfl
    | cons p l ih =>
      intro s done hs hl hn
      have hp : p.2 ∉ done := fun hm => (List.nodup_append.mp hn).2.2 _ hm _ (by simp) rfl
      obtain ⟨a1, a2⟩ := step_actS (p := p) hs.inv
      have := ih (stepS es s p) (done ++ [p.2]) (hs.step (hl p List.mem_cons_self) hp) (fun q hq => hl q (List.mem_cons_of_mem _ hq)) (by simpa using hn)
      rw [List.foldl_cons, this, a2, a1, List.length_append]
      simp only [runS]
      lia
  have := key o ⟨[], downF c, [], []⟩ [] (orun_init es c) (fun p hp => by rw [hreg p hp]; rfl) (by simpa using hon)
  have this : (scanF es c o).sp.length = ([] : List Int).length + runS es c [] o := this
  rw [this, List.length_nil, Nat.zero_add]

theorem count_keys {es : Rg} {o K : List (Int × Int)} (h : ROK es) (ho : IsOrd es o) (hK : K.Sublist o) (x : Int) : K.countP (hitK es x) = (K.map (·.2)).countP (onR es x) := by
  rw [List.countP_map]
  refine List.countP_congr fun p hp => ?_
  have := (ord_at h ho (hK.subset hp)).1
  unfold hitK
  simp only [Function.comp, onR, this]

/-- the number of the spilled is the least possible -/
theorem scan_best {es : Rg} {c : Nat} {o : List (Int × Int)} (h : ROK es) (ho : IsOrd es o) {R : List Int} (hn : R.Nodup) (hR : ∀ r ∈ R, r ∈ es.map (·.1)) (hv : validR es c R) : R.length + (scanF es c o).sp.length ≤ es.length := by
  obtain ⟨t, ht⟩ := lower o
  have hkeys := ord_keys ho
  have hKs : (o.filter fun p => R.contains p.2).Sublist o := List.filter_sublist
  have hperm : ((o.filter fun p => R.contains p.2).map (·.2)).Perm R := by
    refine (List.perm_ext_iff_of_nodup ?_ hn).mpr fun r => ?_
    · exact ((hKs.map (·.2))).nodup (ord_regs h.nd ho).2
    · constructor
      · intro hm
        obtain ⟨p, hp, rfl⟩ := List.mem_map.mp hm
        exact List.contains_iff_mem.mp (List.mem_filter.mp hp).2
      · intro hm
        obtain ⟨p, hp, rfl⟩ := List.mem_map.mp (hkeys.mem_iff.mpr (hR r hm))
        exact List.mem_map.mpr ⟨p, List.mem_filter.mpr ⟨hp, List.contains_iff_mem.mpr hm⟩, rfl⟩
  have := run_best (es := es) (c := c) o [] [] (o.filter fun p => R.contains p.2) t List.nodup_nil (Nat.zero_le _) (ord_lok h ho ht) List.nodup_nil (fun _ h => nomatch h) hKs fun x _ => by
    rw [List.countP_nil, Nat.zero_add, count_keys h ho hKs, hperm.countP_eq]
    exact hv x
  rw [← sp_run h.nd ho] at this
  have hl := hperm.length_eq
  rw [List.length_map] at hl
  have hlo := hkeys.length_eq
  rw [List.length_map, List.length_map] at hlo
  rw [List.length_nil, Nat.zero_add, Nat.zero_add] at this
  lia

theorem scan_kept {es : Rg} {c : Nat} {o : List (Int × Int)} (h : ROK es) (ho : IsOrd es o) : ∃ R : List Int, R.Nodup ∧ (∀ r ∈ R, r ∈ es.map (·.1)) ∧ validR es c R ∧ R.length + (scanF es c o).sp.length = es.length := by
  obtain ⟨t, ht⟩ := lower o
  obtain ⟨T, K, hT, hTA, hK, hv, hs⟩ := run_kept (es := es) (c := c) o [] t List.nodup_nil (Nat.zero_le _) (ord_lok h ho ht)
  have hT0 : T = [] := List.eq_nil_iff_forall_not_mem.mpr fun x hx => nomatch hTA x hx
  subst hT0
  have hlo := (ord_keys ho).length_eq
  rw [List.length_map, List.length_map] at hlo
  refine ⟨K.map (·.2), ((hK.map (·.2))).nodup (ord_regs h.nd ho).2, fun r hr => ?_, fun x => ?_, ?_⟩
  · obtain ⟨p, hp, rfl⟩ := List.mem_map.mp hr
    exact (ord_at h ho (hK.subset hp)).2.2
  · rw [← count_keys h ho hK]
    by_cases hx : t ≤ x
    · have := hv x hx
      rw [List.countP_nil, Nat.zero_add] at this
      exact this
    · rw [count_nil_tail fun p hp => by have := ht p (hK.subset hp); lia]
      exact Nat.zero_le _
  · rw [sp_run h.nd ho]
    simp at hs ⊢
    lia

/-! turned end for end -/
theorem lookup_turn (es : Rg) (r : Int) : (turnF es).lookup r = (es.lookup r).map fun p => ((20 : Int) - p.2, (20 : Int) - p.1) := by
  unfold turnF
  induction es with
  | nil => rfl
  | cons e es ih =>
    obtain ⟨a, p⟩ := e
    rw [List.map_cons, List.lookup_cons, List.lookup_cons]
    by_cases h : r = a
    · subst h; simp
    · rw [beq_false_of_ne h]; exact ih

theorem turn_keys (es : Rg) : (turnF es).map (·.1) = es.map (·.1) := by simp [turnF, Function.comp_def]

theorem on_turn {es : Rg} {r : Int} (hr : r ∈ es.map (·.1)) (x : Int) : onR (turnF es) x r = onR es (20 - x) r := by
  obtain ⟨p, hp⟩ := Option.isSome_iff_exists.mp (lookup_isSome_iff.mpr hr)
  unfold onR loOf endOf
  rw [lookup_turn, hp]
  simp only [Option.map_some, Option.getD_some]
  rw [Bool.eq_iff_iff]
  simp only [Bool.and_eq_true, decide_eq_true_eq]
  lia

theorem ROK.turn {es : Rg} (h : ROK es) : ROK (turnF es) := ⟨by rw [turn_keys]; exact h.nd, fun e he => by
  obtain ⟨e0, h0, rfl⟩ := List.mem_map.mp he
  have := h.ends e0 h0
  show (20 : Int) - e0.2.2 ≤ 20 - e0.2.1
  lia⟩

theorem valid_turn {es : Rg} {c : Nat} {R : List Int} (hR : ∀ r ∈ R, r ∈ es.map (·.1)) : validR (turnF es) c R ↔ validR es c R := by
  have e : ∀ x, R.countP (onR (turnF es) x) = R.countP (onR es (20 - x)) := fun x => List.countP_congr fun r hr => by rw [on_turn (hR r hr)]
  constructor
  · intro h x
    have := h (20 - x)
    rw [e, show (20 : Int) - (20 - x) = x by lia] at this
    exact this
  · intro h x
    rw [e]; exact h _

theorem scan_turn {es : Rg} {c : Nat} {o o' : List (Int × Int)} (h : ROK es) (ho : IsOrd es o) (ho' : IsOrd (turnF es) o') : (scanF (turnF es) c o').sp.length = (scanF es c o).sp.length := by
  obtain ⟨R, r1, r2, r3, r4⟩ := scan_kept (c := c) h ho
  obtain ⟨S, s1, s2, s3, s4⟩ := scan_kept (c := c) h.turn ho'
  rw [turn_keys] at s2
  have a := scan_best h.turn ho' r1 (by rw [turn_keys]; exact r2) ((valid_turn r2).mpr r3)
  have b := scan_best h ho s1 s2 ((valid_turn s2).mp s3)
  have hl : (turnF es).length = es.length := by simp [turnF]
  lia

/-! one left out -/
theorem lookup_few (es : Rg) (a : Int) {r : Int} (h : r ≠ a) : (fewF es a).lookup r = es.lookup r := by
  unfold fewF
  induction es with
  | nil => rfl
  | cons e es ih =>
    obtain ⟨b, p⟩ := e
    rw [List.filter_cons, List.lookup_cons]
    by_cases hb : b = a
    · subst hb
      rw [if_neg (by simp), ih, beq_false_of_ne h]
    · rw [if_pos (by simpa using hb), List.lookup_cons, ih]

theorem few_keys (es : Rg) (a : Int) : (fewF es a).map (·.1) = (es.map (·.1)).filter fun r => decide (r ≠ a) := by
  unfold fewF
  rw [List.filter_map]
  rfl

theorem ROK.few {es : Rg} (h : ROK es) (a : Int) : ROK (fewF es a) := ⟨by rw [few_keys]; exact List.Sublist.nodup List.filter_sublist h.nd, fun e he => h.ends e (List.mem_filter.mp he).1⟩

theorem on_few {es : Rg} {a r : Int} (h : r ≠ a) (x : Int) : onR (fewF es a) x r = onR es x r := by
  unfold onR loOf endOf
  rw [lookup_few es a h]

theorem scan_few {es : Rg} {c : Nat} {a : Int} {o o' : List (Int × Int)} (h : ROK es) (ho : IsOrd es o) (ho' : IsOrd (fewF es a) o') : (scanF (fewF es a) c o').sp.length ≤ (scanF es c o).sp.length ∧ (scanF es c o).sp.length ≤ (scanF (fewF es a) c o').sp.length + 1 := by
  have hmem : ∀ r, r ∈ (fewF es a).map (·.1) ↔ r ∈ es.map (·.1) ∧ r ≠ a := fun r => by rw [few_keys, List.mem_filter]; simp
  have hlen : (fewF es a).length + (if a ∈ es.map (·.1) then 1 else 0) = es.length := by
    have h1 : (fewF es a).length = ((es.map (·.1)).filter fun r => decide (r ≠ a)).length := by rw [← few_keys, List.length_map]
    have h2 := filter_split (T := es.map (·.1)) (fun r => decide (r ≠ a))
    have h3 : ((es.map (·.1)).filter fun x => !decide (x ≠ a)).length = if a ∈ es.map (·.1) then 1 else 0 := by
      rw [← h.nd.count, List.count_eq_countP, List.countP_eq_length_filter]
      congr 1
      exact List.filter_congr fun y _ => by rw [Bool.eq_iff_iff]; simp
    rw [List.length_map] at h2
    lia
  obtain ⟨R, r1, r2, r3, r4⟩ := scan_kept (c := c) h ho
  obtain ⟨S, s1, s2, s3, s4⟩ := scan_kept (c := c) (h.few a) ho'
  have b := scan_best h ho s1 (fun r hr => ((hmem r).mp (s2 r hr)).1) fun x => by
    rw [← List.countP_congr (p := onR (fewF es a) x) fun r hr => by rw [on_few ((hmem r).mp (s2 r hr)).2]]
    exact s3 x
  have c1 := scan_best (c := c) (R := R.erase a) (h.few a) ho' (r1.erase a) (fun r hr => by
    have := r1.mem_erase_iff.mp hr
    exact (hmem r).mpr ⟨r2 r this.2, this.1⟩) fun x => by
    rw [List.countP_congr (q := onR es x) fun r hr => by rw [on_few (r1.mem_erase_iff.mp hr).1]]
    exact Nat.le_trans (List.Sublist.countP_le (List.erase_sublist ..)) (r3 x)
  by_cases hin : a ∈ es.map (·.1)
  · rw [if_pos hin] at hlen
    have : R.length ≤ (R.erase a).length + 1 := by rw [List.length_erase]; split <;> lia
    lia
  · rw [if_neg hin] at hlen
    have : R.erase a = R := List.erase_of_not_mem fun hm => hin (r2 a hm)
    rw [this] at c1
    lia
theorem RgOK.rok {es : Rg} (h : RgOK es) : ROK es := ⟨h.nodup, fun e he => by have := h.ends e he; lia⟩

theorem cnt_keys {es : Rg} (h : (es.map (·.1)).Nodup) (x : Int) : (es.map (·.1)).countP (onR es x) = cnt es x := by
  unfold cnt
  rw [List.countP_map, ← List.countP_eq_length_filter]
  refine List.countP_congr fun e he => ?_
  have := lookup_of_nodup h e he
  simp only [Function.comp, onR, loOf, endOf, this, lies, Option.map_some, Option.getD_some]

theorem cnt_out {es : Rg} (h : RgOK es) {x : Int} (hx : ¬ (0 ≤ x ∧ x ≤ 12)) : cnt es x = 0 := by
  unfold cnt
  rw [List.length_eq_zero_iff, List.filter_eq_nil_iff]
  intro e he
  have := h.ends e he
  unfold lies
  simp; lia

theorem full_spec {es : Rg} (h : RgOK es) : (∀ x, (cnt es x : Int) ≤ fullF es) ∧ ∃ x : Int, 0 ≤ x ∧ x ≤ 12 ∧ (cnt es x : Int) = fullF es := by
  obtain ⟨h1, h2⟩ := listMax_spec ((List.range 13).map fun (p : Nat) => ((cnt es p : Nat) : Int)) (by simp)
  obtain ⟨p, hp, e⟩ := List.mem_map.mp h1
  refine ⟨fun x => ?_, (p : Int), by lia, by have := List.mem_range.mp hp; lia, e⟩
  by_cases hx : 0 ≤ x ∧ x ≤ 12
  · have := h2 (cnt es x) (List.mem_map.mpr ⟨x.toNat, List.mem_range.mpr (by lia), by rw [Int.toNat_of_nonneg hx.1]⟩)
    exact this
  · rw [cnt_out h hx]
    have := h2 _ h1
    have e2 : (0 : Int) ≤ (cnt es p : Int) := by lia
    unfold fullF
    lia

theorem scan_full {es : Rg} {c : Nat} {o : List (Int × Int)} (h : RgOK es) (ho : IsOrd es o) : (scanF es c o).sp = [] ↔ fullF es ≤ c := by
  obtain ⟨f1, x0, _, _, f2⟩ := full_spec h
  constructor
  · intro hs
    obtain ⟨R, r1, r2, r3, r4⟩ := scan_kept (c := c) h.rok ho
    rw [hs, List.length_nil, Nat.add_zero] at r4
    have hp : R.Perm (es.map (·.1)) := by
      have hsub : (es.map (·.1)).length ≤ R.length := by rw [List.length_map]; lia
      refine (List.perm_ext_iff_of_nodup r1 h.nodup).mpr fun a => ⟨r2 a, fun ha => ?_⟩
      apply Classical.byContradiction
      intro hna
      have := sub_len (l := a :: R) (m := es.map (·.1)) (List.nodup_cons.mpr ⟨hna, r1⟩) fun y hy => by
        rcases List.mem_cons.mp hy with rfl | hy
        · exact ha
        · exact r2 y hy
      rw [List.length_map, List.length_cons] at this
      lia
    have := r3 x0
    rw [hp.countP_eq, cnt_keys h.nodup] at this
    lia
  · intro hf
    have := scan_best (c := c) h.rok ho h.nodup (fun _ h => h) fun x => by
      rw [cnt_keys h.nodup]
      have := f1 x
      lia
    rw [List.length_map] at this
    exact List.length_eq_zero_iff.mp (by lia)

/-! the registers dealt when nothing is spilled -/
theorem exp_freed {es : Rg} {first : Int} {d : List (Int × Int)} : ∀ (r : List Int) (s : List Int × List Int), ∃ F, (expF es first d r s).2 = s.2 ++ F ∧ ∀ y ∈ F, ∃ o ∈ r, y = (d.lookup o).getD 0
  | [], s => ⟨[], by simp [expF], fun _ h => nomatch h⟩
  | o :: r, s => by
    show ∃ F, (expF es first d r (if endOf es o < first then (s.1.erase o, s.2 ++ [(d.lookup o).getD 0]) else s)).2 = s.2 ++ F ∧ _
    obtain ⟨F, h1, h2⟩ := exp_freed (es := es) (first := first) (d := d) r (if endOf es o < first then (s.1.erase o, s.2 ++ [(d.lookup o).getD 0]) else s)
    by_cases hc : endOf es o < first
    · rw [if_pos hc] at h1 ⊢
      refine ⟨[(d.lookup o).getD 0] ++ F, by rw [h1]; simp, fun y hy => ?_⟩
      rcases List.mem_append.mp hy with h | h
      · exact ⟨o, List.mem_cons_self, List.mem_singleton.mp h⟩
      · obtain ⟨z, hz, e⟩ := h2 y h
        exact ⟨z, List.mem_cons_of_mem _ hz, e⟩
    · rw [if_neg hc] at h1 ⊢
      refine ⟨F, h1, fun y hy => ?_⟩
      obtain ⟨z, hz, e⟩ := h2 y hy
      exact ⟨z, List.mem_cons_of_mem _ hz, e⟩

theorem sp_prefix {es : Rg} {c : Nat} : ∀ (l : List (Int × Int)) (s : SSt), s.sp <+: (l.foldl (stepS es) s).sp
  | [], s => List.prefix_refl _
  | p :: l, s => by
    refine List.IsPrefix.trans ?_ (sp_prefix (c := c) l (stepS es s p))
    unfold stepS
    simp only
    split
    · split <;> exact List.prefix_append _ _
    · exact List.prefix_refl _

noncomputable def baseF (c u : Nat) : List Int := (List.range (c - u)).map fun (x : Nat) => (c : Int) - 1 - x

theorem base_last {c u : Nat} (h : u < c) : baseF c u = baseF c (u + 1) ++ [(u : Int)] := by
  unfold baseF
  rw [show c - u = (c - (u + 1)) + 1 by lia, List.range_succ, List.map_append]
  simp; lia

/-- nothing spilled so far -/
structure MInv (es : Rg) (c : Nat) (st : SSt) (done : List (Int × Int)) (t : Int) (u : Nat) : Prop where
  uc : u ≤ c
  free : ∃ F, st.free = baseF c u ++ F ∧ ∀ y ∈ F, 0 ≤ y ∧ y < (u : Int)
  vals : ∀ y ∈ st.dealt.map (·.2), 0 ≤ y ∧ y < (u : Int)
  top : 0 < u → ((u : Int) - 1) ∈ st.dealt.map (·.2)
  keys : ∀ r ∈ st.dealt.map (·.1), r ∈ done.map (·.2)
  act : ∀ r ∈ st.act, r ∈ done.map (·.2)
  live : ∀ p ∈ done, t ≤ endOf es p.2 → p.2 ∈ st.act
  cov : ∀ x, done.countP (hitK es x) ≤ u
  hit : 0 < u → ∃ x, u ≤ done.countP (hitK es x)

theorem MInv.step {es : Rg} {c n : Nat} {st : SSt} {done : List (Int × Int)} {t : Int} {u : Nat} {p : Int × Int} (h : MInv es c st done t u) (hi : SInv es c st n) (ht : t ≤ p.1) (hfst : ∀ q ∈ done, q.1 ≤ p.1) (hpe : p.1 ≤ endOf es p.2) (hn : ((done ++ [p]).map (·.2)).Nodup)
    (hs : (stepS es st p).sp = []) : ∃ u', MInv es c (stepS es st p) (done ++ [p]) p.1 u' := by
  obtain ⟨F, hF, hFl⟩ := h.free
  have hact := exp_act (es := es) (first := p.1) (d := st.dealt) (f := st.free) hi.actnd
  obtain ⟨e1, e2, e3⟩ := expF_inv (es := es) (first := p.1) (dealt := st.dealt) st.act (st.act, st.free) hi.actnd hi.actnd fun _ h => h
  have e3 : (expF es p.1 st.dealt st.act (st.act, st.free)).2.length + (expF es p.1 st.dealt st.act (st.act, st.free)).1.length = st.free.length + st.act.length := e3
  obtain ⟨G, hG, hGl⟩ := exp_freed (es := es) (first := p.1) (d := st.dealt) st.act (st.act, st.free)
  have hroom := hi.room
  have hpd : p.2 ∉ done.map (·.2) := fun hm => by
    rw [List.map_append] at hn
    exact (List.nodup_append.mp hn).2.2 _ hm p.2 (by simp) rfl
  have hpk : p.2 ∉ st.dealt.map (·.1) := fun hm => hpd (h.keys _ hm)
  have hGb : ∀ y ∈ G, 0 ≤ y ∧ y < (u : Int) := fun y hy => by
    obtain ⟨o, ho, rfl⟩ := hGl y hy
    obtain ⟨v, hv⟩ := Option.isSome_iff_exists.mp (hi.actdl o ho)
    rw [hv]
    exact h.vals v (List.mem_map.mpr ⟨(o, v), lookup_mem hv, rfl⟩)
  have hFG : ∀ y ∈ F ++ G, 0 ≤ y ∧ y < (u : Int) := fun y hy => by
    rcases List.mem_append.mp hy with q | q
    · exact hFl y q
    · exact hGb y q
  have hs2 : (expF es p.1 st.dealt st.act (st.act, st.free)).2 = baseF c u ++ (F ++ G) := by rw [hG, hF]; simp
  -- who lies over a place from here on is active
  have hcov : ∀ x, p.1 ≤ x → done.countP (hitK es x) ≤ (st.act.filter (stays es p.1)).length := fun x hx => by
    rw [List.countP_eq_length_filter, ← List.length_map (as := done.filter (hitK es x)) (f := fun q : Int × Int => q.2)]
    refine sub_len ?_ fun r hr => ?_
    · refine (List.Sublist.map (fun q : Int × Int => q.2) (List.filter_sublist (p := hitK es x) (l := done))).nodup ?_
      rw [List.map_append] at hn
      exact (List.nodup_append.mp hn).1
    · obtain ⟨q, hq, rfl⟩ := List.mem_map.mp hr
      obtain ⟨hq1, hq2⟩ := List.mem_filter.mp hq
      have hq3 : x ≤ endOf es q.2 := by unfold hitK at hq2; simp at hq2; exact hq2.2
      refine List.mem_filter.mpr ⟨h.live q hq1 (by lia), ?_⟩
      unfold stays; simp; lia
  unfold stepS at hs ⊢
  simp only at hs ⊢
  rw [hact] at e1 e2 e3 hs ⊢
  rw [hs2] at e3 hs ⊢
  have hne : baseF c u ++ (F ++ G) ≠ [] := by
    intro e
    rw [if_pos e] at hs
    split at hs <;> simp at hs
  rw [if_neg hne] at hs ⊢
  have hbl : (baseF c u).length = c - u := by simp [baseF]
  simp only [List.length_append] at e3
  rw [hbl] at e3
  have hactm : ∀ r ∈ st.act.filter (stays es p.1) ++ [p.2], r ∈ (done ++ [p]).map (·.2) := fun r hr => by
    rw [List.map_append]
    rcases List.mem_append.mp hr with q | q
    · exact List.mem_append_left _ (h.act r (List.mem_filter.mp q).1)
    · exact List.mem_append_right _ (by simpa using q)
  have hlive : ∀ q ∈ done ++ [p], p.1 ≤ endOf es q.2 → q.2 ∈ st.act.filter (stays es p.1) ++ [p.2] := fun q hq hqe => by
    rcases List.mem_append.mp hq with q1 | q1
    · refine List.mem_append_left _ (List.mem_filter.mpr ⟨h.live q q1 (by lia), ?_⟩)
      unfold stays; simp; lia
    · rw [List.mem_singleton.mp q1]; simp
  have hcount : ∀ x, (done ++ [p]).countP (hitK es x) ≤ done.countP (hitK es x) + 1 := fun x => by
    rw [List.countP_append, List.countP_singleton]
    split <;> lia
  have hcount0 : ∀ x, x < p.1 → (done ++ [p]).countP (hitK es x) = done.countP (hitK es x) := fun x hx => by
    rw [List.countP_append, List.countP_singleton, if_neg (by unfold hitK; simp; lia)]
    rfl
  rw [putP_new hpk]
  have hkeys : ∀ v : Int, ∀ r ∈ (st.dealt ++ [(p.2, v)]).map (·.1), r ∈ (done ++ [p]).map (·.2) := fun v r hr => by
    rw [List.map_append] at hr ⊢
    rcases List.mem_append.mp hr with q | q
    · exact List.mem_append_left _ (h.keys r q)
    · exact List.mem_append_right _ (by simpa using q)
  by_cases hfg : F ++ G = []
  · -- from the untouched ones
    have hu : u < c := by
      rw [hfg, List.append_nil] at hne
      have := List.length_pos_iff.mpr hne
      lia
    have hlast : (baseF c u ++ (F ++ G)).getLastD 0 = (u : Int) := by rw [hfg, List.append_nil, base_last hu]; simp
    have hdrop : (baseF c u ++ (F ++ G)).dropLast = baseF c (u + 1) := by rw [hfg, List.append_nil, base_last hu]; simp
    have hFG0 : F.length + G.length = 0 := by rw [← List.length_append, hfg]; rfl
    have hau : (st.act.filter (stays es p.1)).length = u := by have := h.uc; lia
    rw [hlast, hdrop]
    refine ⟨u + 1, hu, ⟨[], by simp, (fun _ h => nomatch h)⟩, (fun y hy => ?_), (fun _ => ?_), hkeys _, hactm, hlive, fun x => ?_, fun _ => ⟨p.1, ?_⟩⟩
    · rw [List.map_append] at hy
      rcases List.mem_append.mp hy with q | q
      · have := h.vals y q; lia
      · have : y = (u : Int) := by simpa using q
        lia
    · rw [List.map_append]
      refine List.mem_append_right _ ?_
      simp
    · have := hcount x; have := h.cov x; lia
    · rw [List.countP_append, List.countP_singleton, if_pos (by unfold hitK; simp; lia)]
      have : (st.act.filter (stays es p.1)).length ≤ done.countP (hitK es p.1) := by
        rw [List.countP_eq_length_filter, ← List.length_map (as := done.filter (hitK es p.1)) (f := fun q : Int × Int => q.2)]
        refine sub_len e1 fun r hr => ?_
        obtain ⟨q1, q2⟩ := List.mem_filter.mp hr
        obtain ⟨q, hq, rfl⟩ := List.mem_map.mp (h.act r q1)
        refine List.mem_map.mpr ⟨q, List.mem_filter.mpr ⟨hq, ?_⟩, rfl⟩
        have := hfst q hq
        unfold stays at q2
        unfold hitK
        simp at q2 ⊢
        lia
      lia
  · -- one that was given back
    obtain ⟨D, v, hD⟩ : ∃ D v, F ++ G = D ++ [v] := ⟨(F ++ G).dropLast, (F ++ G).getLast hfg, (List.dropLast_concat_getLast hfg).symm⟩
    have hv : 0 ≤ v ∧ v < (u : Int) := hFG v (by rw [hD]; simp)
    have hlast : (baseF c u ++ (F ++ G)).getLastD 0 = v := by rw [hD, ← List.append_assoc]; simp
    have hdrop : (baseF c u ++ (F ++ G)).dropLast = baseF c u ++ D := by rw [hD, ← List.append_assoc]; simp
    have hFG1 : 0 < F.length + G.length := by rw [← List.length_append]; exact List.length_pos_iff.mpr hfg
    rw [hlast, hdrop]
    refine ⟨u, h.uc, ⟨D, rfl, fun y hy => hFG y (by rw [hD]; simp [hy])⟩, fun y hy => ?_, fun h0 => ?_, hkeys _, hactm, hlive, fun x => ?_, fun h0 => ?_⟩
    · rw [List.map_append] at hy
      rcases List.mem_append.mp hy with q | q
      · exact h.vals y q
      · have : y = v := by simpa using q
        lia
    · rw [List.map_append]
      exact List.mem_append_left _ (h.top h0)
    · by_cases hx : p.1 ≤ x
      · have h1 := hcount x
        have h2 := hcov x hx
        have := h.uc
        lia
      · rw [hcount0 x (by lia)]; exact h.cov x
    · obtain ⟨x, hx⟩ := h.hit h0
      exact ⟨x, by rw [List.countP_append]; lia⟩

theorem ord_cnt {es : Rg} {o : List (Int × Int)} (h : ROK es) (ho : IsOrd es o) (x : Int) : o.countP (hitK es x) = cnt es x := by
  rw [count_keys h ho (List.Sublist.refl _), (ord_keys ho).countP_eq, cnt_keys h.nd]

theorem scan_most {es : Rg} {c : Nat} {o : List (Int × Int)} (h : RgOK es) (ho : IsOrd es o) (hs : (scanF es c o).sp = []) : (scanF es c o).dealt ≠ [] ∧ listMax ((scanF es c o).dealt.map (·.2)) + 1 = fullF es := by
  obtain ⟨hreg, hon⟩ := ord_regs h.nodup ho
  have key : ∀ (l : List (Int × Int)) (s : SSt) (done : List (Int × Int)) (t : Int) (u : Nat), ORun es c s (done.map (·.2)) → MInv es c s done t u → (done ++ l).Pairwise (fun a b => a.1 ≤ b.1) → (∀ p ∈ l, t ≤ p.1) → (∀ p ∈ l, p.1 ≤ endOf es p.2) → (∀ p ∈ l, (es.lookup p.2).isSome = true) → ((done ++ l).map (·.2)).Nodup →
      (l.foldl (stepS es) s).sp = [] → ∃ u t, MInv es c (l.foldl (stepS es) s) (done ++ l) t u := by
    intro l
    induction l with
    | nil => intro s done t u _ hm _ _ _ _ _ _; exact ⟨u, t, by simpa using hm⟩
    | cons p l ih =>
      intro s done t u hr hm hpw ht hend hlk hnd hsp
      have hsp1 : (stepS es s p).sp = [] := List.prefix_nil.mp (hsp ▸ sp_prefix (c := c) l (stepS es s p))
      have hpd : p.2 ∉ done.map (·.2) := fun hmm => by
        rw [List.map_append] at hnd
        exact (List.nodup_append.mp hnd).2.2 _ hmm p.2 (by simp) rfl
      obtain ⟨u', hm'⟩ := hm.step hr.inv (ht p List.mem_cons_self) (fun q hq => (List.pairwise_append.mp hpw).2.2 q hq p List.mem_cons_self) (hend p List.mem_cons_self)
        (by rw [List.map_append] at hnd ⊢; exact List.Sublist.nodup (List.Sublist.append_left (by simp) _) hnd) hsp1
      have hr' := hr.step (hlk p List.mem_cons_self) hpd
      have := ih (stepS es s p) (done ++ [p]) p.1 u' (by rw [List.map_append]; exact hr') hm' (by simpa using hpw) (fun q hq => (List.pairwise_cons.mp (List.pairwise_append.mp hpw).2.1).1 q hq) (fun q hq => hend q (List.mem_cons_of_mem _ hq)) (fun q hq => hlk q (List.mem_cons_of_mem _ hq)) (by simpa using hnd) hsp
      simpa using this
  obtain ⟨t, ht⟩ := lower o
  obtain ⟨u, t', hm⟩ := key o ⟨[], downF c, [], []⟩ [] t 0 (orun_init es c) ⟨Nat.zero_le _, ⟨[], by simp [baseF, downF], fun _ h => nomatch h⟩, (fun _ h => by simp at h), (fun h => absurd h (Nat.lt_irrefl _)), (fun _ h => by simp at h), (fun _ h => nomatch h), (fun _ h => nomatch h), (fun x => by simp), (fun h => absurd h (Nat.lt_irrefl _))⟩
    (by simpa using ho.2.imp fun hab => lex_le hab) ht (fun p hp => (ord_at h.rok ho hp).2.1) (fun p hp => by rw [hreg p hp]; rfl) (by simpa using hon) hs
  have hm : MInv es c (scanF es c o) o t' u := hm
  obtain ⟨f1, x0, _, _, f2⟩ := full_spec h
  have hlen : o.length = es.length := by have := (ord_keys ho).length_eq; simpa using this
  have hn := h.n
  -- some place is covered
  have hpos : 0 < u := by
    cases hoo : o with
    | nil => rw [hoo] at hlen; simp at hlen; lia
    | cons p o' =>
      have := hm.cov p.1
      rw [hoo, List.countP_cons, if_pos (by
        have := (ord_at h.rok ho (p := p) (by rw [hoo]; exact List.mem_cons_self)).2.1
        unfold hitK; simp; lia)] at this
      lia
  have htop := hm.top hpos
  have hdne : (scanF es c o).dealt ≠ [] := fun e => by rw [e] at htop; simp at htop
  refine ⟨hdne, ?_⟩
  obtain ⟨m1, m2⟩ := listMax_spec ((scanF es c o).dealt.map (·.2)) (by simpa using hdne)
  have a1 := hm.vals _ m1
  have a2 := m2 _ htop
  obtain ⟨x1, hx1⟩ := hm.hit hpos
  rw [ord_cnt h.rok ho] at hx1
  have b1 := hm.cov x0
  rw [ord_cnt h.rok ho] at b1
  have b2 := f1 x1
  lia

theorem fair_all {es : Rg} {c : Nat} {absent : Int} (h : RgOK es) : Fair es c absent where
  perm o ho := scan_part h.nodup ho
  full o ho := scan_full h ho
  most o ho hs := scan_most h ho hs
  turn o o' ho ho' := scan_turn h.rok ho ho'
  apart o o' ho ho' := by rw [scan_apart (fun e he => by have := h.ends e he; lia) ho ho']; exact ⟨rfl, rfl⟩
  few o o' ho ho' := scan_few h.rok ho ho'
theorem RInv.rok {es N a} (h : RInv es N a) : ROK es := ⟨h.nodup, fun e he => (h.ends e he).1⟩

/-- the registers dealt lie below the count -/
structure VInv (c : Nat) (st : SSt) : Prop where
  free : ∀ y ∈ st.free, 0 ≤ y ∧ y < (c : Int)
  vals : ∀ y ∈ st.dealt.map (·.2), 0 ≤ y ∧ y < (c : Int)

theorem putP_vals {es : List (Int × Int)} {k v y : Int} (h : y ∈ (putP es k v).map (·.2)) : y = v ∨ y ∈ es.map (·.2) := by
  obtain ⟨e, he, rfl⟩ := List.mem_map.mp h
  rcases putP_mem he with rfl | he
  · exact .inl rfl
  · exact .inr (List.mem_map.mpr ⟨e, he, rfl⟩)

theorem VInv.step {es : Rg} {c n : Nat} {st : SSt} {p : Int × Int} (h : VInv c st) (hi : SInv es c st n) : VInv c (stepS es st p) := by
  obtain ⟨e1, e2, e3⟩ := expF_inv (es := es) (first := p.1) (dealt := st.dealt) st.act (st.act, st.free) hi.actnd hi.actnd fun _ h => h
  obtain ⟨G, hG, hGl⟩ := exp_freed (es := es) (first := p.1) (d := st.dealt) st.act (st.act, st.free)
  have look : ∀ o ∈ st.act, 0 ≤ (st.dealt.lookup o).getD 0 ∧ (st.dealt.lookup o).getD 0 < (c : Int) := fun o ho => by
    obtain ⟨v, hv⟩ := Option.isSome_iff_exists.mp (hi.actdl o ho)
    rw [hv]
    exact h.vals v (List.mem_map.mpr ⟨(o, v), lookup_mem hv, rfl⟩)
  have hfr : ∀ y ∈ (expF es p.1 st.dealt st.act (st.act, st.free)).2, 0 ≤ y ∧ y < (c : Int) := fun y hy => by
    rw [hG] at hy
    rcases List.mem_append.mp hy with q | q
    · exact h.free y q
    · obtain ⟨o, ho, rfl⟩ := hGl y q
      exact look o ho
  unfold stepS
  simp only
  generalize expF es p.1 st.dealt st.act (st.act, st.free) = s at *
  split
  · split
    · exact ⟨hfr, h.vals⟩
    · rename_i hl
      have hlm : lonF es s.1 p.2 ∈ s.1 := by
        rcases lonF_mem (es := es) s.1 p.2 with q | q
        · exact absurd q hl
        · exact q
      refine ⟨hfr, fun y hy => ?_⟩
      rcases putP_vals hy with rfl | hy
      · exact look _ (e2 _ hlm)
      · obtain ⟨e, he, rfl⟩ := List.mem_map.mp hy
        exact h.vals _ (List.mem_map.mpr ⟨e, (List.mem_filter.mp he).1, rfl⟩)
  · rename_i hne
    refine ⟨fun y hy => hfr y (List.dropLast_subset _ hy), fun y hy => ?_⟩
    rcases putP_vals hy with rfl | hy
    · refine hfr _ ?_
      rw [List.getLastD_eq_getLast?, List.getLast?_eq_some_getLast hne]
      exact List.getLast_mem hne
    · exact h.vals y hy

theorem scan_vals {es : Rg} {c : Nat} {o : List (Int × Int)} (hnd : (es.map (·.1)).Nodup) (ho : IsOrd es o) : ∀ y ∈ (scanF es c o).dealt.map (·.2), 0 ≤ y ∧ y < (c : Int) := by
  obtain ⟨hreg, hon⟩ := ord_regs hnd ho
  have key : ∀ (l : List (Int × Int)) (s : SSt) (done : List Int), ORun es c s done → VInv c s → (∀ p ∈ l, (es.lookup p.2).isSome = true) → (done ++ l.map (·.2)).Nodup → VInv c (l.foldl (stepS es) s) := by
    intro l
    induction l with
    | nil => intro s done _ h _ _; exact h
    | cons p l ih =>
      intro s done hs h hl hn
      have hp : p.2 ∉ done := fun hm => (List.nodup_append.mp hn).2.2 _ hm _ (by simp) rfl
      exact ih _ (done ++ [p.2]) (hs.step (hl p List.mem_cons_self) hp) (h.step hs.inv) (fun q hq => hl q (List.mem_cons_of_mem _ hq)) (by simpa using hn)
  have := key o ⟨[], downF c, [], []⟩ [] (orun_init es c) ⟨fun y hy => by
    obtain ⟨x, hx, rfl⟩ := List.mem_map.mp hy
    have := List.mem_range.mp hx
    lia, fun _ h => by simp at h⟩ (fun p hp => by rw [hreg p hp]; rfl) (by simpa using hon)
  exact this.vals

/-- with as many registers as ranges nothing is spilled -/
theorem scan_room {es : Rg} {c : Nat} {o : List (Int × Int)} (h : ROK es) (ho : IsOrd es o) (hl : es.length ≤ c) : (scanF es c o).sp = [] := by
  have := scan_best (c := c) h ho h.nd (fun _ h => h) fun x => by
    have := List.countP_le_length (p := onR es x) (l := es.map (·.1))
    rw [List.length_map] at this
    lia
  rw [List.length_map] at this
  exact List.length_eq_zero_iff.mp (by lia)

/-! one operation spread -/
structure PInv (sc : Int) (rs : List Int) (s : PSt) : Prop where
  u0 : 0 ≤ s.used
  vals : ∀ e ∈ s.map, 0 ≤ e.2 ∧ e.2 < sc + s.used
  keys : ∀ r ∈ rs, (s.map.lookup r).isSome = true
  outs : ∀ op ∈ s.out, ∃ r c, op = .fetch r c ∧ 0 ≤ r ∧ r < sc + s.used
  len : (s.out.length : Int) = s.used

theorem pre_inv {dealt cells : List (Int × Int)} {sc : Int} (hsc : 0 ≤ sc) : ∀ (l rs : List Int) (s : PSt), PInv sc rs s → (∀ r ∈ l, cells.lookup r = none → ∃ v, dealt.lookup r = some v ∧ 0 ≤ v ∧ v < sc) →
    PInv sc (rs ++ l) (l.foldl (preF dealt cells sc) s) ∧ (l.foldl (preF dealt cells sc) s).used = s.used + (l.countP fun r => (cells.lookup r).isSome)
  | [], rs, s, h, _ => ⟨by simpa using h, by simp⟩
  | r :: l, rs, s, h, hd => by
    have hu := h.u0
    have h1 : PInv sc (rs ++ [r]) (preF dealt cells sc s r) ∧ (preF dealt cells sc s r).used = s.used + (if (cells.lookup r).isSome = true then 1 else 0) := by
      unfold preF
      cases hc : cells.lookup r with
      | some c =>
        refine ⟨⟨by show 0 ≤ s.used + 1; lia, fun e he => ?_, fun x hx => ?_, fun op hop => ?_, by simp [h.len]⟩, by simp⟩
        · show 0 ≤ e.2 ∧ e.2 < sc + (s.used + 1)
          rcases putP_mem he with rfl | he
          · show 0 ≤ sc + s.used ∧ sc + s.used < _; lia
          · have := h.vals e he; lia
        · show ((putP s.map r _).lookup x).isSome = true
          rw [putP_lookup]
          split
          · rfl
          · rename_i hne
            rcases List.mem_append.mp hx with q | q
            · exact h.keys x q
            · exact absurd (List.mem_singleton.mp q) hne
        · show ∃ r c, op = .fetch r c ∧ 0 ≤ r ∧ r < sc + (s.used + 1)
          rcases List.mem_append.mp hop with q | q
          · obtain ⟨a, b, e1, e2, e3⟩ := h.outs op q; exact ⟨a, b, e1, e2, by lia⟩
          · exact ⟨_, _, List.mem_singleton.mp q, by lia, by lia⟩
      | none =>
        obtain ⟨v, hv, v0, v1⟩ := hd r List.mem_cons_self hc
        refine ⟨⟨hu, fun e he => ?_, fun x hx => ?_, h.outs, h.len⟩, by simp⟩
        · show 0 ≤ e.2 ∧ e.2 < sc + s.used
          rcases putP_mem he with rfl | he
          · show 0 ≤ (dealt.lookup r).getD 0 ∧ (dealt.lookup r).getD 0 < _; rw [hv]; simp only [Option.getD_some]; lia
          · exact h.vals e he
        · show ((putP s.map r _).lookup x).isSome = true
          rw [putP_lookup]
          split
          · rfl
          · rename_i hne
            rcases List.mem_append.mp hx with q | q
            · exact h.keys x q
            · exact absurd (List.mem_singleton.mp q) hne
    obtain ⟨i1, i2⟩ := pre_inv (dealt := dealt) (cells := cells) hsc l (rs ++ [r]) _ h1.1 fun x hx => hd x (List.mem_cons_of_mem _ hx)
    refine ⟨by rw [List.foldl_cons]; simpa using i1, ?_⟩
    rw [List.foldl_cons, i2, h1.2, List.countP_cons]
    split <;> simp_all <;> lia

theorem distinct_has {x : Int} : ∀ (l out : List Int), x ∈ out ∨ x ∈ l → x ∈ distinctF l out
  | [], out, h => by rcases h with h | h; exact h; cases h
  | r :: rs, out, h => by
    unfold distinctF
    refine distinct_has rs _ ?_
    rcases h with h | h
    · left; split
      · exact h
      · exact List.mem_append_left _ h
    · rcases List.mem_cons.mp h with rfl | h
      · left; split
        · rename_i hc; exact List.contains_iff_mem.mp hc
        · simp
      · exact .inr h

theorem reads_map (f : Int → Int) (op : Op) : reads (mapReads f op) = (reads op).map f := by cases op <;> rfl
theorem reads_setWrite (op : Op) (r : Int) : reads (setWrite op r) = reads op := by cases op <;> rfl
theorem writes_setWrite (op : Op) (r : Int) (h : 0 ≤ writes op) : writes (setWrite op r) = r := by cases op <;> simp [writes, setWrite] at h ⊢
theorem name_map (f : Int → Int) (op : Op) : name (mapReads f op) = name op := by cases op <;> rfl
theorem name_setWrite (op : Op) (r : Int) : name (setWrite op r) = name op := by cases op <;> rfl
theorem word_map (f : Int → Int) (op : Op) : isWord (mapReads f op) = isWord op := by cases op <;> rfl
theorem word_setWrite (op : Op) (r : Int) : isWord (setWrite op r) = isWord op := by cases op <;> rfl

noncomputable def sameTru (op op' : Op) : Prop := match op with | .tru _ g => ∃ a, op' = .tru a g | _ => ∀ a g, op' ≠ .tru a g

/-- how a spread operation looks: fetches, itself, perhaps a keep -/
structure Spread (op : Op) (bound : Int) (n : Nat) (l : List Op) : Prop where
  ex : ∃ fs op' ks, l = fs ++ op' :: ks ∧ (∀ f ∈ fs, ∃ r c, f = .fetch r c ∧ 0 ≤ r ∧ r < bound) ∧ name op' = name op ∧ isWord op' = isWord op ∧ jumps op' = jumps op ∧ (reads op').length = (reads op).length ∧ (∀ r ∈ reads op', 0 ≤ r ∧ r < bound) ∧ writes op' < bound ∧
    (ks = [] ∨ ∃ c r, ks = [.keep c r] ∧ 0 ≤ r ∧ r < bound) ∧ sameTru op op'
  len : l.length = n

noncomputable def spLen (cells : List (Int × Int)) (op : Op) : Nat := ((distinctF (reads op) []).countP fun r => (cells.lookup r).isSome) + 1 + (if 0 ≤ writes op ∧ (cells.lookup (writes op)).isSome = true then 1 else 0)

theorem jumps_map (f : Int → Int) (op : Op) : jumps (mapReads f op) = jumps op := by cases op <;> rfl
theorem jumps_setWrite (op : Op) (r : Int) : jumps (setWrite op r) = jumps op := by cases op <;> rfl

theorem spread_ok {dealt cells : List (Int × Int)} {sc bound : Int} {op : Op} (hsc : 0 ≤ sc) (hd : ∀ r ∈ here op, cells.lookup r = none → ∃ v, dealt.lookup r = some v ∧ 0 ≤ v ∧ v < sc)
    (hb : sc + ((distinctF (reads op) []).countP fun r => (cells.lookup r).isSome) ≤ bound) (hw : ∀ r ∈ here op, (cells.lookup r).isSome = true → sc < bound) (hb0 : -1 < bound) : Spread op bound (spLen cells op) (spreadF dealt cells sc op) := by
  have hr : ∀ r ∈ distinctF (reads op) [], r ∈ here op := fun r h => by
    rcases distinct_mem _ _ h with q | q
    · exact List.mem_append_left _ q
    · cases q
  obtain ⟨i, iu⟩ := pre_inv (dealt := dealt) (cells := cells) hsc (distinctF (reads op) []) [] ⟨[], [], 0⟩ ⟨Int.le_refl _, (fun _ h => nomatch h), (fun _ h => nomatch h), (fun _ h => nomatch h), rfl⟩ fun r h => hd r (hr r h)
  have hs : (freshF dealt cells sc op).1 = (distinctF (reads op) []).foldl (preF dealt cells sc) ⟨[], [], 0⟩ := rfl
  have hf : (freshF dealt cells sc op).2 = mapReads (fun x => ((freshF dealt cells sc op).1.map.lookup x).getD x) op := rfl
  rw [← hs] at i iu
  simp only [List.nil_append, Int.zero_add] at i iu
  have hbu : sc + (freshF dealt cells sc op).1.used ≤ bound := by rw [iu]; exact hb
  have hfs : ∀ f ∈ (freshF dealt cells sc op).1.out, ∃ r c, f = .fetch r c ∧ 0 ≤ r ∧ r < bound := fun f h => by
    obtain ⟨a, b, e1, e2, e3⟩ := i.outs f h
    exact ⟨a, b, e1, e2, by lia⟩
  have hrd : ∀ r ∈ reads (freshF dealt cells sc op).2, 0 ≤ r ∧ r < bound := fun r h => by
    rw [hf, reads_map] at h
    obtain ⟨x, hx, rfl⟩ := List.mem_map.mp h
    obtain ⟨v, hv⟩ := Option.isSome_iff_exists.mp (i.keys x (distinct_has _ _ (.inr hx)))
    simp only [hv, Option.getD_some]
    have := i.vals _ (lookup_mem hv)
    simp only at this
    lia
  have hlen := i.len
  have hn : name (freshF dealt cells sc op).2 = name op := name_map _ _
  have hwd : isWord (freshF dealt cells sc op).2 = isWord op := word_map _ _
  have hj : jumps (freshF dealt cells sc op).2 = jumps op := jumps_map _ _
  have hrl : (reads (freshF dealt cells sc op).2).length = (reads op).length := by rw [hf, reads_map, List.length_map]
  have hwr : writes (freshF dealt cells sc op).2 = writes op := writes_mapReads _ _
  have htr : sameTru op (freshF dealt cells sc op).2 := by
    rw [hf]
    cases op <;> simp [sameTru, mapReads]
  have htr2 : ∀ v, 0 ≤ writes op → sameTru op (setWrite (freshF dealt cells sc op).2 v) := by
    intro v h0
    rw [hf]
    cases op <;> simp [sameTru, mapReads, setWrite, writes] at h0 ⊢
  unfold spreadF
  simp only
  generalize (freshF dealt cells sc op).2 = fr at *
  generalize (freshF dealt cells sc op).1 = s at *
  unfold spLen
  by_cases hw0 : writes op < 0
  · rw [if_pos hw0]
    exact ⟨⟨s.out, fr, [], rfl, hfs, hn, hwd, hj, hrl, hrd, by lia, .inl rfl, htr⟩, by rw [List.length_append, if_neg (by lia)]; simp; lia⟩
  · rw [if_neg hw0]
    have hwh : writes op ∈ here op := by unfold here; rw [if_pos (by lia)]; simp
    cases hc : cells.lookup (writes op) with
    | none =>
      obtain ⟨v, hv, v0, v1⟩ := hd _ hwh hc
      refine ⟨⟨s.out, setWrite fr ((dealt.lookup (writes op)).getD 0), [], rfl, hfs, by rw [name_setWrite]; exact hn, by rw [word_setWrite]; exact hwd, by rw [jumps_setWrite]; exact hj, by rw [reads_setWrite]; exact hrl, by rw [reads_setWrite]; exact hrd, ?_, .inl rfl, htr2 _ (by lia)⟩, by rw [List.length_append, if_neg (by simp)]; simp; lia⟩
      rw [writes_setWrite _ _ (by lia), hv, Option.getD_some]
      lia
    | some c =>
      have hsb := hw _ hwh (by rw [hc]; rfl)
      refine ⟨⟨s.out, setWrite fr sc, [.keep c sc], rfl, hfs, by rw [name_setWrite]; exact hn, by rw [word_setWrite]; exact hwd, by rw [jumps_setWrite]; exact hj, by rw [reads_setWrite]; exact hrl, by rw [reads_setWrite]; exact hrd, ?_, .inr ⟨c, sc, rfl, hsc, hsb⟩, htr2 _ (by lia)⟩, by rw [List.length_append, if_pos ⟨by lia, rfl⟩]; simp; lia⟩
      rw [writes_setWrite _ _ (by lia)]
      exact hsb
noncomputable def placesOf (sp : Op → List Op) (ops : List Op) : List Int := (List.range ops.length).map fun i => ((((ops.take i).flatMap sp).length : Nat) : Int)

theorem lay_closed (D C : List (Int × Int)) (sc : Int) : ∀ (ops : List Op) (s : List Op × List Int), layF D C sc ops s = (s.1 ++ ops.flatMap (spreadF D C sc), s.2 ++ (List.range ops.length).map fun i => (((s.1.length + ((ops.take i).flatMap (spreadF D C sc)).length) : Nat) : Int))
  | [], s => by simp [layF]
  | op :: ops, s => by
    show layF D C sc ops (s.1 ++ spreadF D C sc op, s.2 ++ [(s.1.length : Int)]) = _
    rw [lay_closed D C sc ops]
    refine Prod.ext (by simp) ?_
    simp only [List.length_cons, List.range_succ_eq_map, List.map_cons, List.map_map, List.append_assoc, List.take_zero, List.flatMap_nil, List.length_nil, Nat.add_zero, List.singleton_append]
    congr 2
    refine List.map_congr_left fun i _ => ?_
    simp only [Function.comp, List.take_succ_cons, List.flatMap_cons, List.length_append, Nat.add_assoc]

theorem lay_init (D C : List (Int × Int)) (sc : Int) (ops : List Op) : layF D C sc ops ([], []) = (ops.flatMap (spreadF D C sc), placesOf (spreadF D C sc) ops) := by
  rw [lay_closed]
  simp [placesOf]

theorem out_closed (D C : List (Int × Int)) (sc : Int) (ops : List Op) : outF D C sc ops = (ops.flatMap (spreadF D C sc)).map (jumpF (placesOf (spreadF D C sc) ops)) ∧ placeF D C sc ops = placesOf (spreadF D C sc) ops := by
  unfold outF placeF
  rw [lay_init]
  exact ⟨rfl, rfl⟩

theorem jumpF_name (pl : List Int) (op : Op) : name (jumpF pl op) = name op := by cases op <;> rfl
theorem jumpF_word (pl : List Int) (op : Op) : isWord (jumpF pl op) = isWord op := by cases op <;> rfl
theorem jumpF_reads (pl : List Int) (op : Op) : reads (jumpF pl op) = reads op := by cases op <;> rfl
theorem jumpF_writes (pl : List Int) (op : Op) : writes (jumpF pl op) = writes op := by cases op <;> rfl

theorem words_jumpF (pl : List Int) (l : List Op) : wordsF (l.map (jumpF pl)) = wordsF l := by
  unfold wordsF
  rw [List.filter_map, List.map_map]
  have : (isWord ∘ jumpF pl) = isWord := funext fun op => jumpF_word pl op
  rw [this]
  exact List.map_congr_left fun op _ => jumpF_name pl op

theorem trues_jumpF (pl : List Int) : ∀ (l : List Op), truesF (l.map (jumpF pl)) = (truesF l).map fun g => pl.getD g.toNat 0
  | [] => rfl
  | op :: l => by
    have ih := trues_jumpF pl l
    unfold truesF at ih ⊢
    cases op <;> simp only [List.map_cons, List.filterMap_cons, jumpF, setJumps, jumps, List.map_nil, List.headD_cons, ih]

theorem words_app (a b : List Op) : wordsF (a ++ b) = wordsF a ++ wordsF b := by unfold wordsF; rw [List.filter_append, List.map_append]
theorem trues_app (a b : List Op) : truesF (a ++ b) = truesF a ++ truesF b := by unfold truesF; rw [List.filterMap_append]

theorem fetches_none {b : Int} {fs : List Op} (h : ∀ f ∈ fs, ∃ r c, f = .fetch r c ∧ 0 ≤ r ∧ r < b) : wordsF fs = [] ∧ truesF fs = [] := by
  constructor
  · unfold wordsF
    rw [List.filter_eq_nil_iff.mpr fun f hf => by obtain ⟨r, c, rfl, _⟩ := h f hf; simp [isWord]]
    rfl
  · unfold truesF
    rw [List.filterMap_eq_nil_iff]
    intro f hf
    obtain ⟨r, c, rfl, _⟩ := h f hf
    rfl

theorem Spread.words {op b n l} (h : Spread op b n l) (hw : isWord op = true) : wordsF l = [name op] := by
  obtain ⟨fs, op', ks, rfl, h1, h2, h3, _, _, _, _, h7, _⟩ := h.ex
  rw [words_app, (fetches_none h1).1, List.nil_append]
  unfold wordsF
  rw [List.filter_cons, if_pos (by rw [h3]; exact hw)]
  rcases h7 with rfl | ⟨c, r, rfl, _⟩
  · simp [h2]
  · simp [h2, isWord]

theorem Spread.trues {op b n l} (h : Spread op b n l) : truesF l = truesF [op] := by
  obtain ⟨fs, op', ks, rfl, h1, h2, h3, _, _, _, _, h7, h8⟩ := h.ex
  have hk : truesF ks = [] := by rcases h7 with rfl | ⟨c, r, rfl, _⟩ <;> rfl
  rw [trues_app, (fetches_none h1).2, List.nil_append, show op' :: ks = [op'] ++ ks from rfl, trues_app, hk, List.append_nil]
  cases op
  case tru a g =>
    obtain ⟨a', rfl⟩ := h8
    rfl
  all_goals
    cases op' <;> first | rfl | exact absurd rfl (h8 _ _)

theorem Spread.ne {op b n l} (h : Spread op b n l) : l ≠ [] := by
  obtain ⟨fs, op', ks, rfl, _⟩ := h.ex
  simp

theorem Spread.first {op b n l x} (h : Spread op b n l) (hw : isWord op = true) (e : l[0]? = some x) : ∀ c r, x ≠ .keep c r := by
  obtain ⟨fs, op', ks, rfl, h1, h2, h3, _⟩ := h.ex
  rintro c r rfl
  cases fs with
  | nil =>
    simp at e
    rw [e] at h3
    rw [hw] at h3
    exact absurd h3 (by simp [isWord])
  | cons f fs =>
    simp at e
    obtain ⟨r', c', e', _⟩ := h1 f List.mem_cons_self
    rw [e] at e'
    cases e'

theorem Spread.last {op b n l x} (h : Spread op b n l) (hw : isWord op = true) (e : l.getLast? = some x) : ∀ r c, x ≠ .fetch r c := by
  obtain ⟨fs, op', ks, rfl, h1, h2, h3, _, _, _, _, h7, _⟩ := h.ex
  rintro r c rfl
  rcases h7 with rfl | ⟨c', r', rfl, _⟩
  · rw [List.getLast?_concat] at e
    injection e with e
    rw [e, hw] at h3
    exact absurd h3 (by simp [isWord])
  · rw [show fs ++ op' :: [Op.keep c' r'] = (fs ++ [op']) ++ [.keep c' r'] by simp, List.getLast?_concat] at e
    cases e

/-- an operation within the registers -/
noncomputable def Good (b : Int) (op : Op) : Prop := (∀ r ∈ reads op, 0 ≤ r ∧ r < b) ∧ writes op < b

theorem Spread.good {op b n l} (h : Spread op b n l) (hb : 0 < b) : ∀ x ∈ l, Good b x := by
  obtain ⟨fs, op', ks, rfl, h1, h2, h3, _, _, h5, h6, h7, _⟩ := h.ex
  intro x hx
  rcases List.mem_append.mp hx with q | q
  · obtain ⟨r, c, rfl, r0, r1⟩ := h1 x q
    exact ⟨fun _ h => (nomatch h), r1⟩
  · rcases List.mem_cons.mp q with rfl | q
    · exact ⟨h5, h6⟩
    · rcases h7 with rfl | ⟨c, r, rfl, r0, r1⟩
      · cases q
      · rw [List.mem_singleton.mp q]
        refine ⟨fun y hy => ?_, show (-1 : Int) < b by lia⟩
        have : y = r := by simpa [reads] using hy
        rw [this]; exact ⟨r0, r1⟩

theorem good_max {b : Int} {op : Op} (h : Good b op) (hb : 0 < b) : listMax (reads op ++ [writes op]) < b := by
  obtain ⟨m1, _⟩ := listMax_spec (reads op ++ [writes op]) (by simp)
  rcases List.mem_append.mp m1 with q | q
  · exact (h.1 _ q).2
  · rw [List.mem_singleton.mp q]; exact h.2

theorem good_ret {b : Int} {op : Op} (h : Good b op) : okRet op := by
  cases op <;> simp only [okRet]
  exact (h.1 _ (by simp [reads])).1

theorem flat_words {b : Int} {sp : Op → List Op} {n : Op → Nat} : ∀ (ops : List Op), (∀ op ∈ ops, Spread op b (n op) (sp op)) → (∀ op ∈ ops, isWord op = true) → wordsF (ops.flatMap sp) = wordsF ops ∧ (wordsF ops).length = ops.length
  | [], _, _ => ⟨rfl, rfl⟩
  | op :: ops, h, hw => by
    obtain ⟨i1, i2⟩ := flat_words ops (fun x hx => h x (List.mem_cons_of_mem _ hx)) fun x hx => hw x (List.mem_cons_of_mem _ hx)
    have e : wordsF (op :: ops) = [name op] ++ wordsF ops := by
      rw [show op :: ops = [op] ++ ops from rfl, words_app]
      unfold wordsF
      rw [List.filter_cons, if_pos (hw op List.mem_cons_self)]
      rfl
    refine ⟨?_, by rw [e, List.length_append, i2]; exact Nat.add_comm 1 _⟩
    rw [List.flatMap_cons, words_app, (h op List.mem_cons_self).words (hw op List.mem_cons_self), i1, e]

theorem flat_trues {b : Int} {sp : Op → List Op} {n : Op → Nat} : ∀ (ops : List Op), (∀ op ∈ ops, Spread op b (n op) (sp op)) → truesF (ops.flatMap sp) = truesF ops
  | [], _ => rfl
  | op :: ops, h => by
    rw [List.flatMap_cons, trues_app, (h op List.mem_cons_self).trues, flat_trues ops fun x hx => h x (List.mem_cons_of_mem _ hx), ← trues_app]
    rfl

theorem trues_mem {ops : List Op} {t : Nat} {g : Int} (h : (truesF ops)[t]? = some g) : ∃ op ∈ ops, g ∈ jumps op := by
  have := List.mem_of_getElem? h
  unfold truesF at this
  obtain ⟨op, hop, e⟩ := List.mem_filterMap.mp this
  refine ⟨op, hop, ?_⟩
  cases op <;> simp at e
  rw [e]; simp [jumps]

theorem told_of {b : Int} {sp : Op → List Op} {n : Op → Nat} {ops : List Op} (hb : 0 < b) (h : ∀ op ∈ ops, Spread op b (n op) (sp op)) (hw : ∀ op ∈ ops, isWord op = true) (hj : ∀ op ∈ ops, ∀ g ∈ jumps op, 0 ≤ g ∧ g < ops.length) :
    Told ops ((ops.flatMap sp).map (jumpF (placesOf sp ops))) b := by
  refine ⟨?_, fun op hop => ?_, fun op hop => ?_, fun t g htg => ?_⟩
  · rw [words_jumpF, (flat_words ops h hw).1]
  · obtain ⟨x, hx, rfl⟩ := List.mem_map.mp hop
    obtain ⟨o, ho, hx⟩ := List.mem_flatMap.mp hx
    rw [jumpF_reads, jumpF_writes]
    exact good_max ((h o ho).good hb x hx) hb
  · obtain ⟨x, hx, rfl⟩ := List.mem_map.mp hop
    obtain ⟨o, ho, hx⟩ := List.mem_flatMap.mp hx
    refine good_ret (b := b) ?_
    have := (h o ho).good hb x hx
    unfold Good at this ⊢
    rw [jumpF_reads, jumpF_writes]
    exact this
  · obtain ⟨op, hop, hgj⟩ := trues_mem htg
    obtain ⟨g0, g1⟩ := hj op hop g hgj
    obtain ⟨k, rfl⟩ : ∃ k : Nat, g = k := ⟨g.toNat, by lia⟩
    have hk : k < ops.length := by lia
    have hpl : (placesOf sp ops).getD k 0 = ((((ops.take k).flatMap sp).length : Nat) : Int) := by
      unfold placesOf
      rw [List.getD_eq_getElem?_getD, List.getElem?_map, List.getElem?_range hk]
      rfl
    have hsplit : ops.flatMap sp = (ops.take k).flatMap sp ++ (sp ops[k] ++ (ops.drop (k + 1)).flatMap sp) := by
      conv => lhs; rw [← List.take_append_drop k ops, List.drop_eq_getElem_cons hk]
      rw [List.flatMap_append, List.flatMap_cons]
    have hmk : ops[k] ∈ ops := List.getElem_mem hk
    have hwt : ∀ op ∈ ops.take k, isWord op = true := fun op hop => hw op (List.mem_of_mem_take hop)
    have hst : ∀ op ∈ ops.take k, Spread op b (n op) (sp op) := fun op hop => h op (List.mem_of_mem_take hop)
    have hpos : 0 < (sp ops[k]).length := List.length_pos_iff.mpr (h _ hmk).ne
    refine ⟨((ops.take k).flatMap sp).length, ?_, ?_, ?_, fun op hop => ?_, fun hp op hop => ?_⟩
    · rw [trues_jumpF, flat_trues ops h, List.getElem?_map, htg, Option.map_some, Int.toNat_natCast, hpl]
    · rw [List.length_map, hsplit, List.length_append, List.length_append]; lia
    · rw [← List.map_take, hsplit, List.take_left, words_jumpF, (flat_words _ hst hwt).1, (flat_words _ hst hwt).2, List.length_take]
      lia
    · rw [List.getElem?_map, hsplit, List.getElem?_append_right (Nat.le_refl _), Nat.sub_self] at hop
      obtain ⟨x, hx, rfl⟩ := Option.map_eq_some_iff.mp hop
      rw [List.getElem?_append_left hpos] at hx
      have := (h _ hmk).first (hw _ hmk) hx
      rw [name_keep]
      cases x <;> simp [jumpF, setJumps, jumps] at this ⊢
    · have hk0 : 0 < k := by
        rcases Nat.eq_zero_or_pos k with e | e
        · rw [e] at hp; simp at hp
        · exact e
      have htk : ops.take k = ops.take (k - 1) ++ [ops[k - 1]] := by
        conv => lhs; rw [show k = k - 1 + 1 by lia]
        rw [List.take_succ_eq_append_getElem (by lia)]
      have hmk1 : ops[k - 1] ∈ ops := List.getElem_mem (by lia)
      have hlast : ((ops.take k).flatMap sp).getLast? = (sp ops[k - 1]).getLast? := by
        rw [htk, List.flatMap_append, List.flatMap_singleton, List.getLast?_append, List.getLast?_eq_some_getLast (h _ hmk1).ne]
        rfl
      rw [List.getElem?_map, hsplit, List.getElem?_append_left (by lia)] at hop
      obtain ⟨x, hx, rfl⟩ := Option.map_eq_some_iff.mp hop
      rw [← List.getLast?_eq_getElem?, hlast] at hx
      have := (h _ hmk1).last (hw _ hmk1) hx
      rw [name_fetch]
      cases x <;> simp [jumpF, setJumps, jumps] at this ⊢
theorem most_ge : ∀ (l : List Op) (x : Int), x ≤ mostF l x
  | [], x => Int.le_refl _
  | a :: l, x => Int.le_trans (Int.le_max_left _ _) (most_ge l (max x ((distinctF (reads a) []).length : Int)))
theorem most_mem : ∀ (l : List Op) (x : Int), ∀ op ∈ l, ((distinctF (reads op) []).length : Int) ≤ mostF l x
  | a :: l, x, op, h => by
    rcases List.mem_cons.mp h with rfl | h
    · exact Int.le_trans (Int.le_max_right _ _) (most_ge l (max x ((distinctF (reads op) []).length : Int)))
    · exact most_mem l (max x ((distinctF (reads a) []).length : Int)) op h

/-- the ones that lie in cells -/
noncomputable def SF (ops : List Op) (o : List (Int × Int)) (c : Nat) : List Int := if (scanF (rangesF ops) c o).sp = [] then [] else (scanF (rangesF ops) ((c : Int) - mostF ops 1).toNat o).sp

theorem here_look {es : Rg} {sc : Nat} {o : List (Int × Int)} (hnd : (es.map (·.1)).Nodup) (ho : IsOrd es o) {r : Int} (hr : (es.lookup r).isSome = true) (hc : (cellsF (scanF es sc o).sp).lookup r = none) :
    ∃ v, (scanF es sc o).dealt.lookup r = some v ∧ 0 ≤ v ∧ v < (sc : Int) := by
  have h1 := (scan_part (c := sc) hnd ho).mem_iff.mpr (lookup_isSome_iff.mp hr)
  rcases List.mem_append.mp h1 with h | h
  · obtain ⟨v, hv⟩ := Option.isSome_iff_exists.mp (lookup_isSome_iff.mpr h)
    exact ⟨v, hv, scan_vals hnd ho v (List.mem_map.mpr ⟨(r, v), lookup_mem hv, rfl⟩)⟩
  · have := cells_lookup.mpr h
    rw [hc] at this; cases this

theorem dealt_spread {ops : List Op} {N c : Nat} {out : List Op} {pl : List Int} (hc : 0 < c) (D : Dealt ops N c out pl) : ∃ (o : List (Int × Int)) (sp : Op → List Op), IsOrd (rangesF ops) o ∧ RInv (rangesF ops) N ops.length ∧
    ((scanF (rangesF ops) c o).sp ≠ [] → 0 ≤ (c : Int) - mostF ops 1) ∧ (∀ op ∈ ops, Spread op c (spLen (cellsF (SF ops o c)) op) (sp op)) ∧ out = (ops.flatMap sp).map (jumpF (placesOf sp ops)) ∧ pl = placesOf sp ops := by
  obtain ⟨es, o, rfl, hinv, hhas, ho, h⟩ := D.ex
  rcases h with ⟨hs, rfl, rfl⟩ | ⟨hs, sc, o2, hsc, ho2, rfl, rfl⟩
  · refine ⟨o, spreadF (scanF (rangesF ops) c o).dealt [] c, ho, hinv, fun h => absurd hs h, fun op hop => ?_, (out_closed _ _ _ _).1, (out_closed _ _ _ _).2⟩
    have e : cellsF (SF ops o c) = [] := by unfold SF; rw [if_pos hs]; rfl
    rw [e]
    refine spread_ok (by lia) (fun r hr _ => here_look hinv.nodup ho (hhas op hop r hr) (by rw [hs]; rfl)) ?_ (fun r hr h => by cases h) (by lia)
    have : (distinctF (reads op) []).countP (fun r => (([] : List (Int × Int)).lookup r).isSome) = 0 := by rw [List.countP_eq_zero]; intro a _; simp
    rw [this]; simp
  · have ho' := ord_unique ho2 ho
    subst ho'
    refine ⟨o2, spreadF (scanF (rangesF ops) sc o2).dealt (cellsF (scanF (rangesF ops) sc o2).sp) sc, ho, hinv, fun _ => by lia, fun op hop => ?_, (out_closed _ _ _ _).1, (out_closed _ _ _ _).2⟩
    have e : SF ops o2 c = (scanF (rangesF ops) sc o2).sp := by unfold SF; rw [if_neg hs, hsc]; rfl
    rw [e]
    have h1 := most_ge ops 1
    have h2 := most_mem ops 1 op hop
    refine spread_ok (by lia) (fun r hr hn => here_look hinv.nodup ho (hhas op hop r hr) hn) ?_ (fun r hr h => by lia) (by lia)
    have := List.countP_le_length (p := fun r => ((cellsF (scanF (rangesF ops) sc o2).sp).lookup r).isSome) (l := distinctF (reads op) [])
    lia

theorem spLen_le (cells : List (Int × Int)) (op : Op) : 1 ≤ spLen cells op ∧ spLen cells op ≤ 4 := by
  have h1 := List.countP_le_length (p := fun r => (cells.lookup r).isSome) (l := distinctF (reads op) [])
  have h2 := distinct_len (reads op) []
  have h3 := reads_len op
  unfold spLen
  simp at h2
  split <;> lia

theorem flat_len {b : Int} {sp : Op → List Op} {n : Op → Nat} : ∀ (ops : List Op), (∀ op ∈ ops, Spread op b (n op) (sp op)) → (ops.flatMap sp).length = (ops.map n).sum
  | [], _ => rfl
  | op :: ops, h => by
    rw [List.flatMap_cons, List.length_append, (h op List.mem_cons_self).len, flat_len ops fun x hx => h x (List.mem_cons_of_mem _ hx), List.map_cons, List.sum_cons]

theorem sum_le {f g : Op → Nat} : ∀ (ops : List Op), (∀ op ∈ ops, f op ≤ g op) → (ops.map f).sum ≤ (ops.map g).sum
  | [], _ => Nat.le_refl _
  | op :: ops, h => by
    have := sum_le ops fun x hx => h x (List.mem_cons_of_mem _ hx)
    have := h op List.mem_cons_self
    simp only [List.map_cons, List.sum_cons]
    lia
theorem sum_const (k : Nat) : ∀ (ops : List Op), (ops.map fun _ => k).sum = k * ops.length
  | [] => rfl
  | op :: ops => by rw [List.map_cons, List.sum_cons, sum_const k ops, List.length_cons, Nat.mul_succ]; lia

theorem jumpF_jumps (pl : List Int) (op : Op) : jumps (jumpF pl op) = (jumps op).map fun g => pl.getD g.toNat 0 := by cases op <;> rfl

theorem Spread.jumps {op b n l} (h : Spread op b n l) : ∀ x ∈ l, ∀ g ∈ Mine.jumps x, g ∈ Mine.jumps op := by
  obtain ⟨fs, op', ks, rfl, h1, h2, h3, h4, _, h5, h6, h7, _⟩ := h.ex
  intro x hx g hg
  rcases List.mem_append.mp hx with q | q
  · obtain ⟨r, c, rfl, _⟩ := h1 x q
    cases hg
  · rcases List.mem_cons.mp q with rfl | q
    · rw [h4] at hg; exact hg
    · rcases h7 with rfl | ⟨c, r, rfl, _⟩
      · cases q
      · rw [List.mem_singleton.mp q] at hg; cases hg

/-- what is known of the dealt code -/
structure Facts (ops : List Op) (c : Nat) (out : List Op) (pl : List Int) : Prop where
  good : ∀ op ∈ out, Good c op
  len : out.length ≤ 4 * ops.length ∧ ops.length ≤ out.length
  jumps : ∀ op ∈ out, ∀ g ∈ jumps op, 0 ≤ g ∧ g < out.length
  start : pl.getD 0 0 = 0
  told : (∀ op ∈ ops, isWord op = true) → Told ops out c

theorem dealt_facts {ops : List Op} {N c : Nat} {out : List Op} {pl : List Int} (hok : OpsOK ops N) (hc : 0 < c) (h0 : 0 < ops.length) (D : Dealt ops N c out pl) : Facts ops c out pl := by
  obtain ⟨o, sp, ho, hinv, _, hsp, rfl, rfl⟩ := dealt_spread hc D
  have hlen := flat_len ops hsp
  have hl1 := sum_le ops (f := spLen (cellsF (SF ops o c))) (g := fun _ => 4) fun op _ => (spLen_le _ op).2
  have hl2 := sum_le ops (f := fun _ => 1) (g := spLen (cellsF (SF ops o c))) fun op _ => (spLen_le _ op).1
  rw [sum_const] at hl1 hl2
  refine ⟨fun op hop => ?_, by rw [List.length_map]; lia, fun op hop g hg => ?_, ?_, fun hw => told_of (by lia) hsp hw hok.jumps⟩
  · obtain ⟨x, hx, rfl⟩ := List.mem_map.mp hop
    obtain ⟨y, hy, hx⟩ := List.mem_flatMap.mp hx
    have := (hsp y hy).good (by lia) x hx
    unfold Good at this ⊢
    rw [jumpF_reads, jumpF_writes]
    exact this
  · obtain ⟨x, hx, rfl⟩ := List.mem_map.mp hop
    obtain ⟨y, hy, hx⟩ := List.mem_flatMap.mp hx
    rw [jumpF_jumps] at hg
    obtain ⟨g0, hg0, rfl⟩ := List.mem_map.mp hg
    have hgj := (hsp y hy).jumps x hx g0 hg0
    obtain ⟨a1, a2⟩ := hok.jumps y hy g0 hgj
    obtain ⟨k, rfl⟩ : ∃ k : Nat, g0 = k := ⟨g0.toNat, by lia⟩
    have hk : k < ops.length := by lia
    have hpl : (placesOf sp ops).getD k 0 = ((((ops.take k).flatMap sp).length : Nat) : Int) := by
      unfold placesOf
      rw [List.getD_eq_getElem?_getD, List.getElem?_map, List.getElem?_range hk]
      rfl
    rw [Int.toNat_natCast, hpl, List.length_map]
    have hsplit : ops.flatMap sp = (ops.take k).flatMap sp ++ (sp ops[k] ++ (ops.drop (k + 1)).flatMap sp) := by
      conv => lhs; rw [← List.take_append_drop k ops, List.drop_eq_getElem_cons hk]
      rw [List.flatMap_append, List.flatMap_cons]
    have hpos : 0 < (sp ops[k]).length := List.length_pos_iff.mpr (hsp _ (List.getElem_mem hk)).ne
    rw [hsplit, List.length_append, List.length_append]
    lia
  · unfold placesOf
    rw [List.getD_eq_getElem?_getD, List.getElem?_map, List.getElem?_range h0]
    rfl

/-- dealt_ops is refused -/
noncomputable def Raises (ops : List Op) (c : Nat) : Prop := ∃ o, IsOrd (rangesF ops) o ∧ (scanF (rangesF ops) c o).sp ≠ [] ∧ (c : Int) - mostF ops 1 < 0

theorem raises_down {ops : List Op} {N c : Nat} (hinv : RInv (rangesF ops) N ops.length) (h : Raises ops (c + 1)) : Raises ops c := by
  obtain ⟨o, ho, hs, hm⟩ := h
  refine ⟨o, ho, fun e => hs ?_, by lia⟩
  refine List.eq_nil_iff_forall_not_mem.mpr fun y hy => ?_
  have := scan_nested hinv.nodup ho y hy
  rw [e] at this; cases this

theorem spLen_mono {S T : List Int} (h : ∀ y ∈ T, y ∈ S) (op : Op) : spLen (cellsF T) op ≤ spLen (cellsF S) op := by
  have hi : ∀ r, ((cellsF T).lookup r).isSome = true → ((cellsF S).lookup r).isSome = true := fun r hr => cells_lookup.mpr (h r (cells_lookup.mp hr))
  have h1 := List.countP_mono_left (l := distinctF (reads op) []) (p := fun r => ((cellsF T).lookup r).isSome) (q := fun r => ((cellsF S).lookup r).isSome) fun r _ hr => hi r hr
  unfold spLen
  by_cases hw : 0 ≤ writes op ∧ ((cellsF T).lookup (writes op)).isSome = true
  · rw [if_pos hw, if_pos ⟨hw.1, hi _ hw.2⟩]; lia
  · rw [if_neg hw]; split <;> lia

/-- with a register more no more is told -/
theorem dealt_more {ops : List Op} {N c : Nat} {out out' : List Op} {pl pl' : List Int} (hc : 0 < c) (D : Dealt ops N c out pl) (D' : Dealt ops N (c + 1) out' pl') : out'.length ≤ out.length := by
  obtain ⟨o, sp, ho, hinv, hm, hsp, rfl, rfl⟩ := dealt_spread hc D
  obtain ⟨o', sp', ho', hinv', hm', hsp', rfl, rfl⟩ := dealt_spread (Nat.succ_pos c) D'
  have e := ord_unique ho' ho
  subst e
  rw [List.length_map, List.length_map, flat_len ops hsp, flat_len ops hsp']
  refine sum_le ops fun op _ => spLen_mono (fun y hy => ?_) op
  unfold SF at hy ⊢
  by_cases h' : (scanF (rangesF ops) (c + 1) o').sp = []
  · rw [if_pos h'] at hy; cases hy
  · rw [if_neg h'] at hy
    have h : (scanF (rangesF ops) c o').sp ≠ [] := fun e => h' (List.eq_nil_iff_forall_not_mem.mpr fun y hy => by
      have := scan_nested hinv.nodup ho y hy
      rw [e] at this; cases this)
    rw [if_neg h]
    have := hm h
    have e : (((c + 1 : Nat) : Int) - mostF ops 1).toNat = ((c : Int) - mostF ops 1).toNat + 1 := by lia
    rw [e] at hy
    exact scan_nested hinv.nodup ho y hy

/-- with as many registers as there may be nothing is added -/
theorem dealt_all {ops : List Op} {N c : Nat} {out : List Op} {pl : List Int} (hc : 0 < c) (hN : N ≤ c) (D : Dealt ops N c out pl) : out.length = ops.length ∧ out.map name = ops.map name := by
  obtain ⟨o, sp, ho, hinv, hm, hsp, rfl, rfl⟩ := dealt_spread hc D
  have hs := scan_room (c := c) hinv.rok ho (by have := hinv.len; lia)
  have e : cellsF (SF ops o c) = [] := by unfold SF; rw [if_pos hs]; rfl
  rw [e] at hsp
  have h1 : ∀ op, spLen [] op = 1 := fun op => by
    have : (distinctF (reads op) []).countP (fun r => (([] : List (Int × Int)).lookup r).isSome) = 0 := by rw [List.countP_eq_zero]; intro a _; simp
    unfold spLen
    rw [this]; simp
  refine ⟨?_, ?_⟩
  · rw [List.length_map, flat_len ops hsp]
    have : ops.map (spLen []) = ops.map fun _ => 1 := List.map_congr_left fun op _ => h1 op
    rw [this, sum_const]; lia
  · rw [List.map_map]
    have hnj : (name ∘ jumpF (placesOf sp ops)) = name := funext fun op => jumpF_name _ op
    rw [hnj]
    clear hnj
    have key : ∀ (l : List Op), (∀ op ∈ l, Spread op c (spLen [] op) (sp op)) → (l.flatMap sp).map name = l.map name := by
      intro l
      induction l with
      | nil => intro _; rfl
      | cons op l ih =>
        intro h
        rw [List.flatMap_cons, List.map_append, ih fun x hx => h x (List.mem_cons_of_mem _ hx), List.map_cons]
        have hx := h op List.mem_cons_self
        obtain ⟨fs, op', ks, e, _, hn, _⟩ := hx.ex
        have hl := hx.len
        rw [h1, e] at hl
        simp at hl
        have h2 : fs = [] ∧ ks = [] := ⟨List.length_eq_zero_iff.mp (by lia), List.length_eq_zero_iff.mp (by lia)⟩
        rw [e, h2.1, h2.2]
        simp [hn]
    exact key ops hsp

theorem again_ok {ops : List Op} {c : Nat} {out : List Op} {pl : List Int} (F : Facts ops c out pl) (h4 : c ≤ 4) (hl : ops.length ≤ 6) : OpsOK out c :=
  ⟨h4, fun op hop r hr => (F.good op hop).1 r hr, fun op hop => (F.good op hop).2, F.jumps, by have := F.len; lia⟩

theorem code_ops {ops : List Op} (h : CodeOK ops) : OpsOK ops 4 ∧ ∀ op ∈ ops, isWord op = true := by
  obtain ⟨pre, r, e, hr, hp⟩ := h.shape
  have hcase : ∀ op ∈ ops, plainOp ops.length op ∨ op = .ret r := fun op hop => by
    rw [e] at hop
    rcases List.mem_append.mp hop with q | q
    · exact .inl (hp op q)
    · exact .inr (List.mem_singleton.mp q)
  have hs := h.size
  refine ⟨⟨Nat.le_refl _, fun op hop x hx => ?_, fun op hop => ?_, fun op hop g hg => ?_, by lia⟩, fun op hop => ?_⟩
  · rcases hcase op hop with q | rfl
    · cases op <;> simp only [plainOp, in4, reads, List.mem_cons, List.not_mem_nil, or_false, false_or] at q hx <;> lia
    · unfold in4 at hr
      simp only [reads, List.mem_cons, List.not_mem_nil, or_false] at hx
      lia
  · rcases hcase op hop with q | rfl
    · cases op <;> simp only [plainOp, in4, writes] at q ⊢ <;> lia
    · show (-1 : Int) < 4; decide
  · rcases hcase op hop with q | rfl
    · cases op <;> simp only [plainOp, in4, jumps, List.mem_cons, List.not_mem_nil, or_false] at q hg
      lia
    · cases hg
  · rcases hcase op hop with q | rfl
    · cases op <;> simp only [plainOp] at q <;> rfl
    · rfl
theorem c_dealt_raises {C : Cx} {CF : Addr} {K : Frag} {fI FE : Addr} (H : Hyp C) (X : EH C K CF fI FE) {k i ist N c : Nat} {ops : List Op} {R : MH → Prop} {mh : MH} (hi : mh[i]? = some (.list (ops.map opM))) (hok : OpsOK ops N) (hc : c ≤ 60)
    (hr : ∀ o, IsOrd (rangesF ops) o → (scanF (rangesF ops) c o).sp ≠ [] ∧ (c : Int) - mostF ops 1 < 0)
    (hR : ∀ m, RInv (rangesF ops) N ops.length → Ext mh m → R m) : CallX C CF (k + 6) "dealt_ops" [.ref i, .ref ist, .int c] R mh := by
  have hN := hok.hN
  have hsz := hok.size
  refine CallX.of H.f_dealt_ops ["ops", "starts", "count", "at", "cells", "dealt", "op", "out", "places", "ranges", "scratch", "spilled"] (sok_mk (by kernel_rfl)) 9 (fun L qual code hF => have he := eok_fenv (L := L) (qual := qual) (fa := C.fa "dealt_ops") (code := code) (sc := scopeAt 27) (by kernel_rfl); have hT := tok_of ["ops", "starts", "count", "at", "cells", "dealt", "op", "out", "places", "ranges", "scratch", "spilled"];
    SSsX_skip (SS_assign (SE_call he (by kernel_rfl) (by kernel_rfl) H.f_ranges_of.at (SEL_cons (SE_local (i := 0) he (by kernel_rfl) (by kernel_rfl) (by kernel_rfl)) SEL_nil rfl) rfl) (SA_name (i := 9) he hT hF (by kernel_rfl) (.inl (by kernel_rfl))) rfl (by kernel_rfl) (by kernel_rfl))
    (SSsX_skip (SS_assign (SE_call he (by kernel_rfl) (by kernel_rfl) H.f_scan.at (SEL_cons (SE_local (i := 9) he (by kernel_rfl) (by kernel_rfl) (by kernel_rfl)) (SEL_cons (SE_local (i := 2) he (by kernel_rfl) (by kernel_rfl) (by kernel_rfl)) SEL_nil rfl) rfl) rfl) (SA_tuple (SAL_cons (SA_name (i := 5) he hT hF (by kernel_rfl) (.inl (by kernel_rfl))) (SAL_cons (SA_name (i := 11) he hT hF (by kernel_rfl) (.inl (by kernel_rfl))) SAL_nil rfl) rfl) rfl) rfl (by kernel_rfl) (by kernel_rfl))
    (SSsX_skip (SS_assign (SE_local (i := 2) he (by kernel_rfl) (by kernel_rfl) (by kernel_rfl)) (SA_name (i := 10) he hT hF (by kernel_rfl) (.inl (by kernel_rfl))) rfl (by kernel_rfl) (by kernel_rfl))
    (SSsX_here (SSX_if (ST_val (SE_local (i := 11) he (by kernel_rfl) (by kernel_rfl) (by kernel_rfl)) rfl)
      (SSsX_skip (SS_assign (SE_binop (SE_local (i := 2) he (by kernel_rfl) (by kernel_rfl) (by kernel_rfl)) (SE_call he (by kernel_rfl) (by kernel_rfl) H.f_most_reads.at (SEL_cons (SE_local (i := 0) he (by kernel_rfl) (by kernel_rfl) (by kernel_rfl)) SEL_nil rfl) rfl)) (SA_name (i := 10) he hT hF (by kernel_rfl) (.inl (by kernel_rfl))) rfl (by kernel_rfl) (by kernel_rfl))
      (SSsX_here (SSX_if (ST_cmp (SE_local (i := 10) he (by kernel_rfl) (by kernel_rfl) (by kernel_rfl)) SE_int (by kernel_rfl))
        (SSsX_here (SSX_raise X he (by kernel_rfl) (by lia))))))))))) rfl ?_
  walk_at "s"
  refine c_ranges_of H hi hok fun es jr m1 hesF hinv hhas hE1 hRg hjr => ?_
  subst hesF
  have hel := hinv.len
  refine ⟨rfl, ?_⟩
  walk_at "s"
  refine c_scan H hRg hinv.nodup (by lia) hc fun o jd js m2 p1 s1 hE2 hD hS hds hjd hjs => ?_
  have ho : IsOrd (rangesF ops) o := ⟨p1, s1⟩
  obtain ⟨h1, h2⟩ := hr o ho
  refine ⟨_, rfl, rfl, ?_⟩
  walk_at "s"
  refine ⟨rfl, ?_⟩
  walk_at "s"
  refine ⟨rfl, ?_⟩
  walk_at "s"
  refine tr_list hS ?_
  refine ⟨by simp [h1], ?_⟩
  walk_at "s"
  refine c_most_reads H ((hE1.trans' hE2).get hi) hok.ret fun l => ?_
  refine b_sub ?_
  refine ⟨rfl, ?_⟩
  walk_at "s"
  refine ⟨_, rfl, ?_⟩
  refine ⟨decide_eq_true (by lia), ?_⟩
  exact hR _ hinv ((hE1.trans' hE2).app l)

/-- either way -/
theorem c_dealt_either {C : Cx} {CF : Addr} {K : Frag} {fI FE : Addr} (H : Hyp C) (X : EH C K CF fI FE) {k i ist N c : Nat} {ops : List Op} {sts : List Int} {Q : MV → MH → Prop} {mh : MH} (hi : mh[i]? = some (.list (ops.map opM))) (hst : mh[ist]? = some (.list (sts.map .int))) (hsts : ∀ s ∈ sts, 0 ≤ s ∧ s < ops.length) (hstl : sts.length ≤ 100) (hok : OpsOK ops N) (hc : c ≤ 60)
    (hQ1 : ∀ out pl jo jp m, ¬ Raises ops c → Dealt ops N c out pl → Ext mh m → m[jo]? = some (.list (out.map opM)) → m[jp]? = some (.list ((sts.map fun s => pl.getD s.toNat 0).map .int)) → Q (.tup [.ref jo, .ref jp]) m)
    (hQ2 : Raises ops c → RInv (rangesF ops) N ops.length → ∀ m, Ext mh m → Q .none m) : Either C CF (k + 6) [.ref i, .ref ist, .int c] Q mh := by
  by_cases h : Raises ops c
  · refine .inr ⟨fun m => RInv (rangesF ops) N ops.length ∧ Ext mh m, c_dealt_raises H X hi hok hc (fun o ho => ?_) fun m h1 h2 => ⟨h1, h2⟩, fun m hm => hQ2 h hm.1 m hm.2⟩
    obtain ⟨o', ho', h1, h2⟩ := h
    rw [ord_unique ho ho']
    exact ⟨h1, h2⟩
  · refine .inl (c_dealt H hi hst hsts hstl hok hc (fun es o he _ _ ho hs => ?_) fun out pl jo jp m D hE h1 h2 => hQ1 out pl jo jp m h D hE h1 h2)
    subst he
    apply Classical.byContradiction
    intro hn
    exact h ⟨o, ho, hs, by lia⟩
theorem eq_strs {m : MH} {i j : Nat} {xs ys : List Str} (h1 : m[i]? = some (.list (xs.map .str))) (h2 : m[j]? = some (.list (ys.map .str))) : cmpM .Eq (.ref i) (.ref j) m = some (xs == ys) := by
  show eqL m[i]? m[j]? = _
  rw [h1, h2]
  show listEq _ _ = _
  unfold listEq
  rw [List.length_map, List.length_map]
  by_cases h : xs.length = ys.length
  · rw [if_pos h, strs_eq h]
  · rw [if_neg h]
    have : (xs == ys) = false := by
      rw [beq_eq_false_iff_ne]
      rintro rfl
      exact h rfl
    rw [this]

theorem CallD.imp {C : Cx} {k : Nat} {f : Str} {args : List MV} {Q1 Q2 : MV → MH → Prop} {mh : MH} (h : CallD C k f args Q1 mh) (hQ : ∀ v m, Q1 v m → Q2 v m) : CallD C k f args Q2 mh := fun A E s ad vs outer hR hO hW hv =>
  wpAny_mono (h A E s ad vs outer hR hO hW hv) (fun _ _ ⟨mv, mh', ad', h1, r, w, st, k⟩ => ⟨mv, mh', ad', hQ mv mh' h1, r, w, st, k⟩) fun _ _ e => e

/-- what _law_dealt gives back -/
noncomputable def DealtV (ops : List Op) (N c : Nat) (m0 : MH) (v : MV) (m : MH) : Prop :=
  Ext m0 m ∧ ((v = .none ∧ Raises ops c ∧ RInv (rangesF ops) N ops.length) ∨ (∃ out pl jo jp, v = .tup [.ref jo, .ref jp] ∧ ¬ Raises ops c ∧ Dealt ops N c out pl ∧ m[jo]? = some (.list (out.map opM)) ∧ m[jp]? = some (.list ([pl.getD 0 0].map .int))))

theorem c_law_dealtV {C : Cx} {CF : Addr} {K : Frag} {fI FE : Addr} (H : Hyp C) (X : EH C K CF fI FE) {k i ist N c : Nat} {ops : List Op} {mh : MH} (hi : mh[i]? = some (.list (ops.map opM))) (hst : mh[ist]? = some (.list ([0].map .int))) (h0 : 0 < ops.length) (hok : OpsOK ops N) (hc : c ≤ 60) :
    CallD C (k + 7) "_law_dealt" [.ref i, .ref ist, .int c] (DealtV ops N c mh) mh :=
  c_law_dealt H X (c_dealt_either (sts := [0]) H X hi hst (fun s hs => by rw [List.mem_singleton.mp hs]; lia) (by simp) hok hc (fun out pl jo jp m nr D hE h1 h2 => ⟨hE, .inr ⟨out, pl, jo, jp, rfl, nr, D, h1, h2⟩⟩) fun hra hinv m hE => ⟨hE, .inl ⟨rfl, hra, hinv⟩⟩)

/-- the walk of the law -/
theorem law_walk {C : Cx} {CF : Addr} {K : Frag} {fI FE : Addr} (H : Hyp C) (X : EH C K CF fI FE) {A : Around} {env : Env} {L : Addr} {qual code} (henv : env = fenv (scopeAt 38) L qual (C.fa "law") code) (hF : FOK env) (hRm : Room A 10) (hfr : A.frames = some [env])
    {E : Value → Shared → Prop} {s : Shared} (hW : W C [] [] s) (hV : VOK C (tabOf ["script", "absent", "again", "count", "drum", "few", "many", "ops", "ranges", "without"]) env [] s.heap ([MV.script].map some ++ List.replicate 9 none)) :
    wpAny C.M A (execs (bodyAt 38) env) (PostS C (tabOf ["script", "absent", "again", "count", "drum", "few", "many", "ops", "ranges", "without"]) env [] s (fun f _ _ => f = .ret (.bool true))) E s := by
  have hfe : env.frame = some env.locals := by rw [henv]; rfl
  subst henv
  have he := eok_fenv (L := L) (qual := qual) (fa := C.fa "law") (code := code) (sc := scopeAt 38) (by kernel_rfl)
  have hT := tok_of ["script", "absent", "again", "count", "drum", "few", "many", "ops", "ranges", "without"]
  refine ((SSsZ_cons (SSZ_of hRm (SS_assign (SE_dict2 H.sys (SE_scriptTo (n := 36) H.script (SE_local (i := 0) he (by kernel_rfl) (by kernel_rfl) (by kernel_rfl))) SE_int (by kernel_rfl)) (SA_name (i := 4) he hT hF (by kernel_rfl) (.inl (by kernel_rfl))) rfl (by kernel_rfl) (by kernel_rfl)))
    (SSsZ_cons (SSZ_of hRm (SS_assign (SE_call he (by kernel_rfl) (by kernel_rfl) H.f__law_ranges.at (SEL_cons (SE_local (i := 4) he (by kernel_rfl) (by kernel_rfl) (by kernel_rfl)) SEL_nil rfl) rfl) (SA_name (i := 8) he hT hF (by kernel_rfl) (.inl (by kernel_rfl))) rfl (by kernel_rfl) (by kernel_rfl)))
    (SSsZ_cons (SSZ_of hRm (SS_assign (SE_call he (by kernel_rfl) (by kernel_rfl) H.f__law_knob.at (SEL_cons (SE_local (i := 4) he (by kernel_rfl) (by kernel_rfl) (by kernel_rfl)) (SEL_cons SE_int SEL_nil rfl) rfl) rfl) (SA_name (i := 3) he hT hF (by kernel_rfl) (.inl (by kernel_rfl))) rfl (by kernel_rfl) (by kernel_rfl)))
    (SSsZ_cons (SSZ_of hRm (SS_assign (SE_binop (SE_binop (SE_binop SE_int (SE_call he (by kernel_rfl) (by kernel_rfl) H.f__law_knob.at (SEL_cons (SE_local (i := 4) he (by kernel_rfl) (by kernel_rfl) (by kernel_rfl)) (SEL_cons (SE_bcall (id := "len") he (by kernel_rfl) (by kernel_rfl) H.b_len (SEL_cons (SE_local (i := 8) he (by kernel_rfl) (by kernel_rfl) (by kernel_rfl)) SEL_nil rfl) rfl) SEL_nil rfl) rfl) rfl)) SE_int) SE_int) (SA_name (i := 1) he hT hF (by kernel_rfl) (.inl (by kernel_rfl))) rfl (by kernel_rfl) (by kernel_rfl)))
    (SSsZ_cons (SSZ_of hRm (SS_if (ST_or (ST_not (ST_val (SE_call he (by kernel_rfl) (by kernel_rfl) H.f__law_is_fair.at (SEL_cons (SE_local (i := 8) he (by kernel_rfl) (by kernel_rfl) (by kernel_rfl)) (SEL_cons (SE_local (i := 3) he (by kernel_rfl) (by kernel_rfl) (by kernel_rfl)) (SEL_cons (SE_local (i := 1) he (by kernel_rfl) (by kernel_rfl) (by kernel_rfl)) SEL_nil rfl) rfl) rfl) rfl) rfl)) (ST_not (ST_val (SE_call he (by kernel_rfl) (by kernel_rfl) H.f__law_is_fair.at (SEL_cons (SE_local (i := 8) he (by kernel_rfl) (by kernel_rfl) (by kernel_rfl)) (SEL_cons (SE_binop (SE_local (i := 3) he (by kernel_rfl) (by kernel_rfl) (by kernel_rfl)) SE_int) (SEL_cons (SE_local (i := 1) he (by kernel_rfl) (by kernel_rfl) (by kernel_rfl)) SEL_nil rfl) rfl) rfl) rfl) rfl))) (SSs_cons (SS_return SE_bool)
    SSs_nil) SSs_nil))
    (SSsZ_cons (SSZ_of hRm (SS_assign (SE_sub (SE_call he (by kernel_rfl) (by kernel_rfl) H.f_scan.at (SEL_cons (SE_local (i := 8) he (by kernel_rfl) (by kernel_rfl) (by kernel_rfl)) (SEL_cons (SE_local (i := 3) he (by kernel_rfl) (by kernel_rfl) (by kernel_rfl)) SEL_nil rfl) rfl) rfl) SE_int rfl) (SA_name (i := 9) he hT hF (by kernel_rfl) (.inr ⟨(by kernel_rfl), L+1, (by kernel_rfl)⟩)) rfl (by kernel_rfl) (by kernel_rfl)))
    (SSsZ_cons (SSZ_of hRm (SS_if (ST_cmp (SE_comp (n := 10) (cl := [("without", L+1)]) he (cok_mk hF (hm1 (by kernel_rfl)) (by kernel_rfl)) (tok_cons hT (by kernel_rfl)) (fun L1 => .inl (by kernel_rfl)) (by kernel_rfl) (fun _ => rfl) (SE_sub (SE_call he (by kernel_rfl) (by kernel_rfl) H.f_scan.at (SEL_cons (SE_local (i := 8) he (by kernel_rfl) (by kernel_rfl) (by kernel_rfl)) (SEL_cons (SE_binop (SE_local (i := 3) he (by kernel_rfl) (by kernel_rfl) (by kernel_rfl)) SE_int) SEL_nil rfl) rfl) rfl) SE_int rfl) (fun L1 hF1 => have he1 := eok_of hF1 he (by kernel_rfl); have hT1 := tok_cons (x := "one") (n := 10) hT (by kernel_rfl); (SI_one (ST_cmp (SE_local (i := 10) he1 (by kernel_rfl) (by kernel_rfl) (by kernel_rfl)) (SE_cell (i := 9) (c := L+1) he1 (by kernel_rfl) (by kernel_rfl) (by kernel_rfl) (by kernel_rfl)) (by kernel_rfl)))) (fun L1 hF1 => have he1 := eok_of hF1 he (by kernel_rfl); have hT1 := tok_cons (x := "one") (n := 10) hT (by kernel_rfl); (SE_local (i := 10) he1 (by kernel_rfl) (by kernel_rfl) (by kernel_rfl)))) (SE_list SEL_nil) (by kernel_rfl)) (SSs_cons (SS_return SE_bool)
    SSs_nil) SSs_nil))
    (SSsZ_cons (SSZ_of hRm (SS_assign (SE_call he (by kernel_rfl) (by kernel_rfl) H.f__law_code.at (SEL_cons (SE_local (i := 4) he (by kernel_rfl) (by kernel_rfl) (by kernel_rfl)) SEL_nil rfl) rfl) (SA_name (i := 7) he hT hF (by kernel_rfl) (.inl (by kernel_rfl))) rfl (by kernel_rfl) (by kernel_rfl)))
    (SSsZ_cons (SSZ_of hRm (SS_assign (SE_binop SE_int (SE_call he (by kernel_rfl) (by kernel_rfl) H.f__law_knob.at (SEL_cons (SE_local (i := 4) he (by kernel_rfl) (by kernel_rfl) (by kernel_rfl)) (SEL_cons SE_int SEL_nil rfl) rfl) rfl)) (SA_name (i := 3) he hT hF (by kernel_rfl) (.inl (by kernel_rfl))) rfl (by kernel_rfl) (by kernel_rfl)))
    (SSsZ_cons (SSZ_pair (x := "few") (y := "many") (i := 5) (j := 6) he hT hF hRm (by kernel_rfl) (by kernel_rfl) (by kernel_rfl) (by kernel_rfl) (by kernel_rfl) (by kernel_rfl) (SEZ_callD hRm hF hfr hfe he (by kernel_rfl) (by kernel_rfl) H.f__law_dealt.at (SEL_cons (SE_local (i := 7) he (by kernel_rfl) (by kernel_rfl) (by kernel_rfl)) (SEL_cons (SE_list (SEL_cons SE_int SEL_nil rfl)) (SEL_cons (SE_local (i := 3) he (by kernel_rfl) (by kernel_rfl) (by kernel_rfl)) SEL_nil rfl) rfl) rfl) rfl) (SEZ_callD hRm hF hfr hfe he (by kernel_rfl) (by kernel_rfl) H.f__law_dealt.at (SEL_cons (SE_local (i := 7) he (by kernel_rfl) (by kernel_rfl) (by kernel_rfl)) (SEL_cons (SE_list (SEL_cons SE_int SEL_nil rfl)) (SEL_cons (SE_binop (SE_local (i := 3) he (by kernel_rfl) (by kernel_rfl) (by kernel_rfl)) SE_int) SEL_nil rfl) rfl) rfl) rfl) rfl rfl)
    (SSsZ_cons (SSZ_of hRm (SS_if (ST_cmp (SE_local (i := 6) he (by kernel_rfl) (by kernel_rfl) (by kernel_rfl)) SE_none (by kernel_rfl)) (SSs_cons (SS_return (SE_cmp (SE_local (i := 5) he (by kernel_rfl) (by kernel_rfl) (by kernel_rfl)) SE_none (by kernel_rfl)))
    SSs_nil) SSs_nil))
    (SSsZ_cons (SSZ_of hRm (SS_if (ST_and (ST_cmp (SE_local (i := 5) he (by kernel_rfl) (by kernel_rfl) (by kernel_rfl)) SE_none (by kernel_rfl)) (ST_or (ST_cmp (SE_bcall (id := "len") he (by kernel_rfl) (by kernel_rfl) H.b_len (SEL_cons (SE_sub (SE_local (i := 5) he (by kernel_rfl) (by kernel_rfl) (by kernel_rfl)) SE_int rfl) SEL_nil rfl) rfl) (SE_bcall (id := "len") he (by kernel_rfl) (by kernel_rfl) H.b_len (SEL_cons (SE_sub (SE_local (i := 6) he (by kernel_rfl) (by kernel_rfl) (by kernel_rfl)) SE_int rfl) SEL_nil rfl) rfl) (by kernel_rfl)) (ST_not (ST_val (SE_call he (by kernel_rfl) (by kernel_rfl) H.f__law_is_told.at (SEL_cons (SE_local (i := 7) he (by kernel_rfl) (by kernel_rfl) (by kernel_rfl)) (SEL_cons (SE_sub (SE_local (i := 5) he (by kernel_rfl) (by kernel_rfl) (by kernel_rfl)) SE_int rfl) (SEL_cons (SE_local (i := 3) he (by kernel_rfl) (by kernel_rfl) (by kernel_rfl)) SEL_nil rfl) rfl) rfl) rfl) rfl)))) (SSs_cons (SS_return SE_bool)
    SSs_nil) SSs_nil))
    (SSsZ_cons (SSZ_of hRm (SS_if (ST_or (ST_not (ST_val (SE_call he (by kernel_rfl) (by kernel_rfl) H.f__law_is_told.at (SEL_cons (SE_local (i := 7) he (by kernel_rfl) (by kernel_rfl) (by kernel_rfl)) (SEL_cons (SE_sub (SE_local (i := 6) he (by kernel_rfl) (by kernel_rfl) (by kernel_rfl)) SE_int rfl) (SEL_cons (SE_binop (SE_local (i := 3) he (by kernel_rfl) (by kernel_rfl) (by kernel_rfl)) SE_int) SEL_nil rfl) rfl) rfl) rfl) rfl)) (ST_and (ST_cmp (SE_local (i := 3) he (by kernel_rfl) (by kernel_rfl) (by kernel_rfl)) SE_int (by kernel_rfl)) (ST_cmp (SE_bcall (id := "len") he (by kernel_rfl) (by kernel_rfl) H.b_len (SEL_cons (SE_sub (SE_local (i := 6) he (by kernel_rfl) (by kernel_rfl) (by kernel_rfl)) SE_int rfl) SEL_nil rfl) rfl) (SE_bcall (id := "len") he (by kernel_rfl) (by kernel_rfl) H.b_len (SEL_cons (SE_local (i := 7) he (by kernel_rfl) (by kernel_rfl) (by kernel_rfl)) SEL_nil rfl) rfl) (by kernel_rfl)))) (SSs_cons (SS_return SE_bool)
    SSs_nil) SSs_nil))
    (SSsZ_cons (SSZ_assign hRm (SEZ_callD hRm hF hfr hfe he (by kernel_rfl) (by kernel_rfl) H.f__law_dealt.at (SEL_cons (SE_sub (SE_local (i := 6) he (by kernel_rfl) (by kernel_rfl) (by kernel_rfl)) SE_int rfl) (SEL_cons (SE_sub (SE_local (i := 6) he (by kernel_rfl) (by kernel_rfl) (by kernel_rfl)) SE_int rfl) (SEL_cons (SE_binop (SE_local (i := 3) he (by kernel_rfl) (by kernel_rfl) (by kernel_rfl)) SE_int) SEL_nil rfl) rfl) rfl) rfl) (SA_name (i := 2) he hT hF (by kernel_rfl) (.inl (by kernel_rfl))) rfl (by kernel_rfl) (by kernel_rfl))
    (SSsZ_cons (SSZ_of hRm (SS_return (SE_and (SE_cmp (SE_local (i := 2) he (by kernel_rfl) (by kernel_rfl) (by kernel_rfl)) SE_none (by kernel_rfl)) (SE_cmp (SE_comp (n := 10) (cl := []) he (cok_mk hF hm0 (by kernel_rfl)) (tok_cons hT (by kernel_rfl)) (fun L2 => .inl (by kernel_rfl)) (by kernel_rfl) (fun _ => rfl) (SE_sub (SE_local (i := 2) he (by kernel_rfl) (by kernel_rfl) (by kernel_rfl)) SE_int rfl) (fun L2 hF2 => have he2 := eok_of hF2 he (by kernel_rfl); have hT2 := tok_cons (x := "op") (n := 10) hT (by kernel_rfl); SI_nil) (fun L2 hF2 => have he2 := eok_of hF2 he (by kernel_rfl); have hT2 := tok_cons (x := "op") (n := 10) hT (by kernel_rfl); (SE_sub (SE_local (i := 10) he2 (by kernel_rfl) (by kernel_rfl) (by kernel_rfl)) SE_int rfl))) (SE_comp (n := 10) (cl := []) he (cok_mk hF hm0 (by kernel_rfl)) (tok_cons hT (by kernel_rfl)) (fun L3 => .inl (by kernel_rfl)) (by kernel_rfl) (fun _ => rfl) (SE_sub (SE_local (i := 6) he (by kernel_rfl) (by kernel_rfl) (by kernel_rfl)) SE_int rfl) (fun L3 hF3 => have he3 := eok_of hF3 he (by kernel_rfl); have hT3 := tok_cons (x := "op") (n := 10) hT (by kernel_rfl); SI_nil) (fun L3 hF3 => have he3 := eok_of hF3 he (by kernel_rfl); have hT3 := tok_cons (x := "op") (n := 10) hT (by kernel_rfl); (SE_sub (SE_local (i := 10) he3 (by kernel_rfl) (by kernel_rfl) (by kernel_rfl)) SE_int rfl))) (by kernel_rfl)))))
    SSsZ_nil))))))))))))))) : SSsZ C A (tabOf ["script", "absent", "again", "count", "drum", "few", "many", "ops", "ranges", "without"]) (fenv (scopeAt 38) L qual (C.fa "law") code) (bodyAt 38) _) E s [] [] _ _ hW hV ?_
  walk_at "s"
  refine ⟨rfl, ?_⟩
  walk_at "s"
  have e1 : List.length (([] : MH) ++ [MO.list (List.map MV.int (List.take 36 C.nums))]) = 1 := rfl
  rw [e1]
  have hp : ([MO.list ((C.nums.take 36).map .int), drumM 0 0] : MH)[0]? = some (.list ((C.nums.take 36).map .int)) := rfl
  have hd : ([MO.list ((C.nums.take 36).map .int), drumM 0 0] : MH)[1]? = some (drumM 0 ((0 : Nat) : Int)) := rfl
  show CallR C 10 "_law_ranges" [.ref 1] _ [MO.list ((C.nums.take 36).map .int), drumM 0 0]
  generalize C.nums.take 36 = pins at hp hd ⊢
  have hml : ([MO.list (pins.map .int), drumM 0 0] : MH).length = 2 := rfl
  generalize ([MO.list (pins.map .int), drumM 0 0] : MH) = m0 at hp hd hml ⊢
  refine c_law_ranges H hd hp (by decide) (by decide) fun es t1 jr m1 hes ht1 hE1 hR hjr => ?_
  have hd1 : m1[1]? = some (drumM 0 (t1 : Int)) := hE1.get (get_set_self hd)
  have hp1 : m1[0]? = some (.list (pins.map .int)) := hE1.get (by rw [get_set_ne (by decide)]; exact hp)
  clear hE1
  walk_at "s"
  refine c_knob H hd1 hp1 (by decide) (by lia) (by decide) ?_
  obtain ⟨c0, c1⟩ := knob_range pins t1 (many := 3) (by decide)
  obtain ⟨c, hc⟩ : ∃ c : Nat, knobF pins t1 3 = c := ⟨(knobF pins t1 3).toNat, by lia⟩
  rw [hc] at c1 ⊢
  have hR1 : (m1.set 1 (drumM 0 ((t1 + 1 : Nat) : Int)))[jr]? = some (.dict (rgM es)) := get_ne (by lia) hR
  have hd2 : (m1.set 1 (drumM 0 ((t1 + 1 : Nat) : Int)))[1]? = some (drumM 0 ((t1 + 1 : Nat) : Int)) := get_set_self hd1
  have hp2 : (m1.set 1 (drumM 0 ((t1 + 1 : Nat) : Int)))[0]? = some (.list (pins.map .int)) := by rw [get_set_ne (by decide)]; exact hp1
  generalize m1.set 1 (drumM 0 ((t1 + 1 : Nat) : Int)) = m2 at hR1 hd2 hp2 ⊢
  walk_at "s"
  refine bc_len_dict hR1 ?_
  have hrl : (rgM es).length = es.length := by simp [rgM]
  rw [hrl]
  have hn := hes.n
  walk_at "s"
  refine c_knob H hd2 hp2 (by decide) (by lia) (by lia) ?_
  obtain ⟨a0, a1⟩ := knob_range pins (t1 + 1) (many := (es.length : Int)) (by lia)
  generalize knobF pins (t1 + 1) (es.length : Int) = ak at a0 a1 ⊢
  refine b_mul ⟨by decide, by lia⟩ ?_
  walk_at "s"
  refine b_mod (by decide) ?_
  generalize Int.fmod (5 * ak + 2) 7 = ab
  have hR2 : (m2.set 1 (drumM 0 ((t1 + 1 + 1 : Nat) : Int)))[jr]? = some (.dict (rgM es)) := get_ne (by lia) hR1
  have hd3 : (m2.set 1 (drumM 0 ((t1 + 1 + 1 : Nat) : Int)))[1]? = some (drumM 0 ((t1 + 1 + 1 : Nat) : Int)) := get_set_self hd2
  have hp3 : (m2.set 1 (drumM 0 ((t1 + 1 + 1 : Nat) : Int)))[0]? = some (.list (pins.map .int)) := by rw [get_set_ne (by decide)]; exact hp2
  generalize m2.set 1 (drumM 0 ((t1 + 1 + 1 : Nat) : Int)) = m3 at hR2 hd3 hp3 ⊢
  walk_at "s"
  refine c_is_fair H hR2 hes (by lia) (fair_all hes) fun m4 hE4 => ?_
  refine ⟨true, rfl, ?_⟩
  refine if_f rfl ?_
  walk_at "s"
  rw [show ((c : Nat) : Int) + 1 = ((c + 1 : Nat) : Int) by lia]
  refine c_is_fair H (hE4.get hR2) hes (by lia) (fair_all hes) fun m5 hE5 => ?_
  refine ⟨true, rfl, ?_⟩
  refine if_f rfl ?_
  walk_at "s"
  have hE35 := hE4.trans' hE5
  refine c_scan H (hE35.get hR2) hes.nodup hes.n.2 (by lia) fun o jd js m6 p1 s1 hE6 hD hS hds hjd hjs => ?_
  have ho : IsOrd es o := ⟨p1, s1⟩
  have hE36 := hE35.trans' hE6
  walk_at "s"
  refine ⟨rfl, ?_⟩
  walk_at "s"
  rw [show ((c : Nat) : Int) + 1 = ((c + 1 : Nat) : Int) by lia]
  refine c_scan H (hE36.get hR2) hes.nodup hes.n.2 (by lia) fun o2 jd2 js2 m7 p2 s2 hE7 hD2 hS2 hds2 hjd2 hjs2 => ?_
  have ho2 : IsOrd es o2 := ⟨p2, s2⟩
  have hoe := ord_unique ho2 ho
  subst hoe
  have hE37 := hE36.trans' hE7
  have hSl : (scanF es (c + 1) o2).sp.length ≤ 5 := by
    have := (scan_part (c := c + 1) hes.nodup ho2).length_eq
    rw [List.length_append, List.length_map, List.length_map] at this
    lia
  walk_at "s"
  refine it_list hS2 ?_
  refine len_ok (by rw [List.length_map]; lia) ?_
  refine compN_ind (f := .int) (fun r out m => m = m7 ∧ out = [] ∧ ∀ y ∈ r, y ∈ (scanF es (c + 1) o2).sp) ?_ ?_ _ _ _ ⟨rfl, rfl, fun _ h => h⟩
  rotate_left
  · rintro y r out m K ⟨rfl, rfl, hsub⟩ hK
    walk_at "s"
    refine ⟨_, notin_list (hE7.get hS), ?_⟩
    rw [show (scanF es c o2).sp.contains y = true from List.contains_iff_mem.mpr (scan_nested hes.nodup ho2 y (hsub y List.mem_cons_self))]
    refine if_f rfl ?_
    exact ⟨hS2, hK _ _ ⟨rfl, rfl, fun z hz => hsub z (List.mem_cons_of_mem _ hz)⟩⟩
  rintro out m ⟨rfl, rfl, _⟩
  walk_at "s"
  refine ⟨_, ne_nil (get_app get_last) get_last, ?_⟩
  refine if_f rfl ?_
  walk_at "s"
  have hE38 := (hE37.app [MO.list []]).app [MO.list []]
  refine c_law_code H (hE38.get hd3) (hE38.get hp3) (by decide) (by lia) fun ops t2 jops m9 hcode ht2 hE9 hops9 hjl => ?_
  obtain ⟨hok, hword⟩ := code_ops hcode
  have hsz := hcode.size
  have hd9 : m9[1]? = some (drumM 0 (t2 : Int)) := hE9.get (get_set_self (hE38.get hd3))
  have hp9 : m9[0]? = some (.list (pins.map .int)) := hE9.get (by rw [get_set_ne (by decide)]; exact hE38.get hp3)
  have hj2 : 1 < jops := by
    exact Nat.lt_of_lt_of_le (List.getElem?_eq_some_iff.mp (hE38.get hd3)).1 hjl
  clear hE9
  walk_at "s"
  refine c_knob H hd9 hp9 (by decide) (by lia) (by decide) ?_
  obtain ⟨x0, x1⟩ := knob_range pins t2 (many := 3) (by decide)
  obtain ⟨x, hx⟩ : ∃ x : Nat, knobF pins t2 3 = x := ⟨(knobF pins t2 3).toNat, by lia⟩
  rw [hx] at x1 ⊢
  have hops : (m9.set 1 (drumM 0 ((t2 + 1 : Nat) : Int)))[jops]? = some (.list (ops.map opM)) := get_ne (by lia) hops9
  generalize m9.set 1 (drumM 0 ((t2 + 1 : Nat) : Int)) = mA at hops ⊢
  refine b_add ?_
  rw [show (1 : Int) + ((x : Nat) : Int) = ((1 + x : Nat) : Int) by lia]
  generalize hcc : 1 + x = cc
  have hcc3 : cc ≤ 3 := by lia
  have hcc1 : 0 < cc := by lia
  walk_at "s"
  refine CallD.imp (c_law_dealtV (k := 3) (N := 4) H X (get_app hops) get_last (by lia) hok (by lia)) fun fv mB hfew => ?_
  obtain ⟨hEB, hfew⟩ := hfew
  have hopsB := hEB.get (get_app (l := [MO.list [.int 0]]) hops)
  walk_at "s"
  rw [show ((cc : Nat) : Int) + 1 = ((cc + 1 : Nat) : Int) by lia]
  refine CallD.imp (c_law_dealtV (k := 3) (N := 4) H X (get_app hopsB) get_last (by lia) hok (by lia)) fun mv mC hmany => ?_
  obtain ⟨hEC, hmany⟩ := hmany
  have hEBC : Ext mB mC := ((Ext.refl' mB).app _).trans' hEC
  have hopsC := hEBC.get hopsB
  walk_at "s"
  rcases hmany with ⟨rfl, hraM, hinvM⟩ | ⟨outM, plM, joM, jpM, rfl, nrM, DM, hjoM, hjpM⟩
  · refine cmp_t rfl ?_
    walk_at "s"
    rcases hfew with ⟨rfl, _, _⟩ | ⟨outF, plF, joF, jpF, rfl, nrF, _⟩
    · refine cmp_t rfl ?_
      walk_at "s"
      rfl
    · exact absurd (raises_down hinvM hraM) nrF
  · refine cmp_f rfl ?_
    (repeat walk_at "s0")
    have FM := dealt_facts hok (Nat.succ_pos cc) (by lia) DM
    have hFMl := FM.len
    rw [FM.start] at hjpM
    refine if_tail (fun m => Ext mC m) (fun mX hEx => ?_) fun tailA => ?_
    · (repeat walk_at "s0")
      refine if_tail (fun m => Ext mC m) (fun mY hEy => ?_) fun tailB => ?_
      · walk_at "s"
        rw [show ((cc : Nat) : Int) + 1 = ((cc + 1 : Nat) : Int) by lia]
        refine CallD.imp (c_law_dealtV (k := 3) (N := cc + 1) H X (hEy.get hjoM) (hEy.get hjpM) (by lia) (again_ok FM (by lia) (by lia)) (by lia)) fun av mD hag => ?_
        obtain ⟨hED, hag⟩ := hag
        have hjoD := hED.get (hEy.get hjoM)
        rcases hag with ⟨_, hra, hinvA⟩ | ⟨out3, pl3, jo3, jp3, rfl, _, D3, h31, h32⟩
        · exfalso
          obtain ⟨o3, ho3, hs3, _⟩ := hra
          exact hs3 (scan_room hinvA.rok ho3 (by have := hinvA.len; lia))
        · have hnm := (dealt_all (Nat.succ_pos cc) (Nat.le_refl _) D3).2
          have h3l := (dealt_all (Nat.succ_pos cc) (Nat.le_refl _) D3).1
          walk_at "s"
          refine ⟨_, rfl, ?_⟩
          walk_at "s"
          refine ⟨rfl, ?_⟩
          walk_at "s"
          refine it_list h31 ?_
          refine len_ok (by rw [List.length_map]; lia) ?_
          refine compN_ind (f := opM) (fun r out m => m = mD ∧ ∃ done, out3 = done ++ r ∧ out = (done.map name).map .str) ?_ ?_ _ _ _ ⟨rfl, [], rfl, rfl⟩
          rotate_left
          · rintro op r out m K ⟨rfl, done, hdn, rfl⟩ hK
            walk_at "s"
            refine g_op0 ?_
            exact ⟨h31, hK _ _ ⟨rfl, done ++ [op], by rw [hdn]; simp, by simp⟩⟩
          rintro out m ⟨rfl, done, hdn, rfl⟩
          rw [List.append_nil] at hdn
          subst hdn
          walk_at "s"
          refine ⟨rfl, ?_⟩
          walk_at "s"
          refine it_list (get_app hjoD) ?_
          refine len_ok (by rw [List.length_map]; lia) ?_
          refine compN_ind (f := opM) (fun r out m' => m' = id m ++ [MO.list ((out3.map name).map .str)] ∧ ∃ done, outM = done ++ r ∧ out = (done.map name).map .str) ?_ ?_ _ _ _ ⟨rfl, [], rfl, rfl⟩
          rotate_left
          · rintro op r out m' K ⟨rfl, done, hdn, rfl⟩ hK
            walk_at "s"
            refine g_op0 ?_
            exact ⟨get_app hjoD, hK _ _ ⟨rfl, done ++ [op], by rw [hdn]; simp, by simp⟩⟩
          rintro out m' ⟨rfl, done, hdn, rfl⟩
          rw [List.append_nil] at hdn
          subst hdn
          refine ⟨_, eq_strs (get_app get_last) get_last, ?_⟩
          rw [hnm]
          simp
      · walk_at "s"
        rw [show ((cc : Nat) : Int) + 1 = ((cc + 1 : Nat) : Int) by lia]
        refine c_told H (hEx.get hopsC) (hEx.get hjoM) (by lia) (by lia) (FM.told hword) fun mY hExy => ?_
        have hEy := hEx.trans' hExy
        refine ⟨true, rfl, ?_⟩
        refine if_f rfl ?_
        walk_at "s"
        refine ⟨_, eq_int, ?_⟩
        by_cases h3 : cc = 3
        · refine if_t (by rw [h3]; rfl) ?_
          walk_at "s"
          refine bc_len_list (hEy.get hjoM) ?_
          rw [List.length_map]
          walk_at "s"
          refine bc_len_list (hEy.get hopsC) ?_
          rw [List.length_map]
          refine ⟨_, ne_int, ?_⟩
          refine if_f (by rw [(dealt_all (Nat.succ_pos cc) (by lia) DM).1]; simp) ?_
          exact tailB _ hEy
        · refine if_f (beq_eq_false_iff_ne.mpr (by lia)) ?_
          refine if_f rfl ?_
          exact tailB _ hEy
    · walk_at "s"
      rcases hfew with ⟨rfl, _, _⟩ | ⟨outF, plF, joF, jpF, rfl, nrF, DF, hjoF, hjpF⟩
      · refine cmp_f rfl ?_
        exact tailA _ (Ext.refl' mC)
      · refine cmp_t rfl ?_
        have FF := dealt_facts hok hcc1 (by lia) DF
        have hFFl := FF.len
        walk_at "s"
        refine bc_len_list (hEBC.get hjoF) ?_
        rw [List.length_map]
        walk_at "s"
        refine bc_len_list hjoM ?_
        rw [List.length_map]
        refine cmp_f (lt_f (by have := dealt_more hcc1 DF DM; lia)) ?_
        walk_at "s"
        refine c_told H hopsC (hEBC.get hjoF) (by lia) (by lia) (FF.told hword) fun mX hEx => ?_
        refine ⟨true, rfl, ?_⟩
        refine if_f rfl ?_
        exact tailA _ hEx
theorem law_call {w : World} {s : Shared} {a fa : Addr} {nums : List Int} {vs : List Value} {mg : Str → Option Value} {R : Result → Shared → Prop} (Y : SaysH w s.heap) (hg : s.gens = #[]) (hm : s.heap.Ns mainGlobals mg) (hmg : mg "law" = some (.ref fa))
    (hL : s.heap.IsList a vs.toArray) (hI : IntsAre vs nums) (hn : nums.length ≤ 63) (hR : ∀ s', (∀ b o, s.heap.get? b = some o → s'.heap.get? b = some o) → s'.os = s.os → s'.gens = #[] → R (.ok (.ret (.bool true))) s') :
    codeAny (model pw w) callerA (.call (.ref fa) ⟨[.ref a], []⟩) R s := by
  have H : Hyp (lawC w s a nums) := hyp_of Y hL hI hn
  have X : EH (lawC w s a nums) (cfFrag w.params) 123 107 110 := eh_of Y
  have hW : W (lawC w s a nums) [] [] s := ⟨fun _ _ e => e, rfl, .nil, fun _ h => (nomatch h), fun i _ _ h => (nomatch h), hg, rfl⟩
  have hfa : fa = (lawC w s a nums).fa "law" := by
    obtain ⟨mg', _, n1, _, h⟩ := H.f_law.nm
    rcases h with h | h
    · rw [hm.agree n1 "law", h] at hmg
      cases hmg; rfl
    · rw [hm.agree n1 "law", h.1] at hmg
      cases hmg
  rw [hfa]
  refine own_env H.f_law (names := ["script", "absent", "again", "count", "drum", "few", "many", "ops", "ranges", "without"]) (sok_mk (by kernel_rfl)) (nl := 9) (args := [.script]) (by decide) rfl hW (.cons (by unfold VR; rfl) .nil) fun qual code s1 hW1 hV1 hF _ _ => ?_
  refine wpAny_mono (law_walk H X rfl hF ⟨rfl, Nat.le_of_ble_eq_true rfl, Nat.le_of_ble_eq_true rfl⟩ (Around.frames_deeper rfl) hW1 hV1) (fun f s' h => ?_) fun _ _ e => e
  obtain ⟨mf, v, m, ad, rfl, hf, hW', _, _⟩ := h
  obtain ⟨x, rfl, hx⟩ := hf
  rw [hx.isBool]
  exact hR s' hW'.keep hW'.os hW'.gens
theorem law_holds : PySem.Challenge.rw_sa0213_01.Holds := by
  refine law_head fun d kwd hdk => ?_
  intro w s₀ s₁ mg mb G Y fa o pm cd doc dV kV ho hd hcd hD hmg hg args vals as hpre hlay hrd hwl hlo
  have hdn : d.name = "law" := defOf_name hdk
  rw [hdn] at hmg
  clear ho hd hcd hD hdk hdn
  refine Ground.open G ?_
  intro T B D TE TW
  have hm := T.g
  clear B D TE TW T G
  wrow_args hpre hlay hrd hwl hlo
  rename_i nums _ _ _ _ _ _ a vs _ hL _ _ _ hI _ hn _
  refine enter_call (law_call Y hg hm hmg hL hI (by lia) fun s' h1 h2 h3 => GoodW.toG ⟨.inl ⟨_, _, _, rfl, fun _ => rfl, .bool true, by kernel_rfl, fun _ => ⟨.nil, fun _ h => nomatch h⟩⟩, h1, h2, h3⟩)
end Mine

theorem PySem.Challenge.cw_sa0213_01_holds : PySem.Challenge.rw_sa0213_01.Holds :=
  Mine.law_holds

import PyProof.Rows.All
import Wide.All
import OpenK.AllK
import Wide.FinOn
import Lean
import PySem.Challenge.RW_xm0426_01
open PySem PySem.W PyProof.Rows
set_option Elab.async false
set_option maxRecDepth 100000
set_option autoImplicit false
set_option linter.unusedVariables false
set_option linter.unusedSimpArgs false
set_option maxHeartbeats 8000000
namespace Mine
/-- abstract values: a list is named by its place in the abstract heap -/
inductive V where
  | none | bool (b : Bool) | int (i : Int) | tup (vs : List V) | lst (k : Nat) | rng (a b c : Int) | fro (vs : List V) | fn (k : Nat)

noncomputable abbrev Loc := List (Option V)
noncomputable abbrev Hp := List (List V)

structure G where
  prog : Program
  w : World
  hb : Heap
  mg : Str → Option Value
  mb : Str → Option Value
  gname : Nat → Str
  hg : hb.Ns mainGlobals mg
  hB : hb.Ns builtinsNs mb
  lim : hb.NoLimit
  fns : ∀ d ∈ recsOf prog, ∃ a o pm code doc, mg d.name = some (.ref a) ∧ hb.get? a = some o ∧ o.data = .func (Calls.docDef d.name d.params d.body d.scope pm code doc) ∧ hb.CodeRec code d.name
  bnone : ∀ x ∈ (["len", "range", "min", "abs", "sum", "zip", "enumerate", "int"] : List Str), mg x = none ∧ mb x = bootBuiltins x

noncomputable abbrev PL (h : Heap) (a : Addr) (items : Array Value) : Prop := ∃ n, IsL h a items n
noncomputable abbrev PT (h : Heap) (a : Addr) (items : Array Value) : Prop := ∃ n, IsT h a items n

/-- the abstract heap's addresses; bad: objects that no value names; fro: lists that none turns again -/
structure Fi where
  l : List Addr
  bad : Addr → Prop
  fro : Addr → Prop
noncomputable def Fi.push (φ : Fi) (a : Addr) : Fi := ⟨φ.l ++ [a], φ.bad, φ.fro⟩
noncomputable def Le (φ φ' : Fi) : Prop := φ.l <+: φ'.l ∧ (∀ b, φ'.bad b → φ.bad b) ∧ ∀ b, φ.fro b → φ'.fro b
theorem Le.refl (φ : Fi) : Le φ φ := ⟨List.prefix_refl _, fun _ h => h, fun _ h => h⟩
theorem Le.trans {a b c : Fi} (x : Le a b) (y : Le b c) : Le a c := ⟨x.1.trans y.1, fun b h => x.2.1 b (y.2.1 b h), fun b h => y.2.2 b (x.2.2 b h)⟩
theorem Le.push (φ : Fi) (a : Addr) : Le φ (φ.push a) := ⟨List.prefix_append _ _, fun _ h => h, fun _ h => h⟩

mutual
noncomputable def VR (g : G) (h : Heap) (φ : Fi) : V → Value → Prop
  | .none, x => x = .none
  | .bool b, x => x = .bool b
  | .int i, x => ∃ t, x = .int i t
  | .tup vs, x => ∃ a items, x = .ref a ∧ PT h a items ∧ ¬ φ.bad a ∧ VRs g h φ vs items.toList
  | .lst k, x => ∃ a, x = .ref a ∧ φ.l[k]? = some a
  | .rng a b c, x => ∃ r t u v, x = .ref r ∧ IsRange h r a b c t u v ∧ ¬ φ.bad r
  | .fro vs, x => ∃ a items, x = .ref a ∧ PL h a items ∧ φ.fro a ∧ VRs g h φ vs items.toList
  | .fn k, x => g.mg (g.gname k) = some x
noncomputable def VRs (g : G) (h : Heap) (φ : Fi) : List V → List Value → Prop
  | [], xs => xs = []
  | v :: vs, xs => ∃ y ys, xs = y :: ys ∧ VR g h φ v y ∧ VRs g h φ vs ys
end

structure Slot where
  name : Str
  cell : Bool
  addr : Addr

noncomputable def SlotOk (g : G) (h : Heap) (φ : Fi) (sk : Slot) (ov : Option V) : Prop :=
  match sk.cell with
  | true => ∃ o, h.IsCell sk.addr o ∧ ∀ v, ov = some v → ∃ x, o = some x ∧ VR g h φ v x
  | false => ∃ m, h.Ns sk.addr m ∧ ∀ v, ov = some v → ∃ x, m sk.name = some x ∧ VR g h φ v x

noncomputable def get (L : Loc) (k : Nat) : Option V := (L[k]?).getD none

/-- what the abstract heap says -/
structure RelH (g : G) (φ : Fi) (H : Hp) (h : Heap) : Prop where
  base : ∀ b o, g.hb.get? b = some o → h.get? b = some o
  len : φ.l.length = H.length
  nodup : φ.l.Nodup
  new : ∀ a ∈ φ.l, g.hb.get? a = none
  badIn : ∀ b, φ.bad b → (h.get? b).isSome = true
  froIs : ∀ b, φ.fro b → b ∉ φ.l ∧ ∃ items, PL h b items
  lists : ∀ (k : Nat) (a : Addr) (vs : List V), φ.l[k]? = some a → H[k]? = some vs → ∃ items, PL h a items ∧ VRs g h φ vs items.toList

structure Rel (g : G) (sl : List Slot) (φ : Fi) (L : Loc) (H : Hp) (h : Heap) : Prop where
  H : RelH g φ H h
  llen : L.length = sl.length
  slots : ∀ (k : Nat) (sk : Slot), sl[k]? = some sk → g.hb.get? sk.addr = none ∧ SlotOk g h φ sk (get L k)
  apart : sl.Pairwise fun x y => x.addr = y.addr → x.cell = false ∧ y.cell = false ∧ x.name ≠ y.name

structure Step (sl : List Slot) (φ φ' : Fi) (s s' : Shared) : Prop where
  same : ∃ h tk, s' = { s with heap := h, toks := tk }
  pre : Le φ φ'
  bad : φ'.bad = φ.bad
  dom : ∀ b, (s.heap.get? b).isSome = true → (s'.heap.get? b).isSome = true
  fresh : ∀ a ∈ φ'.l, a ∈ φ.l ∨ s.heap.get? a = none
  kept : ∀ b o, s.heap.get? b = some o → b ∉ φ.l → (∀ sk ∈ sl, sk.addr ≠ b) → s'.heap.get? b = some o
  ffresh : ∀ b, φ'.fro b → φ.fro b ∨ s.heap.get? b = none

theorem Step.refl (sl φ s) : Step sl φ φ s s := ⟨⟨_, _, rfl⟩, Le.refl _, rfl, fun _ h => h, fun _ h => .inl h, fun _ _ h _ _ => h, fun _ h => .inl h⟩

theorem Step.trans {sl φ₁ φ₂ φ₃ s₁ s₂ s₃} (x : Step sl φ₁ φ₂ s₁ s₂) (y : Step sl φ₂ φ₃ s₂ s₃) : Step sl φ₁ φ₃ s₁ s₃ where
  same := by
    obtain ⟨h, tk, rfl⟩ := x.same
    obtain ⟨h', tk', rfl⟩ := y.same
    exact ⟨h', tk', rfl⟩
  pre := x.pre.trans y.pre
  bad := y.bad.trans x.bad
  dom := fun b h => y.dom b (x.dom b h)
  fresh := fun a ha => by
    rcases y.fresh a ha with h | h
    · exact x.fresh a h
    · right
      cases e : s₁.heap.get? a with
      | none => rfl
      | some o => have := x.dom a (by rw [e]; rfl); rw [h] at this; cases this
  kept := fun b o e hb hs => by
    refine y.kept b o (x.kept b o e hb hs) (fun hm => ?_) hs
    rcases x.fresh b hm with h | h
    · exact hb h
    · rw [h] at e; cases e
  ffresh := fun a ha => by
    rcases y.ffresh a ha with h | h
    · exact x.ffresh a h
    · right
      cases e : s₁.heap.get? a with
      | none => rfl
      | some o => have := x.dom a (by rw [e]; rfl); rw [h] at this; cases this

theorem Step.weaken {sl φ φ' s s'} (x : Step [] φ φ' s s') : Step sl φ φ' s s' :=
  ⟨x.same, x.pre, x.bad, x.dom, x.fresh, fun b o e hb _ => x.kept b o e hb (fun _ h => nomatch h), x.ffresh⟩

theorem prefix_get {α : Type} {l l' : List α} (h : l <+: l') {k : Nat} {a : α} (e : l[k]? = some a) : l'[k]? = some a := by
  obtain ⟨t, rfl⟩ := h
  rw [List.getElem?_append_left (List.getElem?_eq_some_iff.mp e).1]; exact e

/-- tuples and ranges stay -/
noncomputable def Fixed (o : Obj) : Prop := (o.cls = .type "tuple" ∧ ∃ xs n, o.data = .seq xs n) ∨ (o.cls = .type "range" ∧ ∃ vs, o.data = .fields vs)
noncomputable def KeepT (φ : Fi) (h h' : Heap) : Prop := ∀ b o, h.get? b = some o → (Fixed o ∧ ¬ φ.bad b) ∨ φ.fro b → h'.get? b = some o
/-- all but lists and frames' parts stay -/
noncomputable def KeepA (φ : Fi) (h h' : Heap) : Prop := ∀ b o, h.get? b = some o → (o.cls ≠ .type "list" ∧ (∀ es ep, o.data ≠ .dict es ep) ∧ ∀ v, o.data ≠ .cell v) ∨ φ.fro b → h'.get? b = some o
theorem KeepA.at {φ : Fi} {h h' : Heap} (K : KeepA φ h h') {b : Addr} {o : Obj} (e : h.get? b = some o) (h1 : o.cls ≠ .type "list") (h2 : ∀ es ep, o.data ≠ .dict es ep) (h3 : ∀ v, o.data ≠ .cell v) : h'.get? b = some o := K b o e (.inl ⟨h1, h2, h3⟩)

theorem KeepT.of {φ : Fi} {h h' : Heap} (k : ∀ b o, h.get? b = some o → h'.get? b = some o) : KeepT φ h h' := fun b o e _ => k b o e
theorem Fixed.notList {o : Obj} (h : Fixed o) : o.cls ≠ .type "list" := by
  rcases h with ⟨h, _⟩ | ⟨h, _⟩ <;> (rw [h]; decide)
theorem Fixed.notDict {o : Obj} (h : Fixed o) (es ep) : o.data ≠ .dict es ep := by
  rcases h with ⟨_, _, _, h⟩ | ⟨_, _, h⟩ <;> (rw [h]; exact nofun)
theorem Fixed.notCell {o : Obj} (h : Fixed o) (v) : o.data ≠ .cell v := by
  rcases h with ⟨_, _, _, h⟩ | ⟨_, _, h⟩ <;> (rw [h]; exact nofun)
theorem KeepA.toT {φ : Fi} {h h' : Heap} (k : KeepA φ h h') : KeepT φ h h' := fun b o e f => k b o e (f.elim (fun f => .inl ⟨f.1.notList, f.1.notDict, f.1.notCell⟩) .inr)

section
variable {g : G} {φ φ' : Fi}
mutual
theorem VR.mono {h h' : Heap} (K : KeepT φ h h') (P : Le φ φ') : ∀ {v : V} {x : Value}, VR g h φ v x → VR g h' φ' v x
  | .none, _, h => h
  | .bool _, _, h => h
  | .int _, _, h => h
  | .tup vs, x, h => by
    unfold VR at h ⊢
    obtain ⟨a, items, rfl, ⟨n, ht⟩, hb, hv⟩ := h
    exact ⟨a, items, rfl, ⟨n, K _ _ ht (.inl ⟨.inl ⟨rfl, _, _, rfl⟩, hb⟩)⟩, fun z => hb (P.2.1 _ z), VRs.mono K P hv⟩
  | .lst k, x, h => by
    unfold VR at h ⊢
    obtain ⟨a, rfl, ha⟩ := h
    exact ⟨a, rfl, prefix_get P.1 ha⟩
  | .rng a b c, x, h => by
    unfold VR at h ⊢
    obtain ⟨r, t, u, v, rfl, hr, hb⟩ := h
    exact ⟨r, t, u, v, rfl, K _ _ hr (.inl ⟨.inr ⟨rfl, _, rfl⟩, hb⟩), fun z => hb (P.2.1 _ z)⟩
  | .fro vs, x, h => by
    unfold VR at h ⊢
    obtain ⟨a, items, rfl, ⟨n, hl⟩, hf, hv⟩ := h
    exact ⟨a, items, rfl, ⟨n, K _ _ hl (.inr hf)⟩, P.2.2 _ hf, VRs.mono K P hv⟩
  | .fn k, x, h => by
    unfold VR at h ⊢
    exact h
theorem VRs.mono {h h' : Heap} (K : KeepT φ h h') (P : Le φ φ') : ∀ {vs : List V} {xs : List Value}, VRs g h φ vs xs → VRs g h' φ' vs xs
  | [], _, h => by unfold VRs at h ⊢; exact h
  | v :: vs, xs, h => by
    unfold VRs at h ⊢
    obtain ⟨y, ys, rfl, hy, hys⟩ := h
    exact ⟨y, ys, rfl, VR.mono K P hy, VRs.mono K P hys⟩
end
end

theorem nodup_inj {α : Type} {l : List α} (h : l.Nodup) {i j : Nat} {a : α} (hi : l[i]? = some a) (hj : l[j]? = some a) : i = j := by
  obtain ⟨h1, e1⟩ := List.getElem?_eq_some_iff.mp hi
  obtain ⟨h2, e2⟩ := List.getElem?_eq_some_iff.mp hj
  have p := List.pairwise_iff_getElem.mp h
  rcases Nat.lt_trichotomy i j with q | q | q
  · exact absurd (e1.trans e2.symm) (p i j h1 h2 q)
  · exact q
  · exact absurd (e2.trans e1.symm) (p j i h2 h1 q)

section
variable {g : G} {sl : List Slot} {φ φ' : Fi} {L : Loc} {H H' : Hp}

theorem RelH.isList {h : Heap} (R : RelH g φ H h) {a : Addr} (ha : a ∈ φ.l) : ∃ items n, IsL h a items n := by
  obtain ⟨k, hk, rfl⟩ := List.mem_iff_getElem.mp ha
  have hk' : k < H.length := R.len ▸ hk
  obtain ⟨items, ⟨n, hl⟩, _⟩ := R.lists k _ _ (List.getElem?_eq_getElem hk) (List.getElem?_eq_getElem hk')
  exact ⟨items, n, hl⟩

theorem RelH.notList {h : Heap} (R : RelH g φ H h) {b : Addr} {o : Obj} (e : h.get? b = some o) (hc : o.cls ≠ .type "list" ∨ ∀ xs n, o.data ≠ .seq xs n) : b ∉ φ.l := fun hm => by
  obtain ⟨items, n, hl⟩ := R.isList hm
  have hl' : h.get? b = some _ := hl
  rw [e] at hl'; cases hl'
  rcases hc with hc | hc
  · exact hc rfl
  · exact hc _ _ rfl

theorem RelH.notBad {h : Heap} (R : RelH g φ H h) {a : Addr} (ha : h.get? a = none) : ¬ φ.bad a := fun hb => by
  have := R.badIn a hb
  rw [ha] at this; cases this

theorem Rel.slotObj {h : Heap} (R : Rel g sl φ L H h) {sk : Slot} (hs : sk ∈ sl) : ∃ o, h.get? sk.addr = some o ∧ ((∃ es ep, o.data = .dict es ep) ∨ ∃ v, o.data = .cell v) := by
  obtain ⟨k, hk, rfl⟩ := List.mem_iff_getElem.mp hs
  have := (R.slots k _ (List.getElem?_eq_getElem hk)).2
  unfold SlotOk at this
  split at this
  · obtain ⟨_, ⟨o, ho, hd⟩, _⟩ := this; exact ⟨o, ho, .inr ⟨_, hd⟩⟩
  · obtain ⟨_, ⟨o, es, ep, ho, hd, _⟩, _⟩ := this; exact ⟨o, ho, .inl ⟨_, _, hd⟩⟩

theorem Rel.slotOut {h : Heap} (R : Rel g sl φ L H h) {sk : Slot} (hs : sk ∈ sl) : sk.addr ∉ φ.l := by
  obtain ⟨o, ho, q⟩ := R.slotObj hs
  refine R.H.notList ho (.inr fun xs n e => ?_)
  rcases q with ⟨es, ep, q⟩ | ⟨v, q⟩ <;> (rw [q] at e; cases e)

theorem SlotOk.mono {h h' : Heap} {sk : Slot} {ov : Option V} (K : KeepT φ h h') (P : Le φ φ') (k : ∀ o, h.get? sk.addr = some o → h'.get? sk.addr = some o) (x : SlotOk g h φ sk ov) : SlotOk g h' φ' sk ov := by
  unfold SlotOk at x ⊢
  split
  · rename_i e
    rw [e] at x
    obtain ⟨o, ⟨ob, ho, hd⟩, hv⟩ := x
    exact ⟨o, ⟨ob, k _ ho, hd⟩, fun v hv' => let ⟨y, q, r⟩ := hv v hv'; ⟨y, q, r.mono K P⟩⟩
  · rename_i e
    rw [e] at x
    obtain ⟨m, ⟨ob, es, ep, ho, r⟩, hv⟩ := x
    exact ⟨m, ⟨ob, es, ep, k _ ho, r⟩, fun v hv' => let ⟨y, q, r⟩ := hv v hv'; ⟨y, q, r.mono K P⟩⟩

theorem RelH.notFro {h : Heap} (R : RelH g φ H h) {b : Addr} {o : Obj} (e : h.get? b = some o) (hc : o.cls ≠ .type "list" ∨ ∀ xs n, o.data ≠ .seq xs n) : ¬ φ.fro b := fun hf => by
  obtain ⟨items, n, hl⟩ := (R.froIs b hf).2
  have hl' : h.get? b = some _ := hl
  rw [e] at hl'; cases hl'
  rcases hc with hc | hc
  · exact hc rfl
  · exact hc _ _ rfl

theorem keepT_of_step0 {s s' : Shared} (R : RelH g φ H s.heap) (S : Step [] φ φ' s s') : KeepT φ s.heap s'.heap := fun b o e hc =>
  S.kept b o e (hc.elim (fun hc => R.notList e (.inl hc.1.notList)) fun hf => (R.froIs b hf).1) fun _ h => nomatch h

theorem Rel.slotNe {h : Heap} (R : Rel g sl φ L H h) {sk : Slot} (hs : sk ∈ sl) {b : Addr} {o : Obj} (e : h.get? b = some o) (hd : ∀ es ep, o.data ≠ .dict es ep) (hv : ∀ v, o.data ≠ .cell v) : sk.addr ≠ b := fun he => by
  obtain ⟨o', ho', q⟩ := R.slotObj hs
  rw [he, e] at ho'; cases ho'
  rcases q with ⟨es, ep, q⟩ | ⟨v, q⟩
  · exact hd _ _ q
  · exact hv _ q

theorem Rel.keepA {s s' : Shared} (R : Rel g sl φ L H s.heap) (S : Step sl φ φ' s s') : KeepA φ s.heap s'.heap := fun b o e hc => by
  rcases hc with ⟨hc, hd, hv⟩ | hf
  · exact S.kept b o e (R.H.notList e (.inl hc)) fun sk hs => R.slotNe hs e hd hv
  · obtain ⟨h1, items, n, hl⟩ := R.H.froIs b hf
    have hl' : s.heap.get? b = some _ := hl
    rw [e] at hl'; cases hl'
    exact S.kept b _ e h1 fun sk hs => R.slotNe hs e (fun _ _ => nofun) (fun _ => nofun)
theorem Rel.keepT {s s' : Shared} (R : Rel g sl φ L H s.heap) (S : Step sl φ φ' s s') : KeepT φ s.heap s'.heap := (R.keepA S).toT

/-- a step that leaves the frame alone -/
theorem Rel.of_step0 {s s' : Shared} (R : Rel g sl φ L H s.heap) (S : Step [] φ φ' s s') (RH : RelH g φ' H' s'.heap) : Rel g sl φ' L H' s'.heap where
  H := RH
  llen := R.llen
  slots := fun k sk hk => ⟨(R.slots k sk hk).1, (R.slots k sk hk).2.mono (keepT_of_step0 R.H S) S.pre fun o ho => S.kept _ _ ho (R.slotOut (List.mem_of_getElem? hk)) fun _ h => nomatch h⟩
  apart := R.apart

/-- the heap grows, nothing that stood is turned -/
theorem Step.ext {s : Shared} {h' : Heap} {tk : Nat} (k : ∀ b o, s.heap.get? b = some o → h'.get? b = some o) : Step [] φ φ s { s with heap := h', toks := tk } where
  same := ⟨_, _, rfl⟩
  pre := Le.refl _
  bad := rfl
  dom := fun b hb => by
    obtain ⟨o, ho⟩ := Option.isSome_iff_exists.mp hb
    show (h'.get? b).isSome = true
    rw [k b o ho]; rfl
  fresh := fun _ h => .inl h
  kept := fun b o e _ _ => k b o e
  ffresh := fun _ h => .inl h

theorem RelH.ext {h h' : Heap} (R : RelH g φ H h) (k : ∀ b o, h.get? b = some o → h'.get? b = some o) : RelH g φ H h' where
  base := fun b o e => k b o (R.base b o e)
  len := R.len
  nodup := R.nodup
  new := R.new
  badIn := fun b hb => by
    obtain ⟨o, ho⟩ := Option.isSome_iff_exists.mp (R.badIn b hb)
    rw [k b o ho]; rfl
  froIs := fun b hf => let ⟨h1, items, n, hl⟩ := R.froIs b hf; ⟨h1, items, n, k _ _ hl⟩
  lists := fun i a vs hi hv => let ⟨items, ⟨n, hl⟩, q⟩ := R.lists i a vs hi hv; ⟨items, ⟨n, k _ _ hl⟩, q.mono (.of k) (Le.refl _)⟩

theorem Step.extNew {s : Shared} {h' : Heap} {tk : Nat} {a : Addr} {o : Obj} (k : ∀ b o, s.heap.get? b = some o → h'.get? b = some o) (ha : s.heap.get? a = none) : Step [] φ (φ.push a) s { s with heap := h', toks := tk } where
  same := ⟨_, _, rfl⟩
  pre := Le.push _ _
  bad := rfl
  dom := (Step.ext (φ := φ) (tk := tk) k).dom
  fresh := fun b hb => by
    rcases List.mem_append.mp hb with h | h
    · exact .inl h
    · rw [List.mem_singleton.mp h]; exact .inr ha
  kept := fun b o e _ _ => k b o e
  ffresh := fun _ h => .inl h

theorem RelH.extNew {h h' : Heap} {a : Addr} {items : Array Value} {vs : List V} (R : RelH g φ H h) (k : ∀ b o, h.get? b = some o → h'.get? b = some o) (ha : h.get? a = none)
    (hl : PL h' a items) (hv : VRs g h' (φ.push a) vs items.toList) : RelH g (φ.push a) (H ++ [vs]) h' where
  base := fun b o e => k b o (R.base b o e)
  len := by simp [Fi.push, R.len]
  nodup := by
    refine List.nodup_append.mpr ⟨R.nodup, by simp, fun x hx y hy => ?_⟩
    rw [List.mem_singleton.mp hy]
    rintro rfl
    obtain ⟨items, n, hl⟩ := R.isList hx
    have hl' : h.get? x = some _ := hl
    rw [ha] at hl'; cases hl'
  new := fun b hb => by
    rcases List.mem_append.mp hb with hb | hb
    · exact R.new b hb
    · rw [List.mem_singleton.mp hb]
      cases e : g.hb.get? a with
      | none => rfl
      | some o => have := R.base a o e; rw [ha] at this; cases this
  badIn := fun b hb => by
    obtain ⟨o, ho⟩ := Option.isSome_iff_exists.mp (R.badIn b hb)
    rw [k b o ho]; rfl
  froIs := fun b hf => by
    obtain ⟨h1, items, n, hl⟩ := R.froIs b hf
    refine ⟨fun hm => ?_, items, n, k _ _ hl⟩
    rcases List.mem_append.mp hm with hm | hm
    · exact h1 hm
    · rw [List.mem_singleton.mp hm] at hl
      have hl' : h.get? a = some _ := hl
      rw [ha] at hl'; cases hl'
  lists := fun i b ws hi hw => by
    unfold Fi.push at hi
    by_cases hlt : i < φ.l.length
    · rw [List.getElem?_append_left hlt] at hi
      rw [List.getElem?_append_left (R.len ▸ hlt)] at hw
      obtain ⟨its, ⟨n, hl⟩, q⟩ := R.lists i b ws hi hw
      exact ⟨its, ⟨n, k _ _ hl⟩, q.mono (.of k) (Le.push _ _)⟩
    · have hi' : i = φ.l.length := by
        have := (List.getElem?_eq_some_iff.mp hi).1
        simp at this; omega
      subst hi'
      rw [List.getElem?_append_right (Nat.le_refl _)] at hi
      rw [R.len, List.getElem?_append_right (Nat.le_refl _)] at hw
      simp at hi hw
      subst hi hw
      exact ⟨items, hl, hv⟩

/-- one list is turned in place -/
theorem Step.set {s : Shared} {h' : Heap} {tk : Nat} {a : Addr} (ha : a ∈ φ.l) (hs : Heap.SameBut a s.heap h') (hd : (h'.get? a).isSome = true) : Step [] φ φ s { s with heap := h', toks := tk } where
  same := ⟨_, _, rfl⟩
  pre := Le.refl _
  bad := rfl
  dom := fun b hb => by
    by_cases e : b = a
    · subst e; exact hd
    · show (h'.get? b).isSome = true
      rw [hs.2 b e]; exact hb
  fresh := fun _ h => .inl h
  kept := fun b o e hb _ => (hs.2 b fun z => hb (z ▸ ha)).trans e
  ffresh := fun _ h => .inl h

theorem RelH.set {h h' : Heap} {k : Nat} {a : Addr} {items : Array Value} {vs : List V} (R : RelH g φ H h) (hk : φ.l[k]? = some a) (hs : Heap.SameBut a h h')
    (hl : PL h' a items) (hv : VRs g h φ vs items.toList) : RelH g φ (H.set k vs) h' := by
  have ha : a ∈ φ.l := List.mem_of_getElem? hk
  have K : KeepT φ h h' := fun b o e hc => (hs.2 b fun z => by
    subst z
    rcases hc with hc | hf
    · exact R.notList e (.inl hc.1.notList) ha
    · exact (R.froIs b hf).1 ha).trans e
  refine ⟨fun b o e => ?_, by simp [R.len], R.nodup, R.new, fun b hb => ?_, fun b hf => ?_, fun i b ws hi hw => ?_⟩
  · refine (hs.2 b fun z => ?_).trans (R.base b o e)
    subst z
    rw [R.new b ha] at e; cases e
  · by_cases z : b = a
    · subst z
      obtain ⟨n, hl⟩ := hl
      have hl' : h'.get? b = some _ := hl
      rw [hl']; rfl
    · rw [hs.2 b z]; exact R.badIn b hb
  · obtain ⟨h1, items, n, hl⟩ := R.froIs b hf
    exact ⟨h1, items, n, (hs.2 b fun z => h1 (z ▸ ha)).trans hl⟩
  · by_cases hik : i = k
    · subst hik
      rw [hk] at hi; cases hi
      rw [List.getElem?_set] at hw
      simp at hw
      obtain ⟨_, rfl⟩ := hw
      exact ⟨items, hl, hv.mono K (Le.refl _)⟩
    · rw [List.getElem?_set_ne (Ne.symm hik)] at hw
      obtain ⟨its, ⟨n, hl'⟩, q⟩ := R.lists i b ws hi hw
      have hba : b ≠ a := fun z => by
        subst z
        exact hik (nodup_inj R.nodup hi hk)
      exact ⟨its, ⟨n, (hs.2 b hba).trans hl'⟩, q.mono K (Le.refl _)⟩

end
section
variable {g : G} {h : Heap} {φ : Fi}

theorem VRs.length : ∀ {vs : List V} {xs : List Value}, VRs g h φ vs xs → vs.length = xs.length
  | [], _, q => by unfold VRs at q; rw [q]; rfl
  | v :: vs, _, q => by
    unfold VRs at q
    obtain ⟨y, ys, rfl, _, q⟩ := q
    rw [List.length_cons, List.length_cons, VRs.length q]
theorem VRs.get : ∀ {vs : List V} {xs : List Value} {i : Nat} {v : V}, VRs g h φ vs xs → vs[i]? = some v → ∃ x, xs[i]? = some x ∧ VR g h φ v x
  | [], _, i, _, _, e => by simp at e
  | v :: vs, _, i, w, q, e => by
    unfold VRs at q
    obtain ⟨y, ys, rfl, hy, q⟩ := q
    cases i with
    | zero => simp at e; subst e; exact ⟨y, rfl, hy⟩
    | succ i => simp at e; obtain ⟨x, hx, r⟩ := VRs.get q e; exact ⟨x, by simpa using hx, r⟩
theorem VRs.append : ∀ {vs ws : List V} {xs ys : List Value}, VRs g h φ vs xs → VRs g h φ ws ys → VRs g h φ (vs ++ ws) (xs ++ ys)
  | [], _, _, _, q, r => by unfold VRs at q; rw [q]; exact r
  | v :: vs, _, _, _, q, r => by
    unfold VRs at q
    obtain ⟨y, ys, rfl, hy, q⟩ := q
    rw [List.cons_append, List.cons_append, VRs]
    exact ⟨_, _, rfl, hy, VRs.append q r⟩
theorem VRs.one {v : V} {x : Value} (q : VR g h φ v x) : VRs g h φ [v] [x] := by
  rw [VRs]; exact ⟨x, [], rfl, q, by rw [VRs]⟩
theorem VRs.nil : VRs g h φ [] [] := by rw [VRs]
theorem VRs.set : ∀ {vs : List V} {xs : List Value} {i : Nat} {v : V} {x : Value}, VRs g h φ vs xs → VR g h φ v x → VRs g h φ (vs.set i v) (xs.set i x)
  | [], _, _, _, _, q, _ => by unfold VRs at q; rw [q]; simp [VRs]
  | w :: vs, _, i, v, x, q, r => by
    unfold VRs at q
    obtain ⟨y, ys, rfl, hy, q⟩ := q
    cases i with
    | zero => rw [List.set_cons_zero, List.set_cons_zero, VRs]; exact ⟨_, _, rfl, r, q⟩
    | succ i => rw [List.set_cons_succ, List.set_cons_succ, VRs]; exact ⟨_, _, rfl, hy, VRs.set q r⟩
theorem VRs.drop : ∀ {vs : List V} {xs : List Value} (i : Nat), VRs g h φ vs xs → VRs g h φ (vs.drop i) (xs.drop i)
  | _, _, 0, q => q
  | [], _, i + 1, q => by unfold VRs at q; rw [q]; simp [VRs]
  | w :: vs, _, i + 1, q => by
    unfold VRs at q
    obtain ⟨y, ys, rfl, hy, q⟩ := q
    exact VRs.drop i q
theorem VRs.take : ∀ {vs : List V} {xs : List Value} (i : Nat), VRs g h φ vs xs → VRs g h φ (vs.take i) (xs.take i)
  | _, _, 0, q => by simp [VRs]
  | [], _, i + 1, q => by unfold VRs at q; rw [q]; simp [VRs]
  | w :: vs, _, i + 1, q => by
    unfold VRs at q
    obtain ⟨y, ys, rfl, hy, q⟩ := q
    rw [List.take_succ_cons, List.take_succ_cons, VRs]
    exact ⟨_, _, rfl, hy, VRs.take i q⟩
theorem VRs.rep {vs : List V} {xs : List Value} (q : VRs g h φ vs xs) : ∀ n : Nat, VRs g h φ (List.replicate n vs).flatten (List.replicate n xs).flatten
  | 0 => VRs.nil
  | n + 1 => by rw [List.replicate_succ, List.replicate_succ, List.flatten_cons, List.flatten_cons]; exact q.append (VRs.rep q n)
end

noncomputable def AOk (d : Nat) (A : Around) : Prop := A.handled = none ∧ A.depth + d + 5 < recursionLimit ∧ A.units + 4 * d + 100 < cLine
theorem AOk.deeper {d : Nat} {A : Around} {env : Env} (h : AOk (d + 1) A) : AOk d (A.deeper env) := by
  obtain ⟨h1, h2, h3⟩ := h
  refine ⟨h1, ?_, ?_⟩
  · show A.depth + 1 + d + 5 < recursionLimit; omega
  · show A.units + 3 + 4 * d + 100 < cLine; omega
theorem AOk.units {d : Nat} {A : Around} (h : AOk d A) : A.units < cLine := by have := h.2.2; omega
theorem AOk.depth {d : Nat} {A : Around} (h : AOk d A) : A.depth < recursionLimit := by have := h.2.1; omega

noncomputable abbrev PE := Loc → Hp → Option (V × Hp)
noncomputable abbrev PB := Loc → Hp → Option (Bool × Hp)
noncomputable abbrev PLs := Loc → Hp → Option (List V × Hp)

/-- the tree t does what m says -/
structure Ref {α β : Type} (rel : G → Heap → Fi → β → α → Prop) (g : G) (d : Nat) (sl : List Slot) (t : Sem α) (m : Loc → Hp → Option (β × Hp)) : Prop where
  run : ∀ (A : Around) (φ : Fi) (L : Loc) (H : Hp) (s : Shared) (v : β) (H' : Hp), AOk d A → m L H = some (v, H') → Rel g sl φ L H s.heap →
    wpAny (model g.prog g.w) A t (fun x s' => ∃ φ', Step sl φ φ' s s' ∧ Rel g sl φ' L H' s'.heap ∧ rel g s'.heap φ' v x) (fun _ _ => False) s

noncomputable def eqR {β : Type} (_ : G) (_ : Heap) (_ : Fi) (v x : β) : Prop := v = x
noncomputable abbrev RefE := Ref VR
noncomputable abbrev RefB := Ref (eqR (β := Bool))
noncomputable abbrev RefL := Ref VRs

section
variable {g : G} {d : Nat} {sl : List Slot} {A : Around} {φ : Fi} {L : Loc} {H H' : Hp} {s : Shared}

theorem Ref.use {α β : Type} {rel : G → Heap → Fi → β → α → Prop} {t : Sem α} {m : Loc → Hp → Option (β × Hp)} (r : Ref rel g d sl t m) {v : β} (hA : AOk d A) (hm : m L H = some (v, H')) (R : Rel g sl φ L H s.heap)
    {Q : α → Shared → Prop} {E : Value → Shared → Prop} (k : ∀ x s' φ', Step sl φ φ' s s' → Rel g sl φ' L H' s'.heap → rel g s'.heap φ' v x → Q x s') : wpAny (model g.prog g.w) A t Q E s :=
  wpAny_mono (r.run A φ L H s v H' hA hm R) (fun x s' ⟨φ', S, R', q⟩ => k x s' φ' S R' q) fun _ _ f => f.elim

/-- an operation on values -/
noncomputable def RefOp2 (g : G) (d : Nat) (t : Value → Value → Sem Value) (m : V → V → Hp → Option (V × Hp)) : Prop :=
  ∀ (A : Around) (φ : Fi) (H : Hp) (s : Shared) (v w : V) (x y : Value) (r : V) (H' : Hp), AOk d A → m v w H = some (r, H') → RelH g φ H s.heap → VR g s.heap φ v x → VR g s.heap φ w y →
    wpAny (model g.prog g.w) A (t x y) (fun z s' => ∃ φ', Step [] φ φ' s s' ∧ RelH g φ' H' s'.heap ∧ VR g s'.heap φ' r z) (fun _ _ => False) s

theorem RefOp2.use {t : Value → Value → Sem Value} {m : V → V → Hp → Option (V × Hp)} (o : RefOp2 g d t m) {v w r : V} {x y : Value} (hA : AOk d A) (hm : m v w H = some (r, H')) (R : Rel g sl φ L H s.heap) (hv : VR g s.heap φ v x) (hw : VR g s.heap φ w y)
    {Q : Value → Shared → Prop} {E : Value → Shared → Prop} (k : ∀ z s' φ', Step sl φ φ' s s' → Rel g sl φ' L H' s'.heap → VR g s'.heap φ' r z → Q z s') : wpAny (model g.prog g.w) A (t x y) Q E s :=
  wpAny_mono (o A φ H s v w x y r H' hA hm R.H hv hw) (fun z s' ⟨φ', S, RH, q⟩ => k z s' φ' S.weaken (R.of_step0 S RH) q) fun _ _ f => f.elim

theorem Step.tok (n : Nat) : Step sl φ φ s { s with toks := n } := ⟨⟨_, _, rfl⟩, Le.refl _, rfl, fun _ h => h, fun _ h => .inl h, fun _ _ h _ _ => h, fun _ h => .inl h⟩
end

/-! ints -/
noncomputable def small (a : Int) : Bool := decide (a.natAbs < 2 ^ 62)
noncomputable def opI : Operator → Int → Int → Option Int
  | .Add, a, b => some (a + b)
  | .Sub, a, b => some (a - b)
  | .Mult, a, b => if small a then some (a * b) else none
  | .FloorDiv, a, b => if b ≠ 0 ∧ small b = true ∧ b.natAbs < 1073741824 then some (a.fdiv b) else none
  | .Mod, a, b => if b ≠ 0 then some (a.fmod b) else none
  | .LShift, a, b => if 0 ≤ b ∧ b.natAbs ≤ 1000 ∧ small a = true then some (a * 2 ^ b.toNat) else none
  | .RShift, a, b => if 0 ≤ b then some (a.fdiv (2 ^ b.toNat)) else none
  | .BitAnd, a, b => some (Builtin.bitAnd a b)
  | .BitOr, a, b => some (Builtin.bitOr a b)
  | .Pow, a, b => if 0 ≤ b ∧ b.natAbs ≤ 1000 ∧ small a = true then some (a ^ b.toNat) else none
  | _, _, _ => none

theorem bits_small {a : Int} (h : small a = true) : Builtin.Int.intBits a ≤ 62 := by
  unfold small at h
  simp only [Bool.and_eq_true, decide_eq_true_eq] at h
  unfold Builtin.Int.intBits
  split
  · omega
  · rename_i h0
    have : a.natAbs ≠ 0 := by intro e; apply h0; simp; omega
    have h62 : a.natAbs.log2 < 62 := (Nat.log2_lt this).mpr (by omega)
    omega

section
variable {g : G} {d : Nat} {A : Around} {s : Shared}
theorem bin_int {op : Operator} {a b c : Int} {t u : Tok} {Q : Value → Shared → Prop} {E : Value → Shared → Prop} (h : opI op a b = some c)
    (k : ∀ tk n, Q (.int c tk) { s with toks := n }) : wpAny (model g.prog g.w) A (binaryOp op (.int a t) (.int b u)) Q E s := by
  cases op <;> simp only [opI] at h <;> try (cases h; done)
  case Add => cases h; exact add_int (k _ _)
  case Sub => cases h; exact sub_int (k _ _)
  case Mult =>
    split at h
    · rename_i hs
      cases h; exact mul_int (k _ _) (.of_left (by have := bits_small hs; omega))
    · cases h
  case Mod =>
    split at h
    · rename_i hb
      cases h; exact mod_int hb (k _ _)
    · cases h
  case Pow =>
    split at h
    · rename_i hs
      cases h
      refine pow_int hs.1 ?_ (k _ _)
      have h1 := bits_small hs.2.2
      have h2 : (Builtin.Int.intBits a : Int) * b ≤ 62 * 1000 := Int.mul_le_mul (by omega) (by omega) hs.1 (by omega)
      omega
    · cases h
  case LShift =>
    split at h
    · rename_i hs
      cases h
      exact lshift_int hs.1 (by have h1 := bits_small hs.2.2; omega) (k _ _)
    · cases h
  case RShift =>
    split at h
    · rename_i hs
      cases h; exact rshift_int hs (k _ _)
    · cases h
  case BitOr => cases h; exact or_int (k _ _)
  case BitAnd => cases h; exact and_int (k _ _)
  case FloorDiv =>
    split at h
    · rename_i hs
      cases h; exact floordiv_int hs.1 (k _ _) (.inl (PyProof.noPylong_small hs.2.2))
    · cases h

/-- lists -/
noncomputable def lenOk (n : Nat) : Bool := decide (n ≤ 100000)
noncomputable def seqOf : V → Hp → Option (List V)
  | .lst r, H => H[r]?
  | .fro vs, _ => some vs
  | _, _ => none
theorem seqOf_PL {φ : Fi} {H : Hp} {h : Heap} {v : V} {x : Value} {xs : List V} (R : RelH g φ H h) (hv : VR g h φ v x) (e : seqOf v H = some xs) :
    ∃ a items, x = .ref a ∧ PL h a items ∧ VRs g h φ xs items.toList := by
  unfold seqOf at e
  split at e
  · unfold VR at hv
    obtain ⟨a, rfl, ha⟩ := hv
    obtain ⟨its, hL, q⟩ := R.lists _ _ _ ha e
    exact ⟨a, its, rfl, hL, q⟩
  · cases e
    unfold VR at hv
    obtain ⟨a, its, rfl, hl, _, q⟩ := hv
    exact ⟨a, its, rfl, hl, q⟩
  · cases e
noncomputable def binV (op : Operator) : V → V → Hp → Option (V × Hp)
  | .int a, .int b, H => (opI op a b).map fun c => (.int c, H)
  | v, .int n, H => if op = .Mult then (seqOf v H).bind fun xs => if small n && lenOk (xs.length * n.toNat) then some (.lst H.length, H ++ [(List.replicate n.toNat xs).flatten]) else none else none
  | v, w, H => if op = .Add then (seqOf v H).bind fun xs => (seqOf w H).bind fun ys => if lenOk (xs.length + ys.length) then some (.lst H.length, H ++ [xs ++ ys]) else none else none

theorem foldl_rep (xs : Array Value) : ∀ (n : Nat) (acc : Array Value), List.foldl (fun x y => x ++ y) acc (List.replicate n xs) = acc ++ (List.replicate n xs.toList).flatten.toArray
  | 0, acc => by simp
  | n + 1, acc => by
    rw [List.replicate_succ, List.foldl_cons, foldl_rep xs n, List.replicate_succ, List.flatten_cons]
    apply Array.ext'
    simp

theorem get_none_size (h : Heap) : h.get? h.objs.size = none := by
  cases e : h.get? h.objs.size with
  | none => rfl
  | some o => exact absurd (Heap.lt_size e) (Nat.lt_irrefl _)

/-- a new list at the heap's end -/
theorem new_list {φ : Fi} {H : Hp} {items : Array Value} {vs : List V} {tk : Nat} (R : RelH g φ H s.heap) (hv : VRs g s.heap φ vs items.toList) :
    Step [] φ (φ.push s.heap.objs.size) s { s with heap := s.heap.push { cls := .type "list", data := .seq items }, toks := tk } ∧
    RelH g (φ.push s.heap.objs.size) (H ++ [vs]) (s.heap.push { cls := .type "list", data := .seq items }) ∧
    VR g (s.heap.push { cls := .type "list", data := .seq items }) (φ.push s.heap.objs.size) (.lst H.length) (.ref s.heap.objs.size) := by
  have k : ∀ b o, s.heap.get? b = some o → (s.heap.push { cls := .type "list", data := .seq items }).get? b = some o := fun b o e => Heap.get?_push_of_some _ e
  refine ⟨Step.extNew (o := default) k (get_none_size _), R.extNew k (get_none_size _) ⟨0, IsL.new _ _⟩ (hv.mono (.of k) (Le.push _ _)), ?_⟩
  rw [VR]
  exact ⟨_, rfl, by rw [← R.len]; simp [Fi.push]⟩

theorem ref_bin (op : Operator) : RefOp2 g d (binaryOp op) (binV op) := by
  intro A φ H s v w x y r H' hA hm R hv hw
  unfold binV at hm
  split at hm
  · rename_i a b _
    obtain ⟨c, hc, e⟩ := Option.map_eq_some_iff.mp hm
    cases e
    rw [VR] at hv hw
    obtain ⟨t, rfl⟩ := hv
    obtain ⟨u, rfl⟩ := hw
    exact bin_int hc fun tk n => ⟨φ, Step.tok n, R, by rw [VR]; exact ⟨_, rfl⟩⟩
  · split at hm
    · rename_i m _ hop
      subst hop
      obtain ⟨xs, hx, hm⟩ := Option.bind_eq_some_iff.mp hm
      split at hm
      · rename_i hl
        cases hm
        obtain ⟨a, its, rfl, ⟨n, hL⟩, q⟩ := seqOf_PL R hv hx
        unfold VR at hw
        obtain ⟨u, rfl⟩ := hw
        have e1 := q.length
        unfold lenOk small at hl
        simp only [Bool.and_eq_true, decide_eq_true_eq] at hl
        simp at e1
        have he : List.foldl (fun x1 x2 => x1 ++ x2) #[] (List.replicate (if its.isEmpty = true then 0 else m.toNat) its) = (List.replicate m.toNat its.toList).flatten.toArray := by
          rw [foldl_rep]
          by_cases h0 : its.isEmpty = true
          · have : its = #[] := by simpa using h0
            subst this; simp
          · rw [if_neg h0]; simp
        have := new_list (tk := s.toks) R (items := (List.replicate m.toNat its.toList).flatten.toArray) (vs := (List.replicate m.toNat xs).flatten) (by simpa using q.rep m.toNat)
        refine wpAny_binaryOp_repeat_ref (T := "list") (U := "int") (by decide) ⟨_, hL, rfl⟩ (fun s' => typeIs_int s' m u) noFill_list_mul F.fills_int_mul F.slot_int_rmul repeat_list F.slot_int_index.lookup
          (call_meets F.slot_int_rmul (typeIs_int s m u) F.entry_int_rmul (F.args_int_rmul_2 _ _) (int___rmul___int_list m u a its n)
            ⟨hL, rfl, ⟨_, hL, rfl⟩, call_meets F.slot_list_mul ⟨_, hL, rfl⟩ F.entry_list_mul (F.args_list_mul_2 _ _)
              (AutoListH.list___mul___list_int_3 a its n m u (by simp [Builtin.List.listFitsIndex]; omega) (by rw [← e1]; omega) (by simp [Builtin.List.listTooLong, sizeLine]; rw [← e1]; omega))
              ⟨hL, ?_⟩⟩)
        rw [he]
        exact ⟨_, this.1, this.2.1, this.2.2⟩
      · cases hm
    · cases hm
  · split at hm
    · rename_i hop
      subst hop
      obtain ⟨xs, hx, hm⟩ := Option.bind_eq_some_iff.mp hm
      obtain ⟨ys, hy, hm⟩ := Option.bind_eq_some_iff.mp hm
      split at hm
      · rename_i hl
        cases hm
        obtain ⟨a, its, rfl, ⟨n, hL⟩, q⟩ := seqOf_PL R hv hx
        obtain ⟨b, its2, rfl, ⟨n2, hL2⟩, q2⟩ := seqOf_PL R hw hy
        have := new_list (tk := s.toks) R (items := its ++ its2) (vs := xs ++ ys) (by rw [Array.toList_append]; exact q.append q2)
        have e1 := q.length
        have e2 := q2.length
        unfold lenOk at hl
        simp at hl e1 e2
        refine P.add_list hL hL2 ⟨_, this.1, this.2.1, this.2.2⟩ ?_
        unfold sizeLine; omega
      · cases hm
    · cases hm
end
structure EnvOk (env : Env) : Prop where
  kind : env.scope.kind = .function
  globals : env.globals = mainGlobals
  builtins : env.builtins = builtinsNs

/-! the shallow code of expressions -/
noncomputable def cst (v : V) : PE := fun _ H => some (v, H)
noncomputable def var (k : Nat) : PE := fun L H => (get L k).map fun v => (v, H)
noncomputable def bin (f : V → V → Hp → Option (V × Hp)) (a b : PE) : PE := fun L H => (a L H).bind fun r => (b L r.2).bind fun q => f r.1 q.1 q.2
noncomputable def truth : V → Option Bool
  | .bool b => some b
  | _ => none
noncomputable def tval (a : PE) : PB := fun L H => (a L H).bind fun r => (truth r.1).map fun b => (b, r.2)
noncomputable def andE (a b : PE) : PE := fun L H => (a L H).bind fun r => (truth r.1).bind fun t => if t then b L r.2 else some r
noncomputable def orE (a b : PE) : PE := fun L H => (a L H).bind fun r => (truth r.1).bind fun t => if t then some r else b L r.2
noncomputable def iteE (t : PB) (a b : PE) : PE := fun L H => (t L H).bind fun r => if r.1 then a L r.2 else b L r.2
noncomputable def notB (t : PB) : PB := fun L H => (t L H).map fun r => (!r.1, r.2)
noncomputable def andB (s t : PB) : PB := fun L H => (s L H).bind fun r => if r.1 then t L r.2 else some (false, r.2)
noncomputable def orB (s t : PB) : PB := fun L H => (s L H).bind fun r => if r.1 then some (true, r.2) else t L r.2
noncomputable def nilL : PLs := fun _ H => some ([], H)
noncomputable def consL (a : PE) (r : PLs) : PLs := fun L H => (a L H).bind fun p => (r L p.2).map fun q => (p.1 :: q.1, q.2)
noncomputable def tupE (r : PLs) : PE := fun L H => (r L H).bind fun p => if lenOk p.1.length then some (.tup p.1, p.2) else none
noncomputable def lstE (r : PLs) : PE := fun L H => (r L H).bind fun p => if lenOk p.1.length then some (.lst p.2.length, p.2 ++ [p.1]) else none

section
variable {g : G} {d : Nat} {sl : List Slot} {env : Env}

theorem r_int {i : Int} {k : Nat} {pos : Pos} : RefE g d sl (eval (.Constant (.int i) k pos) env) (cst (.int i)) := by
  refine ⟨fun A φ L H s v H' hA hm R => ?_⟩
  cases hm
  exact wpAny_Constant_int ⟨φ, Step.tok _, R, by rw [VR]; exact ⟨_, rfl⟩⟩
theorem r_bool {b : Bool} {k : Nat} {pos : Pos} : RefE g d sl (eval (.Constant (.bool b) k pos) env) (cst (.bool b)) := by
  refine ⟨fun A φ L H s v H' hA hm R => ?_⟩
  cases hm
  exact wpAny_Constant_bool ⟨φ, Step.refl .., R, by rw [VR]⟩
theorem r_none {k : Nat} {pos : Pos} : RefE g d sl (eval (.Constant .none k pos) env) (cst .none) := by
  refine ⟨fun A φ L H s v H' hA hm R => ?_⟩
  cases hm
  exact wpAny_Constant_none ⟨φ, Step.refl .., R, by rw [VR]⟩
theorem r_negint {i : Int} {k : Nat} {pos pos' : Pos} : RefE g d sl (eval (.UnaryOp .USub (.Constant (.int i) k pos) pos') env) (cst (.int (-i))) := by
  refine ⟨fun A φ L H s v H' hA hm R => ?_⟩
  cases hm
  exact wpAny_UnaryOp (wpAny_Constant_int (neg_int ⟨φ, (Step.tok _), R, by rw [VR]; exact ⟨_, rfl⟩⟩))

theorem get_of {L : Loc} {k : Nat} {v : V} (h : get L k = some v) : L[k]? = some (some v) := by
  unfold get at h
  cases e : L[k]? with
  | none => rw [e] at h; cases h
  | some o => rw [e] at h; simp at h; rw [h]

theorem r_loc {x : Str} {pos : Pos} {k : Nat} (he : EnvOk env) (hk : env.kindOf x = some .local) (hs : sl[k]? = some ⟨x, false, env.locals⟩) (hd : (x == ("__debug__" : Str)) = false) :
    RefE g d sl (eval (.Name x pos) env) (var k) := by
  refine ⟨fun A φ L H s v H' hA hm R => ?_⟩
  obtain ⟨v', hv, e⟩ := Option.map_eq_some_iff.mp hm
  cases e
  have q := (R.slots k _ hs).2
  unfold SlotOk at q
  obtain ⟨m, hn, hq⟩ := q
  obtain ⟨y, hy, r⟩ := hq _ hv
  exact wpAny_Name (wpAny_loadName_local he.kind hk hn hy ⟨φ, Step.refl .., R, r⟩) hd

theorem r_cell {x y : Str} {pos : Pos} {k : Nat} {c : Addr} (he : EnvOk env) (hk : env.kindOf x = some .cell) (hc : env.cells.lookup x = some c) (hs : sl[k]? = some ⟨y, true, c⟩) (hd : (x == ("__debug__" : Str)) = false) :
    RefE g d sl (eval (.Name x pos) env) (var k) := by
  refine ⟨fun A φ L H s v H' hA hm R => ?_⟩
  obtain ⟨v', hv, e⟩ := Option.map_eq_some_iff.mp hm
  cases e
  have q := (R.slots k _ hs).2
  unfold SlotOk at q
  obtain ⟨o, hn, hq⟩ := q
  obtain ⟨z, rfl, r⟩ := hq _ hv
  exact wpAny_Name (wpAny_loadName_cell he.kind hk hc hn ⟨φ, Step.refl .., R, r⟩) hd

theorem r_glob {x : Str} {pos : Pos} {f : Nat} {a : Value} (he : EnvOk env) (hk : env.kindOf x = some .globalImplicit) (hx : g.gname f = x) (ha : g.mg x = some a) (hd : (x == ("__debug__" : Str)) = false) :
    RefE g d sl (eval (.Name x pos) env) (cst (.fn f)) := by
  refine ⟨fun A φ L H s v H' hA hm R => ?_⟩
  cases hm
  refine Calls.Name_function_global he.kind hk (Calls.loadGlobal_global (mg := g.mg) (by rw [he.globals]; exact g.hg.keeps R.H.base) ha ⟨φ, Step.refl .., R, ?_⟩) hd
  rw [VR, hx]; exact ha

theorem r_bin {l r : Expr} {op : Operator} {pos : Pos} {a b : PE} (ha : RefE g d sl (eval l env) a) (hb : RefE g d sl (eval r env) b) :
    RefE g d sl (eval (.BinOp l op r pos) env) (bin (binV op) a b) := by
  refine ⟨fun A φ L H s v H' hA hm R => ?_⟩
  obtain ⟨p, h1, hm⟩ := Option.bind_eq_some_iff.mp hm
  obtain ⟨q, h2, hm⟩ := Option.bind_eq_some_iff.mp hm
  refine wpAny_BinOp (ha.use hA h1 R fun x s₁ φ₁ S₁ R₁ v₁ => hb.use hA h2 R₁ fun y s₂ φ₂ S₂ R₂ v₂ => (ref_bin op).use hA hm R₂ (v₁.mono (R₁.keepT S₂) S₂.pre) v₂ fun z s₃ φ₃ S₃ R₃ v₃ => ?_)
  exact ⟨φ₃, (S₁.trans S₂).trans S₃, R₃, v₃⟩

theorem r_sub {value slice : Expr} {pos : Pos} {a b : PE} {f : V → V → Hp → Option (V × Hp)} (hf : RefOp2 g d (subscriptTail value slice) f) (ha : RefE g d sl (eval value env) a) (hb : RefE g d sl (eval slice env) b) :
    RefE g d sl (eval (.Subscript value slice pos) env) (bin f a b) := by
  refine ⟨fun A φ L H s v H' hA hm R => ?_⟩
  obtain ⟨p, h1, hm⟩ := Option.bind_eq_some_iff.mp hm
  obtain ⟨q, h2, hm⟩ := Option.bind_eq_some_iff.mp hm
  refine Subscript_ (ha.use hA h1 R fun x s₁ φ₁ S₁ R₁ v₁ => hb.use hA h2 R₁ fun y s₂ φ₂ S₂ R₂ v₂ => hf.use hA hm R₂ (v₁.mono (R₁.keepT S₂) S₂.pre) v₂ fun z s₃ φ₃ S₃ R₃ v₃ => ?_)
  exact ⟨φ₃, (S₁.trans S₂).trans S₃, R₃, v₃⟩

theorem r_cmp {l r : Expr} {op : CmpOp} {pos : Pos} {a b : PE} {f : V → V → Hp → Option (V × Hp)} (hf : RefOp2 g d (compareOp op) f) (ha : RefE g d sl (eval l env) a) (hb : RefE g d sl (eval r env) b)
    (hm : behindInMarks op r = false) : RefE g d sl (eval (.Compare l [op] [r] pos) env) (bin f a b) := by
  refine ⟨fun A φ L H s v H' hA hm' R => ?_⟩
  obtain ⟨p, h1, hm'⟩ := Option.bind_eq_some_iff.mp hm'
  obtain ⟨q, h2, hm'⟩ := Option.bind_eq_some_iff.mp hm'
  refine wpAny_Compare1 (ha.use hA h1 R fun x s₁ φ₁ S₁ R₁ v₁ => hb.use hA h2 R₁ fun y s₂ φ₂ S₂ R₂ v₂ => hf.use hA hm' R₂ (v₁.mono (R₁.keepT S₂) S₂.pre) v₂ fun z s₃ φ₃ S₃ R₃ v₃ => ?_) hm
  exact ⟨φ₃, (S₁.trans S₂).trans S₃, R₃, v₃⟩

theorem truthy_V {A : Around} {φ : Fi} {s : Shared} {v : V} {x : Value} {b : Bool} {Q : Bool → Shared → Prop} {E : Value → Shared → Prop} (hv : VR g s.heap φ v x) (ht : truth v = some b) (h : Q b s) : wpAny (model g.prog g.w) A (truthy x) Q E s := by
  unfold truth at ht
  split at ht
  · cases ht; rw [VR] at hv; subst hv; exact wpAny_truthy_bool h
  · cases ht

theorem t_cmp {l r : Expr} {op : CmpOp} {pos : Pos} {a b : PE} {f : V → V → Hp → Option (V × Hp)} {whole : Sem Value} (hf : RefOp2 g d (compareOp op) f) (ha : RefE g d sl (eval l env) a) (hb : RefE g d sl (eval r env) b)
    (hm : behindInMarks op r = false) : RefB g d sl (isTrue (.Compare l [op] [r] pos) env whole) (tval (bin f a b)) := by
  refine ⟨fun A φ L H s v H' hA hm' R => ?_⟩
  obtain ⟨z, h0, ht0⟩ := Option.bind_eq_some_iff.mp hm'
  obtain ⟨b', ht, e⟩ := Option.map_eq_some_iff.mp ht0
  cases e
  obtain ⟨p, h1, h0⟩ := Option.bind_eq_some_iff.mp h0
  obtain ⟨q, h2, h0⟩ := Option.bind_eq_some_iff.mp h0
  refine wpAny_isTrue_Compare1 (ha.use hA h1 R fun x s₁ φ₁ S₁ R₁ v₁ => hb.use hA h2 R₁ fun y s₂ φ₂ S₂ R₂ v₂ => hf.use (r := z.1) (H' := z.2) hA h0 R₂ (v₁.mono (R₁.keepT S₂) S₂.pre) v₂ fun z s₃ φ₃ S₃ R₃ v₃ => truthy_V v₃ ht ?_) hm
  exact ⟨φ₃, (S₁.trans S₂).trans S₃, R₃, rfl⟩

theorem t_val {e : Expr} {a : PE} (ha : RefE g d sl (eval e env) a) (he : ∀ whole, isTrue e env whole = (do let v ← whole; standAt e.pos; holding [v] (truthy v))) : RefB g d sl (isTrue e env (eval e env)) (tval a) := by
  refine ⟨fun A φ L H s v H' hA hm R => ?_⟩
  obtain ⟨z, h0, ht0⟩ := Option.bind_eq_some_iff.mp hm
  obtain ⟨b', ht, e'⟩ := Option.map_eq_some_iff.mp ht0
  cases e'
  exact wpAny_isTrue_value (ha.use (v := z.1) (H' := z.2) hA h0 R fun x s₁ φ₁ S₁ R₁ v₁ => truthy_V v₁ ht ⟨φ₁, S₁, R₁, rfl⟩) (he _)

theorem t_not {x : Expr} {pos : Pos} {t : PB} {whole : Sem Value} (h : RefB g d sl (isTrue x env (eval x env)) t) : RefB g d sl (isTrue (.UnaryOp .Not x pos) env whole) (notB t) := by
  refine ⟨fun A φ L H s v H' hA hm R => ?_⟩
  obtain ⟨z, h0, e⟩ := Option.map_eq_some_iff.mp hm
  cases e
  exact wpAny_isTrue_Not (h.use (v := z.1) (H' := z.2) hA h0 R fun x s₁ φ₁ S₁ R₁ v₁ => ⟨φ₁, S₁, R₁, congrArg (!·) v₁⟩)

theorem t_and {x y : Expr} {pos : Pos} {t u : PB} {whole : Sem Value} (h1 : RefB g d sl (isTrue x env (eval x env)) t) (h2 : RefB g d sl (isTrue y env (eval y env)) u) :
    RefB g d sl (isTrue (.BoolOp .And [x, y] pos) env whole) (andB t u) := by
  refine ⟨fun A φ L H s v H' hA hm R => ?_⟩
  obtain ⟨z, h0, hm⟩ := Option.bind_eq_some_iff.mp hm
  refine wpAny_isTrue_BoolOp (wpAny_allTrue_And_cons (h1.use (v := z.1) (H' := z.2) hA h0 R fun b s₁ φ₁ S₁ R₁ v₁ => ?_))
  have v₁ : z.1 = b := v₁
  subst v₁
  cases hz : z.1 with
  | false => rw [hz] at hm; cases hm; exact ⟨φ₁, S₁, R₁, rfl⟩
  | true =>
    rw [hz] at hm
    simp only [if_true] at hm ⊢
    refine wpAny_allTrue_And_cons (h2.use hA hm R₁ fun b s₂ φ₂ S₂ R₂ v₂ => ?_)
    have v₂ : v = b := v₂
    subst v₂
    cases v with
    | false => exact ⟨φ₂, S₁.trans S₂, R₂, rfl⟩
    | true => exact wpAny_allTrue_And_nil ⟨φ₂, S₁.trans S₂, R₂, rfl⟩

theorem t_or {x y : Expr} {pos : Pos} {t u : PB} {whole : Sem Value} (h1 : RefB g d sl (isTrue x env (eval x env)) t) (h2 : RefB g d sl (isTrue y env (eval y env)) u) :
    RefB g d sl (isTrue (.BoolOp .Or [x, y] pos) env whole) (orB t u) := by
  refine ⟨fun A φ L H s v H' hA hm R => ?_⟩
  obtain ⟨z, h0, hm⟩ := Option.bind_eq_some_iff.mp hm
  refine wpAny_isTrue_BoolOp (wpAny_allTrue_Or_cons (h1.use (v := z.1) (H' := z.2) hA h0 R fun b s₁ φ₁ S₁ R₁ v₁ => ?_))
  have v₁ : z.1 = b := v₁
  subst v₁
  cases hz : z.1 with
  | true => rw [hz] at hm; cases hm; exact ⟨φ₁, S₁, R₁, rfl⟩
  | false =>
    rw [hz] at hm
    simp only [Bool.false_eq_true, if_false] at hm ⊢
    refine wpAny_allTrue_Or_cons (h2.use hA hm R₁ fun b s₂ φ₂ S₂ R₂ v₂ => ?_)
    have v₂ : v = b := v₂
    subst v₂
    cases v with
    | true => exact ⟨φ₂, S₁.trans S₂, R₂, rfl⟩
    | false => exact wpAny_allTrue_Or_nil ⟨φ₂, S₁.trans S₂, R₂, rfl⟩

theorem r_and {x y : Expr} {pos : Pos} {a b : PE} (h1 : RefE g d sl (eval x env) a) (h2 : RefE g d sl (eval y env) b) : RefE g d sl (eval (.BoolOp .And [x, y] pos) env) (andE a b) := by
  refine ⟨fun A φ L H s v H' hA hm R => ?_⟩
  obtain ⟨z, h0, hm⟩ := Option.bind_eq_some_iff.mp hm
  obtain ⟨t, ht, hm⟩ := Option.bind_eq_some_iff.mp hm
  refine wpAny_And2 (h1.use (v := z.1) (H' := z.2) hA h0 R fun x s₁ φ₁ S₁ R₁ v₁ => truthy_V v₁ ht ?_)
  cases t with
  | false => simp only [Bool.false_eq_true, if_false] at hm ⊢; cases hm; exact ⟨φ₁, S₁, R₁, v₁⟩
  | true => simp only [if_true] at hm ⊢; exact h2.use hA hm R₁ fun y s₂ φ₂ S₂ R₂ v₂ => ⟨φ₂, S₁.trans S₂, R₂, v₂⟩
theorem r_or {x y : Expr} {pos : Pos} {a b : PE} (h1 : RefE g d sl (eval x env) a) (h2 : RefE g d sl (eval y env) b) : RefE g d sl (eval (.BoolOp .Or [x, y] pos) env) (orE a b) := by
  refine ⟨fun A φ L H s v H' hA hm R => ?_⟩
  obtain ⟨z, h0, hm⟩ := Option.bind_eq_some_iff.mp hm
  obtain ⟨t, ht, hm⟩ := Option.bind_eq_some_iff.mp hm
  refine wpAny_Or2 (h1.use (v := z.1) (H' := z.2) hA h0 R fun x s₁ φ₁ S₁ R₁ v₁ => truthy_V v₁ ht ?_)
  cases t with
  | true => simp only [if_true] at hm ⊢; cases hm; exact ⟨φ₁, S₁, R₁, v₁⟩
  | false => simp only [Bool.false_eq_true, if_false] at hm ⊢; exact h2.use hA hm R₁ fun y s₂ φ₂ S₂ R₂ v₂ => ⟨φ₂, S₁.trans S₂, R₂, v₂⟩

theorem r_ite {test body orelse : Expr} {pos : Pos} {t : PB} {a b : PE} (h0 : RefB g d sl (isTrue test env (eval test env)) t) (h1 : RefE g d sl (eval body env) a) (h2 : RefE g d sl (eval orelse env) b) :
    RefE g d sl (eval (.IfExp test body orelse pos) env) (iteE t a b) := by
  refine ⟨fun A φ L H s v H' hA hm R => ?_⟩
  obtain ⟨z, hz, hm⟩ := Option.bind_eq_some_iff.mp hm
  refine wpAny_IfExp (h0.use (v := z.1) (H' := z.2) hA hz R fun b s₁ φ₁ S₁ R₁ v₁ => ?_)
  have v₁ : z.1 = b := v₁
  subst v₁
  split
  · rename_i e
    rw [e] at hm
    exact h1.use hA hm R₁ fun y s₂ φ₂ S₂ R₂ v₂ => ⟨φ₂, S₁.trans S₂, R₂, v₂⟩
  · rename_i e
    have e : z.1 = false := by simpa using e
    rw [e] at hm
    exact h2.use hA hm R₁ fun y s₂ φ₂ S₂ R₂ v₂ => ⟨φ₂, S₁.trans S₂, R₂, v₂⟩

theorem l_nil {pos : Pos} : RefL g d sl (spliced (backTo pos (starEach [] env))) nilL := by
  refine ⟨fun A φ L H s v H' hA hm R => ?_⟩
  cases hm
  exact wpAny_items_nil ⟨φ, Step.refl .., R, VRs.nil⟩
theorem l_cons {pos : Pos} {e : Expr} {rest : List Expr} {a : PE} {r : PLs} (h1 : RefE g d sl (eval e env) a) (h2 : RefL g d sl (spliced (backTo pos (starEach rest env))) r)
    (he : starEach (e :: rest) env = (false, eval e env) :: starEach rest env) : RefL g d sl (spliced (backTo pos (starEach (e :: rest) env))) (consL a r) := by
  refine ⟨fun A φ L H s v H' hA hm R => ?_⟩
  obtain ⟨p, hp, hm⟩ := Option.bind_eq_some_iff.mp hm
  obtain ⟨q, hq, e'⟩ := Option.map_eq_some_iff.mp hm
  cases e'
  refine wpAny_items_cons (h1.use (v := p.1) (H' := p.2) hA hp R fun x s₁ φ₁ S₁ R₁ v₁ => h2.use (v := q.1) (H' := q.2) hA hq R₁ fun xs s₂ φ₂ S₂ R₂ v₂ => ⟨φ₂, S₁.trans S₂, R₂, ?_⟩) he
  rw [VRs]
  exact ⟨x, xs, rfl, v₁.mono (R₁.keepT S₂) S₂.pre, v₂⟩

theorem lenOk_line {n : Nat} (h : lenOk n = true) : n ≤ sizeLine := by unfold lenOk at h; simp at h; unfold sizeLine; omega

theorem r_tup {elts : List Expr} {k : Nat} {pos : Pos} {r : PLs} (h : RefL g d sl (spliced (backTo pos (starEach elts env))) r) : RefE g d sl (eval (.Tuple elts k pos) env) (tupE r) := by
  refine ⟨fun A φ L H s v H' hA hm R => ?_⟩
  obtain ⟨p, hp, hm⟩ := Option.bind_eq_some_iff.mp hm
  split at hm
  · rename_i hl
    cases hm
    refine wpAny_Tuple (h.use (v := p.1) (H' := p.2) hA hp R fun xs s₁ φ₁ S₁ R₁ v₁ => ⟨by rw [← v₁.length]; exact lenOk_line hl, φ₁, ?_⟩)
    have k : ∀ b o, s₁.heap.get? b = some o → (s₁.heap.push { cls := .type "tuple", data := .seq xs.toArray }).get? b = some o := fun b o e => Heap.get?_push_of_some _ e
    have S₂ := Step.ext (φ := φ₁) (s := s₁) (tk := s₁.toks) k
    refine ⟨S₁.trans S₂.weaken, R₁.of_step0 S₂ (R₁.H.ext k), ?_⟩
    rw [VR]
    exact ⟨_, _, rfl, ⟨0, IsT.new _ _⟩, R₁.H.notBad (get_none_size _), v₁.mono (.of k) (Le.refl _)⟩
  · cases hm
theorem r_lst {elts : List Expr} {pos : Pos} {r : PLs} (h : RefL g d sl (spliced (backTo pos (starEach elts env))) r) : RefE g d sl (eval (.List elts pos) env) (lstE r) := by
  refine ⟨fun A φ L H s v H' hA hm R => ?_⟩
  obtain ⟨p, hp, hm⟩ := Option.bind_eq_some_iff.mp hm
  split at hm
  · rename_i hl
    cases hm
    refine wpAny_List (h.use (v := p.1) (H' := p.2) hA hp R fun xs s₁ φ₁ S₁ R₁ v₁ => ⟨by rw [← v₁.length]; exact lenOk_line hl, ?_⟩)
    have := new_list (tk := s₁.toks) R₁.H (items := xs.toArray) (vs := p.1) v₁
    exact ⟨_, S₁.trans this.1.weaken, R₁.of_step0 this.1 this.2.1, this.2.2⟩
  · cases hm
end
/-! items -/
noncomputable def idx (xs : List V) (i : Int) : Option V :=
  if 0 ≤ i then (if i.natAbs < 1000000 then xs[i.toNat]? else none)
  else if -(xs.length : Int) ≤ i then (if xs.length < 1000000 then xs[(i + xs.length).toNat]? else none) else none
noncomputable def idxV : V → V → Hp → Option (V × Hp)
  | .tup xs, .int i, H => (idx xs i).map fun v => (v, H)
  | v, .int i, H => (seqOf v H).bind fun xs => (idx xs i).map fun v => (v, H)
  | _, _, _ => none

section
variable {g : G} {d : Nat} {sl : List Slot} {env : Env}

theorem toList_get {items : Array Value} {i : Nat} {x : Value} (h : items.toList[i]? = some x) : items[i]? = some x := by simpa using h

theorem op_sub {value slice : Expr} (hs : ∀ o i, subscripted slice false o i = operate [o, i] (getItem o i)) : RefOp2 g d (subscriptTail value slice) idxV := by
  intro A φ H s v w x y r H' hA hm R hv hw
  unfold idxV at hm
  split at hm
  · rename_i xs i
    obtain ⟨e, he, e'⟩ := Option.map_eq_some_iff.mp hm
    cases e'
    unfold VR at hv hw
    obtain ⟨a, its, rfl, ⟨n, ht⟩, _, q⟩ := hv
    obtain ⟨u, rfl⟩ := hw
    refine tail_any (T := "tuple") (id := "tuple.__getitem__") ⟨_, ht, rfl⟩ F.slot_tuple_getitem.lookup ?_ (hs _ _)
    have e1 := q.length
    simp at e1
    unfold idx at he
    split at he
    · rename_i h0
      split at he
      · rename_i h1
        obtain ⟨z, hz, qz⟩ := q.get he
        have hlt : i < its.size := by
          have := (List.getElem?_eq_some_iff.mp he).1
          omega
        exact P.getItem_tuple ht (by omega) (by omega) (seqIndex_of h0 hlt) (toList_get hz) ⟨φ, Step.refl .., R, qz⟩
      · cases he
    · rename_i h0
      split at he
      · rename_i h1
        split at he
        · rename_i h2
          obtain ⟨z, hz, qz⟩ := q.get he
          rw [e1] at hz h1 h2
          exact P.getItem_tuple ht (by omega) (by omega) (seqIndex_neg (by omega) h1) (toList_get hz) ⟨φ, Step.refl .., R, qz⟩
        · cases he
      · cases he
  · rename_i i _
    obtain ⟨xs, hx, hm⟩ := Option.bind_eq_some_iff.mp hm
    obtain ⟨e, he, e'⟩ := Option.map_eq_some_iff.mp hm
    cases e'
    obtain ⟨a, its, rfl, ⟨n, hL⟩, q⟩ := seqOf_PL R hv hx
    unfold VR at hw
    obtain ⟨u, rfl⟩ := hw
    have hl := IsL.isList hL
    refine tail_any hl.typeIs slot_list_getitem.lookup ?_ (hs _ _)
    unfold idx at he
    split at he
    · rename_i h0
      split at he
      · rename_i h1
        obtain ⟨z, hz, qz⟩ := q.get he
        exact wpAny_getItem_list hl h0 (by omega) (toList_get hz) ⟨φ, Step.refl .., R, qz⟩
      · cases he
    · rename_i h0
      split at he
      · rename_i h1
        split at he
        · rename_i h2
          obtain ⟨z, hz, qz⟩ := q.get he
          have e1 := q.length
          simp at e1
          rw [e1] at hz h1 h2
          exact wpAny_getItem_list_neg hl (by omega) h1 (by omega) (toList_get hz) ⟨φ, Step.refl .., R, qz⟩
        · cases he
      · cases he
  · cases hm
end

/-! slices -/
noncomputable def part : V → Option (Option Int)
  | .none => some none
  | .int i => some (some i)
  | _ => none
noncomputable def pickV (xs : List V) (lo hi : Option Int) : List V := (xs.drop (kms_lo lo xs.length)).take (kms_hi hi xs.length - kms_lo lo xs.length)
noncomputable def sliceE (a lo hi : PE) : PE := fun L H => (a L H).bind fun p => (lo L p.2).bind fun q => (hi L q.2).bind fun r =>
  (seqOf p.1 r.2).bind fun xs => (part q.1).bind fun l => (part r.1).bind fun h => if lenOk xs.length then some (.lst r.2.length, r.2 ++ [pickV xs l h]) else none

section
variable {g : G} {d : Nat} {sl : List Slot} {env : Env}

theorem p_none : RefE g d sl (evalPart none env) (cst .none) := by
  refine ⟨fun A φ L H s v H' hA hm R => ?_⟩
  cases hm
  exact wpAny_pure ⟨φ, Step.refl .., R, by rw [VR]⟩
theorem p_some {e : Expr} {a : PE} (h : RefE g d sl (eval e env) a) : RefE g d sl (evalPart (some e) env) a := h

theorem seqOf_list {A : Around} {φ : Fi} {H : Hp} {s : Shared} {v : V} {x : Value} {xs : List V} (R : RelH g φ H s.heap) (hv : VR g s.heap φ v x) (h : seqOf v H = some xs) :
    ∃ a items, x = .ref a ∧ s.heap.IsList a items ∧ VRs g s.heap φ xs items.toList := by
  obtain ⟨a, its, rfl, ⟨n, hl⟩, q⟩ := seqOf_PL R hv h
  exact ⟨a, its, rfl, IsL.isList hl, q⟩

theorem part_is {h : Heap} {φ : Fi} {v : V} {x : Value} {o : Option Int} (hv : VR g h φ v x) (hp : part v = some o) : IsPart x o := by
  unfold part at hp
  split at hp
  · cases hp; unfold VR at hv; subst hv; exact .none
  · cases hp; unfold VR at hv; obtain ⟨t, rfl⟩ := hv; exact .int _ _
  · cases hp

theorem r_slice {value : Expr} {lower upper : Option Expr} {p pos : Pos} {a lo hi : PE} (ha : RefE g d sl (eval value env) a) (hlo : RefE g d sl (evalPart lower env) lo) (hhi : RefE g d sl (evalPart upper env) hi)
    (ht : ∀ o r, letTemporaryGo value o r = pure ()) : RefE g d sl (eval (.Subscript value (.Slice lower upper none p) pos) env) (sliceE a lo hi) := by
  refine ⟨fun A φ L H s v H' hA hm R => ?_⟩
  obtain ⟨p1, h1, hm⟩ := Option.bind_eq_some_iff.mp hm
  obtain ⟨p2, h2, hm⟩ := Option.bind_eq_some_iff.mp hm
  obtain ⟨p3, h3, hm⟩ := Option.bind_eq_some_iff.mp hm
  obtain ⟨xs, h4, hm⟩ := Option.bind_eq_some_iff.mp hm
  obtain ⟨l, h5, hm⟩ := Option.bind_eq_some_iff.mp hm
  obtain ⟨h, h6, hm⟩ := Option.bind_eq_some_iff.mp hm
  split at hm
  · rename_i hl
    cases hm
    refine wpAny_Subscript_list_slice (ha.use (v := p1.1) (H' := p1.2) hA h1 R fun x s₁ φ₁ S₁ R₁ v₁ => hlo.use (v := p2.1) (H' := p2.2) hA h2 R₁ fun y s₂ φ₂ S₂ R₂ v₂ => hhi.use (v := p3.1) (H' := p3.2) hA h3 R₂ fun z s₃ φ₃ S₃ R₃ v₃ => ?_) ht
    have v₁' := v₁.mono (R₁.keepT (S₂.trans S₃)) (S₂.trans S₃).pre
    obtain ⟨ad, items, rfl, hL, q⟩ := seqOf_list (A := A) R₃.H v₁' h4
    have e1 := q.length
    simp at e1
    refine ⟨ad, items, l, h, rfl, hL, by rw [← e1]; exact lenOk_line hl, part_is v₂ h5, part_is v₃ h6, ?_⟩
    have k : ∀ b o, s₃.heap.get? b = some o → (s₃.heap.push { cls := .type "slice", data := .fields #[y, z, .none] }).get? b = some o := fun b o e => Heap.get?_push_of_some _ e
    have S₄ := Step.ext (φ := φ₃) (s := s₃) (tk := s₃.toks) k
    have R₄ := R₃.of_step0 S₄ (R₃.H.ext k)
    have hp : VRs g (s₃.heap.push { cls := .type "slice", data := .fields #[y, z, .none] }) φ₃ (pickV xs l h) (slicePick items l h none).toList := by
      rw [kms_pick_eq]
      unfold pickV kms_pick
      rw [e1, Array.length_toList]
      exact ((q.drop _).take _).mono (.of k) (Le.refl _)
    have := new_list (s := { s₃ with heap := s₃.heap.push { cls := .type "slice", data := .fields #[y, z, .none] } }) (tk := s₃.toks) R₄.H hp
    rw [show ({ s₃ with heap := s₃.heap.push { cls := .type "slice", data := .fields #[y, z, .none] } } : Shared).heap.objs.size = s₃.heap.objs.size + 1 from Heap.size_push ..] at this
    exact ⟨_, ((S₁.trans S₂).trans S₃).trans (S₄.weaken.trans this.1.weaken), R₄.of_step0 this.1 this.2.1, this.2.2⟩
  · cases hm
end

/-! comparisons -/
noncomputable def mapO {α β : Type} (f : α → Option β) : List α → Option (List β)
  | [] => some []
  | a :: r => (f a).bind fun b => (mapO f r).map fun l => b :: l
noncomputable def toPy : Nat → Hp → V → Option PyData
  | 0, _, _ => none
  | n + 1, H, v => match v with
    | .none => some .none
    | .bool b => some (.bool b)
    | .int i => some (.int i)
    | .tup vs => (mapO (toPy n H) vs).map .tuple
    | .lst k => (H[k]?).bind fun vs => (mapO (toPy n H) vs).map .list
    | .fro vs => (mapO (toPy n H) vs).map .list
    | _ => none
noncomputable def eqV (H : Hp) (v w : V) : Option Bool := (toPy 4 H v).bind fun a => (toPy 4 H w).bind fun b =>
  if SeqAt.shaped a && SeqAt.shaped b then some (PyData.eqv a b) else none
noncomputable def cmpV : CmpOp → V → V → Hp → Option (V × Hp)
  | .Lt, .int a, .int b, H => some (.bool (decide (a < b)), H)
  | .LtE, .int a, .int b, H => some (.bool (decide (a ≤ b)), H)
  | .Gt, .int a, .int b, H => some (.bool (decide (b < a)), H)
  | .GtE, .int a, .int b, H => some (.bool (decide (b ≤ a)), H)
  | .Eq, .int a, .int b, H => some (.bool (a == b), H)
  | .NotEq, .int a, .int b, H => some (.bool (a != b), H)
  | .Eq, .bool a, .bool b, H => some (.bool (a == b), H)
  | .NotEq, .bool a, .bool b, H => some (.bool (a != b), H)
  | .Is, .none, .none, H => some (.bool true, H)
  | .Is, .lst _, .none, H => some (.bool false, H)
  | .Is, .fro _, .none, H => some (.bool false, H)
  | .Eq, v, w, H => (eqV H v w).map fun b => (.bool b, H)
  | .NotEq, v, w, H => (eqV H v w).map fun b => (.bool !b, H)
  | _, _, _, _ => none
section
variable {g : G} {d : Nat} {sl : List Slot} {env : Env}

theorem reads_all {φ : Fi} {h : Heap} {f : V → Option PyData} : ∀ {vs : List V} {ps : List PyData} {xs : List Value}, (∀ v p x, v ∈ vs → f v = some p → VR g h φ v x → ∃ as, Reads h x p as) →
    mapO f vs = some ps → VRs g h φ vs xs → ∃ as, ReadsAll h xs ps as
  | [], _, _, _, hm, q => by
    unfold mapO at hm; cases hm
    unfold VRs at q; subst q
    exact ⟨_, .nil⟩
  | v :: vs, _, _, hf, hm, q => by
    unfold mapO at hm
    obtain ⟨b, hb, hm⟩ := Option.bind_eq_some_iff.mp hm
    obtain ⟨l, hl, e⟩ := Option.map_eq_some_iff.mp hm
    subst e
    unfold VRs at q
    obtain ⟨y, ys, rfl, hy, q⟩ := q
    obtain ⟨as, h1⟩ := hf v b y (List.mem_cons_self ..) hb hy
    obtain ⟨bs, h2⟩ := reads_all (fun v p x hv => hf v p x (List.mem_cons_of_mem _ hv)) hl q
    exact ⟨_, .cons h1 h2⟩

theorem reads_V {φ : Fi} {H : Hp} {h : Heap} (R : RelH g φ H h) : ∀ (n : Nat) {v : V} {p : PyData} {x : Value}, toPy n H v = some p → VR g h φ v x → ∃ as, Reads h x p as := by
  intro n
  induction n with
  | zero => intro v p x hp; cases hp
  | succ n ih =>
    intro v p x hp hv
    unfold toPy at hp
    split at hp
    · cases hp; unfold VR at hv; subst hv; exact ⟨_, .none⟩
    · cases hp; unfold VR at hv; subst hv; exact ⟨_, .bool _⟩
    · cases hp; unfold VR at hv; obtain ⟨t, rfl⟩ := hv; exact ⟨_, .int _ _⟩
    · obtain ⟨ps, hps, e⟩ := Option.map_eq_some_iff.mp hp
      subst e
      unfold VR at hv
      obtain ⟨a, its, rfl, ⟨m, ht⟩, _, q⟩ := hv
      obtain ⟨as, r⟩ := reads_all (fun v p x _ => ih) hps q
      exact ⟨_, .tuple ht rfl rfl r⟩
    · obtain ⟨vs, hvs, hp⟩ := Option.bind_eq_some_iff.mp hp
      obtain ⟨ps, hps, e⟩ := Option.map_eq_some_iff.mp hp
      subst e
      unfold VR at hv
      obtain ⟨a, rfl, ha⟩ := hv
      obtain ⟨its, ⟨m, hl⟩, q⟩ := R.lists _ _ _ ha hvs
      obtain ⟨as, r⟩ := reads_all (fun v p x _ => ih) hps q
      exact ⟨_, .list hl rfl rfl r⟩
    · obtain ⟨ps, hps, e⟩ := Option.map_eq_some_iff.mp hp
      subst e
      unfold VR at hv
      obtain ⟨a, its, rfl, ⟨m, hl⟩, _, q⟩ := hv
      obtain ⟨as, r⟩ := reads_all (fun v p x _ => ih) hps q
      exact ⟨_, .list hl rfl rfl r⟩
    · cases hp

theorem bool_post {A : Around} {φ : Fi} {H : Hp} {s : Shared} {b : Bool} (R : RelH g φ H s.heap) :
    ∃ φ', Step [] φ φ' s s ∧ RelH g φ' H s.heap ∧ VR g s.heap φ' (.bool b) (.bool b) := ⟨φ, Step.refl .., R, by rw [VR]⟩

theorem eqV_ref {A : Around} {φ : Fi} {H : Hp} {s : Shared} {v w : V} {x y : Value} {b : Bool} {E : Value → Shared → Prop} (R : RelH g φ H s.heap) (hA : AOk d A) (hv : VR g s.heap φ v x) (hw : VR g s.heap φ w y) (h : eqV H v w = some b) {Q : Value → Shared → Prop} :
    (Q (.bool b) s → wpAny (model g.prog g.w) A (compareOp .Eq x y) Q E s) ∧ (Q (.bool !b) s → wpAny (model g.prog g.w) A (compareOp .NotEq x y) Q E s) := by
  unfold eqV at h
  obtain ⟨p, hp, h⟩ := Option.bind_eq_some_iff.mp h
  obtain ⟨q, hq, h⟩ := Option.bind_eq_some_iff.mp h
  split at h
  · rename_i hs
    cases h
    rw [Bool.and_eq_true] at hs
    obtain ⟨as, r1⟩ := reads_V R 4 hp hv
    obtain ⟨bs, r2⟩ := reads_V R 4 hq hw
    have hu : A.units + 64 < cLine := by have := hA.2.2; omega
    exact ⟨fun k => eq_dataH r1 r2 hs.1 hs.2 hu k, fun k => ne_dataH r1 r2 hs.1 hs.2 hu k⟩
  · cases h

theorem ref_cmp (op : CmpOp) : RefOp2 g d (compareOp op) (cmpV op) := by
  intro A φ H s v w x y r H' hA hm R hv hw
  unfold cmpV at hm
  split at hm
  · cases hm; unfold VR at hv hw; obtain ⟨t, rfl⟩ := hv; obtain ⟨u, rfl⟩ := hw; exact lt_int (bool_post (A := A) R)
  · cases hm; unfold VR at hv hw; obtain ⟨t, rfl⟩ := hv; obtain ⟨u, rfl⟩ := hw; exact le_int (bool_post (A := A) R)
  · cases hm; unfold VR at hv hw; obtain ⟨t, rfl⟩ := hv; obtain ⟨u, rfl⟩ := hw; exact gt_int (bool_post (A := A) R)
  · cases hm; unfold VR at hv hw; obtain ⟨t, rfl⟩ := hv; obtain ⟨u, rfl⟩ := hw; exact ge_int (bool_post (A := A) R)
  · cases hm; unfold VR at hv hw; obtain ⟨t, rfl⟩ := hv; obtain ⟨u, rfl⟩ := hw; exact eq_int (bool_post (A := A) R)
  · cases hm; unfold VR at hv hw; obtain ⟨t, rfl⟩ := hv; obtain ⟨u, rfl⟩ := hw; exact ne_int (bool_post (A := A) R)
  · cases hm; unfold VR at hv hw; subst hv hw; exact eq_bool (bool_post (A := A) R)
  · cases hm; unfold VR at hv hw; subst hv hw; exact ne_bool (bool_post (A := A) R)
  · cases hm; unfold VR at hv hw; subst hv hw; exact is_none (bool_post (A := A) R)
  · cases hm; unfold VR at hv hw; obtain ⟨a, rfl, _⟩ := hv; subst hw; exact is_none (bool_post (A := A) R)
  · cases hm; unfold VR at hv hw; obtain ⟨a, its, rfl, _⟩ := hv; subst hw; exact is_none (bool_post (A := A) R)
  · obtain ⟨b, hb, e⟩ := Option.map_eq_some_iff.mp hm
    cases e
    exact (eqV_ref R hA hv hw hb).1 (bool_post (A := A) R)
  · obtain ⟨b, hb, e⟩ := Option.map_eq_some_iff.mp hm
    cases e
    exact (eqV_ref R hA hv hw hb).2 (bool_post (A := A) R)
  · cases hm

/-! calls -/
/-- an operation on a list of values -/
noncomputable def RefOpN (g : G) (d : Nat) (t : List Value → Sem Value) (m : List V → Hp → Option (V × Hp)) : Prop :=
  ∀ (A : Around) (φ : Fi) (H : Hp) (s : Shared) (vs : List V) (xs : List Value) (r : V) (H' : Hp), AOk d A → m vs H = some (r, H') → RelH g φ H s.heap → VRs g s.heap φ vs xs →
    wpAny (model g.prog g.w) A (t xs) (fun z s' => ∃ φ', Step [] φ φ' s s' ∧ RelH g φ' H' s'.heap ∧ VR g s'.heap φ' r z) (fun _ _ => False) s

noncomputable def callN (f : List V → Hp → Option (V × Hp)) (r : PLs) : PE := fun L H => (r L H).bind fun p => f p.1 p.2

theorem RefOpN.use {A : Around} {φ : Fi} {L : Loc} {H H' : Hp} {s : Shared} {t : List Value → Sem Value} {m : List V → Hp → Option (V × Hp)} (o : RefOpN g d t m) {vs : List V} {r : V} {xs : List Value} (hA : AOk d A) (hm : m vs H = some (r, H')) (R : Rel g sl φ L H s.heap) (hv : VRs g s.heap φ vs xs)
    {Q : Value → Shared → Prop} {E : Value → Shared → Prop} (k : ∀ z s' φ', Step sl φ φ' s s' → Rel g sl φ' L H' s'.heap → VR g s'.heap φ' r z → Q z s') : wpAny (model g.prog g.w) A (t xs) Q E s :=
  wpAny_mono (o A φ H s vs xs r H' hA hm R.H hv) (fun z s' ⟨φ', S, RH, q⟩ => k z s' φ' S.weaken (R.of_step0 S RH) q) fun _ _ f => f.elim

theorem evalArgs_L {A : Around} {φ : Fi} {L : Loc} {H H' : Hp} {s : Shared} {f : Value} {args : List Expr} {pos : Pos} {r : PLs} (hr : RefL g d sl (spliced (backTo pos (starEach args env))) r) {vs : List V} (hA : AOk d A) (hm : r L H = some (vs, H')) (R : Rel g sl φ L H s.heap)
    (hne : ∃ e rest, args = e :: rest ∧ starEach (e :: rest) env = (false, eval e env) :: starEach rest env)
    {Q : Args → Shared → Prop} {E : Value → Shared → Prop} (k : ∀ xs s' φ', Step sl φ φ' s s' → Rel g sl φ' L H' s'.heap → VRs g s'.heap φ' vs xs → Q ⟨xs, []⟩ s') :
    wpAny (model g.prog g.w) A (evalArgs f true (backTo pos (starEach args env)) []) Q E s := by
  obtain ⟨e, rest, rfl, he⟩ := hne
  have := hr.use (Q := fun xs s' => Q ⟨xs, []⟩ s') (E := E) hA hm R k
  rw [he] at this ⊢
  exact Calls.evalArgs_plain this

theorem r_bcall {x : Str} {p pos : Pos} {id : String} {args : List Expr} {r : PLs} {f : List V → Hp → Option (V × Hp)} (he : EnvOk env) (hk : env.kindOf x = some .globalImplicit)
    (hx : x ∈ (["len", "range", "min", "abs", "sum", "zip", "enumerate", "int"] : List Str)) (hb : bootBuiltins x = some (.builtin id)) (hf : RefOpN g d (fun xs => call (.builtin id) xs) f)
    (hr : RefL g d sl (spliced (backTo pos (starEach args env))) r) (hne : ∃ e rest, args = e :: rest ∧ starEach (e :: rest) env = (false, eval e env) :: starEach rest env)
    (hplain : (backTo pos (starEach args env)).any (·.1) = false) (hd : (x == ("__debug__" : Str)) = false) :
    RefE g d sl (eval (.Call (.Name x p) args [] pos) env) (callN f r) := by
  refine ⟨fun A φ L H s v H' hA hm R => ?_⟩
  obtain ⟨q, h1, hm⟩ := Option.bind_eq_some_iff.mp hm
  obtain ⟨g1, g2⟩ := g.bnone x hx
  refine wpAny_Call_NameR (Calls.Name_function_global he.kind hk (Calls.loadGlobal_builtin (mg := g.mg) (mb := g.mb) (by rw [he.globals]; exact g.hg.keeps R.H.base) g1 (by rw [he.builtins]; exact g.hB.keeps R.H.base) (g2.trans hb) ?_) hd)
  refine Calls.callWith_builtin hplain (evalArgs_L hr (vs := q.1) (H' := q.2) hA h1 R hne fun xs s₁ φ₁ S₁ R₁ v₁ => ?_)
  exact hf.use hA hm R₁ v₁ fun z s₂ φ₂ S₂ R₂ v₂ => ⟨φ₂, S₁.trans S₂, R₂, v₂⟩

theorem r_tcall {x : Str} {p pos : Pos} {id : String} {args : List Expr} {r : PLs} {f : List V → Hp → Option (V × Hp)} (he : EnvOk env) (hk : env.kindOf x = some .globalImplicit)
    (hx : x ∈ (["len", "range", "min", "abs", "sum", "zip", "enumerate", "int"] : List Str)) (hb : bootBuiltins x = some (.type id)) (hf : RefOpN g d (fun xs => call (.type id) xs) f)
    (hr : RefL g d sl (spliced (backTo pos (starEach args env))) r) (hne : ∃ e rest, args = e :: rest ∧ starEach (e :: rest) env = (false, eval e env) :: starEach rest env)
    (hplain : (backTo pos (starEach args env)).any (·.1) = false) (hd : (x == ("__debug__" : Str)) = false) :
    RefE g d sl (eval (.Call (.Name x p) args [] pos) env) (callN f r) := by
  refine ⟨fun A φ L H s v H' hA hm R => ?_⟩
  obtain ⟨q, h1, hm⟩ := Option.bind_eq_some_iff.mp hm
  obtain ⟨g1, g2⟩ := g.bnone x hx
  refine wpAny_Call_NameR (Calls.Name_function_global he.kind hk (Calls.loadGlobal_builtin (mg := g.mg) (mb := g.mb) (by rw [he.globals]; exact g.hg.keeps R.H.base) g1 (by rw [he.builtins]; exact g.hB.keeps R.H.base) (g2.trans hb) ?_) hd)
  refine PySem.callWith_type hplain (evalArgs_L hr (vs := q.1) (H' := q.2) hA h1 R hne fun xs s₁ φ₁ S₁ R₁ v₁ => ?_)
  exact hf.use hA hm R₁ v₁ fun z s₂ φ₂ S₂ R₂ v₂ => ⟨φ₂, S₁.trans S₂, R₂, v₂⟩

/-- what calls of the text's own defs do -/
noncomputable def CallRef (g : G) (d : Nat) (c : Nat → List V → Hp → Option (V × Hp)) : Prop :=
  ∀ (k : Nat) (f : Value), g.mg (g.gname k) = some f → (∃ a o fd, f = .ref a ∧ g.hb.get? a = some o ∧ o.data = .func fd) ∧ RefOpN g d (fun xs => call f xs) (c k)

noncomputable def ucall (c : Nat → List V → Hp → Option (V × Hp)) (fe : PE) (r : PLs) : PE := fun L H => (fe L H).bind fun p => match p.1 with
  | .fn k => (r L p.2).bind fun q => c k q.1 q.2
  | _ => none

theorem r_ucall {x : Str} {p pos : Pos} {args : List Expr} {fe : PE} {r : PLs} {c : Nat → List V → Hp → Option (V × Hp)} (hc : CallRef g d c) (hf : RefE g d sl (eval (.Name x p) env) fe)
    (hr : RefL g d sl (spliced (backTo pos (starEach args env))) r) (hne : ∃ e rest, args = e :: rest ∧ starEach (e :: rest) env = (false, eval e env) :: starEach rest env) :
    RefE g d sl (eval (.Call (.Name x p) args [] pos) env) (ucall c fe r) := by
  refine ⟨fun A φ L H s v H' hA hm R => ?_⟩
  obtain ⟨p1, h1, hm⟩ := Option.bind_eq_some_iff.mp hm
  split at hm
  · rename_i k hk
    obtain ⟨q, h2, hm⟩ := Option.bind_eq_some_iff.mp hm
    refine wpAny_Call_NameR (hf.use (v := p1.1) (H' := p1.2) hA h1 R fun y s₁ φ₁ S₁ R₁ v₁ => ?_)
    rw [hk] at v₁
    unfold VR at v₁
    obtain ⟨⟨a, o, fd, rfl, ho, hd⟩, hop⟩ := hc k y v₁
    refine Calls.callWith_function (evalArgs_L hr (vs := q.1) (H' := q.2) hA h2 R₁ hne fun xs s₂ φ₂ S₂ R₂ v₂ => ⟨⟨R₂.H.base _ _ ho, hd⟩, ?_⟩)
    exact hop.use hA hm R₂ v₂ fun z s₃ φ₃ S₃ R₃ v₃ => ⟨φ₃, (S₁.trans S₂).trans S₃, R₃, v₃⟩
  · cases hm
end
noncomputable def lenF : List V → Hp → Option (V × Hp)
  | [v], H => (seqOf v H).bind fun xs => if lenOk xs.length then some (.int xs.length, H) else none
  | _, _ => none
noncomputable def minF : List V → Hp → Option (V × Hp)
  | [.int a, .int b], H => some (.int (if b < a then b else a), H)
  | _, _ => none
noncomputable def absF : List V → Hp → Option (V × Hp)
  | [.int a], H => some (.int (if a < 0 then -a else a), H)
  | _, _ => none
noncomputable def intF : List V → Hp → Option (V × Hp)
  | [.int a], H => some (.int a, H)
  | _, _ => none
noncomputable def intsO : List V → Option (List Int)
  | [] => some []
  | .int i :: r => (intsO r).map fun l => i :: l
  | _ => none
noncomputable def sumOk (l : List Int) : Bool := (List.range l.length).all fun j => small (l.getD j 0) && small ((l.take (j + 1)).sum)
noncomputable def sumF : List V → Hp → Option (V × Hp)
  | [v], H => (seqOf v H).bind fun xs => (intsO xs).bind fun l => if sumOk l then some (.int l.sum, H) else none
  | _, _ => none
noncomputable def rangeF : List V → Hp → Option (V × Hp)
  | [.int n], H => some (.rng 0 n 1, H)
  | [.int a, .int b], H => some (.rng a b 1, H)
  | [.int a, .int b, .int c], H => if c = -1 then some (.rng a b c, H) else none
  | _, _ => none

section
variable {g : G} {d : Nat} {sl : List Slot} {env : Env}

theorem VRs.inv1 {h : Heap} {φ : Fi} {v : V} {xs : List Value} (q : VRs g h φ [v] xs) : ∃ x, xs = [x] ∧ VR g h φ v x := by
  unfold VRs at q
  obtain ⟨y, ys, rfl, hy, q⟩ := q
  unfold VRs at q; subst q
  exact ⟨y, rfl, hy⟩
theorem VRs.inv2 {h : Heap} {φ : Fi} {v w : V} {xs : List Value} (q : VRs g h φ [v, w] xs) : ∃ x y, xs = [x, y] ∧ VR g h φ v x ∧ VR g h φ w y := by
  unfold VRs at q
  obtain ⟨y, ys, rfl, hy, q⟩ := q
  obtain ⟨z, rfl, hz⟩ := q.inv1
  exact ⟨y, z, rfl, hy, hz⟩
theorem VRs.inv3 {h : Heap} {φ : Fi} {v w u : V} {xs : List Value} (q : VRs g h φ [v, w, u] xs) : ∃ x y z, xs = [x, y, z] ∧ VR g h φ v x ∧ VR g h φ w y ∧ VR g h φ u z := by
  unfold VRs at q
  obtain ⟨y, ys, rfl, hy, q⟩ := q
  obtain ⟨z, z', rfl, hz, hz'⟩ := q.inv2
  exact ⟨y, z, z', rfl, hy, hz, hz'⟩

theorem ref_len : RefOpN g d (fun xs => call (.builtin "len") xs) lenF := by
  intro A φ H s vs xs r H' hA hm R hv
  unfold lenF at hm
  split at hm
  · obtain ⟨ys, hy, hm⟩ := Option.bind_eq_some_iff.mp hm
    split at hm
    · rename_i hl
      cases hm
      obtain ⟨x, rfl, hx⟩ := hv.inv1
      obtain ⟨a, its, rfl, ⟨n, hL⟩, q⟩ := seqOf_PL R hx hy
      have e1 := q.length
      simp at e1
      unfold lenOk at hl
      simp at hl
      refine Calls.call_len_list (IsL.isList hL) (by omega) ⟨φ, Step.tok _, R, ?_⟩
      rw [VR]; exact ⟨_, by rw [e1]⟩
    · cases hm
  · cases hm
theorem ref_min : RefOpN g d (fun xs => call (.builtin "min") xs) minF := by
  intro A φ H s vs xs r H' hA hm R hv
  unfold minF at hm
  split at hm
  · cases hm
    obtain ⟨x, y, rfl, hx, hy⟩ := hv.inv2
    unfold VR at hx hy
    obtain ⟨t, rfl⟩ := hx
    obtain ⟨u, rfl⟩ := hy
    refine min_two_ints hA.1 fun h' tk k => ⟨φ, Step.ext k, R.ext k, ?_⟩
    rw [VR]
    split <;> exact ⟨_, rfl⟩
  · cases hm
theorem ref_abs : RefOpN g d (fun xs => call (.builtin "abs") xs) absF := by
  intro A φ H s vs xs r H' hA hm R hv
  unfold absF at hm
  split at hm
  · cases hm
    obtain ⟨x, rfl, hx⟩ := hv.inv1
    unfold VR at hx
    obtain ⟨t, rfl⟩ := hx
    exact call_abs_int fun u tk => ⟨φ, Step.tok _, R, by rw [VR]; exact ⟨_, rfl⟩⟩
  · cases hm
theorem ref_intF : RefOpN g d (fun xs => call (.type "int") xs) intF := by
  intro A φ H s vs xs r H' hA hm R hv
  unfold intF at hm
  split at hm
  · cases hm
    obtain ⟨x, rfl, hx⟩ := hv.inv1
    unfold VR at hx
    obtain ⟨t, rfl⟩ := hx
    exact call_int_int ⟨φ, Step.refl .., R, by rw [VR]; exact ⟨_, rfl⟩⟩
  · cases hm

theorem ints_of {h : Heap} {φ : Fi} : ∀ {vs : List V} {l : List Int} {xs : List Value}, intsO vs = some l → VRs g h φ vs xs → ∃ ps : List (Int × Tok), xs = ps.map (fun p => Value.int p.1 p.2) ∧ ps.map (·.1) = l
  | [], _, _, hm, q => by
    unfold intsO at hm; cases hm
    unfold VRs at q; subst q
    exact ⟨[], rfl, rfl⟩
  | v :: vs, _, _, hm, q => by
    unfold intsO at hm
    split at hm
    · rename_i e; cases e
    · rename_i i r e
      cases e
      obtain ⟨l, hl, e⟩ := Option.map_eq_some_iff.mp hm
      subst e
      unfold VRs at q
      obtain ⟨y, ys, rfl, hy, q⟩ := q
      unfold VR at hy
      obtain ⟨t, rfl⟩ := hy
      obtain ⟨ps, rfl, rfl⟩ := ints_of hl q
      exact ⟨(i, t) :: ps, rfl, rfl⟩
    · cases hm

theorem inLong_small {a : Int} (h : small a = true) : InLong a := by
  unfold small at h
  simp only [Bool.and_eq_true, decide_eq_true_eq] at h
  unfold InLong
  omega

theorem ref_sum : RefOpN g d (fun xs => call (.builtin "sum") xs) sumF := by
  intro A φ H s vs xs r H' hA hm R hv
  unfold sumF at hm
  split at hm
  · obtain ⟨ys, hy, hm⟩ := Option.bind_eq_some_iff.mp hm
    obtain ⟨l, hl, hm⟩ := Option.bind_eq_some_iff.mp hm
    split at hm
    · rename_i hok
      cases hm
      obtain ⟨x, rfl, hx⟩ := hv.inv1
      obtain ⟨a, its, rfl, ⟨n, hL⟩, q⟩ := seqOf_PL R hx hy
      obtain ⟨ps, e1, rfl⟩ := ints_of hl q
      have e2 : its = intItems ps.toArray := by
        apply Array.ext'
        rw [e1]; simp [intItems]
      subst e2
      refine sum_intList hA.1 (IsL.isList hL) (fun j hj => ?_) fun h' tk t' k => ⟨φ, Step.ext k, R.ext k, ?_⟩
      · unfold sumOk at hok
        have := List.all_eq_true.mp hok j (List.mem_range.mpr (by simpa using hj))
        rw [Bool.and_eq_true] at this
        rw [numAt_eq, preSum_eq]
        exact ⟨inLong_small (by simpa using this.1), inLong_small (by simpa using this.2)⟩
      · rw [VR]
        exact ⟨t', by rw [preSum_eq, List.take_of_length_le (by simp)]⟩
    · cases hm
  · cases hm

theorem new_range {φ : Fi} {H : Hp} {s : Shared} {a b c : Int} {t u v : Tok} {tk : Nat} (R : RelH g φ H s.heap) :
    ∃ φ', Step [] φ φ' s { s with heap := s.heap.push { cls := .type "range", data := .fields #[.int a t, .int b u, .int c v] }, toks := tk } ∧
    RelH g φ' H (s.heap.push { cls := .type "range", data := .fields #[.int a t, .int b u, .int c v] }) ∧ VR g (s.heap.push { cls := .type "range", data := .fields #[.int a t, .int b u, .int c v] }) φ' (.rng a b c) (.ref s.heap.objs.size) := by
  have k : ∀ b' o, s.heap.get? b' = some o → (s.heap.push { cls := .type "range", data := .fields #[.int a t, .int b u, .int c v] }).get? b' = some o := fun _ _ e => Heap.get?_push_of_some _ e
  refine ⟨φ, Step.ext k, R.ext k, ?_⟩
  unfold VR
  exact ⟨_, t, u, v, rfl, IsRange.new _ _ _ _ _ _ _, R.notBad (get_none_size _)⟩

theorem ref_range : RefOpN g d (fun xs => call (.type "range") xs) rangeF := by
  intro A φ H s vs xs r H' hA hm R hv
  unfold rangeF at hm
  split at hm
  · cases hm
    obtain ⟨x, rfl, hx⟩ := hv.inv1
    unfold VR at hx
    obtain ⟨t, rfl⟩ := hx
    exact call_range_1 (new_range R)
  · cases hm
    obtain ⟨x, y, rfl, hx, hy⟩ := hv.inv2
    unfold VR at hx hy
    obtain ⟨t, rfl⟩ := hx
    obtain ⟨u, rfl⟩ := hy
    exact call_range_2 (new_range R)
  · split at hm
    · rename_i hc
      subst hc
      cases hm
      obtain ⟨x, y, z, rfl, hx, hy, hz⟩ := hv.inv3
      unfold VR at hx hy hz
      obtain ⟨t, rfl⟩ := hx
      obtain ⟨u, rfl⟩ := hy
      obtain ⟨w, rfl⟩ := hz
      exact call_range_3 (by decide) (new_range R) (.inl (PyProof.noPylong_small (by decide)))
    · cases hm
  · cases hm

noncomputable def bitlen (a : PE) : PE := fun L H => (a L H).bind fun p => match p.1 with
  | .int i => some (.int (Builtin.Int.intBits i : Nat), p.2)
  | _ => none

theorem r_bitlen {o : Expr} {apos pos : Pos} {a : PE} (ha : RefE g d sl (eval o env) a) (hbase : attributeBase o "bit_length" env (eval o env) = eval o env) (hline : (apos.endLine == pos.line) = true) :
    RefE g d sl (eval (.Call (.Attribute o "bit_length" apos) [] [] pos) env) (bitlen a) := by
  refine ⟨fun A φ L H s v H' hA hm R => ?_⟩
  obtain ⟨p, h1, hm⟩ := Option.bind_eq_some_iff.mp hm
  split at hm
  · rename_i i hi
    cases hm
    refine wpAny_Call_method hbase rfl hline F.plainAttrs_int F.slot_int_bit_length F.type_int_bit_length (ha.use (v := p.1) (H' := p.2) hA h1 R fun x s₁ φ₁ S₁ R₁ v₁ => ?_)
    rw [hi] at v₁
    unfold VR at v₁
    obtain ⟨t, rfl⟩ := v₁
    refine ⟨typeIs_int _ _ _, (fun _ e => nomatch e), ?_⟩
    exact method0_gives F.slot_int_bit_length F.entry_int_bit_length (typeIs_int _ _ _) (F.args_int_bit_length_1 _) (AutoIntG2.int_bit_length_int_0 i t) ⟨φ₁, S₁.trans (Step.tok _), R₁, by rw [VR]; exact ⟨_, rfl⟩⟩
  · cases hm
end
inductive Fl where
  | next | ret (v : V)
noncomputable abbrev PS := Loc → Hp → Option (Fl × Loc × Hp)

noncomputable def FR (g : G) (h : Heap) (φ : Fi) : Fl → Flow → Prop
  | .next, f => f = .next
  | .ret v, f => ∃ x, f = .ret x ∧ VR g h φ v x

structure RefS (g : G) (d : Nat) (sl : List Slot) (t : Sem Flow) (m : PS) : Prop where
  run : ∀ (A : Around) (φ : Fi) (L : Loc) (H : Hp) (s : Shared) (f : Fl) (L' : Loc) (H' : Hp), AOk d A → m L H = some (f, L', H') → Rel g sl φ L H s.heap →
    wpAny (model g.prog g.w) A t (fun x s' => ∃ φ', Step sl φ φ' s s' ∧ Rel g sl φ' L' H' s'.heap ∧ FR g s'.heap φ' f x) (fun _ _ => False) s

section
variable {g : G} {d : Nat} {sl : List Slot} {A : Around} {φ φ' : Fi} {L L' : Loc} {H H' : Hp} {s : Shared} {env : Env}

theorem RefS.use {t : Sem Flow} {m : PS} (r : RefS g d sl t m) {f : Fl} (hA : AOk d A) (hm : m L H = some (f, L', H')) (R : Rel g sl φ L H s.heap)
    {Q : Flow → Shared → Prop} {E : Value → Shared → Prop} (k : ∀ x s' φ', Step sl φ φ' s s' → Rel g sl φ' L' H' s'.heap → FR g s'.heap φ' f x → Q x s') : wpAny (model g.prog g.w) A t Q E s :=
  wpAny_mono (r.run A φ L H s f L' H' hA hm R) (fun x s' ⟨φ', S, R', q⟩ => k x s' φ' S R' q) fun _ _ f => f.elim

theorem get_set {L : Loc} {k j : Nat} {v : Option V} (hk : k < L.length) : get (L.set k v) j = if j = k then v else get L j := by
  unfold get
  by_cases h : j = k
  · subst h; simp [hk]
  · rw [List.getElem?_set_ne (Ne.symm h), if_neg h]

theorem ns_unique {h : Heap} {a : Addr} {m m' : Str → Option Value} (x : h.Ns a m) (y : h.Ns a m') : m = m' := by
  rw [x.eq_nsMap, y.eq_nsMap]

theorem RelH.leave {h h' : Heap} {B : Addr → Prop} (wr : List Addr) (R : RelH g φ H h) (hout : ∀ a ∈ wr, a ∉ φ.l ∧ g.hb.get? a = none ∧ ¬ φ.fro a ∧ (∀ o, h.get? a = some o → Fixed o → φ.bad a)) (k : ∀ b o, b ∉ wr → h.get? b = some o → h'.get? b = some o)
    (hB : ∀ b, B b → φ.bad b) (hd : ∀ b, B b → (h'.get? b).isSome = true) : RelH g ⟨φ.l, B, φ.fro⟩ H h' ∧ KeepT φ h h' := by
  have K : KeepT φ h h' := fun b o e f => k b o (fun z => f.elim (fun f => f.2 ((hout b z).2.2.2 o e f.1)) (hout b z).2.2.1) e
  refine ⟨⟨fun b o e => k b o (fun z => ?_) (R.base b o e), R.len, R.nodup, R.new, hd, fun b hf => ?_, fun i b vs hi hv => ?_⟩, K⟩
  · rw [(hout b z).2.1] at e; cases e
  · obtain ⟨h1, its, n, hl⟩ := R.froIs b hf
    exact ⟨h1, its, n, k _ _ (fun z => (hout b z).2.2.1 hf) hl⟩
  · obtain ⟨its, ⟨n, hl⟩, q⟩ := R.lists i b vs hi hv
    exact ⟨its, ⟨n, k _ _ (fun z => (hout b z).1 (List.mem_of_getElem? hi)) hl⟩, VRs.mono (φ' := ⟨φ.l, B, φ.fro⟩) K ⟨List.prefix_refl _, hB, fun _ h => h⟩ q⟩

/-- objects that are neither lists nor frames' parts nor of the base are turned -/
theorem RelH.but {h h' : Heap} (wr : List Addr) (R : RelH g φ H h) (hout : ∀ a ∈ wr, a ∉ φ.l ∧ g.hb.get? a = none ∧ ¬ φ.fro a ∧ (∀ o, h.get? a = some o → Fixed o → φ.bad a)) (k : ∀ b o, b ∉ wr → h.get? b = some o → h'.get? b = some o)
    (hd : ∀ a ∈ wr, (h.get? a).isSome = true → (h'.get? a).isSome = true) : RelH g φ H h' ∧ KeepT φ h h' := by
  obtain ⟨x, y⟩ := R.leave (B := φ.bad) wr hout k (fun _ h => h) fun b hb => by
    by_cases z : b ∈ wr
    · exact hd b z (R.badIn b hb)
    · obtain ⟨o, ho⟩ := Option.isSome_iff_exists.mp (R.badIn b hb)
      rw [k b o z ho]; rfl
  exact ⟨x, y⟩

theorem slot_apart (R : Rel g sl φ L H s.heap) {j k : Nat} {x y : Slot} (hj : sl[j]? = some x) (hk : sl[k]? = some y) (hne : j ≠ k) (he : x.addr = y.addr) : x.cell = false ∧ y.cell = false ∧ x.name ≠ y.name := by
  obtain ⟨h1, e1⟩ := List.getElem?_eq_some_iff.mp hj
  obtain ⟨h2, e2⟩ := List.getElem?_eq_some_iff.mp hk
  have p := List.pairwise_iff_getElem.mp R.apart
  rcases Nat.lt_or_ge j k with q | q
  · have := p j k h1 h2 q
    rw [e1, e2] at this
    exact this he
  · have := p k j h2 h1 (by omega)
    rw [e1, e2] at this
    obtain ⟨a, b, c⟩ := this he.symm
    exact ⟨b, a, c.symm⟩

theorem store_dict {k : Nat} {x : Str} {a : Addr} {v : V} {y : Value} {m : Str → Option Value} {h' : Heap} (R : Rel g sl φ L H s.heap) (hs : sl[k]? = some ⟨x, false, a⟩) (hv : VR g s.heap φ v y)
    (hn : s.heap.Ns a m) (hn' : h'.Ns a (fun z => if z = x then some y else m z)) (hb : Heap.SameBut a s.heap h') : Rel g sl φ (L.set k (some v)) H h' ∧ KeepT φ s.heap h' := by
  have hmem := List.mem_of_getElem? hs
  have hout := R.slotOut hmem
  have hnew := (R.slots k _ hs).1
  have hk : k < L.length := by rw [R.llen]; exact (List.getElem?_eq_some_iff.mp hs).1
  obtain ⟨RH, K⟩ := R.H.but (h' := h') [a] (fun b hb' => by
    rw [List.mem_singleton.mp hb']
    refine ⟨hout, hnew, ?_, fun o e f => ?_⟩
    · obtain ⟨ob, es, ep, ho, hd, _⟩ := hn
      exact R.H.notFro ho (.inr fun xs n e => by rw [hd] at e; cases e)
    obtain ⟨ob, es, ep, ho, hd, _⟩ := hn
    have ho' : s.heap.get? a = some ob := ho
    rw [ho'] at e; cases e
    exact (f.notDict _ _ hd).elim) (fun b o hne e => (hb.2 b fun z => hne (by rw [z]; exact List.mem_singleton.mpr rfl)).trans e) (fun b hb' _ => by
    rw [List.mem_singleton.mp hb']
    obtain ⟨ob, es, ep, ho, _⟩ := hn'
    rw [ho]; rfl)
  refine ⟨⟨RH, by rw [List.length_set]; exact R.llen, fun j sk hj => ⟨(R.slots j sk hj).1, ?_⟩, R.apart⟩, K⟩
  rw [get_set hk]
  by_cases hjk : j = k
  · subst hjk
    rw [hs] at hj; cases hj
    rw [if_pos rfl]
    unfold SlotOk
    exact ⟨_, hn', fun w hw => by cases hw; exact ⟨y, by simp, hv.mono K (Le.refl _)⟩⟩
  · rw [if_neg hjk]
    have q := (R.slots j sk hj).2
    by_cases hadr : sk.addr = a
    · obtain ⟨c1, _, c3⟩ := slot_apart R hj hs hjk hadr
      unfold SlotOk at q ⊢
      rw [c1] at q ⊢
      obtain ⟨m', hm', hq⟩ := q
      rw [hadr] at hm' ⊢
      obtain rfl := ns_unique hm' hn
      refine ⟨_, hn', fun w hw => ?_⟩
      obtain ⟨z, hz, hr⟩ := hq w hw
      have : sk.name ≠ x := c3
      exact ⟨z, by simp [this, hz], hr.mono K (Le.refl _)⟩
    · exact q.mono K (Le.refl _) fun o ho => (hb.2 _ hadr).trans ho

theorem store_cell {k : Nat} {x : Str} {c : Addr} {v : V} {y : Value} {o₀ : Option Value} {h' : Heap} (R : Rel g sl φ L H s.heap) (hs : sl[k]? = some ⟨x, true, c⟩) (hv : VR g s.heap φ v y)
    (hn : s.heap.IsCell c o₀) (hn' : h'.IsCell c (some y)) (hb : Heap.SameBut c s.heap h') : Rel g sl φ (L.set k (some v)) H h' ∧ KeepT φ s.heap h' := by
  have hmem := List.mem_of_getElem? hs
  have hout := R.slotOut hmem
  have hnew := (R.slots k _ hs).1
  have hk : k < L.length := by rw [R.llen]; exact (List.getElem?_eq_some_iff.mp hs).1
  obtain ⟨RH, K⟩ := R.H.but (h' := h') [c] (fun b hb' => by
    rw [List.mem_singleton.mp hb']
    refine ⟨hout, hnew, ?_, fun o e f => ?_⟩
    · obtain ⟨ob, ho, hd⟩ := hn
      exact R.H.notFro ho (.inr fun xs n e => by rw [hd] at e; cases e)
    obtain ⟨ob, ho, hd⟩ := hn
    rw [ho] at e; cases e
    exact (f.notCell _ hd).elim) (fun b o hne e => (hb.2 b fun z => hne (by rw [z]; exact List.mem_singleton.mpr rfl)).trans e) (fun b hb' _ => by
    rw [List.mem_singleton.mp hb']
    obtain ⟨ob, ho, _⟩ := hn'
    rw [ho]; rfl)
  refine ⟨⟨RH, by rw [List.length_set]; exact R.llen, fun j sk hj => ⟨(R.slots j sk hj).1, ?_⟩, R.apart⟩, K⟩
  rw [get_set hk]
  by_cases hjk : j = k
  · subst hjk
    rw [hs] at hj; cases hj
    rw [if_pos rfl]
    unfold SlotOk
    exact ⟨_, hn', fun w hw => by cases hw; exact ⟨y, rfl, hv.mono K (Le.refl _)⟩⟩
  · rw [if_neg hjk]
    have q := (R.slots j sk hj).2
    by_cases hadr : sk.addr = c
    · obtain ⟨_, c2, _⟩ := slot_apart R hj hs hjk hadr
      cases c2
    · exact q.mono K (Le.refl _) fun o ho => (hb.2 _ hadr).trans ho

/-- where a name lives -/
inductive At (env : Env) (sl : List Slot) (x : Str) (k : Nat) : Prop
  | loc : env.kindOf x = some .local → sl[k]? = some ⟨x, false, env.locals⟩ → At env sl x k
  | cell (y : Str) (c : Addr) : env.kindOf x = some .cell → env.cells.lookup x = some c → sl[k]? = some ⟨y, true, c⟩ → At env sl x k

theorem r_name {x : Str} {pos : Pos} {k : Nat} (he : EnvOk env) (ha : At env sl x k) (hd : (x == ("__debug__" : Str)) = false) : RefE g d sl (eval (.Name x pos) env) (var k) := by
  cases ha with
  | loc h1 h2 => exact r_loc he h1 h2 hd
  | cell y c h1 h2 h3 => exact r_cell he h1 h2 h3 hd

theorem step_slot {h' : Heap} {tk : Nat} {sk : Slot} (hm : sk ∈ sl) (hb : Heap.SameBut sk.addr s.heap h') (hd : (h'.get? sk.addr).isSome = true) : Step sl φ φ s { s with heap := h', toks := tk } where
  same := ⟨_, _, rfl⟩
  pre := Le.refl _
  bad := rfl
  dom := fun b h => by
    by_cases e : b = sk.addr
    · subst e; exact hd
    · show (h'.get? b).isSome = true
      rw [hb.2 b e]; exact h
  fresh := fun _ h => .inl h
  kept := fun b o e _ hs => (hb.2 b fun z => hs sk hm z.symm).trans e
  ffresh := fun _ h => .inl h

theorem store_use {x : Str} {k : Nat} {v : V} {y : Value} {Q : Unit → Shared → Prop} {E : Value → Shared → Prop} (he : EnvOk env) (ha : At env sl x k) (R : Rel g sl φ L H s.heap) (hv : VR g s.heap φ v y)
    (K : ∀ s', Step sl φ φ s s' → Rel g sl φ (L.set k (some v)) H s'.heap → KeepT φ s.heap s'.heap → Q () s') : wpAny (model g.prog g.w) A (storeName env x y) Q E s := by
  cases ha with
  | loc h1 h2 =>
    have q := (R.slots k _ h2).2
    unfold SlotOk at q
    obtain ⟨m, hn, _⟩ := q
    refine wpAny_storeName_local h1 hn (fun h' hn' hb => ?_) (by rw [he.kind]; rfl)
    obtain ⟨R', KT⟩ := store_dict R h2 hv hn hn' hb
    refine K _ (step_slot (List.mem_of_getElem? h2) hb ?_) R' KT
    obtain ⟨o, _, _, ho, _⟩ := hn'
    show (h'.get? env.locals).isSome = true
    rw [ho]; rfl
  | cell z c h1 h2 h3 =>
    have q := (R.slots k _ h3).2
    unfold SlotOk at q
    obtain ⟨o, hn, _⟩ := q
    refine wpAny_storeName_cell he.kind h1 h2 hn fun h' hn' hb => ?_
    obtain ⟨R', KT⟩ := store_cell R h3 hv hn hn' hb
    refine K _ (step_slot (tk := s.toks) (List.mem_of_getElem? h3) hb ?_) R' KT
    obtain ⟨o, ho, _⟩ := hn'
    show (h'.get? c).isSome = true
    rw [ho]; rfl
end

/-! code of statements -/
noncomputable def nilS : PS := fun L H => some (.next, L, H)
noncomputable def seqS (a b : PS) : PS := fun L H => (a L H).bind fun r => match r.1 with
  | .next => b r.2.1 r.2.2
  | .ret v => some (.ret v, r.2)
noncomputable def asg (k : Nat) (a : PE) : PS := fun L H => (a L H).map fun r => (.next, L.set k (some r.1), r.2)
noncomputable def retS (a : PE) : PS := fun L H => (a L H).map fun r => (.ret r.1, L, r.2)
noncomputable def ifS (t : PB) (a b : PS) : PS := fun L H => (t L H).bind fun r => if r.1 then a L r.2 else b L r.2
noncomputable def exprS (a : PE) : PS := fun L H => (a L H).bind fun r => match r.1 with
  | .none => some (.next, L, r.2)
  | _ => none
noncomputable def iop : Operator → V → V → Hp → Option (V × Hp)
  | op, .int a, .int b, H => if op = .Add ∨ op = .Sub ∨ op = .RShift ∨ op = .Mod ∨ op = .BitOr then (opI op a b).map fun c => (.int c, H) else none
  | _, _, _, _ => none
noncomputable def augS (k : Nat) (op : Operator) (a : PE) : PS := fun L H => (get L k).bind fun v => (a L H).bind fun r => (iop op v r.1 r.2).map fun q => (.next, L.set k (some q.1), q.2)
noncomputable def setS (o i a : PE) : PS := fun L H => (a L H).bind fun r => (o L r.2).bind fun p => (i L p.2).bind fun q => match p.1, q.1 with
  | .lst k, .int j => (q.2[k]?).bind fun xs => if 0 ≤ j ∧ j < xs.length ∧ lenOk xs.length = true then some (.next, L, q.2.set k (xs.set j.toNat r.1)) else none
  | _, _ => none
noncomputable def unpV : V → Hp → Nat → Option (List V)
  | .tup vs, _, n => if vs.length = n then some vs else none
  | v, H, n => (seqOf v H).bind fun vs => if vs.length = n then some vs else none
noncomputable def setMany : List Nat → List V → Loc → Loc
  | k :: ks, v :: vs, L => setMany ks vs (L.set k (some v))
  | _, _, L => L
noncomputable def unpS (ks : List Nat) (a : PE) : PS := fun L H => (a L H).bind fun r => (unpV r.1 r.2 ks.length).map fun vs => (.next, setMany ks vs L, r.2)
noncomputable def swpS (ks : List Nat) (a : PE) : PS := fun L H => (a L H).bind fun r => (unpV r.1 r.2 ks.length).map fun vs => (.next, setMany ks.reverse vs.reverse L, r.2)

section
variable {g : G} {d : Nat} {sl : List Slot} {A : Around} {φ φ' : Fi} {L L' : Loc} {H H' : Hp} {s : Shared} {env : Env}

theorem s_nil : RefS g d sl (execs [] env) nilS := by
  refine ⟨fun A φ L H s f L' H' hA hm R => ?_⟩
  cases hm
  exact wpAny_execs_nil ⟨φ, Step.refl .., R, rfl⟩
theorem s_cons {st : Stmt} {rest : List Stmt} {a b : PS} (h1 : RefS g d sl (exec st env) a) (h2 : RefS g d sl (execs rest env) b) : RefS g d sl (execs (st :: rest) env) (seqS a b) := by
  refine ⟨fun A φ L H s f L' H' hA hm R => ?_⟩
  obtain ⟨r, hr, hm⟩ := Option.bind_eq_some_iff.mp hm
  refine wpAny_execs_cons (h1.use (f := r.1) (L' := r.2.1) (H' := r.2.2) hA hr R fun x s₁ φ₁ S₁ R₁ q₁ => ?_)
  split at hm
  · rename_i e
    rw [e] at q₁
    have q₁ : x = .next := q₁
    subst q₁
    exact h2.use hA hm R₁ fun y s₂ φ₂ S₂ R₂ q₂ => ⟨φ₂, S₁.trans S₂, R₂, q₂⟩
  · rename_i v e
    obtain ⟨r1, L1, H1⟩ := r
    simp only at e hm q₁ R₁
    subst e
    cases hm
    obtain ⟨y, rfl, qy⟩ := q₁
    exact ⟨φ₁, S₁, R₁, y, rfl, qy⟩

theorem s_asg {x : Str} {k : Nat} {ppos pos : Pos} {value : Expr} {a : PE} (he : EnvOk env) (ha : At env sl x k) (h : RefE g d sl (eval value env) a) (hs : swapsWith value (some (.Name x ppos)) pos.line env = pure false) :
    RefS g d sl (exec (.Assign [.Name x ppos] value pos) env) (asg k a) := by
  refine ⟨fun A φ L H s f L' H' hA hm R => ?_⟩
  obtain ⟨r, hr, e⟩ := Option.map_eq_some_iff.mp hm
  cases e
  refine wpAny_Assign_Name (h.use (v := r.1) (H' := r.2) hA hr R fun y s₁ φ₁ S₁ R₁ v₁ => store_use he ha R₁ v₁ fun s₂ S₂ R₂ _ => ?_) hs
  exact ⟨φ₁, S₁.trans S₂, R₂, rfl⟩

theorem s_ret {e : Expr} {pos : Pos} {a : PE} (h : RefE g d sl (eval e env) a) : RefS g d sl (exec (.Return (some e) pos) env) (retS a) := by
  refine ⟨fun A φ L H s f L' H' hA hm R => ?_⟩
  obtain ⟨r, hr, e⟩ := Option.map_eq_some_iff.mp hm
  cases e
  exact wpAny_Return_some (h.use (v := r.1) (H' := r.2) hA hr R fun y s₁ φ₁ S₁ R₁ v₁ => ⟨φ₁, S₁, R₁, y, rfl, v₁⟩)

theorem s_if {test : Expr} {body orelse : List Stmt} {pos : Pos} {t : PB} {a b : PS} (h0 : RefB g d sl (isTrue test env (eval test env)) t) (h1 : RefS g d sl (execs body env) a) (h2 : RefS g d sl (execs orelse env) b) :
    RefS g d sl (exec (.If test body orelse pos) env) (ifS t a b) := by
  refine ⟨fun A φ L H s f L' H' hA hm R => ?_⟩
  obtain ⟨z, hz, hm⟩ := Option.bind_eq_some_iff.mp hm
  refine wpAny_If (h0.use (v := z.1) (H' := z.2) hA hz R fun b s₁ φ₁ S₁ R₁ v₁ => ?_)
  have v₁ : z.1 = b := v₁
  subst v₁
  split
  · rename_i e
    rw [e] at hm
    exact h1.use hA hm R₁ fun y s₂ φ₂ S₂ R₂ q₂ => ⟨φ₂, S₁.trans S₂, R₂, q₂⟩
  · rename_i e
    have e : z.1 = false := by simpa using e
    rw [e] at hm
    exact h2.use hA hm R₁ fun y s₂ φ₂ S₂ R₂ q₂ => ⟨φ₂, S₁.trans S₂, R₂, q₂⟩

theorem s_expr {e : Expr} {pos : Pos} {a : PE} (h : RefE g d sl (eval e env) a) (hi : interactive env = false) (hs : swapsWith e none pos.line env = pure false) : RefS g d sl (exec (.Expr e pos) env) (exprS a) := by
  refine ⟨fun A φ L H s f L' H' hA hm R => ?_⟩
  obtain ⟨r, hr, hm⟩ := Option.bind_eq_some_iff.mp hm
  split at hm
  · rename_i e
    cases hm
    refine wpAny_Expr (h.use (v := r.1) (H' := r.2) hA hr R fun y s₁ φ₁ S₁ R₁ v₁ => ?_) hi hs
    rw [e] at v₁
    unfold VR at v₁
    subst v₁
    exact ⟨φ₁, S₁, R₁, rfl⟩
  · cases hm

theorem iop_ref (op : Operator) : RefOp2 g d (inplaceOp op) (iop op) := by
  intro A φ H s v w x y r H' hA hm R hv hw
  unfold iop at hm
  split at hm
  · split at hm
    · rename_i a b hop
      obtain ⟨c, hc, e⟩ := Option.map_eq_some_iff.mp hm
      cases e
      unfold VR at hv hw
      obtain ⟨t, rfl⟩ := hv
      obtain ⟨u, rfl⟩ := hw
      have fin : ∀ tk n, ∃ φ', Step [] φ φ' s { s with toks := n } ∧ RelH g φ' H s.heap ∧ VR g s.heap φ' (.int c) (.int c tk) := fun tk n => ⟨φ, Step.tok n, R, by rw [VR]; exact ⟨_, rfl⟩⟩
      rcases hop with rfl | rfl | rfl | rfl | rfl <;> simp only [opI] at hc
      · cases hc; exact iadd_int (fin _ _)
      · cases hc; exact isub_int (fin _ _)
      · split at hc
        · cases hc; exact irshift_int (by assumption) (fin _ _)
        · cases hc
      · split at hc
        · cases hc; exact imod_int (by assumption) (fin _ _)
        · cases hc
      · cases hc; exact ior_int (fin _ _)
    · cases hm
  · cases hm

theorem s_aug {x : Str} {k : Nat} {npos pos : Pos} {op : Operator} {value : Expr} {a : PE} (he : EnvOk env) (ha : At env sl x k) (h : RefE g d sl (eval value env) a) (hd : (x == ("__debug__" : Str)) = false) :
    RefS g d sl (exec (.AugAssign (.Name x npos) op value pos) env) (augS k op a) := by
  refine ⟨fun A φ L H s f L' H' hA hm R => ?_⟩
  obtain ⟨v, hv, hm⟩ := Option.bind_eq_some_iff.mp hm
  obtain ⟨r, hr, hm⟩ := Option.bind_eq_some_iff.mp hm
  obtain ⟨q, hq, e⟩ := Option.map_eq_some_iff.mp hm
  cases e
  have main : ∀ y, VR g s.heap φ v y → wpAny (model g.prog g.w) A (eval value env) (fun z s₂ => wpAny (model g.prog g.w) A (inplaceOp op y z)
      (fun r s₃ => wpAny (model g.prog g.w) A (storeName env x r) (fun _ s' => ∃ φ', Step sl φ φ' s s' ∧ Rel g sl φ' (L.set k (some q.1)) q.2 s'.heap ∧ FR g s'.heap φ' .next .next) (fun _ _ => False) s₃) (fun _ _ => False) s₂) (fun _ _ => False) s := by
    intro y hy
    refine h.use (v := r.1) (H' := r.2) hA hr R fun z s₁ φ₁ S₁ R₁ v₁ => ?_
    refine (iop_ref op).use (r := q.1) (H' := q.2) hA hq R₁ (hy.mono (R.keepT S₁) S₁.pre) v₁ fun z' s₂ φ₂ S₂ R₂ v₂ => ?_
    exact store_use he ha R₂ v₂ fun s₃ S₃ R₃ _ => ⟨φ₂, (S₁.trans S₂).trans S₃, R₃, rfl⟩
  refine wpAny_AugAssign_Name ?_
  cases ha with
  | loc h1 h2 =>
    have q := (R.slots k _ h2).2
    unfold SlotOk at q
    obtain ⟨m, hn, hq'⟩ := q
    obtain ⟨y, hy, qy⟩ := hq' _ hv
    exact wpAny_loadName_local he.kind h1 hn hy (main y qy)
  | cell z c h1 h2 h3 =>
    have q := (R.slots k _ h3).2
    unfold SlotOk at q
    obtain ⟨o, hn, hq'⟩ := q
    obtain ⟨y, rfl, qy⟩ := hq' _ hv
    exact wpAny_loadName_cell he.kind h1 h2 hn (main y qy)

/-- a list of the abstract heap is turned in place -/
theorem set_list {k : Nat} {a : Addr} {its its' : Array Value} {n : Nat} {vs : List V} {f : Array Value → Array Value} {tk : Nat} (R : Rel g sl φ L H s.heap) (hk : φ.l[k]? = some a) (hl : IsL s.heap a its n) (hf : f its = its') (hv : VRs g s.heap φ vs its'.toList) :
    Step [] φ φ s { s with heap := s.heap.update a (Obj.mapSeq f), toks := tk } ∧ Rel g sl φ L (H.set k vs) (s.heap.update a (Obj.mapSeq f)) := by
  have hl' := IsL.update hl f
  have S : Step [] φ φ s { s with heap := s.heap.update a (Obj.mapSeq f), toks := tk } := Step.set (List.mem_of_getElem? hk) (Heap.SameBut.update ..) (by have h' : (s.heap.update a (Obj.mapSeq f)).get? a = some _ := hl'; rw [h']; rfl)
  subst hf
  exact ⟨S, R.of_step0 S (R.H.set hk (Heap.SameBut.update ..) ⟨_, hl'⟩ hv)⟩
end
/-- an item of a plain list is stored, its other parts told to stay -/
theorem setItem_L {prog : Program} {w : World} {A : Around} {E : Value → Shared → Prop} {s : Shared} {l : Addr} {its : Array Value} {n : Nat} {k : Int} {t : Tok} {v : Value} {Q : Unit → Shared → Prop}
    (hl : IsL s.heap l its n) (h0 : 0 ≤ k) (hfit : k < 2 ^ 63) (hn : k < its.size)
    (h : Q () { s with heap := s.heap.update l (Obj.mapSeq (·.setIfInBounds k.toNat v)) }) : wpAny (model prog w) A (setItem (.ref l) (.int k t) v) Q E s := by
  have hT : s.TypeIs (.ref l) "list" := (IsL.isList hl).typeIs
  unfold setItem
  try with_reducible refine wpAny_holding ?_
  first | refine wpAny_bind (wpAny_pure ?_) | skip
  refine wpAny_bind (wpAny_sequenceKey hT (by decide) ?_)
  refine wpAny_bind (wpAny_callSpecial?_slot (name := Str.ofString "__setitem__") hT slot_list_setitem
    (wpAny_call_entry slot_list_setitem hT entry_list_setitem ?_ (args_list_setitem _ _ _)))
  show wpAny _ _ (Builtin.List.listSubscript? (.int k t) >>= _) _ _ s
  refine wpAny_bind (wpAny_listSubscript_int (fitsIndex_of h0 hfit) ?_)
  clear hfit
  obtain ⟨j, rfl⟩ := Int.eq_ofNat_of_zero_le h0
  have hj : j < its.size := by omega
  show wpAny _ _ ((seqItemAt l j >>= fun r => pure (r.map (j, ·))) >>= _) _ _ s
  refine wpAny_bind (wpAny_bind (wpAny_seqItemAt hl rfl (wpAny_pure ?_)))
  rw [Array.getElem?_eq_getElem hj]
  show wpAny _ _ (setSeqItemAt l j v >>= _) _ _ s
  refine wpAny_bind (wpAny_setSeqItemAt hl rfl ?_)
  first
    | exact wpAny_bind (wpAny_pure (wpAny_pure ⟨.none, rfl, wpAny_pure h⟩))
    | exact wpAny_pure ⟨.none, rfl, wpAny_pure h⟩

section
variable {g : G} {d : Nat} {sl : List Slot} {A : Around} {φ φ' : Fi} {L L' : Loc} {H H' : Hp} {s : Shared} {env : Env}

theorem s_set {o i value : Expr} {spos pos : Pos} {a b c : PE} (ha : RefE g d sl (eval o env) a) (hb : RefE g d sl (eval i env) b) (hc : RefE g d sl (eval value env) c)
    (hs : swapsWith value (some (.Subscript o i spos)) pos.line env = pure false) : RefS g d sl (exec (.Assign [.Subscript o i spos] value pos) env) (setS a b c) := by
  refine ⟨fun A φ L H s f L' H' hA hm R => ?_⟩
  obtain ⟨r, hr, hm⟩ := Option.bind_eq_some_iff.mp hm
  obtain ⟨p, hp, hm⟩ := Option.bind_eq_some_iff.mp hm
  obtain ⟨q, hq, hm⟩ := Option.bind_eq_some_iff.mp hm
  split at hm
  · rename_i k j e1 e2
    obtain ⟨xs, hx, hm⟩ := Option.bind_eq_some_iff.mp hm
    split at hm
    · rename_i hj
      cases hm
      refine wpAny_Assign_Subscript (hc.use (v := r.1) (H' := r.2) hA hr R fun x s₁ φ₁ S₁ R₁ v₁ => ha.use (v := p.1) (H' := p.2) hA hp R₁ fun y s₂ φ₂ S₂ R₂ v₂ => hb.use (v := q.1) (H' := q.2) hA hq R₂ fun z s₃ φ₃ S₃ R₃ v₃ => ?_) hs
      have v₁' := v₁.mono (R₁.keepT (S₂.trans S₃)) (S₂.trans S₃).pre
      have v₂' := v₂.mono (R₂.keepT S₃) S₃.pre
      rw [e1] at v₂'
      rw [e2] at v₃
      unfold VR at v₂' v₃
      obtain ⟨ad, rfl, had⟩ := v₂'
      obtain ⟨t, rfl⟩ := v₃
      obtain ⟨its, ⟨n, hl⟩, qs⟩ := R₃.H.lists _ _ _ had hx
      have e3 := qs.length
      simp at e3
      obtain ⟨m, rfl⟩ := Int.eq_ofNat_of_zero_le hj.1
      have hok := hj.2.2
      unfold lenOk at hok
      simp at hok
      have hlt : m < its.size := by rw [← e3]; have := hj.2.1; omega
      obtain ⟨S₄, R₄⟩ := set_list (f := (·.setIfInBounds m x)) (its' := its.setIfInBounds m x) (vs := xs.set m r.1) (tk := s₃.toks) R₃ had hl rfl (by
        rw [Array.toList_setIfInBounds]; exact qs.set v₁')
      exact setItem_L hl (by omega) (by omega) (by omega) ⟨φ₃, ((S₁.trans S₂).trans S₃).trans S₄.weaken, R₄, rfl⟩
    · cases hm
  · cases hm

noncomputable def appE (o a : PE) : PE := fun L H => (o L H).bind fun p => (a L p.2).bind fun r => match p.1 with
  | .lst k => (r.2[k]?).bind fun xs => if lenOk xs.length then some (.none, r.2.set k (xs ++ [r.1])) else none
  | _ => none
noncomputable def extE (o a : PE) : PE := fun L H => (o L H).bind fun p => (a L p.2).bind fun r => match p.1, r.1 with
  | .lst k, .lst j => (r.2[k]?).bind fun xs => (r.2[j]?).bind fun ys => if lenOk (xs.length + ys.length) then some (.none, r.2.set k (xs ++ ys)) else none
  | _, _ => none

theorem r_app {o e : Expr} {apos pos : Pos} {a b : PE} (ha : RefE g d sl (eval o env) a) (hb : RefE g d sl (eval e env) b) (hbase : attributeBase o "append" env (eval o env) = eval o env) (hline : (apos.endLine == pos.line) = true)
    (htrees : backTo pos (starEach [e] env) = [(false, eval e env)]) : RefE g d sl (eval (.Call (.Attribute o "append" apos) [e] [] pos) env) (appE a b) := by
  refine ⟨fun A φ L H s v H' hA hm R => ?_⟩
  obtain ⟨p, h1, hm⟩ := Option.bind_eq_some_iff.mp hm
  obtain ⟨r, h2, hm⟩ := Option.bind_eq_some_iff.mp hm
  split at hm
  · rename_i k e1
    obtain ⟨xs, hx, hm⟩ := Option.bind_eq_some_iff.mp hm
    split at hm
    · rename_i hok
      cases hm
      refine wpAny_Call_method hbase (by rw [htrees]; rfl) hline F.plainAttrs_list F.slot_list_append F.type_list_append (ha.use (v := p.1) (H' := p.2) hA h1 R fun x s₁ φ₁ S₁ R₁ v₁ => ?_)
      rw [e1] at v₁
      have v₁0 := v₁
      unfold VR at v₁
      obtain ⟨ad, rfl, had⟩ := v₁
      obtain ⟨its0, n0, hl0⟩ := R₁.H.isList (List.mem_of_getElem? had)
      refine ⟨⟨_, hl0, rfl⟩, (fun a' e => by cases e; exact ⟨_, hl0, rfl⟩), ?_⟩
      rw [htrees]
      refine P.append_list (hb.use (v := r.1) (H' := r.2) hA h2 R₁ fun y s₂ φ₂ S₂ R₂ v₂ => ?_)
      have had' := prefix_get S₂.pre.1 had
      obtain ⟨its, ⟨n, hl⟩, q⟩ := R₂.H.lists _ _ _ had' hx
      have e3 := q.length
      simp at e3
      obtain ⟨S₃, R₃⟩ := set_list (f := fun xs => xs.push y) (its' := its.push y) (vs := xs ++ [r.1]) (tk := s₂.toks) R₂ had' hl rfl (by rw [Array.toList_push]; exact q.append (VRs.one v₂))
      exact ⟨its, n, by rw [← e3]; exact lenOk_line hok, hl, φ₂, (S₁.trans S₂).trans S₃.weaken, R₃, by rw [VR]⟩
    · cases hm
  · cases hm

theorem r_ext {o e : Expr} {apos pos : Pos} {a b : PE} (ha : RefE g d sl (eval o env) a) (hb : RefE g d sl (eval e env) b) (hbase : attributeBase o "extend" env (eval o env) = eval o env) (hline : (apos.endLine == pos.line) = true)
    (htrees : backTo pos (starEach [e] env) = [(false, eval e env)]) : RefE g d sl (eval (.Call (.Attribute o "extend" apos) [e] [] pos) env) (extE a b) := by
  refine ⟨fun A φ L H s v H' hA hm R => ?_⟩
  obtain ⟨p, h1, hm⟩ := Option.bind_eq_some_iff.mp hm
  obtain ⟨r, h2, hm⟩ := Option.bind_eq_some_iff.mp hm
  split at hm
  · rename_i k j e1 e2
    obtain ⟨xs, hx, hm⟩ := Option.bind_eq_some_iff.mp hm
    obtain ⟨ys, hy, hm⟩ := Option.bind_eq_some_iff.mp hm
    split at hm
    · rename_i hok
      cases hm
      refine wpAny_Call_method hbase (by rw [htrees]; rfl) hline F.plainAttrs_list F.slot_list_extend F.type_list_extend (ha.use (v := p.1) (H' := p.2) hA h1 R fun x s₁ φ₁ S₁ R₁ v₁ => ?_)
      rw [e1] at v₁
      unfold VR at v₁
      obtain ⟨ad, rfl, had⟩ := v₁
      obtain ⟨its0, n0, hl0⟩ := R₁.H.isList (List.mem_of_getElem? had)
      refine ⟨⟨_, hl0, rfl⟩, (fun a' e => by cases e; exact ⟨_, hl0, rfl⟩), ?_⟩
      rw [htrees]
      refine P.extend_list (hb.use (v := r.1) (H' := r.2) hA h2 R₁ fun y s₂ φ₂ S₂ R₂ v₂ => ?_)
      rw [e2] at v₂
      unfold VR at v₂
      obtain ⟨bd, rfl, hbd⟩ := v₂
      have had' := prefix_get S₂.pre.1 had
      obtain ⟨its, ⟨n, hl⟩, q⟩ := R₂.H.lists _ _ _ had' hx
      obtain ⟨its2, ⟨n2, hl2⟩, q2⟩ := R₂.H.lists _ _ _ hbd hy
      have e3 := q.length
      have e4 := q2.length
      unfold lenOk at hok
      simp at e3 e4 hok
      obtain ⟨S₃, R₃⟩ := set_list (f := fun xs => xs ++ its2) (its' := its ++ its2) (vs := xs ++ ys) (tk := s₂.toks) R₂ had' hl rfl (by rw [Array.toList_append]; exact q.append q2)
      exact ⟨bd, its, its2, n, n2, by unfold sizeLine; omega, by unfold sizeLine; omega, by simp [Builtin.List.listTooLong, sizeLine]; intro _; omega, rfl, hl, hl2, φ₂, (S₁.trans S₂).trans S₃.weaken, R₃, by rw [VR]⟩
    · cases hm
  · cases hm

/-! several names at once -/
/-- where several names live -/
inductive AtAll (env : Env) (sl : List Slot) : List Str → List Nat → Prop
  | nil : AtAll env sl [] []
  | cons {x : Str} {k : Nat} {xs : List Str} {ks : List Nat} : At env sl x k → AtAll env sl xs ks → AtAll env sl (x :: xs) (k :: ks)
theorem AtAll.length {xs : List Str} {ks : List Nat} (h : AtAll env sl xs ks) : xs.length = ks.length := by
  induction h with
  | nil => rfl
  | cons _ _ ih => simp [ih]
theorem AtAll.append {xs ys : List Str} {ks js : List Nat} (h : AtAll env sl xs ks) (h' : AtAll env sl ys js) : AtAll env sl (xs ++ ys) (ks ++ js) := by
  induction h with
  | nil => exact h'
  | cons a _ ih => exact .cons a ih
theorem AtAll.reverse {xs : List Str} {ks : List Nat} (h : AtAll env sl xs ks) : AtAll env sl xs.reverse ks.reverse := by
  induction h with
  | nil => exact .nil
  | cons a _ ih => rw [List.reverse_cons, List.reverse_cons]; exact ih.append (.cons a .nil)
theorem VRs.reverse {h : Heap} : ∀ {vs : List V} {xs : List Value}, VRs g h φ vs xs → VRs g h φ vs.reverse xs.reverse
  | [], _, q => by unfold VRs at q; subst q; exact VRs.nil
  | v :: vs, _, q => by
    unfold VRs at q
    obtain ⟨y, ys, rfl, hy, q⟩ := q
    rw [List.reverse_cons, List.reverse_cons]
    exact (VRs.reverse q).append (VRs.one hy)

theorem names_in_order (he : EnvOk env) : ∀ {xs : List Str} {ks : List Nat} {ts : List (Value → Sem Unit)} {vs : List V} {ys : List Value} {L : Loc} {s : Shared} {Q : Unit → Shared → Prop} {E : Value → Shared → Prop}, AtAll env sl xs ks → xs.length = vs.length →
    (∀ (i : Nat) (x : Str), xs[i]? = some x → ∃ t, ts[i]? = some t ∧ ∀ (A : Around) (s : Shared) (y : Value) (Q : Unit → Shared → Prop) (E : Value → Shared → Prop), wpAny (model g.prog g.w) A (storeName env x y) Q E s → wpAny (model g.prog g.w) A (t y) Q E s) → ts.length = xs.length →
    Rel g sl φ L H s.heap → VRs g s.heap φ vs ys → (∀ s', Step sl φ φ s s' → Rel g sl φ (setMany ks vs L) H s'.heap → Q () s') → wpAny (model g.prog g.w) A (assignInOrder ts ys) Q E s
  | [], _, ts, vs, ys, L, s, Q, E, ha, hl, ht, htl, R, q, K => by
    cases ha
    have : ts = [] := List.length_eq_zero_iff.mp htl
    subst this
    have : vs = [] := List.length_eq_zero_iff.mp hl.symm
    subst this
    unfold VRs at q; subst q
    exact wpAny_pure (K s (Step.refl ..) R)
  | x :: xs, _, ts, vs, ys, L, s, Q, E, ha, hl, ht, htl, R, q, K => by
    cases ha with
    | cons a ha =>
      cases vs with
      | nil => cases hl
      | cons v vs =>
        unfold VRs at q
        obtain ⟨y, ys, rfl, hy, q⟩ := q
        cases ts with
        | nil => cases htl
        | cons t ts =>
          obtain ⟨t', ht', hs⟩ := ht 0 x rfl
          simp at ht'
          subst ht'
          show wpAny _ _ (do holding ys (t y); assignInOrder ts ys) Q E s
          refine wpAny_bind (wpAny_holding (hs _ _ _ _ _ (store_use he a R hy fun s₁ S₁ R₁ KT => ?_)))
          refine names_in_order he ha (by simpa using hl) (fun i z hz => by simpa using ht (i + 1) z (by simpa using hz)) (by simpa using htl) R₁ (q.mono KT (Le.refl _)) fun s₂ S₂ R₂ => K s₂ (S₁.trans S₂) R₂

/-- what unpacking hands on -/
theorem unp_use {v : V} {x : Value} {n : Nat} {vs : List V} {Q : List Value → Shared → Prop} {E : Value → Shared → Prop} (hA : AOk d A) (hm : unpV v H n = some vs) (R : Rel g sl φ L H s.heap) (hv : VR g s.heap φ v x)
    (K : ∀ ys s', Step sl φ φ s s' → Rel g sl φ L H s'.heap → VRs g s'.heap φ vs ys → Q ys s') : wpAny (model g.prog g.w) A (unpackItems x n none) Q E s := by
  have go : ∀ (items : Array Value) (h' : Heap), VRs g s.heap φ vs items.toList → Heap.ExtBut s.heap.objs.size s.heap h' → Q items.toList { s with heap := h' } := fun items h' q he => by
    have k : ∀ b o, s.heap.get? b = some o → h'.get? b = some o := fun b o e => he b o (Nat.ne_of_lt (Heap.lt_size e)) e
    have S := Step.ext (φ := φ) (s := s) (tk := s.toks) k
    exact K _ _ S.weaken (R.of_step0 S (R.H.ext k)) (q.mono (.of k) (Le.refl _))
  unfold unpV at hm
  split at hm
  · split at hm
    · rename_i hn
      cases hm
      unfold VR at hv
      obtain ⟨a, its, rfl, ⟨m, ht⟩, _, q⟩ := hv
      have e := q.length
      simp at e
      rw [← hn, e]
      exact wpAny_unpackItems_tuple hA.1 ⟨_, ht, rfl, _, rfl⟩ fun h' he => go its h' q he
    · cases hm
  · obtain ⟨ws, hw, hm⟩ := Option.bind_eq_some_iff.mp hm
    split at hm
    · rename_i hn
      cases hm
      obtain ⟨a, its, rfl, ⟨m, hl⟩, q⟩ := seqOf_PL R.H hv hw
      have e := q.length
      simp at e
      rw [← hn, e]
      exact kun_itemsOf hA.1 (IsL.isList hl) fun h' he => go its h' q he
    · cases hm
end
inductive It where
  | val (v : V) | enum (v : V) | zip (v w : V)
noncomputable abbrev PI := Loc → Hp → Option (It × Hp)
noncomputable def okIt : V → Bool
  | .rng a b c => decide (a.natAbs < 1000000) && decide (b.natAbs < 1000000) && (c == 1 || c == -1)
  | .lst _ => true
  | .fro _ => true
  | .tup _ => true
  | _ => false
noncomputable def valI (a : PE) : PI := fun L H => (a L H).bind fun r => if okIt r.1 then some (.val r.1, r.2) else none
noncomputable def enumI (a : PE) : PI := fun L H => (a L H).bind fun r => match seqOf r.1 r.2 with
  | some _ => some (.enum r.1, r.2)
  | none => none
noncomputable def zipI (a b : PE) : PI := fun L H => (a L H).bind fun r => (b L r.2).bind fun q => match seqOf r.1 q.2, seqOf q.1 q.2 with
  | some _, some _ => some (.zip r.1 q.1, q.2)
  | _, _ => none
noncomputable def nx : It → Nat → Hp → Option (Option V)
  | .val (.lst r), i, H => (H[r]?).map fun vs => vs[i]?
  | .val (.fro vs), i, _ => some vs[i]?
  | .val (.tup vs), i, _ => some vs[i]?
  | .val (.rng a b c), i, _ => some (if (i : Int) < Builtin.Range.rangeSize a b c then some (.int (a + i * c)) else none)
  | .enum v, i, H => (seqOf v H).map fun vs => (vs[i]?).map fun v => .tup [.int i, v]
  | .zip v w, i, H => (seqOf v H).bind fun xs => (seqOf w H).map fun ys => (xs[i]?).bind fun x => (ys[i]?).map fun y => .tup [x, y]
  | _, _, _ => none
noncomputable abbrev Tg := V → Loc → Hp → Option Loc
noncomputable def tgN (k : Nat) : Tg := fun v L _ => some (L.set k (some v))
noncomputable def tgT (ks : List Nat) : Tg := fun v L H => (unpV v H ks.length).map fun vs => setMany ks vs L
noncomputable def forL (it : It) (tg : Tg) (b : PS) : Nat → Nat → PS
  | 0, _ => fun _ _ => none
  | n + 1, i => fun L H => (nx it i H).bind fun o => match o with
    | none => some (.next, L, H)
    | some v => (tg v L H).bind fun L1 => (b L1 H).bind fun q => match q.1 with
      | .next => forL it tg b n (i + 1) q.2.1 q.2.2
      | .ret w => some (.ret w, q.2)
noncomputable def forS (it : PI) (tg : Tg) (b : PS) : PS := fun L H => (it L H).bind fun r => forL r.1 tg b 1000 0 L r.2

theorem okIt_small {a b c : Int} (h : okIt (.rng a b c) = true) : Builtin.Range.small a b c = true := by
  unfold okIt at h
  simp only [Bool.and_eq_true, decide_eq_true_eq, Bool.or_eq_true, beq_iff_eq] at h
  obtain ⟨⟨h1, h2⟩, h3⟩ := h
  have f : ∀ i : Int, -5000000 ≤ i → i ≤ 5000000 → Builtin.Range.rangeFitsLong i = true := fun i h1 h2 => by
    unfold Builtin.Range.rangeFitsLong
    simp only [Bool.and_eq_true, decide_eq_true_eq]
    omega
  have hs : -5000000 ≤ Builtin.Range.rangeSize a b c ∧ Builtin.Range.rangeSize a b c ≤ 5000000 := by
    unfold Builtin.Range.rangeSize
    rcases h3 with rfl | rfl <;> simp <;> split <;> omega
  unfold Builtin.Range.small
  rcases h3 with rfl | rfl
  · rw [f _ (by omega) (by omega), f _ (by omega) (by omega), f _ (by omega) (by omega), f _ hs.1 hs.2, if_pos (by decide), f _ (by omega) (by omega)]
    simp
  · rw [f _ (by omega) (by omega), f _ (by omega) (by omega), f _ (by omega) (by omega), f _ hs.1 hs.2, if_neg (by decide), f _ (by omega) (by omega)]
    simp

/-- the list behind a value: its place stays, and its items where it is frozen -/
noncomputable def LA (g : G) (φ : Fi) (h : Heap) (a : Addr) : V → Prop
  | .lst r => φ.l[r]? = some a
  | .fro vs => ∃ items, PL h a items ∧ φ.fro a ∧ VRs g h φ vs items.toList
  | _ => False
/-- the iterator I stands at place i; pr: what it turns -/
noncomputable def StI (g : G) (φ : Fi) (h : Heap) (i : Nat) (I : Addr) (pr : List Addr) : It → Prop
  | .val (.lst r) => pr = [I] ∧ ∃ a, LA g φ h a (.lst r) ∧ h.IsListIter I a i
  | .val (.fro vs) => pr = [I] ∧ ∃ a, LA g φ h a (.fro vs) ∧ h.IsListIter I a i
  | .val (.tup vs) => pr = [I] ∧ ∃ a items, PT h a items ∧ ¬ φ.bad a ∧ VRs g h φ vs items.toList ∧ h.IsTupleIter I a i
  | .val (.rng a b c) => pr = [I] ∧ IsRangeIter h I (a + i * c) (Builtin.Range.rangeSize a b c - i) c
  | .enum v => ∃ t a old, pr = [I, t] ∧ I ≠ t ∧ LA g φ h a v ∧ IsEnum h I t i old ∧ h.IsListIter t a i
  | .zip v w => ∃ TI TO i1 i2 l1 l2 x y, pr = [I, TO, i1, i2] ∧ TI ≠ TO ∧ i1 ≠ i2 ∧ LA g φ h l1 v ∧ LA g φ h l2 w ∧ IsZip h I TI TO .none ∧ IsPair h TI (.ref i1) (.ref i2) ∧ IsPair h TO x y ∧
      h.IsListIter i1 l1 i ∧ h.IsListIter i2 l2 i ∧ φ.bad TO
  | _ => False

structure But (pr : List Addr) (s s' : Shared) : Prop where
  same : ∃ h tk, s' = { s with heap := h, toks := tk }
  kept : ∀ b o, b ∉ pr → s.heap.get? b = some o → s'.heap.get? b = some o

section
variable {g : G} {d : Nat} {sl : List Slot} {A : Around} {φ φ' : Fi} {L L' : Loc} {H H' : Hp} {s : Shared} {env : Env}

theorem keep_listIter {h h' : Heap} {I a : Addr} {i : Nat} (K : KeepA φ h h') (x : h.IsListIter I a i) : h'.IsListIter I a i := by
  obtain ⟨o, ho, hc, hd⟩ := x
  exact ⟨o, K.at ho (by rw [hc]; decide) (by rw [hd]; exact fun _ _ => nofun) (by rw [hd]; exact fun _ => nofun), hc, hd⟩
theorem keep_tupleIter {h h' : Heap} {I a : Addr} {i : Nat} (K : KeepA φ h h') (x : h.IsTupleIter I a i) : h'.IsTupleIter I a i := by
  obtain ⟨o, ho, hc, hd⟩ := x
  exact ⟨o, K.at ho (by rw [hc]; decide) (by rw [hd]; exact fun _ _ => nofun) (by rw [hd]; exact fun _ => nofun), hc, hd⟩
theorem ne_list (T : String) (h : T ≠ "list") : Value.type T ≠ Value.type "list" := by
  intro e; injection e with e; exact h e

theorem LA.keep {h h' : Heap} {a : Addr} (K : KeepT φ h h') (P : Le φ φ') : ∀ {v : V}, LA g φ h a v → LA g φ' h' a v := by
  intro v x
  unfold LA at x ⊢
  split at x
  · exact prefix_get P.1 x
  · obtain ⟨its, ⟨n, hl⟩, hf, q⟩ := x
    exact ⟨its, ⟨n, K _ _ hl (.inr hf)⟩, P.2.2 _ hf, q.mono K P⟩
  · cases x
theorem LA.list {h : Heap} {a : Addr} {v : V} {vs : List V} (R : RelH g φ H h) (x : LA g φ h a v) (e : seqOf v H = some vs) : ∃ items, PL h a items ∧ VRs g h φ vs items.toList := by
  unfold LA at x
  unfold seqOf at e
  split at x
  · exact R.lists _ _ _ x e
  · cases e
    obtain ⟨its, hl, hf, q⟩ := x
    exact ⟨its, hl, q⟩
  · cases x
theorem LA.of {h : Heap} {v : V} {x : Value} {vs : List V} (q : VR g h φ v x) (e : seqOf v H = some vs) : ∃ a, x = .ref a ∧ LA g φ h a v := by
  unfold seqOf at e
  split at e
  · unfold VR at q
    obtain ⟨a, rfl, ha⟩ := q
    exact ⟨a, rfl, ha⟩
  · unfold VR at q
    obtain ⟨a, its, rfl, hl, hf, q⟩ := q
    exact ⟨a, rfl, its, hl, hf, q⟩
  · cases e
theorem LA.isList {h : Heap} {a : Addr} {v : V} (R : RelH g φ H h) (x : LA g φ h a v) : ∃ items n, IsL h a items n := by
  unfold LA at x
  split at x
  · exact R.isList (List.mem_of_getElem? x)
  · obtain ⟨its, ⟨n, hl⟩, _⟩ := x
    exact ⟨its, n, hl⟩
  · cases x

theorem StI.keep {h h' : Heap} {i : Nat} {I : Addr} {pr : List Addr} (K : KeepA φ h h') (P : Le φ φ') (hb : φ'.bad = φ.bad) : ∀ {it : It}, StI g φ h i I pr it → StI g φ' h' i I pr it := by
  intro it x
  unfold StI at x ⊢
  split at x
  · obtain ⟨e, a, ha, hi⟩ := x
    exact ⟨e, a, ha.keep K.toT P, keep_listIter K hi⟩
  · obtain ⟨e, a, ha, hi⟩ := x
    exact ⟨e, a, ha.keep K.toT P, keep_listIter K hi⟩
  · obtain ⟨e, a, its, ⟨n, ht⟩, nb, q, hi⟩ := x
    exact ⟨e, a, its, ⟨n, K.at ht (ne_list _ (by decide)) (fun _ _ => nofun) (fun _ => nofun)⟩, fun z => nb (P.2.1 _ z), q.mono K.toT P, keep_tupleIter K hi⟩
  · obtain ⟨e, hi⟩ := x
    exact ⟨e, K.at hi (ne_list _ (by decide)) (fun _ _ => nofun) (fun _ => nofun)⟩
  · obtain ⟨t, a, old, e, ne, ha, he, hi⟩ := x
    exact ⟨t, a, old, e, ne, ha.keep K.toT P, K.at he (ne_list _ (by decide)) (fun _ _ => nofun) (fun _ => nofun), keep_listIter K hi⟩
  · obtain ⟨TI, TO, i1, i2, l1, l2, x, y, e, n1, n2, h1, h2, hz, hTI, hTO, q1, q2, hbad⟩ := x
    exact ⟨TI, TO, i1, i2, l1, l2, x, y, e, n1, n2, h1.keep K.toT P, h2.keep K.toT P, K.at hz (ne_list _ (by decide)) (fun _ _ => nofun) (fun _ => nofun), K.at hTI (ne_list _ (by decide)) (fun _ _ => nofun) (fun _ => nofun),
      K.at hTO (ne_list _ (by decide)) (fun _ _ => nofun) (fun _ => nofun), keep_listIter K q1, keep_listIter K q2, by rw [hb]; exact hbad⟩
  · cases x

/-- what the iterator turns is no list, and fixed only where it is bad -/
theorem StI.priv {h : Heap} {i : Nat} {I : Addr} {pr : List Addr} : ∀ {it : It}, StI g φ h i I pr it → ∀ a ∈ pr, ∃ o, h.get? a = some o ∧ o.cls ≠ .type "list" ∧ (Fixed o → φ.bad a) := by
  intro it x a ha
  have li : ∀ {J b : Addr} {i : Nat}, h.IsListIter J b i → ∃ o, h.get? J = some o ∧ o.cls ≠ .type "list" ∧ (Fixed o → φ.bad J) := fun ⟨o, ho, hc, hd⟩ =>
    ⟨o, ho, by rw [hc]; decide, fun f => by rcases f with ⟨f, _⟩ | ⟨f, _⟩ <;> (rw [hc] at f; exact absurd f (by decide))⟩
  have fx : ∀ {T : String} {dd : Option Addr} {dt : Data} {sl : Array (Option Value)} {P : Prop}, T ≠ "tuple" → T ≠ "range" → Fixed ⟨.type T, dd, dt, sl⟩ → P := fun {T dd dt sl P} h1 h2 f => by
    rcases f with ⟨f, _⟩ | ⟨f, _⟩
    · injection f with f; exact absurd f h1
    · injection f with f; exact absurd f h2
  unfold StI at x
  split at x
  · obtain ⟨rfl, b, _, hi⟩ := x
    rw [List.mem_singleton.mp ha]; exact li hi
  · obtain ⟨rfl, b, _, hi⟩ := x
    rw [List.mem_singleton.mp ha]; exact li hi
  · obtain ⟨rfl, b, its, _, _, _, o, ho, hc, hd⟩ := x
    rw [List.mem_singleton.mp ha]
    exact ⟨o, ho, by rw [hc]; decide, fun f => by rcases f with ⟨f, _⟩ | ⟨f, _⟩ <;> (rw [hc] at f; exact absurd f (by decide))⟩
  · obtain ⟨rfl, hi⟩ := x
    rw [List.mem_singleton.mp ha]; exact ⟨_, hi, ne_list _ (by decide), fx (by decide) (by decide)⟩
  · obtain ⟨t, b, old, rfl, ne, _, he, hi⟩ := x
    rcases List.mem_cons.mp ha with rfl | ha
    · exact ⟨_, he, ne_list _ (by decide), fx (by decide) (by decide)⟩
    · rw [List.mem_singleton.mp ha]; exact li hi
  · obtain ⟨TI, TO, i1, i2, l1, l2, x, y, rfl, n1, n2, h1, h2, hz, hTI, hTO, q1, q2, hbad⟩ := x
    rcases List.mem_cons.mp ha with rfl | ha
    · exact ⟨_, hz, ne_list _ (by decide), fx (by decide) (by decide)⟩
    · rcases List.mem_cons.mp ha with rfl | ha
      · exact ⟨_, hTO, ne_list _ (by decide), fun _ => hbad⟩
      · rcases List.mem_cons.mp ha with rfl | ha
        · exact li q1
        · rw [List.mem_singleton.mp ha]; exact li q2
  · cases x

theorem Rel.leave {h h' : Heap} {B : Addr → Prop} (wr : List Addr) (R : Rel g sl φ L H h) (hout : ∀ a ∈ wr, a ∉ φ.l ∧ g.hb.get? a = none ∧ ¬ φ.fro a ∧ (∀ o, h.get? a = some o → Fixed o → φ.bad a)) (hsl : ∀ sk ∈ sl, sk.addr ∉ wr)
    (k : ∀ b o, b ∉ wr → h.get? b = some o → h'.get? b = some o) (hB : ∀ b, B b → φ.bad b) (hd : ∀ b, B b → (h'.get? b).isSome = true) : Rel g sl ⟨φ.l, B, φ.fro⟩ L H h' ∧ KeepT φ h h' := by
  obtain ⟨RH, K⟩ := R.H.leave wr hout k hB hd
  exact ⟨⟨RH, R.llen, fun j sk hj => ⟨(R.slots j sk hj).1, SlotOk.mono (φ' := ⟨φ.l, B, φ.fro⟩) K ⟨List.prefix_refl _, hB, fun _ h => h⟩ (fun o ho => k _ _ (hsl sk (List.mem_of_getElem? hj)) ho) (R.slots j sk hj).2⟩, R.apart⟩, K⟩

/-- the same with nothing turned but what the iterator turns -/
theorem Rel.pass {s' : Shared} {i : Nat} {I : Addr} {pr : List Addr} {it : It} {B : Addr → Prop} (R : Rel g sl φ L H s.heap) (S : StI g φ s.heap i I pr it) (hb : ∀ a ∈ pr, g.hb.get? a = none) (hsl : ∀ sk ∈ sl, sk.addr ∉ pr) (b : But pr s s')
    (hB : ∀ b, B b → φ.bad b) (hd : ∀ b, B b → (s'.heap.get? b).isSome = true) : Rel g sl ⟨φ.l, B, φ.fro⟩ L H s'.heap ∧ KeepT φ s.heap s'.heap :=
  R.leave pr (fun a ha => by
    obtain ⟨o, ho, hc, hf⟩ := S.priv a ha
    exact ⟨R.H.notList ho (.inl hc), hb a ha, R.H.notFro ho (.inl hc), fun o' ho' f => by rw [ho] at ho'; cases ho'; exact hf f⟩) hsl b.kept hB hd

theorem go_plain {target : Expr} {I : Addr} {y : Value} {o : Obj} {T : String} {Q : Unit → Shared → Prop} {E : Value → Shared → Prop} (ho : s.heap.get? I = some o) (hc : o.cls = .type T)
    (hn : (["enumerate", "zip", "dict_itemiterator", "dict_reverseitemiterator", "odict_iterator", "itertools.zip_longest", "itertools.pairwise"] : List String).contains T = false) (h : Q () s) :
    wpAny (model g.prog g.w) A (letOwnedTupleGo target (.ref I) y) Q E s := by
  have key : ∀ {r : Sem Unit}, r = (match (Value.ref I, y) with
      | (.ref r, .ref a) => do
        let o ← load r
        match o.cls, o.data with
        | .type n, .fields vs =>
          if ["enumerate", "zip", "dict_itemiterator", "dict_reverseitemiterator", "odict_iterator", "itertools.zip_longest", "itertools.pairwise"].contains n && vs[0]? == some (rawInt a) then
            rule "for.unpacks-the-owned-tuple"
            updateField r 0 .none
        | _, _ => pure ()
      | _ => pure ()) → wpAny (model g.prog g.w) A r Q E s := by
    intro r hr
    subst hr
    split
    · rename_i r a e
      cases e
      refine wpAny_bind (wpAny_load ho ?_)
      split
      · rename_i n vs e1 e2
        rw [hc] at e1; cases e1
        rw [hn]
        exact wpAny_pure h
      · exact wpAny_pure h
    · exact wpAny_pure h
  unfold letOwnedTupleGo
  split
  · exact key rfl
  · exact key rfl
  · exact wpAny_pure h
end
/-- a target that takes what an iterator of this kind hands on -/
noncomputable def tgOk : It → Expr → Prop
  | .val _, _ => True
  | _, e => ∃ elts k pos, e = .Tuple elts k pos

section
variable {g : G} {d : Nat} {sl : List Slot} {A : Around} {φ φ' : Fi} {L L' : Loc} {H H' : Hp} {s : Shared} {env : Env}

theorem But.set {I : Addr} {h' : Heap} {tk : Nat} {pr : List Addr} (hI : I ∈ pr) (hs : Heap.SameBut I s.heap h') : But pr s { s with heap := h', toks := tk } :=
  ⟨⟨_, _, rfl⟩, fun b o hb e => (hs.2 b fun z => hb (z ▸ hI)).trans e⟩
theorem But.ext {I : Addr} {h' : Heap} {tk : Nat} {pr : List Addr} (hI : I ∈ pr) (hs : Heap.ExtBut I s.heap h') : But pr s { s with heap := h', toks := tk } :=
  ⟨⟨_, _, rfl⟩, fun b o hb e => hs b o (fun z => hb (z ▸ hI)) e⟩

theorem listIter_ne {h : Heap} {I a : Addr} {i n : Nat} {its : Array Value} (x : h.IsListIter I a i) (y : IsL h a its n) : a ≠ I := fun e => by
  subst e
  obtain ⟨o, ho, hc, _⟩ := x
  have y' : h.get? a = some _ := y
  rw [ho] at y'; cases y'
  exact absurd hc (by simp)

theorem StI.keepT {h h' : Heap} {i : Nat} {I : Addr} {pr : List Addr} {it : It} (R : RelH g φ H h) (S : StI g φ h i I pr it) (k : ∀ b o, b ∉ pr → h.get? b = some o → h'.get? b = some o) : KeepT φ h h' := fun b o e f => k b o (fun z => by
  obtain ⟨o', ho', hc, hf⟩ := S.priv b z
  rw [e] at ho'; cases ho'
  rcases f with f | f
  · exact f.2 (hf f.1)
  · exact R.notFro e (.inl hc) f) e

theorem next_list {it : It} {v : V} {vs : List V} {i : Nat} {I a : Addr} {target : Expr} (hA : AOk d A) (hvs : seqOf v H = some vs) (R : Rel g sl φ L H s.heap) (ha : LA g φ s.heap a v) (hi : s.heap.IsListIter I a i) (S : StI g φ s.heap i I [I] it) :
    wpAny (model g.prog g.w) A (pyNext (.ref I)) (fun r s₁ => match r with
      | none => vs[i]? = none ∧ But [I] s s₁
      | some y => ∃ v', vs[i]? = some v' ∧ wpAny (model g.prog g.w) A (letOwnedTupleGo target (.ref I) y) (fun _ s₂ => But [I] s s₂ ∧ VR g s₂.heap φ v' y ∧ LA g φ s₂.heap a v ∧ s₂.heap.IsListIter I a (i + 1)) (fun _ _ => False) s₁) (fun _ _ => False) s := by
  obtain ⟨its, ⟨n, hl⟩, q⟩ := ha.list R.H hvs
  have hne := listIter_ne hi hl
  cases hv : vs[i]? with
  | none =>
    have : its[i]? = none := by
      have e1 := q.length
      simp at e1 hv ⊢; omega
    exact wpAny_pyNext_list_end hA.1 hi (IsL.isList hl) this fun h' he => ⟨rfl, But.ext (tk := s.toks) (List.mem_singleton.mpr rfl) he⟩
  | some v' =>
    obtain ⟨y, hy, qy⟩ := q.get hv
    refine wpAny_pyNext_list_item hi (IsL.isList hl) (toList_get hy) fun h' hi' hs => ⟨v', rfl, ?_⟩
    obtain ⟨oI, hoI, hcI, hdI⟩ := id hi'
    have K : KeepT φ s.heap h' := S.keepT R.H fun b o hb e => (hs.2 b (by simpa using hb)).trans e
    exact go_plain hoI hcI (by decide) ⟨But.set (tk := s.toks) (List.mem_singleton.mpr rfl) hs, qy.mono K (Le.refl _), ha.keep K (Le.refl _), hi'⟩

theorem next_val {v : V} {i : Nat} {I : Addr} {pr : List Addr} {o : Option V} {target : Expr} (hA : AOk d A) (hn : nx (.val v) i H = some o) (R : Rel g sl φ L H s.heap) (S : StI g φ s.heap i I pr (.val v)) :
    wpAny (model g.prog g.w) A (pyNext (.ref I)) (fun r s₁ => match r with
      | none => o = none ∧ But pr s s₁
      | some y => ∃ v', o = some v' ∧ wpAny (model g.prog g.w) A (letOwnedTupleGo target (.ref I) y) (fun _ s₂ => But pr s s₂ ∧ VR g s₂.heap φ v' y ∧ StI g φ s₂.heap (i + 1) I pr (.val v)) (fun _ _ => False) s₁) (fun _ _ => False) s := by
  have S0 := S
  unfold StI at S
  split at S
  · rename_i r hr
    cases hr
    obtain ⟨rfl, a, ha, hi⟩ := S
    unfold nx at hn
    obtain ⟨vs, hvs, e⟩ := Option.map_eq_some_iff.mp hn
    subst e
    refine wpAny_mono (next_list (v := .lst r) (target := target) hA hvs R ha hi S0) (fun r s₁ h => ?_) fun _ _ f => f
    cases r with
    | none => exact h
    | some y => exact let ⟨v', e, h⟩ := h; ⟨v', e, wpAny_mono h (fun _ s₂ ⟨h1, h2, h3, h4⟩ => ⟨h1, h2, rfl, a, h3, h4⟩) fun _ _ f => f⟩
  · rename_i r hr
    cases hr
    obtain ⟨rfl, a, ha, hi⟩ := S
    unfold nx at hn
    cases hn
    refine wpAny_mono (next_list (v := .fro r) (target := target) hA rfl R ha hi S0) (fun r s₁ h => ?_) fun _ _ f => f
    cases r with
    | none => exact h
    | some y => exact let ⟨v', e, h⟩ := h; ⟨v', e, wpAny_mono h (fun _ s₂ ⟨h1, h2, h3, h4⟩ => ⟨h1, h2, rfl, a, h3, h4⟩) fun _ _ f => f⟩
  · rename_i vs hr
    cases hr
    obtain ⟨rfl, a, its, ⟨n, ht⟩, nb, q, hi⟩ := S
    unfold nx at hn
    cases hn
    have htup : s.heap.IsTuple a its := ⟨_, ht, rfl, n, rfl⟩
    obtain ⟨oI0, hoI0, hcI0, hdI0⟩ := id hi
    have hne : a ≠ I := fun e => by
      subst e
      have ht' : s.heap.get? a = some _ := ht
      rw [hoI0] at ht'; cases ht'
      exact absurd hcI0 (by simp)
    cases hv : vs[i]? with
    | none =>
      have : its[i]? = none := by
        have e1 := q.length
        simp at e1 hv ⊢; omega
      exact wpAny_pyNext_tuple_end hA.1 hi htup this fun h' he => ⟨rfl, But.ext (tk := s.toks) (List.mem_singleton.mpr rfl) he⟩
    | some v' =>
      obtain ⟨y, hy, qy⟩ := q.get hv
      refine wpAny_pyNext_tuple_item hi htup (toList_get hy) fun h' hi' hs => ⟨v', rfl, ?_⟩
      obtain ⟨oI, hoI, hcI, hdI⟩ := id hi'
      have K : KeepT φ s.heap h' := S0.keepT R.H fun b o hb e => (hs.2 b (by simpa using hb)).trans e
      exact go_plain hoI hcI (by decide) ⟨But.set (tk := s.toks) (List.mem_singleton.mpr rfl) hs, qy.mono K (Le.refl _), rfl, a, its, ⟨n, (hs.2 _ hne).trans ht⟩, nb, q.mono K (Le.refl _), hi'⟩
  · rename_i a b c hr
    cases hr
    obtain ⟨rfl, hi⟩ := S
    unfold nx at hn
    cases hn
    split
    · rename_i hlt
      refine wpAny_pyNext_range_item hi (by omega) fun h' hi' hs => ⟨_, rfl, ?_⟩
      refine go_plain hi' rfl (by decide) ⟨But.set (tk := s.toks + 1) (List.mem_singleton.mpr rfl) hs, by rw [VR]; exact ⟨_, rfl⟩, rfl, ?_⟩
      have e1 : a + ((i + 1 : Nat) : Int) * c = a + (i : Int) * c + c := by push_cast; rw [Int.add_mul, Int.one_mul, Int.add_assoc]
      have e2 : Builtin.Range.rangeSize a b c - ((i + 1 : Nat) : Int) = Builtin.Range.rangeSize a b c - (i : Int) - 1 := by push_cast; omega
      rw [e1, e2]; exact hi'
    · rename_i hlt
      exact wpAny_pyNext_range_end hA.1 hi (by omega) fun h' he => ⟨rfl, But.ext (tk := s.toks) (List.mem_singleton.mpr rfl) he⟩
  · rename_i hr; cases hr
  · rename_i hr; cases hr
  · cases S

theorem next_enum {k : V} {i : Nat} {I : Addr} {pr : List Addr} {o : Option V} {elts : List Expr} {kk : Nat} {pos : Pos} (hA : AOk d A) (hn : nx (.enum k) i H = some o) (R : Rel g sl φ L H s.heap) (S : StI g φ s.heap i I pr (.enum k)) :
    wpAny (model g.prog g.w) A (pyNext (.ref I)) (fun r s₁ => match r with
      | none => o = none ∧ But pr s s₁
      | some y => ∃ v', o = some v' ∧ wpAny (model g.prog g.w) A (letOwnedTupleGo (.Tuple elts kk pos) (.ref I) y) (fun _ s₂ => But pr s s₂ ∧ VR g s₂.heap φ v' y ∧ StI g φ s₂.heap (i + 1) I pr (.enum k)) (fun _ _ => False) s₁) (fun _ _ => False) s := by
  have S0 := S
  obtain ⟨t, a, old, rfl, ne, ha, he, hi⟩ := S
  unfold nx at hn
  obtain ⟨vs, hvs, e⟩ := Option.map_eq_some_iff.mp hn
  subst e
  obtain ⟨its, ⟨n, hl⟩, q⟩ := ha.list R.H hvs
  cases hv : vs[i]? with
  | none =>
    have : its[i]? = none := by
      have e1 := q.length
      simp at e1 hv ⊢; omega
    exact wpAny_pyNext_enum_end hA.1 he hi (IsL.isList hl) this fun h' hx => ⟨rfl, But.ext (tk := s.toks) (by simp) hx⟩
  | some v' =>
    obtain ⟨y, hy, qy⟩ := q.get hv
    refine wpAny_pyNext_enum_item he hi (IsL.isList hl) (toList_get hy) ne fun h' he' hi' ht hsz hk => ⟨_, rfl, ?_⟩
    refine wpAny_letOwnedTupleGo_enum he' fun h'' he'' hs => ?_
    have hs' : Heap.SameBut I h' h'' := hs
    have hIlt : I < s.heap.objs.size := Heap.lt_size he
    have hTI : s.heap.objs.size ≠ I := Nat.ne_of_gt hIlt
    have kept : ∀ b o, b ∉ [I, t] → s.heap.get? b = some o → h''.get? b = some o := fun b o hb e => by
      simp at hb
      exact (hs'.2 b hb.1).trans (hk b o hb.1 hb.2 e)
    have K : KeepT φ s.heap h'' := S0.keepT R.H kept
    refine ⟨⟨⟨_, _, rfl⟩, kept⟩, ?_, t, a, y, rfl, ne, ha.keep K (Le.refl _), ?_, hi'.extBut hs'.extBut ne.symm⟩
    · show VR g h'' φ (.tup [.int i, v']) (.ref s.heap.objs.size)
      unfold VR
      refine ⟨_, #[.int i s.toks, y], rfl, ⟨0, (hs'.2 _ hTI).trans ht⟩, R.H.notBad (get_none_size _), ?_⟩
      have q1 : VR g h'' φ (.int (i : Int)) (.int (i : Int) s.toks) := by rw [VR]; exact ⟨_, rfl⟩
      exact (VRs.one q1).append (VRs.one (qy.mono K (Le.refl _)))
    · have : ((i + 1 : Nat) : Int) = (i : Int) + 1 := by push_cast; rfl
      rw [this]; exact he''

theorem next_zip {j k : V} {i : Nat} {I : Addr} {pr : List Addr} {o : Option V} {elts : List Expr} {kk : Nat} {pos : Pos} (hA : AOk d A) (hn : nx (.zip j k) i H = some o) (R : Rel g sl φ L H s.heap) (S : StI g φ s.heap i I pr (.zip j k)) :
    wpAny (model g.prog g.w) A (pyNext (.ref I)) (fun r s₁ => match r with
      | none => o = none ∧ But pr s s₁
      | some y => ∃ v', o = some v' ∧ wpAny (model g.prog g.w) A (letOwnedTupleGo (.Tuple elts kk pos) (.ref I) y) (fun _ s₂ => But pr s s₂ ∧ VR g s₂.heap φ v' y ∧ StI g φ s₂.heap (i + 1) I pr (.zip j k)) (fun _ _ => False) s₁) (fun _ _ => False) s := by
  have S0 := S
  obtain ⟨TI, TO, i1, i2, l1, l2, x0, y0, rfl, n1, n2, h1, h2, hz, hTI, hTO, q1, q2, hbad⟩ := S
  unfold nx at hn
  obtain ⟨xs, hxs, hn⟩ := Option.bind_eq_some_iff.mp hn
  obtain ⟨ys, hys, e⟩ := Option.map_eq_some_iff.mp hn
  obtain ⟨its, ⟨n, hl⟩, q⟩ := h1.list R.H hxs
  obtain ⟨its2, ⟨n2', hl2⟩, q'⟩ := h2.list R.H hys
  have cl : ∀ {a b : Addr} {o p : Obj}, s.heap.get? a = some o → s.heap.get? b = some p → o.cls ≠ p.cls → a ≠ b := fun ha hb hne e => by
    subst e; rw [ha] at hb; cases hb; exact hne rfl
  obtain ⟨o1, ho1, hc1, _⟩ := id q1
  obtain ⟨o2, ho2, hc2, _⟩ := id q2
  have D : ZipApart I TI TO i1 i2 l1 l2 :=
    { TIz := cl hTI hz (by simp), TOz := cl hTO hz (by simp), i1z := cl ho1 hz (by rw [hc1]; simp), i2z := cl ho2 hz (by rw [hc2]; simp), TITO := n1,
      TIi1 := cl hTI ho1 (by rw [hc1]; simp), TIi2 := cl hTI ho2 (by rw [hc2]; simp), TOi1 := cl hTO ho1 (by rw [hc1]; simp), TOi2 := cl hTO ho2 (by rw [hc2]; simp), i12 := n2,
      l1z := cl hl hz (by simp), l1TO := cl hl hTO (by simp), l1i1 := cl hl ho1 (by rw [hc1]; simp), l1i2 := cl hl ho2 (by rw [hc2]; simp),
      l2z := cl hl2 hz (by simp), l2TO := cl hl2 hTO (by simp), l2i1 := cl hl2 ho1 (by rw [hc1]; simp), l2i2 := cl hl2 ho2 (by rw [hc2]; simp) }
  have ends : (xs[i]? = none ∨ ys[i]? = none) → its[i]? = none ∨ its2[i]? = none := fun hh => by
    have e1 := q.length
    have e2 := q'.length
    simp at e1 e2 hh ⊢
    omega
  cases hx : xs[i]? with
  | none =>
    rw [hx] at e
    subst e
    exact wpAny_pyNext_zip_end hA.1 D hz hTI hTO q1 q2 (IsL.isList hl) (IsL.isList hl2) (ends (.inl hx)) fun h' hk => ⟨rfl, ⟨_, s.toks, rfl⟩, fun b o hb e => by simp at hb; exact hk b o hb.1 hb.2.1 hb.2.2.1 hb.2.2.2 e⟩
  | some x =>
    cases hy : ys[i]? with
    | none =>
      rw [hx, hy] at e
      subst e
      exact wpAny_pyNext_zip_end hA.1 D hz hTI hTO q1 q2 (IsL.isList hl) (IsL.isList hl2) (ends (.inr hy)) fun h' hk => ⟨rfl, ⟨_, s.toks, rfl⟩, fun b o hb e => by simp at hb; exact hk b o hb.1 hb.2.1 hb.2.2.1 hb.2.2.2 e⟩
    | some y =>
      rw [hx, hy] at e
      subst e
      obtain ⟨xv, hxv, qx⟩ := q.get hx
      obtain ⟨yv, hyv, qy⟩ := q'.get hy
      refine wpAny_pyNext_zip_item D hz hTI hTO q1 q2 (IsL.isList hl) (IsL.isList hl2) (toList_get hxv) (toList_get hyv) fun h' hz' hTO' q1' q2' hT hsz hk => ⟨_, rfl, ?_⟩
      refine wpAny_letOwnedTupleGo_zip hz' fun h'' hz'' hs => ?_
      have hs' : Heap.SameBut I h' h'' := hs
      have hTz : s.heap.objs.size ≠ I := Nat.ne_of_gt (Heap.lt_size hz)
      have kept : ∀ b o, b ∉ [I, TO, i1, i2] → s.heap.get? b = some o → h''.get? b = some o := fun b o hb e => by
        simp at hb
        exact (hs'.2 b hb.1).trans (hk b o hb.1 hb.2.1 hb.2.2.1 hb.2.2.2 e)
      have K : KeepT φ s.heap h'' := S0.keepT R.H kept
      refine ⟨⟨⟨_, _, rfl⟩, kept⟩, ?_, TI, TO, i1, i2, l1, l2, xv, yv, rfl, n1, n2, h1.keep K (Le.refl _), h2.keep K (Le.refl _), hz'', (hs'.2 _ D.TIz).trans (hk _ _ D.TIz D.TITO D.TIi1 D.TIi2 hTI), (hs'.2 _ D.TOz).trans hTO', q1'.extBut hs'.extBut D.i1z, q2'.extBut hs'.extBut D.i2z, hbad⟩
      show VR g h'' φ (.tup [x, y]) (.ref s.heap.objs.size)
      unfold VR
      exact ⟨_, #[xv, yv], rfl, ⟨0, (hs'.2 _ hTz).trans hT⟩, R.H.notBad (get_none_size _), (VRs.one (qx.mono K (Le.refl _))).append (VRs.one (qy.mono K (Le.refl _)))⟩

theorem next_use {it : It} {i : Nat} {I : Addr} {pr : List Addr} {o : Option V} {target : Expr} (htg : tgOk it target) (hA : AOk d A) (hn : nx it i H = some o) (R : Rel g sl φ L H s.heap) (S : StI g φ s.heap i I pr it) :
    wpAny (model g.prog g.w) A (pyNext (.ref I)) (fun r s₁ => match r with
      | none => o = none ∧ But pr s s₁
      | some y => ∃ v', o = some v' ∧ wpAny (model g.prog g.w) A (letOwnedTupleGo target (.ref I) y) (fun _ s₂ => But pr s s₂ ∧ VR g s₂.heap φ v' y ∧ StI g φ s₂.heap (i + 1) I pr it) (fun _ _ => False) s₁) (fun _ _ => False) s := by
  cases it with
  | val v => exact next_val hA hn R S
  | enum k => obtain ⟨elts, kk, pos, rfl⟩ := htg; exact next_enum hA hn R S
  | zip j k => obtain ⟨elts, kk, pos, rfl⟩ := htg; exact next_zip hA hn R S
end
structure RefI (g : G) (d : Nat) (sl : List Slot) (iter : Expr) (env : Env) (m : PI) : Prop where
  run : ∀ (A : Around) (φ : Fi) (L : Loc) (H : Hp) (s : Shared) (it : It) (H' : Hp), AOk d A → m L H = some (it, H') → Rel g sl φ L H s.heap → ∀ (Q : Value → Shared → Prop) (E : Value → Shared → Prop),
    (∀ I pr φ1 s1, Step sl φ ⟨φ1.l, φ.bad, φ1.fro⟩ s s1 → (∀ b, φ.bad b → φ1.bad b) → Rel g sl φ1 L H' s1.heap → StI g φ1 s1.heap 0 I pr it → (∀ a ∈ pr, s.heap.get? a = none) → Q (.ref I) s1) →
    wpAny (model g.prog g.w) A (eval iter env) (fun x s₁ => wpAny (model g.prog g.w) A (pyIter x) Q E s₁) E s

section
variable {g : G} {d : Nat} {sl : List Slot} {A : Around} {φ φ' : Fi} {L L' : Loc} {H H' : Hp} {s : Shared} {env : Env}

theorem Step.none_of {s' : Shared} (S : Step sl φ φ' s s') {a : Addr} (h : s'.heap.get? a = none) : s.heap.get? a = none := by
  cases e : s.heap.get? a with
  | none => rfl
  | some o => have := S.dom a (by rw [e]; rfl); rw [h] at this; cases this

theorem Fi.eta {φ φ1 : Fi} (h : φ1.bad = φ.bad) : (⟨φ1.l, φ.bad, φ1.fro⟩ : Fi) = φ1 := by
  cases φ1; simp at h; subst h; rfl

theorem tcall_use {x : Str} {p pos : Pos} {id : String} {args : List Expr} {r : PLs} {vs : List V} (he : EnvOk env) (hk : env.kindOf x = some .globalImplicit)
    (hx : x ∈ (["len", "range", "min", "abs", "sum", "zip", "enumerate", "int"] : List Str)) (hb : bootBuiltins x = some (.type id))
    (hr : RefL g d sl (spliced (backTo pos (starEach args env))) r) (hne : ∃ e rest, args = e :: rest ∧ starEach (e :: rest) env = (false, eval e env) :: starEach rest env)
    (hplain : (backTo pos (starEach args env)).any (·.1) = false) (hd : (x == ("__debug__" : Str)) = false) (hA : AOk d A) (hm : r L H = some (vs, H')) (R : Rel g sl φ L H s.heap)
    {Q : Value → Shared → Prop} {E : Value → Shared → Prop} (K : ∀ xs s' φ', Step sl φ φ' s s' → Rel g sl φ' L H' s'.heap → VRs g s'.heap φ' vs xs → wpAny (model g.prog g.w) A (call (.type id) xs) Q E s') :
    wpAny (model g.prog g.w) A (eval (.Call (.Name x p) args [] pos) env) Q E s := by
  obtain ⟨g1, g2⟩ := g.bnone x hx
  refine wpAny_Call_NameR (Calls.Name_function_global he.kind hk (Calls.loadGlobal_builtin (mg := g.mg) (mb := g.mb) (by rw [he.globals]; exact g.hg.keeps R.H.base) g1 (by rw [he.builtins]; exact g.hB.keeps R.H.base) (g2.trans hb) ?_) hd)
  exact PySem.callWith_type hplain (evalArgs_L hr (vs := vs) (H' := H') hA hm R hne K)

mutual
theorem vr_more {h h' : Heap} {T : Addr} (hT : h.get? T = none) (k : ∀ b o, h.get? b = some o → h'.get? b = some o) : ∀ {v : V} {x : Value}, VR g h φ v x → VR g h' ⟨φ.l, fun b => φ.bad b ∨ b = T, φ.fro⟩ v x
  | .none, _, h => h
  | .bool _, _, h => h
  | .int _, _, h => h
  | .tup vs, x, h => by
    unfold VR at h ⊢
    obtain ⟨a, items, rfl, ⟨n, ht⟩, hb, hv⟩ := h
    refine ⟨a, items, rfl, ⟨n, k _ _ ht⟩, fun z => ?_, vrs_more hT k hv⟩
    rcases z with z | rfl
    · exact hb z
    · have ht' : _ = some _ := ht
      rw [hT] at ht'; cases ht'
  | .lst k, x, h => by unfold VR at h ⊢; exact h
  | .rng a b c, x, h => by
    unfold VR at h ⊢
    obtain ⟨r, t, u, v, rfl, hr, hb⟩ := h
    refine ⟨r, t, u, v, rfl, k _ _ hr, fun z => ?_⟩
    rcases z with z | rfl
    · exact hb z
    · have ht' : _ = some _ := hr
      rw [hT] at ht'; cases ht'
  | .fro vs, x, h => by
    unfold VR at h ⊢
    obtain ⟨a, items, rfl, ⟨n, hl⟩, hf, hv⟩ := h
    exact ⟨a, items, rfl, ⟨n, k _ _ hl⟩, hf, vrs_more hT k hv⟩
  | .fn k, x, h => by unfold VR at h ⊢; exact h
theorem vrs_more {h h' : Heap} {T : Addr} (hT : h.get? T = none) (k : ∀ b o, h.get? b = some o → h'.get? b = some o) : ∀ {vs : List V} {xs : List Value}, VRs g h φ vs xs → VRs g h' ⟨φ.l, fun b => φ.bad b ∨ b = T, φ.fro⟩ vs xs
  | [], _, h => by unfold VRs at h ⊢; exact h
  | v :: vs, xs, h => by
    unfold VRs at h ⊢
    obtain ⟨y, ys, rfl, hy, hys⟩ := h
    exact ⟨y, ys, rfl, vr_more hT k hy, vrs_more hT k hys⟩
end

theorem la_more {h h' : Heap} {T a : Addr} (hT : h.get? T = none) (k : ∀ b o, h.get? b = some o → h'.get? b = some o) {v : V} (x : LA g φ h a v) : LA g ⟨φ.l, fun b => φ.bad b ∨ b = T, φ.fro⟩ h' a v := by
  unfold LA at x ⊢
  split at x
  · exact x
  · obtain ⟨its, ⟨n, hl⟩, hf, q⟩ := x
    exact ⟨its, ⟨n, k _ _ hl⟩, hf, vrs_more hT k q⟩
  · cases x

theorem i_val {iter : Expr} {a : PE} (ha : RefE g d sl (eval iter env) a) : RefI g d sl iter env (valI a) := by
  refine ⟨fun A φ L H s it H' hA hm R Q E K => ?_⟩
  obtain ⟨r, hr, hm⟩ := Option.bind_eq_some_iff.mp hm
  split at hm
  · rename_i hok
    cases hm
    refine ha.use (v := r.1) (H' := r.2) hA hr R fun x s₁ φ₁ S₁ R₁ v₁ => ?_
    have hI : s.heap.get? s₁.heap.objs.size = none := S₁.none_of (get_none_size _)
    have fin : ∀ (o : Obj), StI g φ₁ (s₁.heap.push o) 0 s₁.heap.objs.size [s₁.heap.objs.size] (.val r.1) → Q (.ref s₁.heap.objs.size) { s₁ with heap := s₁.heap.push o } := fun o hS => by
      have k : ∀ b p, s₁.heap.get? b = some p → (s₁.heap.push o).get? b = some p := fun _ _ e => Heap.get?_push_of_some _ e
      have S₂ := Step.ext (φ := φ₁) (s := s₁) (tk := s₁.toks) k
      refine K _ [s₁.heap.objs.size] φ₁ _ ?_ (fun b hb => by rw [S₁.bad]; exact hb) (R₁.of_step0 S₂ (R₁.H.ext k)) hS (fun a ha => by rw [List.mem_singleton.mp ha]; exact hI)
      rw [Fi.eta S₁.bad]
      exact S₁.trans S₂.weaken
    have hsome : ∀ (o : Obj), o.isFreed = false → (s₁.heap.push o).get? s₁.heap.objs.size = some o := fun o h => Heap.get?_push_size _ h
    cases hv : r.1 with
    | lst k =>
      rw [hv] at v₁ fin
      unfold VR at v₁
      obtain ⟨ad, rfl, had⟩ := v₁
      obtain ⟨its, n, hl⟩ := R₁.H.isList (List.mem_of_getElem? had)
      exact wpAny_pyIter_list (IsL.isList hl) (fin _ ⟨rfl, ad, had, _, hsome _ rfl, rfl, rfl⟩)
    | fro vs =>
      rw [hv] at v₁ fin
      unfold VR at v₁
      obtain ⟨ad, its, rfl, ⟨n, hl⟩, hf, q⟩ := v₁
      exact wpAny_pyIter_list (IsL.isList hl) (fin _ ⟨rfl, ad, ⟨its, ⟨n, Heap.get?_push_of_some _ hl⟩, hf, q.mono (.of fun _ _ e => Heap.get?_push_of_some _ e) (Le.refl _)⟩, _, hsome _ rfl, rfl, rfl⟩)
    | tup vs =>
      rw [hv] at v₁ fin
      unfold VR at v₁
      obtain ⟨ad, its, rfl, ⟨n, ht⟩, nb, q⟩ := v₁
      exact wpAny_pyIter_tuple ⟨_, ht, rfl, n, rfl⟩ (fin _ ⟨rfl, ad, its, ⟨n, Heap.get?_push_of_some _ ht⟩, nb, q.mono (.of fun _ _ e => Heap.get?_push_of_some _ e) (Le.refl _), _, hsome _ rfl, rfl, rfl⟩)
    | rng a b c =>
      rw [hv] at v₁ fin hok
      unfold VR at v₁
      obtain ⟨rr, t, u, v, rfl, hrr, nb⟩ := v₁
      refine wpAny_pyIter_range hrr (okIt_small hok) (fin _ ⟨rfl, ?_⟩)
      have e1 : (a + ((0 : Nat) : Int) * c) = a := by simp
      have e2 : Builtin.Range.rangeSize a b c - ((0 : Nat) : Int) = Builtin.Range.rangeSize a b c := by simp
      rw [e1, e2]; exact hsome _ rfl
    | _ => rw [hv] at hok; cases hok
  · cases hm

theorem i_enum {e : Expr} {p pos : Pos} {a : PE} (he : EnvOk env) (hk : env.kindOf "enumerate" = some .globalImplicit) (ha : RefE g d sl (eval e env) a) (hs : starEach [e] env = (false, eval e env) :: starEach [] env)
    (hplain : (backTo pos (starEach [e] env)).any (·.1) = false) : RefI g d sl (.Call (.Name "enumerate" p) [e] [] pos) env (enumI a) := by
  refine ⟨fun A φ L H s it H' hA hm R Q E K => ?_⟩
  obtain ⟨r, hr, hm⟩ := Option.bind_eq_some_iff.mp hm
  split at hm
  · rename_i k hv
    cases hm
    refine tcall_use (id := "enumerate") (vs := [r.1]) (H' := r.2) he hk (by decide) Boot.«enumerate» (l_cons ha l_nil hs) ⟨e, [], rfl, hs⟩ hplain (by decide) hA (show (consL a nilL) L H = _ by unfold consL nilL; rw [hr]; rfl) R fun xs s₁ φ₁ S₁ R₁ q => ?_
    obtain ⟨x, rfl, v₁⟩ := q.inv1
    obtain ⟨ad, rfl, had⟩ := LA.of v₁ hv
    obtain ⟨its, n, hl⟩ := had.isList R₁.H
    refine call_enumerate_list (IsL.isList hl) fun h' hE hI hsz hkp => wpAny_pyIter_enum hE ?_
    have S₂ := Step.ext (φ := φ₁) (s := s₁) (tk := s₁.toks) hkp
    have nn : ∀ b, s₁.heap.objs.size ≤ b → s.heap.get? b = none := fun b hb => S₁.none_of (by
      cases e : s₁.heap.get? b with
      | none => rfl
      | some o => exact absurd (Heap.lt_size e) (Nat.not_lt.mpr hb))
    refine K _ [s₁.heap.objs.size + 1, s₁.heap.objs.size] φ₁ _ ?_ (fun b hb => by rw [S₁.bad]; exact hb) (R₁.of_step0 S₂ (R₁.H.ext hkp)) ⟨_, ad, _, rfl, Nat.succ_ne_self _, had.keep (.of hkp) (Le.refl _), hE, hI⟩ (fun a ha => ?_)
    · rw [Fi.eta S₁.bad]; exact S₁.trans S₂.weaken
    · rcases List.mem_cons.mp ha with rfl | ha
      · exact nn _ (Nat.le_succ _)
      · rw [List.mem_singleton.mp ha]; exact nn _ (Nat.le_refl _)
  · cases hm

theorem i_zip {e f : Expr} {p pos : Pos} {a b : PE} (he : EnvOk env) (hk : env.kindOf "zip" = some .globalImplicit) (ha : RefE g d sl (eval e env) a) (hb : RefE g d sl (eval f env) b)
    (hs : starEach [e, f] env = (false, eval e env) :: starEach [f] env) (hs2 : starEach [f] env = (false, eval f env) :: starEach [] env)
    (hplain : (backTo pos (starEach [e, f] env)).any (·.1) = false) : RefI g d sl (.Call (.Name "zip" p) [e, f] [] pos) env (zipI a b) := by
  refine ⟨fun A φ L H s it H' hA hm R Q E K => ?_⟩
  obtain ⟨r, hr, hm⟩ := Option.bind_eq_some_iff.mp hm
  obtain ⟨r2, hr2, hm⟩ := Option.bind_eq_some_iff.mp hm
  split at hm
  · rename_i j k hv hv2
    cases hm
    refine tcall_use (id := "zip") (vs := [r.1, r2.1]) (H' := r2.2) he hk (by decide) Boot.«zip» (l_cons ha (l_cons hb l_nil hs2) hs) ⟨e, [f], rfl, hs⟩ hplain (by decide) hA (show (consL a (consL b nilL)) L H = _ by unfold consL nilL; rw [hr]; simp only [Option.bind_some]; rw [hr2]; rfl) R fun xs s₁ φ₁ S₁ R₁ q => ?_
    obtain ⟨x, y, rfl, v₁, v₂⟩ := q.inv2
    obtain ⟨ad, rfl, had⟩ := LA.of v₁ hv
    obtain ⟨bd, rfl, hbd⟩ := LA.of v₂ hv2
    obtain ⟨its, n, hl⟩ := had.isList R₁.H
    obtain ⟨its2, n2, hl2⟩ := hbd.isList R₁.H
    refine call_zip_2 (IsL.isList hl) (IsL.isList hl2) fun h' hz hTI hTO h1 h2 hsz hkp => wpAny_pyIter_zip hz ?_
    have S₂ := Step.ext (φ := φ₁) (s := s₁) (tk := s₁.toks) hkp
    have nn1 : ∀ b, s₁.heap.objs.size ≤ b → s₁.heap.get? b = none := fun b hb => by
      cases e : s₁.heap.get? b with
      | none => rfl
      | some o => exact absurd (Heap.lt_size e) (Nat.not_lt.mpr hb)
    have nn : ∀ b, s₁.heap.objs.size ≤ b → s.heap.get? b = none := fun b hb => S₁.none_of (nn1 b hb)
    -- the zip's own tuple is set apart
    let φz : Fi := ⟨φ₁.l, fun b => φ₁.bad b ∨ b = s₁.heap.objs.size + 3, φ₁.fro⟩
    have KT : ∀ {v : V} {x : Value}, VR g s₁.heap φ₁ v x → VR g h' φz v x := fun {v x} q => vr_more (nn1 _ (by omega)) hkp q
    have R₂ : Rel g sl φz L r2.2 h' := by
      have R' := R₁.of_step0 S₂ (R₁.H.ext hkp)
      have RH := R₁.H
      refine ⟨⟨R'.H.base, R'.H.len, R'.H.nodup, R'.H.new, fun b hb => ?_, R'.H.froIs, fun i a vs hi hv => ?_⟩, R'.llen, fun i sk hi => ⟨(R'.slots i sk hi).1, ?_⟩, R'.apart⟩
      · rcases hb with hb | rfl
        · exact R'.H.badIn b hb
        · have : h'.get? (s₁.heap.objs.size + 3) = some _ := hTO
          rw [this]; rfl
      · obtain ⟨its, ⟨m, hl⟩, q⟩ := RH.lists i a vs hi hv
        exact ⟨its, ⟨m, hkp _ _ hl⟩, vrs_more (nn1 _ (by omega)) hkp q⟩
      · have q := (R₁.slots i sk hi).2
        unfold SlotOk at q ⊢
        split
        · rename_i e
          rw [e] at q
          obtain ⟨o, ⟨ob, ho, hd⟩, hq⟩ := q
          exact ⟨o, ⟨ob, hkp _ _ ho, hd⟩, fun w hw => let ⟨z, hz, qz⟩ := hq w hw; ⟨z, hz, KT qz⟩⟩
        · rename_i e
          rw [e] at q
          obtain ⟨m, hn, hq⟩ := q
          exact ⟨m, hn.keeps hkp, fun w hw => let ⟨z, hz, qz⟩ := hq w hw; ⟨z, hz, KT qz⟩⟩
    refine K _ [s₁.heap.objs.size + 4, s₁.heap.objs.size + 3, s₁.heap.objs.size, s₁.heap.objs.size + 1] φz _ ?_ (fun b hb => .inl (by rw [S₁.bad]; exact hb)) R₂
      ⟨s₁.heap.objs.size + 2, _, _, _, ad, bd, _, _, rfl, Nat.ne_of_lt (Nat.lt_succ_self _), (Nat.succ_ne_self _).symm, la_more (nn1 _ (by omega)) hkp had, la_more (nn1 _ (by omega)) hkp hbd, hz, hTI, hTO, h1, h2, .inr rfl⟩ (fun a ha => ?_)
    · have : (⟨φz.l, φ.bad, φz.fro⟩ : Fi) = φ₁ := Fi.eta S₁.bad
      rw [this]; exact S₁.trans S₂.weaken
    · simp at ha
      rcases ha with rfl | rfl | rfl | rfl <;> exact nn _ (by omega)
  · cases hm
end
/-- names written one beside the other -/
inductive Names : List Expr → List Str → Prop
  | nil : Names [] []
  | cons {x : Str} {p : Pos} {es : List Expr} {xs : List Str} : Names es xs → Names (.Name x p :: es) (x :: xs)

structure RefT (g : G) (d : Nat) (sl : List Slot) (target : Expr) (env : Env) (tg : Tg) : Prop where
  run : ∀ (A : Around) (φ : Fi) (L : Loc) (H : Hp) (s : Shared) (v : V) (y : Value) (L1 : Loc), AOk d A → tg v L H = some L1 → Rel g sl φ L H s.heap → VR g s.heap φ v y → ∀ (Q : Unit → Shared → Prop) (E : Value → Shared → Prop),
    (∀ s', Step sl φ φ s s' → Rel g sl φ L1 H s'.heap → Q () s') → wpAny (model g.prog g.w) A (assign target env y) Q E s

section
variable {g : G} {d : Nat} {sl : List Slot} {A : Around} {φ φ' : Fi} {L L' : Loc} {H H' : Hp} {s : Shared} {env : Env}

theorem t_name {x : Str} {p : Pos} {k : Nat} (he : EnvOk env) (ha : At env sl x k) : RefT g d sl (.Name x p) env (tgN k) := by
  refine ⟨fun A φ L H s v y L1 hA hm R hv Q E K => ?_⟩
  cases hm
  exact PySem.wpAny_assign_Name (store_use he ha R hv fun s' S R' _ => K s' S R')

theorem names_each : ∀ {es : List Expr} {xs : List Str}, Names es xs → (assignEach es env).length = xs.length ∧ (assignEach es env).findIdx? (·.1) = none ∧
    ∀ (i : Nat) (x : Str), xs[i]? = some x → ∃ t, ((assignEach es env).map (·.2))[i]? = some t ∧ ∀ (A : Around) (s : Shared) (y : Value) (Q : Unit → Shared → Prop) (E : Value → Shared → Prop), wpAny (model g.prog g.w) A (storeName env x y) Q E s → wpAny (model g.prog g.w) A (t y) Q E s
  | _, _, .nil => ⟨rfl, rfl, fun i x h => by simp at h⟩
  | _, _, .cons (x := x) (p := p) (es := es) (xs := xs) h => by
    obtain ⟨h1, h2, h3⟩ := names_each h
    have e : assignEach (.Name x p :: es) env = (false, assign (.Name x p) env) :: assignEach es env := rfl
    refine ⟨by rw [e]; simp [h1], by rw [e, List.findIdx?_cons]; simp [h2], fun i z hz => ?_⟩
    rw [e]
    cases i with
    | zero =>
      simp at hz; subst hz
      exact ⟨_, rfl, fun A s y Q E hh => PySem.wpAny_assign_Name hh⟩
    | succ i => exact h3 i z (by simpa using hz)

theorem unpV_length {v : V} {n : Nat} {vs : List V} (h : unpV v H n = some vs) : vs.length = n := by
  unfold unpV at h
  split at h
  · split at h
    · cases h; assumption
    · cases h
  · obtain ⟨ws, _, h⟩ := Option.bind_eq_some_iff.mp h
    split at h
    · cases h; assumption
    · cases h

theorem assign_tuple {es : List Expr} {k : Nat} {pos : Pos} {xs : List Str} {ks : List Nat} {v : V} {y : Value} {vs : List V} (he : EnvOk env) (hn : Names es xs) (ha : AtAll env sl xs ks) (hA : AOk d A) (hm : unpV v H ks.length = some vs) (R : Rel g sl φ L H s.heap) (hv : VR g s.heap φ v y)
    {Q : Unit → Shared → Prop} {E : Value → Shared → Prop} (K : ∀ s', Step sl φ φ s s' → Rel g sl φ (setMany ks vs L) H s'.heap → Q () s') : wpAny (model g.prog g.w) A (assign (.Tuple es k pos) env y) Q E s := by
  obtain ⟨h1, h2, h3⟩ := names_each (g := g) (env := env) hn
  rw [arm_assign_Tuple]
  refine wpAny_bind (wpAny_standAt ?_)
  unfold unpack
  rw [h1, h2, ha.length]
  have hl := unpV_length hm
  refine wpAny_bind (wpAny_holding (unp_use hA hm R hv fun ys s₁ S₁ R₁ q => ?_))
  exact names_in_order he ha (by rw [ha.length, hl]) h3 (by rw [List.length_map, h1]) R₁ q fun s₂ S₂ R₂ => K s₂ (S₁.trans S₂) R₂

theorem t_tuple {es : List Expr} {k : Nat} {pos : Pos} {xs : List Str} {ks : List Nat} (he : EnvOk env) (hn : Names es xs) (ha : AtAll env sl xs ks) : RefT g d sl (.Tuple es k pos) env (tgT ks) := by
  refine ⟨fun A φ L H s v y L1 hA hm R hv Q E K => ?_⟩
  obtain ⟨vs, hvs, e⟩ := Option.map_eq_some_iff.mp hm
  subst e
  exact assign_tuple he hn ha hA hvs R hv K

theorem s_unp {es : List Expr} {k : Nat} {tpos pos : Pos} {value : Expr} {xs : List Str} {ks : List Nat} {a : PE} (he : EnvOk env) (hn : Names es xs) (ha : AtAll env sl xs ks) (h : RefE g d sl (eval value env) a)
    (hs : swapsWithSole [.Tuple es k tpos] value pos.line env = pure false) (hw : swappedStores [.Tuple es k tpos] value env = pure none) : RefS g d sl (exec (.Assign [.Tuple es k tpos] value pos) env) (unpS ks a) := by
  refine ⟨fun A φ L H s f L' H' hA hm R => ?_⟩
  obtain ⟨r, hr, hm⟩ := Option.bind_eq_some_iff.mp hm
  obtain ⟨vs, hvs, e⟩ := Option.map_eq_some_iff.mp hm
  cases e
  refine Assign_Tuple (h.use (v := r.1) (H' := r.2) hA hr R fun y s₁ φ₁ S₁ R₁ v₁ => ?_) hs hw
  exact assign_tuple he hn ha hA hvs R₁ v₁ fun s₂ S₂ R₂ => ⟨φ₁, S₁.trans S₂, R₂, rfl⟩

theorem s_swp {es : List Expr} {k : Nat} {tpos pos : Pos} {value : Expr} {xs : List Str} {ks : List Nat} {a : PE} (he : EnvOk env) (ha : AtAll env sl xs ks) (h : RefE g d sl (eval value env) a)
    (hs : swapsWithSole [.Tuple es k tpos] value pos.line env = pure false) (hw : swappedStores [.Tuple es k tpos] value env = pure (some xs)) : RefS g d sl (exec (.Assign [.Tuple es k tpos] value pos) env) (swpS ks a) := by
  refine ⟨fun A φ L H s f L' H' hA hm R => ?_⟩
  obtain ⟨r, hr, hm⟩ := Option.bind_eq_some_iff.mp hm
  obtain ⟨vs, hvs, e⟩ := Option.map_eq_some_iff.mp hm
  cases e
  refine Assign_Tuple_swapped (h.use (v := r.1) (H' := r.2) hA hr R fun y s₁ φ₁ S₁ R₁ v₁ => ?_) hs hw
  rw [ha.length]
  have hl := unpV_length hvs
  refine unp_use hA hvs R₁ v₁ fun ys s₂ S₂ R₂ q => ?_
  refine names_in_order he ha.reverse (by simp [ha.length, hl]) (fun i x hx => ?_) (by simp) R₂ q.reverse fun s₃ S₃ R₃ => ⟨φ₁, S₁.trans (S₂.trans S₃), R₃, rfl⟩
  refine ⟨bindName env x, by rw [List.getElem?_map, hx]; rfl, fun A s y Q E hh => wpAny_bindName hh⟩

/-! while -/
noncomputable def whileL (t : PB) (b : PS) : Nat → PS
  | 0 => fun _ _ => none
  | n + 1 => fun L H => (t L H).bind fun r => if r.1 then (b L r.2).bind fun q => match q.1 with
      | .next => whileL t b n q.2.1 q.2.2
      | .ret w => some (.ret w, q.2)
    else some (.next, L, r.2)
noncomputable def whileS (t : PB) (b : PS) : PS := whileL t b 1000

theorem s_while {test : Expr} {body : List Stmt} {pos : Pos} {t : PB} {b : PS} (h0 : RefB g d sl (isTrue test env (eval test env)) t) (h1 : RefS g d sl (execs body env) b) : RefS g d sl (exec (.While test body [] pos) env) (whileS t b) := by
  refine ⟨fun A φ L H s f L' H' hA hm R => ?_⟩
  refine wpAny_While (codeAny_whileLoop (fun n s' => ∃ φ1 L1 H1, Step sl φ φ1 s s' ∧ Rel g sl φ1 L1 H1 s'.heap ∧ whileL t b n L1 H1 = some (f, L', H')) (fun n s' hI => ?_) 1000 ⟨φ, L, H, Step.refl .., R, hm⟩)
  obtain ⟨φ1, L1, H1, S1, R1, hm1⟩ := hI
  cases n with
  | zero => cases hm1
  | succ n =>
    unfold whileL at hm1
    obtain ⟨r, hr, hm1⟩ := Option.bind_eq_some_iff.mp hm1
    refine h0.use (v := r.1) (H' := r.2) hA hr R1 fun bv s₂ φ2 S2 R2 v2 => ?_
    have v2 : r.1 = bv := v2
    subst v2
    split
    · rename_i e
      rw [if_pos e] at hm1
      obtain ⟨⟨q1, Lq, Hq⟩, hq, hm1⟩ := Option.bind_eq_some_iff.mp hm1
      refine h1.use (f := q1) (L' := Lq) (H' := Hq) hA hq R2 fun x s₃ φ3 S3 R3 q3 => ?_
      cases q1 with
      | next =>
        have q3 : x = .next := q3
        subst q3
        exact ⟨n, Nat.lt_succ_self _, φ3, _, _, (S1.trans S2).trans S3, R3, hm1⟩
      | ret w =>
        cases hm1
        obtain ⟨y, rfl, qy⟩ := q3
        exact ⟨φ3, (S1.trans S2).trans S3, R3, y, rfl, qy⟩
    · rename_i e
      rw [if_neg e] at hm1
      cases hm1
      exact wpAny_execs_nil ⟨φ2, S1.trans S2, R2, rfl⟩

/-! for -/
theorem Step.rebad {s' : Shared} (S : Step sl φ φ' s s') (B : Addr → Prop) : Step sl ⟨φ.l, B, φ.fro⟩ ⟨φ'.l, B, φ'.fro⟩ s s' :=
  ⟨S.same, ⟨S.pre.1, fun _ h => h, S.pre.2.2⟩, rfl, S.dom, S.fresh, S.kept, S.ffresh⟩

theorem Step.thenBut {s₁ s₂ : Shared} {pr : List Addr} (S : Step sl φ φ' s s₁) (hp : ∀ a ∈ pr, s.heap.get? a = none) (b : But pr s₁ s₂) : Step sl φ φ' s s₂ := by
  have out : ∀ b, (s.heap.get? b).isSome = true → b ∉ pr := fun b h z => by rw [hp b z] at h; cases h
  refine ⟨?_, S.pre, S.bad, fun x hx => ?_, S.fresh, fun x o e h1 h2 => b.kept x o (out x (by rw [e]; rfl)) (S.kept x o e h1 h2), S.ffresh⟩
  · obtain ⟨h, tk, rfl⟩ := S.same
    obtain ⟨h', tk', rfl⟩ := b.same
    exact ⟨h', tk', rfl⟩
  · obtain ⟨o, ho⟩ := Option.isSome_iff_exists.mp (S.dom x hx)
    rw [b.kept x o (out x hx) ho]; rfl

theorem s_for {target iter : Expr} {body : List Stmt} {pos : Pos} {it : PI} {tg : Tg} {b : PS} (hi : RefI g d sl iter env it) (ht : RefT g d sl target env tg) (hb : RefS g d sl (execs body env) b)
    (htg : ∀ i, (∃ L H H', it L H = some (i, H')) → tgOk i target) (hs : ∀ x, foldedSetIterable iter env x = pure x) : RefS g d sl (exec (.For target iter body [] pos) env) (forS it tg b) := by
  refine ⟨fun A φ L H s f L' H' hA hm R => ?_⟩
  obtain ⟨r, hr, hm⟩ := Option.bind_eq_some_iff.mp hm
  have htok := htg r.1 ⟨L, H, r.2, hr⟩
  refine wpAny_For (hi.run A φ L H s r.1 r.2 hA hr R _ _ fun I pr φ1 s1 S1 hB1 R1 St1 hpr => ?_) hs
  have hpb : ∀ a ∈ pr, g.hb.get? a = none := fun a ha => by
    cases e : g.hb.get? a with
    | none => rfl
    | some o => have := R.H.base a o e; rw [hpr a ha] at this; cases this
  have hps : ∀ sk ∈ sl, sk.addr ∉ pr := fun sk hk z => by
    obtain ⟨o, ho, _⟩ := R.slotObj hk
    rw [hpr _ z] at ho; cases ho
  refine codeAny_forLoop_any (fun n s' => ∃ φc Lc Hc i, Step sl φ ⟨φc.l, φ.bad, φc.fro⟩ s s' ∧ φc.bad = φ1.bad ∧ Rel g sl φc Lc Hc s'.heap ∧ StI g φc s'.heap i I pr r.1 ∧ forL r.1 tg b n i Lc Hc = some (f, L', H')) (fun n s' hI => ?_) 1000
    ⟨φ1, L, r.2, 0, S1, rfl, R1, St1, hm⟩
  obtain ⟨φc, Lc, Hc, i, Sc, hBc, Rc, Stc, hmc⟩ := hI
  have hBsub : ∀ b, φ.bad b → φc.bad b := fun b hb => by rw [hBc]; exact hB1 b hb
  cases n with
  | zero => cases hmc
  | succ n =>
    unfold forL at hmc
    obtain ⟨o, ho, hmc⟩ := Option.bind_eq_some_iff.mp hmc
    refine wpAny_mono (next_use (target := target) htok hA ho Rc Stc) (fun rr s₁ hrr => ?_) (fun _ _ f => f.elim)
    cases rr with
    | none =>
      obtain ⟨rfl, hbut⟩ := hrr
      cases hmc
      refine wpAny_execs_nil ?_
      have S2 := Sc.thenBut hpr hbut
      obtain ⟨R2, _⟩ := Rc.pass Stc hpb hps hbut hBsub (fun b hb => by
        exact S2.dom b (R.H.badIn b hb))
      exact ⟨_, S2, R2, rfl⟩
    | some y =>
      obtain ⟨v, rfl, hrr⟩ := hrr
      obtain ⟨L1, hL1, hmc⟩ := Option.bind_eq_some_iff.mp hmc
      obtain ⟨⟨q1, Lq, Hq⟩, hq, hmc⟩ := Option.bind_eq_some_iff.mp hmc
      refine wpAny_mono hrr (fun _ s₂ h2 => ?_) (fun _ _ f => f.elim)
      obtain ⟨hbut, hv, St2⟩ := h2
      have S2 := Sc.thenBut hpr hbut
      have hbd : ∀ b, φc.bad b → (s₂.heap.get? b).isSome = true := fun b hb => by
        by_cases z : b ∈ pr
        · obtain ⟨o, ho, _⟩ := St2.priv b z
          rw [ho]; rfl
        · obtain ⟨o, ho⟩ := Option.isSome_iff_exists.mp (Rc.H.badIn b hb)
          rw [hbut.kept b o z ho]; rfl
      obtain ⟨R2, _⟩ := Rc.pass (B := φc.bad) Stc hpb hps hbut (fun _ h => h) hbd
      have R2 : Rel g sl φc Lc Hc s₂.heap := R2
      refine ht.run A φc Lc Hc s₂ v y L1 hA hL1 R2 hv _ _ fun s₃ S3 R3 => ?_
      refine hb.use (f := q1) (L' := Lq) (H' := Hq) hA hq R3 fun x s₄ φ4 S4 R4 q4 => ?_
      have S34 := S3.trans S4
      have Sall : Step sl φ ⟨φ4.l, φ.bad, φ4.fro⟩ s s₄ := S2.trans (S34.rebad φ.bad)
      cases q1 with
      | next =>
        have q4 : x = .next := q4
        subst q4
        exact ⟨n, Nat.lt_succ_self _, φ4, _, _, i + 1, Sall, S34.bad.trans hBc, R4, St2.keep (R2.keepA S34) S34.pre S34.bad, hmc⟩
      | ret w =>
        cases hmc
        obtain ⟨z, rfl, qz⟩ := q4
        have hB4 : ∀ b, φ.bad b → φ4.bad b := fun b hb => by rw [S34.bad]; exact hBsub b hb
        obtain ⟨R5, K5⟩ := R4.leave (B := φ.bad) (h' := s₄.heap) [] (fun _ h => nomatch h) (fun _ _ h => nomatch h) (fun _ _ _ e => e) hB4 (fun b hb => R4.H.badIn b (hB4 b hb))
        exact ⟨_, Sall, R5, z, rfl, VR.mono (φ' := ⟨φ4.l, φ.bad, φ4.fro⟩) K5 ⟨List.prefix_refl _, hB4, fun _ h => h⟩ qz⟩
end
noncomputable def compL (it : It) (t : PB) (a : PE) (k0 : Nat) : Nat → Nat → Loc → Hp → Option Hp
  | 0, _, _, _ => none
  | n + 1, i, L, H => (nx it i H).bind fun o => match o with
    | none => some H
    | some v => (t (L ++ [some v]) H).bind fun b => if b.1 then (a (L ++ [some v]) b.2).bind fun r => (r.2[k0]?).bind fun xs => if lenOk xs.length then compL it t a k0 n (i + 1) L (r.2.set k0 (xs ++ [r.1])) else none
      else compL it t a k0 n (i + 1) L b.2
noncomputable def compE (it : PI) (t : PB) (a : PE) : PE := fun L H => (it L H).bind fun r => (compL r.1 t a r.2.length 1000 0 L (r.2 ++ [[]])).map fun H' => (.lst r.2.length, H')
noncomputable def trueB : PB := fun _ H => some (true, H)

noncomputable abbrev testsOf (ifs : List Expr) (env : Env) : Sem Bool :=
  forIn ifs true fun c r => if r = true then do let ok ← isTrue c env (eval c env); pure (ForInStep.yield ok) else pure (ForInStep.yield r)

section
variable {g : G} {d : Nat} {sl : List Slot} {A : Around} {φ φ' : Fi} {L L' : Loc} {H H' : Hp} {s : Shared} {env : Env}

theorem tests_0 {env : Env} : RefB g d sl (testsOf [] env) trueB := by
  refine ⟨fun A φ L H s v H' hA hm R => ?_⟩
  cases hm
  exact wpAny_pure ⟨φ, Step.refl .., R, rfl⟩
theorem tests_1 {env : Env} {c : Expr} {t : PB} (h : RefB g d sl (isTrue c env (eval c env)) t) : RefB g d sl (testsOf [c] env) t := by
  refine ⟨fun A φ L H s v H' hA hm R => ?_⟩
  exact wpAny_tests_one (h.run A φ L H s v H' hA hm R)

theorem wpAny_with {α : Type} {M : Model} {t : Sem α} {Q : α → Shared → Prop} {E : Value → Shared → Prop} (h : (∀ {Q : Unit → Shared → Prop} {E : Value → Shared → Prop} {s : Shared}, wpAny M A (pure ()) Q E s → Q () s) → wpAny M A t Q E s) : wpAny M A t Q E s :=
  fun Γ p hΓ => h (fun w => w Γ p hΓ) Γ p hΓ

/-- a step of a frame within: its own new slot is not of s -/
theorem Step.inner {sl' : List Slot} {φ₁ φ₂ φ₃ : Fi} {s₁ s₂ s₃ : Shared} (x : Step sl φ₁ φ₂ s₁ s₂) (y : Step (sl ++ sl') φ₂ φ₃ s₂ s₃) (hn : ∀ sk ∈ sl', s₁.heap.get? sk.addr = none) : Step sl φ₁ φ₃ s₁ s₃ where
  same := by
    obtain ⟨h, tk, rfl⟩ := x.same
    obtain ⟨h', tk', rfl⟩ := y.same
    exact ⟨h', tk', rfl⟩
  pre := x.pre.trans y.pre
  bad := y.bad.trans x.bad
  dom := fun b h => y.dom b (x.dom b h)
  fresh := fun a ha => by
    rcases y.fresh a ha with h | h
    · exact x.fresh a h
    · exact .inr (x.none_of h)
  kept := fun b o e hb hs => by
    refine y.kept b o (x.kept b o e hb hs) (fun hm => ?_) (fun sk hk => ?_)
    · rcases x.fresh b hm with h | h
      · exact hb h
      · rw [h] at e; cases e
    · rcases List.mem_append.mp hk with hk | hk
      · exact hs sk hk
      · rintro rfl; rw [hn sk hk] at e; cases e
  ffresh := fun b hb => by
    rcases y.ffresh b hb with h | h
    · exact x.ffresh b h
    · exact .inr (x.none_of h)

theorem StI.self {i : Nat} {I : Addr} {pr : List Addr} {it : It} {Q : Value → Shared → Prop} {E : Value → Shared → Prop} (S : StI g φ s.heap i I pr it) (h : Q (.ref I) s) : wpAny (model g.prog g.w) A (pyIter (.ref I)) Q E s := by
  unfold StI at S
  split at S
  · obtain ⟨_, a, _, hi⟩ := S
    exact wpAny_pyIter_listiter hi h
  · obtain ⟨_, a, _, hi⟩ := S
    exact wpAny_pyIter_listiter hi h
  · obtain ⟨_, a, its, _, _, _, hi⟩ := S
    exact wpAny_pyIter_tupleiter hi h
  · exact wpAny_pyIter_rangeiter S.2 h
  · obtain ⟨t, a, old, _, _, _, he, _⟩ := S
    exact wpAny_pyIter_enum he h
  · obtain ⟨TI, TO, i1, i2, l1, l2, x, y, _, _, _, _, _, hz, _⟩ := S
    exact wpAny_pyIter_zip hz h
  · cases S


theorem append_L {l : Addr} {its : Array Value} {n : Nat} {x : Value} {Q : Value → Shared → Prop} {E : Value → Shared → Prop} (hl : IsL s.heap l its n) (hsz : its.size ≤ sizeLine) (h : Q .none { s with heap := s.heap.update l (Obj.mapSeq fun xs => xs.push x) }) :
    wpAny (model g.prog g.w) A (call (.builtin "list.append") [.ref l, x]) Q E s := by
  refine wpAny_call_entry slot_list_append (IsL.isList hl).typeIs entry_list_append ?_ (args_list_append _ _)
  show wpAny _ _ (updateSeq l (fun xs => xs.push x) >>= fun _ => ret .none) _ _ s
  exact wpAny_bind (wpAny_updateSeq hl rfl (wpAny_pure ⟨.none, rfl, h⟩) (by omega) (by rw [Array.size_push]; omega))

theorem comp_loop {elt iter : Expr} {x : Str} {px : Pos} {ifs : List Expr} {scope : Scope} {cl : List (Str × Addr)} {pos : Pos} {t : PB} {a : PE} {v0 : V} {I C D : Addr} {pr : List Addr} {ov : Option V} {k0 : Nat} {Hf : Hp}
    {φ1 : Fi} {H1 : Hp} {s1 : Shared} {R : Result → Shared → Prop} (hx : scope.names.lookup x = some .local)
    (ht : RefB g d (sl ++ [⟨x, false, C⟩]) (testsOf ifs (compEnvC scope cl C env)) t) (ha : RefE g d (sl ++ [⟨x, false, C⟩]) (eval elt (compEnvC scope cl C env)) a) (he : EnvOk (compEnvC scope cl C env))
    (hA : AOk d A) (hlen : L.length = sl.length) (S1 : Step sl φ ⟨φ1.l, φ.bad, φ1.fro⟩ s s1) (hB1 : ∀ b, φ.bad b → φ1.bad b) (R1 : Rel g (sl ++ [⟨x, false, C⟩]) φ1 (L ++ [ov]) H1 s1.heap)
    (St1 : StI g φ1 s1.heap 0 I pr (.val v0)) (hpr : ∀ b ∈ pr, s.heap.get? b = none) (hpb : ∀ b ∈ pr, g.hb.get? b = none) (hps : ∀ sk ∈ sl ++ [⟨x, false, C⟩], sk.addr ∉ pr) (hC : s.heap.get? C = none) (hb0 : ∀ b, φ.bad b → (s.heap.get? b).isSome = true)
    (hD : φ1.l[k0]? = some D) (hm : compL (.val v0) t a k0 1000 0 L H1 = some Hf)
    (K : ∀ φc ov' s', Step sl φ ⟨φc.l, φ.bad, φc.fro⟩ s s' → (∀ b, φ.bad b → φc.bad b) → Rel g (sl ++ [⟨x, false, C⟩]) φc (L ++ [ov']) Hf s'.heap → φc.l[k0]? = some D → R (.ok .next) s') :
    codeAny (model g.prog g.w) A (.compLoop (.ListComp elt [⟨.Name x px, iter, ifs, 0⟩] scope pos) 0 (.ref I) (.ref D) (compEnvC scope cl C env)) R s1 := by
  have hat : At (compEnvC scope cl C env) (sl ++ [⟨x, false, C⟩]) x sl.length := .loc (lookup_relabel_local hx) (by simp [compEnvC])
  have hset : ∀ {ov : Option V} {v : V}, (L ++ [ov]).set sl.length (some v) = L ++ [some v] := by
    intro ov v
    rw [← hlen]; simp
  refine codeAny_compLoop_tests (fun n s' => ∃ φc Hc ov' i, Step sl φ ⟨φc.l, φ.bad, φc.fro⟩ s s' ∧ φc.bad = φ1.bad ∧ Rel g (sl ++ [⟨x, false, C⟩]) φc (L ++ [ov']) Hc s'.heap ∧ φc.l[k0]? = some D ∧ StI g φc s'.heap i I pr (.val v0) ∧
    compL (.val v0) t a k0 n i L Hc = some Hf) (fun n s' hI => ?_) 1000 ⟨φ1, H1, ov, 0, S1, rfl, R1, hD, St1, hm⟩
  obtain ⟨φc, Hc, ov', i, Sc, hBc, Rc, hDc, Stc, hmc⟩ := hI
  have hBsub : ∀ b, φ.bad b → φc.bad b := fun b hb => by rw [hBc]; exact hB1 b hb
  cases n with
  | zero => cases hmc
  | succ n =>
    unfold compL at hmc
    obtain ⟨o, ho, hmc⟩ := Option.bind_eq_some_iff.mp hmc
    refine wpAny_with fun inv => ?_
    refine wpAny_mono (next_val (target := .Name x px) hA ho Rc Stc) (fun rr s₁ hrr => ?_) (fun _ _ f => f.elim)
    cases rr with
    | none =>
      obtain ⟨rfl, hbut⟩ := hrr
      cases hmc
      have S2 := Sc.thenBut hpr hbut
      obtain ⟨R2, _⟩ := Rc.pass Stc hpb hps hbut hBsub (fun b hb => S2.dom b (hb0 b hb))
      exact K ⟨φc.l, φ.bad, φc.fro⟩ ov' s₁ S2 (fun _ h => h) R2 hDc
    | some y =>
      obtain ⟨v, rfl, hrr⟩ := hrr
      have h2 := inv hrr
      obtain ⟨b0, hb0, hmc⟩ := Option.bind_eq_some_iff.mp hmc
      obtain ⟨hbut, hv, St2⟩ := h2
      have S2 := Sc.thenBut hpr hbut
      have hbd : ∀ b, φc.bad b → (s₁.heap.get? b).isSome = true := fun b hb => by
        by_cases z : b ∈ pr
        · obtain ⟨o, ho, _⟩ := St2.priv b z
          rw [ho]; rfl
        · obtain ⟨o, ho⟩ := Option.isSome_iff_exists.mp (Rc.H.badIn b hb)
          rw [hbut.kept b o z ho]; rfl
      obtain ⟨R2, _⟩ := Rc.pass (B := φc.bad) Stc hpb hps hbut (fun _ h => h) hbd
      have R2 : Rel g (sl ++ [⟨x, false, C⟩]) φc (L ++ [ov']) Hc s₁.heap := R2
      refine wpAny_assign_Name (store_use he hat R2 hv fun s₃ S3 R3 _ => ?_)
      rw [hset] at R3
      refine ht.use (v := b0.1) (H' := b0.2) hA hb0 R3 fun ok s₄ φ4 S4 R4 q4 => ?_
      have q4 : b0.1 = ok := q4
      subst q4
      have hsl : ∀ sk ∈ ([⟨x, false, C⟩] : List Slot), s.heap.get? sk.addr = none := fun sk hk => by rw [List.mem_singleton.mp hk]; exact hC
      have S34 := S3.trans S4
      split
      · rename_i hok
        rw [if_pos hok] at hmc
        obtain ⟨r, hr, hmc⟩ := Option.bind_eq_some_iff.mp hmc
        obtain ⟨xs, hxs, hmc⟩ := Option.bind_eq_some_iff.mp hmc
        split at hmc
        · rename_i hlo
          refine ha.use (v := r.1) (H' := r.2) hA hr R4 fun z s₅ φ5 S5 R5 v5 => ?_
          have S35 := S34.trans S5
          have had := prefix_get S35.pre.1 hDc
          obtain ⟨its, ⟨m, hl⟩, q⟩ := R5.H.lists _ _ _ had hxs
          have e3 := q.length
          simp at e3
          obtain ⟨S6, R6⟩ := set_list (f := fun xs => xs.push z) (its' := its.push z) (vs := xs ++ [r.1]) (tk := s₅.toks) R5 had hl rfl (by rw [Array.toList_push]; exact q.append (VRs.one v5))
          refine append_L hl (by rw [← e3]; exact lenOk_line hlo) ?_
          have S36 := S35.trans S6.weaken
          exact ⟨n, Nat.lt_succ_self _, φ5, _, some v, i + 1, S2.inner (S36.rebad φ.bad) hsl, S36.bad.trans hBc, R6, had, St2.keep (R2.keepA S36) S36.pre S36.bad, hmc⟩
        · cases hmc
      · rename_i hok
        rw [if_neg hok] at hmc
        exact ⟨n, Nat.lt_succ_self _, φ4, _, some v, i + 1, S2.inner (S34.rebad φ.bad) hsl, S34.bad.trans hBc, R4, prefix_get S34.pre.1 hDc, St2.keep (R2.keepA S34) S34.pre S34.bad, hmc⟩
end
section
variable {g : G} {d : Nat} {sl : List Slot} {A : Around} {φ φ' : Fi} {L L' : Loc} {H H' : Hp} {s : Shared} {env : Env}

theorem none_ge {h : Heap} {a : Addr} (ha : h.objs.size ≤ a) : h.get? a = none := by
  cases e : h.get? a with
  | none => rfl
  | some o => exact absurd (Heap.lt_size e) (Nat.not_lt.mpr ha)

theorem get_append_none {L : Loc} {k : Nat} : get (L ++ [none]) k = get L k := by
  unfold get
  by_cases h : k < L.length
  · rw [List.getElem?_append_left h]
  · rw [List.getElem?_append_right (by omega), List.getElem?_eq_none (by omega : L.length ≤ k)]
    cases k - L.length <;> rfl

theorem get_append_lt {L L2 : Loc} {k : Nat} (h : k < L.length) : get (L ++ L2) k = get L k := by
  unfold get; rw [List.getElem?_append_left h]

/-- a frame within gets one slot more -/
theorem Rel.grow {x : Str} {C : Addr} (R : Rel g sl φ L H s.heap) {h' : Heap} (k : ∀ b o, s.heap.get? b = some o → h'.get? b = some o) (hC : s.heap.get? C = none) {m : Str → Option Value} (hn : h'.Ns C m) :
    Rel g (sl ++ [⟨x, false, C⟩]) φ (L ++ [none]) H h' := by
  have S := Step.ext (φ := φ) (s := s) (tk := s.toks) k
  have R' := R.of_step0 S (R.H.ext k)
  refine ⟨R'.H, by simp [R.llen], fun j sk hj => ?_, ?_⟩
  · by_cases hlt : j < sl.length
    · rw [List.getElem?_append_left hlt] at hj
      rw [get_append_none]
      exact R'.slots j sk hj
    · have hj' : j = sl.length := by
        have := (List.getElem?_eq_some_iff.mp hj).1
        simp at this; omega
      subst hj'
      simp at hj
      subst hj
      refine ⟨?_, ?_⟩
      · show g.hb.get? C = none
        cases e : g.hb.get? C with
        | none => rfl
        | some o => rw [R.H.base _ _ e] at hC; cases hC
      · unfold SlotOk
        refine ⟨m, hn, fun v hv => ?_⟩
        rw [get_append_none] at hv
        unfold get at hv
        rw [← R.llen, List.getElem?_eq_none (Nat.le_refl _)] at hv
        cases hv
  · refine List.pairwise_append.mpr ⟨R.apart, List.pairwise_singleton _ _, fun a ha b hb e => ?_⟩
    rw [List.mem_singleton.mp hb] at e
    obtain ⟨o, ho, _⟩ := R.slotObj ha
    rw [e] at ho
    rw [hC] at ho; cases ho

/-- the slot within goes, and its dict with it -/
theorem Rel.drop {x : Str} {C : Addr} {ov : Option V} {h h' : Heap} {B : Addr → Prop} (R : Rel g (sl ++ [⟨x, false, C⟩]) φ (L ++ [ov]) H h) (hlen : L.length = sl.length) (hCs : ∀ sk ∈ sl, sk.addr ≠ C) (hs : Heap.SameBut C h h')
    (hB : ∀ b, B b → φ.bad b) (hBC : ¬ B C) : Rel g sl ⟨φ.l, B, φ.fro⟩ L H h' ∧ KeepT φ h h' := by
  have hmem : (⟨x, false, C⟩ : Slot) ∈ sl ++ [⟨x, false, C⟩] := by simp
  have hidx : (sl ++ [(⟨x, false, C⟩ : Slot)])[sl.length]? = some ⟨x, false, C⟩ := by simp
  have hslot := R.slots _ _ hidx
  have R0 : Rel g sl φ L H h := ⟨R.H, hlen, fun j sk hj => by
    have hlt := (List.getElem?_eq_some_iff.mp hj).1
    have := R.slots j sk (by rw [List.getElem?_append_left hlt]; exact hj)
    rw [get_append_lt (by omega)] at this
    exact this, (List.pairwise_append.mp R.apart).1⟩
  refine R0.leave [C] (fun a ha => ?_) (fun sk hk => by simpa using hCs sk hk) (fun b o hb e => (hs.2 b (by simpa using hb)).trans e) hB (fun b hb => ?_)
  · rw [List.mem_singleton.mp ha]
    refine ⟨R.slotOut hmem, hslot.1, ?_, fun o e f => ?_⟩
    · obtain ⟨o', ho', q⟩ := R.slotObj hmem
      exact R.H.notFro ho' (.inr fun xs n e => by rcases q with ⟨es, ep, q⟩ | ⟨v, q⟩ <;> (rw [q] at e; cases e))
    obtain ⟨o', ho', q⟩ := R.slotObj hmem
    have ho' : h.get? C = some o' := ho'
    rw [ho'] at e; cases e
    rcases q with ⟨es, ep, q⟩ | ⟨v, q⟩
    · exact (f.notDict _ _ q).elim
    · exact (f.notCell _ q).elim
  · have hne : b ≠ C := fun z => hBC (z ▸ hb)
    rw [hs.2 b hne]
    exact R.H.badIn b (hB b hb)

theorem comp_core {elt iter : Expr} {x : Str} {px : Pos} {ifs : List Expr} {scope : Scope} {cl : List (Str × Addr)} {pos : Pos} {t : PB} {a a0 : PE} {v : V} {RR : Value → Addr → Result → Shared → Prop} {E : Value → Shared → Prop}
    (hcell : ∀ y ∈ scope.names, y.2 ≠ .cell) (hkind : scope.kind = .function) (hx : scope.names.lookup x = some .local) (he : EnvOk env)
    (h0 : RefE g d sl (eval iter env) a0)
    (ht : ∀ C, RefB g d (sl ++ [⟨x, false, C⟩]) (testsOf ifs (compEnvC scope cl C env)) t) (ha : ∀ C, RefE g d (sl ++ [⟨x, false, C⟩]) (eval elt (compEnvC scope cl C env)) a)
    (hA : AOk d A) (hm : compE (valI a0) t a L H = some (v, H')) (R : Rel g sl φ L H s.heap)
    (K : ∀ D C φc ov s', s.heap.get? C = none → Step sl φ ⟨φc.l, φ.bad, φc.fro⟩ s s' → (∀ b, φ.bad b → φc.bad b) → Rel g (sl ++ [⟨x, false, C⟩]) φc (L ++ [ov]) H' s'.heap → VR g s'.heap φc v (.ref D) → RR (.ref D) C (.ok .next) s') :
    wpAny (model g.prog g.w) A (eval iter env) (fun x1 s₁ => wpAny (model g.prog g.w) A (pyIter x1) (fun it s₂ => wpAny (model g.prog g.w) A (newList []) (fun acc s₃ => wpAny (model g.prog g.w) A (newFunctionEnv scope env.globals cl [] env.qual none .none (some env)) (fun cenv s₄ =>
      codeAny (model g.prog g.w) A (.compStart (.ListComp elt [⟨.Name x px, iter, ifs, 0⟩] scope pos) 0 it acc { cenv with scope := relabel scope env }) (RR acc cenv.locals) s₄) E s₃) E s₂) E s₁) E s := by
  obtain ⟨r, hr, hm⟩ := Option.bind_eq_some_iff.mp hm
  obtain ⟨Hf, hHf, e⟩ := Option.map_eq_some_iff.mp hm
  cases e
  obtain ⟨v0, hv0⟩ : ∃ v0, r.1 = .val v0 := by
    obtain ⟨q, _, hm⟩ := Option.bind_eq_some_iff.mp hr
    split at hm
    · cases hm; exact ⟨_, rfl⟩
    · cases hm
  refine (i_val h0).run A φ L H s r.1 r.2 hA hr R _ _ fun I pr φ1 s1 S1 hB1 R1 St1 hpr => ?_
  rw [hv0] at St1 hHf
  refine wpAny_newObj_type (wpAny_newFunctionEnv hcell (by intro y hy; simp at hy) (fun h₁ hns₁ hsb₁ => ?_) hkind)
  obtain ⟨S2, RH2, v2⟩ := new_list (s := s1) (φ := φ1) (items := ([] : List Value).toArray) (vs := []) (tk := s1.toks) R1.H (by simp [VRs])
  have R2 := R1.of_step0 S2 RH2
  dsimp only at hns₁ hsb₁ ⊢
  generalize hH2 : s1.heap.push { cls := .type "list", dict := none, data := .seq ([] : List Value).toArray } = H2 at hns₁ hsb₁ R2 v2 S2 ⊢
  have hC2 : H2.objs.size = s1.heap.objs.size + 1 := by rw [← hH2, Heap.size_push]
  generalize hCC : H2.objs.size = C at hns₁ hsb₁ hC2 ⊢
  have k3 : ∀ b o, H2.get? b = some o → h₁.get? b = some o := fun b o e => hsb₁.extBut b o (fun z => absurd (Heap.lt_size e) (by rw [z, hCC]; exact Nat.lt_irrefl _)) (Heap.get?_push_of_some _ e)
  have hCn2 : H2.get? C = none := by rw [← hCC]; exact get_none_size _
  have hCn : s.heap.get? C = none := S1.none_of (none_ge (by rw [hC2]; exact Nat.le_succ _))
  have R3 : Rel g (sl ++ [⟨x, false, C⟩]) (φ1.push s1.heap.objs.size) (L ++ [none]) (r.2 ++ [[]]) h₁ := Rel.grow (s := { s1 with heap := H2 }) R2 k3 hCn2 hns₁
  have S3 := Step.ext (φ := φ1.push s1.heap.objs.size) (s := { s1 with heap := H2, toks := s1.toks }) (tk := s1.toks + ([] : List (Str × Value)).length) k3
  have S13 : Step sl φ ⟨(φ1.push s1.heap.objs.size).l, φ.bad, (φ1.push s1.heap.objs.size).fro⟩ s { s1 with heap := h₁, toks := s1.toks + ([] : List (Str × Value)).length } := S1.trans ((S2.weaken.trans S3.weaken).rebad φ.bad)
  have KA : KeepA φ1 s1.heap h₁ := R1.keepA (sl := sl) (S2.weaken.trans S3.weaken)
  have St3 := St1.keep KA (Le.push φ1 s1.heap.objs.size) rfl
  have hpb : ∀ a ∈ pr, g.hb.get? a = none := fun a ha => by
    cases e : g.hb.get? a with
    | none => rfl
    | some o => have := R.H.base a o e; rw [hpr a ha] at this; cases this
  have hps : ∀ sk ∈ sl ++ [⟨x, false, C⟩], sk.addr ∉ pr := fun sk hk z => by
    rcases List.mem_append.mp hk with hk | hk
    · obtain ⟨o, ho, _⟩ := R.slotObj hk
      rw [hpr _ z] at ho; cases ho
    · rw [List.mem_singleton.mp hk] at z
      obtain ⟨o, ho, _⟩ := St1.priv _ z
      have hlt := Heap.lt_size ho
      have : C < s1.heap.objs.size := hlt
      omega
  have hD3 : (φ1.push s1.heap.objs.size).l[r.2.length]? = some s1.heap.objs.size := by rw [← R1.H.len]; simp [Fi.push]
  have he' : EnvOk (compEnvC scope cl C env) := ⟨hkind, he.globals, he.builtins⟩
  have loop : codeAny (model g.prog g.w) A (.compLoop (.ListComp elt [⟨.Name x px, iter, ifs, 0⟩] scope pos) 0 (.ref I) (.ref s1.heap.objs.size) (compEnvC scope cl C env)) (RR (.ref s1.heap.objs.size) C) { s1 with heap := h₁, toks := s1.toks + ([] : List (Str × Value)).length } :=
    comp_loop (s := s) hx (ht C) (ha C) he' hA R.llen S13 (fun b hb => hB1 b hb) R3 St3 hpr hpb hps hCn (fun b hb => R.H.badIn b hb) hD3 hHf fun φc ov' s' S hBc Rc hDc =>
      K _ C φc ov' s' hCn S hBc Rc (by rw [VR]; exact ⟨_, rfl, hDc⟩)
  exact codeAny_compStart_list loop (St3.self loop)

theorem vr_ref {h : Heap} {k : Nat} {D : Addr} {φ2 : Fi} (e : φ2.l = φ.l) (q : VR g h φ (.lst k) (.ref D)) {h' : Heap} : VR g h' φ2 (.lst k) (.ref D) := by
  unfold VR at q ⊢
  rw [e]; exact q

theorem compE_lst {it : PI} {t : PB} {a : PE} {v : V} (hm : compE it t a L H = some (v, H')) : ∃ k, v = .lst k := by
  obtain ⟨r, _, hm⟩ := Option.bind_eq_some_iff.mp hm
  obtain ⟨Hf, _, e⟩ := Option.map_eq_some_iff.mp hm
  cases e; exact ⟨_, rfl⟩

theorem r_comp {elt iter : Expr} {x : Str} {px : Pos} {ifs : List Expr} {scope : Scope} {cl : List (Str × Addr)} {pos : Pos} {t : PB} {a a0 : PE} (he : EnvOk env) (hclos : closureFor scope env = pure cl)
    (hcell : ∀ y ∈ scope.names, y.2 ≠ .cell) (hkind : scope.kind = .function) (hnames : ∀ y ∈ scope.names, y.2 = .local → scope.names.lookup y.1 = some .local) (hx : scope.names.lookup x = some .local)
    (h0 : RefE g d sl (eval iter env) a0)
    (ht : ∀ C, RefB g d (sl ++ [⟨x, false, C⟩]) (testsOf ifs (compEnvC scope cl C env)) t) (ha : ∀ C, RefE g d (sl ++ [⟨x, false, C⟩]) (eval elt (compEnvC scope cl C env)) a)
    (hs : ∀ x, foldedSetIterable iter env x = pure x) :
    RefE g d sl (eval (.ListComp elt [⟨.Name x px, iter, ifs, 0⟩] scope pos) env) (compE (valI a0) t a) := by
  refine ⟨fun A φ L H s v H' hA hm R => ?_⟩
  rw [eval_ListComp]
  obtain ⟨k, rfl⟩ := compE_lst hm
  refine wpAny_comprehension_free (use := none) rfl hs hclos hkind hnames (comp_core (RR := fun acc C => compPost (model g.prog g.w) A _ none _ acc C) hcell hkind hx he h0 ht ha hA hm R ?_)
  intro D C φc ov s' hC S hB Rc hv
  have hmem : (⟨x, false, C⟩ : Slot) ∈ sl ++ [⟨x, false, C⟩] := by simp
  have hq := (Rc.slots sl.length ⟨x, false, C⟩ (by simp)).2
  unfold SlotOk at hq
  obtain ⟨m, hn, _⟩ := hq
  refine ⟨m, hn, fun h' hs' => ?_⟩
  have hCs : ∀ sk ∈ sl, sk.addr ≠ C := fun sk hk e => by
    obtain ⟨o, ho, _⟩ := R.slotObj hk
    rw [e, hC] at ho; cases ho
  have hBC : ¬ φ.bad C := R.H.notBad hC
  obtain ⟨R5, _⟩ := Rc.drop (B := φ.bad) R.llen hCs hs' hB hBC
  obtain ⟨hh, tk, hsame⟩ := S.same
  refine ⟨⟨φc.l, φ.bad, φc.fro⟩, ⟨⟨h', tk, by rw [hsame]⟩, S.pre, rfl, fun b hb => ?_, S.fresh, fun b o e h1 h2 => ?_, S.ffresh⟩, R5, vr_ref (φ := φc) (h' := h') rfl hv⟩
  · by_cases z : b = C
    · subst z; rw [hC] at hb; cases hb
    · show (h'.get? b).isSome = true
      rw [hs'.2 b z]; exact S.dom b hb
  · have z : b ≠ C := by rintro rfl; rw [hC] at e; cases e
    exact (hs'.2 b z).trans (S.kept b o e h1 h2)

theorem At.weak {x : Str} {k : Nat} {sl' : List Slot} (h : At env sl x k) : At env (sl ++ sl') x k := by
  cases h with
  | loc h1 h2 => exact .loc h1 (by rw [List.getElem?_append_left (List.getElem?_eq_some_iff.mp h2).1]; exact h2)
  | cell y c h1 h2 h3 => exact .cell y c h1 h2 (by rw [List.getElem?_append_left (List.getElem?_eq_some_iff.mp h3).1]; exact h3)

theorem s_comp {elt iter : Expr} {x y : Str} {px py : Pos} {ifs : List Expr} {scope : Scope} {cl : List (Str × Addr)} {pos spos : Pos} {t : PB} {a a0 : PE} {k : Nat} (he : EnvOk env) (hclos : closureFor scope env = pure cl)
    (hsw : swapsWith (.ListComp elt [⟨.Name x px, iter, ifs, 0⟩] scope pos) (some (.Name y py)) spos.line env = pure true) (hy : At env sl y k)
    (hcell : ∀ y ∈ scope.names, y.2 ≠ .cell) (hkind : scope.kind = .function) (hnames : ∀ y ∈ scope.names, y.2 = .local → scope.names.lookup y.1 = some .local) (hx : scope.names.lookup x = some .local)
    (h0 : RefE g d sl (eval iter env) a0)
    (ht : ∀ C, RefB g d (sl ++ [⟨x, false, C⟩]) (testsOf ifs (compEnvC scope cl C env)) t) (ha : ∀ C, RefE g d (sl ++ [⟨x, false, C⟩]) (eval elt (compEnvC scope cl C env)) a)
    (hs : ∀ x, foldedSetIterable iter env x = pure x) :
    RefS g d sl (exec (.Assign [.Name y py] (.ListComp elt [⟨.Name x px, iter, ifs, 0⟩] scope pos) spos) env) (asg k (compE (valI a0) t a)) := by
  refine ⟨fun A φ L H s f L' H' hA hm R => ?_⟩
  obtain ⟨r, hr, e⟩ := Option.map_eq_some_iff.mp hm
  cases e
  obtain ⟨r1, r2⟩ := r
  obtain ⟨j, rfl⟩ := compE_lst hr
  rw [exec_Assign_Name_used _ _ _ _ hsw]
  refine wpAny_bind (wpAny_standAt (wpAny_bind ?_))
  show wpAny _ A (do let _ ← comprehension (.ListComp elt [⟨.Name x px, iter, ifs, 0⟩] scope pos) scope env _ (newList []) false (eval iter env) (some (assign (.Name y py) env))) _ _ s
  refine wpAny_bind (wpAny_mono (wpAny_comprehension_free (use := some (assign (.Name y py) env)) (E := fun _ _ => False)
    (Q := fun _ s' => ∃ φ', Step sl φ φ' s s' ∧ Rel g sl φ' (L.set k (some (.lst j))) r2 s'.heap ∧ FR g s'.heap φ' .next .next) rfl hs hclos hkind hnames
    (comp_core (RR := fun acc C => compPost (model g.prog g.w) A _ (some (assign (.Name y py) env)) _ acc C) hcell hkind hx he h0 ht ha hA hr R ?_))
    (fun _ s' hq => wpAny_pure (wpAny_pure hq)) fun _ _ e => e)
  intro D C φc ov s' hC S hB Rc hv
  show wpAny _ A (assign (.Name y py) env (.ref D)) _ _ _
  refine wpAny_assign_Name (store_use he hy.weak Rc hv fun s₂ S₂ R₂ _ => ?_)
  have hkl : k < L.length := by
    rw [R.llen]
    cases hy with
    | loc _ h2 => exact (List.getElem?_eq_some_iff.mp h2).1
    | cell _ _ _ _ h2 => exact (List.getElem?_eq_some_iff.mp h2).1
  rw [List.set_append_left _ _ hkl] at R₂
  have hq := (R₂.slots sl.length ⟨x, false, C⟩ (by simp)).2
  unfold SlotOk at hq
  obtain ⟨m, hn, _⟩ := hq
  refine ⟨m, hn, fun h' hs' => ?_⟩
  have hCs : ∀ sk ∈ sl, sk.addr ≠ C := fun sk hk e => by
    obtain ⟨o, ho, _⟩ := R.slotObj hk
    rw [e, hC] at ho; cases ho
  have hBC : ¬ φ.bad C := R.H.notBad hC
  have hsl : ∀ sk ∈ ([⟨x, false, C⟩] : List Slot), s.heap.get? sk.addr = none := fun sk hk => by rw [List.mem_singleton.mp hk]; exact hC
  have S3 := S.inner (S₂.rebad φ.bad) hsl
  obtain ⟨R5, _⟩ := R₂.drop (B := φ.bad) (by rw [List.length_set]; exact R.llen) hCs hs' hB hBC
  obtain ⟨hh, tk, hsame⟩ := S3.same
  refine ⟨⟨φc.l, φ.bad, φc.fro⟩, ⟨⟨h', tk, by rw [hsame]⟩, S3.pre, rfl, fun b hb => ?_, S3.fresh, fun b o e h1 h2 => ?_, S3.ffresh⟩, R5, rfl⟩
  · by_cases z : b = C
    · subst z; rw [hC] at hb; cases hb
    · show (h'.get? b).isSome = true
      rw [hs'.2 b z]; exact S3.dom b hb
  · have z : b ≠ C := by rintro rfl; rw [hC] at e; cases e
    exact (hs'.2 b z).trans (S3.kept b o e h1 h2)
end
mutual
noncomputable def purev : V → Bool
  | .lst _ => false
  | .tup vs => purevs vs
  | .fro vs => purevs vs
  | _ => true
noncomputable def purevs : List V → Bool
  | [] => true
  | v :: vs => purev v && purevs vs
end
noncomputable def frz : Nat → Nat → Hp → V → Option V
  | 0, _, _, _ => none
  | f + 1, n, H, v => match v with
    | .lst k => if k < n then some (.lst k) else (H[k]?).bind fun vs => (mapO (frz f n H) vs).map .fro
    | .tup vs => (mapO (frz f n H) vs).map .tup
    | .fro vs => (mapO (frz f n H) vs).map .fro
    | v => some v
noncomputable def frzH (n : Nat) (H : Hp) : Option Hp := mapO (mapO (frz 6 n H)) (H.take n)

noncomputable abbrev CT := Nat → List V → Hp → Option (V × Hp)
noncomputable def outV : Fl → V
  | .ret v => v
  | .next => .none
noncomputable def runF (cd : Nat × Nat × PS) (vs : List V) (H : Hp) : Option (V × Hp) :=
  if vs.length = cd.1 then (cd.2.2 (vs.map some ++ List.replicate cd.2.1 none) H).bind fun r => (frz 6 H.length r.2.2 (outV r.1)).bind fun v => (frzH H.length r.2.2).map fun H' => (v, H')
  else none
noncomputable def callM (codes : CT → Nat → Nat × Nat × PS) : Nat → CT
  | 0 => fun _ _ _ => none
  | d + 1 => fun k vs H => if purevs vs then (runF (codes (callM codes d) k) vs []).map fun r => (r.1, H) else runF (codes (callM codes d) k) vs H

section
variable {g : G} {d : Nat} {sl : List Slot} {A : Around} {φ φ' : Fi} {L L' : Loc} {H H' : Hp} {s : Shared} {env : Env}

mutual
theorem vr_pure {h : Heap} : ∀ {v : V} {x : Value}, purev v = true → VR g h φ v x → VR g h ⟨[], φ.bad, fun b => φ.fro b⟩ v x
  | .none, _, _, h => h
  | .bool _, _, _, h => h
  | .int _, _, _, h => h
  | .tup vs, x, p, h => by
    unfold purev at p
    unfold VR at h ⊢
    obtain ⟨a, items, rfl, ht, hb, hv⟩ := h
    exact ⟨a, items, rfl, ht, hb, vrs_pure p hv⟩
  | .lst k, x, p, h => by unfold purev at p; cases p
  | .rng a b c, x, _, h => by unfold VR at h ⊢; exact h
  | .fro vs, x, p, h => by
    unfold purev at p
    unfold VR at h ⊢
    obtain ⟨a, items, rfl, hl, hf, hv⟩ := h
    exact ⟨a, items, rfl, hl, hf, vrs_pure p hv⟩
  | .fn k, x, _, h => by unfold VR at h ⊢; exact h
theorem vrs_pure {h : Heap} : ∀ {vs : List V} {xs : List Value}, purevs vs = true → VRs g h φ vs xs → VRs g h ⟨[], φ.bad, fun b => φ.fro b⟩ vs xs
  | [], _, _, h => by unfold VRs at h ⊢; exact h
  | v :: vs, xs, p, h => by
    unfold purevs at p
    rw [Bool.and_eq_true] at p
    unfold VRs at h ⊢
    obtain ⟨y, ys, rfl, hy, hys⟩ := h
    exact ⟨y, ys, rfl, vr_pure p.1 hy, vrs_pure p.2 hys⟩
end

theorem frz_all {h : Heap} {ψ : Fi} {f : V → Option V} : ∀ {vs ws : List V} {xs : List Value}, (∀ v w x, f v = some w → VR g h φ v x → VR g h ψ w x) → mapO f vs = some ws → VRs g h φ vs xs → VRs g h ψ ws xs
  | [], _, _, _, hm, q => by
    unfold mapO at hm; cases hm
    unfold VRs at q ⊢; exact q
  | v :: vs, _, _, hf, hm, q => by
    unfold mapO at hm
    obtain ⟨b, hb, hm⟩ := Option.bind_eq_some_iff.mp hm
    obtain ⟨l, hl, e⟩ := Option.map_eq_some_iff.mp hm
    subst e
    unfold VRs at q ⊢
    obtain ⟨y, ys, rfl, hy, q⟩ := q
    exact ⟨y, ys, rfl, hf v b y hb hy, frz_all hf hl q⟩

/-- what goes out of a call: all that it made is frozen -/
theorem frz_ok {h : Heap} {n : Nat} {F : Addr → Prop} (R : RelH g φ' H' h) (P : φ.l <+: φ'.l) (hn : n = φ.l.length) (hF : ∀ b, φ'.fro b → F b) (hN : ∀ b, b ∈ φ'.l → b ∉ φ.l → F b) :
    ∀ (f : Nat) {v w : V} {x : Value}, frz f n H' v = some w → VR g h φ' v x → VR g h ⟨φ.l, φ'.bad, F⟩ w x := by
  intro f
  induction f with
  | zero => intro v w x hm; cases hm
  | succ f ih =>
    intro v w x hm q
    unfold frz at hm
    split at hm
    · rename_i k
      unfold VR at q
      obtain ⟨a, rfl, ha⟩ := q
      split at hm
      · rename_i hk
        cases hm
        rw [VR]
        refine ⟨a, rfl, ?_⟩
        obtain ⟨t, ht⟩ := P
        show φ.l[k]? = some a
        rw [← ht, List.getElem?_append_left (by omega)] at ha
        exact ha
      · rename_i hk
        obtain ⟨vs, hvs, hm⟩ := Option.bind_eq_some_iff.mp hm
        obtain ⟨ws, hws, e⟩ := Option.map_eq_some_iff.mp hm
        subst e
        obtain ⟨its, hl, q⟩ := R.lists _ _ _ ha hvs
        unfold VR
        refine ⟨a, its, rfl, hl, hN a (List.mem_of_getElem? ha) (fun hm => ?_), frz_all (fun v w x e q => ih e q) hws q⟩
        obtain ⟨j, hj, e⟩ := List.mem_iff_getElem.mp hm
        have h1 : φ'.l[j]? = some a := prefix_get P (by rw [List.getElem?_eq_getElem hj, e])
        have := nodup_inj R.nodup h1 ha
        omega
    · obtain ⟨ws, hws, e⟩ := Option.map_eq_some_iff.mp hm
      subst e
      unfold VR at q ⊢
      obtain ⟨a, its, rfl, ht, nb, q⟩ := q
      exact ⟨a, its, rfl, ht, nb, frz_all (fun v w x e q => ih e q) hws q⟩
    · obtain ⟨ws, hws, e⟩ := Option.map_eq_some_iff.mp hm
      subst e
      unfold VR at q ⊢
      obtain ⟨a, its, rfl, hl, hf, q⟩ := q
      exact ⟨a, its, rfl, hl, hF _ hf, frz_all (fun v w x e q => ih e q) hws q⟩
    · rename_i h1 h2 h3
      cases hm
      cases v with
      | lst k => exact absurd rfl (h1 k)
      | tup vs => exact absurd rfl (h2 vs)
      | fro vs => exact absurd rfl (h3 vs)
      | _ => exact q

theorem mapO_get {α β : Type} {f : α → Option β} : ∀ {l : List α} {m : List β}, mapO f l = some m → m.length = l.length ∧ ∀ (i : Nat) (b : β), m[i]? = some b → ∃ a, l[i]? = some a ∧ f a = some b
  | [], m, h => by unfold mapO at h; cases h; exact ⟨rfl, fun i b e => by simp at e⟩
  | a :: l, m, h => by
    unfold mapO at h
    obtain ⟨b, hb, h⟩ := Option.bind_eq_some_iff.mp h
    obtain ⟨l', hl, e⟩ := Option.map_eq_some_iff.mp h
    subst e
    obtain ⟨h1, h2⟩ := mapO_get hl
    refine ⟨by simp [h1], fun i c e => ?_⟩
    cases i with
    | zero => simp at e; subst e; exact ⟨a, rfl, hb⟩
    | succ i => simpa using h2 i c (by simpa using e)

/-- the callers' heap after a call -/
theorem frzH_ok {h : Heap} {Hn : Hp} {F : Addr → Prop} (R : RelH g φ' H' h) (P : φ.l <+: φ'.l) (hlen : φ.l.length = H.length) (hF : ∀ b, φ'.fro b → F b) (hN : ∀ b, b ∈ φ'.l → b ∉ φ.l → F b)
    (hFo : ∀ b, F b → b ∉ φ.l ∧ ∃ items, PL h b items) (hm : frzH H.length H' = some Hn) : RelH g ⟨φ.l, φ'.bad, F⟩ Hn h := by
  obtain ⟨h1, h2⟩ := mapO_get hm
  have hle : φ.l.length ≤ H'.length := by rw [← R.len]; exact P.length_le
  refine ⟨R.base, ?_, (R.nodup.sublist P.sublist), fun a ha => R.new a (P.subset ha), R.badIn, hFo, fun k a vs hk hv => ?_⟩
  · show φ.l.length = Hn.length
    rw [h1, List.length_take]; omega
  · obtain ⟨ws, hws, hf⟩ := h2 k vs hv
    have hk' := prefix_get P hk
    have hws' : H'[k]? = some ws := by
      rw [List.getElem?_take] at hws
      split at hws
      · exact hws
      · cases hws
    obtain ⟨its, hl, q⟩ := R.lists _ _ _ hk' hws'
    exact ⟨its, hl, frz_all (fun v w x e q => frz_ok R P hlen.symm hF hN 6 e q) hf q⟩
end

/-! a function's entry -/
theorem bindL_not {kindOf : Str → Option NameKind} {x : Str} : ∀ {ps : List Str} {vs : List Value} {m : Str → Option Value}, x ∉ ps → bindL kindOf (ps.zip vs) m x = m x
  | [], _, _, _ => by simp [bindL]
  | p :: ps, [], _, _ => by simp [bindL]
  | p :: ps, v :: vs, m, h => by
    rw [List.zip_cons_cons, bindL, bindL_not (fun z => h (List.mem_cons_of_mem _ z))]
    split
    · have : x ≠ p := fun z => h (z ▸ List.mem_cons_self ..)
      simp [this]
    · rfl
theorem bindL_get {kindOf : Str → Option NameKind} {x : Str} {v : Value} (hk : kindOf x = some .local) : ∀ {ps : List Str} {vs : List Value} {m : Str → Option Value} {i : Nat}, ps.Nodup → ps[i]? = some x → vs[i]? = some v → bindL kindOf (ps.zip vs) m x = some v
  | [], _, _, i, _, h, _ => by simp at h
  | p :: ps, [], _, i, _, _, h => by simp at h
  | p :: ps, w :: vs, m, i, hn, hp, hv => by
    have hn' := List.nodup_cons.mp hn
    rw [List.zip_cons_cons, bindL]
    cases i with
    | zero =>
      simp at hp hv
      subst hp hv
      rw [bindL_not hn'.1, if_pos hk]; simp
    | succ i => exact bindL_get hk hn'.2 (by simpa using hp) (by simpa using hv)
theorem bindC_not {kindOf : Str → Option NameKind} {x : Str} : ∀ {ps : List Str} {vs : List Value} {m : Str → Option Value}, x ∉ ps → bindC kindOf (ps.zip vs) m x = m x
  | [], _, _, _ => by simp [bindC]
  | p :: ps, [], _, _ => by simp [bindC]
  | p :: ps, v :: vs, m, h => by
    rw [List.zip_cons_cons, bindC, bindC_not (fun z => h (List.mem_cons_of_mem _ z))]
    split
    · rfl
    · have : x ≠ p := fun z => h (z ▸ List.mem_cons_self ..)
      simp [this]
theorem bindC_get {kindOf : Str → Option NameKind} {x : Str} {v : Value} (hk : kindOf x ≠ some .local) : ∀ {ps : List Str} {vs : List Value} {m : Str → Option Value} {i : Nat}, ps.Nodup → ps[i]? = some x → vs[i]? = some v → bindC kindOf (ps.zip vs) m x = some v
  | [], _, _, i, _, h, _ => by simp at h
  | p :: ps, [], _, i, _, _, h => by simp at h
  | p :: ps, w :: vs, m, i, hn, hp, hv => by
    have hn' := List.nodup_cons.mp hn
    rw [List.zip_cons_cons, bindC]
    cases i with
    | zero =>
      simp at hp hv
      subst hp hv
      rw [bindC_not hn'.1, if_neg hk]; simp
    | succ i => exact bindC_get hk hn'.2 (by simpa using hp) (by simpa using hv)

noncomputable def slotAt (L : Addr) (e : Str × Option Nat) : Slot := match e.2 with
  | none => ⟨e.1, false, L⟩
  | some j => ⟨e.1, true, L + 1 + j⟩
noncomputable abbrev slotsOf (lay : List (Str × Option Nat)) (L : Addr) : List Slot := lay.map (slotAt L)

noncomputable def apartB (a b : Str × Option Nat) : Bool := match a.2, b.2 with
  | none, none => a.1 != b.1
  | some i, some j => i != j
  | _, _ => true

/-- a def: its record, its parameters, where its names live -/
structure FnOk (rec : DefRec) (ps : List Str) (lay : List (Str × Option Nat)) : Prop where
  bind : ∀ pm cd doc vals, vals.length = ps.length → bindArgs (Calls.docDef rec.name rec.params rec.body rec.scope pm cd doc) ⟨vals, []⟩ = pure (ps.zip vals)
  nodup : ps.Nodup
  par : (lay.map (·.1)).take ps.length = ps
  apart : lay.Pairwise fun a b => apartB a b = true
  loc : ∀ e ∈ lay, match e.2 with
    | none => rec.scope.names.lookup e.1 = some .local
    | some j => rec.scope.names.lookup e.1 = some .cell ∧ ∀ L, (cellsFrom (L + 1) rec.scope.names []).lookup e.1 = some (L + 1 + j)
  kind : rec.scope.kind = .function
  gen : rec.scope.isGenerator = false
  co : rec.scope.isCoroutine = false

theorem wpAny_andE {α : Type} {M : Model} {A : Around} {t : Sem α} {Q : α → Shared → Prop} {E E' : Value → Shared → Prop} {s : Shared} (h : wpAny M A t Q E s) (k : ∀ e s, E e s → E' e s) : wpAny M A t Q E' s := wpAny_mono h (fun _ _ q => q) k

section
variable {g : G} {d : Nat} {sl : List Slot} {A : Around} {φ φ' : Fi} {L L' : Loc} {H H' : Hp} {s : Shared} {env : Env}

theorem get_args {vs : List V} {n k : Nat} {v : V} (h : get (vs.map some ++ List.replicate n none) k = some v) : vs[k]? = some v := by
  unfold get at h
  by_cases hk : k < vs.length
  · rw [List.getElem?_append_left (by simpa using hk), List.getElem?_map, List.getElem?_eq_getElem hk] at h
    rw [List.getElem?_eq_getElem hk]
    simpa using h
  · rw [List.getElem?_append_right (by simpa using hk), List.getElem?_replicate] at h
    split at h <;> cases h

theorem entry {rec : DefRec} {ps : List Str} {lay : List (Str × Option Nat)} (F : FnOk rec ps lay) {pm cd doc : Value} {a L : Addr} {s₁ : Shared} {vs : List V} {xs : List Value} {n : Nat} (hL : L = s.heap.objs.size)
    (X : InCallC s L (bindL (callEnvC (Calls.docDef rec.name rec.params rec.body rec.scope pm cd doc) L a).kindOf (ps.zip xs) fun _ => none) (callEnvC (Calls.docDef rec.name rec.params rec.body rec.scope pm cd doc) L a).cells
      (bindC (callEnvC (Calls.docDef rec.name rec.params rec.body rec.scope pm cd doc) L a).kindOf (ps.zip xs) fun _ => none) s₁)
    (R : RelH g φ H s.heap) (hv : VRs g s.heap φ vs xs) (hlen : vs.length = ps.length) (hlay : lay.length = ps.length + n) :
    Rel g (slotsOf lay L) φ (vs.map some ++ List.replicate n none) H s₁.heap := by
  have k := X.toInCall.keep
  have hv' := hv.mono (.of k) (Le.refl φ)
  refine ⟨R.ext k, by simp [hlen, hlay], fun j sk hj => ?_, ?_⟩
  · rw [List.getElem?_map] at hj
    obtain ⟨e, he, rfl⟩ := Option.map_eq_some_iff.mp hj
    have hmem := List.mem_of_getElem? he
    have hnone : ∀ b, s.heap.objs.size ≤ b → g.hb.get? b = none := fun b hb => by
      cases h : g.hb.get? b with
      | none => rfl
      | some o => exact absurd (Heap.lt_size (R.base _ _ h)) (Nat.not_lt.mpr hb)
    have hl := F.loc e hmem
    have hval : ∀ v, get (vs.map some ++ List.replicate n none) j = some v → ∃ x, xs[j]? = some x ∧ VR g s₁.heap φ v x ∧ ps[j]? = some e.1 := fun v hg => by
      have h1 := get_args hg
      obtain ⟨x, hx, q⟩ := hv'.get h1
      refine ⟨x, hx, q, ?_⟩
      have hjlt : j < ps.length := by rw [← hlen]; exact (List.getElem?_eq_some_iff.mp h1).1
      have e1 : (List.take ps.length (lay.map (·.1)))[j]? = some e.1 := by
        rw [List.getElem?_take, if_pos hjlt, List.getElem?_map, he]; rfl
      rw [F.par] at e1
      exact e1
    unfold slotAt
    split
    · rename_i hc
      rw [hc] at hl
      refine ⟨hnone _ (by subst hL; exact Nat.le_refl _), ?_⟩
      unfold SlotOk
      refine ⟨_, X.toInCall.ns, fun v hg => ?_⟩
      obtain ⟨x, hx, q, hp⟩ := hval v hg
      exact ⟨x, bindL_get hl F.nodup hp hx, q⟩
    · rename_i j' hc
      rw [hc] at hl
      refine ⟨hnone _ (by subst hL; exact Nat.le_trans (Nat.le_succ _) (Nat.le_add_right _ _)), ?_⟩
      unfold SlotOk
      refine ⟨_, X.cell e.1 _ (hl.2 L), fun v hg => ?_⟩
      obtain ⟨x, hx, q, hp⟩ := hval v hg
      exact ⟨x, bindC_get (fun z => by have z : rec.scope.names.lookup e.1 = some .local := z; rw [hl.1] at z; cases z) F.nodup hp hx, q⟩
  · refine List.pairwise_map.mpr (F.apart.imp fun {a b} hab e => ?_)
    unfold apartB at hab
    unfold slotAt at e ⊢
    split at hab
    · rename_i h1 h2
      rw [h1, h2]
      exact ⟨rfl, rfl, by simpa using hab⟩
    · rename_i h1 h2
      rw [h1, h2] at e
      have e : L + 1 + _ = L + 1 + _ := e
      exact absurd (Nat.add_left_cancel e) (by simpa using hab)
    · rename_i h1 h2
      cases ha : a.2 with
      | none => cases hb : b.2 with
        | none => exact (h1 ha hb).elim
        | some j => rw [ha, hb] at e; exact absurd e (Nat.ne_of_lt (Nat.lt_of_lt_of_le (Nat.lt_succ_self L) (Nat.le_add_right _ j)))
      | some i => cases hb : b.2 with
        | none => rw [ha, hb] at e; exact absurd e.symm (Nat.ne_of_lt (Nat.lt_of_lt_of_le (Nat.lt_succ_self L) (Nat.le_add_right _ i)))
        | some j => exact (h2 i j ha hb).elim

theorem run_code {rec : DefRec} {ps : List Str} {lay : List (Str × Option Nat)} (F : FnOk rec ps lay) {pm cd doc : Value} {a : Addr} {o : Obj} {n : Nat} {code : PS} {vs : List V} {xs : List Value} {w : V} {Hn : Hp}
    (ho : g.hb.get? a = some o) (hd : o.data = .func (Calls.docDef rec.name rec.params rec.body rec.scope pm cd doc)) (hcode : g.hb.CodeRec cd rec.name)
    (hlay : lay.length = ps.length + n) (hb : ∀ L a, RefS g d (slotsOf lay L) (execs rec.body (callEnvC (Calls.docDef rec.name rec.params rec.body rec.scope pm cd doc) L a)) code)
    (hA : AOk (d + 1) A) (hm : runF (ps.length, n, code) vs H = some (w, Hn)) (R : RelH g φ H s.heap) (hv : VRs g s.heap φ vs xs) :
    codeAny (model g.prog g.w) A (.call (.ref a) ⟨xs, []⟩) (fun r s' => match r with
      | .ok (.ret z) => ∃ φ' : Fi, Step [] φ φ' s s' ∧ φ'.l = φ.l ∧ RelH g φ' Hn s'.heap ∧ VR g s'.heap φ' w z
      | .ok _ => False
      | .error e => False) s := by
  unfold runF at hm
  split at hm
  · rename_i hlen
    obtain ⟨r, hr, hm⟩ := Option.bind_eq_some_iff.mp hm
    obtain ⟨v, hvz, hm⟩ := Option.bind_eq_some_iff.mp hm
    obtain ⟨H2, hH2, e⟩ := Option.map_eq_some_iff.mp hm
    cases e
    have hxl : xs.length = ps.length := by rw [← hv.length]; exact hlen
    refine codeAny_call_cells (binds := ps.zip xs) hA.depth (R.base _ _ ho) hd (g.lim.keeps R.base) (hcode.keeps R.base) rfl (F.bind _ _ _ _ hxl) rfl (fun x hx => ?_) (fun s₁ X => ?_) F.co F.gen F.kind
    · obtain ⟨n0, x0⟩ := x
      have h1 := List.of_mem_zip hx
      have h2 : n0 ∈ (lay.map (·.1)).take ps.length := by rw [F.par]; exact h1.1
      obtain ⟨e, he, rfl⟩ := List.mem_map.mp (List.mem_of_mem_take h2)
      have := F.loc e he
      split at this
      · exact .inl this
      · exact .inr ⟨this.1, by show ((cellsFrom (s.heap.objs.size + 1) rec.scope.names []).lookup e.1).isSome = true; rw [this.2]; rfl⟩
    · have R1 := entry F (n := n) rfl X R hv hlen hlay
      refine wpAny_mono ((hb _ _).use (Q := fun f s' => ∃ φ', Step (slotsOf lay s.heap.objs.size) φ φ' s₁ s' ∧ Rel g (slotsOf lay s.heap.objs.size) φ' r.2.1 r.2.2 s'.heap ∧ FR g s'.heap φ' r.1 f) (E := fun _ _ => False) (f := r.1) (L' := r.2.1) (H' := r.2.2) hA.deeper hr R1 fun f s' φ' S R' q => ⟨φ', S, R', q⟩) (fun f s' h => ?_) (fun _ _ f => f.elim)
      obtain ⟨φ', S, R', q⟩ := h
      have hslot : ∀ sk ∈ slotsOf lay s.heap.objs.size, s.heap.get? sk.addr = none := fun sk hk => by
        obtain ⟨e, _, rfl⟩ := List.mem_map.mp hk
        unfold slotAt
        split
        · exact get_none_size _
        · exact none_ge (Nat.le_trans (Nat.le_succ _) (Nat.le_add_right _ _))
      have S0 : Step [] φ φ s s₁ := by
        obtain ⟨h, tk, e⟩ := X.toInCall.same
        have k := X.toInCall.keep
        rw [e] at k ⊢
        exact Step.ext k
      have S1 : Step [] φ φ' s s' := S0.inner (sl := []) (sl' := slotsOf lay s.heap.objs.size) S hslot
      let F2 : Addr → Prop := fun b => φ'.fro b ∨ (b ∈ φ'.l ∧ b ∉ φ.l)
      have hF2 : ∀ b, F2 b → b ∉ φ.l ∧ ∃ items, PL s'.heap b items := fun b hb => by
        rcases hb with hb | ⟨h1, h2⟩
        · obtain ⟨h1, h2⟩ := R'.H.froIs b hb
          exact ⟨fun hm => h1 (S1.pre.1.subset hm), h2⟩
        · obtain ⟨its, n, hl⟩ := R'.H.isList h1
          exact ⟨h2, its, n, hl⟩
      have RH := frzH_ok (φ := φ) (F := F2) R'.H S1.pre.1 R.len (fun b h => .inl h) (fun b h1 h2 => .inr ⟨h1, h2⟩) hF2 hH2
      have hx : VR g s'.heap φ' (outV r.1) (match (generalizing := false) f with | .ret v => v | _ => .none) := by
        cases h1 : r.1 with
        | next =>
          rw [h1] at q
          have q : f = .next := q
          subst q
          show VR g _ _ .none _
          rw [VR]
        | ret v =>
          rw [h1] at q
          obtain ⟨x, rfl, q⟩ := q
          exact q
      have VO := frz_ok (φ := φ) (F := F2) R'.H S1.pre.1 R.len.symm (fun b h => .inl h) (fun b h1 h2 => .inr ⟨h1, h2⟩) 6 hvz hx
      refine ⟨⟨φ.l, φ'.bad, F2⟩, ⟨S1.same, ⟨List.prefix_refl _, S1.pre.2.1, fun b h => .inl (S1.pre.2.2 b h)⟩, S1.bad, S1.dom, fun _ h => .inl h, S1.kept, fun b hb => ?_⟩, rfl, RH, VO⟩
      rcases hb with hb | ⟨h1, h2⟩
      · exact S1.ffresh b hb
      · rcases S1.fresh b h1 with h | h
        · exact absurd h h2
        · exact .inr h
  · cases hm

theorem run_ref {rec : DefRec} {ps : List Str} {lay : List (Str × Option Nat)} (F : FnOk rec ps lay) {pm cd doc : Value} {a : Addr} {o : Obj} {n : Nat} {code : PS} {vs : List V} {xs : List Value} {w : V} {Hn : Hp}
    (ho : g.hb.get? a = some o) (hd : o.data = .func (Calls.docDef rec.name rec.params rec.body rec.scope pm cd doc)) (hcode : g.hb.CodeRec cd rec.name)
    (hlay : lay.length = ps.length + n) (hb : ∀ L a, RefS g d (slotsOf lay L) (execs rec.body (callEnvC (Calls.docDef rec.name rec.params rec.body rec.scope pm cd doc) L a)) code)
    (hA : AOk (d + 1) A) (hm : runF (ps.length, n, code) vs H = some (w, Hn)) (R : RelH g φ H s.heap) (hv : VRs g s.heap φ vs xs) :
    wpAny (model g.prog g.w) A (call (.ref a) xs) (fun z s' => ∃ φ' : Fi, Step [] φ φ' s s' ∧ φ'.l = φ.l ∧ RelH g φ' Hn s'.heap ∧ VR g s'.heap φ' w z) (fun _ _ => False) s :=
  wpAny_call (run_code F ho hd hcode hlay hb hA hm R hv)

/-- all the defs, and what each does -/
structure Tab (g : G) (codes : CT → Nat → Nat × Nat × PS) : Prop where
  all : ∀ k, ∃ rec ps lay n, rec ∈ recsOf g.prog ∧ rec.name = g.gname k ∧ FnOk rec ps lay ∧ lay.length = ps.length + n ∧ (∀ c, (codes c k).1 = ps.length ∧ (codes c k).2.1 = n) ∧
    ∀ d c, CallRef g d c → ∀ pm cd doc L a, RefS g d (slotsOf lay L) (execs rec.body (callEnvC (Calls.docDef rec.name rec.params rec.body rec.scope pm cd doc) L a)) (codes c k).2.2

theorem callM_ok {codes : CT → Nat → Nat × Nat × PS} (T : Tab g codes) : ∀ d, CallRef g d (callM codes d) := by
  intro d
  induction d with
  | zero =>
    intro k f hf
    obtain ⟨rec, ps, lay, n, hr, hn, F, hlay, hc, hb⟩ := T.all k
    obtain ⟨a, o, pm, cd, doc, hg, ho, hd, hcode⟩ := g.fns rec hr
    rw [hn, hf] at hg
    cases hg
    exact ⟨⟨a, o, _, rfl, ho, hd⟩, fun A φ H s vs xs r H' hA hm => by cases hm⟩
  | succ d ih =>
    intro k f hf
    obtain ⟨rec, ps, lay, n, hr, hn, F, hlay, hc, hb⟩ := T.all k
    obtain ⟨a, o, pm, cd, doc, hg, ho, hd, hcode⟩ := g.fns rec hr
    rw [hn, hf] at hg
    cases hg
    refine ⟨⟨a, o, _, rfl, ho, hd⟩, fun A φ H s vs xs r H' hA hm R hv => ?_⟩
    have hcd : codes (callM codes d) k = (ps.length, n, (codes (callM codes d) k).2.2) := by
      obtain ⟨h1, h2⟩ := hc (callM codes d)
      rw [← h1, ← h2]
    unfold callM at hm
    rw [hcd] at hm
    split at hm
    · rename_i hp
      obtain ⟨q, hq, e⟩ := Option.map_eq_some_iff.mp hm
      cases e
      have R0 : RelH g ⟨[], φ.bad, fun b => φ.fro b⟩ [] s.heap := ⟨R.base, rfl, List.nodup_nil, fun _ h => (nomatch h), R.badIn, fun b hf => ⟨fun h => (nomatch h), (R.froIs b hf).2⟩, fun k a vs h => by simp at h⟩
      refine wpAny_mono (run_ref F ho hd hcode hlay (fun L a => hb d _ ih pm cd doc L a) hA (w := q.1) (Hn := q.2) hq R0 (vrs_pure hp hv)) (fun z s' h => ?_) fun _ _ f => f
      obtain ⟨φ', S, hl, RH, V⟩ := h
      have k : ∀ b o, s.heap.get? b = some o → s'.heap.get? b = some o := fun b o e => S.kept b o e (fun h => nomatch h) (fun _ h => nomatch h)
      have hbad : φ'.bad = φ.bad := S.bad
      have hout : ∀ b, φ'.fro b → b ∉ φ.l := fun b hf hm => by
        rcases S.ffresh b hf with h | h
        · exact (R.froIs b h).1 hm
        · obtain ⟨its, n, hl⟩ := R.isList hm
          have hl' : s.heap.get? b = some _ := hl
          rw [h] at hl'; cases hl'
      have Rk := R.ext k
      have L1 : Le φ ⟨φ.l, φ.bad, φ'.fro⟩ := ⟨List.prefix_refl _, fun _ h => h, S.pre.2.2⟩
      refine ⟨⟨φ.l, φ.bad, φ'.fro⟩, ⟨S.same, L1, rfl, S.dom, fun _ h => .inl h, fun b o e _ _ => k b o e, S.ffresh⟩,
        ⟨Rk.base, Rk.len, Rk.nodup, Rk.new, Rk.badIn, fun b hf => ⟨hout b hf, (RH.froIs b hf).2⟩, fun i a vs h1 h2 => let ⟨its, hl, q⟩ := Rk.lists i a vs h1 h2; ⟨its, hl, q.mono (.of fun _ _ e => e) L1⟩⟩, ?_⟩
      have L2 : Le φ' ⟨φ.l, φ.bad, φ'.fro⟩ := by
        refine ⟨by rw [hl]; exact List.nil_prefix, fun b h => ?_, fun _ h => h⟩
        rw [hbad]; exact h
      exact VR.mono (.of fun _ _ e => e) L2 V
    · refine wpAny_mono (run_ref F ho hd hcode hlay (fun L a => hb d _ ih pm cd doc L a) hA hm R hv) (fun z s' h => ?_) fun _ _ f => f
      obtain ⟨φ', S, hl, RH, V⟩ := h
      exact ⟨φ', S, RH, V⟩
end
noncomputable def notE (a : PE) : PE := fun L H => (a L H).bind fun r => (truth r.1).map fun b => (.bool !b, r.2)
noncomputable def failS : PS := fun _ _ => none

noncomputable def frzE (a : PE) : PE := fun L H => (a L H).bind fun r => (frz 6 H.length r.2 r.1).bind fun v => (frzH H.length r.2).map fun H' => (v, H')

section
variable {g : G} {φ ψ : Fi}
mutual
/-- a value that stood before is still told by what stood before -/
theorem vr_back {h₀ h : Heap} {F : Addr → Prop} (P : φ.l <+: ψ.l) (hF : ∀ b, ψ.fro b → F b) : ∀ {v : V} {x x₀ : Value}, VR g h₀ φ v x₀ → VR g h ψ v x → VR g h ⟨φ.l, ψ.bad, F⟩ v x
  | .none, _, _, _, h => h
  | .bool _, _, _, _, h => h
  | .int _, _, _, _, h => h
  | .tup vs, x, x₀, q, h => by
    unfold VR at q h ⊢
    obtain ⟨_, items₀, _, _, _, hv₀⟩ := q
    obtain ⟨a, items, rfl, ht, hb, hv⟩ := h
    exact ⟨a, items, rfl, ht, hb, vrs_back P hF hv₀ hv⟩
  | .lst k, x, x₀, q, h => by
    unfold VR at q h ⊢
    obtain ⟨a₀, _, h1⟩ := q
    obtain ⟨a, rfl, h2⟩ := h
    rw [prefix_get P h1] at h2
    exact ⟨a, rfl, by rw [← h2]; exact h1⟩
  | .rng a b c, x, x₀, _, h => by unfold VR at h ⊢; exact h
  | .fro vs, x, x₀, q, h => by
    unfold VR at q h ⊢
    obtain ⟨_, items₀, _, _, _, hv₀⟩ := q
    obtain ⟨a, items, rfl, hl, hf, hv⟩ := h
    exact ⟨a, items, rfl, hl, hF _ hf, vrs_back P hF hv₀ hv⟩
  | .fn k, x, x₀, _, h => by unfold VR at h ⊢; exact h
theorem vrs_back {h₀ h : Heap} {F : Addr → Prop} (P : φ.l <+: ψ.l) (hF : ∀ b, ψ.fro b → F b) : ∀ {vs : List V} {xs xs₀ : List Value}, VRs g h₀ φ vs xs₀ → VRs g h ψ vs xs → VRs g h ⟨φ.l, ψ.bad, F⟩ vs xs
  | [], _, _, _, h => by unfold VRs at h ⊢; exact h
  | v :: vs, _, _, q, h => by
    unfold VRs at q h ⊢
    obtain ⟨_, _, _, q1, q2⟩ := q
    obtain ⟨y, ys, rfl, h1, h2⟩ := h
    exact ⟨y, ys, rfl, vr_back P hF q1 h1, vrs_back P hF q2 h2⟩
end
end

section
variable {g : G} {d : Nat} {sl : List Slot} {A : Around} {φ φ' : Fi} {L L' : Loc} {H H' : Hp} {s : Shared} {env : Env}

theorem r_not {x : Expr} {pos : Pos} {a : PE} (h : RefE g d sl (eval x env) a) : RefE g d sl (eval (.UnaryOp .Not x pos) env) (notE a) := by
  refine ⟨fun A φ L H s v H' hA hm R => ?_⟩
  obtain ⟨r, hr, hm⟩ := Option.bind_eq_some_iff.mp hm
  obtain ⟨b, hb, e⟩ := Option.map_eq_some_iff.mp hm
  cases e
  exact wpAny_UnaryOp (h.use (v := r.1) (H' := r.2) hA hr R fun y s₁ φ₁ S₁ R₁ v₁ => not_value (truthy_V v₁ hb ⟨φ₁, S₁, R₁, by rw [VR]⟩))

theorem r_frz {t : Sem Value} {a : PE} (h : RefE g d sl t a) : RefE g d sl t (frzE a) := by
  refine ⟨fun A φ L H s v H' hA hm R => ?_⟩
  obtain ⟨r, hr, hm⟩ := Option.bind_eq_some_iff.mp hm
  obtain ⟨w, hw, hm⟩ := Option.bind_eq_some_iff.mp hm
  obtain ⟨H2, hH2, e⟩ := Option.map_eq_some_iff.mp hm
  cases e
  refine h.use (v := r.1) (H' := r.2) hA hr R fun x s₁ φ₁ S₁ R₁ v₁ => ?_
  let F2 : Addr → Prop := fun b => φ₁.fro b ∨ (b ∈ φ₁.l ∧ b ∉ φ.l)
  have hF2 : ∀ b, F2 b → b ∉ φ.l ∧ ∃ items, PL s₁.heap b items := fun b hb => by
    rcases hb with hb | ⟨h1, h2⟩
    · obtain ⟨h1, h2⟩ := R₁.H.froIs b hb
      exact ⟨fun hm => h1 (S₁.pre.1.subset hm), h2⟩
    · obtain ⟨its, n, hl⟩ := R₁.H.isList h1
      exact ⟨h2, its, n, hl⟩
  have RH := frzH_ok (φ := φ) (F := F2) R₁.H S₁.pre.1 R.H.len (fun b h => .inl h) (fun b h1 h2 => .inr ⟨h1, h2⟩) hF2 hH2
  have VO := frz_ok (φ := φ) (F := F2) R₁.H S₁.pre.1 R.H.len.symm (fun b h => .inl h) (fun b h1 h2 => .inr ⟨h1, h2⟩) 6 hw v₁
  refine ⟨⟨φ.l, φ₁.bad, F2⟩, ⟨S₁.same, ⟨List.prefix_refl _, S₁.pre.2.1, fun b h => .inl (S₁.pre.2.2 b h)⟩, S₁.bad, S₁.dom, fun _ h => .inl h, S₁.kept, fun b hb => ?_⟩, ⟨RH, R₁.llen, fun k sk hk => ⟨(R₁.slots k sk hk).1, ?_⟩, R₁.apart⟩, VO⟩
  · rcases hb with hb | ⟨h1, h2⟩
    · exact S₁.ffresh b hb
    · rcases S₁.fresh b h1 with h | h
      · exact absurd h h2
      · exact .inr h
  · have q0 := (R.slots k sk hk).2
    have q1 := (R₁.slots k sk hk).2
    unfold SlotOk at q0 q1 ⊢
    split
    · rename_i hc
      rw [hc] at q0 q1
      obtain ⟨_, _, q0⟩ := q0
      obtain ⟨o, ho, q1⟩ := q1
      refine ⟨o, ho, fun v hv => ?_⟩
      obtain ⟨_, _, q0⟩ := q0 v hv
      obtain ⟨y, hy, q1⟩ := q1 v hv
      exact ⟨y, hy, vr_back S₁.pre.1 (fun b h => .inl h) q0 q1⟩
    · rename_i hc
      rw [hc] at q0 q1
      obtain ⟨_, _, q0⟩ := q0
      obtain ⟨o, ho, q1⟩ := q1
      refine ⟨o, ho, fun v hv => ?_⟩
      obtain ⟨_, _, q0⟩ := q0 v hv
      obtain ⟨y, hy, q1⟩ := q1 v hv
      exact ⟨y, hy, vr_back S₁.pre.1 (fun b h => .inl h) q0 q1⟩

theorem s_fail {t : Sem Flow} : RefS g d sl t failS := by
  refine ⟨fun A φ L H s f L' H' hA hm => ?_⟩
  cases hm

theorem tg_val {a : PE} {target : Expr} : ∀ i, (∃ L H H', valI a L H = some (i, H')) → tgOk i target := by
  rintro i ⟨L, H, H', hm⟩
  obtain ⟨q, _, hm⟩ := Option.bind_eq_some_iff.mp hm
  split at hm
  · cases hm; trivial
  · cases hm
theorem tg_tup {p : It → Prop} {es : List Expr} {k : Nat} {pos : Pos} : ∀ i, p i → tgOk i (.Tuple es k pos) := by
  intro i _
  cases i with
  | val v => trivial
  | enum v => exact ⟨_, _, _, rfl⟩
  | zip v w => exact ⟨_, _, _, rfl⟩

theorem r_globk {x : Str} {pos : Pos} (k : Nat) (he : EnvOk env) (hk : env.kindOf x = some .globalImplicit) (hg : ∀ k, ∃ a, g.mg (g.gname k) = some a) (hx : g.gname k = x) (hd : (x == ("__debug__" : Str)) = false) :
    RefE g d sl (eval (.Name x pos) env) (cst (.fn k)) :=
  let ⟨a, ha⟩ := hg k
  r_glob he hk hx (by rw [← hx]; exact ha) hd
end

theorem comp_env {scope : Scope} {cl : List (Str × Addr)} {C : Addr} {env : Env} (hk : scope.kind = .function) (he : EnvOk env) : EnvOk (compEnvC scope cl C env) := ⟨hk, he.globals, he.builtins⟩

noncomputable def recOf : Stmt → DefRec
  | .FunctionDef name params body _ _ _ scope _ _ pos => ⟨name, params, body, scope, pos⟩
  | .Pass pos => ⟨"", ⟨[], [], none, [], [], none, []⟩, [], ⟨.function, [], false, false, []⟩, pos⟩
  | _ => ⟨"", ⟨[], [], none, [], [], none, []⟩, [], ⟨.function, [], false, false, []⟩, ⟨0, 0, 0, 0⟩⟩
noncomputable def stAt : List Stmt → Nat → Stmt
  | [], _ => .Pass ⟨0, 0, 0, 0⟩
  | st :: _, 0 => st
  | _ :: r, n + 1 => stAt r n
noncomputable abbrev rc (i : Nat) : DefRec := recOf (stAt PySem.Challenge.pw_xm0426_01.main.body i)
/-- what holds of every list of n values -/
theorem len_1 {P : List Value → Prop} (h : ∀ a, P [a]) : ∀ vals : List Value, vals.length = 1 → P vals
  | [a], _ => h a
theorem len_2 {P : List Value → Prop} (h : ∀ a b, P [a, b]) : ∀ vals : List Value, vals.length = 2 → P vals
  | [a, b], _ => h a b
theorem len_3 {P : List Value → Prop} (h : ∀ a b c, P [a, b, c]) : ∀ vals : List Value, vals.length = 3 → P vals
  | [a, b, c], _ => h a b c
theorem len_4 {P : List Value → Prop} (h : ∀ a b c d, P [a, b, c, d]) : ∀ vals : List Value, vals.length = 4 → P vals
  | [a, b, c, d], _ => h a b c d
theorem len_5 {P : List Value → Prop} (h : ∀ a b c d e, P [a, b, c, d, e]) : ∀ vals : List Value, vals.length = 5 → P vals
  | [a, b, c, d, e], _ => h a b c d e
noncomputable def gnames : Nat → Str
  | 1 => "is_even"
  | 2 => "compare"
  | 3 => "add"
  | 4 => "sub"
  | 5 => "add_limb"
  | 6 => "divrem_limb"
  | 7 => "shift_left"
  | 8 => "shift_right"
  | 9 => "bits"
  | 10 => "low"
  | 11 => "signed"
  | 12 => "s_neg"
  | 13 => "s_add"
  | 14 => "s_sub"
  | 15 => "s_mul"
  | 16 => "s_half"
  | 17 => "tdiv"
  | 18 => "fdiv"
  | 19 => "s_shift"
  | 20 => "nearest_quotient"
  | 21 => "mul_school"
  | 22 => "divrem_small"
  | 23 => "guessed_limb"
  | 24 => "take_away"
  | 25 => "put_back"
  | 26 => "divide_rows"
  | 27 => "divrem_school"
  | 28 => "_law_squared_off"
  | 29 => "_law_limbs"
  | 30 => "_law_signed"
  | 31 => "_law_times"
  | 32 => "_law_squares"
  | 33 => "_law_four"
  | 34 => "_law_halved"
  | 35 => "_law_step"
  | 36 => "_law_led_down"
  | 37 => "law"
  | _ => "normal"
noncomputable def cd_normal (c : CT) : PS :=
  (seqS (asg 1 (callN lenF (consL (var 0) nilL)))
  (seqS (whileS (andB (tval (bin (cmpV .Gt) (var 1) (cst (.int 0)))) (tval (bin (cmpV .Eq) (bin idxV (var 0) (bin (binV .Sub) (var 1) (cst (.int 1)))) (cst (.int 0))))) (seqS (augS 1 .Sub (cst (.int 1)))
    nilS))
  (seqS (retS (sliceE (var 0) (cst .none) (var 1)))
  nilS)))
noncomputable def cd_is_even (c : CT) : PS :=
  (seqS (retS (orE (bin (cmpV .Eq) (callN lenF (consL (var 0) nilL)) (cst (.int 0))) (bin (cmpV .Eq) (bin (binV .BitAnd) (bin idxV (var 0) (cst (.int 0))) (cst (.int 1))) (cst (.int 0)))))
  nilS)
noncomputable def cd_compare (c : CT) : PS :=
  (seqS (ifS (tval (bin (cmpV .NotEq) (callN lenF (consL (var 0) nilL)) (callN lenF (consL (var 1) nilL)))) (seqS (retS (iteE (tval (bin (cmpV .Lt) (callN lenF (consL (var 0) nilL)) (callN lenF (consL (var 1) nilL)))) (cst (.int (-1))) (cst (.int 1))))
    nilS) nilS)
  (seqS (forS (valI (callN rangeF (consL (bin (binV .Sub) (callN lenF (consL (var 0) nilL)) (cst (.int 1))) (consL (cst (.int (-1))) (consL (cst (.int (-1))) nilL))))) (tgN 2) (seqS (ifS (tval (bin (cmpV .NotEq) (bin idxV (var 0) (var 2)) (bin idxV (var 1) (var 2)))) (seqS (retS (iteE (tval (bin (cmpV .Lt) (bin idxV (var 0) (var 2)) (bin idxV (var 1) (var 2)))) (cst (.int (-1))) (cst (.int 1))))
      nilS) nilS)
    nilS))
  (seqS (retS (cst (.int 0)))
  nilS)))
noncomputable def cd_add (c : CT) : PS :=
  (seqS (ifS (tval (bin (cmpV .Lt) (callN lenF (consL (var 0) nilL)) (callN lenF (consL (var 1) nilL)))) (seqS (swpS [0, 1] (tupE (consL (var 1) (consL (var 0) nilL))))
    nilS) nilS)
  (seqS (swpS [3, 4, 5] (tupE (consL (lstE nilL) (consL (cst (.int 0)) (consL (bin (binV .Sub) (bin (binV .LShift) (cst (.int 1)) (var 2)) (cst (.int 1))) nilL)))))
  (seqS (forS (valI (callN rangeF (consL (callN lenF (consL (var 1) nilL)) nilL))) (tgN 6) (seqS (augS 4 .Add (bin (binV .Add) (bin idxV (var 0) (var 6)) (bin idxV (var 1) (var 6))))
    (seqS (exprS (appE (var 3) (bin (binV .BitAnd) (var 4) (var 5))))
    (seqS (augS 4 .RShift (var 2))
    nilS))))
  (seqS (forS (valI (callN rangeF (consL (callN lenF (consL (var 1) nilL)) (consL (callN lenF (consL (var 0) nilL)) nilL)))) (tgN 6) (seqS (augS 4 .Add (bin idxV (var 0) (var 6)))
    (seqS (exprS (appE (var 3) (bin (binV .BitAnd) (var 4) (var 5))))
    (seqS (augS 4 .RShift (var 2))
    nilS))))
  (seqS (ifS (tval (bin (cmpV .Gt) (var 4) (cst (.int 0)))) (seqS (exprS (appE (var 3) (var 4)))
    nilS) nilS)
  (seqS (retS (var 3))
  nilS))))))
noncomputable def cd_sub (c : CT) : PS :=
  (seqS (ifS (tval (bin (cmpV .Lt) (ucall c (cst (.fn 2)) (consL (var 0) (consL (var 1) nilL))) (cst (.int 0)))) failS nilS)
  (seqS (swpS [3, 4, 5] (tupE (consL (lstE nilL) (consL (cst (.int 0)) (consL (bin (binV .LShift) (cst (.int 1)) (var 2)) nilL)))))
  (seqS (forS (valI (callN rangeF (consL (callN lenF (consL (var 0) nilL)) nilL))) (tgN 6) (seqS (asg 7 (bin (binV .Sub) (bin (binV .Sub) (bin idxV (var 0) (var 6)) (var 4)) (iteE (tval (bin (cmpV .Lt) (var 6) (callN lenF (consL (var 1) nilL)))) (bin idxV (var 1) (var 6)) (cst (.int 0)))))
    (seqS (asg 4 (iteE (tval (bin (cmpV .Lt) (var 7) (cst (.int 0)))) (cst (.int 1)) (cst (.int 0))))
    (seqS (exprS (appE (var 3) (iteE (tval (bin (cmpV .Lt) (var 7) (cst (.int 0)))) (bin (binV .Add) (var 7) (var 5)) (var 7))))
    nilS))))
  (seqS (retS (ucall c (cst (.fn 0)) (consL (var 3) nilL)))
  nilS))))
noncomputable def cd_add_limb (c : CT) : PS :=
  (seqS (swpS [3, 4] (tupE (consL (lstE nilL) (consL (bin (binV .Sub) (bin (binV .LShift) (cst (.int 1)) (var 2)) (cst (.int 1))) nilL))))
  (seqS (forS (valI (var 0)) (tgN 5) (seqS (augS 1 .Add (var 5))
    (seqS (exprS (appE (var 3) (bin (binV .BitAnd) (var 1) (var 4))))
    (seqS (augS 1 .RShift (var 2))
    nilS))))
  (seqS (ifS (tval (bin (cmpV .Gt) (var 1) (cst (.int 0)))) (seqS (exprS (appE (var 3) (var 1)))
    nilS) nilS)
  (seqS (retS (var 3))
  nilS))))
noncomputable def cd_divrem_limb (c : CT) : PS :=
  (seqS (ifS (tval (bin (cmpV .Eq) (var 1) (cst (.int 0)))) failS nilS)
  (seqS (swpS [3, 4] (tupE (consL (bin (binV .Mult) (lstE (consL (cst (.int 0)) nilL)) (callN lenF (consL (var 0) nilL))) (consL (cst (.int 0)) nilL))))
  (seqS (forS (valI (callN rangeF (consL (bin (binV .Sub) (callN lenF (consL (var 0) nilL)) (cst (.int 1))) (consL (cst (.int (-1))) (consL (cst (.int (-1))) nilL))))) (tgN 5) (seqS (asg 4 (bin (binV .BitOr) (bin (binV .LShift) (var 4) (var 2)) (bin idxV (var 0) (var 5))))
    (seqS (setS (var 3) (var 5) (bin (binV .FloorDiv) (var 4) (var 1)))
    (seqS (augS 4 .Mod (var 1))
    nilS))))
  (seqS (retS (tupE (consL (ucall c (cst (.fn 0)) (consL (var 3) nilL)) (consL (var 4) nilL))))
  nilS))))
noncomputable def cd_shift_left (c : CT) : PS :=
  (seqS (ifS (tval (bin (cmpV .Eq) (callN lenF (consL (var 0) nilL)) (cst (.int 0)))) (seqS (retS (lstE nilL))
    nilS) nilS)
  (seqS (swpS [3, 4] (tupE (consL (bin (binV .FloorDiv) (var 1) (var 2)) (consL (bin (binV .Mod) (var 1) (var 2)) nilL))))
  (seqS (swpS [5, 6, 7] (tupE (consL (bin (binV .Mult) (lstE (consL (cst (.int 0)) nilL)) (var 3)) (consL (cst (.int 0)) (consL (bin (binV .Sub) (bin (binV .LShift) (cst (.int 1)) (var 2)) (cst (.int 1))) nilL)))))
  (seqS (forS (valI (var 0)) (tgN 8) (seqS (augS 6 .BitOr (bin (binV .LShift) (var 8) (var 4)))
    (seqS (exprS (appE (var 5) (bin (binV .BitAnd) (var 6) (var 7))))
    (seqS (augS 6 .RShift (var 2))
    nilS))))
  (seqS (ifS (tval (bin (cmpV .Gt) (var 6) (cst (.int 0)))) (seqS (exprS (appE (var 5) (var 6)))
    nilS) nilS)
  (seqS (retS (var 5))
  nilS))))))
noncomputable def cd_shift_right (c : CT) : PS :=
  (seqS (swpS [3, 4] (tupE (consL (bin (binV .FloorDiv) (var 1) (var 2)) (consL (bin (binV .Mod) (var 1) (var 2)) nilL))))
  (seqS (swpS [5, 6] (tupE (consL (lstE nilL) (consL (bin (binV .Sub) (bin (binV .LShift) (cst (.int 1)) (var 2)) (cst (.int 1))) nilL))))
  (seqS (forS (valI (callN rangeF (consL (var 3) (consL (callN lenF (consL (var 0) nilL)) nilL)))) (tgN 7) (seqS (asg 8 (iteE (tval (bin (cmpV .Lt) (bin (binV .Add) (var 7) (cst (.int 1))) (callN lenF (consL (var 0) nilL)))) (bin idxV (var 0) (bin (binV .Add) (var 7) (cst (.int 1)))) (cst (.int 0))))
    (seqS (exprS (appE (var 5) (bin (binV .BitAnd) (bin (binV .BitOr) (bin (binV .RShift) (bin idxV (var 0) (var 7)) (var 4)) (bin (binV .LShift) (var 8) (bin (binV .Sub) (var 2) (var 4)))) (var 6))))
    nilS)))
  (seqS (retS (ucall c (cst (.fn 0)) (consL (var 5) nilL)))
  nilS))))
noncomputable def cd_bits (c : CT) : PS :=
  (seqS (retS (iteE (tval (bin (cmpV .Gt) (callN lenF (consL (var 0) nilL)) (cst (.int 0)))) (bin (binV .Add) (bin (binV .Mult) (bin (binV .Sub) (callN lenF (consL (var 0) nilL)) (cst (.int 1))) (var 1)) (bitlen (bin idxV (var 0) (cst (.int (-1)))))) (cst (.int 0))))
  nilS)
noncomputable def cd_low (c : CT) : PS :=
  (seqS (swpS [3, 4] (tupE (consL (bin (binV .FloorDiv) (var 1) (var 2)) (consL (bin (binV .Mod) (var 1) (var 2)) nilL))))
  (seqS (ifS (tval (bin (cmpV .GtE) (var 3) (callN lenF (consL (var 0) nilL)))) (seqS (retS (sliceE (var 0) (cst .none) (cst .none)))
    nilS) nilS)
  (seqS (retS (ucall c (cst (.fn 0)) (consL (bin (binV .Add) (sliceE (var 0) (cst .none) (var 3)) (lstE (consL (bin (binV .BitAnd) (bin idxV (var 0) (var 3)) (bin (binV .Sub) (bin (binV .LShift) (cst (.int 1)) (var 4)) (cst (.int 1)))) nilL))) nilL)))
  nilS)))
noncomputable def cd_signed (c : CT) : PS :=
  (seqS (retS (tupE (consL (andE (var 0) (bin (cmpV .Gt) (callN lenF (consL (var 1) nilL)) (cst (.int 0)))) (consL (var 1) nilL))))
  nilS)
noncomputable def cd_s_neg (c : CT) : PS :=
  (seqS (retS (ucall c (cst (.fn 11)) (consL (notE (bin idxV (var 0) (cst (.int 0)))) (consL (bin idxV (var 0) (cst (.int 1))) nilL))))
  nilS)
noncomputable def cd_s_add (c : CT) : PS :=
  (seqS (ifS (tval (bin (cmpV .Eq) (bin idxV (var 0) (cst (.int 0))) (bin idxV (var 1) (cst (.int 0))))) (seqS (retS (ucall c (cst (.fn 11)) (consL (bin idxV (var 0) (cst (.int 0))) (consL (ucall c (cst (.fn 3)) (consL (bin idxV (var 0) (cst (.int 1))) (consL (bin idxV (var 1) (cst (.int 1))) (consL (var 2) nilL)))) nilL))))
    nilS) nilS)
  (seqS (ifS (tval (bin (cmpV .Lt) (ucall c (cst (.fn 2)) (consL (bin idxV (var 0) (cst (.int 1))) (consL (bin idxV (var 1) (cst (.int 1))) nilL))) (cst (.int 0)))) (seqS (retS (ucall c (cst (.fn 11)) (consL (bin idxV (var 1) (cst (.int 0))) (consL (ucall c (cst (.fn 4)) (consL (bin idxV (var 1) (cst (.int 1))) (consL (bin idxV (var 0) (cst (.int 1))) (consL (var 2) nilL)))) nilL))))
    nilS) nilS)
  (seqS (retS (ucall c (cst (.fn 11)) (consL (bin idxV (var 0) (cst (.int 0))) (consL (ucall c (cst (.fn 4)) (consL (bin idxV (var 0) (cst (.int 1))) (consL (bin idxV (var 1) (cst (.int 1))) (consL (var 2) nilL)))) nilL))))
  nilS)))
noncomputable def cd_s_sub (c : CT) : PS :=
  (seqS (retS (ucall c (cst (.fn 13)) (consL (var 0) (consL (ucall c (cst (.fn 12)) (consL (var 1) nilL)) (consL (var 2) nilL)))))
  nilS)
noncomputable def cd_s_mul (c : CT) : PS :=
  (seqS (retS (ucall c (cst (.fn 11)) (consL (bin (cmpV .NotEq) (bin idxV (var 0) (cst (.int 0))) (bin idxV (var 1) (cst (.int 0)))) (consL (ucall c (var 3) (consL (bin idxV (var 0) (cst (.int 1))) (consL (bin idxV (var 1) (cst (.int 1))) (consL (var 2) nilL)))) nilL))))
  nilS)
noncomputable def cd_s_half (c : CT) : PS :=
  (seqS (ifS (notB (tval (ucall c (cst (.fn 1)) (consL (bin idxV (var 0) (cst (.int 1))) nilL)))) failS nilS)
  (seqS (retS (ucall c (cst (.fn 11)) (consL (bin idxV (var 0) (cst (.int 0))) (consL (ucall c (cst (.fn 8)) (consL (bin idxV (var 0) (cst (.int 1))) (consL (cst (.int 1)) (consL (var 1) nilL)))) nilL))))
  nilS))
noncomputable def cd_tdiv (c : CT) : PS :=
  (seqS (ifS (tval (bin (cmpV .Eq) (callN lenF (consL (bin idxV (var 1) (cst (.int 1))) nilL)) (cst (.int 0)))) failS nilS)
  (seqS (unpS [4, 5] (ucall c (var 3) (consL (bin idxV (var 0) (cst (.int 1))) (consL (bin idxV (var 1) (cst (.int 1))) (consL (var 2) nilL)))))
  (seqS (retS (tupE (consL (ucall c (cst (.fn 11)) (consL (bin (cmpV .NotEq) (bin idxV (var 0) (cst (.int 0))) (bin idxV (var 1) (cst (.int 0)))) (consL (var 4) nilL))) (consL (ucall c (cst (.fn 11)) (consL (bin idxV (var 0) (cst (.int 0))) (consL (var 5) nilL))) nilL))))
  nilS)))
noncomputable def cd_fdiv (c : CT) : PS :=
  (seqS (unpS [4, 5] (ucall c (cst (.fn 17)) (consL (var 0) (consL (var 1) (consL (var 2) (consL (var 3) nilL))))))
  (seqS (ifS (andB (tval (bin (cmpV .Gt) (callN lenF (consL (bin idxV (var 5) (cst (.int 1))) nilL)) (cst (.int 0)))) (tval (bin (cmpV .NotEq) (bin idxV (var 0) (cst (.int 0))) (bin idxV (var 1) (cst (.int 0)))))) (seqS (retS (tupE (consL (tupE (consL (cst (.bool true)) (consL (ucall c (cst (.fn 5)) (consL (bin idxV (var 4) (cst (.int 1))) (consL (cst (.int 1)) (consL (var 2) nilL)))) nilL))) (consL (ucall c (cst (.fn 13)) (consL (var 5) (consL (var 1) (consL (var 2) nilL)))) nilL))))
    nilS) nilS)
  (seqS (retS (tupE (consL (var 4) (consL (var 5) nilL))))
  nilS)))
noncomputable def cd_s_shift (c : CT) : PS :=
  (seqS (ifS (tval (bin (cmpV .GtE) (var 1) (cst (.int 0)))) (seqS (retS (ucall c (cst (.fn 11)) (consL (bin idxV (var 0) (cst (.int 0))) (consL (ucall c (cst (.fn 7)) (consL (bin idxV (var 0) (cst (.int 1))) (consL (var 1) (consL (var 2) nilL)))) nilL))))
    nilS) nilS)
  failS)
noncomputable def cd_nearest_quotient (c : CT) : PS :=
  (seqS (retS (bin idxV (ucall c (cst (.fn 18)) (consL (ucall c (cst (.fn 13)) (consL (ucall c (cst (.fn 19)) (consL (var 0) (consL (cst (.int 1)) (consL (var 2) nilL)))) (consL (var 1) (consL (var 2) nilL)))) (consL (ucall c (cst (.fn 19)) (consL (var 1) (consL (cst (.int 1)) (consL (var 2) nilL)))) (consL (var 2) (consL (var 3) nilL))))) (cst (.int 0))))
  nilS)
noncomputable def cd_mul_school (c : CT) : PS :=
  (seqS (swpS [3, 4] (tupE (consL (bin (binV .Mult) (lstE (consL (cst (.int 0)) nilL)) (bin (binV .Add) (callN lenF (consL (var 0) nilL)) (callN lenF (consL (var 1) nilL)))) (consL (bin (binV .Sub) (bin (binV .LShift) (cst (.int 1)) (var 2)) (cst (.int 1))) nilL))))
  (seqS (forS (enumI (var 0)) (tgT [5, 6]) (seqS (asg 7 (cst (.int 0)))
    (seqS (forS (enumI (var 1)) (tgT [8, 9]) (seqS (augS 7 .Add (bin (binV .Add) (bin idxV (var 3) (bin (binV .Add) (var 5) (var 8))) (bin (binV .Mult) (var 6) (var 9))))
      (seqS (setS (var 3) (bin (binV .Add) (var 5) (var 8)) (bin (binV .BitAnd) (var 7) (var 4)))
      (seqS (augS 7 .RShift (var 2))
      nilS))))
    (seqS (setS (var 3) (bin (binV .Add) (var 5) (callN lenF (consL (var 1) nilL))) (var 7))
    nilS))))
  (seqS (retS (ucall c (cst (.fn 0)) (consL (var 3) nilL)))
  nilS)))
noncomputable def cd_divrem_small (c : CT) : PS :=
  (seqS (unpS [3, 4] (ucall c (cst (.fn 6)) (consL (var 0) (consL (bin idxV (var 1) (cst (.int 0))) (consL (var 2) nilL)))))
  (seqS (retS (tupE (consL (var 3) (consL (iteE (tval (bin (cmpV .Gt) (var 4) (cst (.int 0)))) (lstE (consL (var 4) nilL)) (lstE nilL)) nilL))))
  nilS))
noncomputable def cd_guessed_limb (c : CT) : PS :=
  (seqS (swpS [4, 5] (tupE (consL (bin (binV .BitOr) (bin (binV .LShift) (bin idxV (var 0) (cst (.int 2))) (var 3)) (bin idxV (var 0) (cst (.int 1)))) (consL (bin (binV .LShift) (cst (.int 1)) (var 3)) nilL))))
  (seqS (asg 6 (callN minF (consL (bin (binV .FloorDiv) (var 4) (var 1)) (consL (bin (binV .Sub) (var 5) (cst (.int 1))) nilL))))
  (seqS (asg 7 (bin (binV .Sub) (var 4) (bin (binV .Mult) (var 6) (var 1))))
  (seqS (whileS (andB (tval (bin (cmpV .Lt) (var 7) (var 5))) (tval (bin (cmpV .Gt) (bin (binV .Mult) (var 6) (var 2)) (bin (binV .BitOr) (bin (binV .LShift) (var 7) (var 3)) (bin idxV (var 0) (cst (.int 0))))))) (seqS (augS 6 .Sub (cst (.int 1)))
    (seqS (augS 7 .Add (var 1))
    nilS)))
  (seqS (retS (var 6))
  nilS)))))
noncomputable def cd_take_away (c : CT) : PS :=
  (seqS (swpS [5, 6] (tupE (consL (cst (.int 0)) (consL (bin (binV .LShift) (cst (.int 1)) (var 4)) nilL))))
  (seqS (forS (enumI (var 1)) (tgT [7, 8]) (seqS (asg 9 (bin (binV .Sub) (bin idxV (var 0) (bin (binV .Add) (var 3) (var 7))) (bin (binV .Mod) (bin (binV .Add) (bin (binV .Mult) (var 2) (var 8)) (var 5)) (var 6))))
    (seqS (asg 5 (bin (binV .Add) (bin (binV .FloorDiv) (bin (binV .Add) (bin (binV .Mult) (var 2) (var 8)) (var 5)) (var 6)) (iteE (tval (bin (cmpV .Lt) (var 9) (cst (.int 0)))) (cst (.int 1)) (cst (.int 0)))))
    (seqS (setS (var 0) (bin (binV .Add) (var 3) (var 7)) (iteE (tval (bin (cmpV .Lt) (var 9) (cst (.int 0)))) (bin (binV .Add) (var 9) (var 6)) (var 9)))
    nilS))))
  (seqS (asg 9 (bin (binV .Sub) (bin idxV (var 0) (bin (binV .Add) (var 3) (callN lenF (consL (var 1) nilL)))) (var 5)))
  (seqS (setS (var 0) (bin (binV .Add) (var 3) (callN lenF (consL (var 1) nilL))) (iteE (tval (bin (cmpV .Lt) (var 9) (cst (.int 0)))) (bin (binV .Add) (var 9) (var 6)) (var 9)))
  (seqS (retS (iteE (tval (bin (cmpV .Lt) (var 9) (cst (.int 0)))) (cst (.int 1)) (cst (.int 0))))
  nilS)))))
noncomputable def cd_put_back (c : CT) : PS :=
  (seqS (swpS [4, 5] (tupE (consL (cst (.int 0)) (consL (bin (binV .Sub) (bin (binV .LShift) (cst (.int 1)) (var 3)) (cst (.int 1))) nilL))))
  (seqS (forS (enumI (var 1)) (tgT [6, 7]) (seqS (augS 4 .Add (bin (binV .Add) (bin idxV (var 0) (bin (binV .Add) (var 2) (var 6))) (var 7)))
    (seqS (setS (var 0) (bin (binV .Add) (var 2) (var 6)) (bin (binV .BitAnd) (var 4) (var 5)))
    (seqS (augS 4 .RShift (var 3))
    nilS))))
  (seqS (setS (var 0) (bin (binV .Add) (var 2) (callN lenF (consL (var 1) nilL))) (bin (binV .BitAnd) (bin (binV .Add) (bin idxV (var 0) (bin (binV .Add) (var 2) (callN lenF (consL (var 1) nilL)))) (var 4)) (var 5)))
  nilS)))
noncomputable def cd_divide_rows (c : CT) : PS :=
  (seqS (asg 3 (callN lenF (consL (var 1) nilL)))
  (seqS (asg 4 (bin (binV .Mult) (lstE (consL (cst (.int 0)) nilL)) (bin (binV .Sub) (callN lenF (consL (var 0) nilL)) (var 3))))
  (seqS (forS (valI (callN rangeF (consL (bin (binV .Sub) (bin (binV .Sub) (callN lenF (consL (var 0) nilL)) (var 3)) (cst (.int 1))) (consL (cst (.int (-1))) (consL (cst (.int (-1))) nilL))))) (tgN 5) (seqS (asg 6 (ucall c (cst (.fn 23)) (consL (sliceE (var 0) (bin (binV .Sub) (bin (binV .Add) (var 5) (var 3)) (cst (.int 2))) (bin (binV .Add) (bin (binV .Add) (var 5) (var 3)) (cst (.int 1)))) (consL (bin idxV (var 1) (bin (binV .Sub) (var 3) (cst (.int 1)))) (consL (bin idxV (var 1) (bin (binV .Sub) (var 3) (cst (.int 2)))) (consL (var 2) nilL))))))
    (seqS (ifS (tval (bin (cmpV .Eq) (ucall c (cst (.fn 24)) (consL (var 0) (consL (var 1) (consL (var 6) (consL (var 5) (consL (var 2) nilL)))))) (cst (.int 1)))) (seqS (augS 6 .Sub (cst (.int 1)))
      (seqS (exprS (ucall c (cst (.fn 25)) (consL (var 0) (consL (var 1) (consL (var 5) (consL (var 2) nilL))))))
      nilS)) nilS)
    (seqS (setS (var 4) (var 5) (var 6))
    nilS))))
  (seqS (retS (var 4))
  nilS))))
noncomputable def cd_divrem_school (c : CT) : PS :=
  (seqS (ifS (tval (bin (cmpV .Eq) (callN lenF (consL (var 1) nilL)) (cst (.int 0)))) failS nilS)
  (seqS (ifS (tval (bin (cmpV .Lt) (ucall c (cst (.fn 2)) (consL (var 0) (consL (var 1) nilL))) (cst (.int 0)))) (seqS (retS (tupE (consL (lstE nilL) (consL (sliceE (var 0) (cst .none) (cst .none)) nilL))))
    nilS) nilS)
  (seqS (ifS (tval (bin (cmpV .Eq) (callN lenF (consL (var 1) nilL)) (cst (.int 1)))) (seqS (retS (ucall c (cst (.fn 22)) (consL (var 0) (consL (var 1) (consL (var 2) nilL)))))
    nilS) nilS)
  (seqS (asg 3 (bin (binV .Sub) (var 2) (ucall c (cst (.fn 9)) (consL (lstE (consL (bin idxV (var 1) (cst (.int (-1)))) nilL)) (consL (var 2) nilL)))))
  (seqS (asg 4 (ucall c (cst (.fn 7)) (consL (var 1) (consL (var 3) (consL (var 2) nilL)))))
  (seqS (asg 5 (ucall c (cst (.fn 7)) (consL (var 0) (consL (var 3) (consL (var 2) nilL)))))
  (seqS (asg 5 (bin (binV .Add) (var 5) (bin (binV .Mult) (lstE (consL (cst (.int 0)) nilL)) (bin (binV .Sub) (bin (binV .Add) (callN lenF (consL (var 0) nilL)) (cst (.int 1))) (callN lenF (consL (var 5) nilL))))))
  (seqS (asg 6 (ucall c (cst (.fn 26)) (consL (var 5) (consL (var 4) (consL (var 2) nilL)))))
  (seqS (retS (tupE (consL (ucall c (cst (.fn 0)) (consL (var 6) nilL)) (consL (ucall c (cst (.fn 8)) (consL (ucall c (cst (.fn 0)) (consL (var 5) nilL)) (consL (var 3) (consL (var 2) nilL)))) nilL))))
  nilS)))))))))
noncomputable def cd_l_squared_off (c : CT) : PS :=
  (seqS (setS (var 0) (cst (.int 0)) (bin (binV .Add) (bin idxV (var 0) (cst (.int 0))) (cst (.int 1))))
  (seqS (ifS (tval (bin (cmpV .LtE) (bin idxV (var 0) (cst (.int 0))) (callN lenF (consL (bin idxV (var 0) (cst (.int 1))) nilL)))) (seqS (retS (bin (binV .Mod) (bin idxV (bin idxV (var 0) (cst (.int 1))) (bin (binV .Sub) (bin idxV (var 0) (cst (.int 0))) (cst (.int 1)))) (var 1)))
    nilS) nilS)
  (seqS (retS (bin (binV .Mod) (bin (binV .Add) (bin (binV .Add) (bin (binV .Mult) (cst (.int 7)) (bin idxV (var 0) (cst (.int 0)))) (bin (binV .FloorDiv) (bin idxV (var 0) (cst (.int 0))) (cst (.int 2)))) (cst (.int 2))) (var 1)))
  nilS)))
noncomputable def cd_l_limbs (c : CT) : PS :=
  (seqS (asg 2 (lstE nilL))
  (seqS (whileS (tval (bin (cmpV .Gt) (var 0) (cst (.int 0)))) (seqS (exprS (appE (var 2) (bin (binV .Mod) (var 0) (bin (binV .Pow) (cst (.int 2)) (var 1)))))
    (seqS (asg 0 (bin (binV .FloorDiv) (var 0) (bin (binV .Pow) (cst (.int 2)) (var 1))))
    nilS)))
  (seqS (retS (var 2))
  nilS)))
noncomputable def cd_l_signed (c : CT) : PS :=
  (seqS (retS (tupE (consL (bin (cmpV .Lt) (var 0) (cst (.int 0))) (consL (ucall c (cst (.fn 29)) (consL (callN absF (consL (var 0) nilL)) (consL (var 1) nilL))) nilL))))
  nilS)
noncomputable def cd_l_times (c : CT) : PS :=
  (seqS (retS (ucall c (cst (.fn 15)) (consL (var 0) (consL (var 1) (consL (var 2) (consL (cst (.fn 21)) nilL))))))
  nilS)
noncomputable def cd_l_squares (c : CT) : PS :=
  (seqS (asg 2 (frzE (tupE (consL (cst (.bool false)) (consL (lstE nilL) nilL)))))
  (seqS (forS (valI (var 0)) (tgN 3) (seqS (asg 2 (ucall c (cst (.fn 13)) (consL (var 2) (consL (ucall c (cst (.fn 31)) (consL (var 3) (consL (var 3) (consL (var 1) nilL)))) (consL (var 1) nilL)))))
    nilS))
  (seqS (retS (var 2))
  nilS)))
noncomputable def cd_l_four (c : CT) : PS :=
  (seqS (unpS [3, 4, 5, 6] (var 0))
  (seqS (unpS [7, 8, 9, 10] (var 1))
  (seqS (asg 11 (frzE (tupE (consL (cst (.bool false)) (consL (lstE nilL) nilL)))))
  (seqS (forS (zipI (var 0) (var 1)) (tgT [12, 13]) (seqS (asg 11 (ucall c (cst (.fn 13)) (consL (var 11) (consL (ucall c (cst (.fn 31)) (consL (var 12) (consL (var 13) (consL (var 2) nilL)))) (consL (var 2) nilL)))))
    nilS))
  (seqS (asg 14 (lstE (consL (var 11) nilL)))
  (seqS (forS (valI (tupE (consL (tupE (consL (var 3) (consL (var 8) (consL (var 4) (consL (var 7) (consL (var 5) (consL (var 10) (consL (var 6) (consL (var 9) nilL))))))))) (consL (tupE (consL (var 3) (consL (var 9) (consL (var 5) (consL (var 7) (consL (var 6) (consL (var 8) (consL (var 4) (consL (var 10) nilL))))))))) (consL (tupE (consL (var 3) (consL (var 10) (consL (var 6) (consL (var 7) (consL (var 4) (consL (var 9) (consL (var 5) (consL (var 8) nilL))))))))) nilL))))) (tgT [15, 16, 17, 18, 19, 20, 12, 13]) (seqS (asg 21 (ucall c (cst (.fn 14)) (consL (ucall c (cst (.fn 31)) (consL (var 15) (consL (var 16) (consL (var 2) nilL)))) (consL (ucall c (cst (.fn 31)) (consL (var 17) (consL (var 18) (consL (var 2) nilL)))) (consL (var 2) nilL)))))
    (seqS (exprS (appE (var 14) (ucall c (cst (.fn 13)) (consL (var 21) (consL (ucall c (cst (.fn 14)) (consL (ucall c (cst (.fn 31)) (consL (var 19) (consL (var 20) (consL (var 2) nilL)))) (consL (ucall c (cst (.fn 31)) (consL (var 12) (consL (var 13) (consL (var 2) nilL)))) (consL (var 2) nilL)))) (consL (var 2) nilL))))))
    nilS)))
  (seqS (retS (var 14))
  nilS)))))))
noncomputable def cd_l_halved (c : CT) : PS :=
  (seqS (asg 2 (compE (valI (var 0)) (andB (tval (bin (cmpV .Gt) (callN lenF (consL (bin idxV (var 6) (cst (.int 1))) nilL)) (cst (.int 0)))) (tval (bin (cmpV .Eq) (bin (binV .Mod) (bin idxV (bin idxV (var 6) (cst (.int 1))) (cst (.int 0))) (cst (.int 2))) (cst (.int 1))))) (var 6)))
  (seqS (swpS [0, 3] (tupE (consL (bin (binV .Add) (var 2) (frzE (compE (valI (var 0)) (orB (tval (bin (cmpV .Eq) (callN lenF (consL (bin idxV (var 6) (cst (.int 1))) nilL)) (cst (.int 0)))) (tval (bin (cmpV .Eq) (bin (binV .Mod) (bin idxV (bin idxV (var 6) (cst (.int 1))) (cst (.int 0))) (cst (.int 2))) (cst (.int 0))))) (var 6)))) (consL (lstE nilL) nilL))))
  (seqS (forS (valI (tupE (consL (tupE (consL (bin idxV (var 0) (cst (.int 0))) (consL (bin idxV (var 0) (cst (.int 1))) nilL))) (consL (tupE (consL (bin idxV (var 0) (cst (.int 2))) (consL (bin idxV (var 0) (cst (.int 3))) nilL))) nilL)))) (tgT [4, 5]) (seqS (exprS (extE (var 3) (lstE (consL (ucall c (cst (.fn 16)) (consL (ucall c (cst (.fn 13)) (consL (var 4) (consL (var 5) (consL (var 1) nilL)))) (consL (var 1) nilL))) (consL (ucall c (cst (.fn 16)) (consL (ucall c (cst (.fn 14)) (consL (var 4) (consL (var 5) (consL (var 1) nilL)))) (consL (var 1) nilL))) nilL)))))
    nilS))
  (seqS (retS (var 3))
  nilS))))
noncomputable def cd_l_step (c : CT) : PS :=
  (seqS (swpS [3, 4, 5] (tupE (consL (tupE (consL (cst (.bool false)) (consL (ucall c (cst (.fn 29)) (consL (var 1) (consL (var 2) nilL))) nilL))) (consL (lstE nilL) (consL (lstE nilL) nilL)))))
  (seqS (forS (valI (var 0)) (tgN 6) (seqS (exprS (appE (var 4) (ucall c (cst (.fn 14)) (consL (var 6) (consL (ucall c (cst (.fn 31)) (consL (ucall c (cst (.fn 20)) (consL (var 6) (consL (var 3) (consL (var 2) (consL (cst (.fn 27)) nilL))))) (consL (var 3) (consL (var 2) nilL)))) (consL (var 2) nilL))))))
    nilS))
  (seqS (forS (valI (ucall c (cst (.fn 33)) (consL (var 0) (consL (var 4) (consL (var 2) nilL))))) (tgN 6) (seqS (unpS [7, 8] (ucall c (cst (.fn 17)) (consL (var 6) (consL (var 3) (consL (var 2) (consL (cst (.fn 27)) nilL))))))
    (seqS (ifS (tval (bin (cmpV .Gt) (callN lenF (consL (bin idxV (var 8) (cst (.int 1))) nilL)) (cst (.int 0)))) (seqS (retS (cst .none))
      nilS) nilS)
    (seqS (exprS (appE (var 5) (var 7)))
    nilS))))
  (seqS (retS (var 5))
  nilS))))
noncomputable def cd_l_led_down (c : CT) : PS :=
  (seqS (unpS [2, 3] (tupE (consL (cst (.int 0)) (consL (lstE nilL) nilL))))
  (seqS (whileS (tval (bin (cmpV .Eq) (var 3) (lstE nilL))) (seqS (asg 3 (compE (valI (callN rangeF (consL (bin (binV .Add) (bin (binV .FloorDiv) (var 0) (cst (.int 2))) (cst (.int 1))) nilL))) (tval (bin (cmpV .Eq) (bin (binV .Mod) (bin (binV .Add) (bin (binV .Add) (bin (binV .Mult) (var 2) (var 2)) (bin (binV .Mult) (var 10) (var 10))) (cst (.int 1))) (var 0)) (cst (.int 0)))) (tupE (consL (var 2) (consL (var 10) nilL)))))
    (seqS (asg 2 (bin (binV .Add) (var 2) (cst (.int 1))))
    nilS)))
  (seqS (unpS [2, 4] (bin idxV (var 3) (cst (.int 0))))
  (seqS (swpS [5, 6] (tupE (consL (frzE (compE (valI (tupE (consL (var 2) (consL (var 4) (consL (cst (.int 1)) (consL (cst (.int 0)) nilL)))))) trueB (ucall c (cst (.fn 30)) (consL (var 10) (consL (var 1) nilL))))) (consL (bin (binV .FloorDiv) (bin (binV .Add) (bin (binV .Add) (bin (binV .Mult) (var 2) (var 2)) (bin (binV .Mult) (var 4) (var 4))) (cst (.int 1))) (var 0)) nilL))))
  (seqS (forS (valI (callN rangeF (consL (cst (.int 12)) nilL))) (tgN 7) (seqS (asg 8 (ucall c (cst (.fn 32)) (consL (var 5) (consL (var 1) nilL))))
    (seqS (ifS (tval (bin (cmpV .NotEq) (var 8) (ucall c (cst (.fn 30)) (consL (bin (binV .Mult) (var 6) (var 0)) (consL (var 1) nilL))))) (seqS (retS (cst (.bool false)))
      nilS) nilS)
    (seqS (ifS (tval (bin (cmpV .Eq) (var 6) (cst (.int 1)))) (seqS (retS (cst (.bool true)))
      nilS) nilS)
    (seqS (asg 5 (iteE (tval (bin (cmpV .Eq) (bin (binV .Mod) (var 6) (cst (.int 2))) (cst (.int 0)))) (ucall c (cst (.fn 34)) (consL (var 5) (consL (var 1) nilL))) (ucall c (cst (.fn 35)) (consL (var 5) (consL (var 6) (consL (var 1) nilL))))))
    (seqS (ifS (tval (bin (cmpV .Is) (var 5) (cst .none))) (seqS (retS (cst (.bool false)))
      nilS) nilS)
    (seqS (asg 8 (ucall c (cst (.fn 32)) (consL (var 5) (consL (var 1) nilL))))
    (seqS (asg 9 (compE (valI (callN rangeF (consL (cst (.int 1)) (consL (var 6) nilL)))) (tval (bin (cmpV .Eq) (var 8) (ucall c (cst (.fn 30)) (consL (bin (binV .Mult) (var 10) (var 0)) (consL (var 1) nilL))))) (var 10)))
    (seqS (ifS (tval (bin (cmpV .Eq) (var 9) (lstE nilL))) (seqS (retS (cst (.bool false)))
      nilS) nilS)
    (seqS (asg 6 (bin idxV (var 9) (cst (.int 0))))
    nilS))))))))))
  (seqS (retS (cst (.bool false)))
  nilS))))))
noncomputable def cd_law (c : CT) : PS :=
  (seqS (asg 1 (lstE (consL (cst (.int 0)) (consL (frzE (compE (valI (sliceE (var 0) (cst .none) (cst (.int 10)))) trueB (callN absF (consL (callN intF (consL (var 12) nilL)) nilL)))) nilL))))
  (seqS (unpS [2, 3] (tupE (consL (bin (binV .Add) (cst (.int 3)) (ucall c (cst (.fn 28)) (consL (var 1) (consL (cst (.int 6)) nilL)))) (consL (bin idxV (frzE (lstE (consL (cst (.int 23)) (consL (cst (.int 29)) (consL (cst (.int 31)) (consL (cst (.int 43)) (consL (cst (.int 47)) (consL (cst (.int 53)) (consL (cst (.int 59)) nilL))))))))) (ucall c (cst (.fn 28)) (consL (var 1) (consL (cst (.int 7)) nilL)))) nilL))))
  (seqS (unpS [4, 5] (frzE (compE (valI (callN rangeF (consL (cst (.int 2)) nilL))) trueB (frzE (compE (valI (callN rangeF (consL (cst (.int 4)) nilL))) trueB (bin (binV .Sub) (ucall c (cst (.fn 28)) (consL (var 1) (consL (cst (.int 9)) nilL))) (cst (.int 4))))))))
  (seqS (asg 6 (bin (binV .Mult) (callN sumF (consL (frzE (compE (valI (var 4)) trueB (bin (binV .Mult) (var 12) (var 12)))) nilL)) (callN sumF (consL (frzE (compE (valI (var 5)) trueB (bin (binV .Mult) (var 12) (var 12)))) nilL))))
  (seqS (asg 7 (ucall c (cst (.fn 33)) (consL (frzE (compE (valI (var 4)) trueB (ucall c (cst (.fn 30)) (consL (var 12) (consL (var 2) nilL))))) (consL (frzE (compE (valI (var 5)) trueB (ucall c (cst (.fn 30)) (consL (var 12) (consL (var 2) nilL))))) (consL (var 2) nilL)))))
  (seqS (ifS (orB (tval (bin (cmpV .NotEq) (ucall c (cst (.fn 32)) (consL (var 7) (consL (var 2) nilL))) (ucall c (cst (.fn 30)) (consL (var 6) (consL (var 2) nilL))))) (notB (tval (ucall c (cst (.fn 36)) (consL (var 3) (consL (var 2) nilL)))))) (seqS (retS (cst (.bool false)))
    nilS) nilS)
  (seqS (asg 8 (frzE (lstE (consL (cst (.int 1)) (consL (cst (.int 2)) (consL (cst (.int 0)) (consL (cst (.int 0)) (consL (cst (.int 2)) (consL (cst (.int 0)) (consL (cst (.int 0)) (consL (cst (.int 0)) (consL (cst (.int 0)) (consL (cst (.int 2)) nilL)))))))))))))
  (seqS (asg 9 (ucall c (cst (.fn 21)) (consL (var 8) (consL (var 8) (consL (cst (.int 12)) nilL)))))
  (seqS (asg 10 (ucall c (cst (.fn 21)) (consL (var 9) (consL (var 9) (consL (cst (.int 12)) nilL)))))
  (seqS (forS (valI (callN rangeF (consL (cst (.int 1)) (consL (cst (.int 11)) nilL)))) (tgN 11) (seqS (ifS (tval (bin (cmpV .NotEq) (bin idxV (var 10) (var 11)) (bin (binV .Mult) (cst (.int 8)) (callN sumF (consL (frzE (compE (valI (callN rangeF (consL (cst (.int 1)) (consL (bin (binV .Add) (var 11) (cst (.int 1))) nilL)))) (andB (tval (bin (cmpV .Eq) (bin (binV .Mod) (var 11) (var 12)) (cst (.int 0)))) (tval (bin (cmpV .Gt) (bin (binV .Mod) (var 12) (cst (.int 4))) (cst (.int 0))))) (var 12))) nilL))))) (seqS (retS (cst (.bool false)))
      nilS) nilS)
    nilS))
  (seqS (retS (cst (.bool true)))
  nilS)))))))))))
noncomputable def codes (c : CT) : Nat → Nat × Nat × PS
  | 1 => (1, 0, cd_is_even c)
  | 2 => (2, 1, cd_compare c)
  | 3 => (3, 4, cd_add c)
  | 4 => (3, 5, cd_sub c)
  | 5 => (3, 3, cd_add_limb c)
  | 6 => (3, 3, cd_divrem_limb c)
  | 7 => (3, 6, cd_shift_left c)
  | 8 => (3, 6, cd_shift_right c)
  | 9 => (2, 0, cd_bits c)
  | 10 => (3, 2, cd_low c)
  | 11 => (2, 0, cd_signed c)
  | 12 => (1, 0, cd_s_neg c)
  | 13 => (3, 0, cd_s_add c)
  | 14 => (3, 0, cd_s_sub c)
  | 15 => (4, 0, cd_s_mul c)
  | 16 => (2, 0, cd_s_half c)
  | 17 => (4, 2, cd_tdiv c)
  | 18 => (4, 2, cd_fdiv c)
  | 19 => (3, 1, cd_s_shift c)
  | 20 => (4, 0, cd_nearest_quotient c)
  | 21 => (3, 7, cd_mul_school c)
  | 22 => (3, 2, cd_divrem_small c)
  | 23 => (4, 4, cd_guessed_limb c)
  | 24 => (5, 5, cd_take_away c)
  | 25 => (4, 4, cd_put_back c)
  | 26 => (3, 4, cd_divide_rows c)
  | 27 => (3, 4, cd_divrem_school c)
  | 28 => (2, 0, cd_l_squared_off c)
  | 29 => (2, 1, cd_l_limbs c)
  | 30 => (2, 0, cd_l_signed c)
  | 31 => (3, 0, cd_l_times c)
  | 32 => (2, 2, cd_l_squares c)
  | 33 => (3, 19, cd_l_four c)
  | 34 => (2, 4, cd_l_halved c)
  | 35 => (3, 6, cd_l_step c)
  | 36 => (2, 8, cd_l_led_down c)
  | 37 => (1, 11, cd_law c)
  | _ => (1, 1, cd_normal c)
noncomputable abbrev lay_normal : List (Str × Option Nat) := [(("a" : Str), none), (("end" : Str), none)]
noncomputable abbrev ps_normal : List Str := [("a" : Str)]
theorem ok_normal : FnOk (rc 5) ps_normal lay_normal where
  bind := fun pm cd doc => len_1 fun _ => rfl
  nodup := by decide
  par := by decide
  apart := by decide
  loc := by
    repeat (refine List.forall_mem_cons.mpr ⟨by first | rfl | exact ⟨rfl, fun _ => rfl⟩, ?_⟩)
    exact fun _ h => (nomatch h)
  kind := rfl
  gen := rfl
  co := rfl
theorem ref_normal {g : G} (hg : ∀ k, ∃ a, g.mg (g.gname k) = some a) (hn : ∀ k x, gnames k = x → g.gname k = x) (d : Nat) (c : CT) (hc : CallRef g d c) (pm cd doc : Value) (L a : Addr) :
    RefS g d (slotsOf lay_normal L) (execs (rc 5).body (callEnvC (Calls.docDef (rc 5).name (rc 5).params (rc 5).body (rc 5).scope pm cd doc) L a)) (cd_normal c) := by
  have he0 : EnvOk (callEnvC (Calls.docDef (rc 5).name (rc 5).params (rc 5).body (rc 5).scope pm cd doc) L a) := ⟨rfl, rfl, rfl⟩
  have h_a : At (callEnvC (Calls.docDef (rc 5).name (rc 5).params (rc 5).body (rc 5).scope pm cd doc) L a) (slotsOf lay_normal L) ("a" : Str) 0 := .loc rfl rfl
  have h_end : At (callEnvC (Calls.docDef (rc 5).name (rc 5).params (rc 5).body (rc 5).scope pm cd doc) L a) (slotsOf lay_normal L) ("end" : Str) 1 := .loc rfl rfl
  exact
  (s_cons (s_asg he0 h_end (r_bcall he0 rfl (by decide) Boot.«len» ref_len (l_cons (r_name he0 h_a rfl) l_nil rfl) ⟨_, _, rfl, rfl⟩ rfl rfl) rfl)
  (s_cons (s_while (t_and (t_cmp (ref_cmp _) (r_name he0 h_end rfl) r_int rfl) (t_cmp (ref_cmp _) (r_sub (op_sub fun _ _ => rfl) (r_name he0 h_a rfl) (r_bin (r_name he0 h_end rfl) r_int)) r_int rfl)) (s_cons (s_aug he0 h_end r_int rfl)
    s_nil))
  (s_cons (s_ret (r_slice (r_name he0 h_a rfl) p_none (p_some (r_name he0 h_end rfl)) fun _ _ => rfl))
  s_nil)))
noncomputable abbrev lay_is_even : List (Str × Option Nat) := [(("a" : Str), none)]
noncomputable abbrev ps_is_even : List Str := [("a" : Str)]
theorem ok_is_even : FnOk (rc 6) ps_is_even lay_is_even where
  bind := fun pm cd doc => len_1 fun _ => rfl
  nodup := by decide
  par := by decide
  apart := by decide
  loc := by
    repeat (refine List.forall_mem_cons.mpr ⟨by first | rfl | exact ⟨rfl, fun _ => rfl⟩, ?_⟩)
    exact fun _ h => (nomatch h)
  kind := rfl
  gen := rfl
  co := rfl
theorem ref_is_even {g : G} (hg : ∀ k, ∃ a, g.mg (g.gname k) = some a) (hn : ∀ k x, gnames k = x → g.gname k = x) (d : Nat) (c : CT) (hc : CallRef g d c) (pm cd doc : Value) (L a : Addr) :
    RefS g d (slotsOf lay_is_even L) (execs (rc 6).body (callEnvC (Calls.docDef (rc 6).name (rc 6).params (rc 6).body (rc 6).scope pm cd doc) L a)) (cd_is_even c) := by
  have he0 : EnvOk (callEnvC (Calls.docDef (rc 6).name (rc 6).params (rc 6).body (rc 6).scope pm cd doc) L a) := ⟨rfl, rfl, rfl⟩
  have h_a : At (callEnvC (Calls.docDef (rc 6).name (rc 6).params (rc 6).body (rc 6).scope pm cd doc) L a) (slotsOf lay_is_even L) ("a" : Str) 0 := .loc rfl rfl
  exact
  (s_cons (s_ret (r_or (r_cmp (ref_cmp _) (r_bcall he0 rfl (by decide) Boot.«len» ref_len (l_cons (r_name he0 h_a rfl) l_nil rfl) ⟨_, _, rfl, rfl⟩ rfl rfl) r_int rfl) (r_cmp (ref_cmp _) (r_bin (r_sub (op_sub fun _ _ => rfl) (r_name he0 h_a rfl) r_int) r_int) r_int rfl)))
  s_nil)
noncomputable abbrev lay_compare : List (Str × Option Nat) := [(("a" : Str), none), (("b" : Str), none), (("at" : Str), none)]
noncomputable abbrev ps_compare : List Str := [("a" : Str), ("b" : Str)]
theorem ok_compare : FnOk (rc 7) ps_compare lay_compare where
  bind := fun pm cd doc => len_2 fun _ _ => rfl
  nodup := by decide
  par := by decide
  apart := by decide
  loc := by
    repeat (refine List.forall_mem_cons.mpr ⟨by first | rfl | exact ⟨rfl, fun _ => rfl⟩, ?_⟩)
    exact fun _ h => (nomatch h)
  kind := rfl
  gen := rfl
  co := rfl
theorem ref_compare {g : G} (hg : ∀ k, ∃ a, g.mg (g.gname k) = some a) (hn : ∀ k x, gnames k = x → g.gname k = x) (d : Nat) (c : CT) (hc : CallRef g d c) (pm cd doc : Value) (L a : Addr) :
    RefS g d (slotsOf lay_compare L) (execs (rc 7).body (callEnvC (Calls.docDef (rc 7).name (rc 7).params (rc 7).body (rc 7).scope pm cd doc) L a)) (cd_compare c) := by
  have he0 : EnvOk (callEnvC (Calls.docDef (rc 7).name (rc 7).params (rc 7).body (rc 7).scope pm cd doc) L a) := ⟨rfl, rfl, rfl⟩
  have h_a : At (callEnvC (Calls.docDef (rc 7).name (rc 7).params (rc 7).body (rc 7).scope pm cd doc) L a) (slotsOf lay_compare L) ("a" : Str) 0 := .loc rfl rfl
  have h_b : At (callEnvC (Calls.docDef (rc 7).name (rc 7).params (rc 7).body (rc 7).scope pm cd doc) L a) (slotsOf lay_compare L) ("b" : Str) 1 := .loc rfl rfl
  have h_at : At (callEnvC (Calls.docDef (rc 7).name (rc 7).params (rc 7).body (rc 7).scope pm cd doc) L a) (slotsOf lay_compare L) ("at" : Str) 2 := .loc rfl rfl
  exact
  (s_cons (s_if (t_cmp (ref_cmp _) (r_bcall he0 rfl (by decide) Boot.«len» ref_len (l_cons (r_name he0 h_a rfl) l_nil rfl) ⟨_, _, rfl, rfl⟩ rfl rfl) (r_bcall he0 rfl (by decide) Boot.«len» ref_len (l_cons (r_name he0 h_b rfl) l_nil rfl) ⟨_, _, rfl, rfl⟩ rfl rfl) rfl) (s_cons (s_ret (r_ite (t_cmp (ref_cmp _) (r_bcall he0 rfl (by decide) Boot.«len» ref_len (l_cons (r_name he0 h_a rfl) l_nil rfl) ⟨_, _, rfl, rfl⟩ rfl rfl) (r_bcall he0 rfl (by decide) Boot.«len» ref_len (l_cons (r_name he0 h_b rfl) l_nil rfl) ⟨_, _, rfl, rfl⟩ rfl rfl) rfl) r_negint r_int))
    s_nil) s_nil)
  (s_cons (s_for (i_val (r_tcall he0 rfl (by decide) Boot.«range» ref_range (l_cons (r_bin (r_bcall he0 rfl (by decide) Boot.«len» ref_len (l_cons (r_name he0 h_a rfl) l_nil rfl) ⟨_, _, rfl, rfl⟩ rfl rfl) r_int) (l_cons r_negint (l_cons r_negint l_nil rfl) rfl) rfl) ⟨_, _, rfl, rfl⟩ rfl rfl)) (t_name he0 h_at) (s_cons (s_if (t_cmp (ref_cmp _) (r_sub (op_sub fun _ _ => rfl) (r_name he0 h_a rfl) (r_name he0 h_at rfl)) (r_sub (op_sub fun _ _ => rfl) (r_name he0 h_b rfl) (r_name he0 h_at rfl)) rfl) (s_cons (s_ret (r_ite (t_cmp (ref_cmp _) (r_sub (op_sub fun _ _ => rfl) (r_name he0 h_a rfl) (r_name he0 h_at rfl)) (r_sub (op_sub fun _ _ => rfl) (r_name he0 h_b rfl) (r_name he0 h_at rfl)) rfl) r_negint r_int))
      s_nil) s_nil)
    s_nil) tg_val fun _ => rfl)
  (s_cons (s_ret r_int)
  s_nil)))
noncomputable abbrev lay_add : List (Str × Option Nat) := [(("a" : Str), none), (("b" : Str), none), (("w" : Str), none), (("found" : Str), none), (("carry" : Str), none), (("mask" : Str), none), (("at" : Str), none)]
noncomputable abbrev ps_add : List Str := [("a" : Str), ("b" : Str), ("w" : Str)]
theorem ok_add : FnOk (rc 8) ps_add lay_add where
  bind := fun pm cd doc => len_3 fun _ _ _ => rfl
  nodup := by decide
  par := by decide
  apart := by decide
  loc := by
    repeat (refine List.forall_mem_cons.mpr ⟨by first | rfl | exact ⟨rfl, fun _ => rfl⟩, ?_⟩)
    exact fun _ h => (nomatch h)
  kind := rfl
  gen := rfl
  co := rfl
theorem ref_add {g : G} (hg : ∀ k, ∃ a, g.mg (g.gname k) = some a) (hn : ∀ k x, gnames k = x → g.gname k = x) (d : Nat) (c : CT) (hc : CallRef g d c) (pm cd doc : Value) (L a : Addr) :
    RefS g d (slotsOf lay_add L) (execs (rc 8).body (callEnvC (Calls.docDef (rc 8).name (rc 8).params (rc 8).body (rc 8).scope pm cd doc) L a)) (cd_add c) := by
  have he0 : EnvOk (callEnvC (Calls.docDef (rc 8).name (rc 8).params (rc 8).body (rc 8).scope pm cd doc) L a) := ⟨rfl, rfl, rfl⟩
  have h_a : At (callEnvC (Calls.docDef (rc 8).name (rc 8).params (rc 8).body (rc 8).scope pm cd doc) L a) (slotsOf lay_add L) ("a" : Str) 0 := .loc rfl rfl
  have h_b : At (callEnvC (Calls.docDef (rc 8).name (rc 8).params (rc 8).body (rc 8).scope pm cd doc) L a) (slotsOf lay_add L) ("b" : Str) 1 := .loc rfl rfl
  have h_w : At (callEnvC (Calls.docDef (rc 8).name (rc 8).params (rc 8).body (rc 8).scope pm cd doc) L a) (slotsOf lay_add L) ("w" : Str) 2 := .loc rfl rfl
  have h_mask : At (callEnvC (Calls.docDef (rc 8).name (rc 8).params (rc 8).body (rc 8).scope pm cd doc) L a) (slotsOf lay_add L) ("mask" : Str) 5 := .loc rfl rfl
  have h_carry : At (callEnvC (Calls.docDef (rc 8).name (rc 8).params (rc 8).body (rc 8).scope pm cd doc) L a) (slotsOf lay_add L) ("carry" : Str) 4 := .loc rfl rfl
  have h_found : At (callEnvC (Calls.docDef (rc 8).name (rc 8).params (rc 8).body (rc 8).scope pm cd doc) L a) (slotsOf lay_add L) ("found" : Str) 3 := .loc rfl rfl
  have h_at : At (callEnvC (Calls.docDef (rc 8).name (rc 8).params (rc 8).body (rc 8).scope pm cd doc) L a) (slotsOf lay_add L) ("at" : Str) 6 := .loc rfl rfl
  exact
  (s_cons (s_if (t_cmp (ref_cmp _) (r_bcall he0 rfl (by decide) Boot.«len» ref_len (l_cons (r_name he0 h_a rfl) l_nil rfl) ⟨_, _, rfl, rfl⟩ rfl rfl) (r_bcall he0 rfl (by decide) Boot.«len» ref_len (l_cons (r_name he0 h_b rfl) l_nil rfl) ⟨_, _, rfl, rfl⟩ rfl rfl) rfl) (s_cons (s_swp he0 (.cons h_a (.cons h_b AtAll.nil)) (r_tup (l_cons (r_name he0 h_b rfl) (l_cons (r_name he0 h_a rfl) l_nil rfl) rfl)) rfl rfl)
    s_nil) s_nil)
  (s_cons (s_swp he0 (.cons h_found (.cons h_carry (.cons h_mask AtAll.nil))) (r_tup (l_cons (r_lst l_nil) (l_cons r_int (l_cons (r_bin (r_bin r_int (r_name he0 h_w rfl)) r_int) l_nil rfl) rfl) rfl)) rfl rfl)
  (s_cons (s_for (i_val (r_tcall he0 rfl (by decide) Boot.«range» ref_range (l_cons (r_bcall he0 rfl (by decide) Boot.«len» ref_len (l_cons (r_name he0 h_b rfl) l_nil rfl) ⟨_, _, rfl, rfl⟩ rfl rfl) l_nil rfl) ⟨_, _, rfl, rfl⟩ rfl rfl)) (t_name he0 h_at) (s_cons (s_aug he0 h_carry (r_bin (r_sub (op_sub fun _ _ => rfl) (r_name he0 h_a rfl) (r_name he0 h_at rfl)) (r_sub (op_sub fun _ _ => rfl) (r_name he0 h_b rfl) (r_name he0 h_at rfl))) rfl)
    (s_cons (s_expr (r_app (r_name he0 h_found rfl) (r_bin (r_name he0 h_carry rfl) (r_name he0 h_mask rfl)) rfl rfl rfl) rfl rfl)
    (s_cons (s_aug he0 h_carry (r_name he0 h_w rfl) rfl)
    s_nil))) tg_val fun _ => rfl)
  (s_cons (s_for (i_val (r_tcall he0 rfl (by decide) Boot.«range» ref_range (l_cons (r_bcall he0 rfl (by decide) Boot.«len» ref_len (l_cons (r_name he0 h_b rfl) l_nil rfl) ⟨_, _, rfl, rfl⟩ rfl rfl) (l_cons (r_bcall he0 rfl (by decide) Boot.«len» ref_len (l_cons (r_name he0 h_a rfl) l_nil rfl) ⟨_, _, rfl, rfl⟩ rfl rfl) l_nil rfl) rfl) ⟨_, _, rfl, rfl⟩ rfl rfl)) (t_name he0 h_at) (s_cons (s_aug he0 h_carry (r_sub (op_sub fun _ _ => rfl) (r_name he0 h_a rfl) (r_name he0 h_at rfl)) rfl)
    (s_cons (s_expr (r_app (r_name he0 h_found rfl) (r_bin (r_name he0 h_carry rfl) (r_name he0 h_mask rfl)) rfl rfl rfl) rfl rfl)
    (s_cons (s_aug he0 h_carry (r_name he0 h_w rfl) rfl)
    s_nil))) tg_val fun _ => rfl)
  (s_cons (s_if (t_cmp (ref_cmp _) (r_name he0 h_carry rfl) r_int rfl) (s_cons (s_expr (r_app (r_name he0 h_found rfl) (r_name he0 h_carry rfl) rfl rfl rfl) rfl rfl)
    s_nil) s_nil)
  (s_cons (s_ret (r_name he0 h_found rfl))
  s_nil))))))
noncomputable abbrev lay_sub : List (Str × Option Nat) := [(("a" : Str), none), (("b" : Str), none), (("w" : Str), none), (("found" : Str), none), (("borrow" : Str), none), (("base" : Str), none), (("at" : Str), none), (("limb" : Str), none)]
noncomputable abbrev ps_sub : List Str := [("a" : Str), ("b" : Str), ("w" : Str)]
theorem ok_sub : FnOk (rc 9) ps_sub lay_sub where
  bind := fun pm cd doc => len_3 fun _ _ _ => rfl
  nodup := by decide
  par := by decide
  apart := by decide
  loc := by
    repeat (refine List.forall_mem_cons.mpr ⟨by first | rfl | exact ⟨rfl, fun _ => rfl⟩, ?_⟩)
    exact fun _ h => (nomatch h)
  kind := rfl
  gen := rfl
  co := rfl
theorem ref_sub {g : G} (hg : ∀ k, ∃ a, g.mg (g.gname k) = some a) (hn : ∀ k x, gnames k = x → g.gname k = x) (d : Nat) (c : CT) (hc : CallRef g d c) (pm cd doc : Value) (L a : Addr) :
    RefS g d (slotsOf lay_sub L) (execs (rc 9).body (callEnvC (Calls.docDef (rc 9).name (rc 9).params (rc 9).body (rc 9).scope pm cd doc) L a)) (cd_sub c) := by
  have he0 : EnvOk (callEnvC (Calls.docDef (rc 9).name (rc 9).params (rc 9).body (rc 9).scope pm cd doc) L a) := ⟨rfl, rfl, rfl⟩
  have h_a : At (callEnvC (Calls.docDef (rc 9).name (rc 9).params (rc 9).body (rc 9).scope pm cd doc) L a) (slotsOf lay_sub L) ("a" : Str) 0 := .loc rfl rfl
  have h_b : At (callEnvC (Calls.docDef (rc 9).name (rc 9).params (rc 9).body (rc 9).scope pm cd doc) L a) (slotsOf lay_sub L) ("b" : Str) 1 := .loc rfl rfl
  have h_w : At (callEnvC (Calls.docDef (rc 9).name (rc 9).params (rc 9).body (rc 9).scope pm cd doc) L a) (slotsOf lay_sub L) ("w" : Str) 2 := .loc rfl rfl
  have h_base : At (callEnvC (Calls.docDef (rc 9).name (rc 9).params (rc 9).body (rc 9).scope pm cd doc) L a) (slotsOf lay_sub L) ("base" : Str) 5 := .loc rfl rfl
  have h_borrow : At (callEnvC (Calls.docDef (rc 9).name (rc 9).params (rc 9).body (rc 9).scope pm cd doc) L a) (slotsOf lay_sub L) ("borrow" : Str) 4 := .loc rfl rfl
  have h_found : At (callEnvC (Calls.docDef (rc 9).name (rc 9).params (rc 9).body (rc 9).scope pm cd doc) L a) (slotsOf lay_sub L) ("found" : Str) 3 := .loc rfl rfl
  have h_at : At (callEnvC (Calls.docDef (rc 9).name (rc 9).params (rc 9).body (rc 9).scope pm cd doc) L a) (slotsOf lay_sub L) ("at" : Str) 6 := .loc rfl rfl
  have h_limb : At (callEnvC (Calls.docDef (rc 9).name (rc 9).params (rc 9).body (rc 9).scope pm cd doc) L a) (slotsOf lay_sub L) ("limb" : Str) 7 := .loc rfl rfl
  exact
  (s_cons (s_if (t_cmp (ref_cmp _) (r_ucall hc (r_globk 2 he0 rfl hg (hn 2 ("compare" : Str) rfl) rfl) (l_cons (r_name he0 h_a rfl) (l_cons (r_name he0 h_b rfl) l_nil rfl) rfl) ⟨_, _, rfl, rfl⟩) r_int rfl) s_fail s_nil)
  (s_cons (s_swp he0 (.cons h_found (.cons h_borrow (.cons h_base AtAll.nil))) (r_tup (l_cons (r_lst l_nil) (l_cons r_int (l_cons (r_bin r_int (r_name he0 h_w rfl)) l_nil rfl) rfl) rfl)) rfl rfl)
  (s_cons (s_for (i_val (r_tcall he0 rfl (by decide) Boot.«range» ref_range (l_cons (r_bcall he0 rfl (by decide) Boot.«len» ref_len (l_cons (r_name he0 h_a rfl) l_nil rfl) ⟨_, _, rfl, rfl⟩ rfl rfl) l_nil rfl) ⟨_, _, rfl, rfl⟩ rfl rfl)) (t_name he0 h_at) (s_cons (s_asg he0 h_limb (r_bin (r_bin (r_sub (op_sub fun _ _ => rfl) (r_name he0 h_a rfl) (r_name he0 h_at rfl)) (r_name he0 h_borrow rfl)) (r_ite (t_cmp (ref_cmp _) (r_name he0 h_at rfl) (r_bcall he0 rfl (by decide) Boot.«len» ref_len (l_cons (r_name he0 h_b rfl) l_nil rfl) ⟨_, _, rfl, rfl⟩ rfl rfl) rfl) (r_sub (op_sub fun _ _ => rfl) (r_name he0 h_b rfl) (r_name he0 h_at rfl)) r_int)) rfl)
    (s_cons (s_asg he0 h_borrow (r_ite (t_cmp (ref_cmp _) (r_name he0 h_limb rfl) r_int rfl) r_int r_int) rfl)
    (s_cons (s_expr (r_app (r_name he0 h_found rfl) (r_ite (t_cmp (ref_cmp _) (r_name he0 h_limb rfl) r_int rfl) (r_bin (r_name he0 h_limb rfl) (r_name he0 h_base rfl)) (r_name he0 h_limb rfl)) rfl rfl rfl) rfl rfl)
    s_nil))) tg_val fun _ => rfl)
  (s_cons (s_ret (r_ucall hc (r_globk 0 he0 rfl hg (hn 0 ("normal" : Str) rfl) rfl) (l_cons (r_name he0 h_found rfl) l_nil rfl) ⟨_, _, rfl, rfl⟩))
  s_nil))))
noncomputable abbrev lay_add_limb : List (Str × Option Nat) := [(("a" : Str), none), (("limb" : Str), none), (("w" : Str), none), (("found" : Str), none), (("mask" : Str), none), (("one" : Str), none)]
noncomputable abbrev ps_add_limb : List Str := [("a" : Str), ("limb" : Str), ("w" : Str)]
theorem ok_add_limb : FnOk (rc 10) ps_add_limb lay_add_limb where
  bind := fun pm cd doc => len_3 fun _ _ _ => rfl
  nodup := by decide
  par := by decide
  apart := by decide
  loc := by
    repeat (refine List.forall_mem_cons.mpr ⟨by first | rfl | exact ⟨rfl, fun _ => rfl⟩, ?_⟩)
    exact fun _ h => (nomatch h)
  kind := rfl
  gen := rfl
  co := rfl
theorem ref_add_limb {g : G} (hg : ∀ k, ∃ a, g.mg (g.gname k) = some a) (hn : ∀ k x, gnames k = x → g.gname k = x) (d : Nat) (c : CT) (hc : CallRef g d c) (pm cd doc : Value) (L a : Addr) :
    RefS g d (slotsOf lay_add_limb L) (execs (rc 10).body (callEnvC (Calls.docDef (rc 10).name (rc 10).params (rc 10).body (rc 10).scope pm cd doc) L a)) (cd_add_limb c) := by
  have he0 : EnvOk (callEnvC (Calls.docDef (rc 10).name (rc 10).params (rc 10).body (rc 10).scope pm cd doc) L a) := ⟨rfl, rfl, rfl⟩
  have h_w : At (callEnvC (Calls.docDef (rc 10).name (rc 10).params (rc 10).body (rc 10).scope pm cd doc) L a) (slotsOf lay_add_limb L) ("w" : Str) 2 := .loc rfl rfl
  have h_mask : At (callEnvC (Calls.docDef (rc 10).name (rc 10).params (rc 10).body (rc 10).scope pm cd doc) L a) (slotsOf lay_add_limb L) ("mask" : Str) 4 := .loc rfl rfl
  have h_found : At (callEnvC (Calls.docDef (rc 10).name (rc 10).params (rc 10).body (rc 10).scope pm cd doc) L a) (slotsOf lay_add_limb L) ("found" : Str) 3 := .loc rfl rfl
  have h_one : At (callEnvC (Calls.docDef (rc 10).name (rc 10).params (rc 10).body (rc 10).scope pm cd doc) L a) (slotsOf lay_add_limb L) ("one" : Str) 5 := .loc rfl rfl
  have h_limb : At (callEnvC (Calls.docDef (rc 10).name (rc 10).params (rc 10).body (rc 10).scope pm cd doc) L a) (slotsOf lay_add_limb L) ("limb" : Str) 1 := .loc rfl rfl
  have h_a : At (callEnvC (Calls.docDef (rc 10).name (rc 10).params (rc 10).body (rc 10).scope pm cd doc) L a) (slotsOf lay_add_limb L) ("a" : Str) 0 := .loc rfl rfl
  exact
  (s_cons (s_swp he0 (.cons h_found (.cons h_mask AtAll.nil)) (r_tup (l_cons (r_lst l_nil) (l_cons (r_bin (r_bin r_int (r_name he0 h_w rfl)) r_int) l_nil rfl) rfl)) rfl rfl)
  (s_cons (s_for (i_val (r_name he0 h_a rfl)) (t_name he0 h_one) (s_cons (s_aug he0 h_limb (r_name he0 h_one rfl) rfl)
    (s_cons (s_expr (r_app (r_name he0 h_found rfl) (r_bin (r_name he0 h_limb rfl) (r_name he0 h_mask rfl)) rfl rfl rfl) rfl rfl)
    (s_cons (s_aug he0 h_limb (r_name he0 h_w rfl) rfl)
    s_nil))) tg_val fun _ => rfl)
  (s_cons (s_if (t_cmp (ref_cmp _) (r_name he0 h_limb rfl) r_int rfl) (s_cons (s_expr (r_app (r_name he0 h_found rfl) (r_name he0 h_limb rfl) rfl rfl rfl) rfl rfl)
    s_nil) s_nil)
  (s_cons (s_ret (r_name he0 h_found rfl))
  s_nil))))
noncomputable abbrev lay_divrem_limb : List (Str × Option Nat) := [(("a" : Str), none), (("limb" : Str), none), (("w" : Str), none), (("found" : Str), none), (("rest" : Str), none), (("at" : Str), none)]
noncomputable abbrev ps_divrem_limb : List Str := [("a" : Str), ("limb" : Str), ("w" : Str)]
theorem ok_divrem_limb : FnOk (rc 11) ps_divrem_limb lay_divrem_limb where
  bind := fun pm cd doc => len_3 fun _ _ _ => rfl
  nodup := by decide
  par := by decide
  apart := by decide
  loc := by
    repeat (refine List.forall_mem_cons.mpr ⟨by first | rfl | exact ⟨rfl, fun _ => rfl⟩, ?_⟩)
    exact fun _ h => (nomatch h)
  kind := rfl
  gen := rfl
  co := rfl
theorem ref_divrem_limb {g : G} (hg : ∀ k, ∃ a, g.mg (g.gname k) = some a) (hn : ∀ k x, gnames k = x → g.gname k = x) (d : Nat) (c : CT) (hc : CallRef g d c) (pm cd doc : Value) (L a : Addr) :
    RefS g d (slotsOf lay_divrem_limb L) (execs (rc 11).body (callEnvC (Calls.docDef (rc 11).name (rc 11).params (rc 11).body (rc 11).scope pm cd doc) L a)) (cd_divrem_limb c) := by
  have he0 : EnvOk (callEnvC (Calls.docDef (rc 11).name (rc 11).params (rc 11).body (rc 11).scope pm cd doc) L a) := ⟨rfl, rfl, rfl⟩
  have h_limb : At (callEnvC (Calls.docDef (rc 11).name (rc 11).params (rc 11).body (rc 11).scope pm cd doc) L a) (slotsOf lay_divrem_limb L) ("limb" : Str) 1 := .loc rfl rfl
  have h_a : At (callEnvC (Calls.docDef (rc 11).name (rc 11).params (rc 11).body (rc 11).scope pm cd doc) L a) (slotsOf lay_divrem_limb L) ("a" : Str) 0 := .loc rfl rfl
  have h_rest : At (callEnvC (Calls.docDef (rc 11).name (rc 11).params (rc 11).body (rc 11).scope pm cd doc) L a) (slotsOf lay_divrem_limb L) ("rest" : Str) 4 := .loc rfl rfl
  have h_found : At (callEnvC (Calls.docDef (rc 11).name (rc 11).params (rc 11).body (rc 11).scope pm cd doc) L a) (slotsOf lay_divrem_limb L) ("found" : Str) 3 := .loc rfl rfl
  have h_w : At (callEnvC (Calls.docDef (rc 11).name (rc 11).params (rc 11).body (rc 11).scope pm cd doc) L a) (slotsOf lay_divrem_limb L) ("w" : Str) 2 := .loc rfl rfl
  have h_at : At (callEnvC (Calls.docDef (rc 11).name (rc 11).params (rc 11).body (rc 11).scope pm cd doc) L a) (slotsOf lay_divrem_limb L) ("at" : Str) 5 := .loc rfl rfl
  exact
  (s_cons (s_if (t_cmp (ref_cmp _) (r_name he0 h_limb rfl) r_int rfl) s_fail s_nil)
  (s_cons (s_swp he0 (.cons h_found (.cons h_rest AtAll.nil)) (r_tup (l_cons (r_bin (r_lst (l_cons r_int l_nil rfl)) (r_bcall he0 rfl (by decide) Boot.«len» ref_len (l_cons (r_name he0 h_a rfl) l_nil rfl) ⟨_, _, rfl, rfl⟩ rfl rfl)) (l_cons r_int l_nil rfl) rfl)) rfl rfl)
  (s_cons (s_for (i_val (r_tcall he0 rfl (by decide) Boot.«range» ref_range (l_cons (r_bin (r_bcall he0 rfl (by decide) Boot.«len» ref_len (l_cons (r_name he0 h_a rfl) l_nil rfl) ⟨_, _, rfl, rfl⟩ rfl rfl) r_int) (l_cons r_negint (l_cons r_negint l_nil rfl) rfl) rfl) ⟨_, _, rfl, rfl⟩ rfl rfl)) (t_name he0 h_at) (s_cons (s_asg he0 h_rest (r_bin (r_bin (r_name he0 h_rest rfl) (r_name he0 h_w rfl)) (r_sub (op_sub fun _ _ => rfl) (r_name he0 h_a rfl) (r_name he0 h_at rfl))) rfl)
    (s_cons (s_set (r_name he0 h_found rfl) (r_name he0 h_at rfl) (r_bin (r_name he0 h_rest rfl) (r_name he0 h_limb rfl)) rfl)
    (s_cons (s_aug he0 h_rest (r_name he0 h_limb rfl) rfl)
    s_nil))) tg_val fun _ => rfl)
  (s_cons (s_ret (r_tup (l_cons (r_ucall hc (r_globk 0 he0 rfl hg (hn 0 ("normal" : Str) rfl) rfl) (l_cons (r_name he0 h_found rfl) l_nil rfl) ⟨_, _, rfl, rfl⟩) (l_cons (r_name he0 h_rest rfl) l_nil rfl) rfl)))
  s_nil))))
noncomputable abbrev lay_shift_left : List (Str × Option Nat) := [(("a" : Str), none), (("n" : Str), none), (("w" : Str), none), (("spots" : Str), none), (("few" : Str), none), (("found" : Str), none), (("carry" : Str), none), (("mask" : Str), none), (("one" : Str), none)]
noncomputable abbrev ps_shift_left : List Str := [("a" : Str), ("n" : Str), ("w" : Str)]
theorem ok_shift_left : FnOk (rc 12) ps_shift_left lay_shift_left where
  bind := fun pm cd doc => len_3 fun _ _ _ => rfl
  nodup := by decide
  par := by decide
  apart := by decide
  loc := by
    repeat (refine List.forall_mem_cons.mpr ⟨by first | rfl | exact ⟨rfl, fun _ => rfl⟩, ?_⟩)
    exact fun _ h => (nomatch h)
  kind := rfl
  gen := rfl
  co := rfl
theorem ref_shift_left {g : G} (hg : ∀ k, ∃ a, g.mg (g.gname k) = some a) (hn : ∀ k x, gnames k = x → g.gname k = x) (d : Nat) (c : CT) (hc : CallRef g d c) (pm cd doc : Value) (L a : Addr) :
    RefS g d (slotsOf lay_shift_left L) (execs (rc 12).body (callEnvC (Calls.docDef (rc 12).name (rc 12).params (rc 12).body (rc 12).scope pm cd doc) L a)) (cd_shift_left c) := by
  have he0 : EnvOk (callEnvC (Calls.docDef (rc 12).name (rc 12).params (rc 12).body (rc 12).scope pm cd doc) L a) := ⟨rfl, rfl, rfl⟩
  have h_a : At (callEnvC (Calls.docDef (rc 12).name (rc 12).params (rc 12).body (rc 12).scope pm cd doc) L a) (slotsOf lay_shift_left L) ("a" : Str) 0 := .loc rfl rfl
  have h_n : At (callEnvC (Calls.docDef (rc 12).name (rc 12).params (rc 12).body (rc 12).scope pm cd doc) L a) (slotsOf lay_shift_left L) ("n" : Str) 1 := .loc rfl rfl
  have h_w : At (callEnvC (Calls.docDef (rc 12).name (rc 12).params (rc 12).body (rc 12).scope pm cd doc) L a) (slotsOf lay_shift_left L) ("w" : Str) 2 := .loc rfl rfl
  have h_few : At (callEnvC (Calls.docDef (rc 12).name (rc 12).params (rc 12).body (rc 12).scope pm cd doc) L a) (slotsOf lay_shift_left L) ("few" : Str) 4 := .loc rfl rfl
  have h_spots : At (callEnvC (Calls.docDef (rc 12).name (rc 12).params (rc 12).body (rc 12).scope pm cd doc) L a) (slotsOf lay_shift_left L) ("spots" : Str) 3 := .loc rfl rfl
  have h_mask : At (callEnvC (Calls.docDef (rc 12).name (rc 12).params (rc 12).body (rc 12).scope pm cd doc) L a) (slotsOf lay_shift_left L) ("mask" : Str) 7 := .loc rfl rfl
  have h_carry : At (callEnvC (Calls.docDef (rc 12).name (rc 12).params (rc 12).body (rc 12).scope pm cd doc) L a) (slotsOf lay_shift_left L) ("carry" : Str) 6 := .loc rfl rfl
  have h_found : At (callEnvC (Calls.docDef (rc 12).name (rc 12).params (rc 12).body (rc 12).scope pm cd doc) L a) (slotsOf lay_shift_left L) ("found" : Str) 5 := .loc rfl rfl
  have h_one : At (callEnvC (Calls.docDef (rc 12).name (rc 12).params (rc 12).body (rc 12).scope pm cd doc) L a) (slotsOf lay_shift_left L) ("one" : Str) 8 := .loc rfl rfl
  exact
  (s_cons (s_if (t_cmp (ref_cmp _) (r_bcall he0 rfl (by decide) Boot.«len» ref_len (l_cons (r_name he0 h_a rfl) l_nil rfl) ⟨_, _, rfl, rfl⟩ rfl rfl) r_int rfl) (s_cons (s_ret (r_lst l_nil))
    s_nil) s_nil)
  (s_cons (s_swp he0 (.cons h_spots (.cons h_few AtAll.nil)) (r_tup (l_cons (r_bin (r_name he0 h_n rfl) (r_name he0 h_w rfl)) (l_cons (r_bin (r_name he0 h_n rfl) (r_name he0 h_w rfl)) l_nil rfl) rfl)) rfl rfl)
  (s_cons (s_swp he0 (.cons h_found (.cons h_carry (.cons h_mask AtAll.nil))) (r_tup (l_cons (r_bin (r_lst (l_cons r_int l_nil rfl)) (r_name he0 h_spots rfl)) (l_cons r_int (l_cons (r_bin (r_bin r_int (r_name he0 h_w rfl)) r_int) l_nil rfl) rfl) rfl)) rfl rfl)
  (s_cons (s_for (i_val (r_name he0 h_a rfl)) (t_name he0 h_one) (s_cons (s_aug he0 h_carry (r_bin (r_name he0 h_one rfl) (r_name he0 h_few rfl)) rfl)
    (s_cons (s_expr (r_app (r_name he0 h_found rfl) (r_bin (r_name he0 h_carry rfl) (r_name he0 h_mask rfl)) rfl rfl rfl) rfl rfl)
    (s_cons (s_aug he0 h_carry (r_name he0 h_w rfl) rfl)
    s_nil))) tg_val fun _ => rfl)
  (s_cons (s_if (t_cmp (ref_cmp _) (r_name he0 h_carry rfl) r_int rfl) (s_cons (s_expr (r_app (r_name he0 h_found rfl) (r_name he0 h_carry rfl) rfl rfl rfl) rfl rfl)
    s_nil) s_nil)
  (s_cons (s_ret (r_name he0 h_found rfl))
  s_nil))))))
noncomputable abbrev lay_shift_right : List (Str × Option Nat) := [(("a" : Str), none), (("n" : Str), none), (("w" : Str), none), (("spots" : Str), none), (("few" : Str), none), (("found" : Str), none), (("mask" : Str), none), (("at" : Str), none), (("above" : Str), none)]
noncomputable abbrev ps_shift_right : List Str := [("a" : Str), ("n" : Str), ("w" : Str)]
theorem ok_shift_right : FnOk (rc 13) ps_shift_right lay_shift_right where
  bind := fun pm cd doc => len_3 fun _ _ _ => rfl
  nodup := by decide
  par := by decide
  apart := by decide
  loc := by
    repeat (refine List.forall_mem_cons.mpr ⟨by first | rfl | exact ⟨rfl, fun _ => rfl⟩, ?_⟩)
    exact fun _ h => (nomatch h)
  kind := rfl
  gen := rfl
  co := rfl
theorem ref_shift_right {g : G} (hg : ∀ k, ∃ a, g.mg (g.gname k) = some a) (hn : ∀ k x, gnames k = x → g.gname k = x) (d : Nat) (c : CT) (hc : CallRef g d c) (pm cd doc : Value) (L a : Addr) :
    RefS g d (slotsOf lay_shift_right L) (execs (rc 13).body (callEnvC (Calls.docDef (rc 13).name (rc 13).params (rc 13).body (rc 13).scope pm cd doc) L a)) (cd_shift_right c) := by
  have he0 : EnvOk (callEnvC (Calls.docDef (rc 13).name (rc 13).params (rc 13).body (rc 13).scope pm cd doc) L a) := ⟨rfl, rfl, rfl⟩
  have h_n : At (callEnvC (Calls.docDef (rc 13).name (rc 13).params (rc 13).body (rc 13).scope pm cd doc) L a) (slotsOf lay_shift_right L) ("n" : Str) 1 := .loc rfl rfl
  have h_w : At (callEnvC (Calls.docDef (rc 13).name (rc 13).params (rc 13).body (rc 13).scope pm cd doc) L a) (slotsOf lay_shift_right L) ("w" : Str) 2 := .loc rfl rfl
  have h_few : At (callEnvC (Calls.docDef (rc 13).name (rc 13).params (rc 13).body (rc 13).scope pm cd doc) L a) (slotsOf lay_shift_right L) ("few" : Str) 4 := .loc rfl rfl
  have h_spots : At (callEnvC (Calls.docDef (rc 13).name (rc 13).params (rc 13).body (rc 13).scope pm cd doc) L a) (slotsOf lay_shift_right L) ("spots" : Str) 3 := .loc rfl rfl
  have h_mask : At (callEnvC (Calls.docDef (rc 13).name (rc 13).params (rc 13).body (rc 13).scope pm cd doc) L a) (slotsOf lay_shift_right L) ("mask" : Str) 6 := .loc rfl rfl
  have h_found : At (callEnvC (Calls.docDef (rc 13).name (rc 13).params (rc 13).body (rc 13).scope pm cd doc) L a) (slotsOf lay_shift_right L) ("found" : Str) 5 := .loc rfl rfl
  have h_at : At (callEnvC (Calls.docDef (rc 13).name (rc 13).params (rc 13).body (rc 13).scope pm cd doc) L a) (slotsOf lay_shift_right L) ("at" : Str) 7 := .loc rfl rfl
  have h_a : At (callEnvC (Calls.docDef (rc 13).name (rc 13).params (rc 13).body (rc 13).scope pm cd doc) L a) (slotsOf lay_shift_right L) ("a" : Str) 0 := .loc rfl rfl
  have h_above : At (callEnvC (Calls.docDef (rc 13).name (rc 13).params (rc 13).body (rc 13).scope pm cd doc) L a) (slotsOf lay_shift_right L) ("above" : Str) 8 := .loc rfl rfl
  exact
  (s_cons (s_swp he0 (.cons h_spots (.cons h_few AtAll.nil)) (r_tup (l_cons (r_bin (r_name he0 h_n rfl) (r_name he0 h_w rfl)) (l_cons (r_bin (r_name he0 h_n rfl) (r_name he0 h_w rfl)) l_nil rfl) rfl)) rfl rfl)
  (s_cons (s_swp he0 (.cons h_found (.cons h_mask AtAll.nil)) (r_tup (l_cons (r_lst l_nil) (l_cons (r_bin (r_bin r_int (r_name he0 h_w rfl)) r_int) l_nil rfl) rfl)) rfl rfl)
  (s_cons (s_for (i_val (r_tcall he0 rfl (by decide) Boot.«range» ref_range (l_cons (r_name he0 h_spots rfl) (l_cons (r_bcall he0 rfl (by decide) Boot.«len» ref_len (l_cons (r_name he0 h_a rfl) l_nil rfl) ⟨_, _, rfl, rfl⟩ rfl rfl) l_nil rfl) rfl) ⟨_, _, rfl, rfl⟩ rfl rfl)) (t_name he0 h_at) (s_cons (s_asg he0 h_above (r_ite (t_cmp (ref_cmp _) (r_bin (r_name he0 h_at rfl) r_int) (r_bcall he0 rfl (by decide) Boot.«len» ref_len (l_cons (r_name he0 h_a rfl) l_nil rfl) ⟨_, _, rfl, rfl⟩ rfl rfl) rfl) (r_sub (op_sub fun _ _ => rfl) (r_name he0 h_a rfl) (r_bin (r_name he0 h_at rfl) r_int)) r_int) rfl)
    (s_cons (s_expr (r_app (r_name he0 h_found rfl) (r_bin (r_bin (r_bin (r_sub (op_sub fun _ _ => rfl) (r_name he0 h_a rfl) (r_name he0 h_at rfl)) (r_name he0 h_few rfl)) (r_bin (r_name he0 h_above rfl) (r_bin (r_name he0 h_w rfl) (r_name he0 h_few rfl)))) (r_name he0 h_mask rfl)) rfl rfl rfl) rfl rfl)
    s_nil)) tg_val fun _ => rfl)
  (s_cons (s_ret (r_ucall hc (r_globk 0 he0 rfl hg (hn 0 ("normal" : Str) rfl) rfl) (l_cons (r_name he0 h_found rfl) l_nil rfl) ⟨_, _, rfl, rfl⟩))
  s_nil))))
noncomputable abbrev lay_bits : List (Str × Option Nat) := [(("a" : Str), none), (("w" : Str), none)]
noncomputable abbrev ps_bits : List Str := [("a" : Str), ("w" : Str)]
theorem ok_bits : FnOk (rc 14) ps_bits lay_bits where
  bind := fun pm cd doc => len_2 fun _ _ => rfl
  nodup := by decide
  par := by decide
  apart := by decide
  loc := by
    repeat (refine List.forall_mem_cons.mpr ⟨by first | rfl | exact ⟨rfl, fun _ => rfl⟩, ?_⟩)
    exact fun _ h => (nomatch h)
  kind := rfl
  gen := rfl
  co := rfl
theorem ref_bits {g : G} (hg : ∀ k, ∃ a, g.mg (g.gname k) = some a) (hn : ∀ k x, gnames k = x → g.gname k = x) (d : Nat) (c : CT) (hc : CallRef g d c) (pm cd doc : Value) (L a : Addr) :
    RefS g d (slotsOf lay_bits L) (execs (rc 14).body (callEnvC (Calls.docDef (rc 14).name (rc 14).params (rc 14).body (rc 14).scope pm cd doc) L a)) (cd_bits c) := by
  have he0 : EnvOk (callEnvC (Calls.docDef (rc 14).name (rc 14).params (rc 14).body (rc 14).scope pm cd doc) L a) := ⟨rfl, rfl, rfl⟩
  have h_a : At (callEnvC (Calls.docDef (rc 14).name (rc 14).params (rc 14).body (rc 14).scope pm cd doc) L a) (slotsOf lay_bits L) ("a" : Str) 0 := .loc rfl rfl
  have h_w : At (callEnvC (Calls.docDef (rc 14).name (rc 14).params (rc 14).body (rc 14).scope pm cd doc) L a) (slotsOf lay_bits L) ("w" : Str) 1 := .loc rfl rfl
  exact
  (s_cons (s_ret (r_ite (t_cmp (ref_cmp _) (r_bcall he0 rfl (by decide) Boot.«len» ref_len (l_cons (r_name he0 h_a rfl) l_nil rfl) ⟨_, _, rfl, rfl⟩ rfl rfl) r_int rfl) (r_bin (r_bin (r_bin (r_bcall he0 rfl (by decide) Boot.«len» ref_len (l_cons (r_name he0 h_a rfl) l_nil rfl) ⟨_, _, rfl, rfl⟩ rfl rfl) r_int) (r_name he0 h_w rfl)) (r_bitlen (r_sub (op_sub fun _ _ => rfl) (r_name he0 h_a rfl) r_negint) rfl rfl)) r_int))
  s_nil)
noncomputable abbrev lay_low : List (Str × Option Nat) := [(("a" : Str), none), (("n" : Str), none), (("w" : Str), none), (("spots" : Str), none), (("few" : Str), none)]
noncomputable abbrev ps_low : List Str := [("a" : Str), ("n" : Str), ("w" : Str)]
theorem ok_low : FnOk (rc 15) ps_low lay_low where
  bind := fun pm cd doc => len_3 fun _ _ _ => rfl
  nodup := by decide
  par := by decide
  apart := by decide
  loc := by
    repeat (refine List.forall_mem_cons.mpr ⟨by first | rfl | exact ⟨rfl, fun _ => rfl⟩, ?_⟩)
    exact fun _ h => (nomatch h)
  kind := rfl
  gen := rfl
  co := rfl
theorem ref_low {g : G} (hg : ∀ k, ∃ a, g.mg (g.gname k) = some a) (hn : ∀ k x, gnames k = x → g.gname k = x) (d : Nat) (c : CT) (hc : CallRef g d c) (pm cd doc : Value) (L a : Addr) :
    RefS g d (slotsOf lay_low L) (execs (rc 15).body (callEnvC (Calls.docDef (rc 15).name (rc 15).params (rc 15).body (rc 15).scope pm cd doc) L a)) (cd_low c) := by
  have he0 : EnvOk (callEnvC (Calls.docDef (rc 15).name (rc 15).params (rc 15).body (rc 15).scope pm cd doc) L a) := ⟨rfl, rfl, rfl⟩
  have h_n : At (callEnvC (Calls.docDef (rc 15).name (rc 15).params (rc 15).body (rc 15).scope pm cd doc) L a) (slotsOf lay_low L) ("n" : Str) 1 := .loc rfl rfl
  have h_w : At (callEnvC (Calls.docDef (rc 15).name (rc 15).params (rc 15).body (rc 15).scope pm cd doc) L a) (slotsOf lay_low L) ("w" : Str) 2 := .loc rfl rfl
  have h_few : At (callEnvC (Calls.docDef (rc 15).name (rc 15).params (rc 15).body (rc 15).scope pm cd doc) L a) (slotsOf lay_low L) ("few" : Str) 4 := .loc rfl rfl
  have h_spots : At (callEnvC (Calls.docDef (rc 15).name (rc 15).params (rc 15).body (rc 15).scope pm cd doc) L a) (slotsOf lay_low L) ("spots" : Str) 3 := .loc rfl rfl
  have h_a : At (callEnvC (Calls.docDef (rc 15).name (rc 15).params (rc 15).body (rc 15).scope pm cd doc) L a) (slotsOf lay_low L) ("a" : Str) 0 := .loc rfl rfl
  exact
  (s_cons (s_swp he0 (.cons h_spots (.cons h_few AtAll.nil)) (r_tup (l_cons (r_bin (r_name he0 h_n rfl) (r_name he0 h_w rfl)) (l_cons (r_bin (r_name he0 h_n rfl) (r_name he0 h_w rfl)) l_nil rfl) rfl)) rfl rfl)
  (s_cons (s_if (t_cmp (ref_cmp _) (r_name he0 h_spots rfl) (r_bcall he0 rfl (by decide) Boot.«len» ref_len (l_cons (r_name he0 h_a rfl) l_nil rfl) ⟨_, _, rfl, rfl⟩ rfl rfl) rfl) (s_cons (s_ret (r_slice (r_name he0 h_a rfl) p_none p_none fun _ _ => rfl))
    s_nil) s_nil)
  (s_cons (s_ret (r_ucall hc (r_globk 0 he0 rfl hg (hn 0 ("normal" : Str) rfl) rfl) (l_cons (r_bin (r_slice (r_name he0 h_a rfl) p_none (p_some (r_name he0 h_spots rfl)) fun _ _ => rfl) (r_lst (l_cons (r_bin (r_sub (op_sub fun _ _ => rfl) (r_name he0 h_a rfl) (r_name he0 h_spots rfl)) (r_bin (r_bin r_int (r_name he0 h_few rfl)) r_int)) l_nil rfl))) l_nil rfl) ⟨_, _, rfl, rfl⟩))
  s_nil)))
noncomputable abbrev lay_signed : List (Str × Option Nat) := [(("is_below" : Str), none), (("nat" : Str), none)]
noncomputable abbrev ps_signed : List Str := [("is_below" : Str), ("nat" : Str)]
theorem ok_signed : FnOk (rc 17) ps_signed lay_signed where
  bind := fun pm cd doc => len_2 fun _ _ => rfl
  nodup := by decide
  par := by decide
  apart := by decide
  loc := by
    repeat (refine List.forall_mem_cons.mpr ⟨by first | rfl | exact ⟨rfl, fun _ => rfl⟩, ?_⟩)
    exact fun _ h => (nomatch h)
  kind := rfl
  gen := rfl
  co := rfl
theorem ref_signed {g : G} (hg : ∀ k, ∃ a, g.mg (g.gname k) = some a) (hn : ∀ k x, gnames k = x → g.gname k = x) (d : Nat) (c : CT) (hc : CallRef g d c) (pm cd doc : Value) (L a : Addr) :
    RefS g d (slotsOf lay_signed L) (execs (rc 17).body (callEnvC (Calls.docDef (rc 17).name (rc 17).params (rc 17).body (rc 17).scope pm cd doc) L a)) (cd_signed c) := by
  have he0 : EnvOk (callEnvC (Calls.docDef (rc 17).name (rc 17).params (rc 17).body (rc 17).scope pm cd doc) L a) := ⟨rfl, rfl, rfl⟩
  have h_isubelow : At (callEnvC (Calls.docDef (rc 17).name (rc 17).params (rc 17).body (rc 17).scope pm cd doc) L a) (slotsOf lay_signed L) ("is_below" : Str) 0 := .loc rfl rfl
  have h_nat : At (callEnvC (Calls.docDef (rc 17).name (rc 17).params (rc 17).body (rc 17).scope pm cd doc) L a) (slotsOf lay_signed L) ("nat" : Str) 1 := .loc rfl rfl
  exact
  (s_cons (s_ret (r_tup (l_cons (r_and (r_name he0 h_isubelow rfl) (r_cmp (ref_cmp _) (r_bcall he0 rfl (by decide) Boot.«len» ref_len (l_cons (r_name he0 h_nat rfl) l_nil rfl) ⟨_, _, rfl, rfl⟩ rfl rfl) r_int rfl)) (l_cons (r_name he0 h_nat rfl) l_nil rfl) rfl)))
  s_nil)
noncomputable abbrev lay_s_neg : List (Str × Option Nat) := [(("x" : Str), none)]
noncomputable abbrev ps_s_neg : List Str := [("x" : Str)]
theorem ok_s_neg : FnOk (rc 18) ps_s_neg lay_s_neg where
  bind := fun pm cd doc => len_1 fun _ => rfl
  nodup := by decide
  par := by decide
  apart := by decide
  loc := by
    repeat (refine List.forall_mem_cons.mpr ⟨by first | rfl | exact ⟨rfl, fun _ => rfl⟩, ?_⟩)
    exact fun _ h => (nomatch h)
  kind := rfl
  gen := rfl
  co := rfl
theorem ref_s_neg {g : G} (hg : ∀ k, ∃ a, g.mg (g.gname k) = some a) (hn : ∀ k x, gnames k = x → g.gname k = x) (d : Nat) (c : CT) (hc : CallRef g d c) (pm cd doc : Value) (L a : Addr) :
    RefS g d (slotsOf lay_s_neg L) (execs (rc 18).body (callEnvC (Calls.docDef (rc 18).name (rc 18).params (rc 18).body (rc 18).scope pm cd doc) L a)) (cd_s_neg c) := by
  have he0 : EnvOk (callEnvC (Calls.docDef (rc 18).name (rc 18).params (rc 18).body (rc 18).scope pm cd doc) L a) := ⟨rfl, rfl, rfl⟩
  have h_x : At (callEnvC (Calls.docDef (rc 18).name (rc 18).params (rc 18).body (rc 18).scope pm cd doc) L a) (slotsOf lay_s_neg L) ("x" : Str) 0 := .loc rfl rfl
  exact
  (s_cons (s_ret (r_ucall hc (r_globk 11 he0 rfl hg (hn 11 ("signed" : Str) rfl) rfl) (l_cons (r_not (r_sub (op_sub fun _ _ => rfl) (r_name he0 h_x rfl) r_int)) (l_cons (r_sub (op_sub fun _ _ => rfl) (r_name he0 h_x rfl) r_int) l_nil rfl) rfl) ⟨_, _, rfl, rfl⟩))
  s_nil)
noncomputable abbrev lay_s_add : List (Str × Option Nat) := [(("x" : Str), none), (("y" : Str), none), (("w" : Str), none)]
noncomputable abbrev ps_s_add : List Str := [("x" : Str), ("y" : Str), ("w" : Str)]
theorem ok_s_add : FnOk (rc 19) ps_s_add lay_s_add where
  bind := fun pm cd doc => len_3 fun _ _ _ => rfl
  nodup := by decide
  par := by decide
  apart := by decide
  loc := by
    repeat (refine List.forall_mem_cons.mpr ⟨by first | rfl | exact ⟨rfl, fun _ => rfl⟩, ?_⟩)
    exact fun _ h => (nomatch h)
  kind := rfl
  gen := rfl
  co := rfl
theorem ref_s_add {g : G} (hg : ∀ k, ∃ a, g.mg (g.gname k) = some a) (hn : ∀ k x, gnames k = x → g.gname k = x) (d : Nat) (c : CT) (hc : CallRef g d c) (pm cd doc : Value) (L a : Addr) :
    RefS g d (slotsOf lay_s_add L) (execs (rc 19).body (callEnvC (Calls.docDef (rc 19).name (rc 19).params (rc 19).body (rc 19).scope pm cd doc) L a)) (cd_s_add c) := by
  have he0 : EnvOk (callEnvC (Calls.docDef (rc 19).name (rc 19).params (rc 19).body (rc 19).scope pm cd doc) L a) := ⟨rfl, rfl, rfl⟩
  have h_x : At (callEnvC (Calls.docDef (rc 19).name (rc 19).params (rc 19).body (rc 19).scope pm cd doc) L a) (slotsOf lay_s_add L) ("x" : Str) 0 := .loc rfl rfl
  have h_y : At (callEnvC (Calls.docDef (rc 19).name (rc 19).params (rc 19).body (rc 19).scope pm cd doc) L a) (slotsOf lay_s_add L) ("y" : Str) 1 := .loc rfl rfl
  have h_w : At (callEnvC (Calls.docDef (rc 19).name (rc 19).params (rc 19).body (rc 19).scope pm cd doc) L a) (slotsOf lay_s_add L) ("w" : Str) 2 := .loc rfl rfl
  exact
  (s_cons (s_if (t_cmp (ref_cmp _) (r_sub (op_sub fun _ _ => rfl) (r_name he0 h_x rfl) r_int) (r_sub (op_sub fun _ _ => rfl) (r_name he0 h_y rfl) r_int) rfl) (s_cons (s_ret (r_ucall hc (r_globk 11 he0 rfl hg (hn 11 ("signed" : Str) rfl) rfl) (l_cons (r_sub (op_sub fun _ _ => rfl) (r_name he0 h_x rfl) r_int) (l_cons (r_ucall hc (r_globk 3 he0 rfl hg (hn 3 ("add" : Str) rfl) rfl) (l_cons (r_sub (op_sub fun _ _ => rfl) (r_name he0 h_x rfl) r_int) (l_cons (r_sub (op_sub fun _ _ => rfl) (r_name he0 h_y rfl) r_int) (l_cons (r_name he0 h_w rfl) l_nil rfl) rfl) rfl) ⟨_, _, rfl, rfl⟩) l_nil rfl) rfl) ⟨_, _, rfl, rfl⟩))
    s_nil) s_nil)
  (s_cons (s_if (t_cmp (ref_cmp _) (r_ucall hc (r_globk 2 he0 rfl hg (hn 2 ("compare" : Str) rfl) rfl) (l_cons (r_sub (op_sub fun _ _ => rfl) (r_name he0 h_x rfl) r_int) (l_cons (r_sub (op_sub fun _ _ => rfl) (r_name he0 h_y rfl) r_int) l_nil rfl) rfl) ⟨_, _, rfl, rfl⟩) r_int rfl) (s_cons (s_ret (r_ucall hc (r_globk 11 he0 rfl hg (hn 11 ("signed" : Str) rfl) rfl) (l_cons (r_sub (op_sub fun _ _ => rfl) (r_name he0 h_y rfl) r_int) (l_cons (r_ucall hc (r_globk 4 he0 rfl hg (hn 4 ("sub" : Str) rfl) rfl) (l_cons (r_sub (op_sub fun _ _ => rfl) (r_name he0 h_y rfl) r_int) (l_cons (r_sub (op_sub fun _ _ => rfl) (r_name he0 h_x rfl) r_int) (l_cons (r_name he0 h_w rfl) l_nil rfl) rfl) rfl) ⟨_, _, rfl, rfl⟩) l_nil rfl) rfl) ⟨_, _, rfl, rfl⟩))
    s_nil) s_nil)
  (s_cons (s_ret (r_ucall hc (r_globk 11 he0 rfl hg (hn 11 ("signed" : Str) rfl) rfl) (l_cons (r_sub (op_sub fun _ _ => rfl) (r_name he0 h_x rfl) r_int) (l_cons (r_ucall hc (r_globk 4 he0 rfl hg (hn 4 ("sub" : Str) rfl) rfl) (l_cons (r_sub (op_sub fun _ _ => rfl) (r_name he0 h_x rfl) r_int) (l_cons (r_sub (op_sub fun _ _ => rfl) (r_name he0 h_y rfl) r_int) (l_cons (r_name he0 h_w rfl) l_nil rfl) rfl) rfl) ⟨_, _, rfl, rfl⟩) l_nil rfl) rfl) ⟨_, _, rfl, rfl⟩))
  s_nil)))
noncomputable abbrev lay_s_sub : List (Str × Option Nat) := [(("x" : Str), none), (("y" : Str), none), (("w" : Str), none)]
noncomputable abbrev ps_s_sub : List Str := [("x" : Str), ("y" : Str), ("w" : Str)]
theorem ok_s_sub : FnOk (rc 20) ps_s_sub lay_s_sub where
  bind := fun pm cd doc => len_3 fun _ _ _ => rfl
  nodup := by decide
  par := by decide
  apart := by decide
  loc := by
    repeat (refine List.forall_mem_cons.mpr ⟨by first | rfl | exact ⟨rfl, fun _ => rfl⟩, ?_⟩)
    exact fun _ h => (nomatch h)
  kind := rfl
  gen := rfl
  co := rfl
theorem ref_s_sub {g : G} (hg : ∀ k, ∃ a, g.mg (g.gname k) = some a) (hn : ∀ k x, gnames k = x → g.gname k = x) (d : Nat) (c : CT) (hc : CallRef g d c) (pm cd doc : Value) (L a : Addr) :
    RefS g d (slotsOf lay_s_sub L) (execs (rc 20).body (callEnvC (Calls.docDef (rc 20).name (rc 20).params (rc 20).body (rc 20).scope pm cd doc) L a)) (cd_s_sub c) := by
  have he0 : EnvOk (callEnvC (Calls.docDef (rc 20).name (rc 20).params (rc 20).body (rc 20).scope pm cd doc) L a) := ⟨rfl, rfl, rfl⟩
  have h_x : At (callEnvC (Calls.docDef (rc 20).name (rc 20).params (rc 20).body (rc 20).scope pm cd doc) L a) (slotsOf lay_s_sub L) ("x" : Str) 0 := .loc rfl rfl
  have h_y : At (callEnvC (Calls.docDef (rc 20).name (rc 20).params (rc 20).body (rc 20).scope pm cd doc) L a) (slotsOf lay_s_sub L) ("y" : Str) 1 := .loc rfl rfl
  have h_w : At (callEnvC (Calls.docDef (rc 20).name (rc 20).params (rc 20).body (rc 20).scope pm cd doc) L a) (slotsOf lay_s_sub L) ("w" : Str) 2 := .loc rfl rfl
  exact
  (s_cons (s_ret (r_ucall hc (r_globk 13 he0 rfl hg (hn 13 ("s_add" : Str) rfl) rfl) (l_cons (r_name he0 h_x rfl) (l_cons (r_ucall hc (r_globk 12 he0 rfl hg (hn 12 ("s_neg" : Str) rfl) rfl) (l_cons (r_name he0 h_y rfl) l_nil rfl) ⟨_, _, rfl, rfl⟩) (l_cons (r_name he0 h_w rfl) l_nil rfl) rfl) rfl) ⟨_, _, rfl, rfl⟩))
  s_nil)
noncomputable abbrev lay_s_mul : List (Str × Option Nat) := [(("x" : Str), none), (("y" : Str), none), (("w" : Str), none), (("mul" : Str), none)]
noncomputable abbrev ps_s_mul : List Str := [("x" : Str), ("y" : Str), ("w" : Str), ("mul" : Str)]
theorem ok_s_mul : FnOk (rc 21) ps_s_mul lay_s_mul where
  bind := fun pm cd doc => len_4 fun _ _ _ _ => rfl
  nodup := by decide
  par := by decide
  apart := by decide
  loc := by
    repeat (refine List.forall_mem_cons.mpr ⟨by first | rfl | exact ⟨rfl, fun _ => rfl⟩, ?_⟩)
    exact fun _ h => (nomatch h)
  kind := rfl
  gen := rfl
  co := rfl
theorem ref_s_mul {g : G} (hg : ∀ k, ∃ a, g.mg (g.gname k) = some a) (hn : ∀ k x, gnames k = x → g.gname k = x) (d : Nat) (c : CT) (hc : CallRef g d c) (pm cd doc : Value) (L a : Addr) :
    RefS g d (slotsOf lay_s_mul L) (execs (rc 21).body (callEnvC (Calls.docDef (rc 21).name (rc 21).params (rc 21).body (rc 21).scope pm cd doc) L a)) (cd_s_mul c) := by
  have he0 : EnvOk (callEnvC (Calls.docDef (rc 21).name (rc 21).params (rc 21).body (rc 21).scope pm cd doc) L a) := ⟨rfl, rfl, rfl⟩
  have h_x : At (callEnvC (Calls.docDef (rc 21).name (rc 21).params (rc 21).body (rc 21).scope pm cd doc) L a) (slotsOf lay_s_mul L) ("x" : Str) 0 := .loc rfl rfl
  have h_y : At (callEnvC (Calls.docDef (rc 21).name (rc 21).params (rc 21).body (rc 21).scope pm cd doc) L a) (slotsOf lay_s_mul L) ("y" : Str) 1 := .loc rfl rfl
  have h_w : At (callEnvC (Calls.docDef (rc 21).name (rc 21).params (rc 21).body (rc 21).scope pm cd doc) L a) (slotsOf lay_s_mul L) ("w" : Str) 2 := .loc rfl rfl
  have h_mul : At (callEnvC (Calls.docDef (rc 21).name (rc 21).params (rc 21).body (rc 21).scope pm cd doc) L a) (slotsOf lay_s_mul L) ("mul" : Str) 3 := .loc rfl rfl
  exact
  (s_cons (s_ret (r_ucall hc (r_globk 11 he0 rfl hg (hn 11 ("signed" : Str) rfl) rfl) (l_cons (r_cmp (ref_cmp _) (r_sub (op_sub fun _ _ => rfl) (r_name he0 h_x rfl) r_int) (r_sub (op_sub fun _ _ => rfl) (r_name he0 h_y rfl) r_int) rfl) (l_cons (r_ucall hc (r_name he0 h_mul rfl) (l_cons (r_sub (op_sub fun _ _ => rfl) (r_name he0 h_x rfl) r_int) (l_cons (r_sub (op_sub fun _ _ => rfl) (r_name he0 h_y rfl) r_int) (l_cons (r_name he0 h_w rfl) l_nil rfl) rfl) rfl) ⟨_, _, rfl, rfl⟩) l_nil rfl) rfl) ⟨_, _, rfl, rfl⟩))
  s_nil)
noncomputable abbrev lay_s_half : List (Str × Option Nat) := [(("x" : Str), none), (("w" : Str), none)]
noncomputable abbrev ps_s_half : List Str := [("x" : Str), ("w" : Str)]
theorem ok_s_half : FnOk (rc 22) ps_s_half lay_s_half where
  bind := fun pm cd doc => len_2 fun _ _ => rfl
  nodup := by decide
  par := by decide
  apart := by decide
  loc := by
    repeat (refine List.forall_mem_cons.mpr ⟨by first | rfl | exact ⟨rfl, fun _ => rfl⟩, ?_⟩)
    exact fun _ h => (nomatch h)
  kind := rfl
  gen := rfl
  co := rfl
theorem ref_s_half {g : G} (hg : ∀ k, ∃ a, g.mg (g.gname k) = some a) (hn : ∀ k x, gnames k = x → g.gname k = x) (d : Nat) (c : CT) (hc : CallRef g d c) (pm cd doc : Value) (L a : Addr) :
    RefS g d (slotsOf lay_s_half L) (execs (rc 22).body (callEnvC (Calls.docDef (rc 22).name (rc 22).params (rc 22).body (rc 22).scope pm cd doc) L a)) (cd_s_half c) := by
  have he0 : EnvOk (callEnvC (Calls.docDef (rc 22).name (rc 22).params (rc 22).body (rc 22).scope pm cd doc) L a) := ⟨rfl, rfl, rfl⟩
  have h_x : At (callEnvC (Calls.docDef (rc 22).name (rc 22).params (rc 22).body (rc 22).scope pm cd doc) L a) (slotsOf lay_s_half L) ("x" : Str) 0 := .loc rfl rfl
  have h_w : At (callEnvC (Calls.docDef (rc 22).name (rc 22).params (rc 22).body (rc 22).scope pm cd doc) L a) (slotsOf lay_s_half L) ("w" : Str) 1 := .loc rfl rfl
  exact
  (s_cons (s_if (t_not (t_val (r_ucall hc (r_globk 1 he0 rfl hg (hn 1 ("is_even" : Str) rfl) rfl) (l_cons (r_sub (op_sub fun _ _ => rfl) (r_name he0 h_x rfl) r_int) l_nil rfl) ⟨_, _, rfl, rfl⟩) fun _ => rfl)) s_fail s_nil)
  (s_cons (s_ret (r_ucall hc (r_globk 11 he0 rfl hg (hn 11 ("signed" : Str) rfl) rfl) (l_cons (r_sub (op_sub fun _ _ => rfl) (r_name he0 h_x rfl) r_int) (l_cons (r_ucall hc (r_globk 8 he0 rfl hg (hn 8 ("shift_right" : Str) rfl) rfl) (l_cons (r_sub (op_sub fun _ _ => rfl) (r_name he0 h_x rfl) r_int) (l_cons r_int (l_cons (r_name he0 h_w rfl) l_nil rfl) rfl) rfl) ⟨_, _, rfl, rfl⟩) l_nil rfl) rfl) ⟨_, _, rfl, rfl⟩))
  s_nil))
noncomputable abbrev lay_tdiv : List (Str × Option Nat) := [(("x" : Str), none), (("y" : Str), none), (("w" : Str), none), (("divrem" : Str), none), (("quotient" : Str), none), (("rest" : Str), none)]
noncomputable abbrev ps_tdiv : List Str := [("x" : Str), ("y" : Str), ("w" : Str), ("divrem" : Str)]
theorem ok_tdiv : FnOk (rc 23) ps_tdiv lay_tdiv where
  bind := fun pm cd doc => len_4 fun _ _ _ _ => rfl
  nodup := by decide
  par := by decide
  apart := by decide
  loc := by
    repeat (refine List.forall_mem_cons.mpr ⟨by first | rfl | exact ⟨rfl, fun _ => rfl⟩, ?_⟩)
    exact fun _ h => (nomatch h)
  kind := rfl
  gen := rfl
  co := rfl
theorem ref_tdiv {g : G} (hg : ∀ k, ∃ a, g.mg (g.gname k) = some a) (hn : ∀ k x, gnames k = x → g.gname k = x) (d : Nat) (c : CT) (hc : CallRef g d c) (pm cd doc : Value) (L a : Addr) :
    RefS g d (slotsOf lay_tdiv L) (execs (rc 23).body (callEnvC (Calls.docDef (rc 23).name (rc 23).params (rc 23).body (rc 23).scope pm cd doc) L a)) (cd_tdiv c) := by
  have he0 : EnvOk (callEnvC (Calls.docDef (rc 23).name (rc 23).params (rc 23).body (rc 23).scope pm cd doc) L a) := ⟨rfl, rfl, rfl⟩
  have h_y : At (callEnvC (Calls.docDef (rc 23).name (rc 23).params (rc 23).body (rc 23).scope pm cd doc) L a) (slotsOf lay_tdiv L) ("y" : Str) 1 := .loc rfl rfl
  have h_x : At (callEnvC (Calls.docDef (rc 23).name (rc 23).params (rc 23).body (rc 23).scope pm cd doc) L a) (slotsOf lay_tdiv L) ("x" : Str) 0 := .loc rfl rfl
  have h_w : At (callEnvC (Calls.docDef (rc 23).name (rc 23).params (rc 23).body (rc 23).scope pm cd doc) L a) (slotsOf lay_tdiv L) ("w" : Str) 2 := .loc rfl rfl
  have h_divrem : At (callEnvC (Calls.docDef (rc 23).name (rc 23).params (rc 23).body (rc 23).scope pm cd doc) L a) (slotsOf lay_tdiv L) ("divrem" : Str) 3 := .loc rfl rfl
  have h_rest : At (callEnvC (Calls.docDef (rc 23).name (rc 23).params (rc 23).body (rc 23).scope pm cd doc) L a) (slotsOf lay_tdiv L) ("rest" : Str) 5 := .loc rfl rfl
  have h_quotient : At (callEnvC (Calls.docDef (rc 23).name (rc 23).params (rc 23).body (rc 23).scope pm cd doc) L a) (slotsOf lay_tdiv L) ("quotient" : Str) 4 := .loc rfl rfl
  exact
  (s_cons (s_if (t_cmp (ref_cmp _) (r_bcall he0 rfl (by decide) Boot.«len» ref_len (l_cons (r_sub (op_sub fun _ _ => rfl) (r_name he0 h_y rfl) r_int) l_nil rfl) ⟨_, _, rfl, rfl⟩ rfl rfl) r_int rfl) s_fail s_nil)
  (s_cons (s_unp he0 (.cons (.cons .nil)) (.cons h_quotient (.cons h_rest AtAll.nil)) (r_ucall hc (r_name he0 h_divrem rfl) (l_cons (r_sub (op_sub fun _ _ => rfl) (r_name he0 h_x rfl) r_int) (l_cons (r_sub (op_sub fun _ _ => rfl) (r_name he0 h_y rfl) r_int) (l_cons (r_name he0 h_w rfl) l_nil rfl) rfl) rfl) ⟨_, _, rfl, rfl⟩) rfl rfl)
  (s_cons (s_ret (r_tup (l_cons (r_ucall hc (r_globk 11 he0 rfl hg (hn 11 ("signed" : Str) rfl) rfl) (l_cons (r_cmp (ref_cmp _) (r_sub (op_sub fun _ _ => rfl) (r_name he0 h_x rfl) r_int) (r_sub (op_sub fun _ _ => rfl) (r_name he0 h_y rfl) r_int) rfl) (l_cons (r_name he0 h_quotient rfl) l_nil rfl) rfl) ⟨_, _, rfl, rfl⟩) (l_cons (r_ucall hc (r_globk 11 he0 rfl hg (hn 11 ("signed" : Str) rfl) rfl) (l_cons (r_sub (op_sub fun _ _ => rfl) (r_name he0 h_x rfl) r_int) (l_cons (r_name he0 h_rest rfl) l_nil rfl) rfl) ⟨_, _, rfl, rfl⟩) l_nil rfl) rfl)))
  s_nil)))
noncomputable abbrev lay_fdiv : List (Str × Option Nat) := [(("x" : Str), none), (("y" : Str), none), (("w" : Str), none), (("divrem" : Str), none), (("quotient" : Str), none), (("rest" : Str), none)]
noncomputable abbrev ps_fdiv : List Str := [("x" : Str), ("y" : Str), ("w" : Str), ("divrem" : Str)]
theorem ok_fdiv : FnOk (rc 24) ps_fdiv lay_fdiv where
  bind := fun pm cd doc => len_4 fun _ _ _ _ => rfl
  nodup := by decide
  par := by decide
  apart := by decide
  loc := by
    repeat (refine List.forall_mem_cons.mpr ⟨by first | rfl | exact ⟨rfl, fun _ => rfl⟩, ?_⟩)
    exact fun _ h => (nomatch h)
  kind := rfl
  gen := rfl
  co := rfl
theorem ref_fdiv {g : G} (hg : ∀ k, ∃ a, g.mg (g.gname k) = some a) (hn : ∀ k x, gnames k = x → g.gname k = x) (d : Nat) (c : CT) (hc : CallRef g d c) (pm cd doc : Value) (L a : Addr) :
    RefS g d (slotsOf lay_fdiv L) (execs (rc 24).body (callEnvC (Calls.docDef (rc 24).name (rc 24).params (rc 24).body (rc 24).scope pm cd doc) L a)) (cd_fdiv c) := by
  have he0 : EnvOk (callEnvC (Calls.docDef (rc 24).name (rc 24).params (rc 24).body (rc 24).scope pm cd doc) L a) := ⟨rfl, rfl, rfl⟩
  have h_x : At (callEnvC (Calls.docDef (rc 24).name (rc 24).params (rc 24).body (rc 24).scope pm cd doc) L a) (slotsOf lay_fdiv L) ("x" : Str) 0 := .loc rfl rfl
  have h_y : At (callEnvC (Calls.docDef (rc 24).name (rc 24).params (rc 24).body (rc 24).scope pm cd doc) L a) (slotsOf lay_fdiv L) ("y" : Str) 1 := .loc rfl rfl
  have h_w : At (callEnvC (Calls.docDef (rc 24).name (rc 24).params (rc 24).body (rc 24).scope pm cd doc) L a) (slotsOf lay_fdiv L) ("w" : Str) 2 := .loc rfl rfl
  have h_divrem : At (callEnvC (Calls.docDef (rc 24).name (rc 24).params (rc 24).body (rc 24).scope pm cd doc) L a) (slotsOf lay_fdiv L) ("divrem" : Str) 3 := .loc rfl rfl
  have h_rest : At (callEnvC (Calls.docDef (rc 24).name (rc 24).params (rc 24).body (rc 24).scope pm cd doc) L a) (slotsOf lay_fdiv L) ("rest" : Str) 5 := .loc rfl rfl
  have h_quotient : At (callEnvC (Calls.docDef (rc 24).name (rc 24).params (rc 24).body (rc 24).scope pm cd doc) L a) (slotsOf lay_fdiv L) ("quotient" : Str) 4 := .loc rfl rfl
  exact
  (s_cons (s_unp he0 (.cons (.cons .nil)) (.cons h_quotient (.cons h_rest AtAll.nil)) (r_ucall hc (r_globk 17 he0 rfl hg (hn 17 ("tdiv" : Str) rfl) rfl) (l_cons (r_name he0 h_x rfl) (l_cons (r_name he0 h_y rfl) (l_cons (r_name he0 h_w rfl) (l_cons (r_name he0 h_divrem rfl) l_nil rfl) rfl) rfl) rfl) ⟨_, _, rfl, rfl⟩) rfl rfl)
  (s_cons (s_if (t_and (t_cmp (ref_cmp _) (r_bcall he0 rfl (by decide) Boot.«len» ref_len (l_cons (r_sub (op_sub fun _ _ => rfl) (r_name he0 h_rest rfl) r_int) l_nil rfl) ⟨_, _, rfl, rfl⟩ rfl rfl) r_int rfl) (t_cmp (ref_cmp _) (r_sub (op_sub fun _ _ => rfl) (r_name he0 h_x rfl) r_int) (r_sub (op_sub fun _ _ => rfl) (r_name he0 h_y rfl) r_int) rfl)) (s_cons (s_ret (r_tup (l_cons (r_tup (l_cons r_bool (l_cons (r_ucall hc (r_globk 5 he0 rfl hg (hn 5 ("add_limb" : Str) rfl) rfl) (l_cons (r_sub (op_sub fun _ _ => rfl) (r_name he0 h_quotient rfl) r_int) (l_cons r_int (l_cons (r_name he0 h_w rfl) l_nil rfl) rfl) rfl) ⟨_, _, rfl, rfl⟩) l_nil rfl) rfl)) (l_cons (r_ucall hc (r_globk 13 he0 rfl hg (hn 13 ("s_add" : Str) rfl) rfl) (l_cons (r_name he0 h_rest rfl) (l_cons (r_name he0 h_y rfl) (l_cons (r_name he0 h_w rfl) l_nil rfl) rfl) rfl) ⟨_, _, rfl, rfl⟩) l_nil rfl) rfl)))
    s_nil) s_nil)
  (s_cons (s_ret (r_tup (l_cons (r_name he0 h_quotient rfl) (l_cons (r_name he0 h_rest rfl) l_nil rfl) rfl)))
  s_nil)))
noncomputable abbrev lay_s_shift : List (Str × Option Nat) := [(("x" : Str), none), (("n" : Str), none), (("w" : Str), none), (("found" : Str), none)]
noncomputable abbrev ps_s_shift : List Str := [("x" : Str), ("n" : Str), ("w" : Str)]
theorem ok_s_shift : FnOk (rc 25) ps_s_shift lay_s_shift where
  bind := fun pm cd doc => len_3 fun _ _ _ => rfl
  nodup := by decide
  par := by decide
  apart := by decide
  loc := by
    repeat (refine List.forall_mem_cons.mpr ⟨by first | rfl | exact ⟨rfl, fun _ => rfl⟩, ?_⟩)
    exact fun _ h => (nomatch h)
  kind := rfl
  gen := rfl
  co := rfl
theorem ref_s_shift {g : G} (hg : ∀ k, ∃ a, g.mg (g.gname k) = some a) (hn : ∀ k x, gnames k = x → g.gname k = x) (d : Nat) (c : CT) (hc : CallRef g d c) (pm cd doc : Value) (L a : Addr) :
    RefS g d (slotsOf lay_s_shift L) (execs (rc 25).body (callEnvC (Calls.docDef (rc 25).name (rc 25).params (rc 25).body (rc 25).scope pm cd doc) L a)) (cd_s_shift c) := by
  have he0 : EnvOk (callEnvC (Calls.docDef (rc 25).name (rc 25).params (rc 25).body (rc 25).scope pm cd doc) L a) := ⟨rfl, rfl, rfl⟩
  have h_n : At (callEnvC (Calls.docDef (rc 25).name (rc 25).params (rc 25).body (rc 25).scope pm cd doc) L a) (slotsOf lay_s_shift L) ("n" : Str) 1 := .loc rfl rfl
  have h_x : At (callEnvC (Calls.docDef (rc 25).name (rc 25).params (rc 25).body (rc 25).scope pm cd doc) L a) (slotsOf lay_s_shift L) ("x" : Str) 0 := .loc rfl rfl
  have h_w : At (callEnvC (Calls.docDef (rc 25).name (rc 25).params (rc 25).body (rc 25).scope pm cd doc) L a) (slotsOf lay_s_shift L) ("w" : Str) 2 := .loc rfl rfl
  exact
  (s_cons (s_if (t_cmp (ref_cmp _) (r_name he0 h_n rfl) r_int rfl) (s_cons (s_ret (r_ucall hc (r_globk 11 he0 rfl hg (hn 11 ("signed" : Str) rfl) rfl) (l_cons (r_sub (op_sub fun _ _ => rfl) (r_name he0 h_x rfl) r_int) (l_cons (r_ucall hc (r_globk 7 he0 rfl hg (hn 7 ("shift_left" : Str) rfl) rfl) (l_cons (r_sub (op_sub fun _ _ => rfl) (r_name he0 h_x rfl) r_int) (l_cons (r_name he0 h_n rfl) (l_cons (r_name he0 h_w rfl) l_nil rfl) rfl) rfl) ⟨_, _, rfl, rfl⟩) l_nil rfl) rfl) ⟨_, _, rfl, rfl⟩))
    s_nil) s_nil)
  s_fail)
noncomputable abbrev lay_nearest_quotient : List (Str × Option Nat) := [(("x" : Str), none), (("y" : Str), none), (("w" : Str), none), (("divrem" : Str), none)]
noncomputable abbrev ps_nearest_quotient : List Str := [("x" : Str), ("y" : Str), ("w" : Str), ("divrem" : Str)]
theorem ok_nearest_quotient : FnOk (rc 27) ps_nearest_quotient lay_nearest_quotient where
  bind := fun pm cd doc => len_4 fun _ _ _ _ => rfl
  nodup := by decide
  par := by decide
  apart := by decide
  loc := by
    repeat (refine List.forall_mem_cons.mpr ⟨by first | rfl | exact ⟨rfl, fun _ => rfl⟩, ?_⟩)
    exact fun _ h => (nomatch h)
  kind := rfl
  gen := rfl
  co := rfl
theorem ref_nearest_quotient {g : G} (hg : ∀ k, ∃ a, g.mg (g.gname k) = some a) (hn : ∀ k x, gnames k = x → g.gname k = x) (d : Nat) (c : CT) (hc : CallRef g d c) (pm cd doc : Value) (L a : Addr) :
    RefS g d (slotsOf lay_nearest_quotient L) (execs (rc 27).body (callEnvC (Calls.docDef (rc 27).name (rc 27).params (rc 27).body (rc 27).scope pm cd doc) L a)) (cd_nearest_quotient c) := by
  have he0 : EnvOk (callEnvC (Calls.docDef (rc 27).name (rc 27).params (rc 27).body (rc 27).scope pm cd doc) L a) := ⟨rfl, rfl, rfl⟩
  have h_x : At (callEnvC (Calls.docDef (rc 27).name (rc 27).params (rc 27).body (rc 27).scope pm cd doc) L a) (slotsOf lay_nearest_quotient L) ("x" : Str) 0 := .loc rfl rfl
  have h_w : At (callEnvC (Calls.docDef (rc 27).name (rc 27).params (rc 27).body (rc 27).scope pm cd doc) L a) (slotsOf lay_nearest_quotient L) ("w" : Str) 2 := .loc rfl rfl
  have h_y : At (callEnvC (Calls.docDef (rc 27).name (rc 27).params (rc 27).body (rc 27).scope pm cd doc) L a) (slotsOf lay_nearest_quotient L) ("y" : Str) 1 := .loc rfl rfl
  have h_divrem : At (callEnvC (Calls.docDef (rc 27).name (rc 27).params (rc 27).body (rc 27).scope pm cd doc) L a) (slotsOf lay_nearest_quotient L) ("divrem" : Str) 3 := .loc rfl rfl
  exact
  (s_cons (s_ret (r_sub (op_sub fun _ _ => rfl) (r_ucall hc (r_globk 18 he0 rfl hg (hn 18 ("fdiv" : Str) rfl) rfl) (l_cons (r_ucall hc (r_globk 13 he0 rfl hg (hn 13 ("s_add" : Str) rfl) rfl) (l_cons (r_ucall hc (r_globk 19 he0 rfl hg (hn 19 ("s_shift" : Str) rfl) rfl) (l_cons (r_name he0 h_x rfl) (l_cons r_int (l_cons (r_name he0 h_w rfl) l_nil rfl) rfl) rfl) ⟨_, _, rfl, rfl⟩) (l_cons (r_name he0 h_y rfl) (l_cons (r_name he0 h_w rfl) l_nil rfl) rfl) rfl) ⟨_, _, rfl, rfl⟩) (l_cons (r_ucall hc (r_globk 19 he0 rfl hg (hn 19 ("s_shift" : Str) rfl) rfl) (l_cons (r_name he0 h_y rfl) (l_cons r_int (l_cons (r_name he0 h_w rfl) l_nil rfl) rfl) rfl) ⟨_, _, rfl, rfl⟩) (l_cons (r_name he0 h_w rfl) (l_cons (r_name he0 h_divrem rfl) l_nil rfl) rfl) rfl) rfl) ⟨_, _, rfl, rfl⟩) r_int))
  s_nil)
noncomputable abbrev lay_mul_school : List (Str × Option Nat) := [(("a" : Str), none), (("b" : Str), none), (("w" : Str), none), (("found" : Str), none), (("mask" : Str), none), (("at" : Str), none), (("limb" : Str), none), (("carry" : Str), none), (("spot" : Str), none), (("other" : Str), none)]
noncomputable abbrev ps_mul_school : List Str := [("a" : Str), ("b" : Str), ("w" : Str)]
theorem ok_mul_school : FnOk (rc 29) ps_mul_school lay_mul_school where
  bind := fun pm cd doc => len_3 fun _ _ _ => rfl
  nodup := by decide
  par := by decide
  apart := by decide
  loc := by
    repeat (refine List.forall_mem_cons.mpr ⟨by first | rfl | exact ⟨rfl, fun _ => rfl⟩, ?_⟩)
    exact fun _ h => (nomatch h)
  kind := rfl
  gen := rfl
  co := rfl
theorem ref_mul_school {g : G} (hg : ∀ k, ∃ a, g.mg (g.gname k) = some a) (hn : ∀ k x, gnames k = x → g.gname k = x) (d : Nat) (c : CT) (hc : CallRef g d c) (pm cd doc : Value) (L a : Addr) :
    RefS g d (slotsOf lay_mul_school L) (execs (rc 29).body (callEnvC (Calls.docDef (rc 29).name (rc 29).params (rc 29).body (rc 29).scope pm cd doc) L a)) (cd_mul_school c) := by
  have he0 : EnvOk (callEnvC (Calls.docDef (rc 29).name (rc 29).params (rc 29).body (rc 29).scope pm cd doc) L a) := ⟨rfl, rfl, rfl⟩
  have h_a : At (callEnvC (Calls.docDef (rc 29).name (rc 29).params (rc 29).body (rc 29).scope pm cd doc) L a) (slotsOf lay_mul_school L) ("a" : Str) 0 := .loc rfl rfl
  have h_b : At (callEnvC (Calls.docDef (rc 29).name (rc 29).params (rc 29).body (rc 29).scope pm cd doc) L a) (slotsOf lay_mul_school L) ("b" : Str) 1 := .loc rfl rfl
  have h_w : At (callEnvC (Calls.docDef (rc 29).name (rc 29).params (rc 29).body (rc 29).scope pm cd doc) L a) (slotsOf lay_mul_school L) ("w" : Str) 2 := .loc rfl rfl
  have h_mask : At (callEnvC (Calls.docDef (rc 29).name (rc 29).params (rc 29).body (rc 29).scope pm cd doc) L a) (slotsOf lay_mul_school L) ("mask" : Str) 4 := .loc rfl rfl
  have h_found : At (callEnvC (Calls.docDef (rc 29).name (rc 29).params (rc 29).body (rc 29).scope pm cd doc) L a) (slotsOf lay_mul_school L) ("found" : Str) 3 := .loc rfl rfl
  have h_carry : At (callEnvC (Calls.docDef (rc 29).name (rc 29).params (rc 29).body (rc 29).scope pm cd doc) L a) (slotsOf lay_mul_school L) ("carry" : Str) 7 := .loc rfl rfl
  have h_at : At (callEnvC (Calls.docDef (rc 29).name (rc 29).params (rc 29).body (rc 29).scope pm cd doc) L a) (slotsOf lay_mul_school L) ("at" : Str) 5 := .loc rfl rfl
  have h_spot : At (callEnvC (Calls.docDef (rc 29).name (rc 29).params (rc 29).body (rc 29).scope pm cd doc) L a) (slotsOf lay_mul_school L) ("spot" : Str) 8 := .loc rfl rfl
  have h_limb : At (callEnvC (Calls.docDef (rc 29).name (rc 29).params (rc 29).body (rc 29).scope pm cd doc) L a) (slotsOf lay_mul_school L) ("limb" : Str) 6 := .loc rfl rfl
  have h_other : At (callEnvC (Calls.docDef (rc 29).name (rc 29).params (rc 29).body (rc 29).scope pm cd doc) L a) (slotsOf lay_mul_school L) ("other" : Str) 9 := .loc rfl rfl
  exact
  (s_cons (s_swp he0 (.cons h_found (.cons h_mask AtAll.nil)) (r_tup (l_cons (r_bin (r_lst (l_cons r_int l_nil rfl)) (r_bin (r_bcall he0 rfl (by decide) Boot.«len» ref_len (l_cons (r_name he0 h_a rfl) l_nil rfl) ⟨_, _, rfl, rfl⟩ rfl rfl) (r_bcall he0 rfl (by decide) Boot.«len» ref_len (l_cons (r_name he0 h_b rfl) l_nil rfl) ⟨_, _, rfl, rfl⟩ rfl rfl))) (l_cons (r_bin (r_bin r_int (r_name he0 h_w rfl)) r_int) l_nil rfl) rfl)) rfl rfl)
  (s_cons (s_for (i_enum he0 rfl (r_name he0 h_a rfl) rfl rfl) (t_tuple he0 (.cons (.cons .nil)) (.cons h_at (.cons h_limb AtAll.nil))) (s_cons (s_asg he0 h_carry r_int rfl)
    (s_cons (s_for (i_enum he0 rfl (r_name he0 h_b rfl) rfl rfl) (t_tuple he0 (.cons (.cons .nil)) (.cons h_spot (.cons h_other AtAll.nil))) (s_cons (s_aug he0 h_carry (r_bin (r_sub (op_sub fun _ _ => rfl) (r_name he0 h_found rfl) (r_bin (r_name he0 h_at rfl) (r_name he0 h_spot rfl))) (r_bin (r_name he0 h_limb rfl) (r_name he0 h_other rfl))) rfl)
      (s_cons (s_set (r_name he0 h_found rfl) (r_bin (r_name he0 h_at rfl) (r_name he0 h_spot rfl)) (r_bin (r_name he0 h_carry rfl) (r_name he0 h_mask rfl)) rfl)
      (s_cons (s_aug he0 h_carry (r_name he0 h_w rfl) rfl)
      s_nil))) tg_tup fun _ => rfl)
    (s_cons (s_set (r_name he0 h_found rfl) (r_bin (r_name he0 h_at rfl) (r_bcall he0 rfl (by decide) Boot.«len» ref_len (l_cons (r_name he0 h_b rfl) l_nil rfl) ⟨_, _, rfl, rfl⟩ rfl rfl)) (r_name he0 h_carry rfl) rfl)
    s_nil))) tg_tup fun _ => rfl)
  (s_cons (s_ret (r_ucall hc (r_globk 0 he0 rfl hg (hn 0 ("normal" : Str) rfl) rfl) (l_cons (r_name he0 h_found rfl) l_nil rfl) ⟨_, _, rfl, rfl⟩))
  s_nil)))
noncomputable abbrev lay_divrem_small : List (Str × Option Nat) := [(("a" : Str), none), (("b" : Str), none), (("w" : Str), none), (("quotient" : Str), none), (("rest" : Str), none)]
noncomputable abbrev ps_divrem_small : List Str := [("a" : Str), ("b" : Str), ("w" : Str)]
theorem ok_divrem_small : FnOk (rc 30) ps_divrem_small lay_divrem_small where
  bind := fun pm cd doc => len_3 fun _ _ _ => rfl
  nodup := by decide
  par := by decide
  apart := by decide
  loc := by
    repeat (refine List.forall_mem_cons.mpr ⟨by first | rfl | exact ⟨rfl, fun _ => rfl⟩, ?_⟩)
    exact fun _ h => (nomatch h)
  kind := rfl
  gen := rfl
  co := rfl
theorem ref_divrem_small {g : G} (hg : ∀ k, ∃ a, g.mg (g.gname k) = some a) (hn : ∀ k x, gnames k = x → g.gname k = x) (d : Nat) (c : CT) (hc : CallRef g d c) (pm cd doc : Value) (L a : Addr) :
    RefS g d (slotsOf lay_divrem_small L) (execs (rc 30).body (callEnvC (Calls.docDef (rc 30).name (rc 30).params (rc 30).body (rc 30).scope pm cd doc) L a)) (cd_divrem_small c) := by
  have he0 : EnvOk (callEnvC (Calls.docDef (rc 30).name (rc 30).params (rc 30).body (rc 30).scope pm cd doc) L a) := ⟨rfl, rfl, rfl⟩
  have h_a : At (callEnvC (Calls.docDef (rc 30).name (rc 30).params (rc 30).body (rc 30).scope pm cd doc) L a) (slotsOf lay_divrem_small L) ("a" : Str) 0 := .loc rfl rfl
  have h_b : At (callEnvC (Calls.docDef (rc 30).name (rc 30).params (rc 30).body (rc 30).scope pm cd doc) L a) (slotsOf lay_divrem_small L) ("b" : Str) 1 := .loc rfl rfl
  have h_w : At (callEnvC (Calls.docDef (rc 30).name (rc 30).params (rc 30).body (rc 30).scope pm cd doc) L a) (slotsOf lay_divrem_small L) ("w" : Str) 2 := .loc rfl rfl
  have h_rest : At (callEnvC (Calls.docDef (rc 30).name (rc 30).params (rc 30).body (rc 30).scope pm cd doc) L a) (slotsOf lay_divrem_small L) ("rest" : Str) 4 := .loc rfl rfl
  have h_quotient : At (callEnvC (Calls.docDef (rc 30).name (rc 30).params (rc 30).body (rc 30).scope pm cd doc) L a) (slotsOf lay_divrem_small L) ("quotient" : Str) 3 := .loc rfl rfl
  exact
  (s_cons (s_unp he0 (.cons (.cons .nil)) (.cons h_quotient (.cons h_rest AtAll.nil)) (r_ucall hc (r_globk 6 he0 rfl hg (hn 6 ("divrem_limb" : Str) rfl) rfl) (l_cons (r_name he0 h_a rfl) (l_cons (r_sub (op_sub fun _ _ => rfl) (r_name he0 h_b rfl) r_int) (l_cons (r_name he0 h_w rfl) l_nil rfl) rfl) rfl) ⟨_, _, rfl, rfl⟩) rfl rfl)
  (s_cons (s_ret (r_tup (l_cons (r_name he0 h_quotient rfl) (l_cons (r_ite (t_cmp (ref_cmp _) (r_name he0 h_rest rfl) r_int rfl) (r_lst (l_cons (r_name he0 h_rest rfl) l_nil rfl)) (r_lst l_nil)) l_nil rfl) rfl)))
  s_nil))
noncomputable abbrev lay_guessed_limb : List (Str × Option Nat) := [(("top" : Str), none), (("first" : Str), none), (("second" : Str), none), (("w" : Str), none), (("high" : Str), none), (("base" : Str), none), (("limb" : Str), none), (("rest" : Str), none)]
noncomputable abbrev ps_guessed_limb : List Str := [("top" : Str), ("first" : Str), ("second" : Str), ("w" : Str)]
theorem ok_guessed_limb : FnOk (rc 31) ps_guessed_limb lay_guessed_limb where
  bind := fun pm cd doc => len_4 fun _ _ _ _ => rfl
  nodup := by decide
  par := by decide
  apart := by decide
  loc := by
    repeat (refine List.forall_mem_cons.mpr ⟨by first | rfl | exact ⟨rfl, fun _ => rfl⟩, ?_⟩)
    exact fun _ h => (nomatch h)
  kind := rfl
  gen := rfl
  co := rfl
theorem ref_guessed_limb {g : G} (hg : ∀ k, ∃ a, g.mg (g.gname k) = some a) (hn : ∀ k x, gnames k = x → g.gname k = x) (d : Nat) (c : CT) (hc : CallRef g d c) (pm cd doc : Value) (L a : Addr) :
    RefS g d (slotsOf lay_guessed_limb L) (execs (rc 31).body (callEnvC (Calls.docDef (rc 31).name (rc 31).params (rc 31).body (rc 31).scope pm cd doc) L a)) (cd_guessed_limb c) := by
  have he0 : EnvOk (callEnvC (Calls.docDef (rc 31).name (rc 31).params (rc 31).body (rc 31).scope pm cd doc) L a) := ⟨rfl, rfl, rfl⟩
  have h_top : At (callEnvC (Calls.docDef (rc 31).name (rc 31).params (rc 31).body (rc 31).scope pm cd doc) L a) (slotsOf lay_guessed_limb L) ("top" : Str) 0 := .loc rfl rfl
  have h_w : At (callEnvC (Calls.docDef (rc 31).name (rc 31).params (rc 31).body (rc 31).scope pm cd doc) L a) (slotsOf lay_guessed_limb L) ("w" : Str) 3 := .loc rfl rfl
  have h_base : At (callEnvC (Calls.docDef (rc 31).name (rc 31).params (rc 31).body (rc 31).scope pm cd doc) L a) (slotsOf lay_guessed_limb L) ("base" : Str) 5 := .loc rfl rfl
  have h_high : At (callEnvC (Calls.docDef (rc 31).name (rc 31).params (rc 31).body (rc 31).scope pm cd doc) L a) (slotsOf lay_guessed_limb L) ("high" : Str) 4 := .loc rfl rfl
  have h_first : At (callEnvC (Calls.docDef (rc 31).name (rc 31).params (rc 31).body (rc 31).scope pm cd doc) L a) (slotsOf lay_guessed_limb L) ("first" : Str) 1 := .loc rfl rfl
  have h_limb : At (callEnvC (Calls.docDef (rc 31).name (rc 31).params (rc 31).body (rc 31).scope pm cd doc) L a) (slotsOf lay_guessed_limb L) ("limb" : Str) 6 := .loc rfl rfl
  have h_rest : At (callEnvC (Calls.docDef (rc 31).name (rc 31).params (rc 31).body (rc 31).scope pm cd doc) L a) (slotsOf lay_guessed_limb L) ("rest" : Str) 7 := .loc rfl rfl
  have h_second : At (callEnvC (Calls.docDef (rc 31).name (rc 31).params (rc 31).body (rc 31).scope pm cd doc) L a) (slotsOf lay_guessed_limb L) ("second" : Str) 2 := .loc rfl rfl
  exact
  (s_cons (s_swp he0 (.cons h_high (.cons h_base AtAll.nil)) (r_tup (l_cons (r_bin (r_bin (r_sub (op_sub fun _ _ => rfl) (r_name he0 h_top rfl) r_int) (r_name he0 h_w rfl)) (r_sub (op_sub fun _ _ => rfl) (r_name he0 h_top rfl) r_int)) (l_cons (r_bin r_int (r_name he0 h_w rfl)) l_nil rfl) rfl)) rfl rfl)
  (s_cons (s_asg he0 h_limb (r_bcall he0 rfl (by decide) Boot.«min» ref_min (l_cons (r_bin (r_name he0 h_high rfl) (r_name he0 h_first rfl)) (l_cons (r_bin (r_name he0 h_base rfl) r_int) l_nil rfl) rfl) ⟨_, _, rfl, rfl⟩ rfl rfl) rfl)
  (s_cons (s_asg he0 h_rest (r_bin (r_name he0 h_high rfl) (r_bin (r_name he0 h_limb rfl) (r_name he0 h_first rfl))) rfl)
  (s_cons (s_while (t_and (t_cmp (ref_cmp _) (r_name he0 h_rest rfl) (r_name he0 h_base rfl) rfl) (t_cmp (ref_cmp _) (r_bin (r_name he0 h_limb rfl) (r_name he0 h_second rfl)) (r_bin (r_bin (r_name he0 h_rest rfl) (r_name he0 h_w rfl)) (r_sub (op_sub fun _ _ => rfl) (r_name he0 h_top rfl) r_int)) rfl)) (s_cons (s_aug he0 h_limb r_int rfl)
    (s_cons (s_aug he0 h_rest (r_name he0 h_first rfl) rfl)
    s_nil)))
  (s_cons (s_ret (r_name he0 h_limb rfl))
  s_nil)))))
noncomputable abbrev lay_take_away : List (Str × Option Nat) := [(("rest" : Str), none), (("b" : Str), none), (("limb" : Str), none), (("at" : Str), none), (("w" : Str), none), (("carry" : Str), none), (("base" : Str), none), (("spot" : Str), none), (("other" : Str), none), (("here" : Str), none)]
noncomputable abbrev ps_take_away : List Str := [("rest" : Str), ("b" : Str), ("limb" : Str), ("at" : Str), ("w" : Str)]
theorem ok_take_away : FnOk (rc 32) ps_take_away lay_take_away where
  bind := fun pm cd doc => len_5 fun _ _ _ _ _ => rfl
  nodup := by decide
  par := by decide
  apart := by decide
  loc := by
    repeat (refine List.forall_mem_cons.mpr ⟨by first | rfl | exact ⟨rfl, fun _ => rfl⟩, ?_⟩)
    exact fun _ h => (nomatch h)
  kind := rfl
  gen := rfl
  co := rfl
theorem ref_take_away {g : G} (hg : ∀ k, ∃ a, g.mg (g.gname k) = some a) (hn : ∀ k x, gnames k = x → g.gname k = x) (d : Nat) (c : CT) (hc : CallRef g d c) (pm cd doc : Value) (L a : Addr) :
    RefS g d (slotsOf lay_take_away L) (execs (rc 32).body (callEnvC (Calls.docDef (rc 32).name (rc 32).params (rc 32).body (rc 32).scope pm cd doc) L a)) (cd_take_away c) := by
  have he0 : EnvOk (callEnvC (Calls.docDef (rc 32).name (rc 32).params (rc 32).body (rc 32).scope pm cd doc) L a) := ⟨rfl, rfl, rfl⟩
  have h_w : At (callEnvC (Calls.docDef (rc 32).name (rc 32).params (rc 32).body (rc 32).scope pm cd doc) L a) (slotsOf lay_take_away L) ("w" : Str) 4 := .loc rfl rfl
  have h_base : At (callEnvC (Calls.docDef (rc 32).name (rc 32).params (rc 32).body (rc 32).scope pm cd doc) L a) (slotsOf lay_take_away L) ("base" : Str) 6 := .loc rfl rfl
  have h_carry : At (callEnvC (Calls.docDef (rc 32).name (rc 32).params (rc 32).body (rc 32).scope pm cd doc) L a) (slotsOf lay_take_away L) ("carry" : Str) 5 := .loc rfl rfl
  have h_rest : At (callEnvC (Calls.docDef (rc 32).name (rc 32).params (rc 32).body (rc 32).scope pm cd doc) L a) (slotsOf lay_take_away L) ("rest" : Str) 0 := .loc rfl rfl
  have h_at : At (callEnvC (Calls.docDef (rc 32).name (rc 32).params (rc 32).body (rc 32).scope pm cd doc) L a) (slotsOf lay_take_away L) ("at" : Str) 3 := .loc rfl rfl
  have h_spot : At (callEnvC (Calls.docDef (rc 32).name (rc 32).params (rc 32).body (rc 32).scope pm cd doc) L a) (slotsOf lay_take_away L) ("spot" : Str) 7 := .loc rfl rfl
  have h_limb : At (callEnvC (Calls.docDef (rc 32).name (rc 32).params (rc 32).body (rc 32).scope pm cd doc) L a) (slotsOf lay_take_away L) ("limb" : Str) 2 := .loc rfl rfl
  have h_other : At (callEnvC (Calls.docDef (rc 32).name (rc 32).params (rc 32).body (rc 32).scope pm cd doc) L a) (slotsOf lay_take_away L) ("other" : Str) 8 := .loc rfl rfl
  have h_here : At (callEnvC (Calls.docDef (rc 32).name (rc 32).params (rc 32).body (rc 32).scope pm cd doc) L a) (slotsOf lay_take_away L) ("here" : Str) 9 := .loc rfl rfl
  have h_b : At (callEnvC (Calls.docDef (rc 32).name (rc 32).params (rc 32).body (rc 32).scope pm cd doc) L a) (slotsOf lay_take_away L) ("b" : Str) 1 := .loc rfl rfl
  exact
  (s_cons (s_swp he0 (.cons h_carry (.cons h_base AtAll.nil)) (r_tup (l_cons r_int (l_cons (r_bin r_int (r_name he0 h_w rfl)) l_nil rfl) rfl)) rfl rfl)
  (s_cons (s_for (i_enum he0 rfl (r_name he0 h_b rfl) rfl rfl) (t_tuple he0 (.cons (.cons .nil)) (.cons h_spot (.cons h_other AtAll.nil))) (s_cons (s_asg he0 h_here (r_bin (r_sub (op_sub fun _ _ => rfl) (r_name he0 h_rest rfl) (r_bin (r_name he0 h_at rfl) (r_name he0 h_spot rfl))) (r_bin (r_bin (r_bin (r_name he0 h_limb rfl) (r_name he0 h_other rfl)) (r_name he0 h_carry rfl)) (r_name he0 h_base rfl))) rfl)
    (s_cons (s_asg he0 h_carry (r_bin (r_bin (r_bin (r_bin (r_name he0 h_limb rfl) (r_name he0 h_other rfl)) (r_name he0 h_carry rfl)) (r_name he0 h_base rfl)) (r_ite (t_cmp (ref_cmp _) (r_name he0 h_here rfl) r_int rfl) r_int r_int)) rfl)
    (s_cons (s_set (r_name he0 h_rest rfl) (r_bin (r_name he0 h_at rfl) (r_name he0 h_spot rfl)) (r_ite (t_cmp (ref_cmp _) (r_name he0 h_here rfl) r_int rfl) (r_bin (r_name he0 h_here rfl) (r_name he0 h_base rfl)) (r_name he0 h_here rfl)) rfl)
    s_nil))) tg_tup fun _ => rfl)
  (s_cons (s_asg he0 h_here (r_bin (r_sub (op_sub fun _ _ => rfl) (r_name he0 h_rest rfl) (r_bin (r_name he0 h_at rfl) (r_bcall he0 rfl (by decide) Boot.«len» ref_len (l_cons (r_name he0 h_b rfl) l_nil rfl) ⟨_, _, rfl, rfl⟩ rfl rfl))) (r_name he0 h_carry rfl)) rfl)
  (s_cons (s_set (r_name he0 h_rest rfl) (r_bin (r_name he0 h_at rfl) (r_bcall he0 rfl (by decide) Boot.«len» ref_len (l_cons (r_name he0 h_b rfl) l_nil rfl) ⟨_, _, rfl, rfl⟩ rfl rfl)) (r_ite (t_cmp (ref_cmp _) (r_name he0 h_here rfl) r_int rfl) (r_bin (r_name he0 h_here rfl) (r_name he0 h_base rfl)) (r_name he0 h_here rfl)) rfl)
  (s_cons (s_ret (r_ite (t_cmp (ref_cmp _) (r_name he0 h_here rfl) r_int rfl) r_int r_int))
  s_nil)))))
noncomputable abbrev lay_put_back : List (Str × Option Nat) := [(("rest" : Str), none), (("b" : Str), none), (("at" : Str), none), (("w" : Str), none), (("carry" : Str), none), (("mask" : Str), none), (("spot" : Str), none), (("other" : Str), none)]
noncomputable abbrev ps_put_back : List Str := [("rest" : Str), ("b" : Str), ("at" : Str), ("w" : Str)]
theorem ok_put_back : FnOk (rc 33) ps_put_back lay_put_back where
  bind := fun pm cd doc => len_4 fun _ _ _ _ => rfl
  nodup := by decide
  par := by decide
  apart := by decide
  loc := by
    repeat (refine List.forall_mem_cons.mpr ⟨by first | rfl | exact ⟨rfl, fun _ => rfl⟩, ?_⟩)
    exact fun _ h => (nomatch h)
  kind := rfl
  gen := rfl
  co := rfl
theorem ref_put_back {g : G} (hg : ∀ k, ∃ a, g.mg (g.gname k) = some a) (hn : ∀ k x, gnames k = x → g.gname k = x) (d : Nat) (c : CT) (hc : CallRef g d c) (pm cd doc : Value) (L a : Addr) :
    RefS g d (slotsOf lay_put_back L) (execs (rc 33).body (callEnvC (Calls.docDef (rc 33).name (rc 33).params (rc 33).body (rc 33).scope pm cd doc) L a)) (cd_put_back c) := by
  have he0 : EnvOk (callEnvC (Calls.docDef (rc 33).name (rc 33).params (rc 33).body (rc 33).scope pm cd doc) L a) := ⟨rfl, rfl, rfl⟩
  have h_w : At (callEnvC (Calls.docDef (rc 33).name (rc 33).params (rc 33).body (rc 33).scope pm cd doc) L a) (slotsOf lay_put_back L) ("w" : Str) 3 := .loc rfl rfl
  have h_mask : At (callEnvC (Calls.docDef (rc 33).name (rc 33).params (rc 33).body (rc 33).scope pm cd doc) L a) (slotsOf lay_put_back L) ("mask" : Str) 5 := .loc rfl rfl
  have h_carry : At (callEnvC (Calls.docDef (rc 33).name (rc 33).params (rc 33).body (rc 33).scope pm cd doc) L a) (slotsOf lay_put_back L) ("carry" : Str) 4 := .loc rfl rfl
  have h_rest : At (callEnvC (Calls.docDef (rc 33).name (rc 33).params (rc 33).body (rc 33).scope pm cd doc) L a) (slotsOf lay_put_back L) ("rest" : Str) 0 := .loc rfl rfl
  have h_at : At (callEnvC (Calls.docDef (rc 33).name (rc 33).params (rc 33).body (rc 33).scope pm cd doc) L a) (slotsOf lay_put_back L) ("at" : Str) 2 := .loc rfl rfl
  have h_spot : At (callEnvC (Calls.docDef (rc 33).name (rc 33).params (rc 33).body (rc 33).scope pm cd doc) L a) (slotsOf lay_put_back L) ("spot" : Str) 6 := .loc rfl rfl
  have h_other : At (callEnvC (Calls.docDef (rc 33).name (rc 33).params (rc 33).body (rc 33).scope pm cd doc) L a) (slotsOf lay_put_back L) ("other" : Str) 7 := .loc rfl rfl
  have h_b : At (callEnvC (Calls.docDef (rc 33).name (rc 33).params (rc 33).body (rc 33).scope pm cd doc) L a) (slotsOf lay_put_back L) ("b" : Str) 1 := .loc rfl rfl
  exact
  (s_cons (s_swp he0 (.cons h_carry (.cons h_mask AtAll.nil)) (r_tup (l_cons r_int (l_cons (r_bin (r_bin r_int (r_name he0 h_w rfl)) r_int) l_nil rfl) rfl)) rfl rfl)
  (s_cons (s_for (i_enum he0 rfl (r_name he0 h_b rfl) rfl rfl) (t_tuple he0 (.cons (.cons .nil)) (.cons h_spot (.cons h_other AtAll.nil))) (s_cons (s_aug he0 h_carry (r_bin (r_sub (op_sub fun _ _ => rfl) (r_name he0 h_rest rfl) (r_bin (r_name he0 h_at rfl) (r_name he0 h_spot rfl))) (r_name he0 h_other rfl)) rfl)
    (s_cons (s_set (r_name he0 h_rest rfl) (r_bin (r_name he0 h_at rfl) (r_name he0 h_spot rfl)) (r_bin (r_name he0 h_carry rfl) (r_name he0 h_mask rfl)) rfl)
    (s_cons (s_aug he0 h_carry (r_name he0 h_w rfl) rfl)
    s_nil))) tg_tup fun _ => rfl)
  (s_cons (s_set (r_name he0 h_rest rfl) (r_bin (r_name he0 h_at rfl) (r_bcall he0 rfl (by decide) Boot.«len» ref_len (l_cons (r_name he0 h_b rfl) l_nil rfl) ⟨_, _, rfl, rfl⟩ rfl rfl)) (r_bin (r_bin (r_sub (op_sub fun _ _ => rfl) (r_name he0 h_rest rfl) (r_bin (r_name he0 h_at rfl) (r_bcall he0 rfl (by decide) Boot.«len» ref_len (l_cons (r_name he0 h_b rfl) l_nil rfl) ⟨_, _, rfl, rfl⟩ rfl rfl))) (r_name he0 h_carry rfl)) (r_name he0 h_mask rfl)) rfl)
  s_nil)))
noncomputable abbrev lay_divide_rows : List (Str × Option Nat) := [(("rest" : Str), none), (("b" : Str), none), (("w" : Str), none), (("size" : Str), none), (("quotient" : Str), none), (("at" : Str), none), (("limb" : Str), none)]
noncomputable abbrev ps_divide_rows : List Str := [("rest" : Str), ("b" : Str), ("w" : Str)]
theorem ok_divide_rows : FnOk (rc 34) ps_divide_rows lay_divide_rows where
  bind := fun pm cd doc => len_3 fun _ _ _ => rfl
  nodup := by decide
  par := by decide
  apart := by decide
  loc := by
    repeat (refine List.forall_mem_cons.mpr ⟨by first | rfl | exact ⟨rfl, fun _ => rfl⟩, ?_⟩)
    exact fun _ h => (nomatch h)
  kind := rfl
  gen := rfl
  co := rfl
theorem ref_divide_rows {g : G} (hg : ∀ k, ∃ a, g.mg (g.gname k) = some a) (hn : ∀ k x, gnames k = x → g.gname k = x) (d : Nat) (c : CT) (hc : CallRef g d c) (pm cd doc : Value) (L a : Addr) :
    RefS g d (slotsOf lay_divide_rows L) (execs (rc 34).body (callEnvC (Calls.docDef (rc 34).name (rc 34).params (rc 34).body (rc 34).scope pm cd doc) L a)) (cd_divide_rows c) := by
  have he0 : EnvOk (callEnvC (Calls.docDef (rc 34).name (rc 34).params (rc 34).body (rc 34).scope pm cd doc) L a) := ⟨rfl, rfl, rfl⟩
  have h_b : At (callEnvC (Calls.docDef (rc 34).name (rc 34).params (rc 34).body (rc 34).scope pm cd doc) L a) (slotsOf lay_divide_rows L) ("b" : Str) 1 := .loc rfl rfl
  have h_size : At (callEnvC (Calls.docDef (rc 34).name (rc 34).params (rc 34).body (rc 34).scope pm cd doc) L a) (slotsOf lay_divide_rows L) ("size" : Str) 3 := .loc rfl rfl
  have h_rest : At (callEnvC (Calls.docDef (rc 34).name (rc 34).params (rc 34).body (rc 34).scope pm cd doc) L a) (slotsOf lay_divide_rows L) ("rest" : Str) 0 := .loc rfl rfl
  have h_quotient : At (callEnvC (Calls.docDef (rc 34).name (rc 34).params (rc 34).body (rc 34).scope pm cd doc) L a) (slotsOf lay_divide_rows L) ("quotient" : Str) 4 := .loc rfl rfl
  have h_at : At (callEnvC (Calls.docDef (rc 34).name (rc 34).params (rc 34).body (rc 34).scope pm cd doc) L a) (slotsOf lay_divide_rows L) ("at" : Str) 5 := .loc rfl rfl
  have h_w : At (callEnvC (Calls.docDef (rc 34).name (rc 34).params (rc 34).body (rc 34).scope pm cd doc) L a) (slotsOf lay_divide_rows L) ("w" : Str) 2 := .loc rfl rfl
  have h_limb : At (callEnvC (Calls.docDef (rc 34).name (rc 34).params (rc 34).body (rc 34).scope pm cd doc) L a) (slotsOf lay_divide_rows L) ("limb" : Str) 6 := .loc rfl rfl
  exact
  (s_cons (s_asg he0 h_size (r_bcall he0 rfl (by decide) Boot.«len» ref_len (l_cons (r_name he0 h_b rfl) l_nil rfl) ⟨_, _, rfl, rfl⟩ rfl rfl) rfl)
  (s_cons (s_asg he0 h_quotient (r_bin (r_lst (l_cons r_int l_nil rfl)) (r_bin (r_bcall he0 rfl (by decide) Boot.«len» ref_len (l_cons (r_name he0 h_rest rfl) l_nil rfl) ⟨_, _, rfl, rfl⟩ rfl rfl) (r_name he0 h_size rfl))) rfl)
  (s_cons (s_for (i_val (r_tcall he0 rfl (by decide) Boot.«range» ref_range (l_cons (r_bin (r_bin (r_bcall he0 rfl (by decide) Boot.«len» ref_len (l_cons (r_name he0 h_rest rfl) l_nil rfl) ⟨_, _, rfl, rfl⟩ rfl rfl) (r_name he0 h_size rfl)) r_int) (l_cons r_negint (l_cons r_negint l_nil rfl) rfl) rfl) ⟨_, _, rfl, rfl⟩ rfl rfl)) (t_name he0 h_at) (s_cons (s_asg he0 h_limb (r_ucall hc (r_globk 23 he0 rfl hg (hn 23 ("guessed_limb" : Str) rfl) rfl) (l_cons (r_slice (r_name he0 h_rest rfl) (p_some (r_bin (r_bin (r_name he0 h_at rfl) (r_name he0 h_size rfl)) r_int)) (p_some (r_bin (r_bin (r_name he0 h_at rfl) (r_name he0 h_size rfl)) r_int)) fun _ _ => rfl) (l_cons (r_sub (op_sub fun _ _ => rfl) (r_name he0 h_b rfl) (r_bin (r_name he0 h_size rfl) r_int)) (l_cons (r_sub (op_sub fun _ _ => rfl) (r_name he0 h_b rfl) (r_bin (r_name he0 h_size rfl) r_int)) (l_cons (r_name he0 h_w rfl) l_nil rfl) rfl) rfl) rfl) ⟨_, _, rfl, rfl⟩) rfl)
    (s_cons (s_if (t_cmp (ref_cmp _) (r_ucall hc (r_globk 24 he0 rfl hg (hn 24 ("take_away" : Str) rfl) rfl) (l_cons (r_name he0 h_rest rfl) (l_cons (r_name he0 h_b rfl) (l_cons (r_name he0 h_limb rfl) (l_cons (r_name he0 h_at rfl) (l_cons (r_name he0 h_w rfl) l_nil rfl) rfl) rfl) rfl) rfl) ⟨_, _, rfl, rfl⟩) r_int rfl) (s_cons (s_aug he0 h_limb r_int rfl)
      (s_cons (s_expr (r_ucall hc (r_globk 25 he0 rfl hg (hn 25 ("put_back" : Str) rfl) rfl) (l_cons (r_name he0 h_rest rfl) (l_cons (r_name he0 h_b rfl) (l_cons (r_name he0 h_at rfl) (l_cons (r_name he0 h_w rfl) l_nil rfl) rfl) rfl) rfl) ⟨_, _, rfl, rfl⟩) rfl rfl)
      s_nil)) s_nil)
    (s_cons (s_set (r_name he0 h_quotient rfl) (r_name he0 h_at rfl) (r_name he0 h_limb rfl) rfl)
    s_nil))) tg_val fun _ => rfl)
  (s_cons (s_ret (r_name he0 h_quotient rfl))
  s_nil))))
noncomputable abbrev lay_divrem_school : List (Str × Option Nat) := [(("a" : Str), none), (("b" : Str), none), (("w" : Str), none), (("shift" : Str), none), (("divisor" : Str), none), (("rest" : Str), none), (("quotient" : Str), none)]
noncomputable abbrev ps_divrem_school : List Str := [("a" : Str), ("b" : Str), ("w" : Str)]
theorem ok_divrem_school : FnOk (rc 35) ps_divrem_school lay_divrem_school where
  bind := fun pm cd doc => len_3 fun _ _ _ => rfl
  nodup := by decide
  par := by decide
  apart := by decide
  loc := by
    repeat (refine List.forall_mem_cons.mpr ⟨by first | rfl | exact ⟨rfl, fun _ => rfl⟩, ?_⟩)
    exact fun _ h => (nomatch h)
  kind := rfl
  gen := rfl
  co := rfl
theorem ref_divrem_school {g : G} (hg : ∀ k, ∃ a, g.mg (g.gname k) = some a) (hn : ∀ k x, gnames k = x → g.gname k = x) (d : Nat) (c : CT) (hc : CallRef g d c) (pm cd doc : Value) (L a : Addr) :
    RefS g d (slotsOf lay_divrem_school L) (execs (rc 35).body (callEnvC (Calls.docDef (rc 35).name (rc 35).params (rc 35).body (rc 35).scope pm cd doc) L a)) (cd_divrem_school c) := by
  have he0 : EnvOk (callEnvC (Calls.docDef (rc 35).name (rc 35).params (rc 35).body (rc 35).scope pm cd doc) L a) := ⟨rfl, rfl, rfl⟩
  have h_b : At (callEnvC (Calls.docDef (rc 35).name (rc 35).params (rc 35).body (rc 35).scope pm cd doc) L a) (slotsOf lay_divrem_school L) ("b" : Str) 1 := .loc rfl rfl
  have h_a : At (callEnvC (Calls.docDef (rc 35).name (rc 35).params (rc 35).body (rc 35).scope pm cd doc) L a) (slotsOf lay_divrem_school L) ("a" : Str) 0 := .loc rfl rfl
  have h_w : At (callEnvC (Calls.docDef (rc 35).name (rc 35).params (rc 35).body (rc 35).scope pm cd doc) L a) (slotsOf lay_divrem_school L) ("w" : Str) 2 := .loc rfl rfl
  have h_shift : At (callEnvC (Calls.docDef (rc 35).name (rc 35).params (rc 35).body (rc 35).scope pm cd doc) L a) (slotsOf lay_divrem_school L) ("shift" : Str) 3 := .loc rfl rfl
  have h_divisor : At (callEnvC (Calls.docDef (rc 35).name (rc 35).params (rc 35).body (rc 35).scope pm cd doc) L a) (slotsOf lay_divrem_school L) ("divisor" : Str) 4 := .loc rfl rfl
  have h_rest : At (callEnvC (Calls.docDef (rc 35).name (rc 35).params (rc 35).body (rc 35).scope pm cd doc) L a) (slotsOf lay_divrem_school L) ("rest" : Str) 5 := .loc rfl rfl
  have h_quotient : At (callEnvC (Calls.docDef (rc 35).name (rc 35).params (rc 35).body (rc 35).scope pm cd doc) L a) (slotsOf lay_divrem_school L) ("quotient" : Str) 6 := .loc rfl rfl
  exact
  (s_cons (s_if (t_cmp (ref_cmp _) (r_bcall he0 rfl (by decide) Boot.«len» ref_len (l_cons (r_name he0 h_b rfl) l_nil rfl) ⟨_, _, rfl, rfl⟩ rfl rfl) r_int rfl) s_fail s_nil)
  (s_cons (s_if (t_cmp (ref_cmp _) (r_ucall hc (r_globk 2 he0 rfl hg (hn 2 ("compare" : Str) rfl) rfl) (l_cons (r_name he0 h_a rfl) (l_cons (r_name he0 h_b rfl) l_nil rfl) rfl) ⟨_, _, rfl, rfl⟩) r_int rfl) (s_cons (s_ret (r_tup (l_cons (r_lst l_nil) (l_cons (r_slice (r_name he0 h_a rfl) p_none p_none fun _ _ => rfl) l_nil rfl) rfl)))
    s_nil) s_nil)
  (s_cons (s_if (t_cmp (ref_cmp _) (r_bcall he0 rfl (by decide) Boot.«len» ref_len (l_cons (r_name he0 h_b rfl) l_nil rfl) ⟨_, _, rfl, rfl⟩ rfl rfl) r_int rfl) (s_cons (s_ret (r_ucall hc (r_globk 22 he0 rfl hg (hn 22 ("divrem_small" : Str) rfl) rfl) (l_cons (r_name he0 h_a rfl) (l_cons (r_name he0 h_b rfl) (l_cons (r_name he0 h_w rfl) l_nil rfl) rfl) rfl) ⟨_, _, rfl, rfl⟩))
    s_nil) s_nil)
  (s_cons (s_asg he0 h_shift (r_bin (r_name he0 h_w rfl) (r_ucall hc (r_globk 9 he0 rfl hg (hn 9 ("bits" : Str) rfl) rfl) (l_cons (r_lst (l_cons (r_sub (op_sub fun _ _ => rfl) (r_name he0 h_b rfl) r_negint) l_nil rfl)) (l_cons (r_name he0 h_w rfl) l_nil rfl) rfl) ⟨_, _, rfl, rfl⟩)) rfl)
  (s_cons (s_asg he0 h_divisor (r_ucall hc (r_globk 7 he0 rfl hg (hn 7 ("shift_left" : Str) rfl) rfl) (l_cons (r_name he0 h_b rfl) (l_cons (r_name he0 h_shift rfl) (l_cons (r_name he0 h_w rfl) l_nil rfl) rfl) rfl) ⟨_, _, rfl, rfl⟩) rfl)
  (s_cons (s_asg he0 h_rest (r_ucall hc (r_globk 7 he0 rfl hg (hn 7 ("shift_left" : Str) rfl) rfl) (l_cons (r_name he0 h_a rfl) (l_cons (r_name he0 h_shift rfl) (l_cons (r_name he0 h_w rfl) l_nil rfl) rfl) rfl) ⟨_, _, rfl, rfl⟩) rfl)
  (s_cons (s_asg he0 h_rest (r_bin (r_name he0 h_rest rfl) (r_bin (r_lst (l_cons r_int l_nil rfl)) (r_bin (r_bin (r_bcall he0 rfl (by decide) Boot.«len» ref_len (l_cons (r_name he0 h_a rfl) l_nil rfl) ⟨_, _, rfl, rfl⟩ rfl rfl) r_int) (r_bcall he0 rfl (by decide) Boot.«len» ref_len (l_cons (r_name he0 h_rest rfl) l_nil rfl) ⟨_, _, rfl, rfl⟩ rfl rfl)))) rfl)
  (s_cons (s_asg he0 h_quotient (r_ucall hc (r_globk 26 he0 rfl hg (hn 26 ("divide_rows" : Str) rfl) rfl) (l_cons (r_name he0 h_rest rfl) (l_cons (r_name he0 h_divisor rfl) (l_cons (r_name he0 h_w rfl) l_nil rfl) rfl) rfl) ⟨_, _, rfl, rfl⟩) rfl)
  (s_cons (s_ret (r_tup (l_cons (r_ucall hc (r_globk 0 he0 rfl hg (hn 0 ("normal" : Str) rfl) rfl) (l_cons (r_name he0 h_quotient rfl) l_nil rfl) ⟨_, _, rfl, rfl⟩) (l_cons (r_ucall hc (r_globk 8 he0 rfl hg (hn 8 ("shift_right" : Str) rfl) rfl) (l_cons (r_ucall hc (r_globk 0 he0 rfl hg (hn 0 ("normal" : Str) rfl) rfl) (l_cons (r_name he0 h_rest rfl) l_nil rfl) ⟨_, _, rfl, rfl⟩) (l_cons (r_name he0 h_shift rfl) (l_cons (r_name he0 h_w rfl) l_nil rfl) rfl) rfl) ⟨_, _, rfl, rfl⟩) l_nil rfl) rfl)))
  s_nil)))))))))
noncomputable abbrev lay_l_squared_off : List (Str × Option Nat) := [(("yard" : Str), none), (("many" : Str), none)]
noncomputable abbrev ps_l_squared_off : List Str := [("yard" : Str), ("many" : Str)]
theorem ok_l_squared_off : FnOk (rc 37) ps_l_squared_off lay_l_squared_off where
  bind := fun pm cd doc => len_2 fun _ _ => rfl
  nodup := by decide
  par := by decide
  apart := by decide
  loc := by
    repeat (refine List.forall_mem_cons.mpr ⟨by first | rfl | exact ⟨rfl, fun _ => rfl⟩, ?_⟩)
    exact fun _ h => (nomatch h)
  kind := rfl
  gen := rfl
  co := rfl
theorem ref_l_squared_off {g : G} (hg : ∀ k, ∃ a, g.mg (g.gname k) = some a) (hn : ∀ k x, gnames k = x → g.gname k = x) (d : Nat) (c : CT) (hc : CallRef g d c) (pm cd doc : Value) (L a : Addr) :
    RefS g d (slotsOf lay_l_squared_off L) (execs (rc 37).body (callEnvC (Calls.docDef (rc 37).name (rc 37).params (rc 37).body (rc 37).scope pm cd doc) L a)) (cd_l_squared_off c) := by
  have he0 : EnvOk (callEnvC (Calls.docDef (rc 37).name (rc 37).params (rc 37).body (rc 37).scope pm cd doc) L a) := ⟨rfl, rfl, rfl⟩
  have h_yard : At (callEnvC (Calls.docDef (rc 37).name (rc 37).params (rc 37).body (rc 37).scope pm cd doc) L a) (slotsOf lay_l_squared_off L) ("yard" : Str) 0 := .loc rfl rfl
  have h_many : At (callEnvC (Calls.docDef (rc 37).name (rc 37).params (rc 37).body (rc 37).scope pm cd doc) L a) (slotsOf lay_l_squared_off L) ("many" : Str) 1 := .loc rfl rfl
  exact
  (s_cons (s_set (r_name he0 h_yard rfl) r_int (r_bin (r_sub (op_sub fun _ _ => rfl) (r_name he0 h_yard rfl) r_int) r_int) rfl)
  (s_cons (s_if (t_cmp (ref_cmp _) (r_sub (op_sub fun _ _ => rfl) (r_name he0 h_yard rfl) r_int) (r_bcall he0 rfl (by decide) Boot.«len» ref_len (l_cons (r_sub (op_sub fun _ _ => rfl) (r_name he0 h_yard rfl) r_int) l_nil rfl) ⟨_, _, rfl, rfl⟩ rfl rfl) rfl) (s_cons (s_ret (r_bin (r_sub (op_sub fun _ _ => rfl) (r_sub (op_sub fun _ _ => rfl) (r_name he0 h_yard rfl) r_int) (r_bin (r_sub (op_sub fun _ _ => rfl) (r_name he0 h_yard rfl) r_int) r_int)) (r_name he0 h_many rfl)))
    s_nil) s_nil)
  (s_cons (s_ret (r_bin (r_bin (r_bin (r_bin r_int (r_sub (op_sub fun _ _ => rfl) (r_name he0 h_yard rfl) r_int)) (r_bin (r_sub (op_sub fun _ _ => rfl) (r_name he0 h_yard rfl) r_int) r_int)) r_int) (r_name he0 h_many rfl)))
  s_nil)))
noncomputable abbrev lay_l_limbs : List (Str × Option Nat) := [(("number" : Str), none), (("w" : Str), none), (("found" : Str), none)]
noncomputable abbrev ps_l_limbs : List Str := [("number" : Str), ("w" : Str)]
theorem ok_l_limbs : FnOk (rc 38) ps_l_limbs lay_l_limbs where
  bind := fun pm cd doc => len_2 fun _ _ => rfl
  nodup := by decide
  par := by decide
  apart := by decide
  loc := by
    repeat (refine List.forall_mem_cons.mpr ⟨by first | rfl | exact ⟨rfl, fun _ => rfl⟩, ?_⟩)
    exact fun _ h => (nomatch h)
  kind := rfl
  gen := rfl
  co := rfl
theorem ref_l_limbs {g : G} (hg : ∀ k, ∃ a, g.mg (g.gname k) = some a) (hn : ∀ k x, gnames k = x → g.gname k = x) (d : Nat) (c : CT) (hc : CallRef g d c) (pm cd doc : Value) (L a : Addr) :
    RefS g d (slotsOf lay_l_limbs L) (execs (rc 38).body (callEnvC (Calls.docDef (rc 38).name (rc 38).params (rc 38).body (rc 38).scope pm cd doc) L a)) (cd_l_limbs c) := by
  have he0 : EnvOk (callEnvC (Calls.docDef (rc 38).name (rc 38).params (rc 38).body (rc 38).scope pm cd doc) L a) := ⟨rfl, rfl, rfl⟩
  have h_found : At (callEnvC (Calls.docDef (rc 38).name (rc 38).params (rc 38).body (rc 38).scope pm cd doc) L a) (slotsOf lay_l_limbs L) ("found" : Str) 2 := .loc rfl rfl
  have h_number : At (callEnvC (Calls.docDef (rc 38).name (rc 38).params (rc 38).body (rc 38).scope pm cd doc) L a) (slotsOf lay_l_limbs L) ("number" : Str) 0 := .loc rfl rfl
  have h_w : At (callEnvC (Calls.docDef (rc 38).name (rc 38).params (rc 38).body (rc 38).scope pm cd doc) L a) (slotsOf lay_l_limbs L) ("w" : Str) 1 := .loc rfl rfl
  exact
  (s_cons (s_asg he0 h_found (r_lst l_nil) rfl)
  (s_cons (s_while (t_cmp (ref_cmp _) (r_name he0 h_number rfl) r_int rfl) (s_cons (s_expr (r_app (r_name he0 h_found rfl) (r_bin (r_name he0 h_number rfl) (r_bin r_int (r_name he0 h_w rfl))) rfl rfl rfl) rfl rfl)
    (s_cons (s_asg he0 h_number (r_bin (r_name he0 h_number rfl) (r_bin r_int (r_name he0 h_w rfl))) rfl)
    s_nil)))
  (s_cons (s_ret (r_name he0 h_found rfl))
  s_nil)))
noncomputable abbrev lay_l_signed : List (Str × Option Nat) := [(("number" : Str), none), (("w" : Str), none)]
noncomputable abbrev ps_l_signed : List Str := [("number" : Str), ("w" : Str)]
theorem ok_l_signed : FnOk (rc 39) ps_l_signed lay_l_signed where
  bind := fun pm cd doc => len_2 fun _ _ => rfl
  nodup := by decide
  par := by decide
  apart := by decide
  loc := by
    repeat (refine List.forall_mem_cons.mpr ⟨by first | rfl | exact ⟨rfl, fun _ => rfl⟩, ?_⟩)
    exact fun _ h => (nomatch h)
  kind := rfl
  gen := rfl
  co := rfl
theorem ref_l_signed {g : G} (hg : ∀ k, ∃ a, g.mg (g.gname k) = some a) (hn : ∀ k x, gnames k = x → g.gname k = x) (d : Nat) (c : CT) (hc : CallRef g d c) (pm cd doc : Value) (L a : Addr) :
    RefS g d (slotsOf lay_l_signed L) (execs (rc 39).body (callEnvC (Calls.docDef (rc 39).name (rc 39).params (rc 39).body (rc 39).scope pm cd doc) L a)) (cd_l_signed c) := by
  have he0 : EnvOk (callEnvC (Calls.docDef (rc 39).name (rc 39).params (rc 39).body (rc 39).scope pm cd doc) L a) := ⟨rfl, rfl, rfl⟩
  have h_number : At (callEnvC (Calls.docDef (rc 39).name (rc 39).params (rc 39).body (rc 39).scope pm cd doc) L a) (slotsOf lay_l_signed L) ("number" : Str) 0 := .loc rfl rfl
  have h_w : At (callEnvC (Calls.docDef (rc 39).name (rc 39).params (rc 39).body (rc 39).scope pm cd doc) L a) (slotsOf lay_l_signed L) ("w" : Str) 1 := .loc rfl rfl
  exact
  (s_cons (s_ret (r_tup (l_cons (r_cmp (ref_cmp _) (r_name he0 h_number rfl) r_int rfl) (l_cons (r_ucall hc (r_globk 29 he0 rfl hg (hn 29 ("_law_limbs" : Str) rfl) rfl) (l_cons (r_bcall he0 rfl (by decide) Boot.«abs» ref_abs (l_cons (r_name he0 h_number rfl) l_nil rfl) ⟨_, _, rfl, rfl⟩ rfl rfl) (l_cons (r_name he0 h_w rfl) l_nil rfl) rfl) ⟨_, _, rfl, rfl⟩) l_nil rfl) rfl)))
  s_nil)
noncomputable abbrev lay_l_times : List (Str × Option Nat) := [(("x" : Str), none), (("y" : Str), none), (("w" : Str), none)]
noncomputable abbrev ps_l_times : List Str := [("x" : Str), ("y" : Str), ("w" : Str)]
theorem ok_l_times : FnOk (rc 40) ps_l_times lay_l_times where
  bind := fun pm cd doc => len_3 fun _ _ _ => rfl
  nodup := by decide
  par := by decide
  apart := by decide
  loc := by
    repeat (refine List.forall_mem_cons.mpr ⟨by first | rfl | exact ⟨rfl, fun _ => rfl⟩, ?_⟩)
    exact fun _ h => (nomatch h)
  kind := rfl
  gen := rfl
  co := rfl
theorem ref_l_times {g : G} (hg : ∀ k, ∃ a, g.mg (g.gname k) = some a) (hn : ∀ k x, gnames k = x → g.gname k = x) (d : Nat) (c : CT) (hc : CallRef g d c) (pm cd doc : Value) (L a : Addr) :
    RefS g d (slotsOf lay_l_times L) (execs (rc 40).body (callEnvC (Calls.docDef (rc 40).name (rc 40).params (rc 40).body (rc 40).scope pm cd doc) L a)) (cd_l_times c) := by
  have he0 : EnvOk (callEnvC (Calls.docDef (rc 40).name (rc 40).params (rc 40).body (rc 40).scope pm cd doc) L a) := ⟨rfl, rfl, rfl⟩
  have h_x : At (callEnvC (Calls.docDef (rc 40).name (rc 40).params (rc 40).body (rc 40).scope pm cd doc) L a) (slotsOf lay_l_times L) ("x" : Str) 0 := .loc rfl rfl
  have h_y : At (callEnvC (Calls.docDef (rc 40).name (rc 40).params (rc 40).body (rc 40).scope pm cd doc) L a) (slotsOf lay_l_times L) ("y" : Str) 1 := .loc rfl rfl
  have h_w : At (callEnvC (Calls.docDef (rc 40).name (rc 40).params (rc 40).body (rc 40).scope pm cd doc) L a) (slotsOf lay_l_times L) ("w" : Str) 2 := .loc rfl rfl
  exact
  (s_cons (s_ret (r_ucall hc (r_globk 15 he0 rfl hg (hn 15 ("s_mul" : Str) rfl) rfl) (l_cons (r_name he0 h_x rfl) (l_cons (r_name he0 h_y rfl) (l_cons (r_name he0 h_w rfl) (l_cons (r_globk 21 he0 rfl hg (hn 21 ("mul_school" : Str) rfl) rfl) l_nil rfl) rfl) rfl) rfl) ⟨_, _, rfl, rfl⟩))
  s_nil)
noncomputable abbrev lay_l_squares : List (Str × Option Nat) := [(("row" : Str), none), (("w" : Str), none), (("found" : Str), none), (("one" : Str), none)]
noncomputable abbrev ps_l_squares : List Str := [("row" : Str), ("w" : Str)]
theorem ok_l_squares : FnOk (rc 41) ps_l_squares lay_l_squares where
  bind := fun pm cd doc => len_2 fun _ _ => rfl
  nodup := by decide
  par := by decide
  apart := by decide
  loc := by
    repeat (refine List.forall_mem_cons.mpr ⟨by first | rfl | exact ⟨rfl, fun _ => rfl⟩, ?_⟩)
    exact fun _ h => (nomatch h)
  kind := rfl
  gen := rfl
  co := rfl
theorem ref_l_squares {g : G} (hg : ∀ k, ∃ a, g.mg (g.gname k) = some a) (hn : ∀ k x, gnames k = x → g.gname k = x) (d : Nat) (c : CT) (hc : CallRef g d c) (pm cd doc : Value) (L a : Addr) :
    RefS g d (slotsOf lay_l_squares L) (execs (rc 41).body (callEnvC (Calls.docDef (rc 41).name (rc 41).params (rc 41).body (rc 41).scope pm cd doc) L a)) (cd_l_squares c) := by
  have he0 : EnvOk (callEnvC (Calls.docDef (rc 41).name (rc 41).params (rc 41).body (rc 41).scope pm cd doc) L a) := ⟨rfl, rfl, rfl⟩
  have h_found : At (callEnvC (Calls.docDef (rc 41).name (rc 41).params (rc 41).body (rc 41).scope pm cd doc) L a) (slotsOf lay_l_squares L) ("found" : Str) 2 := .loc rfl rfl
  have h_one : At (callEnvC (Calls.docDef (rc 41).name (rc 41).params (rc 41).body (rc 41).scope pm cd doc) L a) (slotsOf lay_l_squares L) ("one" : Str) 3 := .loc rfl rfl
  have h_w : At (callEnvC (Calls.docDef (rc 41).name (rc 41).params (rc 41).body (rc 41).scope pm cd doc) L a) (slotsOf lay_l_squares L) ("w" : Str) 1 := .loc rfl rfl
  have h_row : At (callEnvC (Calls.docDef (rc 41).name (rc 41).params (rc 41).body (rc 41).scope pm cd doc) L a) (slotsOf lay_l_squares L) ("row" : Str) 0 := .loc rfl rfl
  exact
  (s_cons (s_asg he0 h_found (r_frz (r_tup (l_cons r_bool (l_cons (r_lst l_nil) l_nil rfl) rfl))) rfl)
  (s_cons (s_for (i_val (r_name he0 h_row rfl)) (t_name he0 h_one) (s_cons (s_asg he0 h_found (r_ucall hc (r_globk 13 he0 rfl hg (hn 13 ("s_add" : Str) rfl) rfl) (l_cons (r_name he0 h_found rfl) (l_cons (r_ucall hc (r_globk 31 he0 rfl hg (hn 31 ("_law_times" : Str) rfl) rfl) (l_cons (r_name he0 h_one rfl) (l_cons (r_name he0 h_one rfl) (l_cons (r_name he0 h_w rfl) l_nil rfl) rfl) rfl) ⟨_, _, rfl, rfl⟩) (l_cons (r_name he0 h_w rfl) l_nil rfl) rfl) rfl) ⟨_, _, rfl, rfl⟩) rfl)
    s_nil) tg_val fun _ => rfl)
  (s_cons (s_ret (r_name he0 h_found rfl))
  s_nil)))
noncomputable abbrev lay_l_four : List (Str × Option Nat) := [(("one" : Str), none), (("other" : Str), none), (("w" : Str), none), (("a" : Str), none), (("b" : Str), none), (("c" : Str), none), (("d" : Str), none), (("e" : Str), none), (("f" : Str), none), (("g" : Str), none), (("h" : Str), none), (("found" : Str), none), (("x" : Str), none), (("y" : Str), none), (("row" : Str), none), (("p" : Str), none), (("q" : Str), none), (("r" : Str), none), (("s" : Str), none), (("t" : Str), none), (("u" : Str), none), (("left" : Str), none)]
noncomputable abbrev ps_l_four : List Str := [("one" : Str), ("other" : Str), ("w" : Str)]
theorem ok_l_four : FnOk (rc 42) ps_l_four lay_l_four where
  bind := fun pm cd doc => len_3 fun _ _ _ => rfl
  nodup := by decide
  par := by decide
  apart := by decide
  loc := by
    repeat (refine List.forall_mem_cons.mpr ⟨by first | rfl | exact ⟨rfl, fun _ => rfl⟩, ?_⟩)
    exact fun _ h => (nomatch h)
  kind := rfl
  gen := rfl
  co := rfl
theorem ref_l_four {g : G} (hg : ∀ k, ∃ a, g.mg (g.gname k) = some a) (hn : ∀ k x, gnames k = x → g.gname k = x) (d : Nat) (c : CT) (hc : CallRef g d c) (pm cd doc : Value) (L a : Addr) :
    RefS g d (slotsOf lay_l_four L) (execs (rc 42).body (callEnvC (Calls.docDef (rc 42).name (rc 42).params (rc 42).body (rc 42).scope pm cd doc) L a)) (cd_l_four c) := by
  have he0 : EnvOk (callEnvC (Calls.docDef (rc 42).name (rc 42).params (rc 42).body (rc 42).scope pm cd doc) L a) := ⟨rfl, rfl, rfl⟩
  have h_one : At (callEnvC (Calls.docDef (rc 42).name (rc 42).params (rc 42).body (rc 42).scope pm cd doc) L a) (slotsOf lay_l_four L) ("one" : Str) 0 := .loc rfl rfl
  have h_d : At (callEnvC (Calls.docDef (rc 42).name (rc 42).params (rc 42).body (rc 42).scope pm cd doc) L a) (slotsOf lay_l_four L) ("d" : Str) 6 := .loc rfl rfl
  have h_c : At (callEnvC (Calls.docDef (rc 42).name (rc 42).params (rc 42).body (rc 42).scope pm cd doc) L a) (slotsOf lay_l_four L) ("c" : Str) 5 := .loc rfl rfl
  have h_b : At (callEnvC (Calls.docDef (rc 42).name (rc 42).params (rc 42).body (rc 42).scope pm cd doc) L a) (slotsOf lay_l_four L) ("b" : Str) 4 := .loc rfl rfl
  have h_a : At (callEnvC (Calls.docDef (rc 42).name (rc 42).params (rc 42).body (rc 42).scope pm cd doc) L a) (slotsOf lay_l_four L) ("a" : Str) 3 := .loc rfl rfl
  have h_other : At (callEnvC (Calls.docDef (rc 42).name (rc 42).params (rc 42).body (rc 42).scope pm cd doc) L a) (slotsOf lay_l_four L) ("other" : Str) 1 := .loc rfl rfl
  have h_h : At (callEnvC (Calls.docDef (rc 42).name (rc 42).params (rc 42).body (rc 42).scope pm cd doc) L a) (slotsOf lay_l_four L) ("h" : Str) 10 := .loc rfl rfl
  have h_g : At (callEnvC (Calls.docDef (rc 42).name (rc 42).params (rc 42).body (rc 42).scope pm cd doc) L a) (slotsOf lay_l_four L) ("g" : Str) 9 := .loc rfl rfl
  have h_f : At (callEnvC (Calls.docDef (rc 42).name (rc 42).params (rc 42).body (rc 42).scope pm cd doc) L a) (slotsOf lay_l_four L) ("f" : Str) 8 := .loc rfl rfl
  have h_e : At (callEnvC (Calls.docDef (rc 42).name (rc 42).params (rc 42).body (rc 42).scope pm cd doc) L a) (slotsOf lay_l_four L) ("e" : Str) 7 := .loc rfl rfl
  have h_found : At (callEnvC (Calls.docDef (rc 42).name (rc 42).params (rc 42).body (rc 42).scope pm cd doc) L a) (slotsOf lay_l_four L) ("found" : Str) 11 := .loc rfl rfl
  have h_x : At (callEnvC (Calls.docDef (rc 42).name (rc 42).params (rc 42).body (rc 42).scope pm cd doc) L a) (slotsOf lay_l_four L) ("x" : Str) 12 := .loc rfl rfl
  have h_y : At (callEnvC (Calls.docDef (rc 42).name (rc 42).params (rc 42).body (rc 42).scope pm cd doc) L a) (slotsOf lay_l_four L) ("y" : Str) 13 := .loc rfl rfl
  have h_w : At (callEnvC (Calls.docDef (rc 42).name (rc 42).params (rc 42).body (rc 42).scope pm cd doc) L a) (slotsOf lay_l_four L) ("w" : Str) 2 := .loc rfl rfl
  have h_row : At (callEnvC (Calls.docDef (rc 42).name (rc 42).params (rc 42).body (rc 42).scope pm cd doc) L a) (slotsOf lay_l_four L) ("row" : Str) 14 := .loc rfl rfl
  have h_p : At (callEnvC (Calls.docDef (rc 42).name (rc 42).params (rc 42).body (rc 42).scope pm cd doc) L a) (slotsOf lay_l_four L) ("p" : Str) 15 := .loc rfl rfl
  have h_q : At (callEnvC (Calls.docDef (rc 42).name (rc 42).params (rc 42).body (rc 42).scope pm cd doc) L a) (slotsOf lay_l_four L) ("q" : Str) 16 := .loc rfl rfl
  have h_r : At (callEnvC (Calls.docDef (rc 42).name (rc 42).params (rc 42).body (rc 42).scope pm cd doc) L a) (slotsOf lay_l_four L) ("r" : Str) 17 := .loc rfl rfl
  have h_s : At (callEnvC (Calls.docDef (rc 42).name (rc 42).params (rc 42).body (rc 42).scope pm cd doc) L a) (slotsOf lay_l_four L) ("s" : Str) 18 := .loc rfl rfl
  have h_left : At (callEnvC (Calls.docDef (rc 42).name (rc 42).params (rc 42).body (rc 42).scope pm cd doc) L a) (slotsOf lay_l_four L) ("left" : Str) 21 := .loc rfl rfl
  have h_t : At (callEnvC (Calls.docDef (rc 42).name (rc 42).params (rc 42).body (rc 42).scope pm cd doc) L a) (slotsOf lay_l_four L) ("t" : Str) 19 := .loc rfl rfl
  have h_u : At (callEnvC (Calls.docDef (rc 42).name (rc 42).params (rc 42).body (rc 42).scope pm cd doc) L a) (slotsOf lay_l_four L) ("u" : Str) 20 := .loc rfl rfl
  exact
  (s_cons (s_unp he0 (.cons (.cons (.cons (.cons .nil)))) (.cons h_a (.cons h_b (.cons h_c (.cons h_d AtAll.nil)))) (r_name he0 h_one rfl) rfl rfl)
  (s_cons (s_unp he0 (.cons (.cons (.cons (.cons .nil)))) (.cons h_e (.cons h_f (.cons h_g (.cons h_h AtAll.nil)))) (r_name he0 h_other rfl) rfl rfl)
  (s_cons (s_asg he0 h_found (r_frz (r_tup (l_cons r_bool (l_cons (r_lst l_nil) l_nil rfl) rfl))) rfl)
  (s_cons (s_for (i_zip he0 rfl (r_name he0 h_one rfl) (r_name he0 h_other rfl) rfl rfl rfl) (t_tuple he0 (.cons (.cons .nil)) (.cons h_x (.cons h_y AtAll.nil))) (s_cons (s_asg he0 h_found (r_ucall hc (r_globk 13 he0 rfl hg (hn 13 ("s_add" : Str) rfl) rfl) (l_cons (r_name he0 h_found rfl) (l_cons (r_ucall hc (r_globk 31 he0 rfl hg (hn 31 ("_law_times" : Str) rfl) rfl) (l_cons (r_name he0 h_x rfl) (l_cons (r_name he0 h_y rfl) (l_cons (r_name he0 h_w rfl) l_nil rfl) rfl) rfl) ⟨_, _, rfl, rfl⟩) (l_cons (r_name he0 h_w rfl) l_nil rfl) rfl) rfl) ⟨_, _, rfl, rfl⟩) rfl)
    s_nil) tg_tup fun _ => rfl)
  (s_cons (s_asg he0 h_row (r_lst (l_cons (r_name he0 h_found rfl) l_nil rfl)) rfl)
  (s_cons (s_for (i_val (r_tup (l_cons (r_tup (l_cons (r_name he0 h_a rfl) (l_cons (r_name he0 h_f rfl) (l_cons (r_name he0 h_b rfl) (l_cons (r_name he0 h_e rfl) (l_cons (r_name he0 h_c rfl) (l_cons (r_name he0 h_h rfl) (l_cons (r_name he0 h_d rfl) (l_cons (r_name he0 h_g rfl) l_nil rfl) rfl) rfl) rfl) rfl) rfl) rfl) rfl)) (l_cons (r_tup (l_cons (r_name he0 h_a rfl) (l_cons (r_name he0 h_g rfl) (l_cons (r_name he0 h_c rfl) (l_cons (r_name he0 h_e rfl) (l_cons (r_name he0 h_d rfl) (l_cons (r_name he0 h_f rfl) (l_cons (r_name he0 h_b rfl) (l_cons (r_name he0 h_h rfl) l_nil rfl) rfl) rfl) rfl) rfl) rfl) rfl) rfl)) (l_cons (r_tup (l_cons (r_name he0 h_a rfl) (l_cons (r_name he0 h_h rfl) (l_cons (r_name he0 h_d rfl) (l_cons (r_name he0 h_e rfl) (l_cons (r_name he0 h_b rfl) (l_cons (r_name he0 h_g rfl) (l_cons (r_name he0 h_c rfl) (l_cons (r_name he0 h_f rfl) l_nil rfl) rfl) rfl) rfl) rfl) rfl) rfl) rfl)) l_nil rfl) rfl) rfl))) (t_tuple he0 (.cons (.cons (.cons (.cons (.cons (.cons (.cons (.cons .nil)))))))) (.cons h_p (.cons h_q (.cons h_r (.cons h_s (.cons h_t (.cons h_u (.cons h_x (.cons h_y AtAll.nil))))))))) (s_cons (s_asg he0 h_left (r_ucall hc (r_globk 14 he0 rfl hg (hn 14 ("s_sub" : Str) rfl) rfl) (l_cons (r_ucall hc (r_globk 31 he0 rfl hg (hn 31 ("_law_times" : Str) rfl) rfl) (l_cons (r_name he0 h_p rfl) (l_cons (r_name he0 h_q rfl) (l_cons (r_name he0 h_w rfl) l_nil rfl) rfl) rfl) ⟨_, _, rfl, rfl⟩) (l_cons (r_ucall hc (r_globk 31 he0 rfl hg (hn 31 ("_law_times" : Str) rfl) rfl) (l_cons (r_name he0 h_r rfl) (l_cons (r_name he0 h_s rfl) (l_cons (r_name he0 h_w rfl) l_nil rfl) rfl) rfl) ⟨_, _, rfl, rfl⟩) (l_cons (r_name he0 h_w rfl) l_nil rfl) rfl) rfl) ⟨_, _, rfl, rfl⟩) rfl)
    (s_cons (s_expr (r_app (r_name he0 h_row rfl) (r_ucall hc (r_globk 13 he0 rfl hg (hn 13 ("s_add" : Str) rfl) rfl) (l_cons (r_name he0 h_left rfl) (l_cons (r_ucall hc (r_globk 14 he0 rfl hg (hn 14 ("s_sub" : Str) rfl) rfl) (l_cons (r_ucall hc (r_globk 31 he0 rfl hg (hn 31 ("_law_times" : Str) rfl) rfl) (l_cons (r_name he0 h_t rfl) (l_cons (r_name he0 h_u rfl) (l_cons (r_name he0 h_w rfl) l_nil rfl) rfl) rfl) ⟨_, _, rfl, rfl⟩) (l_cons (r_ucall hc (r_globk 31 he0 rfl hg (hn 31 ("_law_times" : Str) rfl) rfl) (l_cons (r_name he0 h_x rfl) (l_cons (r_name he0 h_y rfl) (l_cons (r_name he0 h_w rfl) l_nil rfl) rfl) rfl) ⟨_, _, rfl, rfl⟩) (l_cons (r_name he0 h_w rfl) l_nil rfl) rfl) rfl) ⟨_, _, rfl, rfl⟩) (l_cons (r_name he0 h_w rfl) l_nil rfl) rfl) rfl) ⟨_, _, rfl, rfl⟩) rfl rfl rfl) rfl rfl)
    s_nil)) tg_tup fun _ => rfl)
  (s_cons (s_ret (r_name he0 h_row rfl))
  s_nil)))))))
noncomputable abbrev lay_l_halved : List (Str × Option Nat) := [(("row" : Str), none), (("w" : Str), none), (("odd" : Str), none), (("found" : Str), none), (("one" : Str), none), (("other" : Str), none)]
noncomputable abbrev ps_l_halved : List Str := [("row" : Str), ("w" : Str)]
theorem ok_l_halved : FnOk (rc 43) ps_l_halved lay_l_halved where
  bind := fun pm cd doc => len_2 fun _ _ => rfl
  nodup := by decide
  par := by decide
  apart := by decide
  loc := by
    repeat (refine List.forall_mem_cons.mpr ⟨by first | rfl | exact ⟨rfl, fun _ => rfl⟩, ?_⟩)
    exact fun _ h => (nomatch h)
  kind := rfl
  gen := rfl
  co := rfl
theorem ref_l_halved {g : G} (hg : ∀ k, ∃ a, g.mg (g.gname k) = some a) (hn : ∀ k x, gnames k = x → g.gname k = x) (d : Nat) (c : CT) (hc : CallRef g d c) (pm cd doc : Value) (L a : Addr) :
    RefS g d (slotsOf lay_l_halved L) (execs (rc 43).body (callEnvC (Calls.docDef (rc 43).name (rc 43).params (rc 43).body (rc 43).scope pm cd doc) L a)) (cd_l_halved c) := by
  have he0 : EnvOk (callEnvC (Calls.docDef (rc 43).name (rc 43).params (rc 43).body (rc 43).scope pm cd doc) L a) := ⟨rfl, rfl, rfl⟩
  have h_row : At (callEnvC (Calls.docDef (rc 43).name (rc 43).params (rc 43).body (rc 43).scope pm cd doc) L a) (slotsOf lay_l_halved L) ("row" : Str) 0 := .loc rfl rfl
  have h_odd : At (callEnvC (Calls.docDef (rc 43).name (rc 43).params (rc 43).body (rc 43).scope pm cd doc) L a) (slotsOf lay_l_halved L) ("odd" : Str) 2 := .loc rfl rfl
  have h_found : At (callEnvC (Calls.docDef (rc 43).name (rc 43).params (rc 43).body (rc 43).scope pm cd doc) L a) (slotsOf lay_l_halved L) ("found" : Str) 3 := .loc rfl rfl
  have h_one : At (callEnvC (Calls.docDef (rc 43).name (rc 43).params (rc 43).body (rc 43).scope pm cd doc) L a) (slotsOf lay_l_halved L) ("one" : Str) 4 := .loc rfl rfl
  have h_other : At (callEnvC (Calls.docDef (rc 43).name (rc 43).params (rc 43).body (rc 43).scope pm cd doc) L a) (slotsOf lay_l_halved L) ("other" : Str) 5 := .loc rfl rfl
  have h_w : At (callEnvC (Calls.docDef (rc 43).name (rc 43).params (rc 43).body (rc 43).scope pm cd doc) L a) (slotsOf lay_l_halved L) ("w" : Str) 1 := .loc rfl rfl
  exact
  (s_cons (s_comp he0 rfl rfl h_odd (by decide) rfl (by decide) rfl (r_name he0 h_row rfl) (fun C1 => (tests_1 (t_and (t_cmp (ref_cmp _) (r_bcall (comp_env rfl he0) rfl (by decide) Boot.«len» ref_len (l_cons (r_sub (op_sub fun _ _ => rfl) (r_name (comp_env rfl he0) (.loc rfl rfl) rfl) r_int) l_nil rfl) ⟨_, _, rfl, rfl⟩ rfl rfl) r_int rfl) (t_cmp (ref_cmp _) (r_bin (r_sub (op_sub fun _ _ => rfl) (r_sub (op_sub fun _ _ => rfl) (r_name (comp_env rfl he0) (.loc rfl rfl) rfl) r_int) r_int) r_int) r_int rfl)))) (fun C1 => (r_name (comp_env rfl he0) (.loc rfl rfl) rfl)) fun _ => rfl)
  (s_cons (s_swp he0 (.cons h_row (.cons h_found AtAll.nil)) (r_tup (l_cons (r_bin (r_name he0 h_odd rfl) (r_frz (r_comp he0 rfl (by decide) rfl (by decide) rfl (r_name he0 h_row rfl) (fun C1 => (tests_1 (t_or (t_cmp (ref_cmp _) (r_bcall (comp_env rfl he0) rfl (by decide) Boot.«len» ref_len (l_cons (r_sub (op_sub fun _ _ => rfl) (r_name (comp_env rfl he0) (.loc rfl rfl) rfl) r_int) l_nil rfl) ⟨_, _, rfl, rfl⟩ rfl rfl) r_int rfl) (t_cmp (ref_cmp _) (r_bin (r_sub (op_sub fun _ _ => rfl) (r_sub (op_sub fun _ _ => rfl) (r_name (comp_env rfl he0) (.loc rfl rfl) rfl) r_int) r_int) r_int) r_int rfl)))) (fun C1 => (r_name (comp_env rfl he0) (.loc rfl rfl) rfl)) fun _ => rfl))) (l_cons (r_lst l_nil) l_nil rfl) rfl)) rfl rfl)
  (s_cons (s_for (i_val (r_tup (l_cons (r_tup (l_cons (r_sub (op_sub fun _ _ => rfl) (r_name he0 h_row rfl) r_int) (l_cons (r_sub (op_sub fun _ _ => rfl) (r_name he0 h_row rfl) r_int) l_nil rfl) rfl)) (l_cons (r_tup (l_cons (r_sub (op_sub fun _ _ => rfl) (r_name he0 h_row rfl) r_int) (l_cons (r_sub (op_sub fun _ _ => rfl) (r_name he0 h_row rfl) r_int) l_nil rfl) rfl)) l_nil rfl) rfl))) (t_tuple he0 (.cons (.cons .nil)) (.cons h_one (.cons h_other AtAll.nil))) (s_cons (s_expr (r_ext (r_name he0 h_found rfl) (r_lst (l_cons (r_ucall hc (r_globk 16 he0 rfl hg (hn 16 ("s_half" : Str) rfl) rfl) (l_cons (r_ucall hc (r_globk 13 he0 rfl hg (hn 13 ("s_add" : Str) rfl) rfl) (l_cons (r_name he0 h_one rfl) (l_cons (r_name he0 h_other rfl) (l_cons (r_name he0 h_w rfl) l_nil rfl) rfl) rfl) ⟨_, _, rfl, rfl⟩) (l_cons (r_name he0 h_w rfl) l_nil rfl) rfl) ⟨_, _, rfl, rfl⟩) (l_cons (r_ucall hc (r_globk 16 he0 rfl hg (hn 16 ("s_half" : Str) rfl) rfl) (l_cons (r_ucall hc (r_globk 14 he0 rfl hg (hn 14 ("s_sub" : Str) rfl) rfl) (l_cons (r_name he0 h_one rfl) (l_cons (r_name he0 h_other rfl) (l_cons (r_name he0 h_w rfl) l_nil rfl) rfl) rfl) ⟨_, _, rfl, rfl⟩) (l_cons (r_name he0 h_w rfl) l_nil rfl) rfl) ⟨_, _, rfl, rfl⟩) l_nil rfl) rfl)) rfl rfl rfl) rfl rfl)
    s_nil) tg_tup fun _ => rfl)
  (s_cons (s_ret (r_name he0 h_found rfl))
  s_nil))))
noncomputable abbrev lay_l_step : List (Str × Option Nat) := [(("row" : Str), none), (("many" : Str), none), (("w" : Str), none), (("odd" : Str), none), (("rests" : Str), none), (("found" : Str), none), (("one" : Str), none), (("quotient" : Str), none), (("rest" : Str), none)]
noncomputable abbrev ps_l_step : List Str := [("row" : Str), ("many" : Str), ("w" : Str)]
theorem ok_l_step : FnOk (rc 44) ps_l_step lay_l_step where
  bind := fun pm cd doc => len_3 fun _ _ _ => rfl
  nodup := by decide
  par := by decide
  apart := by decide
  loc := by
    repeat (refine List.forall_mem_cons.mpr ⟨by first | rfl | exact ⟨rfl, fun _ => rfl⟩, ?_⟩)
    exact fun _ h => (nomatch h)
  kind := rfl
  gen := rfl
  co := rfl
theorem ref_l_step {g : G} (hg : ∀ k, ∃ a, g.mg (g.gname k) = some a) (hn : ∀ k x, gnames k = x → g.gname k = x) (d : Nat) (c : CT) (hc : CallRef g d c) (pm cd doc : Value) (L a : Addr) :
    RefS g d (slotsOf lay_l_step L) (execs (rc 44).body (callEnvC (Calls.docDef (rc 44).name (rc 44).params (rc 44).body (rc 44).scope pm cd doc) L a)) (cd_l_step c) := by
  have he0 : EnvOk (callEnvC (Calls.docDef (rc 44).name (rc 44).params (rc 44).body (rc 44).scope pm cd doc) L a) := ⟨rfl, rfl, rfl⟩
  have h_many : At (callEnvC (Calls.docDef (rc 44).name (rc 44).params (rc 44).body (rc 44).scope pm cd doc) L a) (slotsOf lay_l_step L) ("many" : Str) 1 := .loc rfl rfl
  have h_w : At (callEnvC (Calls.docDef (rc 44).name (rc 44).params (rc 44).body (rc 44).scope pm cd doc) L a) (slotsOf lay_l_step L) ("w" : Str) 2 := .loc rfl rfl
  have h_found : At (callEnvC (Calls.docDef (rc 44).name (rc 44).params (rc 44).body (rc 44).scope pm cd doc) L a) (slotsOf lay_l_step L) ("found" : Str) 5 := .loc rfl rfl
  have h_rests : At (callEnvC (Calls.docDef (rc 44).name (rc 44).params (rc 44).body (rc 44).scope pm cd doc) L a) (slotsOf lay_l_step L) ("rests" : Str) 4 := .loc rfl rfl
  have h_odd : At (callEnvC (Calls.docDef (rc 44).name (rc 44).params (rc 44).body (rc 44).scope pm cd doc) L a) (slotsOf lay_l_step L) ("odd" : Str) 3 := .loc rfl rfl
  have h_one : At (callEnvC (Calls.docDef (rc 44).name (rc 44).params (rc 44).body (rc 44).scope pm cd doc) L a) (slotsOf lay_l_step L) ("one" : Str) 6 := .loc rfl rfl
  have h_row : At (callEnvC (Calls.docDef (rc 44).name (rc 44).params (rc 44).body (rc 44).scope pm cd doc) L a) (slotsOf lay_l_step L) ("row" : Str) 0 := .loc rfl rfl
  have h_rest : At (callEnvC (Calls.docDef (rc 44).name (rc 44).params (rc 44).body (rc 44).scope pm cd doc) L a) (slotsOf lay_l_step L) ("rest" : Str) 8 := .loc rfl rfl
  have h_quotient : At (callEnvC (Calls.docDef (rc 44).name (rc 44).params (rc 44).body (rc 44).scope pm cd doc) L a) (slotsOf lay_l_step L) ("quotient" : Str) 7 := .loc rfl rfl
  exact
  (s_cons (s_swp he0 (.cons h_odd (.cons h_rests (.cons h_found AtAll.nil))) (r_tup (l_cons (r_tup (l_cons r_bool (l_cons (r_ucall hc (r_globk 29 he0 rfl hg (hn 29 ("_law_limbs" : Str) rfl) rfl) (l_cons (r_name he0 h_many rfl) (l_cons (r_name he0 h_w rfl) l_nil rfl) rfl) ⟨_, _, rfl, rfl⟩) l_nil rfl) rfl)) (l_cons (r_lst l_nil) (l_cons (r_lst l_nil) l_nil rfl) rfl) rfl)) rfl rfl)
  (s_cons (s_for (i_val (r_name he0 h_row rfl)) (t_name he0 h_one) (s_cons (s_expr (r_app (r_name he0 h_rests rfl) (r_ucall hc (r_globk 14 he0 rfl hg (hn 14 ("s_sub" : Str) rfl) rfl) (l_cons (r_name he0 h_one rfl) (l_cons (r_ucall hc (r_globk 31 he0 rfl hg (hn 31 ("_law_times" : Str) rfl) rfl) (l_cons (r_ucall hc (r_globk 20 he0 rfl hg (hn 20 ("nearest_quotient" : Str) rfl) rfl) (l_cons (r_name he0 h_one rfl) (l_cons (r_name he0 h_odd rfl) (l_cons (r_name he0 h_w rfl) (l_cons (r_globk 27 he0 rfl hg (hn 27 ("divrem_school" : Str) rfl) rfl) l_nil rfl) rfl) rfl) rfl) ⟨_, _, rfl, rfl⟩) (l_cons (r_name he0 h_odd rfl) (l_cons (r_name he0 h_w rfl) l_nil rfl) rfl) rfl) ⟨_, _, rfl, rfl⟩) (l_cons (r_name he0 h_w rfl) l_nil rfl) rfl) rfl) ⟨_, _, rfl, rfl⟩) rfl rfl rfl) rfl rfl)
    s_nil) tg_val fun _ => rfl)
  (s_cons (s_for (i_val (r_ucall hc (r_globk 33 he0 rfl hg (hn 33 ("_law_four" : Str) rfl) rfl) (l_cons (r_name he0 h_row rfl) (l_cons (r_name he0 h_rests rfl) (l_cons (r_name he0 h_w rfl) l_nil rfl) rfl) rfl) ⟨_, _, rfl, rfl⟩)) (t_name he0 h_one) (s_cons (s_unp he0 (.cons (.cons .nil)) (.cons h_quotient (.cons h_rest AtAll.nil)) (r_ucall hc (r_globk 17 he0 rfl hg (hn 17 ("tdiv" : Str) rfl) rfl) (l_cons (r_name he0 h_one rfl) (l_cons (r_name he0 h_odd rfl) (l_cons (r_name he0 h_w rfl) (l_cons (r_globk 27 he0 rfl hg (hn 27 ("divrem_school" : Str) rfl) rfl) l_nil rfl) rfl) rfl) rfl) ⟨_, _, rfl, rfl⟩) rfl rfl)
    (s_cons (s_if (t_cmp (ref_cmp _) (r_bcall he0 rfl (by decide) Boot.«len» ref_len (l_cons (r_sub (op_sub fun _ _ => rfl) (r_name he0 h_rest rfl) r_int) l_nil rfl) ⟨_, _, rfl, rfl⟩ rfl rfl) r_int rfl) (s_cons (s_ret r_none)
      s_nil) s_nil)
    (s_cons (s_expr (r_app (r_name he0 h_found rfl) (r_name he0 h_quotient rfl) rfl rfl rfl) rfl rfl)
    s_nil))) tg_val fun _ => rfl)
  (s_cons (s_ret (r_name he0 h_found rfl))
  s_nil))))
noncomputable abbrev lay_l_led_down : List (Str × Option Nat) := [(("prime" : Str), some 0), (("w" : Str), some 1), (("x" : Str), some 2), (("some" : Str), none), (("y" : Str), none), (("row" : Str), none), (("many" : Str), none), (("turn" : Str), none), (("size" : Str), some 3), (("lesser" : Str), none)]
noncomputable abbrev ps_l_led_down : List Str := [("prime" : Str), ("w" : Str)]
theorem ok_l_led_down : FnOk (rc 45) ps_l_led_down lay_l_led_down where
  bind := fun pm cd doc => len_2 fun _ _ => rfl
  nodup := by decide
  par := by decide
  apart := by decide
  loc := by
    repeat (refine List.forall_mem_cons.mpr ⟨by first | rfl | exact ⟨rfl, fun _ => rfl⟩, ?_⟩)
    exact fun _ h => (nomatch h)
  kind := rfl
  gen := rfl
  co := rfl
theorem ref_l_led_down {g : G} (hg : ∀ k, ∃ a, g.mg (g.gname k) = some a) (hn : ∀ k x, gnames k = x → g.gname k = x) (d : Nat) (c : CT) (hc : CallRef g d c) (pm cd doc : Value) (L a : Addr) :
    RefS g d (slotsOf lay_l_led_down L) (execs (rc 45).body (callEnvC (Calls.docDef (rc 45).name (rc 45).params (rc 45).body (rc 45).scope pm cd doc) L a)) (cd_l_led_down c) := by
  have he0 : EnvOk (callEnvC (Calls.docDef (rc 45).name (rc 45).params (rc 45).body (rc 45).scope pm cd doc) L a) := ⟨rfl, rfl, rfl⟩
  have h_some : At (callEnvC (Calls.docDef (rc 45).name (rc 45).params (rc 45).body (rc 45).scope pm cd doc) L a) (slotsOf lay_l_led_down L) ("some" : Str) 3 := .loc rfl rfl
  have h_x : At (callEnvC (Calls.docDef (rc 45).name (rc 45).params (rc 45).body (rc 45).scope pm cd doc) L a) (slotsOf lay_l_led_down L) ("x" : Str) 2 := .cell _ _ rfl rfl rfl
  have h_prime : At (callEnvC (Calls.docDef (rc 45).name (rc 45).params (rc 45).body (rc 45).scope pm cd doc) L a) (slotsOf lay_l_led_down L) ("prime" : Str) 0 := .cell _ _ rfl rfl rfl
  have h_y : At (callEnvC (Calls.docDef (rc 45).name (rc 45).params (rc 45).body (rc 45).scope pm cd doc) L a) (slotsOf lay_l_led_down L) ("y" : Str) 4 := .loc rfl rfl
  have h_many : At (callEnvC (Calls.docDef (rc 45).name (rc 45).params (rc 45).body (rc 45).scope pm cd doc) L a) (slotsOf lay_l_led_down L) ("many" : Str) 6 := .loc rfl rfl
  have h_row : At (callEnvC (Calls.docDef (rc 45).name (rc 45).params (rc 45).body (rc 45).scope pm cd doc) L a) (slotsOf lay_l_led_down L) ("row" : Str) 5 := .loc rfl rfl
  have h_w : At (callEnvC (Calls.docDef (rc 45).name (rc 45).params (rc 45).body (rc 45).scope pm cd doc) L a) (slotsOf lay_l_led_down L) ("w" : Str) 1 := .cell _ _ rfl rfl rfl
  have h_size : At (callEnvC (Calls.docDef (rc 45).name (rc 45).params (rc 45).body (rc 45).scope pm cd doc) L a) (slotsOf lay_l_led_down L) ("size" : Str) 8 := .cell _ _ rfl rfl rfl
  have h_lesser : At (callEnvC (Calls.docDef (rc 45).name (rc 45).params (rc 45).body (rc 45).scope pm cd doc) L a) (slotsOf lay_l_led_down L) ("lesser" : Str) 9 := .loc rfl rfl
  have h_turn : At (callEnvC (Calls.docDef (rc 45).name (rc 45).params (rc 45).body (rc 45).scope pm cd doc) L a) (slotsOf lay_l_led_down L) ("turn" : Str) 7 := .loc rfl rfl
  exact
  (s_cons (s_unp he0 (.cons (.cons .nil)) (.cons h_x (.cons h_some AtAll.nil)) (r_tup (l_cons r_int (l_cons (r_lst l_nil) l_nil rfl) rfl)) rfl rfl)
  (s_cons (s_while (t_cmp (ref_cmp _) (r_name he0 h_some rfl) (r_lst l_nil) rfl) (s_cons (s_comp he0 rfl rfl h_some (by decide) rfl (by decide) rfl (r_tcall he0 rfl (by decide) Boot.«range» ref_range (l_cons (r_bin (r_bin (r_name he0 h_prime rfl) r_int) r_int) l_nil rfl) ⟨_, _, rfl, rfl⟩ rfl rfl) (fun C1 => (tests_1 (t_cmp (ref_cmp _) (r_bin (r_bin (r_bin (r_bin (r_name (comp_env rfl he0) (.cell _ _ rfl rfl rfl) rfl) (r_name (comp_env rfl he0) (.cell _ _ rfl rfl rfl) rfl)) (r_bin (r_name (comp_env rfl he0) (.loc rfl rfl) rfl) (r_name (comp_env rfl he0) (.loc rfl rfl) rfl))) r_int) (r_name (comp_env rfl he0) (.cell _ _ rfl rfl rfl) rfl)) r_int rfl))) (fun C1 => (r_tup (l_cons (r_name (comp_env rfl he0) (.cell _ _ rfl rfl rfl) rfl) (l_cons (r_name (comp_env rfl he0) (.loc rfl rfl) rfl) l_nil rfl) rfl))) fun _ => rfl)
    (s_cons (s_asg he0 h_x (r_bin (r_name he0 h_x rfl) r_int) rfl)
    s_nil)))
  (s_cons (s_unp he0 (.cons (.cons .nil)) (.cons h_x (.cons h_y AtAll.nil)) (r_sub (op_sub fun _ _ => rfl) (r_name he0 h_some rfl) r_int) rfl rfl)
  (s_cons (s_swp he0 (.cons h_row (.cons h_many AtAll.nil)) (r_tup (l_cons (r_frz (r_comp he0 rfl (by decide) rfl (by decide) rfl (r_tup (l_cons (r_name he0 h_x rfl) (l_cons (r_name he0 h_y rfl) (l_cons r_int (l_cons r_int l_nil rfl) rfl) rfl) rfl)) (fun C1 => tests_0) (fun C1 => (r_ucall hc (r_globk 30 (comp_env rfl he0) rfl hg (hn 30 ("_law_signed" : Str) rfl) rfl) (l_cons (r_name (comp_env rfl he0) (.loc rfl rfl) rfl) (l_cons (r_name (comp_env rfl he0) (.cell _ _ rfl rfl rfl) rfl) l_nil rfl) rfl) ⟨_, _, rfl, rfl⟩)) fun _ => rfl)) (l_cons (r_bin (r_bin (r_bin (r_bin (r_name he0 h_x rfl) (r_name he0 h_x rfl)) (r_bin (r_name he0 h_y rfl) (r_name he0 h_y rfl))) r_int) (r_name he0 h_prime rfl)) l_nil rfl) rfl)) rfl rfl)
  (s_cons (s_for (i_val (r_tcall he0 rfl (by decide) Boot.«range» ref_range (l_cons r_int l_nil rfl) ⟨_, _, rfl, rfl⟩ rfl rfl)) (t_name he0 h_turn) (s_cons (s_asg he0 h_size (r_ucall hc (r_globk 32 he0 rfl hg (hn 32 ("_law_squares" : Str) rfl) rfl) (l_cons (r_name he0 h_row rfl) (l_cons (r_name he0 h_w rfl) l_nil rfl) rfl) ⟨_, _, rfl, rfl⟩) rfl)
    (s_cons (s_if (t_cmp (ref_cmp _) (r_name he0 h_size rfl) (r_ucall hc (r_globk 30 he0 rfl hg (hn 30 ("_law_signed" : Str) rfl) rfl) (l_cons (r_bin (r_name he0 h_many rfl) (r_name he0 h_prime rfl)) (l_cons (r_name he0 h_w rfl) l_nil rfl) rfl) ⟨_, _, rfl, rfl⟩) rfl) (s_cons (s_ret r_bool)
      s_nil) s_nil)
    (s_cons (s_if (t_cmp (ref_cmp _) (r_name he0 h_many rfl) r_int rfl) (s_cons (s_ret r_bool)
      s_nil) s_nil)
    (s_cons (s_asg he0 h_row (r_ite (t_cmp (ref_cmp _) (r_bin (r_name he0 h_many rfl) r_int) r_int rfl) (r_ucall hc (r_globk 34 he0 rfl hg (hn 34 ("_law_halved" : Str) rfl) rfl) (l_cons (r_name he0 h_row rfl) (l_cons (r_name he0 h_w rfl) l_nil rfl) rfl) ⟨_, _, rfl, rfl⟩) (r_ucall hc (r_globk 35 he0 rfl hg (hn 35 ("_law_step" : Str) rfl) rfl) (l_cons (r_name he0 h_row rfl) (l_cons (r_name he0 h_many rfl) (l_cons (r_name he0 h_w rfl) l_nil rfl) rfl) rfl) ⟨_, _, rfl, rfl⟩)) rfl)
    (s_cons (s_if (t_cmp (ref_cmp _) (r_name he0 h_row rfl) r_none rfl) (s_cons (s_ret r_bool)
      s_nil) s_nil)
    (s_cons (s_asg he0 h_size (r_ucall hc (r_globk 32 he0 rfl hg (hn 32 ("_law_squares" : Str) rfl) rfl) (l_cons (r_name he0 h_row rfl) (l_cons (r_name he0 h_w rfl) l_nil rfl) rfl) ⟨_, _, rfl, rfl⟩) rfl)
    (s_cons (s_comp he0 rfl rfl h_lesser (by decide) rfl (by decide) rfl (r_tcall he0 rfl (by decide) Boot.«range» ref_range (l_cons r_int (l_cons (r_name he0 h_many rfl) l_nil rfl) rfl) ⟨_, _, rfl, rfl⟩ rfl rfl) (fun C1 => (tests_1 (t_cmp (ref_cmp _) (r_name (comp_env rfl he0) (.cell _ _ rfl rfl rfl) rfl) (r_ucall hc (r_globk 30 (comp_env rfl he0) rfl hg (hn 30 ("_law_signed" : Str) rfl) rfl) (l_cons (r_bin (r_name (comp_env rfl he0) (.loc rfl rfl) rfl) (r_name (comp_env rfl he0) (.cell _ _ rfl rfl rfl) rfl)) (l_cons (r_name (comp_env rfl he0) (.cell _ _ rfl rfl rfl) rfl) l_nil rfl) rfl) ⟨_, _, rfl, rfl⟩) rfl))) (fun C1 => (r_name (comp_env rfl he0) (.loc rfl rfl) rfl)) fun _ => rfl)
    (s_cons (s_if (t_cmp (ref_cmp _) (r_name he0 h_lesser rfl) (r_lst l_nil) rfl) (s_cons (s_ret r_bool)
      s_nil) s_nil)
    (s_cons (s_asg he0 h_many (r_sub (op_sub fun _ _ => rfl) (r_name he0 h_lesser rfl) r_int) rfl)
    s_nil))))))))) tg_val fun _ => rfl)
  (s_cons (s_ret r_bool)
  s_nil))))))
noncomputable abbrev lay_law : List (Str × Option Nat) := [(("script" : Str), none), (("yard" : Str), some 0), (("w" : Str), some 1), (("prime" : Str), none), (("one" : Str), none), (("other" : Str), none), (("due" : Str), none), (("put" : Str), none), (("row" : Str), none), (("twice" : Str), none), (("told" : Str), none), (("number" : Str), some 2)]
noncomputable abbrev ps_law : List Str := [("script" : Str)]
theorem ok_law : FnOk (rc 46) ps_law lay_law where
  bind := fun pm cd doc => len_1 fun _ => rfl
  nodup := by decide
  par := by decide
  apart := by decide
  loc := by
    repeat (refine List.forall_mem_cons.mpr ⟨by first | rfl | exact ⟨rfl, fun _ => rfl⟩, ?_⟩)
    exact fun _ h => (nomatch h)
  kind := rfl
  gen := rfl
  co := rfl
theorem ref_law {g : G} (hg : ∀ k, ∃ a, g.mg (g.gname k) = some a) (hn : ∀ k x, gnames k = x → g.gname k = x) (d : Nat) (c : CT) (hc : CallRef g d c) (pm cd doc : Value) (L a : Addr) :
    RefS g d (slotsOf lay_law L) (execs (rc 46).body (callEnvC (Calls.docDef (rc 46).name (rc 46).params (rc 46).body (rc 46).scope pm cd doc) L a)) (cd_law c) := by
  have he0 : EnvOk (callEnvC (Calls.docDef (rc 46).name (rc 46).params (rc 46).body (rc 46).scope pm cd doc) L a) := ⟨rfl, rfl, rfl⟩
  have h_script : At (callEnvC (Calls.docDef (rc 46).name (rc 46).params (rc 46).body (rc 46).scope pm cd doc) L a) (slotsOf lay_law L) ("script" : Str) 0 := .loc rfl rfl
  have h_yard : At (callEnvC (Calls.docDef (rc 46).name (rc 46).params (rc 46).body (rc 46).scope pm cd doc) L a) (slotsOf lay_law L) ("yard" : Str) 1 := .cell _ _ rfl rfl rfl
  have h_prime : At (callEnvC (Calls.docDef (rc 46).name (rc 46).params (rc 46).body (rc 46).scope pm cd doc) L a) (slotsOf lay_law L) ("prime" : Str) 3 := .loc rfl rfl
  have h_w : At (callEnvC (Calls.docDef (rc 46).name (rc 46).params (rc 46).body (rc 46).scope pm cd doc) L a) (slotsOf lay_law L) ("w" : Str) 2 := .cell _ _ rfl rfl rfl
  have h_other : At (callEnvC (Calls.docDef (rc 46).name (rc 46).params (rc 46).body (rc 46).scope pm cd doc) L a) (slotsOf lay_law L) ("other" : Str) 5 := .loc rfl rfl
  have h_one : At (callEnvC (Calls.docDef (rc 46).name (rc 46).params (rc 46).body (rc 46).scope pm cd doc) L a) (slotsOf lay_law L) ("one" : Str) 4 := .loc rfl rfl
  have h_due : At (callEnvC (Calls.docDef (rc 46).name (rc 46).params (rc 46).body (rc 46).scope pm cd doc) L a) (slotsOf lay_law L) ("due" : Str) 6 := .loc rfl rfl
  have h_put : At (callEnvC (Calls.docDef (rc 46).name (rc 46).params (rc 46).body (rc 46).scope pm cd doc) L a) (slotsOf lay_law L) ("put" : Str) 7 := .loc rfl rfl
  have h_row : At (callEnvC (Calls.docDef (rc 46).name (rc 46).params (rc 46).body (rc 46).scope pm cd doc) L a) (slotsOf lay_law L) ("row" : Str) 8 := .loc rfl rfl
  have h_twice : At (callEnvC (Calls.docDef (rc 46).name (rc 46).params (rc 46).body (rc 46).scope pm cd doc) L a) (slotsOf lay_law L) ("twice" : Str) 9 := .loc rfl rfl
  have h_told : At (callEnvC (Calls.docDef (rc 46).name (rc 46).params (rc 46).body (rc 46).scope pm cd doc) L a) (slotsOf lay_law L) ("told" : Str) 10 := .loc rfl rfl
  have h_number : At (callEnvC (Calls.docDef (rc 46).name (rc 46).params (rc 46).body (rc 46).scope pm cd doc) L a) (slotsOf lay_law L) ("number" : Str) 11 := .cell _ _ rfl rfl rfl
  exact
  (s_cons (s_asg he0 h_yard (r_lst (l_cons r_int (l_cons (r_frz (r_comp he0 rfl (by decide) rfl (by decide) rfl (r_slice (r_name he0 h_script rfl) p_none (p_some r_int) fun _ _ => rfl) (fun C1 => tests_0) (fun C1 => (r_bcall (comp_env rfl he0) rfl (by decide) Boot.«abs» ref_abs (l_cons (r_tcall (comp_env rfl he0) rfl (by decide) Boot.«int» ref_intF (l_cons (r_name (comp_env rfl he0) (.loc rfl rfl) rfl) l_nil rfl) ⟨_, _, rfl, rfl⟩ rfl rfl) l_nil rfl) ⟨_, _, rfl, rfl⟩ rfl rfl)) fun _ => rfl)) l_nil rfl) rfl)) rfl)
  (s_cons (s_unp he0 (.cons (.cons .nil)) (.cons h_w (.cons h_prime AtAll.nil)) (r_tup (l_cons (r_bin r_int (r_ucall hc (r_globk 28 he0 rfl hg (hn 28 ("_law_squared_off" : Str) rfl) rfl) (l_cons (r_name he0 h_yard rfl) (l_cons r_int l_nil rfl) rfl) ⟨_, _, rfl, rfl⟩)) (l_cons (r_sub (op_sub fun _ _ => rfl) (r_frz (r_lst (l_cons r_int (l_cons r_int (l_cons r_int (l_cons r_int (l_cons r_int (l_cons r_int (l_cons r_int l_nil rfl) rfl) rfl) rfl) rfl) rfl) rfl))) (r_ucall hc (r_globk 28 he0 rfl hg (hn 28 ("_law_squared_off" : Str) rfl) rfl) (l_cons (r_name he0 h_yard rfl) (l_cons r_int l_nil rfl) rfl) ⟨_, _, rfl, rfl⟩)) l_nil rfl) rfl)) rfl rfl)
  (s_cons (s_unp he0 (.cons (.cons .nil)) (.cons h_one (.cons h_other AtAll.nil)) (r_frz (r_comp he0 rfl (by decide) rfl (by decide) rfl (r_tcall he0 rfl (by decide) Boot.«range» ref_range (l_cons r_int l_nil rfl) ⟨_, _, rfl, rfl⟩ rfl rfl) (fun C1 => tests_0) (fun C1 => (r_frz (r_comp (comp_env rfl he0) rfl (by decide) rfl (by decide) rfl (r_tcall (comp_env rfl he0) rfl (by decide) Boot.«range» ref_range (l_cons r_int l_nil rfl) ⟨_, _, rfl, rfl⟩ rfl rfl) (fun C2 => tests_0) (fun C2 => (r_bin (r_ucall hc (r_globk 28 (comp_env rfl (comp_env rfl he0)) rfl hg (hn 28 ("_law_squared_off" : Str) rfl) rfl) (l_cons (r_name (comp_env rfl (comp_env rfl he0)) (.cell _ _ rfl rfl rfl) rfl) (l_cons r_int l_nil rfl) rfl) ⟨_, _, rfl, rfl⟩) r_int)) fun _ => rfl))) fun _ => rfl)) rfl rfl)
  (s_cons (s_asg he0 h_due (r_bin (r_bcall he0 rfl (by decide) Boot.«sum» ref_sum (l_cons (r_frz (r_comp he0 rfl (by decide) rfl (by decide) rfl (r_name he0 h_one rfl) (fun C1 => tests_0) (fun C1 => (r_bin (r_name (comp_env rfl he0) (.loc rfl rfl) rfl) (r_name (comp_env rfl he0) (.loc rfl rfl) rfl))) fun _ => rfl)) l_nil rfl) ⟨_, _, rfl, rfl⟩ rfl rfl) (r_bcall he0 rfl (by decide) Boot.«sum» ref_sum (l_cons (r_frz (r_comp he0 rfl (by decide) rfl (by decide) rfl (r_name he0 h_other rfl) (fun C1 => tests_0) (fun C1 => (r_bin (r_name (comp_env rfl he0) (.loc rfl rfl) rfl) (r_name (comp_env rfl he0) (.loc rfl rfl) rfl))) fun _ => rfl)) l_nil rfl) ⟨_, _, rfl, rfl⟩ rfl rfl)) rfl)
  (s_cons (s_asg he0 h_put (r_ucall hc (r_globk 33 he0 rfl hg (hn 33 ("_law_four" : Str) rfl) rfl) (l_cons (r_frz (r_comp he0 rfl (by decide) rfl (by decide) rfl (r_name he0 h_one rfl) (fun C1 => tests_0) (fun C1 => (r_ucall hc (r_globk 30 (comp_env rfl he0) rfl hg (hn 30 ("_law_signed" : Str) rfl) rfl) (l_cons (r_name (comp_env rfl he0) (.loc rfl rfl) rfl) (l_cons (r_name (comp_env rfl he0) (.cell _ _ rfl rfl rfl) rfl) l_nil rfl) rfl) ⟨_, _, rfl, rfl⟩)) fun _ => rfl)) (l_cons (r_frz (r_comp he0 rfl (by decide) rfl (by decide) rfl (r_name he0 h_other rfl) (fun C1 => tests_0) (fun C1 => (r_ucall hc (r_globk 30 (comp_env rfl he0) rfl hg (hn 30 ("_law_signed" : Str) rfl) rfl) (l_cons (r_name (comp_env rfl he0) (.loc rfl rfl) rfl) (l_cons (r_name (comp_env rfl he0) (.cell _ _ rfl rfl rfl) rfl) l_nil rfl) rfl) ⟨_, _, rfl, rfl⟩)) fun _ => rfl)) (l_cons (r_name he0 h_w rfl) l_nil rfl) rfl) rfl) ⟨_, _, rfl, rfl⟩) rfl)
  (s_cons (s_if (t_or (t_cmp (ref_cmp _) (r_ucall hc (r_globk 32 he0 rfl hg (hn 32 ("_law_squares" : Str) rfl) rfl) (l_cons (r_name he0 h_put rfl) (l_cons (r_name he0 h_w rfl) l_nil rfl) rfl) ⟨_, _, rfl, rfl⟩) (r_ucall hc (r_globk 30 he0 rfl hg (hn 30 ("_law_signed" : Str) rfl) rfl) (l_cons (r_name he0 h_due rfl) (l_cons (r_name he0 h_w rfl) l_nil rfl) rfl) ⟨_, _, rfl, rfl⟩) rfl) (t_not (t_val (r_ucall hc (r_globk 36 he0 rfl hg (hn 36 ("_law_led_down" : Str) rfl) rfl) (l_cons (r_name he0 h_prime rfl) (l_cons (r_name he0 h_w rfl) l_nil rfl) rfl) ⟨_, _, rfl, rfl⟩) fun _ => rfl))) (s_cons (s_ret r_bool)
    s_nil) s_nil)
  (s_cons (s_asg he0 h_row (r_frz (r_lst (l_cons r_int (l_cons r_int (l_cons r_int (l_cons r_int (l_cons r_int (l_cons r_int (l_cons r_int (l_cons r_int (l_cons r_int (l_cons r_int l_nil rfl) rfl) rfl) rfl) rfl) rfl) rfl) rfl) rfl) rfl))) rfl)
  (s_cons (s_asg he0 h_twice (r_ucall hc (r_globk 21 he0 rfl hg (hn 21 ("mul_school" : Str) rfl) rfl) (l_cons (r_name he0 h_row rfl) (l_cons (r_name he0 h_row rfl) (l_cons r_int l_nil rfl) rfl) rfl) ⟨_, _, rfl, rfl⟩) rfl)
  (s_cons (s_asg he0 h_told (r_ucall hc (r_globk 21 he0 rfl hg (hn 21 ("mul_school" : Str) rfl) rfl) (l_cons (r_name he0 h_twice rfl) (l_cons (r_name he0 h_twice rfl) (l_cons r_int l_nil rfl) rfl) rfl) ⟨_, _, rfl, rfl⟩) rfl)
  (s_cons (s_for (i_val (r_tcall he0 rfl (by decide) Boot.«range» ref_range (l_cons r_int (l_cons r_int l_nil rfl) rfl) ⟨_, _, rfl, rfl⟩ rfl rfl)) (t_name he0 h_number) (s_cons (s_if (t_cmp (ref_cmp _) (r_sub (op_sub fun _ _ => rfl) (r_name he0 h_told rfl) (r_name he0 h_number rfl)) (r_bin r_int (r_bcall he0 rfl (by decide) Boot.«sum» ref_sum (l_cons (r_frz (r_comp he0 rfl (by decide) rfl (by decide) rfl (r_tcall he0 rfl (by decide) Boot.«range» ref_range (l_cons r_int (l_cons (r_bin (r_name he0 h_number rfl) r_int) l_nil rfl) rfl) ⟨_, _, rfl, rfl⟩ rfl rfl) (fun C1 => (tests_1 (t_and (t_cmp (ref_cmp _) (r_bin (r_name (comp_env rfl he0) (.cell _ _ rfl rfl rfl) rfl) (r_name (comp_env rfl he0) (.loc rfl rfl) rfl)) r_int rfl) (t_cmp (ref_cmp _) (r_bin (r_name (comp_env rfl he0) (.loc rfl rfl) rfl) r_int) r_int rfl)))) (fun C1 => (r_name (comp_env rfl he0) (.loc rfl rfl) rfl)) fun _ => rfl)) l_nil rfl) ⟨_, _, rfl, rfl⟩ rfl rfl)) rfl) (s_cons (s_ret r_bool)
      s_nil) s_nil)
    s_nil) tg_val fun _ => rfl)
  (s_cons (s_ret r_bool)
  s_nil)))))))))))
noncomputable def dg (B x i : Nat) : Nat := x / B ^ i % B
noncomputable def digs (B x n : Nat) : List Nat := (List.range n).map (dg B x)
noncomputable def lnF : Nat → Nat → Nat → Nat
  | 0, _, _ => 0
  | f + 1, B, x => if x = 0 then 0 else lnF f B (x / B) + 1
noncomputable def ln (B x : Nat) : Nat := lnF 64 B x

theorem lnF_lt {B : Nat} (hB : 2 ≤ B) : ∀ (f x : Nat), x < 2 ^ f → x < B ^ lnF f B x ∧ lnF f B x ≤ f ∧ (0 < lnF f B x → B ^ (lnF f B x - 1) ≤ x)
  | 0, x, h => by simp [lnF] at h ⊢; omega
  | f + 1, x, h => by
    unfold lnF
    by_cases h0 : x = 0
    · subst h0; simp
    · rw [if_neg h0]
      have h2 : x / B < 2 ^ f := by
        rw [Nat.div_lt_iff_lt_mul (by omega)]
        calc x < 2 ^ (f + 1) := h
          _ = 2 ^ f * 2 := by rw [Nat.pow_succ]
          _ ≤ 2 ^ f * B := Nat.mul_le_mul_left _ hB
      obtain ⟨h3, h4, h5⟩ := lnF_lt hB f (x / B) h2
      refine ⟨?_, by omega, fun _ => ?_⟩
      · rw [Nat.pow_succ]; exact (Nat.div_lt_iff_lt_mul (by omega)).mp h3
      · show B ^ lnF f B (x / B) ≤ x
        rcases Nat.eq_zero_or_pos (lnF f B (x / B)) with h6 | h6
        · rw [h6]; simp; omega
        · have := h5 h6
          rw [Nat.le_div_iff_mul_le (by omega)] at this
          calc B ^ lnF f B (x / B) = B ^ (lnF f B (x / B) - 1) * B := by rw [← Nat.pow_succ]; congr 1; omega
            _ ≤ x := this
theorem ln_lt {B x : Nat} (hB : 2 ≤ B) (h : x < 2 ^ 64) : x < B ^ ln B x := (lnF_lt hB 64 x h).1
theorem ln_le64 {B x : Nat} (hB : 2 ≤ B) (h : x < 2 ^ 64) : ln B x ≤ 64 := (lnF_lt hB 64 x h).2.1
theorem ln_low {B x : Nat} (hB : 2 ≤ B) (h : x < 2 ^ 64) (h0 : 0 < ln B x) : B ^ (ln B x - 1) ≤ x := (lnF_lt hB 64 x h).2.2 h0
theorem ln_le {B x n : Nat} (hB : 2 ≤ B) (h : x < 2 ^ 64) (hx : x < B ^ n) : ln B x ≤ n := by
  rcases Nat.lt_or_ge n (ln B x) with h1 | h1
  · have := ln_low hB h (by omega)
    have h2 : B ^ n ≤ B ^ (ln B x - 1) := Nat.pow_le_pow_right (by omega) (by omega)
    omega
  · exact h1
theorem ln_ge {B x n : Nat} (hB : 2 ≤ B) (h : x < 2 ^ 64) (hx : B ^ n ≤ x) : n < ln B x := by
  have := ln_lt hB h
  rcases Nat.lt_or_ge n (ln B x) with h1 | h1
  · exact h1
  · have h2 : B ^ ln B x ≤ B ^ n := Nat.pow_le_pow_right (by omega) h1
    omega
theorem ln_zero {B : Nat} : ln B 0 = 0 := rfl
theorem ln_mono {B x y : Nat} (hB : 2 ≤ B) (h : y < 2 ^ 64) (hx : x ≤ y) : ln B x ≤ ln B y := ln_le hB (by omega) (Nat.lt_of_le_of_lt hx (ln_lt hB h))

theorem digs_len {B x n : Nat} : (digs B x n).length = n := by simp [digs]
theorem digs_succ {B x n : Nat} : digs B x (n + 1) = digs B x n ++ [dg B x n] := by simp [digs, List.range_succ]
theorem digs_get {B x n i : Nat} (h : i < n) : (digs B x n)[i]? = some (dg B x i) := by simp [digs, h]
theorem digs_take {B x n m : Nat} (h : m ≤ n) : (digs B x n).take m = digs B x m := by
  simp [digs, ← List.map_take, List.take_range, Nat.min_eq_left h]
theorem dg_lt {B x i : Nat} (hB : 0 < B) : dg B x i < B := Nat.mod_lt _ hB
theorem dg_top {B x n : Nat} (h : x < B ^ n) : dg B x n = 0 := by simp [dg, Nat.div_eq_of_lt h]
theorem dg_ge {B x n i : Nat} (hB : 0 < B) (h : x < B ^ n) (hi : n ≤ i) : dg B x i = 0 := dg_top (Nat.lt_of_lt_of_le h (Nat.pow_le_pow_right hB hi))
theorem mod_succ (B x i : Nat) : x % B ^ (i + 1) = x % B ^ i + B ^ i * dg B x i := Nat.mod_pow_succ
theorem dg_last {B x n : Nat} (hB : 2 ≤ B) (h : x < B ^ (n + 1)) : dg B x n = x / B ^ n := by
  unfold dg
  refine Nat.mod_eq_of_lt ?_
  rw [Nat.div_lt_iff_lt_mul (Nat.pow_pos (by omega)), Nat.mul_comm]
  rw [Nat.pow_succ] at h; exact h
theorem dg_mod {B x i p : Nat} (hB : 0 < B) (h : i < p) : dg B (x % B ^ p) i = dg B x i := by
  unfold dg
  have e : B ^ p = B ^ i * B ^ (p - i) := by rw [← Nat.pow_add]; congr 1; omega
  rw [e, Nat.mod_mul_right_div_self]
  have e2 : B ^ (p - i) = B * B ^ (p - i - 1) := by rw [← Nat.pow_succ']; congr 1; omega
  rw [e2, Nat.mod_mul_right_mod]

/-- one column of an addition -/
theorem col {B P R q p : Nat} (hB : 0 < B) :
    (P % B ^ (p + 1) + (R + B ^ p * q)) / B ^ p = (P % B ^ p + R) / B ^ p + dg B P p + q ∧
    ((P % B ^ p + R) / B ^ p + dg B P p + q) / B = (P % B ^ (p + 1) + (R + B ^ p * q)) / B ^ (p + 1) := by
  have e : P % B ^ (p + 1) + (R + B ^ p * q) = (P % B ^ p + R) + B ^ p * (dg B P p + q) := by
    rw [mod_succ, Nat.mul_add]; omega
  have h1 : (P % B ^ (p + 1) + (R + B ^ p * q)) / B ^ p = (P % B ^ p + R) / B ^ p + dg B P p + q := by
    rw [e, Nat.add_mul_div_left _ _ (Nat.pow_pos hB)]; omega
  refine ⟨h1, ?_⟩
  rw [← h1, Nat.div_div_eq_div_mul, Nat.pow_succ]
theorem col_dg {B P R q p Q : Nat} (hB : 0 < B) (hQ : (R + B ^ p * q) % B ^ (p + 1) = Q % B ^ (p + 1)) :
    ((P % B ^ p + R) / B ^ p + dg B P p + q) % B = dg B (P + Q) p := by
  rw [← (col hB).1]
  have h1 : dg B (P % B ^ (p + 1) + (R + B ^ p * q)) p = dg B (P + Q) p := by
    rw [← dg_mod (p := p + 1) hB (Nat.lt_succ_self p), ← dg_mod (x := P + Q) (p := p + 1) hB (Nat.lt_succ_self p)]
    congr 1
    rw [Nat.add_mod, hQ, Nat.mod_mod, ← Nat.add_mod]
  exact h1

/-- one column of a subtraction -/
noncomputable def bor (B x y p : Nat) : Int := if x % B ^ p < y % B ^ p then 1 else 0
theorem sub_col {B x y p : Nat} (hB : 2 ≤ B) (hxy : y ≤ x) :
    (if (dg B x p : Int) - bor B x y p - dg B y p < 0 then (1 : Int) else 0) = bor B x y (p + 1) ∧
    (if (dg B x p : Int) - bor B x y p - dg B y p < 0 then (dg B x p : Int) - bor B x y p - dg B y p + B else (dg B x p : Int) - bor B x y p - dg B y p) = dg B (x - y) p := by
  have hm : 0 < B ^ p := Nat.pow_pos (by omega)
  have a1 := Nat.div_add_mod x (B ^ (p + 1))
  have b1 := Nat.div_add_mod y (B ^ (p + 1))
  rw [mod_succ] at a1 b1
  have hx0 : x % B ^ p < B ^ p := Nat.mod_lt _ hm
  have hy0 : y % B ^ p < B ^ p := Nat.mod_lt _ hm
  have hx1 : dg B x p < B := dg_lt (by omega)
  have hy1 : dg B y p < B := dg_lt (by omega)
  have ex := mod_succ B x p
  have ey := mod_succ B y p
  have key : ∀ (e : Nat) (t : Nat) (h : Int), e < B ^ p → t < B → (x : Int) - y = e + (B ^ p : Nat) * (t + B * h) → (t : Int) = dg B (x - y) p := by
    intro e t h he ht hh
    have hp : (0 : Int) < ((B ^ p : Nat) : Int) := by exact_mod_cast hm
    have h1 : (((x - y : Nat) : Int) / ((B ^ p : Nat) : Int)) = t + B * h := by
      rw [Int.ofNat_sub hxy, hh, Int.add_mul_ediv_left _ _ (by omega), Int.ediv_eq_zero_of_lt (by omega) (by exact_mod_cast he)]; omega
    unfold dg
    rw [Int.natCast_emod, Int.natCast_ediv, h1, Int.add_mul_emod_self_left]
    exact (Int.emod_eq_of_lt (by omega) (by omega)).symm
  generalize hX : x % B ^ p = X at *
  generalize hY : y % B ^ p = Y at *
  generalize hM : B ^ p = M at *
  generalize hU : dg B x p = U at *
  generalize hV : dg B y p = V at *
  generalize hx2 : x / B ^ (p + 1) = x2 at *
  generalize hy2 : y / B ^ (p + 1) = y2 at *
  rw [Nat.pow_succ, hM] at a1 b1
  have a2 : (x : Int) = M * B * x2 + (X + M * U) := by exact_mod_cast a1.symm
  have b2 : (y : Int) = M * B * y2 + (Y + M * V) := by exact_mod_cast b1.symm
  have hlt : (X + M * U < Y + M * V) ↔ (U : Int) - bor B x y p - V < 0 := by
    unfold bor
    rw [hM, hX, hY]
    constructor
    · intro h
      by_cases h1 : U < V
      · split <;> omega
      · have h2 : M * V ≤ M * U := Nat.mul_le_mul_left _ (by omega)
        have h3 : U = V := by
          rcases Nat.lt_or_ge V U with h4 | h4
          · have h5 : M * V + M ≤ M * U := by rw [← Nat.mul_succ]; exact Nat.mul_le_mul_left _ h4
            omega
          · omega
        subst h3
        rw [if_pos (by omega)]; omega
    · intro h
      split at h
      · rename_i h1
        have h2 : M * U ≤ M * V := Nat.mul_le_mul_left _ (by omega)
        omega
      · rename_i h1
        have h2 : U < V := by omega
        have h3 : M * U + M ≤ M * V := by rw [← Nat.mul_succ]; exact Nat.mul_le_mul_left _ h2
        omega
  refine ⟨?_, ?_⟩
  · unfold bor at hlt ⊢
    rw [ex, ey]
    by_cases h : X + M * U < Y + M * V
    · rw [if_pos h, if_pos (hlt.mp h)]
    · rw [if_neg h, if_neg (fun z => h (hlt.mpr z))]
  · have hb : bor B x y p = if X < Y then 1 else 0 := by unfold bor; rw [hM, hX, hY]
    rw [hb] at hlt ⊢
    by_cases hXY : X < Y
    · rw [if_pos hXY] at hlt ⊢
      split
      · rename_i h
        obtain ⟨t, ht⟩ := Int.eq_ofNat_of_zero_le (show 0 ≤ (U : Int) - 1 - V + B by omega)
        rw [ht]
        refine key (X + M - Y) t (x2 - y2 - 1) (by omega) (by omega) ?_
        rw [a2, b2, Int.ofNat_sub (by omega), ← ht]; push_cast; grind
      · rename_i h
        obtain ⟨t, ht⟩ := Int.eq_ofNat_of_zero_le (show 0 ≤ (U : Int) - 1 - V by omega)
        rw [ht]
        refine key (X + M - Y) t (x2 - y2) (by omega) (by omega) ?_
        rw [a2, b2, Int.ofNat_sub (by omega), ← ht]; push_cast; grind
    · rw [if_neg hXY] at hlt ⊢
      split
      · rename_i h
        obtain ⟨t, ht⟩ := Int.eq_ofNat_of_zero_le (show 0 ≤ (U : Int) - 0 - V + B by omega)
        rw [ht]
        refine key (X - Y) t (x2 - y2 - 1) (by omega) (by omega) ?_
        rw [a2, b2, Int.ofNat_sub (by omega), ← ht]; push_cast; grind
      · rename_i h
        obtain ⟨t, ht⟩ := Int.eq_ofNat_of_zero_le (show 0 ≤ (U : Int) - 0 - V by omega)
        rw [ht]
        refine key (X - Y) t (x2 - y2) (by omega) (by omega) ?_
        rw [a2, b2, Int.ofNat_sub (by omega), ← ht]; push_cast; grind

/-- a number is told by its digits -/
theorem div_step {B x i : Nat} : x / B ^ i = B * (x / B ^ (i + 1)) + dg B x i := by
  unfold dg
  rw [Nat.pow_succ, ← Nat.div_div_eq_div_mul, Nat.div_add_mod]
noncomputable def vl (l : List Nat) : List V := l.map fun (n : Nat) => V.int (n : Int)
noncomputable def NL (B x : Nat) : V := .fro (vl (digs B x (ln B x)))
noncomputable def SG (w : Nat) (a : Int) : V := .tup [.bool (decide (a < 0)), NL (2 ^ w) a.natAbs]

section
variable {L : Loc} {H : Hp} {a b e : PE} {s t : PS} {p q : PB} {r : PLs} {k : Nat} {ks : List Nat}
theorem seqS_ap : seqS s t L H = (s L H).bind fun r => match r.1 with
    | .next => t r.2.1 r.2.2
    | .ret v => some (.ret v, r.2) := rfl
theorem nilS_ap : nilS L H = some (.next, L, H) := rfl
theorem failS_ap : failS L H = none := rfl
theorem ifS_ap : ifS p s t L H = (p L H).bind fun r => if r.1 then s L r.2 else t L r.2 := rfl
theorem asg_ap : asg k a L H = (a L H).map fun r => (.next, L.set k (some r.1), r.2) := rfl
theorem retS_ap : retS a L H = (a L H).map fun r => (.ret r.1, L, r.2) := rfl
theorem exprS_ap : exprS a L H = (a L H).bind fun r => match r.1 with
  | .none => some (.next, L, r.2)
  | _ => none := rfl
theorem augS_ap {op : Operator} : augS k op a L H = (get L k).bind fun v => (a L H).bind fun r => (iop op v r.1 r.2).map fun q => (.next, L.set k (some q.1), q.2) := rfl
theorem setS_ap : setS e b a L H = (a L H).bind fun r => (e L r.2).bind fun p => (b L p.2).bind fun q => match p.1, q.1 with
  | .lst k, .int j => (q.2[k]?).bind fun xs => if 0 ≤ j ∧ j < xs.length ∧ lenOk xs.length = true then some (.next, L, q.2.set k (xs.set j.toNat r.1)) else none
  | _, _ => none := rfl
theorem unpS_ap : unpS ks a L H = (a L H).bind fun r => (unpV r.1 r.2 ks.length).map fun vs => (.next, setMany ks vs L, r.2) := rfl
theorem swpS_ap : swpS ks a L H = (a L H).bind fun r => (unpV r.1 r.2 ks.length).map fun vs => (.next, setMany ks.reverse vs.reverse L, r.2) := rfl
theorem var_ap : var k L H = (get L k).map fun v => (v, H) := rfl
theorem cst_ap {v : V} : cst v L H = some (v, H) := rfl
theorem bin_ap {f : V → V → Hp → Option (V × Hp)} : bin f a b L H = (a L H).bind fun r => (b L r.2).bind fun q => f r.1 q.1 q.2 := rfl
theorem tval_ap : tval a L H = (a L H).bind fun r => (truth r.1).map fun b => (b, r.2) := rfl
theorem andE_ap : andE a b L H = (a L H).bind fun r => (truth r.1).bind fun t => if t then b L r.2 else some r := rfl
theorem orE_ap : orE a b L H = (a L H).bind fun r => (truth r.1).bind fun t => if t then some r else b L r.2 := rfl
theorem notE_ap : notE a L H = (a L H).bind fun r => (truth r.1).map fun b => (.bool !b, r.2) := rfl
theorem iteE_ap : iteE p a b L H = (p L H).bind fun r => if r.1 then a L r.2 else b L r.2 := rfl
theorem notB_ap : notB p L H = (p L H).map fun r => (!r.1, r.2) := rfl
theorem andB_ap : andB p q L H = (p L H).bind fun r => if r.1 then q L r.2 else some (false, r.2) := rfl
theorem orB_ap : orB p q L H = (p L H).bind fun r => if r.1 then some (true, r.2) else q L r.2 := rfl
theorem nilL_ap : nilL L H = some ([], H) := rfl
theorem consL_ap : consL a r L H = (a L H).bind fun p => (r L p.2).map fun q => (p.1 :: q.1, q.2) := rfl
theorem tupE_ap : tupE r L H = (r L H).bind fun p => if lenOk p.1.length then some (.tup p.1, p.2) else none := rfl
theorem lstE_ap : lstE r L H = (r L H).bind fun p => if lenOk p.1.length then some (.lst p.2.length, p.2 ++ [p.1]) else none := rfl
theorem callN_ap {f : List V → Hp → Option (V × Hp)} : callN f r L H = (r L H).bind fun p => f p.1 p.2 := rfl
theorem ucall_ap {c : CT} : ucall c e r L H = (e L H).bind fun p => match p.1 with
  | .fn k => (r L p.2).bind fun q => c k q.1 q.2
  | _ => none := rfl
theorem appE_ap : appE e a L H = (e L H).bind fun p => (a L p.2).bind fun r => match p.1 with
  | .lst k => (r.2[k]?).bind fun xs => if lenOk xs.length then some (.none, r.2.set k (xs ++ [r.1])) else none
  | _ => none := rfl
theorem sliceE_ap {lo hi : PE} : sliceE a lo hi L H = (a L H).bind fun p => (lo L p.2).bind fun q => (hi L q.2).bind fun r =>
  (seqOf p.1 r.2).bind fun xs => (part q.1).bind fun l => (part r.1).bind fun h => if lenOk xs.length then some (.lst r.2.length, r.2 ++ [pickV xs l h]) else none := rfl
theorem forS_ap {it : PI} {tg : Tg} : forS it tg s L H = (it L H).bind fun r => forL r.1 tg s 1000 0 L r.2 := rfl
theorem whileS_ap : whileS p s L H = whileL p s 1000 L H := rfl
theorem valI_ap : valI a L H = (a L H).bind fun r => if okIt r.1 then some (.val r.1, r.2) else none := rfl
theorem enumI_ap : enumI a L H = (a L H).bind fun r => match seqOf r.1 r.2 with
  | some _ => some (.enum r.1, r.2)
  | none => none := rfl
theorem zipI_ap : zipI a b L H = (a L H).bind fun r => (b L r.2).bind fun q => match seqOf r.1 q.2, seqOf q.1 q.2 with
  | some _, some _ => some (.zip r.1 q.1, q.2)
  | _, _ => none := rfl
theorem tgN_ap {v : V} : tgN k v L H = some (L.set k (some v)) := rfl
theorem tgT_ap {v : V} : tgT ks v L H = (unpV v H ks.length).map fun vs => setMany ks vs L := rfl
theorem get_0 {o : Option V} : get (o :: L) 0 = o := rfl
theorem get_s {o : Option V} : get (o :: L) (k + 1) = get L k := by simp [get]
theorem setMany_nil : setMany [] [] L = L := rfl
theorem setMany_cons {v : V} {vs : List V} : setMany (k :: ks) (v :: vs) L = setMany ks vs (L.set k (some v)) := rfl
end

theorem lenOk_64 {n : Nat} (h : n ≤ 1000) : lenOk n = true := by unfold lenOk; simp; omega
theorem vl_len {l : List Nat} : (vl l).length = l.length := by simp [vl]
theorem vl_append {l m : List Nat} : vl (l ++ m) = vl l ++ vl m := by simp [vl]
theorem vl_get {B x n i : Nat} (h : i < n) : (vl (digs B x n))[i]? = some (.int (dg B x i)) := by simp [vl, digs_get h]
theorem idx_vl {B x n i : Nat} (h : i < n) (hn : n ≤ 1000) : idx (vl (digs B x n)) (i : Int) = some (.int (dg B x i)) := by
  unfold idx
  rw [if_pos (by omega), if_pos (by omega), Int.toNat_natCast, vl_get h]

theorem rangeSize_up {a b : Nat} (h : a ≤ b) : Builtin.Range.rangeSize (a : Int) (b : Int) 1 = ((b - a : Nat) : Int) := by
  unfold Builtin.Range.rangeSize
  rw [if_pos (by decide)]
  split
  · rw [Int.ediv_one]; omega
  · omega
theorem okIt_up {a b : Nat} (h : a ≤ b) (hb : b < 1000) : okIt (.rng (a : Int) (b : Int) 1) = true := by
  unfold okIt
  simp
  omega

/-- a loop's end from its state at each turn -/
theorem forL_inv {it : It} {tg : Tg} {b : PS} (n : Nat) (f : Nat → Loc × Hp) (vi : Nat → V) (hn : ∀ i, i < n → nx it i (f i).2 = some (some (vi i))) (hend : nx it n (f n).2 = some none)
    (step : ∀ i, i < n → ∃ L1, tg (vi i) (f i).1 (f i).2 = some L1 ∧ b L1 (f i).2 = some (.next, (f (i + 1)).1, (f (i + 1)).2)) :
    ∀ (m i fuel : Nat), n = i + m → m < fuel → forL it tg b fuel i (f i).1 (f i).2 = some (.next, (f n).1, (f n).2) := by
  intro m
  induction m with
  | zero =>
    intro i fuel hi hf
    obtain ⟨fuel, rfl⟩ := Nat.exists_eq_succ_of_ne_zero (by omega : fuel ≠ 0)
    have : i = n := by omega
    subst this
    unfold forL
    rw [hend]; rfl
  | succ m ih =>
    intro i fuel hi hf
    obtain ⟨fuel, rfl⟩ := Nat.exists_eq_succ_of_ne_zero (by omega : fuel ≠ 0)
    unfold forL
    obtain ⟨L1, h1, h2⟩ := step i (by omega)
    rw [hn i (by omega)]
    simp only [Option.bind_some, h1, h2]
    exact ih (i + 1) fuel (by omega) (by omega)

theorem nx_up {a b i : Nat} {H : Hp} (h : a + i < b) : nx (.val (.rng (a : Int) (b : Int) 1)) i H = some (some (.int ((a + i : Nat) : Int))) := by
  show some (if (i : Int) < Builtin.Range.rangeSize (a : Int) (b : Int) 1 then some (V.int ((a : Int) + (i : Int) * 1)) else none) = _
  rw [rangeSize_up (by omega), if_pos (by omega)]
  congr 3
  push_cast; omega
theorem nx_up_end {a b i : Nat} {H : Hp} (h0 : a ≤ b) (h : a + i = b) : nx (.val (.rng (a : Int) (b : Int) 1)) i H = some none := by
  show some (if (i : Int) < Builtin.Range.rangeSize (a : Int) (b : Int) 1 then some (V.int ((a : Int) + (i : Int) * 1)) else none) = _
  rw [rangeSize_up (by omega), if_neg (by omega)]

/-- the state's last counter -/
noncomputable def atv (i : Nat) : Option V := if i = 0 then none else some (.int ((i - 1 : Nat) : Int))
theorem atv_succ {i : Nat} : atv (i + 1) = some (.int (i : Int)) := rfl

theorem and_mask {w : Nat} {x : Nat} : Builtin.bitAnd (x : Int) ((2 : Int) ^ w - 1) = ((x % 2 ^ w : Nat) : Int) := by
  have h1 : (2 : Int) ^ w - 1 = ((2 ^ w - 1 : Nat) : Int) := by
    have : 1 ≤ 2 ^ w := Nat.one_le_two_pow
    rw [Int.ofNat_sub this]; push_cast; rfl
  rw [h1]
  unfold Builtin.bitAnd
  rw [decide_eq_true (by omega : (0 : Int) ≤ (x : Int)), decide_eq_true (by omega : (0 : Int) ≤ ((2 ^ w - 1 : Nat) : Int))]
  show (((x : Int).toNat &&& ((2 ^ w - 1 : Nat) : Int).toNat : Nat) : Int) = _
  rw [Int.toNat_natCast, Int.toNat_natCast, Nat.and_two_pow_sub_one_eq_mod]
theorem shr {w x : Nat} : (x : Int).fdiv ((2 : Int) ^ w) = ((x / 2 ^ w : Nat) : Int) := by
  rw [Int.fdiv_eq_ediv_of_nonneg _ (Int.le_of_lt (Int.pow_pos (by decide)))]
  push_cast; rfl

section
variable {H : Hp} {a b : Int} {l m : List V} {k n : Nat} {p q : Bool} {v : V}
theorem lenF_fro : lenF [.fro l] H = if lenOk l.length then some (.int l.length, H) else none := rfl
theorem lenF_lst : lenF [.lst k] H = (H[k]?).bind fun xs => if lenOk xs.length then some (.int xs.length, H) else none := rfl
theorem rangeF_1 : rangeF [.int a] H = some (.rng 0 a 1, H) := rfl
theorem rangeF_2 : rangeF [.int a, .int b] H = some (.rng a b 1, H) := rfl
theorem rangeF_3 : rangeF [.int a, .int b, .int (-1)] H = some (.rng a b (-1), H) := rfl
theorem absF_1 : absF [.int a] H = some (.int (if a < 0 then -a else a), H) := rfl
theorem intF_1 : intF [.int a] H = some (.int a, H) := rfl
theorem seqOf_lst : seqOf (.lst k) H = H[k]? := rfl
theorem seqOf_fro : seqOf (.fro l) H = some l := rfl
theorem cmp_lt : cmpV .Lt (.int a) (.int b) H = some (.bool (decide (a < b)), H) := rfl
theorem cmp_le : cmpV .LtE (.int a) (.int b) H = some (.bool (decide (a ≤ b)), H) := rfl
theorem cmp_gt : cmpV .Gt (.int a) (.int b) H = some (.bool (decide (b < a)), H) := rfl
theorem cmp_ge : cmpV .GtE (.int a) (.int b) H = some (.bool (decide (b ≤ a)), H) := rfl
theorem cmp_eq : cmpV .Eq (.int a) (.int b) H = some (.bool (a == b), H) := rfl
theorem cmp_ne : cmpV .NotEq (.int a) (.int b) H = some (.bool (a != b), H) := rfl
theorem cmp_eqb : cmpV .Eq (.bool p) (.bool q) H = some (.bool (p == q), H) := rfl
theorem cmp_neb : cmpV .NotEq (.bool p) (.bool q) H = some (.bool (p != q), H) := rfl
theorem bin_add : binV .Add (.int a) (.int b) H = some (.int (a + b), H) := rfl
theorem bin_sub : binV .Sub (.int a) (.int b) H = some (.int (a - b), H) := rfl
theorem bin_mul : binV .Mult (.int a) (.int b) H = if small a then some (.int (a * b), H) else none := by
  show (if small a then some (a * b) else none : Option Int).map _ = _
  split <;> rfl
theorem bin_and : binV .BitAnd (.int a) (.int b) H = some (.int (Builtin.bitAnd a b), H) := rfl
theorem bin_shl1 (h : n ≤ 1000) : binV .LShift (.int 1) (.int (n : Int)) H = some (.int (2 ^ n), H) := by
  show (if 0 ≤ (n : Int) ∧ (n : Int).natAbs ≤ 1000 ∧ small 1 = true then some ((1 : Int) * 2 ^ (n : Int).toNat) else none : Option Int).map _ = _
  rw [if_pos ⟨by omega, by omega, by decide⟩]
  simp
theorem bin_pow2 (h : n ≤ 1000) : binV .Pow (.int 2) (.int (n : Int)) H = some (.int (2 ^ n), H) := by
  show (if 0 ≤ (n : Int) ∧ (n : Int).natAbs ≤ 1000 ∧ small 2 = true then some ((2 : Int) ^ (n : Int).toNat) else none : Option Int).map _ = _
  rw [if_pos ⟨by omega, by omega, by decide⟩]
  simp
theorem bin_rep (h : small a = true) : binV .Mult (.lst k) (.int a) H = (H[k]?).bind fun xs => if lenOk (xs.length * a.toNat) then some (.lst H.length, H ++ [(List.replicate a.toNat xs).flatten]) else none := by
  show (H[k]?).bind _ = _
  congr 1
  funext xs
  rw [h]; rfl
theorem iop_add : iop .Add (.int a) (.int b) H = some (.int (a + b), H) := rfl
theorem iop_sub : iop .Sub (.int a) (.int b) H = some (.int (a - b), H) := rfl
theorem iop_shr : iop .RShift (.int a) (.int (n : Int)) H = some (.int (a.fdiv (2 ^ n)), H) := by
  simp [iop, opI]
theorem idxV_fro : idxV (.fro l) (.int a) H = (idx l a).map fun v => (v, H) := rfl
theorem idxV_tup : idxV (.tup l) (.int a) H = (idx l a).map fun v => (v, H) := rfl
theorem idxV_lst : idxV (.lst k) (.int a) H = (H[k]?).bind fun xs => (idx xs a).map fun v => (v, H) := rfl
theorem idx_c0 {x : V} {l : List V} : idx (x :: l) 0 = some x := rfl
theorem idx_c1 {x y : V} {l : List V} : idx (x :: y :: l) 1 = some y := rfl
theorem idx_c2 {x y z : V} {l : List V} : idx (x :: y :: z :: l) 2 = some z := rfl
theorem idx_c3 {x y z t : V} {l : List V} : idx (x :: y :: z :: t :: l) 3 = some t := rfl
theorem truth_bool : truth (.bool p) = some p := rfl
theorem unpV_tup : unpV (.tup l) H n = if l.length = n then some l else none := rfl
theorem unpV_lst : unpV (.lst k) H n = (H[k]?).bind fun vs => if vs.length = n then some vs else none := rfl
theorem unpV_fro : unpV (.fro l) H n = if l.length = n then some l else none := rfl
theorem part_none : part .none = some none := rfl
theorem part_int : part (.int a) = some (some a) := rfl
theorem lenOk_0 : lenOk 0 = true := lenOk_64 (by decide)
theorem lenOk_1 : lenOk 1 = true := lenOk_64 (by decide)
theorem lenOk_2 : lenOk 2 = true := lenOk_64 (by decide)
theorem lenOk_3 : lenOk 3 = true := lenOk_64 (by decide)
theorem lenOk_4 : lenOk 4 = true := lenOk_64 (by decide)
end

theorem okIt_0 {n : Nat} (h : n < 1000) : okIt (.rng 0 (n : Int) 1) = true := okIt_up (Nat.zero_le n) h
theorem nx_0 {n i : Nat} {H : Hp} (h : i < n) : nx (.val (.rng 0 (n : Int) 1)) i H = some (some (.int (i : Int))) := by
  have := nx_up (a := 0) (b := n) (i := i) (H := H) (by omega)
  simpa using this
theorem nx_0_end {n : Nat} {H : Hp} : nx (.val (.rng 0 (n : Int) 1)) n H = some none := nx_up_end (a := 0) (Nat.zero_le n) (by omega)
theorem pow_ge2 {w : Nat} (hw : 1 ≤ w) : 2 ≤ 2 ^ w := by
  calc 2 = 2 ^ 1 := rfl
    _ ≤ 2 ^ w := Nat.pow_le_pow_right (by decide) hw
theorem add_step {B x y i : Nat} (hB : 2 ≤ B) : ((x % B ^ i + y % B ^ i) / B ^ i + dg B x i + dg B y i) % B = dg B (x + y) i ∧
    ((x % B ^ i + y % B ^ i) / B ^ i + dg B x i + dg B y i) / B = (x % B ^ (i + 1) + y % B ^ (i + 1)) / B ^ (i + 1) := by
  have h2 := mod_succ B y i
  refine ⟨col_dg (by omega) ?_, ?_⟩
  · rw [← h2, Nat.mod_mod]
  · rw [(col (by omega)).2, ← h2]

noncomputable def addF (w x y i : Nat) : Loc × Hp := ([some (NL (2 ^ w) x), some (NL (2 ^ w) y), some (.int w), some (.lst 0), some (.int (((x % (2 ^ w) ^ i + y % (2 ^ w) ^ i) / (2 ^ w) ^ i : Nat) : Int)), some (.int (2 ^ w - 1)), atv i], [vl (digs (2 ^ w) (x + y) i)])

theorem run_add {c : CT} {w x y : Nat} (hw : 1 ≤ w) (hw2 : w ≤ 1000) (hx : x < 2 ^ 60) (hy : y < 2 ^ 60) (hl : ln (2 ^ w) y ≤ ln (2 ^ w) x) :
    ∃ L, (cd_add c) [some (NL (2 ^ w) x), some (NL (2 ^ w) y), some (.int w), none, none, none, none] [] = some (.ret (.lst 0), L, [vl (digs (2 ^ w) (x + y) (ln (2 ^ w) (x + y)))]) := by
  have hB := pow_ge2 hw
  have hnx := ln_le64 hB (show x < 2 ^ 64 by omega)
  have hny := ln_le64 hB (show y < 2 ^ 64 by omega)
  have o1 := lenOk_64 (show ln (2 ^ w) x ≤ 1000 by omega)
  have o2 := lenOk_64 (show ln (2 ^ w) y ≤ 1000 by omega)
  have o3 := bin_shl1 (H := [[]]) hw2
  have o4 := okIt_0 (show ln (2 ^ w) y < 1000 by omega)
  have o6 := okIt_up hl (by omega)
  have o5 : ¬ (ln (2 ^ w) x < ln (2 ^ w) y) := by omega
  have hylt := ln_lt hB (show y < 2 ^ 64 by omega)
  have hxlt := ln_lt hB (show x < 2 ^ 64 by omega)
  have hyx : y < (2 ^ w) ^ ln (2 ^ w) x := Nat.lt_of_lt_of_le hylt (Nat.pow_le_pow_right (by omega) hl)
  unfold cd_add
  simp only [seqS_ap, nilS_ap, failS_ap, ifS_ap, asg_ap, retS_ap, exprS_ap, augS_ap, setS_ap, unpS_ap, swpS_ap, var_ap, cst_ap, bin_ap, tval_ap, andE_ap, orE_ap, notE_ap, iteE_ap, notB_ap, andB_ap, orB_ap, nilL_ap, consL_ap, tupE_ap, lstE_ap, callN_ap, ucall_ap, appE_ap, sliceE_ap, forS_ap, whileS_ap, valI_ap, enumI_ap, zipI_ap, tgN_ap, tgT_ap, get_0, get_s, setMany_nil, setMany_cons, lenF_fro, lenF_lst, rangeF_1, rangeF_2, rangeF_3, absF_1, intF_1, seqOf_lst, seqOf_fro, cmp_lt, cmp_le, cmp_gt, cmp_ge, cmp_eq, cmp_ne, cmp_eqb, cmp_neb, bin_add, bin_sub, bin_mul, bin_and, iop_add, iop_sub, iop_shr, idxV_fro, idxV_tup, idxV_lst, idx_c0, idx_c1, idx_c2, idx_c3, truth_bool, unpV_tup, unpV_lst, unpV_fro, part_none, part_int, lenOk_0, lenOk_1, lenOk_2, lenOk_3, lenOk_4, Int.ofNat_lt, Option.bind_some, Option.map_some, Option.bind_none, Option.map_none, List.set_cons_zero, List.set_cons_succ, List.length_cons, List.length_nil, List.getElem?_cons_zero, List.getElem?_cons_succ, List.reverse_cons, List.reverse_nil, List.nil_append, List.cons_append, List.append_nil, Nat.zero_add, Nat.reduceAdd, if_true, reduceIte, reduceCtorEq, or_true, true_or, or_false, false_or, Bool.not_true, Bool.not_false, vl_len, digs_len, NL, o1, o2, o3, o4, o5, o6, decide_false, Bool.false_eq_true]
  have loop1 := forL_inv (it := .val (.rng 0 (ln (2 ^ w) y : Int) 1)) (tg := tgN 6) (b := seqS (augS 4 Operator.Add (bin (binV Operator.Add) (bin idxV (var 0) (var 6)) (bin idxV (var 1) (var 6))))
    (seqS (exprS (appE (var 3) (bin (binV Operator.BitAnd) (var 4) (var 5)))) (seqS (augS 4 Operator.RShift (var 2)) nilS))) (ln (2 ^ w) y) (addF w x y) (fun i => .int (i : Int)) (fun i hi => nx_0 hi) nx_0_end
    (fun i hi => by
      refine ⟨_, rfl, ?_⟩
      have a1 := idx_vl (B := 2 ^ w) (x := x) (show i < ln (2 ^ w) x by omega) (by omega)
      have a2 := idx_vl (B := 2 ^ w) (x := y) hi (by omega)
      have a3 := lenOk_64 (show i ≤ 1000 by omega)
      have a4 : (((x % (2 ^ w) ^ i + y % (2 ^ w) ^ i) / (2 ^ w) ^ i : Nat) : Int) + ((dg (2 ^ w) x i : Int) + (dg (2 ^ w) y i : Int)) = (((x % (2 ^ w) ^ i + y % (2 ^ w) ^ i) / (2 ^ w) ^ i + dg (2 ^ w) x i + dg (2 ^ w) y i : Nat) : Int) := by push_cast; omega
      simp only [seqS_ap, nilS_ap, failS_ap, ifS_ap, asg_ap, retS_ap, exprS_ap, augS_ap, setS_ap, unpS_ap, swpS_ap, var_ap, cst_ap, bin_ap, tval_ap, andE_ap, orE_ap, notE_ap, iteE_ap, notB_ap, andB_ap, orB_ap, nilL_ap, consL_ap, tupE_ap, lstE_ap, callN_ap, ucall_ap, appE_ap, sliceE_ap, forS_ap, whileS_ap, valI_ap, enumI_ap, zipI_ap, tgN_ap, tgT_ap, get_0, get_s, setMany_nil, setMany_cons, lenF_fro, lenF_lst, rangeF_1, rangeF_2, rangeF_3, absF_1, intF_1, seqOf_lst, seqOf_fro, cmp_lt, cmp_le, cmp_gt, cmp_ge, cmp_eq, cmp_ne, cmp_eqb, cmp_neb, bin_add, bin_sub, bin_mul, bin_and, iop_add, iop_sub, iop_shr, idxV_fro, idxV_tup, idxV_lst, idx_c0, idx_c1, idx_c2, idx_c3, truth_bool, unpV_tup, unpV_lst, unpV_fro, part_none, part_int, lenOk_0, lenOk_1, lenOk_2, lenOk_3, lenOk_4, Int.ofNat_lt, Option.bind_some, Option.map_some, Option.bind_none, Option.map_none, List.set_cons_zero, List.set_cons_succ, List.length_cons, List.length_nil, List.getElem?_cons_zero, List.getElem?_cons_succ, List.reverse_cons, List.reverse_nil, List.nil_append, List.cons_append, List.append_nil, Nat.zero_add, Nat.reduceAdd, if_true, reduceIte, reduceCtorEq, or_true, true_or, or_false, false_or, Bool.not_true, Bool.not_false, vl_len, digs_len, addF, NL, a1, a2, a3, a4, and_mask, shr, (add_step hB).1, (add_step hB).2, digs_succ, vl_append, atv_succ]
      rfl) (ln (2 ^ w) y) 0 1000 (by omega) (by omega)
  have e0 : addF w x y 0 = ([some (NL (2 ^ w) x), some (NL (2 ^ w) y), some (.int w), some (.lst 0), some (.int 0), some (.int (2 ^ w - 1)), none], [[]]) := by
    simp [addF, atv, digs, vl]
  rw [e0] at loop1
  simp only [NL] at loop1
  rw [loop1]
  have loop2 := forL_inv (it := .val (.rng (ln (2 ^ w) y : Int) (ln (2 ^ w) x : Int) 1)) (tg := tgN 6) (b := seqS (augS 4 Operator.Add (bin idxV (var 0) (var 6)))
    (seqS (exprS (appE (var 3) (bin (binV Operator.BitAnd) (var 4) (var 5)))) (seqS (augS 4 Operator.RShift (var 2)) nilS))) (ln (2 ^ w) x - ln (2 ^ w) y) (fun i => addF w x y (ln (2 ^ w) y + i)) (fun i => .int ((ln (2 ^ w) y + i : Nat) : Int)) (fun i hi => nx_up (by omega)) (nx_up_end hl (by omega))
    (fun i hi => by
      refine ⟨_, rfl, ?_⟩
      have a1 := idx_vl (B := 2 ^ w) (x := x) (show ln (2 ^ w) y + i < ln (2 ^ w) x by omega) (by omega)
      have a2 : dg (2 ^ w) y (ln (2 ^ w) y + i) = 0 := dg_ge (by omega) hylt (by omega)
      have a3 := lenOk_64 (show ln (2 ^ w) y + i ≤ 1000 by omega)
      have a5 := add_step (x := x) (y := y) (i := ln (2 ^ w) y + i) hB
      rw [a2, Nat.add_zero] at a5
      have a4 : (((x % (2 ^ w) ^ (ln (2 ^ w) y + i) + y % (2 ^ w) ^ (ln (2 ^ w) y + i)) / (2 ^ w) ^ (ln (2 ^ w) y + i) : Nat) : Int) + (dg (2 ^ w) x (ln (2 ^ w) y + i) : Int) = (((x % (2 ^ w) ^ (ln (2 ^ w) y + i) + y % (2 ^ w) ^ (ln (2 ^ w) y + i)) / (2 ^ w) ^ (ln (2 ^ w) y + i) + dg (2 ^ w) x (ln (2 ^ w) y + i) : Nat) : Int) := by push_cast; omega
      simp only [seqS_ap, nilS_ap, failS_ap, ifS_ap, asg_ap, retS_ap, exprS_ap, augS_ap, setS_ap, unpS_ap, swpS_ap, var_ap, cst_ap, bin_ap, tval_ap, andE_ap, orE_ap, notE_ap, iteE_ap, notB_ap, andB_ap, orB_ap, nilL_ap, consL_ap, tupE_ap, lstE_ap, callN_ap, ucall_ap, appE_ap, sliceE_ap, forS_ap, whileS_ap, valI_ap, enumI_ap, zipI_ap, tgN_ap, tgT_ap, get_0, get_s, setMany_nil, setMany_cons, lenF_fro, lenF_lst, rangeF_1, rangeF_2, rangeF_3, absF_1, intF_1, seqOf_lst, seqOf_fro, cmp_lt, cmp_le, cmp_gt, cmp_ge, cmp_eq, cmp_ne, cmp_eqb, cmp_neb, bin_add, bin_sub, bin_mul, bin_and, iop_add, iop_sub, iop_shr, idxV_fro, idxV_tup, idxV_lst, idx_c0, idx_c1, idx_c2, idx_c3, truth_bool, unpV_tup, unpV_lst, unpV_fro, part_none, part_int, lenOk_0, lenOk_1, lenOk_2, lenOk_3, lenOk_4, Int.ofNat_lt, Option.bind_some, Option.map_some, Option.bind_none, Option.map_none, List.set_cons_zero, List.set_cons_succ, List.length_cons, List.length_nil, List.getElem?_cons_zero, List.getElem?_cons_succ, List.reverse_cons, List.reverse_nil, List.nil_append, List.cons_append, List.append_nil, Nat.zero_add, Nat.reduceAdd, if_true, reduceIte, reduceCtorEq, or_true, true_or, or_false, false_or, Bool.not_true, Bool.not_false, vl_len, digs_len, addF, NL, a1, a3, a4, and_mask, shr, a5.1, a5.2, digs_succ, vl_append, atv_succ, ← Nat.add_assoc]
      rfl) (ln (2 ^ w) x - ln (2 ^ w) y) 0 1000 (by omega) (by omega)
  rw [Nat.add_zero] at loop2
  have n1 : ln (2 ^ w) y + (ln (2 ^ w) x - ln (2 ^ w) y) = ln (2 ^ w) x := by omega
  rw [n1] at loop2
  have c1 : (x % (2 ^ w) ^ ln (2 ^ w) x + y % (2 ^ w) ^ ln (2 ^ w) x) / (2 ^ w) ^ ln (2 ^ w) x = (x + y) / (2 ^ w) ^ ln (2 ^ w) x := by
    rw [Nat.mod_eq_of_lt hxlt, Nat.mod_eq_of_lt hyx]
  have loop2' : forL (.val (.rng (ln (2 ^ w) y : Int) (ln (2 ^ w) x : Int) 1)) (tgN 6) (seqS (augS 4 Operator.Add (bin idxV (var 0) (var 6)))
    (seqS (exprS (appE (var 3) (bin (binV Operator.BitAnd) (var 4) (var 5)))) (seqS (augS 4 Operator.RShift (var 2)) nilS))) 1000 0 [some (.fro (vl (digs (2 ^ w) x (ln (2 ^ w) x)))), some (.fro (vl (digs (2 ^ w) y (ln (2 ^ w) y)))), some (.int w), some (.lst 0),
      some (.int (((x % (2 ^ w) ^ ln (2 ^ w) y + y % (2 ^ w) ^ ln (2 ^ w) y) / (2 ^ w) ^ ln (2 ^ w) y : Nat) : Int)), some (.int (2 ^ w - 1)), atv (ln (2 ^ w) y)] [vl (digs (2 ^ w) (x + y) (ln (2 ^ w) y))] =
      some (.next, [some (.fro (vl (digs (2 ^ w) x (ln (2 ^ w) x)))), some (.fro (vl (digs (2 ^ w) y (ln (2 ^ w) y)))), some (.int w), some (.lst 0), some (.int (((x + y) / (2 ^ w) ^ ln (2 ^ w) x : Nat) : Int)), some (.int (2 ^ w - 1)), atv (ln (2 ^ w) x)], [vl (digs (2 ^ w) (x + y) (ln (2 ^ w) x))]) := by
    simp only [addF, NL, c1] at loop2
    exact loop2
  have hP : 0 < (2 ^ w) ^ ln (2 ^ w) x := Nat.pow_pos (by omega)
  have o7 := lenOk_64 (show ln (2 ^ w) x ≤ 1000 by omega)
  have hlt2 : x + y < (2 ^ w) ^ (ln (2 ^ w) x + 1) := by
    rw [Nat.pow_succ]
    calc x + y < (2 ^ w) ^ ln (2 ^ w) x * 2 := by omega
      _ ≤ _ := Nat.mul_le_mul_left _ hB
  by_cases hc : 0 < (x + y) / (2 ^ w) ^ ln (2 ^ w) x
  · have hge : (2 ^ w) ^ ln (2 ^ w) x ≤ x + y := by
      rcases Nat.lt_or_ge (x + y) ((2 ^ w) ^ ln (2 ^ w) x) with h | h
      · rw [Nat.div_eq_of_lt h] at hc; omega
      · exact h
    have e1 : ln (2 ^ w) (x + y) = ln (2 ^ w) x + 1 := by
      have h1 := ln_ge hB (show x + y < 2 ^ 64 by omega) hge
      have h2 := ln_le hB (show x + y < 2 ^ 64 by omega) hlt2
      omega
    have hc' : (0 : Int) < (((x + y) / (2 ^ w) ^ ln (2 ^ w) x : Nat) : Int) := by omega
    refine ⟨[some (.fro (vl (digs (2 ^ w) x (ln (2 ^ w) x)))), some (.fro (vl (digs (2 ^ w) y (ln (2 ^ w) y)))), some (.int w), some (.lst 0), some (.int (((x + y) / (2 ^ w) ^ ln (2 ^ w) x : Nat) : Int)), some (.int (2 ^ w - 1)), atv (ln (2 ^ w) x)], ?_⟩
    simp only [seqS_ap, nilS_ap, failS_ap, ifS_ap, asg_ap, retS_ap, exprS_ap, augS_ap, setS_ap, unpS_ap, swpS_ap, var_ap, cst_ap, bin_ap, tval_ap, andE_ap, orE_ap, notE_ap, iteE_ap, notB_ap, andB_ap, orB_ap, nilL_ap, consL_ap, tupE_ap, lstE_ap, callN_ap, ucall_ap, appE_ap, sliceE_ap, forS_ap, whileS_ap, valI_ap, enumI_ap, zipI_ap, tgN_ap, tgT_ap, get_0, get_s, setMany_nil, setMany_cons, lenF_fro, lenF_lst, rangeF_1, rangeF_2, rangeF_3, absF_1, intF_1, seqOf_lst, seqOf_fro, cmp_lt, cmp_le, cmp_gt, cmp_ge, cmp_eq, cmp_ne, cmp_eqb, cmp_neb, bin_add, bin_sub, bin_mul, bin_and, iop_add, iop_sub, iop_shr, idxV_fro, idxV_tup, idxV_lst, idx_c0, idx_c1, idx_c2, idx_c3, truth_bool, unpV_tup, unpV_lst, unpV_fro, part_none, part_int, lenOk_0, lenOk_1, lenOk_2, lenOk_3, lenOk_4, Int.ofNat_lt, Option.bind_some, Option.map_some, Option.bind_none, Option.map_none, List.set_cons_zero, List.set_cons_succ, List.length_cons, List.length_nil, List.getElem?_cons_zero, List.getElem?_cons_succ, List.reverse_cons, List.reverse_nil, List.nil_append, List.cons_append, List.append_nil, Nat.zero_add, Nat.reduceAdd, if_true, reduceIte, reduceCtorEq, or_true, true_or, or_false, false_or, Bool.not_true, Bool.not_false, vl_len, digs_len, addF, NL, o1, o2, o6, loop2', hc', decide_true, o7, e1, digs_succ, vl_append, dg_last hB hlt2]
    rfl
  · have hlt : x + y < (2 ^ w) ^ ln (2 ^ w) x := by
      rcases Nat.lt_or_ge (x + y) ((2 ^ w) ^ ln (2 ^ w) x) with h | h
      · exact h
      · exact absurd (Nat.div_pos h hP) hc
    have e1 : ln (2 ^ w) (x + y) = ln (2 ^ w) x := by
      have h1 := ln_mono hB (show x + y < 2 ^ 64 by omega) (Nat.le_add_right x y)
      have h2 := ln_le hB (show x + y < 2 ^ 64 by omega) hlt
      omega
    have hc' : ¬ (0 : Int) < (((x + y) / (2 ^ w) ^ ln (2 ^ w) x : Nat) : Int) := by omega
    refine ⟨[some (.fro (vl (digs (2 ^ w) x (ln (2 ^ w) x)))), some (.fro (vl (digs (2 ^ w) y (ln (2 ^ w) y)))), some (.int w), some (.lst 0), some (.int (((x + y) / (2 ^ w) ^ ln (2 ^ w) x : Nat) : Int)), some (.int (2 ^ w - 1)), atv (ln (2 ^ w) x)], ?_⟩
    simp only [seqS_ap, nilS_ap, failS_ap, ifS_ap, asg_ap, retS_ap, exprS_ap, augS_ap, setS_ap, unpS_ap, swpS_ap, var_ap, cst_ap, bin_ap, tval_ap, andE_ap, orE_ap, notE_ap, iteE_ap, notB_ap, andB_ap, orB_ap, nilL_ap, consL_ap, tupE_ap, lstE_ap, callN_ap, ucall_ap, appE_ap, sliceE_ap, forS_ap, whileS_ap, valI_ap, enumI_ap, zipI_ap, tgN_ap, tgT_ap, get_0, get_s, setMany_nil, setMany_cons, lenF_fro, lenF_lst, rangeF_1, rangeF_2, rangeF_3, absF_1, intF_1, seqOf_lst, seqOf_fro, cmp_lt, cmp_le, cmp_gt, cmp_ge, cmp_eq, cmp_ne, cmp_eqb, cmp_neb, bin_add, bin_sub, bin_mul, bin_and, iop_add, iop_sub, iop_shr, idxV_fro, idxV_tup, idxV_lst, idx_c0, idx_c1, idx_c2, idx_c3, truth_bool, unpV_tup, unpV_lst, unpV_fro, part_none, part_int, lenOk_0, lenOk_1, lenOk_2, lenOk_3, lenOk_4, Int.ofNat_lt, Option.bind_some, Option.map_some, Option.bind_none, Option.map_none, List.set_cons_zero, List.set_cons_succ, List.length_cons, List.length_nil, List.getElem?_cons_zero, List.getElem?_cons_succ, List.reverse_cons, List.reverse_nil, List.nil_append, List.cons_append, List.append_nil, Nat.zero_add, Nat.reduceAdd, if_true, reduceIte, reduceCtorEq, or_true, true_or, or_false, false_or, Bool.not_true, Bool.not_false, vl_len, digs_len, addF, NL, o1, o2, o6, loop2', hc', decide_false, o7, e1, Bool.false_eq_true]

theorem run_add_swap {c : CT} {w x y : Nat} (hw : 1 ≤ w) (hx : x < 2 ^ 60) (hy : y < 2 ^ 60) (hl : ln (2 ^ w) x < ln (2 ^ w) y) :
    (cd_add c) [some (NL (2 ^ w) x), some (NL (2 ^ w) y), some (.int w), none, none, none, none] [] = (cd_add c) [some (NL (2 ^ w) y), some (NL (2 ^ w) x), some (.int w), none, none, none, none] [] := by
  have hB := pow_ge2 hw
  have hnx := ln_le64 hB (show x < 2 ^ 64 by omega)
  have hny := ln_le64 hB (show y < 2 ^ 64 by omega)
  have o1 := lenOk_64 (show ln (2 ^ w) x ≤ 1000 by omega)
  have o2 := lenOk_64 (show ln (2 ^ w) y ≤ 1000 by omega)
  have o5 : ¬ (ln (2 ^ w) y < ln (2 ^ w) x) := by omega
  have o6 : ln (2 ^ w) x < ln (2 ^ w) y := by omega
  unfold cd_add
  rw [seqS_ap, seqS_ap]
  congr 1
  simp only [seqS_ap, nilS_ap, failS_ap, ifS_ap, asg_ap, retS_ap, exprS_ap, augS_ap, setS_ap, unpS_ap, swpS_ap, var_ap, cst_ap, bin_ap, tval_ap, andE_ap, orE_ap, notE_ap, iteE_ap, notB_ap, andB_ap, orB_ap, nilL_ap, consL_ap, tupE_ap, lstE_ap, callN_ap, ucall_ap, appE_ap, sliceE_ap, forS_ap, whileS_ap, valI_ap, enumI_ap, zipI_ap, tgN_ap, tgT_ap, get_0, get_s, setMany_nil, setMany_cons, lenF_fro, lenF_lst, rangeF_1, rangeF_2, rangeF_3, absF_1, intF_1, seqOf_lst, seqOf_fro, cmp_lt, cmp_le, cmp_gt, cmp_ge, cmp_eq, cmp_ne, cmp_eqb, cmp_neb, bin_add, bin_sub, bin_mul, bin_and, iop_add, iop_sub, iop_shr, idxV_fro, idxV_tup, idxV_lst, idx_c0, idx_c1, idx_c2, idx_c3, truth_bool, unpV_tup, unpV_lst, unpV_fro, part_none, part_int, lenOk_0, lenOk_1, lenOk_2, lenOk_3, lenOk_4, Int.ofNat_lt, Option.bind_some, Option.map_some, Option.bind_none, Option.map_none, List.set_cons_zero, List.set_cons_succ, List.length_cons, List.length_nil, List.getElem?_cons_zero, List.getElem?_cons_succ, List.reverse_cons, List.reverse_nil, List.nil_append, List.cons_append, List.append_nil, Nat.zero_add, Nat.reduceAdd, if_true, reduceIte, reduceCtorEq, or_true, true_or, or_false, false_or, Bool.not_true, Bool.not_false, vl_len, digs_len, NL, o1, o2, o5, o6, decide_false, decide_true, Bool.false_eq_true]

theorem purevs_vl : ∀ {l : List Nat}, purevs (vl l) = true
  | [] => rfl
  | a :: l => by show (true && purevs (vl l)) = true; rw [purevs_vl]; rfl
theorem frz_vl {f n : Nat} {H : Hp} : ∀ {l : List Nat}, mapO (frz (f + 1) n H) (vl l) = some (vl l)
  | [] => rfl
  | a :: l => by
    show ((some (V.int a)).bind fun b => (mapO (frz (f + 1) n H) (vl l)).map fun l => b :: l) = _
    rw [frz_vl]; rfl
theorem frz_fro {f n : Nat} {H : Hp} {l : List Nat} : frz (f + 2) n H (.fro (vl l)) = some (.fro (vl l)) := by
  show (mapO (frz (f + 1) n H) (vl l)).map V.fro = _
  rw [frz_vl]; rfl
theorem frz_lst {f : Nat} {H : Hp} {k : Nat} {l : List Nat} (h : H[k]? = some (vl l)) : frz (f + 2) 0 H (.lst k) = some (.fro (vl l)) := by
  show (if k < 0 then some (V.lst k) else (H[k]?).bind fun vs => (mapO (frz (f + 1) 0 H) vs).map .fro) = _
  rw [if_neg (by omega), h]
  show (mapO (frz (f + 1) 0 H) (vl l)).map V.fro = _
  rw [frz_vl]; rfl
theorem callM_pure {d k : Nat} {vs : List V} {H : Hp} {n m : Nat} {cd : PS} {fl : Fl} {L' : Loc} {H' : Hp} {r : V} (hp : purevs vs = true) (hc : codes (callM codes d) k = (n, m, cd)) (hn : vs.length = n)
    (hrun : cd (vs.map some ++ List.replicate m none) [] = some (fl, L', H')) (hf : frz 6 0 H' (outV fl) = some r) : callM codes (d + 1) k vs H = some (r, H) := by
  unfold callM
  rw [if_pos hp, hc]
  unfold runF
  rw [if_pos hn]
  show Option.map _ ((cd (vs.map some ++ List.replicate m none) []).bind _) = _
  rw [hrun]
  show Option.map _ ((frz 6 0 H' (outV fl)).bind _) = _
  rw [hf]
  rfl

theorem sp_add {d w x y : Nat} {H : Hp} (hw : 1 ≤ w) (hw2 : w ≤ 1000) (hx : x < 2 ^ 60) (hy : y < 2 ^ 60) : callM codes (d + 1) 3 [NL (2 ^ w) x, NL (2 ^ w) y, .int w] H = some (NL (2 ^ w) (x + y), H) := by
  have hp : purevs [NL (2 ^ w) x, NL (2 ^ w) y, .int w] = true := by
    show (purevs _ && (purevs _ && true)) = true
    rw [purevs_vl, purevs_vl]; rfl
  rcases Nat.lt_or_ge (ln (2 ^ w) x) (ln (2 ^ w) y) with h | h
  · obtain ⟨L, e⟩ := run_add (c := callM codes d) hw hw2 hy hx (Nat.le_of_lt h)
    rw [← run_add_swap hw hx hy h, Nat.add_comm] at e
    exact callM_pure hp rfl rfl e (frz_lst rfl)
  · obtain ⟨L, e⟩ := run_add (c := callM codes d) hw hw2 hx hy h
    exact callM_pure hp rfl rfl e (frz_lst rfl)
/-- a while loop that ends by its test -/
theorem whileL_inv {t : PB} {b : PS} (n : Nat) (f : Nat → Loc × Hp) (ht : ∀ i, i < n → t (f i).1 (f i).2 = some (true, (f i).2)) (hend : t (f n).1 (f n).2 = some (false, (f n).2))
    (step : ∀ i, i < n → b (f i).1 (f i).2 = some (.next, (f (i + 1)).1, (f (i + 1)).2)) :
    ∀ (m i fuel : Nat), n = i + m → m < fuel → whileL t b fuel (f i).1 (f i).2 = some (.next, (f n).1, (f n).2) := by
  intro m
  induction m with
  | zero =>
    intro i fuel hi hf
    obtain ⟨fuel, rfl⟩ := Nat.exists_eq_succ_of_ne_zero (by omega : fuel ≠ 0)
    have : i = n := by omega
    subst this
    unfold whileL
    rw [hend]; rfl
  | succ m ih =>
    intro i fuel hi hf
    obtain ⟨fuel, rfl⟩ := Nat.exists_eq_succ_of_ne_zero (by omega : fuel ≠ 0)
    unfold whileL
    rw [ht i (by omega)]
    simp only [Option.bind_some, if_true, step i (by omega)]
    exact ih (i + 1) fuel (by omega) (by omega)

theorem beq_zero {a : Nat} : ((a : Int) == 0) = decide (a = 0) := by
  rw [Bool.eq_iff_iff]; simp
theorem pick_hi {l : List V} {e : Nat} (h : e ≤ l.length) : pickV l none (some (e : Int)) = l.take e := by
  unfold pickV kms_lo kms_hi
  simp only [List.drop_zero, Nat.sub_zero]
  rw [if_neg (by omega), Int.toNat_natCast, Nat.min_eq_left h]

theorem run_normal {c : CT} {B z n : Nat} (hB : 2 ≤ B) (hz : z < 2 ^ 64) (hzn : z < B ^ n) (hn : n ≤ 900) :
    (cd_normal c) [some (.lst 0), none] [vl (digs B z n)] = some (.ret (.lst 1), [some (.lst 0), some (.int (ln B z : Int))], [vl (digs B z n), vl (digs B z (ln B z))]) := by
  have o1 := lenOk_64 (show n ≤ 1000 by omega)
  have hl := ln_le hB hz hzn
  have hlt := ln_lt hB hz
  have loop := whileL_inv (t := andB (tval (bin (cmpV .Gt) (var 1) (cst (.int 0)))) (tval (bin (cmpV .Eq) (bin idxV (var 0) (bin (binV .Sub) (var 1) (cst (.int 1)))) (cst (.int 0))))) (b := seqS (augS 1 .Sub (cst (.int 1))) nilS)
    (n - ln B z) (fun i => ([some (.lst 0), some (.int ((n - i : Nat) : Int))], [vl (digs B z n)]))
    (fun i hi => by
      have a1 : ((n - i : Nat) : Int) - 1 = ((n - i - 1 : Nat) : Int) := by omega
      have a2 := idx_vl (B := B) (x := z) (show n - i - 1 < n by omega) (by omega)
      have a3 : dg B z (n - i - 1) = 0 := dg_ge (by omega) hlt (by omega)
      have a4 : (0 : Int) < ((n - i : Nat) : Int) := by omega
      simp only [seqS_ap, nilS_ap, failS_ap, ifS_ap, asg_ap, retS_ap, exprS_ap, augS_ap, setS_ap, unpS_ap, swpS_ap, var_ap, cst_ap, bin_ap, tval_ap, andE_ap, orE_ap, notE_ap, iteE_ap, notB_ap, andB_ap, orB_ap, nilL_ap, consL_ap, tupE_ap, lstE_ap, callN_ap, ucall_ap, appE_ap, sliceE_ap, forS_ap, whileS_ap, valI_ap, enumI_ap, zipI_ap, tgN_ap, tgT_ap, get_0, get_s, setMany_nil, setMany_cons, lenF_fro, lenF_lst, rangeF_1, rangeF_2, rangeF_3, absF_1, intF_1, seqOf_lst, seqOf_fro, cmp_lt, cmp_le, cmp_gt, cmp_ge, cmp_eq, cmp_ne, cmp_eqb, cmp_neb, bin_add, bin_sub, bin_mul, bin_and, iop_add, iop_sub, iop_shr, idxV_fro, idxV_tup, idxV_lst, idx_c0, idx_c1, idx_c2, idx_c3, truth_bool, unpV_tup, unpV_lst, unpV_fro, part_none, part_int, lenOk_0, lenOk_1, lenOk_2, lenOk_3, lenOk_4, Int.ofNat_lt, Option.bind_some, Option.map_some, Option.bind_none, Option.map_none, List.set_cons_zero, List.set_cons_succ, List.length_cons, List.length_nil, List.getElem?_cons_zero, List.getElem?_cons_succ, List.reverse_cons, List.reverse_nil, List.nil_append, List.cons_append, List.append_nil, Nat.zero_add, Nat.reduceAdd, if_true, reduceIte, reduceCtorEq, or_true, true_or, or_false, false_or, Bool.not_true, Bool.not_false, vl_len, digs_len, a1, a2, a3, a4, decide_true, beq_zero])
    (by
      rw [show n - (n - ln B z) = ln B z by omega]
      rcases Nat.eq_zero_or_pos (ln B z) with h0 | h0
      · simp only [seqS_ap, nilS_ap, failS_ap, ifS_ap, asg_ap, retS_ap, exprS_ap, augS_ap, setS_ap, unpS_ap, swpS_ap, var_ap, cst_ap, bin_ap, tval_ap, andE_ap, orE_ap, notE_ap, iteE_ap, notB_ap, andB_ap, orB_ap, nilL_ap, consL_ap, tupE_ap, lstE_ap, callN_ap, ucall_ap, appE_ap, sliceE_ap, forS_ap, whileS_ap, valI_ap, enumI_ap, zipI_ap, tgN_ap, tgT_ap, get_0, get_s, setMany_nil, setMany_cons, lenF_fro, lenF_lst, rangeF_1, rangeF_2, rangeF_3, absF_1, intF_1, seqOf_lst, seqOf_fro, cmp_lt, cmp_le, cmp_gt, cmp_ge, cmp_eq, cmp_ne, cmp_eqb, cmp_neb, bin_add, bin_sub, bin_mul, bin_and, iop_add, iop_sub, iop_shr, idxV_fro, idxV_tup, idxV_lst, idx_c0, idx_c1, idx_c2, idx_c3, truth_bool, unpV_tup, unpV_lst, unpV_fro, part_none, part_int, lenOk_0, lenOk_1, lenOk_2, lenOk_3, lenOk_4, Int.ofNat_lt, Option.bind_some, Option.map_some, Option.bind_none, Option.map_none, List.set_cons_zero, List.set_cons_succ, List.length_cons, List.length_nil, List.getElem?_cons_zero, List.getElem?_cons_succ, List.reverse_cons, List.reverse_nil, List.nil_append, List.cons_append, List.append_nil, Nat.zero_add, Nat.reduceAdd, if_true, reduceIte, reduceCtorEq, or_true, true_or, or_false, false_or, Bool.not_true, Bool.not_false, vl_len, digs_len, h0, decide_false, Bool.false_eq_true]
        rfl
      · have a1 : ((ln B z : Nat) : Int) - 1 = ((ln B z - 1 : Nat) : Int) := by omega
        have a2 := idx_vl (B := B) (x := z) (show ln B z - 1 < n by omega) (by omega)
        have a4 : (0 : Int) < ((ln B z : Nat) : Int) := by omega
        have a3 : ¬ dg B z (ln B z - 1) = 0 := by
          rw [dg_last hB (by rw [show ln B z - 1 + 1 = ln B z by omega]; exact hlt)]
          have := Nat.div_pos (ln_low hB hz h0) (Nat.pow_pos (by omega))
          omega
        simp only [seqS_ap, nilS_ap, failS_ap, ifS_ap, asg_ap, retS_ap, exprS_ap, augS_ap, setS_ap, unpS_ap, swpS_ap, var_ap, cst_ap, bin_ap, tval_ap, andE_ap, orE_ap, notE_ap, iteE_ap, notB_ap, andB_ap, orB_ap, nilL_ap, consL_ap, tupE_ap, lstE_ap, callN_ap, ucall_ap, appE_ap, sliceE_ap, forS_ap, whileS_ap, valI_ap, enumI_ap, zipI_ap, tgN_ap, tgT_ap, get_0, get_s, setMany_nil, setMany_cons, lenF_fro, lenF_lst, rangeF_1, rangeF_2, rangeF_3, absF_1, intF_1, seqOf_lst, seqOf_fro, cmp_lt, cmp_le, cmp_gt, cmp_ge, cmp_eq, cmp_ne, cmp_eqb, cmp_neb, bin_add, bin_sub, bin_mul, bin_and, iop_add, iop_sub, iop_shr, idxV_fro, idxV_tup, idxV_lst, idx_c0, idx_c1, idx_c2, idx_c3, truth_bool, unpV_tup, unpV_lst, unpV_fro, part_none, part_int, lenOk_0, lenOk_1, lenOk_2, lenOk_3, lenOk_4, Int.ofNat_lt, Option.bind_some, Option.map_some, Option.bind_none, Option.map_none, List.set_cons_zero, List.set_cons_succ, List.length_cons, List.length_nil, List.getElem?_cons_zero, List.getElem?_cons_succ, List.reverse_cons, List.reverse_nil, List.nil_append, List.cons_append, List.append_nil, Nat.zero_add, Nat.reduceAdd, if_true, reduceIte, reduceCtorEq, or_true, true_or, or_false, false_or, Bool.not_true, Bool.not_false, vl_len, digs_len, a1, a2, a3, a4, decide_true, decide_false, beq_zero])
    (fun i hi => by
      have a1 : ((n - i : Nat) : Int) - 1 = ((n - (i + 1) : Nat) : Int) := by omega
      simp only [seqS_ap, nilS_ap, failS_ap, ifS_ap, asg_ap, retS_ap, exprS_ap, augS_ap, setS_ap, unpS_ap, swpS_ap, var_ap, cst_ap, bin_ap, tval_ap, andE_ap, orE_ap, notE_ap, iteE_ap, notB_ap, andB_ap, orB_ap, nilL_ap, consL_ap, tupE_ap, lstE_ap, callN_ap, ucall_ap, appE_ap, sliceE_ap, forS_ap, whileS_ap, valI_ap, enumI_ap, zipI_ap, tgN_ap, tgT_ap, get_0, get_s, setMany_nil, setMany_cons, lenF_fro, lenF_lst, rangeF_1, rangeF_2, rangeF_3, absF_1, intF_1, seqOf_lst, seqOf_fro, cmp_lt, cmp_le, cmp_gt, cmp_ge, cmp_eq, cmp_ne, cmp_eqb, cmp_neb, bin_add, bin_sub, bin_mul, bin_and, iop_add, iop_sub, iop_shr, idxV_fro, idxV_tup, idxV_lst, idx_c0, idx_c1, idx_c2, idx_c3, truth_bool, unpV_tup, unpV_lst, unpV_fro, part_none, part_int, lenOk_0, lenOk_1, lenOk_2, lenOk_3, lenOk_4, Int.ofNat_lt, Option.bind_some, Option.map_some, Option.bind_none, Option.map_none, List.set_cons_zero, List.set_cons_succ, List.length_cons, List.length_nil, List.getElem?_cons_zero, List.getElem?_cons_succ, List.reverse_cons, List.reverse_nil, List.nil_append, List.cons_append, List.append_nil, Nat.zero_add, Nat.reduceAdd, if_true, reduceIte, reduceCtorEq, or_true, true_or, or_false, false_or, Bool.not_true, Bool.not_false, vl_len, digs_len, a1]) (n - ln B z) 0 1000 (by omega) (by omega)
  rw [show n - (n - ln B z) = ln B z by omega, Nat.sub_zero] at loop
  have hp : pickV (vl (digs B z n)) none (some (ln B z : Int)) = vl (digs B z (ln B z)) := by
    rw [pick_hi (by rw [vl_len, digs_len]; exact hl)]
    unfold vl
    rw [← List.map_take, digs_take hl]
  unfold cd_normal
  simp only [seqS_ap, nilS_ap, failS_ap, ifS_ap, asg_ap, retS_ap, exprS_ap, augS_ap, setS_ap, unpS_ap, swpS_ap, var_ap, cst_ap, bin_ap, tval_ap, andE_ap, orE_ap, notE_ap, iteE_ap, notB_ap, andB_ap, orB_ap, nilL_ap, consL_ap, tupE_ap, lstE_ap, callN_ap, ucall_ap, appE_ap, sliceE_ap, forS_ap, whileS_ap, valI_ap, enumI_ap, zipI_ap, tgN_ap, tgT_ap, get_0, get_s, setMany_nil, setMany_cons, lenF_fro, lenF_lst, rangeF_1, rangeF_2, rangeF_3, absF_1, intF_1, seqOf_lst, seqOf_fro, cmp_lt, cmp_le, cmp_gt, cmp_ge, cmp_eq, cmp_ne, cmp_eqb, cmp_neb, bin_add, bin_sub, bin_mul, bin_and, iop_add, iop_sub, iop_shr, idxV_fro, idxV_tup, idxV_lst, idx_c0, idx_c1, idx_c2, idx_c3, truth_bool, unpV_tup, unpV_lst, unpV_fro, part_none, part_int, lenOk_0, lenOk_1, lenOk_2, lenOk_3, lenOk_4, Int.ofNat_lt, Option.bind_some, Option.map_some, Option.bind_none, Option.map_none, List.set_cons_zero, List.set_cons_succ, List.length_cons, List.length_nil, List.getElem?_cons_zero, List.getElem?_cons_succ, List.reverse_cons, List.reverse_nil, List.nil_append, List.cons_append, List.append_nil, Nat.zero_add, Nat.reduceAdd, if_true, reduceIte, reduceCtorEq, or_true, true_or, or_false, false_or, Bool.not_true, Bool.not_false, vl_len, digs_len, o1, loop, hp]

theorem callM_lst {d k : Nat} {vs : List V} {H Hn : Hp} {n m : Nat} {cd : PS} {fl : Fl} {L' : Loc} {H' : Hp} {r : V} (hp : purevs vs = false) (hc : codes (callM codes d) k = (n, m, cd)) (hn : vs.length = n)
    (hrun : cd (vs.map some ++ List.replicate m none) H = some (fl, L', H')) (hf : frz 6 H.length H' (outV fl) = some r) (hH : frzH H.length H' = some Hn) : callM codes (d + 1) k vs H = some (r, Hn) := by
  unfold callM
  rw [if_neg (by rw [hp]; exact Bool.false_ne_true), hc]
  unfold runF
  rw [if_pos hn]
  show ((cd (vs.map some ++ List.replicate m none) H).bind _) = _
  rw [hrun]
  show ((frz 6 H.length H' (outV fl)).bind _) = _
  rw [hf]
  show ((frzH H.length H').map _) = _
  rw [hH]
  rfl

theorem sp_normal {d B z n : Nat} (hB : 2 ≤ B) (hz : z < 2 ^ 64) (hzn : z < B ^ n) (hn : n ≤ 900) : callM codes (d + 1) 0 [.lst 0] [vl (digs B z n)] = some (NL B z, [vl (digs B z n)]) := by
  refine callM_lst rfl rfl rfl (run_normal hB hz hzn hn) ?_ ?_
  · show (if 1 < 1 then some (V.lst 1) else ([vl (digs B z n), vl (digs B z (ln B z))][1]?).bind fun vs => (mapO (frz 5 1 _) vs).map .fro) = _
    rw [if_neg (by omega)]
    show (mapO (frz 5 1 _) (vl (digs B z (ln B z)))).map V.fro = _
    rw [frz_vl]; rfl
  · show ((mapO (frz 6 1 _) (vl (digs B z n))).bind fun b => (mapO (mapO (frz 6 1 _)) []).map fun l => b :: l) = _
    rw [frz_vl]; rfl
noncomputable def cmpR (x y : Nat) : Int := if x < y then -1 else if y < x then 1 else 0

theorem beq_cast {a b : Nat} : ((a : Int) != (b : Int)) = decide (a ≠ b) := by
  rw [Bool.eq_iff_iff]; simp
  constructor <;> intro h <;> omega
theorem rangeSize_down {n : Nat} : Builtin.Range.rangeSize ((n : Int) - 1) (-1) (-1) = (n : Int) := by
  unfold Builtin.Range.rangeSize
  rw [if_neg (by decide)]
  split
  · rw [show ((n : Int) - 1 - -1 - 1) = (n : Int) - 1 by omega, show (-(-1 : Int)) = 1 by rfl, Int.ediv_one]; omega
  · omega
theorem okIt_down {n : Nat} (h : n < 1000) : okIt (.rng ((n : Int) - 1) (-1) (-1)) = true := by
  unfold okIt
  simp
  omega

theorem cmp_loop {x y n : Nat} {B : Nat} (hB : 2 ≤ B) (hx : ln B x = n) (hy : ln B y = n) (hn : n ≤ 64) : ∀ (m i fuel : Nat) (o : Option V), n = i + m → m < fuel → x / B ^ m = y / B ^ m →
    ∃ L', forL (.val (.rng ((n : Int) - 1) (-1) (-1))) (tgN 2) (seqS (ifS (tval (bin (cmpV .NotEq) (bin idxV (var 0) (var 2)) (bin idxV (var 1) (var 2)))) (seqS (retS (iteE (tval (bin (cmpV .Lt) (bin idxV (var 0) (var 2)) (bin idxV (var 1) (var 2)))) (cst (.int (-1))) (cst (.int 1)))) nilS) nilS) nilS)
      fuel i [some (NL B x), some (NL B y), o] [] = some (if x = y then .next else .ret (.int (if x < y then -1 else 1)), L', []) := by
  intro m
  induction m with
  | zero =>
    intro i fuel o hi hf he
    obtain ⟨fuel, rfl⟩ := Nat.exists_eq_succ_of_ne_zero (by omega : fuel ≠ 0)
    have hxy : x = y := by simpa using he
    refine ⟨[some (NL B x), some (NL B y), o], ?_⟩
    unfold forL
    have : nx (.val (.rng ((n : Int) - 1) (-1) (-1))) i [] = some none := by
      show some (if (i : Int) < Builtin.Range.rangeSize ((n : Int) - 1) (-1) (-1) then some (V.int ((n : Int) - 1 + i * (-1))) else none) = _
      rw [rangeSize_down, if_neg (by omega)]
    rw [this, if_pos hxy]; rfl
  | succ m ih =>
    intro i fuel o hi hf he
    obtain ⟨fuel, rfl⟩ := Nat.exists_eq_succ_of_ne_zero (by omega : fuel ≠ 0)
    unfold forL
    have h1 : nx (.val (.rng ((n : Int) - 1) (-1) (-1))) i [] = some (some (.int (m : Int))) := by
      show some (if (i : Int) < Builtin.Range.rangeSize ((n : Int) - 1) (-1) (-1) then some (V.int ((n : Int) - 1 + i * (-1))) else none) = _
      rw [rangeSize_down, if_pos (by omega), show (n : Int) - 1 + i * (-1) = m by omega]
    have a1 := idx_vl (B := B) (x := x) (show m < n by omega) (by omega)
    have a2 := idx_vl (B := B) (x := y) (show m < n by omega) (by omega)
    have dx := div_step (B := B) (x := x) (i := m)
    have dy := div_step (B := B) (x := y) (i := m)
    rw [h1]
    simp only [Option.bind_some, tgN_ap, List.set_cons_succ, List.set_cons_zero]
    by_cases hd : dg B x m = dg B y m
    · have hd' : ¬ (dg B x m ≠ dg B y m) := by simpa using hd
      have hb : (seqS (ifS (tval (bin (cmpV .NotEq) (bin idxV (var 0) (var 2)) (bin idxV (var 1) (var 2)))) (seqS (retS (iteE (tval (bin (cmpV .Lt) (bin idxV (var 0) (var 2)) (bin idxV (var 1) (var 2)))) (cst (.int (-1))) (cst (.int 1)))) nilS) nilS) nilS) [some (NL B x), some (NL B y), some (.int (m : Int))] [] = some (.next, [some (NL B x), some (NL B y), some (.int (m : Int))], []) := by
        simp only [seqS_ap, nilS_ap, failS_ap, ifS_ap, asg_ap, retS_ap, exprS_ap, augS_ap, setS_ap, unpS_ap, swpS_ap, var_ap, cst_ap, bin_ap, tval_ap, andE_ap, orE_ap, notE_ap, iteE_ap, notB_ap, andB_ap, orB_ap, nilL_ap, consL_ap, tupE_ap, lstE_ap, callN_ap, ucall_ap, appE_ap, sliceE_ap, forS_ap, whileS_ap, valI_ap, enumI_ap, zipI_ap, tgN_ap, tgT_ap, get_0, get_s, setMany_nil, setMany_cons, lenF_fro, lenF_lst, rangeF_1, rangeF_2, rangeF_3, absF_1, intF_1, seqOf_lst, seqOf_fro, cmp_lt, cmp_le, cmp_gt, cmp_ge, cmp_eq, cmp_ne, cmp_eqb, cmp_neb, bin_add, bin_sub, bin_mul, bin_and, iop_add, iop_sub, iop_shr, idxV_fro, idxV_tup, idxV_lst, idx_c0, idx_c1, idx_c2, idx_c3, truth_bool, unpV_tup, unpV_lst, unpV_fro, part_none, part_int, lenOk_0, lenOk_1, lenOk_2, lenOk_3, lenOk_4, Int.ofNat_lt, Option.bind_some, Option.map_some, Option.bind_none, Option.map_none, List.set_cons_zero, List.set_cons_succ, List.length_cons, List.length_nil, List.getElem?_cons_zero, List.getElem?_cons_succ, List.reverse_cons, List.reverse_nil, List.nil_append, List.cons_append, List.append_nil, Nat.zero_add, Nat.reduceAdd, if_true, reduceIte, reduceCtorEq, or_true, true_or, or_false, false_or, Bool.not_true, Bool.not_false, vl_len, digs_len, NL, hx, hy, a1, a2, beq_cast, hd', decide_false, Bool.false_eq_true]
      rw [hb]
      exact ih (i + 1) fuel _ (by omega) (by omega) (by rw [dx, dy, he, hd])
    · have hd' : (dg B x m ≠ dg B y m) := hd
      have hne : x ≠ y := fun h => hd (by rw [h])
      refine ⟨[some (NL B x), some (NL B y), some (.int (m : Int))], ?_⟩
      have hb : (seqS (ifS (tval (bin (cmpV .NotEq) (bin idxV (var 0) (var 2)) (bin idxV (var 1) (var 2)))) (seqS (retS (iteE (tval (bin (cmpV .Lt) (bin idxV (var 0) (var 2)) (bin idxV (var 1) (var 2)))) (cst (.int (-1))) (cst (.int 1)))) nilS) nilS) nilS) [some (NL B x), some (NL B y), some (.int (m : Int))] [] = some (.ret (.int (if x < y then -1 else 1)), [some (NL B x), some (NL B y), some (.int (m : Int))], []) := by
        by_cases hlt : dg B x m < dg B y m
        · have hxy : x < y := by
            rcases Nat.lt_or_ge x y with h | h
            · exact h
            · have := Nat.div_le_div_right (c := B ^ m) h
              rw [dx, dy, he] at this; omega
          simp only [seqS_ap, nilS_ap, failS_ap, ifS_ap, asg_ap, retS_ap, exprS_ap, augS_ap, setS_ap, unpS_ap, swpS_ap, var_ap, cst_ap, bin_ap, tval_ap, andE_ap, orE_ap, notE_ap, iteE_ap, notB_ap, andB_ap, orB_ap, nilL_ap, consL_ap, tupE_ap, lstE_ap, callN_ap, ucall_ap, appE_ap, sliceE_ap, forS_ap, whileS_ap, valI_ap, enumI_ap, zipI_ap, tgN_ap, tgT_ap, get_0, get_s, setMany_nil, setMany_cons, lenF_fro, lenF_lst, rangeF_1, rangeF_2, rangeF_3, absF_1, intF_1, seqOf_lst, seqOf_fro, cmp_lt, cmp_le, cmp_gt, cmp_ge, cmp_eq, cmp_ne, cmp_eqb, cmp_neb, bin_add, bin_sub, bin_mul, bin_and, iop_add, iop_sub, iop_shr, idxV_fro, idxV_tup, idxV_lst, idx_c0, idx_c1, idx_c2, idx_c3, truth_bool, unpV_tup, unpV_lst, unpV_fro, part_none, part_int, lenOk_0, lenOk_1, lenOk_2, lenOk_3, lenOk_4, Int.ofNat_lt, Option.bind_some, Option.map_some, Option.bind_none, Option.map_none, List.set_cons_zero, List.set_cons_succ, List.length_cons, List.length_nil, List.getElem?_cons_zero, List.getElem?_cons_succ, List.reverse_cons, List.reverse_nil, List.nil_append, List.cons_append, List.append_nil, Nat.zero_add, Nat.reduceAdd, if_true, reduceIte, reduceCtorEq, or_true, true_or, or_false, false_or, Bool.not_true, Bool.not_false, vl_len, digs_len, NL, hx, hy, a1, a2, beq_cast, hd', decide_true, ne_eq, not_false_eq_true, hlt, hxy]
        · have hxy : ¬ x < y := fun h => by
            have := Nat.div_le_div_right (c := B ^ m) (Nat.le_of_lt h)
            rw [dx, dy, he] at this; omega
          simp only [seqS_ap, nilS_ap, failS_ap, ifS_ap, asg_ap, retS_ap, exprS_ap, augS_ap, setS_ap, unpS_ap, swpS_ap, var_ap, cst_ap, bin_ap, tval_ap, andE_ap, orE_ap, notE_ap, iteE_ap, notB_ap, andB_ap, orB_ap, nilL_ap, consL_ap, tupE_ap, lstE_ap, callN_ap, ucall_ap, appE_ap, sliceE_ap, forS_ap, whileS_ap, valI_ap, enumI_ap, zipI_ap, tgN_ap, tgT_ap, get_0, get_s, setMany_nil, setMany_cons, lenF_fro, lenF_lst, rangeF_1, rangeF_2, rangeF_3, absF_1, intF_1, seqOf_lst, seqOf_fro, cmp_lt, cmp_le, cmp_gt, cmp_ge, cmp_eq, cmp_ne, cmp_eqb, cmp_neb, bin_add, bin_sub, bin_mul, bin_and, iop_add, iop_sub, iop_shr, idxV_fro, idxV_tup, idxV_lst, idx_c0, idx_c1, idx_c2, idx_c3, truth_bool, unpV_tup, unpV_lst, unpV_fro, part_none, part_int, lenOk_0, lenOk_1, lenOk_2, lenOk_3, lenOk_4, Int.ofNat_lt, Option.bind_some, Option.map_some, Option.bind_none, Option.map_none, List.set_cons_zero, List.set_cons_succ, List.length_cons, List.length_nil, List.getElem?_cons_zero, List.getElem?_cons_succ, List.reverse_cons, List.reverse_nil, List.nil_append, List.cons_append, List.append_nil, Nat.zero_add, Nat.reduceAdd, if_true, reduceIte, reduceCtorEq, or_true, true_or, or_false, false_or, Bool.not_true, Bool.not_false, vl_len, digs_len, NL, hx, hy, a1, a2, beq_cast, hd', decide_true, decide_false, ne_eq, not_false_eq_true, hlt, hxy, Bool.false_eq_true]
      rw [hb, if_neg hne]
      rfl

theorem run_compare {c : CT} {B x y : Nat} (hB : 2 ≤ B) (hx : x < 2 ^ 60) (hy : y < 2 ^ 60) :
    ∃ L', (cd_compare c) [some (NL B x), some (NL B y), none] [] = some (.ret (.int (cmpR x y)), L', []) := by
  have hnx := ln_le64 hB (show x < 2 ^ 64 by omega)
  have hny := ln_le64 hB (show y < 2 ^ 64 by omega)
  have o1 := lenOk_64 (show ln B x ≤ 1000 by omega)
  have o2 := lenOk_64 (show ln B y ≤ 1000 by omega)
  have hylt := ln_lt hB (show y < 2 ^ 64 by omega)
  have hxlt := ln_lt hB (show x < 2 ^ 64 by omega)
  rcases Nat.lt_trichotomy (ln B x) (ln B y) with h | h | h
  · have hxy : x < y := by
      rcases Nat.lt_or_ge x y with h' | h'
      · exact h'
      · have := ln_mono hB (show x < 2 ^ 64 by omega) h'; omega
    refine ⟨[some (NL B x), some (NL B y), none], ?_⟩
    have h2 : ln B x ≠ ln B y := by omega
    unfold cd_compare
    simp only [seqS_ap, nilS_ap, failS_ap, ifS_ap, asg_ap, retS_ap, exprS_ap, augS_ap, setS_ap, unpS_ap, swpS_ap, var_ap, cst_ap, bin_ap, tval_ap, andE_ap, orE_ap, notE_ap, iteE_ap, notB_ap, andB_ap, orB_ap, nilL_ap, consL_ap, tupE_ap, lstE_ap, callN_ap, ucall_ap, appE_ap, sliceE_ap, forS_ap, whileS_ap, valI_ap, enumI_ap, zipI_ap, tgN_ap, tgT_ap, get_0, get_s, setMany_nil, setMany_cons, lenF_fro, lenF_lst, rangeF_1, rangeF_2, rangeF_3, absF_1, intF_1, seqOf_lst, seqOf_fro, cmp_lt, cmp_le, cmp_gt, cmp_ge, cmp_eq, cmp_ne, cmp_eqb, cmp_neb, bin_add, bin_sub, bin_mul, bin_and, iop_add, iop_sub, iop_shr, idxV_fro, idxV_tup, idxV_lst, idx_c0, idx_c1, idx_c2, idx_c3, truth_bool, unpV_tup, unpV_lst, unpV_fro, part_none, part_int, lenOk_0, lenOk_1, lenOk_2, lenOk_3, lenOk_4, Int.ofNat_lt, Option.bind_some, Option.map_some, Option.bind_none, Option.map_none, List.set_cons_zero, List.set_cons_succ, List.length_cons, List.length_nil, List.getElem?_cons_zero, List.getElem?_cons_succ, List.reverse_cons, List.reverse_nil, List.nil_append, List.cons_append, List.append_nil, Nat.zero_add, Nat.reduceAdd, if_true, reduceIte, reduceCtorEq, or_true, true_or, or_false, false_or, Bool.not_true, Bool.not_false, vl_len, digs_len, NL, o1, o2, beq_cast, h, h2, decide_true, ne_eq, not_false_eq_true, cmpR, hxy]
  · have hl : x / B ^ ln B x = y / B ^ ln B x := by rw [Nat.div_eq_of_lt hxlt, h, Nat.div_eq_of_lt hylt]
    obtain ⟨L', hloop⟩ := cmp_loop hB rfl h.symm hnx (ln B x) 0 1000 none (by omega) (by omega) hl
    refine ⟨L', ?_⟩
    have h2 : ¬ (ln B x ≠ ln B y) := by simpa using h
    have h3 : ln B y = ln B x := h.symm
    have o4 := okIt_down (show ln B x < 1000 by omega)
    simp only [NL, h3] at hloop
    by_cases hxy : x = y
    · subst hxy
      simp only [if_true] at hloop
      unfold cd_compare
      simp only [seqS_ap, nilS_ap, failS_ap, ifS_ap, asg_ap, retS_ap, exprS_ap, augS_ap, setS_ap, unpS_ap, swpS_ap, var_ap, cst_ap, bin_ap, tval_ap, andE_ap, orE_ap, notE_ap, iteE_ap, notB_ap, andB_ap, orB_ap, nilL_ap, consL_ap, tupE_ap, lstE_ap, callN_ap, ucall_ap, appE_ap, sliceE_ap, forS_ap, whileS_ap, valI_ap, enumI_ap, zipI_ap, tgN_ap, tgT_ap, get_0, get_s, setMany_nil, setMany_cons, lenF_fro, lenF_lst, rangeF_1, rangeF_2, rangeF_3, absF_1, intF_1, seqOf_lst, seqOf_fro, cmp_lt, cmp_le, cmp_gt, cmp_ge, cmp_eq, cmp_ne, cmp_eqb, cmp_neb, bin_add, bin_sub, bin_mul, bin_and, iop_add, iop_sub, iop_shr, idxV_fro, idxV_tup, idxV_lst, idx_c0, idx_c1, idx_c2, idx_c3, truth_bool, unpV_tup, unpV_lst, unpV_fro, part_none, part_int, lenOk_0, lenOk_1, lenOk_2, lenOk_3, lenOk_4, Int.ofNat_lt, Option.bind_some, Option.map_some, Option.bind_none, Option.map_none, List.set_cons_zero, List.set_cons_succ, List.length_cons, List.length_nil, List.getElem?_cons_zero, List.getElem?_cons_succ, List.reverse_cons, List.reverse_nil, List.nil_append, List.cons_append, List.append_nil, Nat.zero_add, Nat.reduceAdd, if_true, reduceIte, reduceCtorEq, or_true, true_or, or_false, false_or, Bool.not_true, Bool.not_false, vl_len, digs_len, NL, o1, beq_cast, decide_false, ne_eq, not_true_eq_false, Bool.false_eq_true, o4, hloop, cmpR, Nat.lt_irrefl]
    · simp only [hxy, if_false] at hloop
      unfold cd_compare
      simp only [seqS_ap, nilS_ap, failS_ap, ifS_ap, asg_ap, retS_ap, exprS_ap, augS_ap, setS_ap, unpS_ap, swpS_ap, var_ap, cst_ap, bin_ap, tval_ap, andE_ap, orE_ap, notE_ap, iteE_ap, notB_ap, andB_ap, orB_ap, nilL_ap, consL_ap, tupE_ap, lstE_ap, callN_ap, ucall_ap, appE_ap, sliceE_ap, forS_ap, whileS_ap, valI_ap, enumI_ap, zipI_ap, tgN_ap, tgT_ap, get_0, get_s, setMany_nil, setMany_cons, lenF_fro, lenF_lst, rangeF_1, rangeF_2, rangeF_3, absF_1, intF_1, seqOf_lst, seqOf_fro, cmp_lt, cmp_le, cmp_gt, cmp_ge, cmp_eq, cmp_ne, cmp_eqb, cmp_neb, bin_add, bin_sub, bin_mul, bin_and, iop_add, iop_sub, iop_shr, idxV_fro, idxV_tup, idxV_lst, idx_c0, idx_c1, idx_c2, idx_c3, truth_bool, unpV_tup, unpV_lst, unpV_fro, part_none, part_int, lenOk_0, lenOk_1, lenOk_2, lenOk_3, lenOk_4, Int.ofNat_lt, Option.bind_some, Option.map_some, Option.bind_none, Option.map_none, List.set_cons_zero, List.set_cons_succ, List.length_cons, List.length_nil, List.getElem?_cons_zero, List.getElem?_cons_succ, List.reverse_cons, List.reverse_nil, List.nil_append, List.cons_append, List.append_nil, Nat.zero_add, Nat.reduceAdd, if_true, reduceIte, reduceCtorEq, or_true, true_or, or_false, false_or, Bool.not_true, Bool.not_false, vl_len, digs_len, NL, o1, h3, beq_cast, decide_false, ne_eq, not_true_eq_false, Bool.false_eq_true, o4, hloop, cmpR]
      by_cases h4 : x < y
      · simp [h4]
      · have h5 : y < x := by omega
        simp [h4, h5]
  · have hxy : y < x := by
      rcases Nat.lt_or_ge y x with h' | h'
      · exact h'
      · have := ln_mono hB (show y < 2 ^ 64 by omega) h'; omega
    refine ⟨[some (NL B x), some (NL B y), none], ?_⟩
    have h2 : ln B x ≠ ln B y := by omega
    have h3 : ¬ ln B x < ln B y := by omega
    have h4 : ¬ x < y := by omega
    unfold cd_compare
    simp only [seqS_ap, nilS_ap, failS_ap, ifS_ap, asg_ap, retS_ap, exprS_ap, augS_ap, setS_ap, unpS_ap, swpS_ap, var_ap, cst_ap, bin_ap, tval_ap, andE_ap, orE_ap, notE_ap, iteE_ap, notB_ap, andB_ap, orB_ap, nilL_ap, consL_ap, tupE_ap, lstE_ap, callN_ap, ucall_ap, appE_ap, sliceE_ap, forS_ap, whileS_ap, valI_ap, enumI_ap, zipI_ap, tgN_ap, tgT_ap, get_0, get_s, setMany_nil, setMany_cons, lenF_fro, lenF_lst, rangeF_1, rangeF_2, rangeF_3, absF_1, intF_1, seqOf_lst, seqOf_fro, cmp_lt, cmp_le, cmp_gt, cmp_ge, cmp_eq, cmp_ne, cmp_eqb, cmp_neb, bin_add, bin_sub, bin_mul, bin_and, iop_add, iop_sub, iop_shr, idxV_fro, idxV_tup, idxV_lst, idx_c0, idx_c1, idx_c2, idx_c3, truth_bool, unpV_tup, unpV_lst, unpV_fro, part_none, part_int, lenOk_0, lenOk_1, lenOk_2, lenOk_3, lenOk_4, Int.ofNat_lt, Option.bind_some, Option.map_some, Option.bind_none, Option.map_none, List.set_cons_zero, List.set_cons_succ, List.length_cons, List.length_nil, List.getElem?_cons_zero, List.getElem?_cons_succ, List.reverse_cons, List.reverse_nil, List.nil_append, List.cons_append, List.append_nil, Nat.zero_add, Nat.reduceAdd, if_true, reduceIte, reduceCtorEq, or_true, true_or, or_false, false_or, Bool.not_true, Bool.not_false, vl_len, digs_len, NL, o1, o2, beq_cast, h2, h3, h4, decide_true, decide_false, ne_eq, not_false_eq_true, cmpR, hxy, Bool.false_eq_true]

theorem pure_2 {B x y : Nat} : purevs [NL B x, NL B y] = true := by
  show (purevs _ && (purevs _ && true)) = true
  rw [purevs_vl, purevs_vl]; rfl
theorem pure_2w {B x y : Nat} {w : Int} : purevs [NL B x, NL B y, .int w] = true := by
  show (purevs _ && (purevs _ && true)) = true
  rw [purevs_vl, purevs_vl]; rfl

theorem sp_compare {d B x y : Nat} {H : Hp} (hB : 2 ≤ B) (hx : x < 2 ^ 60) (hy : y < 2 ^ 60) : callM codes (d + 1) 2 [NL B x, NL B y] H = some (.int (cmpR x y), H) := by
  obtain ⟨L', e⟩ := run_compare (c := callM codes d) hB hx hy
  exact callM_pure pure_2 rfl rfl e rfl

noncomputable def limb (B x y i : Nat) : Int := (dg B x i : Int) - bor B x y i - dg B y i
noncomputable def limv (B x y i : Nat) : Option V := if i = 0 then none else some (.int (limb B x y (i - 1)))
noncomputable def subF (w x y i : Nat) : Loc × Hp := ([some (NL (2 ^ w) x), some (NL (2 ^ w) y), some (.int w), some (.lst 0), some (.int (bor (2 ^ w) x y i)), some (.int (2 ^ w)), atv i, limv (2 ^ w) x y i], [vl (digs (2 ^ w) (x - y) i)])

theorem run_sub {d w x y : Nat} (hw : 1 ≤ w) (hw2 : w ≤ 1000) (hx : x < 2 ^ 60) (hyx : y ≤ x) :
    ∃ L, (cd_sub (callM codes (d + 1))) [some (NL (2 ^ w) x), some (NL (2 ^ w) y), some (.int w), none, none, none, none, none] [] = some (.ret (NL (2 ^ w) (x - y)), L, [vl (digs (2 ^ w) (x - y) (ln (2 ^ w) x))]) := by
  have hB := pow_ge2 hw
  have hnx := ln_le64 hB (show x < 2 ^ 64 by omega)
  have hny := ln_le64 hB (show y < 2 ^ 64 by omega)
  have o1 := lenOk_64 (show ln (2 ^ w) x ≤ 1000 by omega)
  have o2 := lenOk_64 (show ln (2 ^ w) y ≤ 1000 by omega)
  have o3 := bin_shl1 (H := [[]]) hw2
  have o4 := okIt_0 (show ln (2 ^ w) x < 1000 by omega)
  have hylt := ln_lt hB (show y < 2 ^ 64 by omega)
  have hxlt := ln_lt hB (show x < 2 ^ 64 by omega)
  have hcmp := sp_compare (d := d) (H := []) hB hx (show y < 2 ^ 60 by omega)
  have hc0 : ¬ cmpR x y < 0 := by
    unfold cmpR
    rw [if_neg (by omega)]
    split <;> omega
  have loop := forL_inv (it := .val (.rng 0 (ln (2 ^ w) x : Int) 1)) (tg := tgN 6) (b := (seqS (asg 7 (bin (binV .Sub) (bin (binV .Sub) (bin idxV (var 0) (var 6)) (var 4)) (iteE (tval (bin (cmpV .Lt) (var 6) (callN lenF (consL (var 1) nilL)))) (bin idxV (var 1) (var 6)) (cst (.int 0)))))
    (seqS (asg 4 (iteE (tval (bin (cmpV .Lt) (var 7) (cst (.int 0)))) (cst (.int 1)) (cst (.int 0))))
    (seqS (exprS (appE (var 3) (iteE (tval (bin (cmpV .Lt) (var 7) (cst (.int 0)))) (bin (binV .Add) (var 7) (var 5)) (var 7))))
    nilS)))) (ln (2 ^ w) x) (subF w x y) (fun i => .int (i : Int)) (fun i hi => nx_0 hi) nx_0_end
    (fun i hi => by
      refine ⟨_, rfl, ?_⟩
      have a1 := idx_vl (B := 2 ^ w) (x := x) hi (by omega)
      have a3 := lenOk_64 (show i ≤ 1000 by omega)
      obtain ⟨s1, s2⟩ := sub_col (p := i) hB hyx
      have e7 : (asg 7 (bin (binV .Sub) (bin (binV .Sub) (bin idxV (var 0) (var 6)) (var 4)) (iteE (tval (bin (cmpV .Lt) (var 6) (callN lenF (consL (var 1) nilL)))) (bin idxV (var 1) (var 6)) (cst (.int 0))))) [some (NL (2 ^ w) x), some (NL (2 ^ w) y), some (.int w), some (.lst 0), some (.int (bor (2 ^ w) x y i)), some (.int (2 ^ w)), some (.int (i : Int)), limv (2 ^ w) x y i] [vl (digs (2 ^ w) (x - y) i)] =
        some (.next, [some (NL (2 ^ w) x), some (NL (2 ^ w) y), some (.int w), some (.lst 0), some (.int (bor (2 ^ w) x y i)), some (.int (2 ^ w)), some (.int (i : Int)), some (.int (limb (2 ^ w) x y i))], [vl (digs (2 ^ w) (x - y) i)]) := by
        by_cases hi2 : i < ln (2 ^ w) y
        · have a2 := idx_vl (B := 2 ^ w) (x := y) hi2 (by omega)
          simp only [seqS_ap, nilS_ap, failS_ap, ifS_ap, asg_ap, retS_ap, exprS_ap, augS_ap, setS_ap, unpS_ap, swpS_ap, var_ap, cst_ap, bin_ap, tval_ap, andE_ap, orE_ap, notE_ap, iteE_ap, notB_ap, andB_ap, orB_ap, nilL_ap, consL_ap, tupE_ap, lstE_ap, callN_ap, ucall_ap, appE_ap, sliceE_ap, forS_ap, whileS_ap, valI_ap, enumI_ap, zipI_ap, tgN_ap, tgT_ap, get_0, get_s, setMany_nil, setMany_cons, lenF_fro, lenF_lst, rangeF_1, rangeF_2, rangeF_3, absF_1, intF_1, seqOf_lst, seqOf_fro, cmp_lt, cmp_le, cmp_gt, cmp_ge, cmp_eq, cmp_ne, cmp_eqb, cmp_neb, bin_add, bin_sub, bin_mul, bin_and, iop_add, iop_sub, iop_shr, idxV_fro, idxV_tup, idxV_lst, idx_c0, idx_c1, idx_c2, idx_c3, truth_bool, unpV_tup, unpV_lst, unpV_fro, part_none, part_int, lenOk_0, lenOk_1, lenOk_2, lenOk_3, lenOk_4, Int.ofNat_lt, Option.bind_some, Option.map_some, Option.bind_none, Option.map_none, List.set_cons_zero, List.set_cons_succ, List.length_cons, List.length_nil, List.getElem?_cons_zero, List.getElem?_cons_succ, List.reverse_cons, List.reverse_nil, List.nil_append, List.cons_append, List.append_nil, Nat.zero_add, Nat.reduceAdd, if_true, reduceIte, reduceCtorEq, or_true, true_or, or_false, false_or, Bool.not_true, Bool.not_false, vl_len, digs_len, NL, a1, a2, o2, hi2, decide_true, limb]
        · have a2 : dg (2 ^ w) y i = 0 := dg_ge (by omega) hylt (by omega)
          simp only [seqS_ap, nilS_ap, failS_ap, ifS_ap, asg_ap, retS_ap, exprS_ap, augS_ap, setS_ap, unpS_ap, swpS_ap, var_ap, cst_ap, bin_ap, tval_ap, andE_ap, orE_ap, notE_ap, iteE_ap, notB_ap, andB_ap, orB_ap, nilL_ap, consL_ap, tupE_ap, lstE_ap, callN_ap, ucall_ap, appE_ap, sliceE_ap, forS_ap, whileS_ap, valI_ap, enumI_ap, zipI_ap, tgN_ap, tgT_ap, get_0, get_s, setMany_nil, setMany_cons, lenF_fro, lenF_lst, rangeF_1, rangeF_2, rangeF_3, absF_1, intF_1, seqOf_lst, seqOf_fro, cmp_lt, cmp_le, cmp_gt, cmp_ge, cmp_eq, cmp_ne, cmp_eqb, cmp_neb, bin_add, bin_sub, bin_mul, bin_and, iop_add, iop_sub, iop_shr, idxV_fro, idxV_tup, idxV_lst, idx_c0, idx_c1, idx_c2, idx_c3, truth_bool, unpV_tup, unpV_lst, unpV_fro, part_none, part_int, lenOk_0, lenOk_1, lenOk_2, lenOk_3, lenOk_4, Int.ofNat_lt, Option.bind_some, Option.map_some, Option.bind_none, Option.map_none, List.set_cons_zero, List.set_cons_succ, List.length_cons, List.length_nil, List.getElem?_cons_zero, List.getElem?_cons_succ, List.reverse_cons, List.reverse_nil, List.nil_append, List.cons_append, List.append_nil, Nat.zero_add, Nat.reduceAdd, if_true, reduceIte, reduceCtorEq, or_true, true_or, or_false, false_or, Bool.not_true, Bool.not_false, vl_len, digs_len, NL, a1, o2, hi2, decide_false, Bool.false_eq_true, limb, a2]
          rfl
      have s1' : (if limb (2 ^ w) x y i < 0 then (1 : Int) else 0) = bor (2 ^ w) x y (i + 1) := s1
      have s2' : (if limb (2 ^ w) x y i < 0 then limb (2 ^ w) x y i + 2 ^ w else limb (2 ^ w) x y i) = dg (2 ^ w) (x - y) i := by
        rw [← s2]; push_cast; rfl
      simp only [subF, List.set_cons_zero, List.set_cons_succ]
      rw [seqS_ap, e7]
      by_cases hneg : limb (2 ^ w) x y i < 0
      · rw [if_pos hneg] at s1' s2'
        simp only [seqS_ap, nilS_ap, failS_ap, ifS_ap, asg_ap, retS_ap, exprS_ap, augS_ap, setS_ap, unpS_ap, swpS_ap, var_ap, cst_ap, bin_ap, tval_ap, andE_ap, orE_ap, notE_ap, iteE_ap, notB_ap, andB_ap, orB_ap, nilL_ap, consL_ap, tupE_ap, lstE_ap, callN_ap, ucall_ap, appE_ap, sliceE_ap, forS_ap, whileS_ap, valI_ap, enumI_ap, zipI_ap, tgN_ap, tgT_ap, get_0, get_s, setMany_nil, setMany_cons, lenF_fro, lenF_lst, rangeF_1, rangeF_2, rangeF_3, absF_1, intF_1, seqOf_lst, seqOf_fro, cmp_lt, cmp_le, cmp_gt, cmp_ge, cmp_eq, cmp_ne, cmp_eqb, cmp_neb, bin_add, bin_sub, bin_mul, bin_and, iop_add, iop_sub, iop_shr, idxV_fro, idxV_tup, idxV_lst, idx_c0, idx_c1, idx_c2, idx_c3, truth_bool, unpV_tup, unpV_lst, unpV_fro, part_none, part_int, lenOk_0, lenOk_1, lenOk_2, lenOk_3, lenOk_4, Int.ofNat_lt, Option.bind_some, Option.map_some, Option.bind_none, Option.map_none, List.set_cons_zero, List.set_cons_succ, List.length_cons, List.length_nil, List.getElem?_cons_zero, List.getElem?_cons_succ, List.reverse_cons, List.reverse_nil, List.nil_append, List.cons_append, List.append_nil, Nat.zero_add, Nat.reduceAdd, if_true, reduceIte, reduceCtorEq, or_true, true_or, or_false, false_or, Bool.not_true, Bool.not_false, vl_len, digs_len, hneg, decide_true, a3, s1'.symm, s2', digs_succ, vl_append, atv_succ]
        rfl
      · rw [if_neg hneg] at s1' s2'
        have e9 : vl [dg (2 ^ w) (x - y) i] = [V.int (limb (2 ^ w) x y i)] := by rw [s2']; rfl
        simp only [seqS_ap, nilS_ap, failS_ap, ifS_ap, asg_ap, retS_ap, exprS_ap, augS_ap, setS_ap, unpS_ap, swpS_ap, var_ap, cst_ap, bin_ap, tval_ap, andE_ap, orE_ap, notE_ap, iteE_ap, notB_ap, andB_ap, orB_ap, nilL_ap, consL_ap, tupE_ap, lstE_ap, callN_ap, ucall_ap, appE_ap, sliceE_ap, forS_ap, whileS_ap, valI_ap, enumI_ap, zipI_ap, tgN_ap, tgT_ap, get_0, get_s, setMany_nil, setMany_cons, lenF_fro, lenF_lst, rangeF_1, rangeF_2, rangeF_3, absF_1, intF_1, seqOf_lst, seqOf_fro, cmp_lt, cmp_le, cmp_gt, cmp_ge, cmp_eq, cmp_ne, cmp_eqb, cmp_neb, bin_add, bin_sub, bin_mul, bin_and, iop_add, iop_sub, iop_shr, idxV_fro, idxV_tup, idxV_lst, idx_c0, idx_c1, idx_c2, idx_c3, truth_bool, unpV_tup, unpV_lst, unpV_fro, part_none, part_int, lenOk_0, lenOk_1, lenOk_2, lenOk_3, lenOk_4, Int.ofNat_lt, Option.bind_some, Option.map_some, Option.bind_none, Option.map_none, List.set_cons_zero, List.set_cons_succ, List.length_cons, List.length_nil, List.getElem?_cons_zero, List.getElem?_cons_succ, List.reverse_cons, List.reverse_nil, List.nil_append, List.cons_append, List.append_nil, Nat.zero_add, Nat.reduceAdd, if_true, reduceIte, reduceCtorEq, or_true, true_or, or_false, false_or, Bool.not_true, Bool.not_false, vl_len, digs_len, hneg, decide_false, Bool.false_eq_true, a3, s1'.symm, digs_succ, vl_append, atv_succ, e9]
        rfl) (ln (2 ^ w) x) 0 1000 (by omega) (by omega)
  have e0 : subF w x y 0 = ([some (NL (2 ^ w) x), some (NL (2 ^ w) y), some (.int w), some (.lst 0), some (.int 0), some (.int (2 ^ w)), none, none], [[]]) := by
    simp [subF, atv, limv, digs, vl, bor, Nat.mod_one]
  rw [e0] at loop
  have hn := sp_normal (d := d) (B := 2 ^ w) (z := x - y) (n := ln (2 ^ w) x) hB (by omega) (by omega) (by omega)
  simp only [NL, subF] at loop hcmp hn
  refine ⟨(subF w x y (ln (2 ^ w) x)).1, ?_⟩
  unfold cd_sub
  simp only [seqS_ap, nilS_ap, failS_ap, ifS_ap, asg_ap, retS_ap, exprS_ap, augS_ap, setS_ap, unpS_ap, swpS_ap, var_ap, cst_ap, bin_ap, tval_ap, andE_ap, orE_ap, notE_ap, iteE_ap, notB_ap, andB_ap, orB_ap, nilL_ap, consL_ap, tupE_ap, lstE_ap, callN_ap, ucall_ap, appE_ap, sliceE_ap, forS_ap, whileS_ap, valI_ap, enumI_ap, zipI_ap, tgN_ap, tgT_ap, get_0, get_s, setMany_nil, setMany_cons, lenF_fro, lenF_lst, rangeF_1, rangeF_2, rangeF_3, absF_1, intF_1, seqOf_lst, seqOf_fro, cmp_lt, cmp_le, cmp_gt, cmp_ge, cmp_eq, cmp_ne, cmp_eqb, cmp_neb, bin_add, bin_sub, bin_mul, bin_and, iop_add, iop_sub, iop_shr, idxV_fro, idxV_tup, idxV_lst, idx_c0, idx_c1, idx_c2, idx_c3, truth_bool, unpV_tup, unpV_lst, unpV_fro, part_none, part_int, lenOk_0, lenOk_1, lenOk_2, lenOk_3, lenOk_4, Int.ofNat_lt, Option.bind_some, Option.map_some, Option.bind_none, Option.map_none, List.set_cons_zero, List.set_cons_succ, List.length_cons, List.length_nil, List.getElem?_cons_zero, List.getElem?_cons_succ, List.reverse_cons, List.reverse_nil, List.nil_append, List.cons_append, List.append_nil, Nat.zero_add, Nat.reduceAdd, if_true, reduceIte, reduceCtorEq, or_true, true_or, or_false, false_or, Bool.not_true, Bool.not_false, vl_len, digs_len, NL, hcmp, hc0, decide_false, Bool.false_eq_true, o3, o1, o4, loop, hn, subF]

theorem sp_sub {d w x y : Nat} {H : Hp} (hw : 1 ≤ w) (hw2 : w ≤ 1000) (hx : x < 2 ^ 60) (hyx : y ≤ x) : callM codes (d + 2) 4 [NL (2 ^ w) x, NL (2 ^ w) y, .int w] H = some (NL (2 ^ w) (x - y), H) := by
  obtain ⟨L, e⟩ := run_sub (d := d) hw hw2 hx hyx
  exact callM_pure pure_2w rfl rfl e frz_fro
noncomputable def sgn (b : Bool) (x : Nat) : Int := if b then -(x : Int) else x
theorem sgn_SG {w : Nat} {b : Bool} {x : Nat} : SG w (sgn b x) = .tup [.bool (b && decide (x ≠ 0)), NL (2 ^ w) x] := by
  unfold SG sgn
  cases b
  · simp
  · have e1 : (-(x : Int)).natAbs = x := by omega
    have e2 : decide (-(x : Int) < 0) = decide (x ≠ 0) := by rw [decide_eq_decide]; omega
    simp only [if_true, e1, e2, Bool.true_and]
theorem ln_pos {B x : Nat} (hB : 2 ≤ B) (hx : x < 2 ^ 64) : (0 < ln B x) ↔ x ≠ 0 := by
  constructor
  · rintro h rfl; simp [ln_zero] at h
  · intro h
    exact ln_ge hB hx (by simp; omega)
theorem cast_pos {n : Nat} : decide ((0 : Int) < (n : Int)) = decide (0 < n) := by
  rw [Bool.eq_iff_iff]; simp

theorem sp_signed {d w x : Nat} {b : Bool} {H : Hp} (hw : 1 ≤ w) (hx : x < 2 ^ 62) : callM codes (d + 1) 11 [.bool b, NL (2 ^ w) x] H = some (SG w (sgn b x), H) := by
  have hB := pow_ge2 hw
  have hnx := ln_le64 hB (show x < 2 ^ 64 by omega)
  have o1 := lenOk_64 (show ln (2 ^ w) x ≤ 1000 by omega)
  have hl := ln_pos hB (show x < 2 ^ 64 by omega)
  have hp : purevs [.bool b, NL (2 ^ w) x] = true := by
    show (true && (purevs _ && true)) = true
    rw [purevs_vl]; rfl
  have run : (cd_signed (callM codes d)) [some (.bool b), some (NL (2 ^ w) x)] [] = some (.ret (SG w (sgn b x)), [some (.bool b), some (NL (2 ^ w) x)], []) := by
    rw [sgn_SG]
    unfold cd_signed
    cases b
    · simp only [seqS_ap, nilS_ap, failS_ap, ifS_ap, asg_ap, retS_ap, exprS_ap, augS_ap, setS_ap, unpS_ap, swpS_ap, var_ap, cst_ap, bin_ap, tval_ap, andE_ap, orE_ap, notE_ap, iteE_ap, notB_ap, andB_ap, orB_ap, nilL_ap, consL_ap, tupE_ap, lstE_ap, callN_ap, ucall_ap, appE_ap, sliceE_ap, forS_ap, whileS_ap, valI_ap, enumI_ap, zipI_ap, tgN_ap, tgT_ap, get_0, get_s, setMany_nil, setMany_cons, lenF_fro, lenF_lst, rangeF_1, rangeF_2, rangeF_3, absF_1, intF_1, seqOf_lst, seqOf_fro, cmp_lt, cmp_le, cmp_gt, cmp_ge, cmp_eq, cmp_ne, cmp_eqb, cmp_neb, bin_add, bin_sub, bin_mul, bin_and, iop_add, iop_sub, iop_shr, idxV_fro, idxV_tup, idxV_lst, idx_c0, idx_c1, idx_c2, idx_c3, truth_bool, unpV_tup, unpV_lst, unpV_fro, part_none, part_int, lenOk_0, lenOk_1, lenOk_2, lenOk_3, lenOk_4, Int.ofNat_lt, Option.bind_some, Option.map_some, Option.bind_none, Option.map_none, List.set_cons_zero, List.set_cons_succ, List.length_cons, List.length_nil, List.getElem?_cons_zero, List.getElem?_cons_succ, List.reverse_cons, List.reverse_nil, List.nil_append, List.cons_append, List.append_nil, Nat.zero_add, Nat.reduceAdd, if_true, reduceIte, reduceCtorEq, or_true, true_or, or_false, false_or, Bool.not_true, Bool.not_false, vl_len, digs_len, NL, o1, Bool.false_and, Bool.false_eq_true]
    · simp only [seqS_ap, nilS_ap, failS_ap, ifS_ap, asg_ap, retS_ap, exprS_ap, augS_ap, setS_ap, unpS_ap, swpS_ap, var_ap, cst_ap, bin_ap, tval_ap, andE_ap, orE_ap, notE_ap, iteE_ap, notB_ap, andB_ap, orB_ap, nilL_ap, consL_ap, tupE_ap, lstE_ap, callN_ap, ucall_ap, appE_ap, sliceE_ap, forS_ap, whileS_ap, valI_ap, enumI_ap, zipI_ap, tgN_ap, tgT_ap, get_0, get_s, setMany_nil, setMany_cons, lenF_fro, lenF_lst, rangeF_1, rangeF_2, rangeF_3, absF_1, intF_1, seqOf_lst, seqOf_fro, cmp_lt, cmp_le, cmp_gt, cmp_ge, cmp_eq, cmp_ne, cmp_eqb, cmp_neb, bin_add, bin_sub, bin_mul, bin_and, iop_add, iop_sub, iop_shr, idxV_fro, idxV_tup, idxV_lst, idx_c0, idx_c1, idx_c2, idx_c3, truth_bool, unpV_tup, unpV_lst, unpV_fro, part_none, part_int, lenOk_0, lenOk_1, lenOk_2, lenOk_3, lenOk_4, Int.ofNat_lt, Option.bind_some, Option.map_some, Option.bind_none, Option.map_none, List.set_cons_zero, List.set_cons_succ, List.length_cons, List.length_nil, List.getElem?_cons_zero, List.getElem?_cons_succ, List.reverse_cons, List.reverse_nil, List.nil_append, List.cons_append, List.append_nil, Nat.zero_add, Nat.reduceAdd, if_true, reduceIte, reduceCtorEq, or_true, true_or, or_false, false_or, Bool.not_true, Bool.not_false, vl_len, digs_len, NL, o1, Bool.true_and, cast_pos, hl]
  refine callM_pure hp rfl rfl run ?_
  rw [sgn_SG]
  show ((some (V.bool _)).bind fun b => (((frz 5 0 [] (NL (2 ^ w) x)).bind fun b => (some []).map fun l => b :: l).map fun l => b :: l)).map V.tup = _
  unfold NL
  rw [frz_fro]; rfl

theorem SG_of {w : Nat} {a : Int} : SG w a = .tup [.bool (decide (a < 0)), .fro (vl (digs (2 ^ w) a.natAbs (ln (2 ^ w) a.natAbs)))] := rfl
theorem pure_SG {w : Nat} {a : Int} : purev (SG w a) = true := by
  show (true && (purevs _ && true)) = true
  rw [purevs_vl]; rfl
theorem frz_SG {f n w : Nat} {H : Hp} {a : Int} : frz (f + 3) n H (SG w a) = some (SG w a) := by
  show ((some (V.bool _)).bind fun b => (((frz (f + 2) n H (.fro (vl _))).bind fun b => (some []).map fun l => b :: l).map fun l => b :: l)).map V.tup = _
  rw [frz_fro]; rfl

theorem sp_neg {d w : Nat} {a : Int} {H : Hp} (hw : 1 ≤ w) (ha : a.natAbs < 2 ^ 62) : callM codes (d + 2) 12 [SG w a] H = some (SG w (-a), H) := by
  have h1 := sp_signed (d := d) (b := !decide (a < 0)) (H := []) hw ha
  have e : sgn (!decide (a < 0)) a.natAbs = -a := by
    unfold sgn
    by_cases h : a < 0 <;> simp [h] <;> omega
  rw [e] at h1
  have run : (cd_s_neg (callM codes (d + 1))) [some (SG w a)] [] = some (.ret (SG w (-a)), [some (SG w a)], []) := by
    unfold cd_s_neg
    simp only [NL] at h1
    simp only [seqS_ap, nilS_ap, failS_ap, ifS_ap, asg_ap, retS_ap, exprS_ap, augS_ap, setS_ap, unpS_ap, swpS_ap, var_ap, cst_ap, bin_ap, tval_ap, andE_ap, orE_ap, notE_ap, iteE_ap, notB_ap, andB_ap, orB_ap, nilL_ap, consL_ap, tupE_ap, lstE_ap, callN_ap, ucall_ap, appE_ap, sliceE_ap, forS_ap, whileS_ap, valI_ap, enumI_ap, zipI_ap, tgN_ap, tgT_ap, get_0, get_s, setMany_nil, setMany_cons, lenF_fro, lenF_lst, rangeF_1, rangeF_2, rangeF_3, absF_1, intF_1, seqOf_lst, seqOf_fro, cmp_lt, cmp_le, cmp_gt, cmp_ge, cmp_eq, cmp_ne, cmp_eqb, cmp_neb, bin_add, bin_sub, bin_mul, bin_and, iop_add, iop_sub, iop_shr, idxV_fro, idxV_tup, idxV_lst, idx_c0, idx_c1, idx_c2, idx_c3, truth_bool, unpV_tup, unpV_lst, unpV_fro, part_none, part_int, lenOk_0, lenOk_1, lenOk_2, lenOk_3, lenOk_4, Int.ofNat_lt, Option.bind_some, Option.map_some, Option.bind_none, Option.map_none, List.set_cons_zero, List.set_cons_succ, List.length_cons, List.length_nil, List.getElem?_cons_zero, List.getElem?_cons_succ, List.reverse_cons, List.reverse_nil, List.nil_append, List.cons_append, List.append_nil, Nat.zero_add, Nat.reduceAdd, if_true, reduceIte, reduceCtorEq, or_true, true_or, or_false, false_or, Bool.not_true, Bool.not_false, vl_len, digs_len, SG_of (a := a), h1]
  exact callM_pure (by show (purev _ && true) = true; rw [pure_SG]; rfl) rfl rfl run frz_SG

theorem beq_dec {p q : Prop} [Decidable p] [Decidable q] : (decide p == decide q) = decide (p ↔ q) := by
  by_cases h1 : p <;> by_cases h2 : q <;> simp [h1, h2]
theorem bne_dec {p q : Prop} [Decidable p] [Decidable q] : (decide p != decide q) = decide (¬ (p ↔ q)) := by
  by_cases h1 : p <;> by_cases h2 : q <;> simp [h1, h2]

theorem sp_s_add {d w : Nat} {a b : Int} {H : Hp} (hw : 1 ≤ w) (hw2 : w ≤ 1000) (ha : a.natAbs < 2 ^ 59) (hb : b.natAbs < 2 ^ 59) : callM codes (d + 3) 13 [SG w a, SG w b, .int w] H = some (SG w (a + b), H) := by
  have hB := pow_ge2 hw
  have run : (cd_s_add (callM codes (d + 2))) [some (SG w a), some (SG w b), some (.int w)] [] = some (.ret (SG w (a + b)), [some (SG w a), some (SG w b), some (.int w)], []) := by
    have h2 := sp_compare (d := d + 1) (H := []) hB (show a.natAbs < 2 ^ 60 by omega) (show b.natAbs < 2 ^ 60 by omega)
    by_cases hs : (a < 0 ↔ b < 0)
    · have h1 := sp_add (d := d + 1) (H := []) hw hw2 (show a.natAbs < 2 ^ 60 by omega) (show b.natAbs < 2 ^ 60 by omega)
      have h3 := sp_signed (d := d + 1) (b := decide (a < 0)) (H := []) hw (show a.natAbs + b.natAbs < 2 ^ 62 by omega)
      have e : sgn (decide (a < 0)) (a.natAbs + b.natAbs) = a + b := by
        unfold sgn
        by_cases h : a < 0 <;> simp [h] <;> omega
      rw [e] at h3
      unfold cd_s_add
      simp only [NL] at h1 h3
      simp only [seqS_ap, nilS_ap, failS_ap, ifS_ap, asg_ap, retS_ap, exprS_ap, augS_ap, setS_ap, unpS_ap, swpS_ap, var_ap, cst_ap, bin_ap, tval_ap, andE_ap, orE_ap, notE_ap, iteE_ap, notB_ap, andB_ap, orB_ap, nilL_ap, consL_ap, tupE_ap, lstE_ap, callN_ap, ucall_ap, appE_ap, sliceE_ap, forS_ap, whileS_ap, valI_ap, enumI_ap, zipI_ap, tgN_ap, tgT_ap, get_0, get_s, setMany_nil, setMany_cons, lenF_fro, lenF_lst, rangeF_1, rangeF_2, rangeF_3, absF_1, intF_1, seqOf_lst, seqOf_fro, cmp_lt, cmp_le, cmp_gt, cmp_ge, cmp_eq, cmp_ne, cmp_eqb, cmp_neb, bin_add, bin_sub, bin_mul, bin_and, iop_add, iop_sub, iop_shr, idxV_fro, idxV_tup, idxV_lst, idx_c0, idx_c1, idx_c2, idx_c3, truth_bool, unpV_tup, unpV_lst, unpV_fro, part_none, part_int, lenOk_0, lenOk_1, lenOk_2, lenOk_3, lenOk_4, Int.ofNat_lt, Option.bind_some, Option.map_some, Option.bind_none, Option.map_none, List.set_cons_zero, List.set_cons_succ, List.length_cons, List.length_nil, List.getElem?_cons_zero, List.getElem?_cons_succ, List.reverse_cons, List.reverse_nil, List.nil_append, List.cons_append, List.append_nil, Nat.zero_add, Nat.reduceAdd, if_true, reduceIte, reduceCtorEq, or_true, true_or, or_false, false_or, Bool.not_true, Bool.not_false, vl_len, digs_len, SG_of (a := a), SG_of (a := b), beq_dec, hs, decide_true, iff_self]
      rw [h1]
      simp only [seqS_ap, nilS_ap, failS_ap, ifS_ap, asg_ap, retS_ap, exprS_ap, augS_ap, setS_ap, unpS_ap, swpS_ap, var_ap, cst_ap, bin_ap, tval_ap, andE_ap, orE_ap, notE_ap, iteE_ap, notB_ap, andB_ap, orB_ap, nilL_ap, consL_ap, tupE_ap, lstE_ap, callN_ap, ucall_ap, appE_ap, sliceE_ap, forS_ap, whileS_ap, valI_ap, enumI_ap, zipI_ap, tgN_ap, tgT_ap, get_0, get_s, setMany_nil, setMany_cons, lenF_fro, lenF_lst, rangeF_1, rangeF_2, rangeF_3, absF_1, intF_1, seqOf_lst, seqOf_fro, cmp_lt, cmp_le, cmp_gt, cmp_ge, cmp_eq, cmp_ne, cmp_eqb, cmp_neb, bin_add, bin_sub, bin_mul, bin_and, iop_add, iop_sub, iop_shr, idxV_fro, idxV_tup, idxV_lst, idx_c0, idx_c1, idx_c2, idx_c3, truth_bool, unpV_tup, unpV_lst, unpV_fro, part_none, part_int, lenOk_0, lenOk_1, lenOk_2, lenOk_3, lenOk_4, Int.ofNat_lt, Option.bind_some, Option.map_some, Option.bind_none, Option.map_none, List.set_cons_zero, List.set_cons_succ, List.length_cons, List.length_nil, List.getElem?_cons_zero, List.getElem?_cons_succ, List.reverse_cons, List.reverse_nil, List.nil_append, List.cons_append, List.append_nil, Nat.zero_add, Nat.reduceAdd, if_true, reduceIte, reduceCtorEq, or_true, true_or, or_false, false_or, Bool.not_true, Bool.not_false, vl_len, digs_len]
      simp only [hs] at h3
      rw [h3]
      simp only [seqS_ap, nilS_ap, failS_ap, ifS_ap, asg_ap, retS_ap, exprS_ap, augS_ap, setS_ap, unpS_ap, swpS_ap, var_ap, cst_ap, bin_ap, tval_ap, andE_ap, orE_ap, notE_ap, iteE_ap, notB_ap, andB_ap, orB_ap, nilL_ap, consL_ap, tupE_ap, lstE_ap, callN_ap, ucall_ap, appE_ap, sliceE_ap, forS_ap, whileS_ap, valI_ap, enumI_ap, zipI_ap, tgN_ap, tgT_ap, get_0, get_s, setMany_nil, setMany_cons, lenF_fro, lenF_lst, rangeF_1, rangeF_2, rangeF_3, absF_1, intF_1, seqOf_lst, seqOf_fro, cmp_lt, cmp_le, cmp_gt, cmp_ge, cmp_eq, cmp_ne, cmp_eqb, cmp_neb, bin_add, bin_sub, bin_mul, bin_and, iop_add, iop_sub, iop_shr, idxV_fro, idxV_tup, idxV_lst, idx_c0, idx_c1, idx_c2, idx_c3, truth_bool, unpV_tup, unpV_lst, unpV_fro, part_none, part_int, lenOk_0, lenOk_1, lenOk_2, lenOk_3, lenOk_4, Int.ofNat_lt, Option.bind_some, Option.map_some, Option.bind_none, Option.map_none, List.set_cons_zero, List.set_cons_succ, List.length_cons, List.length_nil, List.getElem?_cons_zero, List.getElem?_cons_succ, List.reverse_cons, List.reverse_nil, List.nil_append, List.cons_append, List.append_nil, Nat.zero_add, Nat.reduceAdd, if_true, reduceIte, reduceCtorEq, or_true, true_or, or_false, false_or, Bool.not_true, Bool.not_false, vl_len, digs_len]
    · by_cases hc : a.natAbs < b.natAbs
      · have hcr : cmpR a.natAbs b.natAbs < 0 := by unfold cmpR; rw [if_pos hc]; decide
        have h1 := sp_sub (d := d) (H := []) hw hw2 (show b.natAbs < 2 ^ 60 by omega) (Nat.le_of_lt hc)
        have h3 := sp_signed (d := d + 1) (b := decide (b < 0)) (H := []) hw (show b.natAbs - a.natAbs < 2 ^ 62 by omega)
        have e : sgn (decide (b < 0)) (b.natAbs - a.natAbs) = a + b := by
          unfold sgn
          by_cases h : b < 0 <;> simp [h] <;> omega
        rw [e] at h3
        unfold cd_s_add
        simp only [NL] at h1 h2 h3
        simp only [seqS_ap, nilS_ap, failS_ap, ifS_ap, asg_ap, retS_ap, exprS_ap, augS_ap, setS_ap, unpS_ap, swpS_ap, var_ap, cst_ap, bin_ap, tval_ap, andE_ap, orE_ap, notE_ap, iteE_ap, notB_ap, andB_ap, orB_ap, nilL_ap, consL_ap, tupE_ap, lstE_ap, callN_ap, ucall_ap, appE_ap, sliceE_ap, forS_ap, whileS_ap, valI_ap, enumI_ap, zipI_ap, tgN_ap, tgT_ap, get_0, get_s, setMany_nil, setMany_cons, lenF_fro, lenF_lst, rangeF_1, rangeF_2, rangeF_3, absF_1, intF_1, seqOf_lst, seqOf_fro, cmp_lt, cmp_le, cmp_gt, cmp_ge, cmp_eq, cmp_ne, cmp_eqb, cmp_neb, bin_add, bin_sub, bin_mul, bin_and, iop_add, iop_sub, iop_shr, idxV_fro, idxV_tup, idxV_lst, idx_c0, idx_c1, idx_c2, idx_c3, truth_bool, unpV_tup, unpV_lst, unpV_fro, part_none, part_int, lenOk_0, lenOk_1, lenOk_2, lenOk_3, lenOk_4, Int.ofNat_lt, Option.bind_some, Option.map_some, Option.bind_none, Option.map_none, List.set_cons_zero, List.set_cons_succ, List.length_cons, List.length_nil, List.getElem?_cons_zero, List.getElem?_cons_succ, List.reverse_cons, List.reverse_nil, List.nil_append, List.cons_append, List.append_nil, Nat.zero_add, Nat.reduceAdd, if_true, reduceIte, reduceCtorEq, or_true, true_or, or_false, false_or, Bool.not_true, Bool.not_false, vl_len, digs_len, SG_of (a := a), SG_of (a := b), beq_dec, hs, decide_false, Bool.false_eq_true, h2, hcr, decide_true, h1, h3]
      · have hcr : ¬ cmpR a.natAbs b.natAbs < 0 := by unfold cmpR; rw [if_neg hc]; split <;> omega
        have h1 := sp_sub (d := d) (H := []) hw hw2 (show a.natAbs < 2 ^ 60 by omega) (Nat.le_of_not_lt hc)
        have h3 := sp_signed (d := d + 1) (b := decide (a < 0)) (H := []) hw (show a.natAbs - b.natAbs < 2 ^ 62 by omega)
        have e : sgn (decide (a < 0)) (a.natAbs - b.natAbs) = a + b := by
          unfold sgn
          by_cases h : a < 0 <;> simp [h] <;> omega
        rw [e] at h3
        unfold cd_s_add
        simp only [NL] at h1 h2 h3
        simp only [seqS_ap, nilS_ap, failS_ap, ifS_ap, asg_ap, retS_ap, exprS_ap, augS_ap, setS_ap, unpS_ap, swpS_ap, var_ap, cst_ap, bin_ap, tval_ap, andE_ap, orE_ap, notE_ap, iteE_ap, notB_ap, andB_ap, orB_ap, nilL_ap, consL_ap, tupE_ap, lstE_ap, callN_ap, ucall_ap, appE_ap, sliceE_ap, forS_ap, whileS_ap, valI_ap, enumI_ap, zipI_ap, tgN_ap, tgT_ap, get_0, get_s, setMany_nil, setMany_cons, lenF_fro, lenF_lst, rangeF_1, rangeF_2, rangeF_3, absF_1, intF_1, seqOf_lst, seqOf_fro, cmp_lt, cmp_le, cmp_gt, cmp_ge, cmp_eq, cmp_ne, cmp_eqb, cmp_neb, bin_add, bin_sub, bin_mul, bin_and, iop_add, iop_sub, iop_shr, idxV_fro, idxV_tup, idxV_lst, idx_c0, idx_c1, idx_c2, idx_c3, truth_bool, unpV_tup, unpV_lst, unpV_fro, part_none, part_int, lenOk_0, lenOk_1, lenOk_2, lenOk_3, lenOk_4, Int.ofNat_lt, Option.bind_some, Option.map_some, Option.bind_none, Option.map_none, List.set_cons_zero, List.set_cons_succ, List.length_cons, List.length_nil, List.getElem?_cons_zero, List.getElem?_cons_succ, List.reverse_cons, List.reverse_nil, List.nil_append, List.cons_append, List.append_nil, Nat.zero_add, Nat.reduceAdd, if_true, reduceIte, reduceCtorEq, or_true, true_or, or_false, false_or, Bool.not_true, Bool.not_false, vl_len, digs_len, SG_of (a := a), SG_of (a := b), beq_dec, hs, decide_false, Bool.false_eq_true, h2, hcr, h1, h3]
  exact callM_pure (by show (purev _ && (purev _ && true)) = true; rw [pure_SG, pure_SG]; rfl) rfl rfl run frz_SG

theorem sp_s_sub {d w : Nat} {a b : Int} {H : Hp} (hw : 1 ≤ w) (hw2 : w ≤ 1000) (ha : a.natAbs < 2 ^ 59) (hb : b.natAbs < 2 ^ 59) : callM codes (d + 4) 14 [SG w a, SG w b, .int w] H = some (SG w (a - b), H) := by
  have h1 := sp_neg (d := d + 1) (H := []) hw (show b.natAbs < 2 ^ 62 by omega)
  have h2 := sp_s_add (d := d) (b := -b) (H := []) hw hw2 ha (by omega)
  rw [← Int.sub_eq_add_neg] at h2
  have run : (cd_s_sub (callM codes (d + 3))) [some (SG w a), some (SG w b), some (.int w)] [] = some (.ret (SG w (a - b)), [some (SG w a), some (SG w b), some (.int w)], []) := by
    unfold cd_s_sub
    simp only [seqS_ap, nilS_ap, failS_ap, ifS_ap, asg_ap, retS_ap, exprS_ap, augS_ap, setS_ap, unpS_ap, swpS_ap, var_ap, cst_ap, bin_ap, tval_ap, andE_ap, orE_ap, notE_ap, iteE_ap, notB_ap, andB_ap, orB_ap, nilL_ap, consL_ap, tupE_ap, lstE_ap, callN_ap, ucall_ap, appE_ap, sliceE_ap, forS_ap, whileS_ap, valI_ap, enumI_ap, zipI_ap, tgN_ap, tgT_ap, get_0, get_s, setMany_nil, setMany_cons, lenF_fro, lenF_lst, rangeF_1, rangeF_2, rangeF_3, absF_1, intF_1, seqOf_lst, seqOf_fro, cmp_lt, cmp_le, cmp_gt, cmp_ge, cmp_eq, cmp_ne, cmp_eqb, cmp_neb, bin_add, bin_sub, bin_mul, bin_and, iop_add, iop_sub, iop_shr, idxV_fro, idxV_tup, idxV_lst, idx_c0, idx_c1, idx_c2, idx_c3, truth_bool, unpV_tup, unpV_lst, unpV_fro, part_none, part_int, lenOk_0, lenOk_1, lenOk_2, lenOk_3, lenOk_4, Int.ofNat_lt, Option.bind_some, Option.map_some, Option.bind_none, Option.map_none, List.set_cons_zero, List.set_cons_succ, List.length_cons, List.length_nil, List.getElem?_cons_zero, List.getElem?_cons_succ, List.reverse_cons, List.reverse_nil, List.nil_append, List.cons_append, List.append_nil, Nat.zero_add, Nat.reduceAdd, if_true, reduceIte, reduceCtorEq, or_true, true_or, or_false, false_or, Bool.not_true, Bool.not_false, vl_len, digs_len, h1, h2]
  exact callM_pure (by show (purev _ && (purev _ && true)) = true; rw [pure_SG, pure_SG]; rfl) rfl rfl run frz_SG

theorem bin_mod {a b : Int} {H : Hp} (h : b ≠ 0) : binV .Mod (.int a) (.int b) H = some (.int (a.fmod b), H) := by
  show (if b ≠ 0 then some (a.fmod b) else none : Option Int).map _ = _
  rw [if_pos h]; rfl
theorem bin_fdiv {a b : Int} {H : Hp} (h : b ≠ 0) (h2 : b.natAbs < 1073741824) : binV .FloorDiv (.int a) (.int b) H = some (.int (a.fdiv b), H) := by
  show (if b ≠ 0 ∧ small b = true ∧ b.natAbs < 1073741824 then some (a.fdiv b) else none : Option Int).map _ = _
  rw [if_pos ⟨h, by unfold small; simp; omega, h2⟩]; rfl
theorem fmod_pow {x w : Nat} : (x : Int).fmod ((2 : Int) ^ w) = ((x % 2 ^ w : Nat) : Int) := by
  rw [Int.fmod_eq_emod_of_nonneg _ (Int.le_of_lt (Int.pow_pos (by decide)))]
  push_cast; rfl

theorem run_limbs {c : CT} {w x : Nat} (hw : 1 ≤ w) (hw2 : w ≤ 20) (hx : x < 2 ^ 60) : ∃ L, (cd_l_limbs c) [some (.int x), some (.int w), none] [] = some (.ret (.lst 0), L, [vl (digs (2 ^ w) x (ln (2 ^ w) x))]) := by
  have hB := pow_ge2 hw
  have hlt := ln_lt hB (show x < 2 ^ 64 by omega)
  have hnx := ln_le64 hB (show x < 2 ^ 64 by omega)
  have hpow : ∀ H : Hp, binV .Pow (.int 2) (.int (w : Int)) H = some (.int (2 ^ w), H) := fun H => bin_pow2 (by omega)
  have h00 : (0 : Int) < (2 : Int) ^ w := Int.pow_pos (by decide)
  have h0 : (2 : Int) ^ w ≠ 0 := by omega
  have h1 : ((2 : Int) ^ w).natAbs < 1073741824 := by
    rw [Int.natAbs_pow]
    calc (2 : Int).natAbs ^ w ≤ 2 ^ 20 := Nat.pow_le_pow_right (by decide) hw2
      _ < _ := by decide
  have loop := whileL_inv (t := tval (bin (cmpV .Gt) (var 0) (cst (.int 0)))) (b := (seqS (exprS (appE (var 2) (bin (binV .Mod) (var 0) (bin (binV .Pow) (cst (.int 2)) (var 1)))))
    (seqS (asg 0 (bin (binV .FloorDiv) (var 0) (bin (binV .Pow) (cst (.int 2)) (var 1)))) nilS))) (ln (2 ^ w) x) (fun i => ([some (.int ((x / (2 ^ w) ^ i : Nat) : Int)), some (.int w), some (.lst 0)], [vl (digs (2 ^ w) x i)]))
    (fun i hi => by
      have hpos : 0 < x / (2 ^ w) ^ i := by
        refine Nat.div_pos ?_ (Nat.pow_pos (by omega))
        exact Nat.le_trans (Nat.pow_le_pow_right (by omega) (by omega)) (ln_low hB (show x < 2 ^ 64 by omega) (by omega))
      simp only [seqS_ap, nilS_ap, failS_ap, ifS_ap, asg_ap, retS_ap, exprS_ap, augS_ap, setS_ap, unpS_ap, swpS_ap, var_ap, cst_ap, bin_ap, tval_ap, andE_ap, orE_ap, notE_ap, iteE_ap, notB_ap, andB_ap, orB_ap, nilL_ap, consL_ap, tupE_ap, lstE_ap, callN_ap, ucall_ap, appE_ap, sliceE_ap, forS_ap, whileS_ap, valI_ap, enumI_ap, zipI_ap, tgN_ap, tgT_ap, get_0, get_s, setMany_nil, setMany_cons, lenF_fro, lenF_lst, rangeF_1, rangeF_2, rangeF_3, absF_1, intF_1, seqOf_lst, seqOf_fro, cmp_lt, cmp_le, cmp_gt, cmp_ge, cmp_eq, cmp_ne, cmp_eqb, cmp_neb, bin_add, bin_sub, bin_mul, bin_and, iop_add, iop_sub, iop_shr, idxV_fro, idxV_tup, idxV_lst, idx_c0, idx_c1, idx_c2, idx_c3, truth_bool, unpV_tup, unpV_lst, unpV_fro, part_none, part_int, lenOk_0, lenOk_1, lenOk_2, lenOk_3, lenOk_4, Int.ofNat_lt, Option.bind_some, Option.map_some, Option.bind_none, Option.map_none, List.set_cons_zero, List.set_cons_succ, List.length_cons, List.length_nil, List.getElem?_cons_zero, List.getElem?_cons_succ, List.reverse_cons, List.reverse_nil, List.nil_append, List.cons_append, List.append_nil, Nat.zero_add, Nat.reduceAdd, if_true, reduceIte, reduceCtorEq, or_true, true_or, or_false, false_or, Bool.not_true, Bool.not_false, vl_len, digs_len, cast_pos, hpos, decide_true])
    (by
      simp only [seqS_ap, nilS_ap, failS_ap, ifS_ap, asg_ap, retS_ap, exprS_ap, augS_ap, setS_ap, unpS_ap, swpS_ap, var_ap, cst_ap, bin_ap, tval_ap, andE_ap, orE_ap, notE_ap, iteE_ap, notB_ap, andB_ap, orB_ap, nilL_ap, consL_ap, tupE_ap, lstE_ap, callN_ap, ucall_ap, appE_ap, sliceE_ap, forS_ap, whileS_ap, valI_ap, enumI_ap, zipI_ap, tgN_ap, tgT_ap, get_0, get_s, setMany_nil, setMany_cons, lenF_fro, lenF_lst, rangeF_1, rangeF_2, rangeF_3, absF_1, intF_1, seqOf_lst, seqOf_fro, cmp_lt, cmp_le, cmp_gt, cmp_ge, cmp_eq, cmp_ne, cmp_eqb, cmp_neb, bin_add, bin_sub, bin_mul, bin_and, iop_add, iop_sub, iop_shr, idxV_fro, idxV_tup, idxV_lst, idx_c0, idx_c1, idx_c2, idx_c3, truth_bool, unpV_tup, unpV_lst, unpV_fro, part_none, part_int, lenOk_0, lenOk_1, lenOk_2, lenOk_3, lenOk_4, Int.ofNat_lt, Option.bind_some, Option.map_some, Option.bind_none, Option.map_none, List.set_cons_zero, List.set_cons_succ, List.length_cons, List.length_nil, List.getElem?_cons_zero, List.getElem?_cons_succ, List.reverse_cons, List.reverse_nil, List.nil_append, List.cons_append, List.append_nil, Nat.zero_add, Nat.reduceAdd, if_true, reduceIte, reduceCtorEq, or_true, true_or, or_false, false_or, Bool.not_true, Bool.not_false, vl_len, digs_len, Nat.div_eq_of_lt hlt]
      rfl)
    (fun i hi => by
      have a3 := lenOk_64 (show i ≤ 1000 by omega)
      have e1 : x / (2 ^ w) ^ i / 2 ^ w = x / (2 ^ w) ^ (i + 1) := by rw [Nat.div_div_eq_div_mul, ← Nat.pow_succ]
      simp only [seqS_ap, nilS_ap, failS_ap, ifS_ap, asg_ap, retS_ap, exprS_ap, augS_ap, setS_ap, unpS_ap, swpS_ap, var_ap, cst_ap, bin_ap, tval_ap, andE_ap, orE_ap, notE_ap, iteE_ap, notB_ap, andB_ap, orB_ap, nilL_ap, consL_ap, tupE_ap, lstE_ap, callN_ap, ucall_ap, appE_ap, sliceE_ap, forS_ap, whileS_ap, valI_ap, enumI_ap, zipI_ap, tgN_ap, tgT_ap, get_0, get_s, setMany_nil, setMany_cons, lenF_fro, lenF_lst, rangeF_1, rangeF_2, rangeF_3, absF_1, intF_1, seqOf_lst, seqOf_fro, cmp_lt, cmp_le, cmp_gt, cmp_ge, cmp_eq, cmp_ne, cmp_eqb, cmp_neb, bin_add, bin_sub, bin_mul, bin_and, iop_add, iop_sub, iop_shr, idxV_fro, idxV_tup, idxV_lst, idx_c0, idx_c1, idx_c2, idx_c3, truth_bool, unpV_tup, unpV_lst, unpV_fro, part_none, part_int, lenOk_0, lenOk_1, lenOk_2, lenOk_3, lenOk_4, Int.ofNat_lt, Option.bind_some, Option.map_some, Option.bind_none, Option.map_none, List.set_cons_zero, List.set_cons_succ, List.length_cons, List.length_nil, List.getElem?_cons_zero, List.getElem?_cons_succ, List.reverse_cons, List.reverse_nil, List.nil_append, List.cons_append, List.append_nil, Nat.zero_add, Nat.reduceAdd, if_true, reduceIte, reduceCtorEq, or_true, true_or, or_false, false_or, Bool.not_true, Bool.not_false, vl_len, digs_len, hpow, bin_mod h0, bin_fdiv h0 h1, fmod_pow, shr, a3, e1, digs_succ, vl_append]
      rfl) (ln (2 ^ w) x) 0 1000 (by omega) (by omega)
  have e0 : x / (2 ^ w) ^ 0 = x := by simp
  have e1 : vl (digs (2 ^ w) x 0) = [] := rfl
  simp only [e0, e1] at loop
  refine ⟨[some (.int ((x / (2 ^ w) ^ ln (2 ^ w) x : Nat) : Int)), some (.int w), some (.lst 0)], ?_⟩
  unfold cd_l_limbs
  simp only [seqS_ap, nilS_ap, failS_ap, ifS_ap, asg_ap, retS_ap, exprS_ap, augS_ap, setS_ap, unpS_ap, swpS_ap, var_ap, cst_ap, bin_ap, tval_ap, andE_ap, orE_ap, notE_ap, iteE_ap, notB_ap, andB_ap, orB_ap, nilL_ap, consL_ap, tupE_ap, lstE_ap, callN_ap, ucall_ap, appE_ap, sliceE_ap, forS_ap, whileS_ap, valI_ap, enumI_ap, zipI_ap, tgN_ap, tgT_ap, get_0, get_s, setMany_nil, setMany_cons, lenF_fro, lenF_lst, rangeF_1, rangeF_2, rangeF_3, absF_1, intF_1, seqOf_lst, seqOf_fro, cmp_lt, cmp_le, cmp_gt, cmp_ge, cmp_eq, cmp_ne, cmp_eqb, cmp_neb, bin_add, bin_sub, bin_mul, bin_and, iop_add, iop_sub, iop_shr, idxV_fro, idxV_tup, idxV_lst, idx_c0, idx_c1, idx_c2, idx_c3, truth_bool, unpV_tup, unpV_lst, unpV_fro, part_none, part_int, lenOk_0, lenOk_1, lenOk_2, lenOk_3, lenOk_4, Int.ofNat_lt, Option.bind_some, Option.map_some, Option.bind_none, Option.map_none, List.set_cons_zero, List.set_cons_succ, List.length_cons, List.length_nil, List.getElem?_cons_zero, List.getElem?_cons_succ, List.reverse_cons, List.reverse_nil, List.nil_append, List.cons_append, List.append_nil, Nat.zero_add, Nat.reduceAdd, if_true, reduceIte, reduceCtorEq, or_true, true_or, or_false, false_or, Bool.not_true, Bool.not_false, vl_len, digs_len, loop]

theorem sp_limbs {d w x : Nat} {H : Hp} (hw : 1 ≤ w) (hw2 : w ≤ 20) (hx : x < 2 ^ 60) : callM codes (d + 1) 29 [.int x, .int w] H = some (NL (2 ^ w) x, H) := by
  obtain ⟨L, e⟩ := run_limbs (c := callM codes d) hw hw2 hx
  exact callM_pure rfl rfl rfl e (frz_lst rfl)

theorem sp_law_signed {d w : Nat} {a : Int} {H : Hp} (hw : 1 ≤ w) (hw2 : w ≤ 20) (ha : a.natAbs < 2 ^ 60) : callM codes (d + 2) 30 [.int a, .int w] H = some (SG w a, H) := by
  have h1 := sp_limbs (d := d) (H := []) hw hw2 ha
  have e : (if a < 0 then -a else a) = (a.natAbs : Int) := by split <;> omega
  have run : (cd_l_signed (callM codes (d + 1))) [some (.int a), some (.int w)] [] = some (.ret (SG w a), [some (.int a), some (.int w)], []) := by
    unfold cd_l_signed
    simp only [seqS_ap, nilS_ap, failS_ap, ifS_ap, asg_ap, retS_ap, exprS_ap, augS_ap, setS_ap, unpS_ap, swpS_ap, var_ap, cst_ap, bin_ap, tval_ap, andE_ap, orE_ap, notE_ap, iteE_ap, notB_ap, andB_ap, orB_ap, nilL_ap, consL_ap, tupE_ap, lstE_ap, callN_ap, ucall_ap, appE_ap, sliceE_ap, forS_ap, whileS_ap, valI_ap, enumI_ap, zipI_ap, tgN_ap, tgT_ap, get_0, get_s, setMany_nil, setMany_cons, lenF_fro, lenF_lst, rangeF_1, rangeF_2, rangeF_3, absF_1, intF_1, seqOf_lst, seqOf_fro, cmp_lt, cmp_le, cmp_gt, cmp_ge, cmp_eq, cmp_ne, cmp_eqb, cmp_neb, bin_add, bin_sub, bin_mul, bin_and, iop_add, iop_sub, iop_shr, idxV_fro, idxV_tup, idxV_lst, idx_c0, idx_c1, idx_c2, idx_c3, truth_bool, unpV_tup, unpV_lst, unpV_fro, part_none, part_int, lenOk_0, lenOk_1, lenOk_2, lenOk_3, lenOk_4, Int.ofNat_lt, Option.bind_some, Option.map_some, Option.bind_none, Option.map_none, List.set_cons_zero, List.set_cons_succ, List.length_cons, List.length_nil, List.getElem?_cons_zero, List.getElem?_cons_succ, List.reverse_cons, List.reverse_nil, List.nil_append, List.cons_append, List.append_nil, Nat.zero_add, Nat.reduceAdd, if_true, reduceIte, reduceCtorEq, or_true, true_or, or_false, false_or, Bool.not_true, Bool.not_false, vl_len, digs_len, e, h1]
    rfl
  exact callM_pure rfl rfl rfl run frz_SG
/-! normal, anywhere in the heap -/
theorem run_normal' {c : CT} {B z n k : Nat} {H : Hp} (hB : 2 ≤ B) (hz : z < 2 ^ 64) (hzn : z < B ^ n) (hn : n ≤ 900) (hk : H[k]? = some (vl (digs B z n))) :
    (cd_normal c) [some (.lst k), none] H = some (.ret (.lst H.length), [some (.lst k), some (.int (ln B z : Int))], H ++ [vl (digs B z (ln B z))]) := by
  have o1 := lenOk_64 (show n ≤ 1000 by omega)
  have hl := ln_le hB hz hzn
  have hlt := ln_lt hB hz
  have loop := whileL_inv (t := andB (tval (bin (cmpV .Gt) (var 1) (cst (.int 0)))) (tval (bin (cmpV .Eq) (bin idxV (var 0) (bin (binV .Sub) (var 1) (cst (.int 1)))) (cst (.int 0))))) (b := seqS (augS 1 .Sub (cst (.int 1))) nilS)
    (n - ln B z) (fun i => ([some (.lst k), some (.int ((n - i : Nat) : Int))], H))
    (fun i hi => by
      have a1 : ((n - i : Nat) : Int) - 1 = ((n - i - 1 : Nat) : Int) := by omega
      have a2 := idx_vl (B := B) (x := z) (show n - i - 1 < n by omega) (by omega)
      have a3 : dg B z (n - i - 1) = 0 := dg_ge (by omega) hlt (by omega)
      have a4 : (0 : Int) < ((n - i : Nat) : Int) := by omega
      simp only [seqS_ap, nilS_ap, failS_ap, ifS_ap, asg_ap, retS_ap, exprS_ap, augS_ap, setS_ap, unpS_ap, swpS_ap, var_ap, cst_ap, bin_ap, tval_ap, andE_ap, orE_ap, notE_ap, iteE_ap, notB_ap, andB_ap, orB_ap, nilL_ap, consL_ap, tupE_ap, lstE_ap, callN_ap, ucall_ap, appE_ap, sliceE_ap, forS_ap, whileS_ap, valI_ap, enumI_ap, zipI_ap, tgN_ap, tgT_ap, get_0, get_s, setMany_nil, setMany_cons, lenF_fro, lenF_lst, rangeF_1, rangeF_2, rangeF_3, absF_1, intF_1, seqOf_lst, seqOf_fro, cmp_lt, cmp_le, cmp_gt, cmp_ge, cmp_eq, cmp_ne, cmp_eqb, cmp_neb, bin_add, bin_sub, bin_mul, bin_and, iop_add, iop_sub, iop_shr, idxV_fro, idxV_tup, idxV_lst, idx_c0, idx_c1, idx_c2, idx_c3, truth_bool, unpV_tup, unpV_lst, unpV_fro, part_none, part_int, lenOk_0, lenOk_1, lenOk_2, lenOk_3, lenOk_4, Int.ofNat_lt, Option.bind_some, Option.map_some, Option.bind_none, Option.map_none, List.set_cons_zero, List.set_cons_succ, List.length_cons, List.length_nil, List.getElem?_cons_zero, List.getElem?_cons_succ, List.reverse_cons, List.reverse_nil, List.nil_append, List.cons_append, List.append_nil, Nat.zero_add, Nat.reduceAdd, if_true, reduceIte, reduceCtorEq, or_true, true_or, or_false, false_or, Bool.not_true, Bool.not_false, vl_len, digs_len, hk, a1, a2, a3, a4, decide_true, beq_zero])
    (by
      rw [show n - (n - ln B z) = ln B z by omega]
      rcases Nat.eq_zero_or_pos (ln B z) with h0 | h0
      · simp only [seqS_ap, nilS_ap, failS_ap, ifS_ap, asg_ap, retS_ap, exprS_ap, augS_ap, setS_ap, unpS_ap, swpS_ap, var_ap, cst_ap, bin_ap, tval_ap, andE_ap, orE_ap, notE_ap, iteE_ap, notB_ap, andB_ap, orB_ap, nilL_ap, consL_ap, tupE_ap, lstE_ap, callN_ap, ucall_ap, appE_ap, sliceE_ap, forS_ap, whileS_ap, valI_ap, enumI_ap, zipI_ap, tgN_ap, tgT_ap, get_0, get_s, setMany_nil, setMany_cons, lenF_fro, lenF_lst, rangeF_1, rangeF_2, rangeF_3, absF_1, intF_1, seqOf_lst, seqOf_fro, cmp_lt, cmp_le, cmp_gt, cmp_ge, cmp_eq, cmp_ne, cmp_eqb, cmp_neb, bin_add, bin_sub, bin_mul, bin_and, iop_add, iop_sub, iop_shr, idxV_fro, idxV_tup, idxV_lst, idx_c0, idx_c1, idx_c2, idx_c3, truth_bool, unpV_tup, unpV_lst, unpV_fro, part_none, part_int, lenOk_0, lenOk_1, lenOk_2, lenOk_3, lenOk_4, Int.ofNat_lt, Option.bind_some, Option.map_some, Option.bind_none, Option.map_none, List.set_cons_zero, List.set_cons_succ, List.length_cons, List.length_nil, List.getElem?_cons_zero, List.getElem?_cons_succ, List.reverse_cons, List.reverse_nil, List.nil_append, List.cons_append, List.append_nil, Nat.zero_add, Nat.reduceAdd, if_true, reduceIte, reduceCtorEq, or_true, true_or, or_false, false_or, Bool.not_true, Bool.not_false, vl_len, digs_len, h0, decide_false, Bool.false_eq_true]
        rfl
      · have a1 : ((ln B z : Nat) : Int) - 1 = ((ln B z - 1 : Nat) : Int) := by omega
        have a2 := idx_vl (B := B) (x := z) (show ln B z - 1 < n by omega) (by omega)
        have a4 : (0 : Int) < ((ln B z : Nat) : Int) := by omega
        have a3 : ¬ dg B z (ln B z - 1) = 0 := by
          rw [dg_last hB (by rw [show ln B z - 1 + 1 = ln B z by omega]; exact hlt)]
          have := Nat.div_pos (ln_low hB hz h0) (Nat.pow_pos (by omega))
          omega
        simp only [seqS_ap, nilS_ap, failS_ap, ifS_ap, asg_ap, retS_ap, exprS_ap, augS_ap, setS_ap, unpS_ap, swpS_ap, var_ap, cst_ap, bin_ap, tval_ap, andE_ap, orE_ap, notE_ap, iteE_ap, notB_ap, andB_ap, orB_ap, nilL_ap, consL_ap, tupE_ap, lstE_ap, callN_ap, ucall_ap, appE_ap, sliceE_ap, forS_ap, whileS_ap, valI_ap, enumI_ap, zipI_ap, tgN_ap, tgT_ap, get_0, get_s, setMany_nil, setMany_cons, lenF_fro, lenF_lst, rangeF_1, rangeF_2, rangeF_3, absF_1, intF_1, seqOf_lst, seqOf_fro, cmp_lt, cmp_le, cmp_gt, cmp_ge, cmp_eq, cmp_ne, cmp_eqb, cmp_neb, bin_add, bin_sub, bin_mul, bin_and, iop_add, iop_sub, iop_shr, idxV_fro, idxV_tup, idxV_lst, idx_c0, idx_c1, idx_c2, idx_c3, truth_bool, unpV_tup, unpV_lst, unpV_fro, part_none, part_int, lenOk_0, lenOk_1, lenOk_2, lenOk_3, lenOk_4, Int.ofNat_lt, Option.bind_some, Option.map_some, Option.bind_none, Option.map_none, List.set_cons_zero, List.set_cons_succ, List.length_cons, List.length_nil, List.getElem?_cons_zero, List.getElem?_cons_succ, List.reverse_cons, List.reverse_nil, List.nil_append, List.cons_append, List.append_nil, Nat.zero_add, Nat.reduceAdd, if_true, reduceIte, reduceCtorEq, or_true, true_or, or_false, false_or, Bool.not_true, Bool.not_false, vl_len, digs_len, hk, a1, a2, a3, a4, decide_true, decide_false, beq_zero])
    (fun i hi => by
      have a1 : ((n - i : Nat) : Int) - 1 = ((n - (i + 1) : Nat) : Int) := by omega
      simp only [seqS_ap, nilS_ap, failS_ap, ifS_ap, asg_ap, retS_ap, exprS_ap, augS_ap, setS_ap, unpS_ap, swpS_ap, var_ap, cst_ap, bin_ap, tval_ap, andE_ap, orE_ap, notE_ap, iteE_ap, notB_ap, andB_ap, orB_ap, nilL_ap, consL_ap, tupE_ap, lstE_ap, callN_ap, ucall_ap, appE_ap, sliceE_ap, forS_ap, whileS_ap, valI_ap, enumI_ap, zipI_ap, tgN_ap, tgT_ap, get_0, get_s, setMany_nil, setMany_cons, lenF_fro, lenF_lst, rangeF_1, rangeF_2, rangeF_3, absF_1, intF_1, seqOf_lst, seqOf_fro, cmp_lt, cmp_le, cmp_gt, cmp_ge, cmp_eq, cmp_ne, cmp_eqb, cmp_neb, bin_add, bin_sub, bin_mul, bin_and, iop_add, iop_sub, iop_shr, idxV_fro, idxV_tup, idxV_lst, idx_c0, idx_c1, idx_c2, idx_c3, truth_bool, unpV_tup, unpV_lst, unpV_fro, part_none, part_int, lenOk_0, lenOk_1, lenOk_2, lenOk_3, lenOk_4, Int.ofNat_lt, Option.bind_some, Option.map_some, Option.bind_none, Option.map_none, List.set_cons_zero, List.set_cons_succ, List.length_cons, List.length_nil, List.getElem?_cons_zero, List.getElem?_cons_succ, List.reverse_cons, List.reverse_nil, List.nil_append, List.cons_append, List.append_nil, Nat.zero_add, Nat.reduceAdd, if_true, reduceIte, reduceCtorEq, or_true, true_or, or_false, false_or, Bool.not_true, Bool.not_false, vl_len, digs_len, a1]) (n - ln B z) 0 1000 (by omega) (by omega)
  rw [show n - (n - ln B z) = ln B z by omega, Nat.sub_zero] at loop
  have hp : pickV (vl (digs B z n)) none (some (ln B z : Int)) = vl (digs B z (ln B z)) := by
    rw [pick_hi (by rw [vl_len, digs_len]; exact hl)]
    unfold vl
    rw [← List.map_take, digs_take hl]
  unfold cd_normal
  simp only [seqS_ap, nilS_ap, failS_ap, ifS_ap, asg_ap, retS_ap, exprS_ap, augS_ap, setS_ap, unpS_ap, swpS_ap, var_ap, cst_ap, bin_ap, tval_ap, andE_ap, orE_ap, notE_ap, iteE_ap, notB_ap, andB_ap, orB_ap, nilL_ap, consL_ap, tupE_ap, lstE_ap, callN_ap, ucall_ap, appE_ap, sliceE_ap, forS_ap, whileS_ap, valI_ap, enumI_ap, zipI_ap, tgN_ap, tgT_ap, get_0, get_s, setMany_nil, setMany_cons, lenF_fro, lenF_lst, rangeF_1, rangeF_2, rangeF_3, absF_1, intF_1, seqOf_lst, seqOf_fro, cmp_lt, cmp_le, cmp_gt, cmp_ge, cmp_eq, cmp_ne, cmp_eqb, cmp_neb, bin_add, bin_sub, bin_mul, bin_and, iop_add, iop_sub, iop_shr, idxV_fro, idxV_tup, idxV_lst, idx_c0, idx_c1, idx_c2, idx_c3, truth_bool, unpV_tup, unpV_lst, unpV_fro, part_none, part_int, lenOk_0, lenOk_1, lenOk_2, lenOk_3, lenOk_4, Int.ofNat_lt, Option.bind_some, Option.map_some, Option.bind_none, Option.map_none, List.set_cons_zero, List.set_cons_succ, List.length_cons, List.length_nil, List.getElem?_cons_zero, List.getElem?_cons_succ, List.reverse_cons, List.reverse_nil, List.nil_append, List.cons_append, List.append_nil, Nat.zero_add, Nat.reduceAdd, if_true, reduceIte, reduceCtorEq, or_true, true_or, or_false, false_or, Bool.not_true, Bool.not_false, vl_len, digs_len, hk, o1, loop, hp]

theorem frz_vls {f n : Nat} {H : Hp} : ∀ {ls : List (List Nat)}, mapO (mapO (frz (f + 1) n H)) (ls.map vl) = some (ls.map vl)
  | [] => rfl
  | l :: ls => by
    show ((mapO (frz (f + 1) n H) (vl l)).bind fun b => (mapO (mapO (frz (f + 1) n H)) (ls.map vl)).map fun l => b :: l) = _
    rw [frz_vl, frz_vls]; rfl

theorem sp_normal' {d B z n k : Nat} {ls : List (List Nat)} (hB : 2 ≤ B) (hz : z < 2 ^ 64) (hzn : z < B ^ n) (hn : n ≤ 900) (hk : ls[k]? = some (digs B z n)) :
    callM codes (d + 1) 0 [.lst k] (ls.map vl) = some (NL B z, ls.map vl) := by
  have hk' : (ls.map vl)[k]? = some (vl (digs B z n)) := by rw [List.getElem?_map, hk]; rfl
  refine callM_lst rfl rfl rfl (run_normal' hB hz hzn hn hk') ?_ ?_
  · show (if (ls.map vl).length < (ls.map vl).length then some (V.lst _) else ((ls.map vl ++ [vl (digs B z (ln B z))])[(ls.map vl).length]?).bind fun vs => (mapO (frz 5 _ _) vs).map .fro) = _
    rw [if_neg (by omega), List.getElem?_append_right (by omega), Nat.sub_self]
    show (mapO (frz 5 _ _) (vl (digs B z (ln B z)))).map V.fro = _
    rw [frz_vl]; rfl
  · show mapO (mapO (frz 6 _ _)) ((ls.map vl ++ [vl (digs B z (ln B z))]).take (ls.map vl).length) = _
    rw [List.take_append_of_le_length (by omega), List.take_length, frz_vls]

/-! a loop by what holds at each turn -/
theorem forL_ex {it : It} {tg : Tg} {b : PS} (n : Nat) (I : Nat → Loc → Hp → Prop) (hend : ∀ L H, I n L H → nx it n H = some none)
    (step : ∀ i L H, i < n → I i L H → ∃ v L1 L2 H2, nx it i H = some (some v) ∧ tg v L H = some L1 ∧ b L1 H = some (.next, L2, H2) ∧ I (i + 1) L2 H2) :
    ∀ (m i fuel : Nat) (L : Loc) (H : Hp), n = i + m → m < fuel → I i L H → ∃ L' H', forL it tg b fuel i L H = some (.next, L', H') ∧ I n L' H' := by
  intro m
  induction m with
  | zero =>
    intro i fuel L H hi hf hI
    obtain ⟨fuel, rfl⟩ := Nat.exists_eq_succ_of_ne_zero (by omega : fuel ≠ 0)
    have : i = n := by omega
    subst this
    refine ⟨L, H, ?_, hI⟩
    unfold forL
    rw [hend L H hI]; rfl
  | succ m ih =>
    intro i fuel L H hi hf hI
    obtain ⟨fuel, rfl⟩ := Nat.exists_eq_succ_of_ne_zero (by omega : fuel ≠ 0)
    obtain ⟨v, L1, L2, H2, h0, h1, h2, h3⟩ := step i L H (by omega) hI
    obtain ⟨L', H', h4, h5⟩ := ih (i + 1) fuel L2 H2 (by omega) (by omega) h3
    refine ⟨L', H', ?_, h5⟩
    unfold forL
    rw [h0]
    simp only [Option.bind_some, h1, h2]
    exact h4

/-! the product by columns -/
noncomputable def mixl (B P P' p n : Nat) : List Nat := (List.range n).map fun j => if j < p then dg B P' j else dg B P j
theorem mixl_len {B P P' p n : Nat} : (mixl B P P' p n).length = n := by simp [mixl]
theorem mixl_get {B P P' p n j : Nat} (h : j < n) : (mixl B P P' p n)[j]? = some (if j < p then dg B P' j else dg B P j) := by simp [mixl, h]
theorem mixl_set {B P P' p n : Nat} (h : p < n) : (vl (mixl B P P' p n)).set p (.int (dg B P' p : Int)) = vl (mixl B P P' (p + 1) n) := by
  apply List.ext_getElem?
  intro j
  rw [List.getElem?_set]
  unfold vl
  simp only [List.getElem?_map, List.length_map, mixl_len]
  by_cases hj : j < n
  · rw [mixl_get hj, mixl_get hj]
    by_cases hp : p = j
    · subst hp; simp [h]
    · have e : (j < p + 1) ↔ (j < p) := by omega
      simp [hp, e]
  · have e1 : (mixl B P P' p n)[j]? = none := List.getElem?_eq_none (by rw [mixl_len]; omega)
    have e2 : (mixl B P P' (p + 1) n)[j]? = none := List.getElem?_eq_none (by rw [mixl_len]; omega)
    rw [e1, e2]
    have : ¬ p = j := by omega
    simp [this]
theorem dg_low {B P t i j : Nat} (hB : 0 < B) (h : j < i) : dg B (P + B ^ i * t) j = dg B P j := by
  rw [← dg_mod (p := i) hB h, ← dg_mod (x := P) (p := i) hB h, Nat.add_mul_mod_self_left]
theorem mixl_start {B P i t n : Nat} (hB : 0 < B) : mixl B P (P + B ^ i * t) i n = digs B P n := by
  unfold mixl digs
  refine List.map_congr_left fun j _ => ?_
  split
  · rename_i h; exact dg_low hB h
  · rfl
theorem mixl_end {B P P' p n : Nat} (hB : 0 < B) (h1 : P < B ^ p) (h2 : P' < B ^ p) : mixl B P P' p n = digs B P' n := by
  unfold mixl digs
  refine List.map_congr_left fun j _ => ?_
  split
  · rfl
  · rename_i h
    rw [dg_ge hB h1 (by omega), dg_ge hB h2 (by omega)]

noncomputable def carr (B P i X y s : Nat) : Nat := (P % B ^ (i + s) + B ^ i * (X * (y % B ^ s))) / B ^ (i + s)
theorem mul_col {B P i X y s : Nat} (hB : 0 < B) : (carr B P i X y s + dg B P (i + s) + X * dg B y s) % B = dg B (P + B ^ i * (X * y)) (i + s) ∧
    (carr B P i X y s + dg B P (i + s) + X * dg B y s) / B = carr B P i X y (s + 1) := by
  have e : B ^ i * (X * (y % B ^ s)) + B ^ (i + s) * (X * dg B y s) = B ^ i * (X * (y % B ^ (s + 1))) := by
    rw [mod_succ, Nat.pow_add, Nat.mul_add, Nat.mul_add]
    congr 1
    simp only [Nat.mul_assoc, Nat.mul_left_comm, Nat.mul_comm]
  unfold carr
  refine ⟨col_dg hB ?_, ?_⟩
  · rw [e]
    have h1 : B ^ i * (X * y) = B ^ i * (X * (y % B ^ (s + 1))) + B ^ (i + s + 1) * (X * (y / B ^ (s + 1))) := by
      conv => lhs; rw [← Nat.mod_add_div y (B ^ (s + 1))]
      rw [Nat.mul_add, Nat.mul_add, Nat.add_assoc i s 1, Nat.pow_add B i (s + 1)]
      congr 1
      simp only [Nat.mul_assoc, Nat.mul_left_comm, Nat.mul_comm]
    rw [h1, Nat.add_mul_mod_self_left]
  · rw [(col hB).2, e, Nat.add_assoc i s 1]

theorem rep_zero {B : Nat} : ∀ n : Nat, (List.replicate n [V.int 0]).flatten = vl (digs B 0 n)
  | 0 => rfl
  | n + 1 => by
    rw [List.replicate_succ', List.flatten_append, rep_zero n, digs_succ, vl_append]
    have : dg B 0 n = 0 := by simp [dg]
    rw [this]; rfl

theorem nx_enum {B x n i : Nat} {H : Hp} (h : i < n) : nx (.enum (.fro (vl (digs B x n)))) i H = some (some (.tup [.int (i : Int), .int (dg B x i : Int)])) := by
  show ((some (vl (digs B x n))).map fun vs => (vs[i]?).map fun v => V.tup [.int (i : Int), v]) = _
  rw [Option.map_some, vl_get h]; rfl
theorem nx_enum_end {B x n : Nat} {H : Hp} : nx (.enum (.fro (vl (digs B x n)))) n H = some none := by
  show ((some (vl (digs B x n))).map fun vs => (vs[n]?).map fun v => V.tup [.int (n : Int), v]) = _
  rw [Option.map_some, List.getElem?_eq_none (by rw [vl_len, digs_len]; omega)]; rfl

theorem setS_use {e b a : PE} {L : Loc} {H H1 H2 H3 : Hp} {v : V} {k j : Nat} {xs : List V} (h1 : a L H = some (v, H1)) (h2 : e L H1 = some (.lst k, H2)) (h3 : b L H2 = some (.int (j : Int), H3)) (hk : H3[k]? = some xs) (hj : j < xs.length) (hl : lenOk xs.length = true) :
    setS e b a L H = some (.next, L, H3.set k (xs.set j v)) := by
  rw [setS_ap, h1]
  simp only [Option.bind_some, h2, h3, hk]
  rw [if_pos ⟨by omega, by omega, hl⟩, Int.toNat_natCast]

theorem idx_mixl {B P P' p n j : Nat} (h : j < n) (hn : n ≤ 1000) : idx (vl (mixl B P P' p n)) (j : Int) = some (.int ((if j < p then dg B P' j else dg B P j : Nat) : Int)) := by
  unfold idx
  rw [if_pos (by omega), if_pos (by omega), Int.toNat_natCast]
  unfold vl
  rw [List.getElem?_map, mixl_get h]; rfl

noncomputable abbrev mulIn : PS := (seqS (augS 7 .Add (bin (binV .Add) (bin idxV (var 3) (bin (binV .Add) (var 5) (var 8))) (bin (binV .Mult) (var 6) (var 9))))
      (seqS (setS (var 3) (bin (binV .Add) (var 5) (var 8)) (bin (binV .BitAnd) (var 7) (var 4)))
      (seqS (augS 7 .RShift (var 2))
      nilS)))

/-- the inner loop's turn -/
theorem mul_in {w P i X y s N : Nat} {vx vy : V} (hw : 1 ≤ w) (hX : X < 2 ^ 30) (hN : N ≤ 900) (hs : i + s < N) :
    mulIn [some vx, some vy, some (.int w), some (.lst 1), some (.int (2 ^ w - 1)), some (.int i), some (.int X), some (.int (carr (2 ^ w) P i X y s : Int)), some (.int (s : Int)), some (.int (dg (2 ^ w) y s : Int))] [vl [0], vl (mixl (2 ^ w) P (P + (2 ^ w) ^ i * (X * y)) (i + s) N)] =
      some (.next, [some vx, some vy, some (.int w), some (.lst 1), some (.int (2 ^ w - 1)), some (.int i), some (.int X), some (.int (carr (2 ^ w) P i X y (s + 1) : Int)), some (.int (s : Int)), some (.int (dg (2 ^ w) y s : Int))], [vl [0], vl (mixl (2 ^ w) P (P + (2 ^ w) ^ i * (X * y)) (i + (s + 1)) N)]) := by
  have hB := pow_ge2 hw
  obtain ⟨c1, c2⟩ := mul_col (B := 2 ^ w) (P := P) (i := i) (X := X) (y := y) (s := s) (by omega)
  have hsm : small (X : Int) = true := by unfold small; simp; omega
  have e1 : (i : Int) + (s : Int) = ((i + s : Nat) : Int) := by push_cast; rfl
  have a1 := idx_mixl (B := 2 ^ w) (P := P) (P' := P + (2 ^ w) ^ i * (X * y)) (p := i + s) hs (by omega)
  rw [if_neg (Nat.lt_irrefl _)] at a1
  have e2 : (carr (2 ^ w) P i X y s : Int) + ((dg (2 ^ w) P (i + s) : Int) + (X : Int) * (dg (2 ^ w) y s : Int)) = ((carr (2 ^ w) P i X y s + dg (2 ^ w) P (i + s) + X * dg (2 ^ w) y s : Nat) : Int) := by
    push_cast; rw [Int.add_assoc]
  have o1 : lenOk (vl (mixl (2 ^ w) P (P + (2 ^ w) ^ i * (X * y)) (i + s) N)).length = true := by rw [vl_len, mixl_len]; exact lenOk_64 (by omega)
  have st1 : (augS 7 .Add (bin (binV .Add) (bin idxV (var 3) (bin (binV .Add) (var 5) (var 8))) (bin (binV .Mult) (var 6) (var 9)))) [some vx, some vy, some (.int w), some (.lst 1), some (.int (2 ^ w - 1)), some (.int i), some (.int X), some (.int (carr (2 ^ w) P i X y s : Int)), some (.int (s : Int)), some (.int (dg (2 ^ w) y s : Int))] [vl [0], vl (mixl (2 ^ w) P (P + (2 ^ w) ^ i * (X * y)) (i + s) N)] =
      some (.next, [some vx, some vy, some (.int w), some (.lst 1), some (.int (2 ^ w - 1)), some (.int i), some (.int X), some (.int ((carr (2 ^ w) P i X y s + dg (2 ^ w) P (i + s) + X * dg (2 ^ w) y s : Nat) : Int)), some (.int (s : Int)), some (.int (dg (2 ^ w) y s : Int))], [vl [0], vl (mixl (2 ^ w) P (P + (2 ^ w) ^ i * (X * y)) (i + s) N)]) := by
    simp only [seqS_ap, nilS_ap, failS_ap, ifS_ap, asg_ap, retS_ap, exprS_ap, augS_ap, setS_ap, unpS_ap, swpS_ap, var_ap, cst_ap, bin_ap, tval_ap, andE_ap, orE_ap, notE_ap, iteE_ap, notB_ap, andB_ap, orB_ap, nilL_ap, consL_ap, tupE_ap, lstE_ap, callN_ap, ucall_ap, appE_ap, sliceE_ap, forS_ap, whileS_ap, valI_ap, enumI_ap, zipI_ap, tgN_ap, tgT_ap, get_0, get_s, setMany_nil, setMany_cons, lenF_fro, lenF_lst, rangeF_1, rangeF_2, rangeF_3, absF_1, intF_1, seqOf_lst, seqOf_fro, cmp_lt, cmp_le, cmp_gt, cmp_ge, cmp_eq, cmp_ne, cmp_eqb, cmp_neb, bin_add, bin_sub, bin_mul, bin_and, iop_add, iop_sub, iop_shr, idxV_fro, idxV_tup, idxV_lst, idx_c0, idx_c1, idx_c2, idx_c3, truth_bool, unpV_tup, unpV_lst, unpV_fro, part_none, part_int, lenOk_0, lenOk_1, lenOk_2, lenOk_3, lenOk_4, Int.ofNat_lt, Option.bind_some, Option.map_some, Option.bind_none, Option.map_none, List.set_cons_zero, List.set_cons_succ, List.length_cons, List.length_nil, List.getElem?_cons_zero, List.getElem?_cons_succ, List.reverse_cons, List.reverse_nil, List.nil_append, List.cons_append, List.append_nil, Nat.zero_add, Nat.reduceAdd, if_true, reduceIte, reduceCtorEq, or_true, true_or, or_false, false_or, Bool.not_true, Bool.not_false, vl_len, digs_len, e1, a1, hsm, e2]
  have st2 := setS_use (e := var 3) (b := bin (binV .Add) (var 5) (var 8)) (a := bin (binV .BitAnd) (var 7) (var 4)) (L := [some vx, some vy, some (.int w), some (.lst 1), some (.int (2 ^ w - 1)), some (.int i), some (.int X), some (.int ((carr (2 ^ w) P i X y s + dg (2 ^ w) P (i + s) + X * dg (2 ^ w) y s : Nat) : Int)), some (.int (s : Int)), some (.int (dg (2 ^ w) y s : Int))])
    (H := [vl [0], vl (mixl (2 ^ w) P (P + (2 ^ w) ^ i * (X * y)) (i + s) N)]) (H1 := [vl [0], vl (mixl (2 ^ w) P (P + (2 ^ w) ^ i * (X * y)) (i + s) N)]) (H2 := [vl [0], vl (mixl (2 ^ w) P (P + (2 ^ w) ^ i * (X * y)) (i + s) N)]) (H3 := [vl [0], vl (mixl (2 ^ w) P (P + (2 ^ w) ^ i * (X * y)) (i + s) N)])
    (v := .int (dg (2 ^ w) (P + (2 ^ w) ^ i * (X * y)) (i + s) : Int)) (k := 1) (j := i + s) (by simp only [seqS_ap, nilS_ap, failS_ap, ifS_ap, asg_ap, retS_ap, exprS_ap, augS_ap, setS_ap, unpS_ap, swpS_ap, var_ap, cst_ap, bin_ap, tval_ap, andE_ap, orE_ap, notE_ap, iteE_ap, notB_ap, andB_ap, orB_ap, nilL_ap, consL_ap, tupE_ap, lstE_ap, callN_ap, ucall_ap, appE_ap, sliceE_ap, forS_ap, whileS_ap, valI_ap, enumI_ap, zipI_ap, tgN_ap, tgT_ap, get_0, get_s, setMany_nil, setMany_cons, lenF_fro, lenF_lst, rangeF_1, rangeF_2, rangeF_3, absF_1, intF_1, seqOf_lst, seqOf_fro, cmp_lt, cmp_le, cmp_gt, cmp_ge, cmp_eq, cmp_ne, cmp_eqb, cmp_neb, bin_add, bin_sub, bin_mul, bin_and, iop_add, iop_sub, iop_shr, idxV_fro, idxV_tup, idxV_lst, idx_c0, idx_c1, idx_c2, idx_c3, truth_bool, unpV_tup, unpV_lst, unpV_fro, part_none, part_int, lenOk_0, lenOk_1, lenOk_2, lenOk_3, lenOk_4, Int.ofNat_lt, Option.bind_some, Option.map_some, Option.bind_none, Option.map_none, List.set_cons_zero, List.set_cons_succ, List.length_cons, List.length_nil, List.getElem?_cons_zero, List.getElem?_cons_succ, List.reverse_cons, List.reverse_nil, List.nil_append, List.cons_append, List.append_nil, Nat.zero_add, Nat.reduceAdd, if_true, reduceIte, reduceCtorEq, or_true, true_or, or_false, false_or, Bool.not_true, Bool.not_false, vl_len, digs_len, and_mask, c1]) (by simp only [seqS_ap, nilS_ap, failS_ap, ifS_ap, asg_ap, retS_ap, exprS_ap, augS_ap, setS_ap, unpS_ap, swpS_ap, var_ap, cst_ap, bin_ap, tval_ap, andE_ap, orE_ap, notE_ap, iteE_ap, notB_ap, andB_ap, orB_ap, nilL_ap, consL_ap, tupE_ap, lstE_ap, callN_ap, ucall_ap, appE_ap, sliceE_ap, forS_ap, whileS_ap, valI_ap, enumI_ap, zipI_ap, tgN_ap, tgT_ap, get_0, get_s, setMany_nil, setMany_cons, lenF_fro, lenF_lst, rangeF_1, rangeF_2, rangeF_3, absF_1, intF_1, seqOf_lst, seqOf_fro, cmp_lt, cmp_le, cmp_gt, cmp_ge, cmp_eq, cmp_ne, cmp_eqb, cmp_neb, bin_add, bin_sub, bin_mul, bin_and, iop_add, iop_sub, iop_shr, idxV_fro, idxV_tup, idxV_lst, idx_c0, idx_c1, idx_c2, idx_c3, truth_bool, unpV_tup, unpV_lst, unpV_fro, part_none, part_int, lenOk_0, lenOk_1, lenOk_2, lenOk_3, lenOk_4, Int.ofNat_lt, Option.bind_some, Option.map_some, Option.bind_none, Option.map_none, List.set_cons_zero, List.set_cons_succ, List.length_cons, List.length_nil, List.getElem?_cons_zero, List.getElem?_cons_succ, List.reverse_cons, List.reverse_nil, List.nil_append, List.cons_append, List.append_nil, Nat.zero_add, Nat.reduceAdd, if_true, reduceIte, reduceCtorEq, or_true, true_or, or_false, false_or, Bool.not_true, Bool.not_false, vl_len, digs_len]) (by simp only [seqS_ap, nilS_ap, failS_ap, ifS_ap, asg_ap, retS_ap, exprS_ap, augS_ap, setS_ap, unpS_ap, swpS_ap, var_ap, cst_ap, bin_ap, tval_ap, andE_ap, orE_ap, notE_ap, iteE_ap, notB_ap, andB_ap, orB_ap, nilL_ap, consL_ap, tupE_ap, lstE_ap, callN_ap, ucall_ap, appE_ap, sliceE_ap, forS_ap, whileS_ap, valI_ap, enumI_ap, zipI_ap, tgN_ap, tgT_ap, get_0, get_s, setMany_nil, setMany_cons, lenF_fro, lenF_lst, rangeF_1, rangeF_2, rangeF_3, absF_1, intF_1, seqOf_lst, seqOf_fro, cmp_lt, cmp_le, cmp_gt, cmp_ge, cmp_eq, cmp_ne, cmp_eqb, cmp_neb, bin_add, bin_sub, bin_mul, bin_and, iop_add, iop_sub, iop_shr, idxV_fro, idxV_tup, idxV_lst, idx_c0, idx_c1, idx_c2, idx_c3, truth_bool, unpV_tup, unpV_lst, unpV_fro, part_none, part_int, lenOk_0, lenOk_1, lenOk_2, lenOk_3, lenOk_4, Int.ofNat_lt, Option.bind_some, Option.map_some, Option.bind_none, Option.map_none, List.set_cons_zero, List.set_cons_succ, List.length_cons, List.length_nil, List.getElem?_cons_zero, List.getElem?_cons_succ, List.reverse_cons, List.reverse_nil, List.nil_append, List.cons_append, List.append_nil, Nat.zero_add, Nat.reduceAdd, if_true, reduceIte, reduceCtorEq, or_true, true_or, or_false, false_or, Bool.not_true, Bool.not_false, vl_len, digs_len, e1]) rfl (by rw [vl_len, mixl_len]; exact hs) o1
  rw [mixl_set hs] at st2
  unfold mulIn
  rw [seqS_ap, st1]
  simp only [Option.bind_some]
  rw [seqS_ap, st2]
  simp only [seqS_ap, nilS_ap, failS_ap, ifS_ap, asg_ap, retS_ap, exprS_ap, augS_ap, setS_ap, unpS_ap, swpS_ap, var_ap, cst_ap, bin_ap, tval_ap, andE_ap, orE_ap, notE_ap, iteE_ap, notB_ap, andB_ap, orB_ap, nilL_ap, consL_ap, tupE_ap, lstE_ap, callN_ap, ucall_ap, appE_ap, sliceE_ap, forS_ap, whileS_ap, valI_ap, enumI_ap, zipI_ap, tgN_ap, tgT_ap, get_0, get_s, setMany_nil, setMany_cons, lenF_fro, lenF_lst, rangeF_1, rangeF_2, rangeF_3, absF_1, intF_1, seqOf_lst, seqOf_fro, cmp_lt, cmp_le, cmp_gt, cmp_ge, cmp_eq, cmp_ne, cmp_eqb, cmp_neb, bin_add, bin_sub, bin_mul, bin_and, iop_add, iop_sub, iop_shr, idxV_fro, idxV_tup, idxV_lst, idx_c0, idx_c1, idx_c2, idx_c3, truth_bool, unpV_tup, unpV_lst, unpV_fro, part_none, part_int, lenOk_0, lenOk_1, lenOk_2, lenOk_3, lenOk_4, Int.ofNat_lt, Option.bind_some, Option.map_some, Option.bind_none, Option.map_none, List.set_cons_zero, List.set_cons_succ, List.length_cons, List.length_nil, List.getElem?_cons_zero, List.getElem?_cons_succ, List.reverse_cons, List.reverse_nil, List.nil_append, List.cons_append, List.append_nil, Nat.zero_add, Nat.reduceAdd, if_true, reduceIte, reduceCtorEq, or_true, true_or, or_false, false_or, Bool.not_true, Bool.not_false, vl_len, digs_len, shr, c2]
  rfl

noncomputable def mulI (w x y : Nat) (i : Nat) (L : Loc) (H : Hp) : Prop := ∃ o5 o6 o7 o8 o9, L = [some (NL (2 ^ w) x), some (NL (2 ^ w) y), some (.int w), some (.lst 1), some (.int (2 ^ w - 1)), o5, o6, o7, o8, o9] ∧
  H = [vl [0], vl (digs (2 ^ w) ((x % (2 ^ w) ^ i) * y) (ln (2 ^ w) x + ln (2 ^ w) y))]

noncomputable abbrev mulOut : PS := (seqS (asg 7 (cst (.int 0)))
    (seqS (forS (enumI (var 1)) (tgT [8, 9]) mulIn)
    (seqS (setS (var 3) (bin (binV .Add) (var 5) (callN lenF (consL (var 1) nilL))) (var 7))
    nilS)))

theorem mul_out {w x y i : Nat} {o7 o8 o9 : Option V} (hw : 1 ≤ w) (hw2 : w ≤ 29) (hx : x < 2 ^ 60) (hy : y < 2 ^ 60) (hi : i < ln (2 ^ w) x) :
    ∃ L2 H2, mulOut [some (NL (2 ^ w) x), some (NL (2 ^ w) y), some (.int w), some (.lst 1), some (.int (2 ^ w - 1)), some (.int (i : Int)), some (.int (dg (2 ^ w) x i : Int)), o7, o8, o9] [vl [0], vl (digs (2 ^ w) ((x % (2 ^ w) ^ i) * y) (ln (2 ^ w) x + ln (2 ^ w) y))] = some (.next, L2, H2) ∧ mulI w x y (i + 1) L2 H2 := by
  have hB := pow_ge2 hw
  have hnx := ln_le64 hB (show x < 2 ^ 64 by omega)
  have hny := ln_le64 hB (show y < 2 ^ 64 by omega)
  have hylt := ln_lt hB (show y < 2 ^ 64 by omega)
  have o2 := lenOk_64 (show ln (2 ^ w) y ≤ 1000 by omega)
  have hX : dg (2 ^ w) x i < 2 ^ 30 := by
    have h1 : dg (2 ^ w) x i < 2 ^ w := dg_lt (by omega)
    have h2 : 2 ^ w ≤ 2 ^ 29 := Nat.pow_le_pow_right (by decide) hw2
    omega
  generalize hN : ln (2 ^ w) x + ln (2 ^ w) y = N at *
  generalize hXd : dg (2 ^ w) x i = X at *
  generalize hP : (x % (2 ^ w) ^ i) * y = P at *
  have hP' : (x % (2 ^ w) ^ (i + 1)) * y = P + (2 ^ w) ^ i * (X * y) := by
    rw [mod_succ, Nat.add_mul, hP, hXd, Nat.mul_assoc]
  have hPlt : P < (2 ^ w) ^ (i + ln (2 ^ w) y) := by
    rw [← hP, Nat.pow_add]
    exact Nat.mul_lt_mul_of_lt_of_lt (Nat.mod_lt _ (Nat.pow_pos (by omega))) hylt
  have hPlt' : P + (2 ^ w) ^ i * (X * y) < (2 ^ w) ^ (i + ln (2 ^ w) y + 1) := by
    rw [← hP', show i + ln (2 ^ w) y + 1 = i + 1 + ln (2 ^ w) y by omega, Nat.pow_add _ (i + 1)]
    exact Nat.mul_lt_mul_of_lt_of_lt (Nat.mod_lt _ (Nat.pow_pos (by omega))) hylt
  have loop := forL_ex (it := .enum (.fro (vl (digs (2 ^ w) y (ln (2 ^ w) y))))) (tg := tgT [8, 9]) (b := mulIn) (ln (2 ^ w) y)
    (fun s L H => ∃ o8 o9, L = [some (NL (2 ^ w) x), some (NL (2 ^ w) y), some (.int w), some (.lst 1), some (.int (2 ^ w - 1)), some (.int (i : Int)), some (.int (X : Int)), some (.int (carr (2 ^ w) P i X y s : Int)), o8, o9] ∧ H = [vl [0], vl (mixl (2 ^ w) P (P + (2 ^ w) ^ i * (X * y)) (i + s) N)])
    (fun L H _ => nx_enum_end)
    (fun s L H hs hI => by
      obtain ⟨o8, o9, rfl, rfl⟩ := hI
      refine ⟨_, _, _, _, nx_enum hs, ?_, mul_in hw hX (by omega) (by omega), _, _, rfl, rfl⟩
      · simp only [tgT_ap, unpV_tup, List.length_cons, List.length_nil, if_true, Option.map_some, setMany_cons, setMany_nil, List.set_cons_succ, List.set_cons_zero]) (ln (2 ^ w) y) 0 1000 [some (NL (2 ^ w) x), some (NL (2 ^ w) y), some (.int w), some (.lst 1), some (.int (2 ^ w - 1)), some (.int (i : Int)), some (.int (X : Int)), some (.int 0), o8, o9] [vl [0], vl (digs (2 ^ w) P N)] (by omega) (by omega)
    ⟨o8, o9, by
      have : carr (2 ^ w) P i X y 0 = 0 := by
        unfold carr
        rw [Nat.pow_zero, Nat.mod_one, Nat.mul_zero, Nat.mul_zero, Nat.add_zero, Nat.add_zero]
        exact Nat.div_eq_of_lt (Nat.mod_lt _ (Nat.pow_pos (by omega)))
      rw [this]; rfl, by rw [Nat.add_zero, mixl_start (by omega)]⟩
  obtain ⟨L', H', hloop, q8, q9, rfl, rfl⟩ := loop
  have e1 : (i : Int) + (ln (2 ^ w) y : Int) = ((i + ln (2 ^ w) y : Nat) : Int) := by push_cast; rfl
  have hc : carr (2 ^ w) P i X y (ln (2 ^ w) y) = dg (2 ^ w) (P + (2 ^ w) ^ i * (X * y)) (i + ln (2 ^ w) y) := by
    rw [dg_last hB hPlt']
    unfold carr
    rw [Nat.mod_eq_of_lt hPlt, Nat.mod_eq_of_lt hylt]
  have hjN : i + ln (2 ^ w) y < N := by omega
  have o1 : lenOk (vl (mixl (2 ^ w) P (P + (2 ^ w) ^ i * (X * y)) (i + ln (2 ^ w) y) N)).length = true := by rw [vl_len, mixl_len]; exact lenOk_64 (by omega)
  have st2 := setS_use (e := var 3) (b := bin (binV .Add) (var 5) (callN lenF (consL (var 1) nilL))) (a := var 7) (L := [some (NL (2 ^ w) x), some (NL (2 ^ w) y), some (.int w), some (.lst 1), some (.int (2 ^ w - 1)), some (.int (i : Int)), some (.int (X : Int)), some (.int (carr (2 ^ w) P i X y (ln (2 ^ w) y) : Int)), q8, q9])
    (H := [vl [0], vl (mixl (2 ^ w) P (P + (2 ^ w) ^ i * (X * y)) (i + ln (2 ^ w) y) N)]) (H1 := [vl [0], vl (mixl (2 ^ w) P (P + (2 ^ w) ^ i * (X * y)) (i + ln (2 ^ w) y) N)]) (H2 := [vl [0], vl (mixl (2 ^ w) P (P + (2 ^ w) ^ i * (X * y)) (i + ln (2 ^ w) y) N)]) (H3 := [vl [0], vl (mixl (2 ^ w) P (P + (2 ^ w) ^ i * (X * y)) (i + ln (2 ^ w) y) N)])
    (v := .int (dg (2 ^ w) (P + (2 ^ w) ^ i * (X * y)) (i + ln (2 ^ w) y) : Int)) (k := 1) (j := i + ln (2 ^ w) y) (by simp only [seqS_ap, nilS_ap, failS_ap, ifS_ap, asg_ap, retS_ap, exprS_ap, augS_ap, setS_ap, unpS_ap, swpS_ap, var_ap, cst_ap, bin_ap, tval_ap, andE_ap, orE_ap, notE_ap, iteE_ap, notB_ap, andB_ap, orB_ap, nilL_ap, consL_ap, tupE_ap, lstE_ap, callN_ap, ucall_ap, appE_ap, sliceE_ap, forS_ap, whileS_ap, valI_ap, enumI_ap, zipI_ap, tgN_ap, tgT_ap, get_0, get_s, setMany_nil, setMany_cons, lenF_fro, lenF_lst, rangeF_1, rangeF_2, rangeF_3, absF_1, intF_1, seqOf_lst, seqOf_fro, cmp_lt, cmp_le, cmp_gt, cmp_ge, cmp_eq, cmp_ne, cmp_eqb, cmp_neb, bin_add, bin_sub, bin_mul, bin_and, iop_add, iop_sub, iop_shr, idxV_fro, idxV_tup, idxV_lst, idx_c0, idx_c1, idx_c2, idx_c3, truth_bool, unpV_tup, unpV_lst, unpV_fro, part_none, part_int, lenOk_0, lenOk_1, lenOk_2, lenOk_3, lenOk_4, Int.ofNat_lt, Option.bind_some, Option.map_some, Option.bind_none, Option.map_none, List.set_cons_zero, List.set_cons_succ, List.length_cons, List.length_nil, List.getElem?_cons_zero, List.getElem?_cons_succ, List.reverse_cons, List.reverse_nil, List.nil_append, List.cons_append, List.append_nil, Nat.zero_add, Nat.reduceAdd, if_true, reduceIte, reduceCtorEq, or_true, true_or, or_false, false_or, Bool.not_true, Bool.not_false, vl_len, digs_len, hc]) (by simp only [seqS_ap, nilS_ap, failS_ap, ifS_ap, asg_ap, retS_ap, exprS_ap, augS_ap, setS_ap, unpS_ap, swpS_ap, var_ap, cst_ap, bin_ap, tval_ap, andE_ap, orE_ap, notE_ap, iteE_ap, notB_ap, andB_ap, orB_ap, nilL_ap, consL_ap, tupE_ap, lstE_ap, callN_ap, ucall_ap, appE_ap, sliceE_ap, forS_ap, whileS_ap, valI_ap, enumI_ap, zipI_ap, tgN_ap, tgT_ap, get_0, get_s, setMany_nil, setMany_cons, lenF_fro, lenF_lst, rangeF_1, rangeF_2, rangeF_3, absF_1, intF_1, seqOf_lst, seqOf_fro, cmp_lt, cmp_le, cmp_gt, cmp_ge, cmp_eq, cmp_ne, cmp_eqb, cmp_neb, bin_add, bin_sub, bin_mul, bin_and, iop_add, iop_sub, iop_shr, idxV_fro, idxV_tup, idxV_lst, idx_c0, idx_c1, idx_c2, idx_c3, truth_bool, unpV_tup, unpV_lst, unpV_fro, part_none, part_int, lenOk_0, lenOk_1, lenOk_2, lenOk_3, lenOk_4, Int.ofNat_lt, Option.bind_some, Option.map_some, Option.bind_none, Option.map_none, List.set_cons_zero, List.set_cons_succ, List.length_cons, List.length_nil, List.getElem?_cons_zero, List.getElem?_cons_succ, List.reverse_cons, List.reverse_nil, List.nil_append, List.cons_append, List.append_nil, Nat.zero_add, Nat.reduceAdd, if_true, reduceIte, reduceCtorEq, or_true, true_or, or_false, false_or, Bool.not_true, Bool.not_false, vl_len, digs_len]) (by simp only [seqS_ap, nilS_ap, failS_ap, ifS_ap, asg_ap, retS_ap, exprS_ap, augS_ap, setS_ap, unpS_ap, swpS_ap, var_ap, cst_ap, bin_ap, tval_ap, andE_ap, orE_ap, notE_ap, iteE_ap, notB_ap, andB_ap, orB_ap, nilL_ap, consL_ap, tupE_ap, lstE_ap, callN_ap, ucall_ap, appE_ap, sliceE_ap, forS_ap, whileS_ap, valI_ap, enumI_ap, zipI_ap, tgN_ap, tgT_ap, get_0, get_s, setMany_nil, setMany_cons, lenF_fro, lenF_lst, rangeF_1, rangeF_2, rangeF_3, absF_1, intF_1, seqOf_lst, seqOf_fro, cmp_lt, cmp_le, cmp_gt, cmp_ge, cmp_eq, cmp_ne, cmp_eqb, cmp_neb, bin_add, bin_sub, bin_mul, bin_and, iop_add, iop_sub, iop_shr, idxV_fro, idxV_tup, idxV_lst, idx_c0, idx_c1, idx_c2, idx_c3, truth_bool, unpV_tup, unpV_lst, unpV_fro, part_none, part_int, lenOk_0, lenOk_1, lenOk_2, lenOk_3, lenOk_4, Int.ofNat_lt, Option.bind_some, Option.map_some, Option.bind_none, Option.map_none, List.set_cons_zero, List.set_cons_succ, List.length_cons, List.length_nil, List.getElem?_cons_zero, List.getElem?_cons_succ, List.reverse_cons, List.reverse_nil, List.nil_append, List.cons_append, List.append_nil, Nat.zero_add, Nat.reduceAdd, if_true, reduceIte, reduceCtorEq, or_true, true_or, or_false, false_or, Bool.not_true, Bool.not_false, vl_len, digs_len, NL, o2, e1]) rfl (by rw [vl_len, mixl_len]; exact hjN) o1
  rw [mixl_set hjN, mixl_end (by omega) (Nat.lt_of_lt_of_le hPlt (Nat.pow_le_pow_right (by omega) (Nat.le_succ _))) hPlt'] at st2
  refine ⟨[some (NL (2 ^ w) x), some (NL (2 ^ w) y), some (.int w), some (.lst 1), some (.int (2 ^ w - 1)), some (.int (i : Int)), some (.int (X : Int)), some (.int (carr (2 ^ w) P i X y (ln (2 ^ w) y) : Int)), q8, q9],
    [vl [0], vl (digs (2 ^ w) (P + (2 ^ w) ^ i * (X * y)) N)], ?_, ⟨_, _, _, _, _, rfl, by rw [hP', hN]⟩⟩
  unfold mulOut
  have hf : (forS (enumI (var 1)) (tgT [8, 9]) mulIn) [some (NL (2 ^ w) x), some (NL (2 ^ w) y), some (.int w), some (.lst 1), some (.int (2 ^ w - 1)), some (.int (i : Int)), some (.int (X : Int)), some (.int 0), o8, o9] [vl [0], vl (digs (2 ^ w) P N)] =
      some (.next, [some (NL (2 ^ w) x), some (NL (2 ^ w) y), some (.int w), some (.lst 1), some (.int (2 ^ w - 1)), some (.int (i : Int)), some (.int (X : Int)), some (.int (carr (2 ^ w) P i X y (ln (2 ^ w) y) : Int)), q8, q9], [vl [0], vl (mixl (2 ^ w) P (P + (2 ^ w) ^ i * (X * y)) (i + ln (2 ^ w) y) N)]) := hloop
  rw [seqS_ap]
  simp only [asg_ap, cst_ap, Option.map_some, Option.bind_some, List.set_cons_succ, List.set_cons_zero]
  rw [seqS_ap, hf]
  simp only [Option.bind_some]
  rw [seqS_ap, st2]
  simp only [nilS_ap, Option.bind_some, List.set_cons_succ, List.set_cons_zero]

theorem run_mul {d w x y : Nat} (hw : 1 ≤ w) (hw2 : w ≤ 29) (hx : x < 2 ^ 60) (hy : y < 2 ^ 60) (hxy : x * y < 2 ^ 60) :
    ∃ L H, (cd_mul_school (callM codes (d + 1))) [some (NL (2 ^ w) x), some (NL (2 ^ w) y), some (.int w), none, none, none, none, none, none, none] [] = some (.ret (NL (2 ^ w) (x * y)), L, H) := by
  have hB := pow_ge2 hw
  have hnx := ln_le64 hB (show x < 2 ^ 64 by omega)
  have hny := ln_le64 hB (show y < 2 ^ 64 by omega)
  have hxlt := ln_lt hB (show x < 2 ^ 64 by omega)
  have hylt := ln_lt hB (show y < 2 ^ 64 by omega)
  have o1 := lenOk_64 (show ln (2 ^ w) x ≤ 1000 by omega)
  have o2 := lenOk_64 (show ln (2 ^ w) y ≤ 1000 by omega)
  have o5 : lenOk (1 * (ln (2 ^ w) x + ln (2 ^ w) y)) = true := lenOk_64 (by omega)
  have e1 : (ln (2 ^ w) x : Int) + (ln (2 ^ w) y : Int) = ((ln (2 ^ w) x + ln (2 ^ w) y : Nat) : Int) := by push_cast; rfl
  have hsm : small ((ln (2 ^ w) x + ln (2 ^ w) y : Nat) : Int) = true := by unfold small; simp; omega
  have hrep : binV .Mult (.lst 0) (.int ((ln (2 ^ w) x + ln (2 ^ w) y : Nat) : Int)) [[.int 0]] = some (.lst 1, [vl [0], vl (digs (2 ^ w) ((x % (2 ^ w) ^ 0) * y) (ln (2 ^ w) x + ln (2 ^ w) y))]) := by
    rw [bin_rep hsm]
    simp only [List.getElem?_cons_zero, Option.bind_some, List.length_cons, List.length_nil, Int.toNat_natCast, Nat.zero_add, o5, if_true, rep_zero (B := 2 ^ w), Nat.pow_zero, Nat.mod_one, Nat.zero_mul]
    rfl
  have o3 := bin_shl1 (H := [vl [0], vl (digs (2 ^ w) ((x % (2 ^ w) ^ 0) * y) (ln (2 ^ w) x + ln (2 ^ w) y))]) (show w ≤ 1000 by omega)
  have loop := forL_ex (it := .enum (.fro (vl (digs (2 ^ w) x (ln (2 ^ w) x))))) (tg := tgT [5, 6]) (b := mulOut) (ln (2 ^ w) x) (mulI w x y) (fun L H _ => nx_enum_end)
    (fun i L H hi hI => by
      obtain ⟨o5, o6, o7, o8, o9, rfl, rfl⟩ := hI
      obtain ⟨L2, H2, h1, h2⟩ := mul_out (o7 := o7) (o8 := o8) (o9 := o9) hw hw2 hx hy hi
      refine ⟨_, _, L2, H2, nx_enum hi, ?_, h1, h2⟩
      simp only [tgT_ap, unpV_tup, List.length_cons, List.length_nil, if_true, Option.map_some, setMany_cons, setMany_nil, List.set_cons_succ, List.set_cons_zero]) (ln (2 ^ w) x) 0 1000
    [some (NL (2 ^ w) x), some (NL (2 ^ w) y), some (.int w), some (.lst 1), some (.int (2 ^ w - 1)), none, none, none, none, none] [vl [0], vl (digs (2 ^ w) ((x % (2 ^ w) ^ 0) * y) (ln (2 ^ w) x + ln (2 ^ w) y))] (by omega) (by omega) ⟨_, _, _, _, _, rfl, rfl⟩
  obtain ⟨L', H', hloop, q5, q6, q7, q8, q9, rfl, rfl⟩ := loop
  rw [Nat.mod_eq_of_lt hxlt] at hloop
  have hz : x * y < (2 ^ w) ^ (ln (2 ^ w) x + ln (2 ^ w) y) := by rw [Nat.pow_add]; exact Nat.mul_lt_mul_of_lt_of_lt hxlt hylt
  have hn := sp_normal' (d := d) (B := 2 ^ w) (z := x * y) (n := ln (2 ^ w) x + ln (2 ^ w) y) (k := 1) (ls := [[0], digs (2 ^ w) (x * y) (ln (2 ^ w) x + ln (2 ^ w) y)]) hB (by omega) hz (by omega) rfl
  have hn' : callM codes (d + 1) 0 [.lst 1] [vl [0], vl (digs (2 ^ w) (x * y) (ln (2 ^ w) x + ln (2 ^ w) y))] = some (NL (2 ^ w) (x * y), [vl [0], vl (digs (2 ^ w) (x * y) (ln (2 ^ w) x + ln (2 ^ w) y))]) := hn
  have hloop' : (forS (enumI (var 0)) (tgT [5, 6]) mulOut) [some (NL (2 ^ w) x), some (NL (2 ^ w) y), some (.int w), some (.lst 1), some (.int (2 ^ w - 1)), none, none, none, none, none] [vl [0], vl (digs (2 ^ w) ((x % (2 ^ w) ^ 0) * y) (ln (2 ^ w) x + ln (2 ^ w) y))] = _ := hloop
  have e : cd_mul_school (callM codes (d + 1)) = (seqS (swpS [3, 4] (tupE (consL (bin (binV .Mult) (lstE (consL (cst (.int 0)) nilL)) (bin (binV .Add) (callN lenF (consL (var 0) nilL)) (callN lenF (consL (var 1) nilL)))) (consL (bin (binV .Sub) (bin (binV .LShift) (cst (.int 1)) (var 2)) (cst (.int 1))) nilL))))
      (seqS (forS (enumI (var 0)) (tgT [5, 6]) mulOut) (seqS (retS (ucall (callM codes (d + 1)) (cst (.fn 0)) (consL (var 3) nilL))) nilS))) := rfl
  have hs1 : (swpS [3, 4] (tupE (consL (bin (binV .Mult) (lstE (consL (cst (.int 0)) nilL)) (bin (binV .Add) (callN lenF (consL (var 0) nilL)) (callN lenF (consL (var 1) nilL)))) (consL (bin (binV .Sub) (bin (binV .LShift) (cst (.int 1)) (var 2)) (cst (.int 1))) nilL)))) [some (NL (2 ^ w) x), some (NL (2 ^ w) y), some (.int w), none, none, none, none, none, none, none] [] =
      some (.next, [some (NL (2 ^ w) x), some (NL (2 ^ w) y), some (.int w), some (.lst 1), some (.int (2 ^ w - 1)), none, none, none, none, none], [vl [0], vl (digs (2 ^ w) ((x % (2 ^ w) ^ 0) * y) (ln (2 ^ w) x + ln (2 ^ w) y))]) := by
    simp only [seqS_ap, nilS_ap, failS_ap, ifS_ap, asg_ap, retS_ap, exprS_ap, augS_ap, setS_ap, unpS_ap, swpS_ap, var_ap, cst_ap, bin_ap, tval_ap, andE_ap, orE_ap, notE_ap, iteE_ap, notB_ap, andB_ap, orB_ap, nilL_ap, consL_ap, tupE_ap, lstE_ap, callN_ap, ucall_ap, appE_ap, sliceE_ap, forS_ap, whileS_ap, valI_ap, enumI_ap, zipI_ap, tgN_ap, tgT_ap, get_0, get_s, setMany_nil, setMany_cons, lenF_fro, lenF_lst, rangeF_1, rangeF_2, rangeF_3, absF_1, intF_1, seqOf_lst, seqOf_fro, cmp_lt, cmp_le, cmp_gt, cmp_ge, cmp_eq, cmp_ne, cmp_eqb, cmp_neb, bin_add, bin_sub, bin_mul, bin_and, iop_add, iop_sub, iop_shr, idxV_fro, idxV_tup, idxV_lst, idx_c0, idx_c1, idx_c2, idx_c3, truth_bool, unpV_tup, unpV_lst, unpV_fro, part_none, part_int, lenOk_0, lenOk_1, lenOk_2, lenOk_3, lenOk_4, Int.ofNat_lt, Option.bind_some, Option.map_some, Option.bind_none, Option.map_none, List.set_cons_zero, List.set_cons_succ, List.length_cons, List.length_nil, List.getElem?_cons_zero, List.getElem?_cons_succ, List.reverse_cons, List.reverse_nil, List.nil_append, List.cons_append, List.append_nil, Nat.zero_add, Nat.reduceAdd, if_true, reduceIte, reduceCtorEq, or_true, true_or, or_false, false_or, Bool.not_true, Bool.not_false, vl_len, digs_len, NL, o1, o2, e1, hrep, o3]
  refine ⟨[some (NL (2 ^ w) x), some (NL (2 ^ w) y), some (.int w), some (.lst 1), some (.int (2 ^ w - 1)), q5, q6, q7, q8, q9], [vl [0], vl (digs (2 ^ w) (x * y) (ln (2 ^ w) x + ln (2 ^ w) y))], ?_⟩
  rw [e, seqS_ap, hs1]
  simp only [Option.bind_some]
  rw [seqS_ap, hloop']
  simp only [seqS_ap, nilS_ap, failS_ap, ifS_ap, asg_ap, retS_ap, exprS_ap, augS_ap, setS_ap, unpS_ap, swpS_ap, var_ap, cst_ap, bin_ap, tval_ap, andE_ap, orE_ap, notE_ap, iteE_ap, notB_ap, andB_ap, orB_ap, nilL_ap, consL_ap, tupE_ap, lstE_ap, callN_ap, ucall_ap, appE_ap, sliceE_ap, forS_ap, whileS_ap, valI_ap, enumI_ap, zipI_ap, tgN_ap, tgT_ap, get_0, get_s, setMany_nil, setMany_cons, lenF_fro, lenF_lst, rangeF_1, rangeF_2, rangeF_3, absF_1, intF_1, seqOf_lst, seqOf_fro, cmp_lt, cmp_le, cmp_gt, cmp_ge, cmp_eq, cmp_ne, cmp_eqb, cmp_neb, bin_add, bin_sub, bin_mul, bin_and, iop_add, iop_sub, iop_shr, idxV_fro, idxV_tup, idxV_lst, idx_c0, idx_c1, idx_c2, idx_c3, truth_bool, unpV_tup, unpV_lst, unpV_fro, part_none, part_int, lenOk_0, lenOk_1, lenOk_2, lenOk_3, lenOk_4, Int.ofNat_lt, Option.bind_some, Option.map_some, Option.bind_none, Option.map_none, List.set_cons_zero, List.set_cons_succ, List.length_cons, List.length_nil, List.getElem?_cons_zero, List.getElem?_cons_succ, List.reverse_cons, List.reverse_nil, List.nil_append, List.cons_append, List.append_nil, Nat.zero_add, Nat.reduceAdd, if_true, reduceIte, reduceCtorEq, or_true, true_or, or_false, false_or, Bool.not_true, Bool.not_false, vl_len, digs_len, hn']

theorem sp_mul {d w x y : Nat} {H : Hp} (hw : 1 ≤ w) (hw2 : w ≤ 29) (hx : x < 2 ^ 60) (hy : y < 2 ^ 60) (hxy : x * y < 2 ^ 60) : callM codes (d + 2) 21 [NL (2 ^ w) x, NL (2 ^ w) y, .int w] H = some (NL (2 ^ w) (x * y), H) := by
  obtain ⟨L, H', e⟩ := run_mul (d := d) hw hw2 hx hy hxy
  exact callM_pure pure_2w rfl rfl e frz_fro

theorem sp_s_mul {d w : Nat} {a b : Int} {H : Hp} (hw : 1 ≤ w) (hw2 : w ≤ 29) (ha : a.natAbs < 2 ^ 60) (hb : b.natAbs < 2 ^ 60) (hab : a.natAbs * b.natAbs < 2 ^ 60) : callM codes (d + 3) 15 [SG w a, SG w b, .int w, .fn 21] H = some (SG w (a * b), H) := by
  have h1 := sp_mul (d := d) (H := []) hw hw2 ha hb hab
  have h3 := sp_signed (d := d + 1) (b := decide (¬ (a < 0 ↔ b < 0))) (H := []) hw (show a.natAbs * b.natAbs < 2 ^ 62 by omega)
  have e : sgn (decide (¬ (a < 0 ↔ b < 0))) (a.natAbs * b.natAbs) = a * b := by
    unfold sgn
    rw [← Int.natAbs_mul]
    by_cases h : a < 0
    · by_cases h' : b < 0
      · have := Int.mul_pos_of_neg_of_neg h h'
        simp [h, h']; omega
      · have := Int.mul_nonpos_of_nonpos_of_nonneg (Int.le_of_lt h) (Int.not_lt.mp h')
        simp [h, h']; omega
    · by_cases h' : b < 0
      · have := Int.mul_nonpos_of_nonneg_of_nonpos (Int.not_lt.mp h) (Int.le_of_lt h')
        simp [h, h']; omega
      · have := Int.mul_nonneg (Int.not_lt.mp h) (Int.not_lt.mp h')
        simp [h, h']; omega
  rw [e] at h3
  have run : (cd_s_mul (callM codes (d + 2))) [some (SG w a), some (SG w b), some (.int w), some (.fn 21)] [] = some (.ret (SG w (a * b)), [some (SG w a), some (SG w b), some (.int w), some (.fn 21)], []) := by
    unfold cd_s_mul
    simp only [NL] at h1 h3
    simp only [seqS_ap, nilS_ap, failS_ap, ifS_ap, asg_ap, retS_ap, exprS_ap, augS_ap, setS_ap, unpS_ap, swpS_ap, var_ap, cst_ap, bin_ap, tval_ap, andE_ap, orE_ap, notE_ap, iteE_ap, notB_ap, andB_ap, orB_ap, nilL_ap, consL_ap, tupE_ap, lstE_ap, callN_ap, ucall_ap, appE_ap, sliceE_ap, forS_ap, whileS_ap, valI_ap, enumI_ap, zipI_ap, tgN_ap, tgT_ap, get_0, get_s, setMany_nil, setMany_cons, lenF_fro, lenF_lst, rangeF_1, rangeF_2, rangeF_3, absF_1, intF_1, seqOf_lst, seqOf_fro, cmp_lt, cmp_le, cmp_gt, cmp_ge, cmp_eq, cmp_ne, cmp_eqb, cmp_neb, bin_add, bin_sub, bin_mul, bin_and, iop_add, iop_sub, iop_shr, idxV_fro, idxV_tup, idxV_lst, idx_c0, idx_c1, idx_c2, idx_c3, truth_bool, unpV_tup, unpV_lst, unpV_fro, part_none, part_int, lenOk_0, lenOk_1, lenOk_2, lenOk_3, lenOk_4, Int.ofNat_lt, Option.bind_some, Option.map_some, Option.bind_none, Option.map_none, List.set_cons_zero, List.set_cons_succ, List.length_cons, List.length_nil, List.getElem?_cons_zero, List.getElem?_cons_succ, List.reverse_cons, List.reverse_nil, List.nil_append, List.cons_append, List.append_nil, Nat.zero_add, Nat.reduceAdd, if_true, reduceIte, reduceCtorEq, or_true, true_or, or_false, false_or, Bool.not_true, Bool.not_false, vl_len, digs_len, SG_of (a := a), SG_of (a := b), bne_dec, h1, h3]
  exact callM_pure (by show (purev _ && (purev _ && true)) = true; rw [pure_SG, pure_SG]; rfl) rfl rfl run frz_SG

theorem sp_times {d w : Nat} {a b : Int} {H : Hp} (hw : 1 ≤ w) (hw2 : w ≤ 29) (ha : a.natAbs < 2 ^ 60) (hb : b.natAbs < 2 ^ 60) (hab : a.natAbs * b.natAbs < 2 ^ 60) : callM codes (d + 4) 31 [SG w a, SG w b, .int w] H = some (SG w (a * b), H) := by
  have h1 := sp_s_mul (d := d) (H := []) hw hw2 ha hb hab
  have run : (cd_l_times (callM codes (d + 3))) [some (SG w a), some (SG w b), some (.int w)] [] = some (.ret (SG w (a * b)), [some (SG w a), some (SG w b), some (.int w)], []) := by
    unfold cd_l_times
    simp only [seqS_ap, nilS_ap, failS_ap, ifS_ap, asg_ap, retS_ap, exprS_ap, augS_ap, setS_ap, unpS_ap, swpS_ap, var_ap, cst_ap, bin_ap, tval_ap, andE_ap, orE_ap, notE_ap, iteE_ap, notB_ap, andB_ap, orB_ap, nilL_ap, consL_ap, tupE_ap, lstE_ap, callN_ap, ucall_ap, appE_ap, sliceE_ap, forS_ap, whileS_ap, valI_ap, enumI_ap, zipI_ap, tgN_ap, tgT_ap, get_0, get_s, setMany_nil, setMany_cons, lenF_fro, lenF_lst, rangeF_1, rangeF_2, rangeF_3, absF_1, intF_1, seqOf_lst, seqOf_fro, cmp_lt, cmp_le, cmp_gt, cmp_ge, cmp_eq, cmp_ne, cmp_eqb, cmp_neb, bin_add, bin_sub, bin_mul, bin_and, iop_add, iop_sub, iop_shr, idxV_fro, idxV_tup, idxV_lst, idx_c0, idx_c1, idx_c2, idx_c3, truth_bool, unpV_tup, unpV_lst, unpV_fro, part_none, part_int, lenOk_0, lenOk_1, lenOk_2, lenOk_3, lenOk_4, Int.ofNat_lt, Option.bind_some, Option.map_some, Option.bind_none, Option.map_none, List.set_cons_zero, List.set_cons_succ, List.length_cons, List.length_nil, List.getElem?_cons_zero, List.getElem?_cons_succ, List.reverse_cons, List.reverse_nil, List.nil_append, List.cons_append, List.append_nil, Nat.zero_add, Nat.reduceAdd, if_true, reduceIte, reduceCtorEq, or_true, true_or, or_false, false_or, Bool.not_true, Bool.not_false, vl_len, digs_len, h1]
  exact callM_pure (by show (purev _ && (purev _ && true)) = true; rw [pure_SG, pure_SG]; rfl) rfl rfl run frz_SG
theorem frzE_ap {a : PE} {L : Loc} {H : Hp} : frzE a L H = (a L H).bind fun r => (frz 6 H.length r.2 r.1).bind fun v => (frzH H.length r.2).map fun H' => (v, H') := rfl
theorem found0 {w : Nat} {L : Loc} : (frzE (tupE (consL (cst (.bool false)) (consL (lstE nilL) nilL)))) L [] = some (SG w 0, []) := rfl

noncomputable def sumTo (a : Nat → Int) : Nat → Int
  | 0 => 0
  | n + 1 => sumTo a n + a n
theorem sumTo_bound {a : Nat → Int} (h : ∀ i, (a i).natAbs < 2 ^ 42) : ∀ n, n ≤ 8 → (sumTo a n).natAbs ≤ n * 2 ^ 42
  | 0, _ => by simp [sumTo]
  | n + 1, hn => by
    have h1 := sumTo_bound h n (by omega)
    have h2 := h n
    unfold sumTo
    omega
theorem sq_bound {x y : Int} (hx : x.natAbs < 2 ^ 20) (hy : y.natAbs < 2 ^ 20) : x.natAbs * y.natAbs < 2 ^ 40 := by
  calc x.natAbs * y.natAbs < 2 ^ 20 * 2 ^ 20 := Nat.mul_lt_mul_of_lt_of_lt hx hy
    _ = 2 ^ 40 := by decide

noncomputable def row4 (w : Nat) (a : Nat → Int) : V := .fro [SG w (a 0), SG w (a 1), SG w (a 2), SG w (a 3)]
theorem row4_get {w i : Nat} {a : Nat → Int} (h : i < 4) : [SG w (a 0), SG w (a 1), SG w (a 2), SG w (a 3)][i]? = some (SG w (a i)) := by
  match i, h with
  | 0, _ => rfl
  | 1, _ => rfl
  | 2, _ => rfl
  | 3, _ => rfl
theorem pure_row4 {w : Nat} {a : Nat → Int} : purev (row4 w a) = true := by
  show (purev _ && (purev _ && (purev _ && (purev _ && true)))) = true
  rw [pure_SG, pure_SG, pure_SG, pure_SG]; rfl

noncomputable def lastv (w : Nat) (a : Nat → Int) (i : Nat) : Option V := if i = 0 then none else some (SG w (a (i - 1)))

theorem sp_squares {d w : Nat} {a : Nat → Int} {H : Hp} (hw : 1 ≤ w) (hw2 : w ≤ 29) (ha : ∀ i, (a i).natAbs < 2 ^ 20) : callM codes (d + 5) 32 [row4 w a, .int w] H = some (SG w (sumTo (fun i => a i * a i) 4), H) := by
  have hsq : ∀ i, (a i * a i).natAbs < 2 ^ 42 := fun i => by rw [Int.natAbs_mul]; have := sq_bound (ha i) (ha i); omega
  have loop := forL_inv (it := .val (row4 w a)) (tg := tgN 3) (b := seqS (asg 2 (ucall (callM codes (d + 4)) (cst (.fn 13)) (consL (var 2) (consL (ucall (callM codes (d + 4)) (cst (.fn 31)) (consL (var 3) (consL (var 3) (consL (var 1) nilL)))) (consL (var 1) nilL))))) nilS) 4
    (fun i => ([some (row4 w a), some (.int w), some (SG w (sumTo (fun i => a i * a i) i)), lastv w a i], [])) (fun i => SG w (a i)) (fun i hi => by
      show some ([SG w (a 0), SG w (a 1), SG w (a 2), SG w (a 3)][i]?) = _
      rw [row4_get hi]) rfl
    (fun i hi => by
      refine ⟨_, rfl, ?_⟩
      have h1 := sp_times (d := d) (H := []) hw hw2 (show (a i).natAbs < 2 ^ 60 by have := ha i; omega) (show (a i).natAbs < 2 ^ 60 by have := ha i; omega) (by have := sq_bound (ha i) (ha i); omega)
      have hb := sumTo_bound hsq i (by omega)
      have h2 := sp_s_add (d := d + 1) (a := sumTo (fun i => a i * a i) i) (b := a i * a i) (H := []) hw (by omega) (by have : i * 2 ^ 42 ≤ 4 * 2 ^ 42 := Nat.mul_le_mul_right _ (by omega); omega) (by have := hsq i; omega)
      simp only [seqS_ap, nilS_ap, failS_ap, ifS_ap, asg_ap, retS_ap, exprS_ap, augS_ap, setS_ap, unpS_ap, swpS_ap, var_ap, cst_ap, bin_ap, tval_ap, andE_ap, orE_ap, notE_ap, iteE_ap, notB_ap, andB_ap, orB_ap, nilL_ap, consL_ap, tupE_ap, lstE_ap, callN_ap, ucall_ap, appE_ap, sliceE_ap, forS_ap, whileS_ap, valI_ap, enumI_ap, zipI_ap, tgN_ap, tgT_ap, get_0, get_s, setMany_nil, setMany_cons, lenF_fro, lenF_lst, rangeF_1, rangeF_2, rangeF_3, absF_1, intF_1, seqOf_lst, seqOf_fro, cmp_lt, cmp_le, cmp_gt, cmp_ge, cmp_eq, cmp_ne, cmp_eqb, cmp_neb, bin_add, bin_sub, bin_mul, bin_and, iop_add, iop_sub, iop_shr, idxV_fro, idxV_tup, idxV_lst, idx_c0, idx_c1, idx_c2, idx_c3, truth_bool, unpV_tup, unpV_lst, unpV_fro, part_none, part_int, lenOk_0, lenOk_1, lenOk_2, lenOk_3, lenOk_4, Int.ofNat_lt, Option.bind_some, Option.map_some, Option.bind_none, Option.map_none, List.set_cons_zero, List.set_cons_succ, List.length_cons, List.length_nil, List.getElem?_cons_zero, List.getElem?_cons_succ, List.reverse_cons, List.reverse_nil, List.nil_append, List.cons_append, List.append_nil, Nat.zero_add, Nat.reduceAdd, if_true, reduceIte, reduceCtorEq, or_true, true_or, or_false, false_or, Bool.not_true, Bool.not_false, vl_len, digs_len, h1, h2]
      rfl) 4 0 1000 (by omega) (by omega)
  have loop' : (forS (valI (var 0)) (tgN 3) (seqS (asg 2 (ucall (callM codes (d + 4)) (cst (.fn 13)) (consL (var 2) (consL (ucall (callM codes (d + 4)) (cst (.fn 31)) (consL (var 3) (consL (var 3) (consL (var 1) nilL)))) (consL (var 1) nilL))))) nilS)) [some (row4 w a), some (.int w), some (SG w 0), none] [] = _ := loop
  have run : (cd_l_squares (callM codes (d + 4))) [some (row4 w a), some (.int w), none, none] [] = some (.ret (SG w (sumTo (fun i => a i * a i) 4)), [some (row4 w a), some (.int w), some (SG w (sumTo (fun i => a i * a i) 4)), lastv w a 4], []) := by
    unfold cd_l_squares
    rw [seqS_ap]
    simp only [asg_ap, found0 (w := w), Option.map_some, Option.bind_some, List.set_cons_succ, List.set_cons_zero]
    rw [seqS_ap, loop']
    simp only [seqS_ap, nilS_ap, failS_ap, ifS_ap, asg_ap, retS_ap, exprS_ap, augS_ap, setS_ap, unpS_ap, swpS_ap, var_ap, cst_ap, bin_ap, tval_ap, andE_ap, orE_ap, notE_ap, iteE_ap, notB_ap, andB_ap, orB_ap, nilL_ap, consL_ap, tupE_ap, lstE_ap, callN_ap, ucall_ap, appE_ap, sliceE_ap, forS_ap, whileS_ap, valI_ap, enumI_ap, zipI_ap, tgN_ap, tgT_ap, get_0, get_s, setMany_nil, setMany_cons, lenF_fro, lenF_lst, rangeF_1, rangeF_2, rangeF_3, absF_1, intF_1, seqOf_lst, seqOf_fro, cmp_lt, cmp_le, cmp_gt, cmp_ge, cmp_eq, cmp_ne, cmp_eqb, cmp_neb, bin_add, bin_sub, bin_mul, bin_and, iop_add, iop_sub, iop_shr, idxV_fro, idxV_tup, idxV_lst, idx_c0, idx_c1, idx_c2, idx_c3, truth_bool, unpV_tup, unpV_lst, unpV_fro, part_none, part_int, lenOk_0, lenOk_1, lenOk_2, lenOk_3, lenOk_4, Int.ofNat_lt, Option.bind_some, Option.map_some, Option.bind_none, Option.map_none, List.set_cons_zero, List.set_cons_succ, List.length_cons, List.length_nil, List.getElem?_cons_zero, List.getElem?_cons_succ, List.reverse_cons, List.reverse_nil, List.nil_append, List.cons_append, List.append_nil, Nat.zero_add, Nat.reduceAdd, if_true, reduceIte, reduceCtorEq, or_true, true_or, or_false, false_or, Bool.not_true, Bool.not_false, vl_len, digs_len]
  exact callM_pure (by show (purev _ && true) = true; rw [pure_row4]; rfl) rfl rfl run frz_SG

/-! the four squares' product -/
noncomputable def TL (a e : Nat → Int) : List (List Int) := [[a 0, e 1, a 1, e 0, a 2, e 3, a 3, e 2], [a 0, e 2, a 2, e 0, a 3, e 1, a 1, e 3], [a 0, e 3, a 3, e 0, a 1, e 2, a 2, e 1]]
noncomputable def Tf (a e : Nat → Int) (i j : Nat) : Int := ((TL a e).getD i []).getD j 0
noncomputable def Rf (a e : Nat → Int) (i : Nat) : Int := (Tf a e i 0 * Tf a e i 1 - Tf a e i 2 * Tf a e i 3) + (Tf a e i 4 * Tf a e i 5 - Tf a e i 6 * Tf a e i 7)
noncomputable def four (a e : Nat → Int) : Nat → Int
  | 0 => sumTo (fun i => a i * e i) 4
  | i + 1 => Rf a e i
noncomputable def tup8 (w : Nat) (t : Nat → Int) : V := .tup [SG w (t 0), SG w (t 1), SG w (t 2), SG w (t 3), SG w (t 4), SG w (t 5), SG w (t 6), SG w (t 7)]
theorem Tf_bound {a e : Nat → Int} (ha : ∀ i, (a i).natAbs < 2 ^ 20) (he : ∀ i, (e i).natAbs < 2 ^ 20) (i : Nat) (hi : i < 3) (j : Nat) (hj : j < 8) : (Tf a e i j).natAbs < 2 ^ 20 := by
  match i, hi with
  | 0, _ => match j, hj with
    | 0, _ | 1, _ | 2, _ | 3, _ | 4, _ | 5, _ | 6, _ | 7, _ => first | exact ha _ | exact he _
  | 1, _ => match j, hj with
    | 0, _ | 1, _ | 2, _ | 3, _ | 4, _ | 5, _ | 6, _ | 7, _ => first | exact ha _ | exact he _
  | 2, _ => match j, hj with
    | 0, _ | 1, _ | 2, _ | 3, _ | 4, _ | 5, _ | 6, _ | 7, _ => first | exact ha _ | exact he _
theorem tup8_get {w i : Nat} {a e : Nat → Int} (h : i < 3) : [tup8 w (Tf a e 0), tup8 w (Tf a e 1), tup8 w (Tf a e 2)][i]? = some (tup8 w (Tf a e i)) := by
  match i, h with
  | 0, _ => rfl
  | 1, _ => rfl
  | 2, _ => rfl

noncomputable abbrev fourB1 (c : CT) : PS := (seqS (asg 11 (ucall c (cst (.fn 13)) (consL (var 11) (consL (ucall c (cst (.fn 31)) (consL (var 12) (consL (var 13) (consL (var 2) nilL)))) (consL (var 2) nilL)))))
    nilS)
noncomputable abbrev fourB2 (c : CT) : PS := (seqS (asg 21 (ucall c (cst (.fn 14)) (consL (ucall c (cst (.fn 31)) (consL (var 15) (consL (var 16) (consL (var 2) nilL)))) (consL (ucall c (cst (.fn 31)) (consL (var 17) (consL (var 18) (consL (var 2) nilL)))) (consL (var 2) nilL)))))
    (seqS (exprS (appE (var 14) (ucall c (cst (.fn 13)) (consL (var 21) (consL (ucall c (cst (.fn 14)) (consL (ucall c (cst (.fn 31)) (consL (var 19) (consL (var 20) (consL (var 2) nilL)))) (consL (ucall c (cst (.fn 31)) (consL (var 12) (consL (var 13) (consL (var 2) nilL)))) (consL (var 2) nilL)))) (consL (var 2) nilL))))))
    nilS))

section
variable {d w : Nat} {a e : Nat → Int}
theorem four_1 {v0 v1 : V} {q3 q4 q5 q6 q7 q8 q9 q10 q14 q15 q16 q17 q18 q19 q20 q21 : Option V} (hw : 1 ≤ w) (hw2 : w ≤ 29) (ha : ∀ i, (a i).natAbs < 2 ^ 20) (he : ∀ i, (e i).natAbs < 2 ^ 20) :
    ∃ o12 o13, forL (.zip (row4 w a) (row4 w e)) (tgT [12, 13]) (fourB1 (callM codes (d + 4))) 1000 0 [some v0, some v1, some (.int w), q3, q4, q5, q6, q7, q8, q9, q10, some (SG w 0), none, none, q14, q15, q16, q17, q18, q19, q20, q21] [] =
      some (.next, [some v0, some v1, some (.int w), q3, q4, q5, q6, q7, q8, q9, q10, some (SG w (sumTo (fun i => a i * e i) 4)), o12, o13, q14, q15, q16, q17, q18, q19, q20, q21], []) := by
  have hsq : ∀ i, (a i * e i).natAbs < 2 ^ 42 := fun i => by rw [Int.natAbs_mul]; have := sq_bound (ha i) (he i); omega
  have loop := forL_ex (it := .zip (row4 w a) (row4 w e)) (tg := tgT [12, 13]) (b := fourB1 (callM codes (d + 4))) 4
    (fun i L H => ∃ o12 o13, L = [some v0, some v1, some (.int w), q3, q4, q5, q6, q7, q8, q9, q10, some (SG w (sumTo (fun i => a i * e i) i)), o12, o13, q14, q15, q16, q17, q18, q19, q20, q21] ∧ H = [])
    (fun L H _ => rfl)
    (fun i L H hi hI => by
      obtain ⟨o12, o13, rfl, rfl⟩ := hI
      have h1 := sp_times (d := d) (H := []) hw hw2 (show (a i).natAbs < 2 ^ 60 by have := ha i; omega) (show (e i).natAbs < 2 ^ 60 by have := he i; omega) (by have := sq_bound (ha i) (he i); omega)
      have hb := sumTo_bound hsq i (by omega)
      have h2 := sp_s_add (d := d + 1) (a := sumTo (fun i => a i * e i) i) (b := a i * e i) (H := []) hw (by omega) (by have : i * 2 ^ 42 ≤ 4 * 2 ^ 42 := Nat.mul_le_mul_right _ (by omega); omega) (by have := hsq i; omega)
      refine ⟨.tup [SG w (a i), SG w (e i)], [some v0, some v1, some (.int w), q3, q4, q5, q6, q7, q8, q9, q10, some (SG w (sumTo (fun i => a i * e i) i)), some (SG w (a i)), some (SG w (e i)), q14, q15, q16, q17, q18, q19, q20, q21],
        [some v0, some v1, some (.int w), q3, q4, q5, q6, q7, q8, q9, q10, some (SG w (sumTo (fun i => a i * e i) (i + 1))), some (SG w (a i)), some (SG w (e i)), q14, q15, q16, q17, q18, q19, q20, q21], [], ?_, ?_, ?_, _, _, rfl, rfl⟩
      · show some (([SG w (a 0), SG w (a 1), SG w (a 2), SG w (a 3)][i]?).bind fun x => ([SG w (e 0), SG w (e 1), SG w (e 2), SG w (e 3)][i]?).map fun y => V.tup [x, y]) = _
        rw [row4_get hi, row4_get hi]; rfl
      · simp only [seqS_ap, nilS_ap, failS_ap, ifS_ap, asg_ap, retS_ap, exprS_ap, augS_ap, setS_ap, unpS_ap, swpS_ap, var_ap, cst_ap, bin_ap, tval_ap, andE_ap, orE_ap, notE_ap, iteE_ap, notB_ap, andB_ap, orB_ap, nilL_ap, consL_ap, tupE_ap, lstE_ap, callN_ap, ucall_ap, appE_ap, sliceE_ap, forS_ap, whileS_ap, valI_ap, enumI_ap, zipI_ap, tgN_ap, tgT_ap, get_0, get_s, setMany_nil, setMany_cons, lenF_fro, lenF_lst, rangeF_1, rangeF_2, rangeF_3, absF_1, intF_1, seqOf_lst, seqOf_fro, cmp_lt, cmp_le, cmp_gt, cmp_ge, cmp_eq, cmp_ne, cmp_eqb, cmp_neb, bin_add, bin_sub, bin_mul, bin_and, iop_add, iop_sub, iop_shr, idxV_fro, idxV_tup, idxV_lst, idx_c0, idx_c1, idx_c2, idx_c3, truth_bool, unpV_tup, unpV_lst, unpV_fro, part_none, part_int, lenOk_0, lenOk_1, lenOk_2, lenOk_3, lenOk_4, Int.ofNat_lt, Option.bind_some, Option.map_some, Option.bind_none, Option.map_none, List.set_cons_zero, List.set_cons_succ, List.length_cons, List.length_nil, List.getElem?_cons_zero, List.getElem?_cons_succ, List.reverse_cons, List.reverse_nil, List.nil_append, List.cons_append, List.append_nil, Nat.zero_add, Nat.reduceAdd, if_true, reduceIte, reduceCtorEq, or_true, true_or, or_false, false_or, Bool.not_true, Bool.not_false, vl_len, digs_len]
      · unfold fourB1
        simp only [seqS_ap, nilS_ap, failS_ap, ifS_ap, asg_ap, retS_ap, exprS_ap, augS_ap, setS_ap, unpS_ap, swpS_ap, var_ap, cst_ap, bin_ap, tval_ap, andE_ap, orE_ap, notE_ap, iteE_ap, notB_ap, andB_ap, orB_ap, nilL_ap, consL_ap, tupE_ap, lstE_ap, callN_ap, ucall_ap, appE_ap, sliceE_ap, forS_ap, whileS_ap, valI_ap, enumI_ap, zipI_ap, tgN_ap, tgT_ap, get_0, get_s, setMany_nil, setMany_cons, lenF_fro, lenF_lst, rangeF_1, rangeF_2, rangeF_3, absF_1, intF_1, seqOf_lst, seqOf_fro, cmp_lt, cmp_le, cmp_gt, cmp_ge, cmp_eq, cmp_ne, cmp_eqb, cmp_neb, bin_add, bin_sub, bin_mul, bin_and, iop_add, iop_sub, iop_shr, idxV_fro, idxV_tup, idxV_lst, idx_c0, idx_c1, idx_c2, idx_c3, truth_bool, unpV_tup, unpV_lst, unpV_fro, part_none, part_int, lenOk_0, lenOk_1, lenOk_2, lenOk_3, lenOk_4, Int.ofNat_lt, Option.bind_some, Option.map_some, Option.bind_none, Option.map_none, List.set_cons_zero, List.set_cons_succ, List.length_cons, List.length_nil, List.getElem?_cons_zero, List.getElem?_cons_succ, List.reverse_cons, List.reverse_nil, List.nil_append, List.cons_append, List.append_nil, Nat.zero_add, Nat.reduceAdd, if_true, reduceIte, reduceCtorEq, or_true, true_or, or_false, false_or, Bool.not_true, Bool.not_false, vl_len, digs_len, h1, h2]
        rfl) 4 0 1000 [some v0, some v1, some (.int w), q3, q4, q5, q6, q7, q8, q9, q10, some (SG w 0), none, none, q14, q15, q16, q17, q18, q19, q20, q21] [] (by omega) (by omega) ⟨none, none, rfl, rfl⟩
  obtain ⟨L', H', h, o12, o13, rfl, rfl⟩ := loop
  exact ⟨o12, o13, h⟩

theorem four_2 {v0 v1 : V} {q3 q4 q5 q6 q7 q8 q9 q10 q11 q12 q13 q15 q16 q17 q18 q19 q20 q21 : Option V} {x0 : V} (hw : 1 ≤ w) (hw2 : w ≤ 29) (ha : ∀ i, (a i).natAbs < 2 ^ 20) (he : ∀ i, (e i).natAbs < 2 ^ 20) :
    ∃ L', forL (.val (.tup [tup8 w (Tf a e 0), tup8 w (Tf a e 1), tup8 w (Tf a e 2)])) (tgT [15, 16, 17, 18, 19, 20, 12, 13]) (fourB2 (callM codes (d + 5))) 1000 0 [some v0, some v1, some (.int w), q3, q4, q5, q6, q7, q8, q9, q10, q11, q12, q13, some (.lst 0), q15, q16, q17, q18, q19, q20, q21] [[x0]] =
      some (.next, L', [[x0, SG w (Rf a e 0), SG w (Rf a e 1), SG w (Rf a e 2)]]) ∧ get L' 14 = some (.lst 0) := by
  have loop := forL_ex (it := .val (.tup [tup8 w (Tf a e 0), tup8 w (Tf a e 1), tup8 w (Tf a e 2)])) (tg := tgT [15, 16, 17, 18, 19, 20, 12, 13]) (b := fourB2 (callM codes (d + 5))) 3
    (fun i L H => ∃ o12 o13 o15 o16 o17 o18 o19 o20 o21, L = [some v0, some v1, some (.int w), q3, q4, q5, q6, q7, q8, q9, q10, q11, o12, o13, some (.lst 0), o15, o16, o17, o18, o19, o20, o21] ∧ H = [x0 :: (List.range i).map fun j => SG w (Rf a e j)])
    (fun L H _ => rfl)
    (fun i L H hi hI => by
      obtain ⟨o12, o13, o15, o16, o17, o18, o19, o20, o21, rfl, rfl⟩ := hI
      have hb := Tf_bound ha he i hi
      have pr : ∀ j k, j < 8 → k < 8 → (Tf a e i j * Tf a e i k).natAbs < 2 ^ 40 := fun j k hj hk => by rw [Int.natAbs_mul]; exact sq_bound (hb j hj) (hb k hk)
      have tm : ∀ j k, j < 8 → k < 8 → ∀ H, callM codes (d + 1 + 4) 31 [SG w (Tf a e i j), SG w (Tf a e i k), .int w] H = some (SG w (Tf a e i j * Tf a e i k), H) := fun j k hj hk H =>
        sp_times hw hw2 (by have := hb j hj; omega) (by have := hb k hk; omega) (by have := sq_bound (hb j hj) (hb k hk); omega)
      generalize hH : ([x0 :: (List.range i).map fun j => SG w (Rf a e j)] : Hp) = Hc
      have t1 := tm 0 1 (by omega) (by omega) Hc
      have t2 := tm 2 3 (by omega) (by omega) Hc
      have t3 := tm 4 5 (by omega) (by omega) Hc
      have t4 := tm 6 7 (by omega) (by omega) Hc
      have p1 := pr 0 1 (by omega) (by omega)
      have p2 := pr 2 3 (by omega) (by omega)
      have p3 := pr 4 5 (by omega) (by omega)
      have p4 := pr 6 7 (by omega) (by omega)
      have s1 := sp_s_sub (d := d + 1) (a := Tf a e i 0 * Tf a e i 1) (b := Tf a e i 2 * Tf a e i 3) (H := Hc) hw (by omega) (by omega) (by omega)
      have s2 := sp_s_sub (d := d + 1) (a := Tf a e i 4 * Tf a e i 5) (b := Tf a e i 6 * Tf a e i 7) (H := Hc) hw (by omega) (by omega) (by omega)
      have s3 := sp_s_add (d := d + 2) (a := Tf a e i 0 * Tf a e i 1 - Tf a e i 2 * Tf a e i 3) (b := Tf a e i 4 * Tf a e i 5 - Tf a e i 6 * Tf a e i 7) (H := Hc) hw (by omega) (by omega) (by omega)
      have o1 : lenOk (x0 :: (List.range i).map fun j => SG w (Rf a e j)).length = true := lenOk_64 (by simp; omega)
      have hg : Hc[0]? = some (x0 :: (List.range i).map fun j => SG w (Rf a e j)) := by rw [← hH]; rfl
      refine ⟨tup8 w (Tf a e i), [some v0, some v1, some (.int w), q3, q4, q5, q6, q7, q8, q9, q10, q11, some (SG w (Tf a e i 6)), some (SG w (Tf a e i 7)), some (.lst 0), some (SG w (Tf a e i 0)), some (SG w (Tf a e i 1)), some (SG w (Tf a e i 2)), some (SG w (Tf a e i 3)), some (SG w (Tf a e i 4)), some (SG w (Tf a e i 5)), o21],
        [some v0, some v1, some (.int w), q3, q4, q5, q6, q7, q8, q9, q10, q11, some (SG w (Tf a e i 6)), some (SG w (Tf a e i 7)), some (.lst 0), some (SG w (Tf a e i 0)), some (SG w (Tf a e i 1)), some (SG w (Tf a e i 2)), some (SG w (Tf a e i 3)), some (SG w (Tf a e i 4)), some (SG w (Tf a e i 5)), some (SG w (Tf a e i 0 * Tf a e i 1 - Tf a e i 2 * Tf a e i 3))],
        [x0 :: (List.range (i + 1)).map fun j => SG w (Rf a e j)], ?_, ?_, ?_, _, _, _, _, _, _, _, _, _, rfl, rfl⟩
      · show some ([tup8 w (Tf a e 0), tup8 w (Tf a e 1), tup8 w (Tf a e 2)][i]?) = _
        rw [tup8_get hi]
      · unfold tup8
        simp only [seqS_ap, nilS_ap, failS_ap, ifS_ap, asg_ap, retS_ap, exprS_ap, augS_ap, setS_ap, unpS_ap, swpS_ap, var_ap, cst_ap, bin_ap, tval_ap, andE_ap, orE_ap, notE_ap, iteE_ap, notB_ap, andB_ap, orB_ap, nilL_ap, consL_ap, tupE_ap, lstE_ap, callN_ap, ucall_ap, appE_ap, sliceE_ap, forS_ap, whileS_ap, valI_ap, enumI_ap, zipI_ap, tgN_ap, tgT_ap, get_0, get_s, setMany_nil, setMany_cons, lenF_fro, lenF_lst, rangeF_1, rangeF_2, rangeF_3, absF_1, intF_1, seqOf_lst, seqOf_fro, cmp_lt, cmp_le, cmp_gt, cmp_ge, cmp_eq, cmp_ne, cmp_eqb, cmp_neb, bin_add, bin_sub, bin_mul, bin_and, iop_add, iop_sub, iop_shr, idxV_fro, idxV_tup, idxV_lst, idx_c0, idx_c1, idx_c2, idx_c3, truth_bool, unpV_tup, unpV_lst, unpV_fro, part_none, part_int, lenOk_0, lenOk_1, lenOk_2, lenOk_3, lenOk_4, Int.ofNat_lt, Option.bind_some, Option.map_some, Option.bind_none, Option.map_none, List.set_cons_zero, List.set_cons_succ, List.length_cons, List.length_nil, List.getElem?_cons_zero, List.getElem?_cons_succ, List.reverse_cons, List.reverse_nil, List.nil_append, List.cons_append, List.append_nil, Nat.zero_add, Nat.reduceAdd, if_true, reduceIte, reduceCtorEq, or_true, true_or, or_false, false_or, Bool.not_true, Bool.not_false, vl_len, digs_len]
      · unfold fourB2
        simp only [seqS_ap, nilS_ap, failS_ap, ifS_ap, asg_ap, retS_ap, exprS_ap, augS_ap, setS_ap, unpS_ap, swpS_ap, var_ap, cst_ap, bin_ap, tval_ap, andE_ap, orE_ap, notE_ap, iteE_ap, notB_ap, andB_ap, orB_ap, nilL_ap, consL_ap, tupE_ap, lstE_ap, callN_ap, ucall_ap, appE_ap, sliceE_ap, forS_ap, whileS_ap, valI_ap, enumI_ap, zipI_ap, tgN_ap, tgT_ap, get_0, get_s, setMany_nil, setMany_cons, lenF_fro, lenF_lst, rangeF_1, rangeF_2, rangeF_3, absF_1, intF_1, seqOf_lst, seqOf_fro, cmp_lt, cmp_le, cmp_gt, cmp_ge, cmp_eq, cmp_ne, cmp_eqb, cmp_neb, bin_add, bin_sub, bin_mul, bin_and, iop_add, iop_sub, iop_shr, idxV_fro, idxV_tup, idxV_lst, idx_c0, idx_c1, idx_c2, idx_c3, truth_bool, unpV_tup, unpV_lst, unpV_fro, part_none, part_int, lenOk_0, lenOk_1, lenOk_2, lenOk_3, lenOk_4, Int.ofNat_lt, Option.bind_some, Option.map_some, Option.bind_none, Option.map_none, List.set_cons_zero, List.set_cons_succ, List.length_cons, List.length_nil, List.getElem?_cons_zero, List.getElem?_cons_succ, List.reverse_cons, List.reverse_nil, List.nil_append, List.cons_append, List.append_nil, Nat.zero_add, Nat.reduceAdd, if_true, reduceIte, reduceCtorEq, or_true, true_or, or_false, false_or, Bool.not_true, Bool.not_false, vl_len, digs_len, t1, t2, t3, t4, s1, s2, s3, hg]
        rw [← hH]
        simp only [List.length_cons] at o1
        simp only [seqS_ap, nilS_ap, failS_ap, ifS_ap, asg_ap, retS_ap, exprS_ap, augS_ap, setS_ap, unpS_ap, swpS_ap, var_ap, cst_ap, bin_ap, tval_ap, andE_ap, orE_ap, notE_ap, iteE_ap, notB_ap, andB_ap, orB_ap, nilL_ap, consL_ap, tupE_ap, lstE_ap, callN_ap, ucall_ap, appE_ap, sliceE_ap, forS_ap, whileS_ap, valI_ap, enumI_ap, zipI_ap, tgN_ap, tgT_ap, get_0, get_s, setMany_nil, setMany_cons, lenF_fro, lenF_lst, rangeF_1, rangeF_2, rangeF_3, absF_1, intF_1, seqOf_lst, seqOf_fro, cmp_lt, cmp_le, cmp_gt, cmp_ge, cmp_eq, cmp_ne, cmp_eqb, cmp_neb, bin_add, bin_sub, bin_mul, bin_and, iop_add, iop_sub, iop_shr, idxV_fro, idxV_tup, idxV_lst, idx_c0, idx_c1, idx_c2, idx_c3, truth_bool, unpV_tup, unpV_lst, unpV_fro, part_none, part_int, lenOk_0, lenOk_1, lenOk_2, lenOk_3, lenOk_4, Int.ofNat_lt, Option.bind_some, Option.map_some, Option.bind_none, Option.map_none, List.set_cons_zero, List.set_cons_succ, List.length_cons, List.length_nil, List.getElem?_cons_zero, List.getElem?_cons_succ, List.reverse_cons, List.reverse_nil, List.nil_append, List.cons_append, List.append_nil, Nat.zero_add, Nat.reduceAdd, if_true, reduceIte, reduceCtorEq, or_true, true_or, or_false, false_or, Bool.not_true, Bool.not_false, vl_len, digs_len, o1, List.range_succ, List.map_append, List.map_cons, List.map_nil]
        rfl) 3 0 1000 [some v0, some v1, some (.int w), q3, q4, q5, q6, q7, q8, q9, q10, q11, q12, q13, some (.lst 0), q15, q16, q17, q18, q19, q20, q21] [[x0]] (by omega) (by omega) ⟨q12, q13, q15, q16, q17, q18, q19, q20, q21, rfl, rfl⟩
  obtain ⟨L', H', h, o12, o13, o15, o16, o17, o18, o19, o20, o21, rfl, rfl⟩ := loop
  exact ⟨_, h, rfl⟩
end
theorem sp_four {d w : Nat} {a e : Nat → Int} {H : Hp} (hw : 1 ≤ w) (hw2 : w ≤ 29) (ha : ∀ i, (a i).natAbs < 2 ^ 20) (he : ∀ i, (e i).natAbs < 2 ^ 20) : callM codes (d + 6) 33 [row4 w a, row4 w e, .int w] H = some (row4 w (four a e), H) := by
  obtain ⟨o12, o13, h1⟩ := four_1 (d := d + 1) (v0 := row4 w a) (v1 := row4 w e) (q3 := some (SG w (a 0))) (q4 := some (SG w (a 1))) (q5 := some (SG w (a 2))) (q6 := some (SG w (a 3))) (q7 := some (SG w (e 0))) (q8 := some (SG w (e 1))) (q9 := some (SG w (e 2))) (q10 := some (SG w (e 3)))
    (q14 := none) (q15 := none) (q16 := none) (q17 := none) (q18 := none) (q19 := none) (q20 := none) (q21 := none) hw hw2 ha he
  obtain ⟨L', h2, h3⟩ := four_2 (d := d) (v0 := row4 w a) (v1 := row4 w e) (q3 := some (SG w (a 0))) (q4 := some (SG w (a 1))) (q5 := some (SG w (a 2))) (q6 := some (SG w (a 3))) (q7 := some (SG w (e 0))) (q8 := some (SG w (e 1))) (q9 := some (SG w (e 2))) (q10 := some (SG w (e 3)))
    (q11 := some (SG w (sumTo (fun i => a i * e i) 4))) (q12 := o12) (q13 := o13) (q15 := none) (q16 := none) (q17 := none) (q18 := none) (q19 := none) (q20 := none) (q21 := none) (x0 := SG w (sumTo (fun i => a i * e i) 4)) hw hw2 ha he
  have run : (cd_l_four (callM codes (d + 5))) [some (row4 w a), some (row4 w e), some (.int w), none, none, none, none, none, none, none, none, none, none, none, none, none, none, none, none, none, none, none] [] = some (.ret (.lst 0), L', [[SG w (sumTo (fun i => a i * e i) 4), SG w (Rf a e 0), SG w (Rf a e 1), SG w (Rf a e 2)]]) := by
    have hu0 : unpV (row4 w a) [] 4 = some [SG w (a 0), SG w (a 1), SG w (a 2), SG w (a 3)] := rfl
    have hu1 : unpV (row4 w e) [] 4 = some [SG w (e 0), SG w (e 1), SG w (e 2), SG w (e 3)] := rfl
    have hz0 : seqOf (row4 w a) [] = some [SG w (a 0), SG w (a 1), SG w (a 2), SG w (a 3)] := rfl
    have hz1 : seqOf (row4 w e) [] = some [SG w (e 0), SG w (e 1), SG w (e 2), SG w (e 3)] := rfl
    have l8 : lenOk 8 = true := lenOk_64 (by decide)
    have ok3 : okIt (.tup [tup8 w (Tf a e 0), tup8 w (Tf a e 1), tup8 w (Tf a e 2)]) = true := rfl
    have h2' : forL (.val (.tup [.tup [SG w (a 0), SG w (e 1), SG w (a 1), SG w (e 0), SG w (a 2), SG w (e 3), SG w (a 3), SG w (e 2)], .tup [SG w (a 0), SG w (e 2), SG w (a 2), SG w (e 0), SG w (a 3), SG w (e 1), SG w (a 1), SG w (e 3)], .tup [SG w (a 0), SG w (e 3), SG w (a 3), SG w (e 0), SG w (a 1), SG w (e 2), SG w (a 2), SG w (e 1)]])) (tgT [15, 16, 17, 18, 19, 20, 12, 13]) (fourB2 (callM codes (d + 5))) 1000 0
      [some (row4 w a), some (row4 w e), some (.int w), some (SG w (a 0)), some (SG w (a 1)), some (SG w (a 2)), some (SG w (a 3)), some (SG w (e 0)), some (SG w (e 1)), some (SG w (e 2)), some (SG w (e 3)), some (SG w (sumTo (fun i => a i * e i) 4)), o12, o13, some (.lst 0), none, none, none, none, none, none, none] [[SG w (sumTo (fun i => a i * e i) 4)]] = _ := h2
    have ok3' : okIt (.tup [.tup [SG w (a 0), SG w (e 1), SG w (a 1), SG w (e 0), SG w (a 2), SG w (e 3), SG w (a 3), SG w (e 2)], .tup [SG w (a 0), SG w (e 2), SG w (a 2), SG w (e 0), SG w (a 3), SG w (e 1), SG w (a 1), SG w (e 3)], .tup [SG w (a 0), SG w (e 3), SG w (a 3), SG w (e 0), SG w (a 1), SG w (e 2), SG w (a 2), SG w (e 1)]]) = true := rfl
    unfold cd_l_four
    rw [seqS_ap]
    simp only [unpS_ap, var_ap, get_0, get_s, Option.map_some, Option.bind_some, List.length_cons, List.length_nil, Nat.zero_add, Nat.reduceAdd, hu0, setMany_cons, setMany_nil, List.set_cons_succ, List.set_cons_zero]
    rw [seqS_ap]
    simp only [unpS_ap, var_ap, get_0, get_s, Option.map_some, Option.bind_some, List.length_cons, List.length_nil, Nat.zero_add, Nat.reduceAdd, hu1, setMany_cons, setMany_nil, List.set_cons_succ, List.set_cons_zero]
    rw [seqS_ap]
    simp only [asg_ap, found0 (w := w), Option.map_some, Option.bind_some, List.set_cons_succ, List.set_cons_zero]
    rw [seqS_ap]
    simp only [forS_ap, zipI_ap, var_ap, get_0, get_s, Option.map_some, Option.bind_some, hz0, hz1, h1]
    rw [seqS_ap]
    simp only [seqS_ap, nilS_ap, failS_ap, ifS_ap, asg_ap, retS_ap, exprS_ap, augS_ap, setS_ap, unpS_ap, swpS_ap, var_ap, cst_ap, bin_ap, tval_ap, andE_ap, orE_ap, notE_ap, iteE_ap, notB_ap, andB_ap, orB_ap, nilL_ap, consL_ap, tupE_ap, lstE_ap, callN_ap, ucall_ap, appE_ap, sliceE_ap, forS_ap, whileS_ap, valI_ap, enumI_ap, zipI_ap, tgN_ap, tgT_ap, get_0, get_s, setMany_nil, setMany_cons, lenF_fro, lenF_lst, rangeF_1, rangeF_2, rangeF_3, absF_1, intF_1, seqOf_lst, seqOf_fro, cmp_lt, cmp_le, cmp_gt, cmp_ge, cmp_eq, cmp_ne, cmp_eqb, cmp_neb, bin_add, bin_sub, bin_mul, bin_and, iop_add, iop_sub, iop_shr, idxV_fro, idxV_tup, idxV_lst, idx_c0, idx_c1, idx_c2, idx_c3, truth_bool, unpV_tup, unpV_lst, unpV_fro, part_none, part_int, lenOk_0, lenOk_1, lenOk_2, lenOk_3, lenOk_4, Int.ofNat_lt, Option.bind_some, Option.map_some, Option.bind_none, Option.map_none, List.set_cons_zero, List.set_cons_succ, List.length_cons, List.length_nil, List.getElem?_cons_zero, List.getElem?_cons_succ, List.reverse_cons, List.reverse_nil, List.nil_append, List.cons_append, List.append_nil, Nat.zero_add, Nat.reduceAdd, if_true, reduceIte, reduceCtorEq, or_true, true_or, or_false, false_or, Bool.not_true, Bool.not_false, vl_len, digs_len, List.set_cons_succ, List.set_cons_zero, l8, ok3', h2', h3]
  refine callM_pure (by show (purev _ && (purev _ && true)) = true; rw [pure_row4, pure_row4]; rfl) rfl rfl run ?_
  show (if 0 < 0 then some (V.lst 0) else (some [SG w (sumTo (fun i => a i * e i) 4), SG w (Rf a e 0), SG w (Rf a e 1), SG w (Rf a e 2)]).bind fun vs => (mapO (frz 5 0 _) vs).map .fro) = _
  rw [if_neg (by omega)]
  simp only [Option.bind_some, mapO, frz_SG, Option.map_some]
  rfl
/-- Euler -/
theorem euler (a e : Nat → Int) : sumTo (fun i => four a e i * four a e i) 4 = sumTo (fun i => a i * a i) 4 * sumTo (fun i => e i * e i) 4 := by
  simp only [sumTo, four, Rf, Tf, TL, List.getD_cons_zero, List.getD_cons_succ]
  grind
mutual
noncomputable def veq : V → V → Bool
  | .none, .none => true
  | .bool a, .bool b => a == b
  | .int a, .int b => a == b
  | .tup a, .tup b => vseq a b
  | .lst a, .lst b => a == b
  | .fro a, .fro b => vseq a b
  | .fn a, .fn b => a == b
  | _, _ => false
noncomputable def vseq : List V → List V → Bool
  | [], [] => true
  | a :: as, b :: bs => veq a b && vseq as bs
  | _, _ => false
end
mutual
theorem veq_ok : ∀ {a b : V}, veq a b = true → a = b
  | .none, b, h => by cases b <;> simp [veq] at h ⊢
  | .bool p, b, h => by cases b <;> simp [veq] at h ⊢; exact h
  | .int p, b, h => by cases b <;> simp [veq] at h ⊢; exact h
  | .tup p, b, h => by
    cases b <;> simp [veq] at h ⊢
    exact vseq_ok h
  | .lst p, b, h => by cases b <;> simp [veq] at h ⊢; exact h
  | .rng p q r, b, h => by cases b <;> simp [veq] at h
  | .fro p, b, h => by
    cases b <;> simp [veq] at h ⊢
    exact vseq_ok h
  | .fn p, b, h => by cases b <;> simp [veq] at h ⊢; exact h
theorem vseq_ok : ∀ {a b : List V}, vseq a b = true → a = b
  | [], b, h => by cases b <;> simp [vseq] at h ⊢
  | x :: a, b, h => by
    cases b with
    | nil => simp [vseq] at h
    | cons y b =>
      simp [vseq] at h
      rw [veq_ok h.1, vseq_ok h.2]
end
noncomputable def isV (o : Option (V × Hp)) (v : V) : Bool := match o with
  | some (r, []) => veq r v
  | _ => false
theorem isV_ok {o : Option (V × Hp)} {v : V} (h : isV o v = true) : o = some (v, []) := by
  unfold isV at h
  split at h
  · rw [veq_ok h]
  · cases h
theorem callM_eval {d k : Nat} {vs : List V} {v : V} {H : Hp} (hp : purevs vs = true) (h : isV (callM codes (d + 1) k vs []) v = true) : callM codes (d + 1) k vs H = some (v, H) := by
  have h1 := isV_ok h
  unfold callM at h1 ⊢
  rw [if_pos hp] at h1 ⊢
  obtain ⟨r, hr, e⟩ := Option.map_eq_some_iff.mp h1
  rw [hr]
  cases e
  rfl
noncomputable def vi (l : List Int) : List V := l.map .int
/-- values that freezing leaves -/
noncomputable def Still (v : V) : Prop := ∀ n H, frz 5 n H v = some v
noncomputable def Stills (vs : List V) : Prop := ∀ n H, mapO (frz 5 n H) vs = some vs
theorem frz_vi {f n : Nat} {H : Hp} : ∀ {l : List Int}, mapO (frz (f + 1) n H) (vi l) = some (vi l)
  | [] => rfl
  | a :: l => by
    show ((some (V.int a)).bind fun b => (mapO (frz (f + 1) n H) (vi l)).map fun l => b :: l) = _
    rw [frz_vi]; rfl
noncomputable def yardL (k : Nat) (ys : List Int) : List V := [.int (k : Int), .fro (vi ys)]
theorem frz_yard {n k : Nat} {H : Hp} {ys : List Int} : mapO (frz 6 n H) (yardL k ys) = some (yardL k ys) := by
  show ((some (V.int _)).bind fun b => (((((mapO (frz 5 n H) (vi ys)).map V.fro).bind fun b => (some []).map fun l => b :: l)).map fun l => b :: l)) = _
  rw [frz_vi]; rfl
theorem vi_len {l : List Int} : (vi l).length = l.length := by simp [vi]

theorem sp_draw {d k : Nat} {m : Int} {ys : List Int} {rest : Hp} (hm : 0 < m) (hk : k < 1000) (hys : ys.length ≤ 1000) (hr : ∀ n H, mapO (mapO (frz 6 n H)) rest = some rest) :
    ∃ v : Int, 0 ≤ v ∧ v < m ∧ callM codes (d + 1) 28 [.lst 0, .int m] (yardL k ys :: rest) = some (.int v, yardL (k + 1) ys :: rest) := by
  have o1 : lenOk ys.length = true := lenOk_64 hys
  have st := setS_use (e := var 0) (b := cst (.int 0)) (a := bin (binV .Add) (bin idxV (var 0) (cst (.int 0))) (cst (.int 1))) (L := [some (.lst 0), some (.int m)]) (H := yardL k ys :: rest) (H1 := yardL k ys :: rest) (H2 := yardL k ys :: rest) (H3 := yardL k ys :: rest)
    (v := .int ((k + 1 : Nat) : Int)) (k := 0) (j := 0) (xs := yardL k ys) (by simp only [seqS_ap, nilS_ap, failS_ap, ifS_ap, asg_ap, retS_ap, exprS_ap, augS_ap, setS_ap, unpS_ap, swpS_ap, var_ap, cst_ap, bin_ap, tval_ap, andE_ap, orE_ap, notE_ap, iteE_ap, notB_ap, andB_ap, orB_ap, nilL_ap, consL_ap, tupE_ap, lstE_ap, callN_ap, ucall_ap, appE_ap, sliceE_ap, forS_ap, whileS_ap, valI_ap, enumI_ap, zipI_ap, tgN_ap, tgT_ap, get_0, get_s, setMany_nil, setMany_cons, lenF_fro, lenF_lst, rangeF_1, rangeF_2, rangeF_3, absF_1, intF_1, seqOf_lst, seqOf_fro, cmp_lt, cmp_le, cmp_gt, cmp_ge, cmp_eq, cmp_ne, cmp_eqb, cmp_neb, bin_add, bin_sub, bin_mul, bin_and, iop_add, iop_sub, iop_shr, idxV_fro, idxV_tup, idxV_lst, idx_c0, idx_c1, idx_c2, idx_c3, truth_bool, unpV_tup, unpV_lst, unpV_fro, part_none, part_int, lenOk_0, lenOk_1, lenOk_2, lenOk_3, lenOk_4, Int.ofNat_lt, Option.bind_some, Option.map_some, Option.bind_none, Option.map_none, List.set_cons_zero, List.set_cons_succ, List.length_cons, List.length_nil, List.getElem?_cons_zero, List.getElem?_cons_succ, List.reverse_cons, List.reverse_nil, List.nil_append, List.cons_append, List.append_nil, Nat.zero_add, Nat.reduceAdd, if_true, reduceIte, reduceCtorEq, or_true, true_or, or_false, false_or, Bool.not_true, Bool.not_false, vl_len, digs_len, yardL]; rfl) (by simp only [seqS_ap, nilS_ap, failS_ap, ifS_ap, asg_ap, retS_ap, exprS_ap, augS_ap, setS_ap, unpS_ap, swpS_ap, var_ap, cst_ap, bin_ap, tval_ap, andE_ap, orE_ap, notE_ap, iteE_ap, notB_ap, andB_ap, orB_ap, nilL_ap, consL_ap, tupE_ap, lstE_ap, callN_ap, ucall_ap, appE_ap, sliceE_ap, forS_ap, whileS_ap, valI_ap, enumI_ap, zipI_ap, tgN_ap, tgT_ap, get_0, get_s, setMany_nil, setMany_cons, lenF_fro, lenF_lst, rangeF_1, rangeF_2, rangeF_3, absF_1, intF_1, seqOf_lst, seqOf_fro, cmp_lt, cmp_le, cmp_gt, cmp_ge, cmp_eq, cmp_ne, cmp_eqb, cmp_neb, bin_add, bin_sub, bin_mul, bin_and, iop_add, iop_sub, iop_shr, idxV_fro, idxV_tup, idxV_lst, idx_c0, idx_c1, idx_c2, idx_c3, truth_bool, unpV_tup, unpV_lst, unpV_fro, part_none, part_int, lenOk_0, lenOk_1, lenOk_2, lenOk_3, lenOk_4, Int.ofNat_lt, Option.bind_some, Option.map_some, Option.bind_none, Option.map_none, List.set_cons_zero, List.set_cons_succ, List.length_cons, List.length_nil, List.getElem?_cons_zero, List.getElem?_cons_succ, List.reverse_cons, List.reverse_nil, List.nil_append, List.cons_append, List.append_nil, Nat.zero_add, Nat.reduceAdd, if_true, reduceIte, reduceCtorEq, or_true, true_or, or_false, false_or, Bool.not_true, Bool.not_false, vl_len, digs_len]) (by simp only [seqS_ap, nilS_ap, failS_ap, ifS_ap, asg_ap, retS_ap, exprS_ap, augS_ap, setS_ap, unpS_ap, swpS_ap, var_ap, cst_ap, bin_ap, tval_ap, andE_ap, orE_ap, notE_ap, iteE_ap, notB_ap, andB_ap, orB_ap, nilL_ap, consL_ap, tupE_ap, lstE_ap, callN_ap, ucall_ap, appE_ap, sliceE_ap, forS_ap, whileS_ap, valI_ap, enumI_ap, zipI_ap, tgN_ap, tgT_ap, get_0, get_s, setMany_nil, setMany_cons, lenF_fro, lenF_lst, rangeF_1, rangeF_2, rangeF_3, absF_1, intF_1, seqOf_lst, seqOf_fro, cmp_lt, cmp_le, cmp_gt, cmp_ge, cmp_eq, cmp_ne, cmp_eqb, cmp_neb, bin_add, bin_sub, bin_mul, bin_and, iop_add, iop_sub, iop_shr, idxV_fro, idxV_tup, idxV_lst, idx_c0, idx_c1, idx_c2, idx_c3, truth_bool, unpV_tup, unpV_lst, unpV_fro, part_none, part_int, lenOk_0, lenOk_1, lenOk_2, lenOk_3, lenOk_4, Int.ofNat_lt, Option.bind_some, Option.map_some, Option.bind_none, Option.map_none, List.set_cons_zero, List.set_cons_succ, List.length_cons, List.length_nil, List.getElem?_cons_zero, List.getElem?_cons_succ, List.reverse_cons, List.reverse_nil, List.nil_append, List.cons_append, List.append_nil, Nat.zero_add, Nat.reduceAdd, if_true, reduceIte, reduceCtorEq, or_true, true_or, or_false, false_or, Bool.not_true, Bool.not_false, vl_len, digs_len]; rfl) rfl (by simp [yardL]) rfl
  have st' : setS (var 0) (cst (.int 0)) (bin (binV .Add) (bin idxV (var 0) (cst (.int 0))) (cst (.int 1))) [some (.lst 0), some (.int m)] (yardL k ys :: rest) = some (.next, [some (.lst 0), some (.int m)], yardL (k + 1) ys :: rest) := st
  have fin : ∀ v : Int, (cd_l_squared_off (callM codes d)) [some (.lst 0), some (.int m)] (yardL k ys :: rest) = some (.ret (.int v), [some (.lst 0), some (.int m)], yardL (k + 1) ys :: rest) →
      callM codes (d + 1) 28 [.lst 0, .int m] (yardL k ys :: rest) = some (.int v, yardL (k + 1) ys :: rest) := fun v hv => by
    refine callM_lst rfl rfl rfl hv rfl ?_
    show mapO (mapO (frz 6 _ _)) (List.take (rest.length + 1) (yardL (k + 1) ys :: rest)) = _
    rw [List.take_succ_cons, List.take_length]
    show ((mapO (frz 6 _ _) (yardL (k + 1) ys)).bind fun b => (mapO (mapO (frz 6 _ _)) rest).map fun l => b :: l) = _
    rw [frz_yard, hr]; rfl
  have hm0 : m ≠ 0 := by omega
  by_cases hle : ((k + 1 : Nat) : Int) ≤ (ys.length : Int)
  · have hlt : k < ys.length := by omega
    have hi : idx (vi ys) (((k + 1 : Nat) : Int) - 1) = some (.int ys[k]) := by
      rw [show ((k + 1 : Nat) : Int) - 1 = (k : Int) by omega]
      unfold idx
      rw [if_pos (by omega), if_pos (by omega), Int.toNat_natCast]
      simp [vi, hlt]
    refine ⟨ys[k].fmod m, Int.fmod_nonneg_of_pos _ hm, Int.fmod_lt_of_pos _ hm, fin _ ?_⟩
    unfold cd_l_squared_off
    rw [seqS_ap, st']
    simp only [seqS_ap, nilS_ap, failS_ap, ifS_ap, asg_ap, retS_ap, exprS_ap, augS_ap, setS_ap, unpS_ap, swpS_ap, var_ap, cst_ap, bin_ap, tval_ap, andE_ap, orE_ap, notE_ap, iteE_ap, notB_ap, andB_ap, orB_ap, nilL_ap, consL_ap, tupE_ap, lstE_ap, callN_ap, ucall_ap, appE_ap, sliceE_ap, forS_ap, whileS_ap, valI_ap, enumI_ap, zipI_ap, tgN_ap, tgT_ap, get_0, get_s, setMany_nil, setMany_cons, lenF_fro, lenF_lst, rangeF_1, rangeF_2, rangeF_3, absF_1, intF_1, seqOf_lst, seqOf_fro, cmp_lt, cmp_le, cmp_gt, cmp_ge, cmp_eq, cmp_ne, cmp_eqb, cmp_neb, bin_add, bin_sub, bin_mul, bin_and, iop_add, iop_sub, iop_shr, idxV_fro, idxV_tup, idxV_lst, idx_c0, idx_c1, idx_c2, idx_c3, truth_bool, unpV_tup, unpV_lst, unpV_fro, part_none, part_int, lenOk_0, lenOk_1, lenOk_2, lenOk_3, lenOk_4, Int.ofNat_lt, Option.bind_some, Option.map_some, Option.bind_none, Option.map_none, List.set_cons_zero, List.set_cons_succ, List.length_cons, List.length_nil, List.getElem?_cons_zero, List.getElem?_cons_succ, List.reverse_cons, List.reverse_nil, List.nil_append, List.cons_append, List.append_nil, Nat.zero_add, Nat.reduceAdd, if_true, reduceIte, reduceCtorEq, or_true, true_or, or_false, false_or, Bool.not_true, Bool.not_false, vl_len, digs_len, yardL, vi_len, o1, hle, decide_true, hi, bin_mod hm0]
  · refine ⟨(7 * ((k + 1 : Nat) : Int) + ((k + 1 : Nat) : Int).fdiv 2 + 2).fmod m, Int.fmod_nonneg_of_pos _ hm, Int.fmod_lt_of_pos _ hm, fin _ ?_⟩
    have h2 := @bin_fdiv ((k + 1 : Nat) : Int) 2 (yardL (k + 1) ys :: rest) (by decide) (by decide)
    have h7 : small 7 = true := rfl
    unfold cd_l_squared_off
    rw [seqS_ap, st']
    simp only [yardL] at h2
    simp only [seqS_ap, nilS_ap, failS_ap, ifS_ap, asg_ap, retS_ap, exprS_ap, augS_ap, setS_ap, unpS_ap, swpS_ap, var_ap, cst_ap, bin_ap, tval_ap, andE_ap, orE_ap, notE_ap, iteE_ap, notB_ap, andB_ap, orB_ap, nilL_ap, consL_ap, tupE_ap, lstE_ap, callN_ap, ucall_ap, appE_ap, sliceE_ap, forS_ap, whileS_ap, valI_ap, enumI_ap, zipI_ap, tgN_ap, tgT_ap, get_0, get_s, setMany_nil, setMany_cons, lenF_fro, lenF_lst, rangeF_1, rangeF_2, rangeF_3, absF_1, intF_1, seqOf_lst, seqOf_fro, cmp_lt, cmp_le, cmp_gt, cmp_ge, cmp_eq, cmp_ne, cmp_eqb, cmp_neb, bin_add, bin_sub, bin_mul, bin_and, iop_add, iop_sub, iop_shr, idxV_fro, idxV_tup, idxV_lst, idx_c0, idx_c1, idx_c2, idx_c3, truth_bool, unpV_tup, unpV_lst, unpV_fro, part_none, part_int, lenOk_0, lenOk_1, lenOk_2, lenOk_3, lenOk_4, Int.ofNat_lt, Option.bind_some, Option.map_some, Option.bind_none, Option.map_none, List.set_cons_zero, List.set_cons_succ, List.length_cons, List.length_nil, List.getElem?_cons_zero, List.getElem?_cons_succ, List.reverse_cons, List.reverse_nil, List.nil_append, List.cons_append, List.append_nil, Nat.zero_add, Nat.reduceAdd, if_true, reduceIte, reduceCtorEq, or_true, true_or, or_false, false_or, Bool.not_true, Bool.not_false, vl_len, digs_len, yardL, vi_len, o1, hle, decide_false, Bool.false_eq_true, h7, h2, bin_mod hm0]
theorem compE_ap {it : PI} {t : PB} {a : PE} {L : Loc} {H : Hp} : compE it t a L H = (it L H).bind fun r => (compL r.1 t a r.2.length 1000 0 L (r.2 ++ [[]])).map fun H' => (.lst r.2.length, H') := rfl
theorem trueB_ap {L : Loc} {H : Hp} : trueB L H = some (true, H) := rfl

/-- a comprehension whose element leaves the heap as it is -/
theorem compL_pure {it : It} {a : PE} {L : Loc} {H0 : Hp} (n : Nat) (vs rs : Nat → V) (hn : ∀ i acc, i < n → nx it i (H0 ++ [acc]) = some (some (vs i))) (hend : ∀ acc, nx it n (H0 ++ [acc]) = some none)
    (ha : ∀ i acc, i < n → a (L ++ [some (vs i)]) (H0 ++ [acc]) = some (rs i, H0 ++ [acc])) (hl : n ≤ 900) :
    ∀ (m i fuel : Nat), n = i + m → m < fuel → compL it trueB a H0.length fuel i L (H0 ++ [(List.range i).map rs]) = some (H0 ++ [(List.range n).map rs]) := by
  intro m
  induction m with
  | zero =>
    intro i fuel hi hf
    obtain ⟨fuel, rfl⟩ := Nat.exists_eq_succ_of_ne_zero (by omega : fuel ≠ 0)
    have : i = n := by omega
    subst this
    unfold compL
    rw [hend]; rfl
  | succ m ih =>
    intro i fuel hi hf
    obtain ⟨fuel, rfl⟩ := Nat.exists_eq_succ_of_ne_zero (by omega : fuel ≠ 0)
    unfold compL
    rw [hn i _ (by omega)]
    have o1 : lenOk ((List.range i).map rs).length = true := lenOk_64 (by simp; omega)
    have e1 : (H0 ++ [(List.range i).map rs])[H0.length]? = some ((List.range i).map rs) := by rw [List.getElem?_append_right (by omega), Nat.sub_self]; rfl
    have e2 : (H0 ++ [(List.range i).map rs]).set H0.length ((List.range i).map rs ++ [rs i]) = H0 ++ [(List.range (i + 1)).map rs] := by
      rw [List.set_append_right _ _ (by omega), Nat.sub_self, List.range_succ, List.map_append]; rfl
    simp only [Option.bind_some, trueB_ap, if_true, ha i _ (show i < n by omega), e1, o1, e2]
    exact ih (i + 1) fuel (by omega) (by omega)
theorem toPy_vl {f : Nat} {H : Hp} : ∀ {l : List Nat}, mapO (toPy (f + 1) H) (vl l) = some (l.map fun (n : Nat) => PyData.int (n : Int))
  | [] => rfl
  | a :: l => by
    show ((some (PyData.int a)).bind fun b => (mapO (toPy (f + 1) H) (vl l)).map fun l => b :: l) = _
    rw [toPy_vl]; rfl
theorem lay_ints : ∀ l : List Nat, PyData.canLayAll0 (l.map fun (n : Nat) => PyData.int (n : Int)) = true
  | [] => rfl
  | a :: l => by
    have := lay_ints l
    simp [PyData.canLayAll0, PyData.canLay0, this] at *
    try exact this
theorem depth_ints : ∀ l : List Nat, PyData.depthAll (l.map fun (n : Nat) => PyData.int (n : Int)) ≤ 5
  | [] => by simp [PyData.depthAll]
  | a :: l => by
    have := depth_ints l
    simp only [List.map_cons, PyData.depthAll, PyData.depth]
    omega
theorem eqV_SG {w : Nat} {a : Int} {H : Hp} : eqV H (SG w a) (SG w a) = some true := by
  have e : toPy 4 H (SG w a) = some (.tuple [.bool (decide (a < 0)), .list ((digs (2 ^ w) a.natAbs (ln (2 ^ w) a.natAbs)).map fun (n : Nat) => PyData.int (n : Int))]) := by
    show ((some (PyData.bool (decide (a < 0)))).bind fun b => ((((mapO (toPy 2 H) (vl _)).map PyData.list).bind fun b => (some []).map fun l => b :: l).map fun l => b :: l)).map PyData.tuple = _
    rw [toPy_vl]; rfl
  have hl : PyData.canLay0 (.tuple [.bool (decide (a < 0)), .list ((digs (2 ^ w) a.natAbs (ln (2 ^ w) a.natAbs)).map fun (n : Nat) => PyData.int (n : Int))]) = true := by
    simp [PyData.canLay0, PyData.canLayAll0, lay_ints]
  have hd : PyData.depth (.tuple [.bool (decide (a < 0)), .list ((digs (2 ^ w) a.natAbs (ln (2 ^ w) a.natAbs)).map fun (n : Nat) => PyData.int (n : Int))]) ≤ 64 := by
    have := depth_ints (digs (2 ^ w) a.natAbs (ln (2 ^ w) a.natAbs))
    simp only [PyData.depth, PyData.depthAll]
    omega
  unfold eqV
  rw [e]
  simp only [Option.bind_some]
  have hs : SeqAt.shaped (.tuple [.bool (decide (a < 0)), .list ((digs (2 ^ w) a.natAbs (ln (2 ^ w) a.natAbs)).map fun (n : Nat) => PyData.int (n : Int))]) = true := by
    unfold SeqAt.shaped
    rw [hl, decide_eq_true hd]; rfl
  rw [hs, PySem.SeqAt.eqv_refl _ hl]
  rfl
theorem mapO_append {α β : Type} {f : α → Option β} : ∀ {l m : List α} {l' m' : List β}, mapO f l = some l' → mapO f m = some m' → mapO f (l ++ m) = some (l' ++ m')
  | [], _, _, _, h, h2 => by unfold mapO at h; cases h; exact h2
  | a :: l, _, _, _, h, h2 => by
    unfold mapO at h
    obtain ⟨b, hb, h⟩ := Option.bind_eq_some_iff.mp h
    obtain ⟨t, ht, e⟩ := Option.map_eq_some_iff.mp h
    subst e
    show ((f a).bind fun b => (mapO f (l ++ _)).map fun l => b :: l) = _
    rw [hb, mapO_append ht h2]; rfl

/-- the comprehension of four draws -/
theorem draws_loop {d : Nat} {L : Loc} {ys : List Int} {rest : Hp} (hL : get L 1 = some (.lst 0)) (hLl : 2 ≤ L.length) (hys : ys.length ≤ 1000) (hr : ∀ n H, mapO (mapO (frz 6 n H)) rest = some rest) :
    ∀ (m i fuel k : Nat) (acc : List Int), 4 = i + m → m < fuel → k + m < 1000 → acc.length = i → (∀ x ∈ acc, -4 ≤ x ∧ x ≤ 4) →
    ∃ k' acc', compL (.val (.rng 0 4 1)) trueB (bin (binV .Sub) (ucall (callM codes (d + 1)) (cst (.fn 28)) (consL (var 1) (consL (cst (.int 9)) nilL))) (cst (.int 4))) (rest.length + 1) fuel i L (yardL k ys :: (rest ++ [vi acc])) = some (yardL k' ys :: (rest ++ [vi acc'])) ∧
      k' = k + m ∧ acc'.length = 4 ∧ (∀ x ∈ acc', -4 ≤ x ∧ x ≤ 4) := by
  intro m
  induction m with
  | zero =>
    intro i fuel k acc hi hf hk ha hb
    obtain ⟨fuel, rfl⟩ := Nat.exists_eq_succ_of_ne_zero (by omega : fuel ≠ 0)
    have : i = 4 := by omega
    subst this
    refine ⟨k, acc, ?_, rfl, ha, hb⟩
    unfold compL
    rfl
  | succ m ih =>
    intro i fuel k acc hi hf hk ha hb
    obtain ⟨fuel, rfl⟩ := Nat.exists_eq_succ_of_ne_zero (by omega : fuel ≠ 0)
    have hnx : ∀ H : Hp, nx (.val (.rng 0 4 1)) i H = some (some (.int (i : Int))) := fun H => nx_0 (n := 4) (by omega)
    obtain ⟨v, hv0, hv1, hv⟩ := sp_draw (d := d) (k := k) (m := 9) (ys := ys) (rest := rest ++ [vi acc]) (by decide) (by omega) hys (fun n H => mapO_append (hr n H) (by show ((mapO (frz 6 n H) (vi acc)).bind fun b => (some []).map fun l => b :: l) = _; rw [frz_vi]; rfl))
    have hg : get (L ++ [some (.int (i : Int))]) 1 = some (.lst 0) := by rw [get_append_lt (by omega)]; exact hL
    have hb' : ∀ x ∈ acc ++ [v - 4], -4 ≤ x ∧ x ≤ 4 := fun x hx => by
      rcases List.mem_append.mp hx with h | h
      · exact hb x h
      · rw [List.mem_singleton.mp h]; omega
    obtain ⟨k', acc', h1, h2, h3, h4⟩ := ih (i + 1) fuel (k + 1) (acc ++ [v - 4]) (by omega) (by omega) (by omega) (by simp [ha]) hb'
    refine ⟨k', acc', ?_, by omega, h3, h4⟩
    unfold compL
    rw [hnx]
    have o1 : lenOk (vi acc).length = true := lenOk_64 (by rw [vi_len]; omega)
    have e1 : (yardL (k + 1) ys :: (rest ++ [vi acc]))[rest.length + 1]? = some (vi acc) := by rw [List.getElem?_cons_succ, List.getElem?_append_right (by omega), Nat.sub_self]; rfl
    have e2 : (rest ++ [vi acc]).set rest.length (vi acc ++ [.int (v - 4)]) = rest ++ [vi (acc ++ [v - 4])] := by
      rw [List.set_append_right _ _ (by omega), Nat.sub_self]; simp [vi]
    simp only [trueB_ap, seqS_ap, nilS_ap, failS_ap, ifS_ap, asg_ap, retS_ap, exprS_ap, augS_ap, setS_ap, unpS_ap, swpS_ap, var_ap, cst_ap, bin_ap, tval_ap, andE_ap, orE_ap, notE_ap, iteE_ap, notB_ap, andB_ap, orB_ap, nilL_ap, consL_ap, tupE_ap, lstE_ap, callN_ap, ucall_ap, appE_ap, sliceE_ap, forS_ap, whileS_ap, valI_ap, enumI_ap, zipI_ap, tgN_ap, tgT_ap, get_0, get_s, setMany_nil, setMany_cons, lenF_fro, lenF_lst, rangeF_1, rangeF_2, rangeF_3, absF_1, intF_1, seqOf_lst, seqOf_fro, cmp_lt, cmp_le, cmp_gt, cmp_ge, cmp_eq, cmp_ne, cmp_eqb, cmp_neb, bin_add, bin_sub, bin_mul, bin_and, iop_add, iop_sub, iop_shr, idxV_fro, idxV_tup, idxV_lst, idx_c0, idx_c1, idx_c2, idx_c3, truth_bool, unpV_tup, unpV_lst, unpV_fro, part_none, part_int, lenOk_0, lenOk_1, lenOk_2, lenOk_3, lenOk_4, Int.ofNat_lt, Option.bind_some, Option.map_some, Option.bind_none, Option.map_none, List.set_cons_zero, List.set_cons_succ, List.length_cons, List.length_nil, List.getElem?_cons_zero, List.getElem?_cons_succ, List.reverse_cons, List.reverse_nil, List.nil_append, List.cons_append, List.append_nil, Nat.zero_add, Nat.reduceAdd, if_true, reduceIte, reduceCtorEq, or_true, true_or, or_false, false_or, Bool.not_true, Bool.not_false, vl_len, digs_len, hg, hv, e1, o1, e2]
    exact h1
noncomputable abbrev drawE (c : CT) : PE := bin (binV .Sub) (ucall c (cst (.fn 28)) (consL (var 1) (consL (cst (.int 9)) nilL))) (cst (.int 4))
noncomputable abbrev draws4 (c : CT) : PE := frzE (compE (valI (callN rangeF (consL (cst (.int 4)) nilL))) trueB (drawE c))
theorem draws4_run {d k : Nat} {L : Loc} {ys : List Int} {rest : Hp} (hL : get L 1 = some (.lst 0)) (hLl : 2 ≤ L.length) (hys : ys.length ≤ 1000) (hk : k + 4 < 1000) (hr : ∀ n H, mapO (mapO (frz 6 n H)) rest = some rest) :
    ∃ acc : List Int, acc.length = 4 ∧ (∀ x ∈ acc, -4 ≤ x ∧ x ≤ 4) ∧ draws4 (callM codes (d + 1)) L (yardL k ys :: rest) = some (.fro (vi acc), yardL (k + 4) ys :: rest) := by
  obtain ⟨k', acc, h1, rfl, h3, h4⟩ := draws_loop (d := d) hL hLl hys hr 4 0 1000 k [] (by omega) (by omega) (by omega) rfl (fun x h => nomatch h)
  refine ⟨acc, h3, h4, ?_⟩
  have hit : (valI (callN rangeF (consL (cst (.int 4)) nilL))) L (yardL k ys :: rest) = some (.val (.rng 0 4 1), yardL k ys :: rest) := rfl
  have hc : compE (valI (callN rangeF (consL (cst (.int 4)) nilL))) trueB (drawE (callM codes (d + 1))) L (yardL k ys :: rest) = some (.lst (rest.length + 1), yardL (k + 4) ys :: (rest ++ [vi acc])) := by
    rw [compE_ap, hit]
    simp only [Option.bind_some]
    have h1' : compL (.val (.rng 0 4 1)) trueB (drawE (callM codes (d + 1))) (yardL k ys :: rest).length 1000 0 L ((yardL k ys :: rest) ++ [[]]) = _ := h1
    rw [h1']; rfl
  unfold draws4
  rw [frzE_ap, hc]
  have e1 : (yardL (k + 4) ys :: (rest ++ [vi acc]))[rest.length + 1]? = some (vi acc) := by rw [List.getElem?_cons_succ, List.getElem?_append_right (by omega), Nat.sub_self]; rfl
  have f1 : frz 6 (rest.length + 1) (yardL (k + 4) ys :: (rest ++ [vi acc])) (.lst (rest.length + 1)) = some (.fro (vi acc)) := by
    show (if rest.length + 1 < rest.length + 1 then some (V.lst _) else ((yardL (k + 4) ys :: (rest ++ [vi acc]))[rest.length + 1]?).bind fun vs => (mapO (frz 5 _ _) vs).map .fro) = _
    rw [if_neg (by omega), e1]
    show (mapO (frz 5 _ _) (vi acc)).map V.fro = _
    rw [frz_vi]; rfl
  have f2 : frzH (rest.length + 1) (yardL (k + 4) ys :: (rest ++ [vi acc])) = some (yardL (k + 4) ys :: rest) := by
    unfold frzH
    rw [List.take_succ_cons, List.take_append_of_le_length (by omega), List.take_length]
    show ((mapO (frz 6 _ _) (yardL (k + 4) ys)).bind fun b => (mapO (mapO (frz 6 _ _)) rest).map fun l => b :: l) = _
    rw [frz_yard, hr]; rfl
  show ((frz 6 (rest.length + 1) _ _).bind fun v => (frzH (rest.length + 1) _).map fun H' => (v, H')) = _
  rw [f1]
  simp only [Option.bind_some]
  rw [f2]; rfl
noncomputable abbrev draws2 (c : CT) : PE := frzE (compE (valI (callN rangeF (consL (cst (.int 2)) nilL))) trueB (draws4 c))
theorem draws2_run {d k : Nat} {L : Loc} {ys : List Int} (hL : get L 1 = some (.lst 0)) (hLl : 2 ≤ L.length) (hys : ys.length ≤ 1000) (hk : k + 8 < 1000) :
    ∃ a b : List Int, a.length = 4 ∧ b.length = 4 ∧ (∀ x ∈ a, -4 ≤ x ∧ x ≤ 4) ∧ (∀ x ∈ b, -4 ≤ x ∧ x ≤ 4) ∧ draws2 (callM codes (d + 1)) L [yardL k ys] = some (.fro [.fro (vi a), .fro (vi b)], [yardL (k + 8) ys]) := by
  have hg : ∀ v, get (L ++ [some v]) 1 = some (.lst 0) := fun v => by rw [get_append_lt (by omega)]; exact hL
  obtain ⟨a, a1, a2, a3⟩ := draws4_run (d := d) (k := k) (L := L ++ [some (.int 0)]) (ys := ys) (rest := [[]]) (hg _) (by simp; omega) hys (by omega) (fun n H => rfl)
  obtain ⟨b, b1, b2, b3⟩ := draws4_run (d := d) (k := k + 4) (L := L ++ [some (.int 1)]) (ys := ys) (rest := [[.fro (vi a)]]) (hg _) (by simp; omega) hys (by omega) (fun n H => by
    show ((((mapO (frz 5 n H) (vi a)).map V.fro).bind fun b => (some []).map fun l => b :: l).bind fun b => (some []).map fun l => b :: l) = _
    rw [frz_vi]; rfl)
  refine ⟨a, b, a1, b1, a2, b2, ?_⟩
  have hc : compE (valI (callN rangeF (consL (cst (.int 2)) nilL))) trueB (draws4 (callM codes (d + 1))) L [yardL k ys] = some (.lst 1, [yardL (k + 8) ys, [.fro (vi a), .fro (vi b)]]) := by
    show (compL (.val (.rng 0 2 1)) trueB (draws4 (callM codes (d + 1))) 1 (999 + 1) 0 L [yardL k ys, []]).map _ = _
    unfold compL
    rw [show nx (.val (.rng 0 2 1)) 0 [yardL k ys, []] = some (some (.int 0)) from rfl]
    simp only [Option.bind_some, trueB_ap, if_true, a3, List.getElem?_cons_succ, List.getElem?_cons_zero, List.length_nil, lenOk_0, List.set_cons_succ, List.set_cons_zero, List.nil_append]
    show (compL (.val (.rng 0 2 1)) trueB (draws4 (callM codes (d + 1))) 1 (998 + 1) 1 L [yardL (k + 4) ys, [.fro (vi a)]]).map _ = _
    unfold compL
    rw [show nx (.val (.rng 0 2 1)) 1 [yardL (k + 4) ys, [.fro (vi a)]] = some (some (.int 1)) from rfl]
    simp only [Option.bind_some, trueB_ap, if_true, b3, List.getElem?_cons_succ, List.getElem?_cons_zero, List.length_cons, List.length_nil, Nat.zero_add, lenOk_1, List.set_cons_succ, List.set_cons_zero, List.cons_append, List.nil_append]
    show (compL (.val (.rng 0 2 1)) trueB (draws4 (callM codes (d + 1))) 1 (997 + 1) 2 L [yardL (k + 8) ys, [.fro (vi a), .fro (vi b)]]).map _ = _
    unfold compL
    rfl
  unfold draws2
  rw [frzE_ap, hc]
  simp only [Option.bind_some]
  have f1 : frz 6 1 [yardL (k + 8) ys, [.fro (vi a), .fro (vi b)]] (.lst 1) = some (.fro [.fro (vi a), .fro (vi b)]) := by
    show ((((mapO (frz 4 _ _) (vi a)).map V.fro).bind fun x => (((((mapO (frz 4 _ _) (vi b)).map V.fro).bind fun x => (some []).map fun l => x :: l)).map fun l => x :: l))).map V.fro = _
    rw [frz_vi, frz_vi]; rfl
  have f2 : frzH 1 [yardL (k + 8) ys, [.fro (vi a), .fro (vi b)]] = some [yardL (k + 8) ys] := by
    show ((mapO (frz 6 _ _) (yardL (k + 8) ys)).bind fun b => (some []).map fun l => b :: l) = _
    rw [frz_yard]; rfl
  show ((frz 6 1 _ _).bind fun v => (frzH 1 _).map fun H' => (v, H')) = _
  rw [f1]
  simp only [Option.bind_some]
  rw [f2]; rfl
noncomputable def absI (a : Int) : Int := if a < 0 then -a else a
noncomputable abbrev yardE : PE := lstE (consL (cst (.int 0)) (consL (frzE (compE (valI (sliceE (var 0) (cst .none) (cst (.int 10)))) trueB (callN absF (consL (callN intF (consL (var 12) nilL)) nilL)))) nilL))
theorem get_app {L : Loc} {v : V} {n : Nat} (h : L.length = n) : get (L ++ [some v]) n = some v := by
  unfold get
  rw [List.getElem?_append_right (by omega), h, Nat.sub_self]; rfl
theorem yard_run {ss : List Int} {L : Loc} (h0 : get L 0 = some (.fro (vi ss))) (hl : L.length = 12) (hs : ss.length ≤ 1000) : ∃ ys : List Int, ys.length ≤ 1000 ∧ yardE L [] = some (.lst 0, [yardL 0 ys]) := by
  let sl := ss.take 10
  have hsl : sl.length ≤ 10 := by simp [sl]; omega
  let rs : Nat → V := fun i => .int (absI (sl.getD i 0))
  have hp : pickV (vi ss) none (some 10) = vi sl := by
    unfold pickV kms_lo kms_hi
    simp only [List.drop_zero, Nat.sub_zero]
    rw [if_neg (by decide)]
    show List.take (min 10 (vi ss).length) (vi ss) = _
    rw [vi_len]
    unfold vi
    rw [← List.map_take]
    congr 1
    show List.take (min 10 ss.length) ss = ss.take 10
    rcases Nat.le_total 10 ss.length with h | h
    · rw [Nat.min_eq_left h]
    · rw [Nat.min_eq_right h, List.take_length, List.take_of_length_le h]
  have o1 : lenOk (vi ss).length = true := lenOk_64 (by rw [vi_len]; exact hs)
  have hsli : (sliceE (var 0) (cst .none) (cst (.int 10))) L [] = some (.lst 0, [vi sl]) := by
    rw [sliceE_ap]
    simp only [var_ap, cst_ap, h0, Option.map_some, Option.bind_some, seqOf_fro, part_none, part_int, o1, if_true, hp]
    rfl
  have hcomp := compL_pure (it := .val (.lst 0)) (a := callN absF (consL (callN intF (consL (var 12) nilL)) nilL)) (L := L) (H0 := [vi sl]) sl.length (fun i => .int (sl.getD i 0)) rs
    (fun i acc hi => by
      show ((some (vi sl)).map fun vs => vs[i]?) = _
      simp [vi, hi])
    (fun acc => by
      show ((some (vi sl)).map fun vs => vs[sl.length]?) = _
      simp [vi])
    (fun i acc hi => by
      simp only [callN_ap, consL_ap, nilL_ap, var_ap, get_app hl, Option.map_some, Option.bind_some, intF_1, absF_1]
      rfl) (by omega) sl.length 0 1000 (by omega) (by omega)
  refine ⟨(List.range sl.length).map fun i => absI (sl.getD i 0), by simp; omega, ?_⟩
  have hc : compE (valI (sliceE (var 0) (cst .none) (cst (.int 10)))) trueB (callN absF (consL (callN intF (consL (var 12) nilL)) nilL)) L [] = some (.lst 1, [vi sl, (List.range sl.length).map rs]) := by
    rw [compE_ap, valI_ap, hsli]
    have : okIt (.lst 0) = true := rfl
    simp only [Option.bind_some, this, if_true]
    have hcomp' : compL (.val (.lst 0)) trueB (callN absF (consL (callN intF (consL (var 12) nilL)) nilL)) [vi sl].length 1000 0 L ([vi sl] ++ [[]]) = _ := hcomp
    rw [hcomp']; rfl
  have hv : (List.range sl.length).map rs = vi ((List.range sl.length).map fun i => absI (sl.getD i 0)) := by simp [vi, rs]
  rw [hv] at hc
  have hf : frzE (compE (valI (sliceE (var 0) (cst .none) (cst (.int 10)))) trueB (callN absF (consL (callN intF (consL (var 12) nilL)) nilL))) L [] = some (.fro (vi ((List.range sl.length).map fun i => absI (sl.getD i 0))), []) := by
    rw [frzE_ap, hc]
    show (((mapO (frz 5 0 _) (vi _)).map V.fro).bind fun v => (some []).map fun H' => (v, H')) = _
    rw [frz_vi]; rfl
  unfold yardE
  simp only [lstE_ap, consL_ap, nilL_ap, cst_ap, hf, Option.map_some, Option.bind_some, List.length_cons, List.length_nil, Nat.zero_add, Nat.reduceAdd, lenOk_2, if_true]
  rfl
noncomputable def intsV (l : List Int) : V := .fro (l.map .int)
noncomputable def rowJ : V := intsV [1, 2, 0, 0, 2, 0, 0, 0, 0, 2]
noncomputable def twJ : V := intsV [1, 4, 4, 0, 4, 8, 0, 0, 4, 4, 8, 0, 0, 8, 0, 0, 0, 0, 4]
noncomputable def toJ : V := intsV [1, 8, 24, 32, 24, 48, 96, 64, 24, 104, 144, 96, 96, 112, 192, 192, 16, 96, 216, 96, 96, 64, 96, 192, 0, 0, 96, 32, 64, 0, 0, 64, 0, 0, 0, 0, 16]
theorem jac1 : isV (callM codes 12 21 [rowJ, rowJ, .int 12] []) twJ = true := by decide +kernel
theorem jac2 : isV (callM codes 12 21 [twJ, twJ, .int 12] []) toJ = true := by decide +kernel
noncomputable abbrev divC : PE := compE (valI (callN rangeF (consL (cst (.int 1)) (consL (bin (binV .Add) (var 11) (cst (.int 1))) nilL)))) (andB (tval (bin (cmpV .Eq) (bin (binV .Mod) (var 11) (var 12)) (cst (.int 0)))) (tval (bin (cmpV .Gt) (bin (binV .Mod) (var 12) (cst (.int 4))) (cst (.int 0))))) (var 12)
noncomputable def dvs : Nat → List Int
  | 0 => [1]
  | 1 => [1, 2]
  | 2 => [1, 3]
  | 3 => [1, 2]
  | 4 => [1, 5]
  | 5 => [1, 2, 3, 6]
  | 6 => [1, 7]
  | 7 => [1, 2]
  | 8 => [1, 3, 9]
  | _ => [1, 2, 5, 10]
theorem divC_run {o0 o1 o2 o3 o4 o5 o6 o7 o8 o9 o10 : Option V} {Y : List V} : ∀ n : Nat, n < 10 →
    divC [o0, o1, o2, o3, o4, o5, o6, o7, o8, o9, o10, some (.int ((1 + n : Nat) : Int))] [Y] = some (.lst 1, [Y, vi (dvs n)])
  | 0, _ => by kernel_rfl
  | 1, _ => by kernel_rfl
  | 2, _ => by kernel_rfl
  | 3, _ => by kernel_rfl
  | 4, _ => by kernel_rfl
  | 5, _ => by kernel_rfl
  | 6, _ => by kernel_rfl
  | 7, _ => by kernel_rfl
  | 8, _ => by kernel_rfl
  | 9, _ => by kernel_rfl
  | n + 10, h => by omega
theorem divB_run {o0 o1 o2 o3 o4 o5 o6 o7 o8 o9 o10 : Option V} {k : Nat} {ys : List Int} {n : Nat} (h : n < 10) :
    frzE divC [o0, o1, o2, o3, o4, o5, o6, o7, o8, o9, o10, some (.int ((1 + n : Nat) : Int))] [yardL k ys] = some (.fro (vi (dvs n)), [yardL k ys]) := by
  rw [frzE_ap, divC_run n h]
  have f1 : frz 6 1 [yardL k ys, vi (dvs n)] (.lst 1) = some (.fro (vi (dvs n))) := by
    show (mapO (frz 5 _ _) (vi (dvs n))).map V.fro = _
    rw [frz_vi]; rfl
  have f2 : frzH 1 [yardL k ys, vi (dvs n)] = some [yardL k ys] := by
    show ((mapO (frz 6 _ _) (yardL k ys)).bind fun b => (some []).map fun l => b :: l) = _
    rw [frz_yard]; rfl
  show ((frz 6 1 _ _).bind fun v => (frzH 1 _).map fun H' => (v, H')) = _
  rw [f1]
  simp only [Option.bind_some]
  rw [f2]; rfl
noncomputable def jvs : Nat → Int
  | 0 => 8
  | 1 => 24
  | 2 => 32
  | 3 => 24
  | 4 => 48
  | 5 => 96
  | 6 => 64
  | 7 => 24
  | 8 => 104
  | _ => 144
theorem told_idx {H : Hp} : ∀ n : Nat, n < 10 → idxV toJ (.int ((1 + n : Nat) : Int)) H = some (.int (jvs n), H)
  | 0, _ | 1, _ | 2, _ | 3, _ | 4, _ | 5, _ | 6, _ | 7, _ | 8, _ | 9, _ => by kernel_rfl
  | n + 10, h => by omega
theorem dvs_sum {H : Hp} : ∀ n : Nat, n < 10 → ∃ s : Int, sumF [.fro (vi (dvs n))] H = some (.int s, H) ∧ jvs n = 8 * s
  | 0, _ => ⟨1, by kernel_rfl, rfl⟩
  | 1, _ => ⟨3, by kernel_rfl, rfl⟩
  | 2, _ => ⟨4, by kernel_rfl, rfl⟩
  | 3, _ => ⟨3, by kernel_rfl, rfl⟩
  | 4, _ => ⟨6, by kernel_rfl, rfl⟩
  | 5, _ => ⟨12, by kernel_rfl, rfl⟩
  | 6, _ => ⟨8, by kernel_rfl, rfl⟩
  | 7, _ => ⟨3, by kernel_rfl, rfl⟩
  | 8, _ => ⟨13, by kernel_rfl, rfl⟩
  | 9, _ => ⟨18, by kernel_rfl, rfl⟩
  | n + 10, h => by omega
noncomputable abbrev partD : PS := forS (valI (callN rangeF (consL (cst (.int 1)) (consL (cst (.int 11)) nilL)))) (tgN 11) (seqS (ifS (tval (bin (cmpV .NotEq) (bin idxV (var 10) (var 11)) (bin (binV .Mult) (cst (.int 8)) (callN sumF (consL (frzE divC) nilL))))) (seqS (retS (cst (.bool false)))
      nilS) nilS)
    nilS)
noncomputable def numv (o : Option V) (i : Nat) : Option V := if i = 0 then o else some (.int ((1 + (i - 1) : Nat) : Int))
theorem partD_run {o0 o1 o2 o3 o4 o5 o6 o7 o8 o9 o11 : Option V} {k : Nat} {ys : List Int} :
    partD [o0, o1, o2, o3, o4, o5, o6, o7, o8, o9, some toJ, o11] [yardL k ys] = some (.next, [o0, o1, o2, o3, o4, o5, o6, o7, o8, o9, some toJ, some (.int 10)], [yardL k ys]) := by
  have loop := forL_inv (it := .val (.rng 1 11 1)) (tg := tgN 11) (b := seqS (ifS (tval (bin (cmpV .NotEq) (bin idxV (var 10) (var 11)) (bin (binV .Mult) (cst (.int 8)) (callN sumF (consL (frzE divC) nilL))))) (seqS (retS (cst (.bool false)))
      nilS) nilS)
    nilS) 10 (fun i => ([o0, o1, o2, o3, o4, o5, o6, o7, o8, o9, some toJ, numv o11 i], [yardL k ys])) (fun i => .int ((1 + i : Nat) : Int))
    (fun i hi => nx_up (a := 1) (b := 11) (by omega)) (nx_up_end (a := 1) (b := 11) (by omega) (by omega)) (fun i hi => by
      refine ⟨_, rfl, ?_⟩
      obtain ⟨s, h1, h2⟩ := dvs_sum (H := [yardL k ys]) i hi
      have h3 := told_idx (H := [yardL k ys]) i hi
      have h4 := @divB_run o0 o1 o2 o3 o4 o5 o6 o7 o8 o9 (some toJ) k ys i hi
      have h8 : small 8 = true := rfl
      simp only [tgN_ap, List.set_cons_succ, List.set_cons_zero]
      rw [seqS_ap, ifS_ap]
      simp only [tval_ap, bin_ap, var_ap, cst_ap, get_0, get_s, Option.map_some, Option.bind_some, h3, callN_ap, consL_ap, nilL_ap, h4, h1, bin_mul, h8, if_true, cmp_ne, h2, truth_bool]
      simp only [bne_self_eq_false, Bool.false_eq_true, if_false, nilS_ap, Option.bind_some]
      rfl) 10 0 1000 (by omega) (by omega)
  exact loop
/-- a comprehension over a frozen list of ints, beside the yard -/
theorem comp_fro {a : List Int} {e : PE} {L : Loc} {j k : Nat} {ys : List Int} (rs : Nat → V) (hj : get L j = some (.fro (vi a))) (hl : L.length = 12) (ha : a.length ≤ 900)
    (he : ∀ i acc, i < a.length → e (L ++ [some (.int (a.getD i 0))]) [yardL k ys, acc] = some (rs i, [yardL k ys, acc]))
    (hs : ∀ n H, mapO (frz 5 n H) ((List.range a.length).map rs) = some ((List.range a.length).map rs)) :
    frzE (compE (valI (var j)) trueB e) L [yardL k ys] = some (.fro ((List.range a.length).map rs), [yardL k ys]) := by
  have hcomp := compL_pure (it := .val (.fro (vi a))) (a := e) (L := L) (H0 := [yardL k ys]) a.length (fun i => .int (a.getD i 0)) rs
    (fun i acc hi => by
      show some ((vi a)[i]?) = _
      simp [vi, hi])
    (fun acc => by
      show some ((vi a)[a.length]?) = _
      simp [vi])
    (fun i acc hi => he i acc hi) ha a.length 0 1000 (by omega) (by omega)
  have hc : compE (valI (var j)) trueB e L [yardL k ys] = some (.lst 1, [yardL k ys, (List.range a.length).map rs]) := by
    rw [compE_ap, valI_ap, var_ap, hj]
    have : okIt (.fro (vi a)) = true := rfl
    simp only [Option.map_some, Option.bind_some, this, if_true]
    have hcomp' : compL (.val (.fro (vi a))) trueB e [yardL k ys].length 1000 0 L ([yardL k ys] ++ [[]]) = _ := hcomp
    rw [hcomp']; rfl
  rw [frzE_ap, hc]
  have f1 : frz 6 1 [yardL k ys, (List.range a.length).map rs] (.lst 1) = some (.fro ((List.range a.length).map rs)) := by
    show (mapO (frz 5 _ _) ((List.range a.length).map rs)).map V.fro = _
    rw [hs]; rfl
  have f2 : frzH 1 [yardL k ys, (List.range a.length).map rs] = some [yardL k ys] := by
    show ((mapO (frz 6 _ _) (yardL k ys)).bind fun b => (some []).map fun l => b :: l) = _
    rw [frz_yard]; rfl
  show ((frz 6 1 _ _).bind fun v => (frzH 1 _).map fun H' => (v, H')) = _
  rw [f1]
  simp only [Option.bind_some]
  rw [f2]; rfl

noncomputable def fn4 (a : List Int) (i : Nat) : Int := a.getD i 0
theorem fn4_le {a : List Int} (h : ∀ x ∈ a, -4 ≤ x ∧ x ≤ 4) (i : Nat) : -4 ≤ fn4 a i ∧ fn4 a i ≤ 4 := by
  unfold fn4
  by_cases hi : i < a.length
  · rw [List.getD_eq_getElem?_getD, List.getElem?_eq_getElem hi]
    exact h _ (List.getElem_mem hi)
  · rw [List.getD_eq_getElem?_getD, List.getElem?_eq_none (by omega)]
    decide
theorem fn4_20 {a : List Int} (h : ∀ x ∈ a, -4 ≤ x ∧ x ≤ 4) (i : Nat) : (fn4 a i).natAbs < 2 ^ 20 := by
  have := fn4_le h i
  omega
theorem sq16 {x : Int} (h : -4 ≤ x ∧ x ≤ 4) : 0 ≤ x * x ∧ x * x ≤ 16 := by
  have h1 : x = -4 ∨ x = -3 ∨ x = -2 ∨ x = -1 ∨ x = 0 ∨ x = 1 ∨ x = 2 ∨ x = 3 ∨ x = 4 := by omega
  rcases h1 with rfl | rfl | rfl | rfl | rfl | rfl | rfl | rfl | rfl <;> decide
theorem small_20 {x : Int} (h : x.natAbs < 2 ^ 20) : small x = true := by
  unfold small; simp; omega

noncomputable abbrev sumE (j : Nat) : PE := callN sumF (consL (frzE (compE (valI (var j)) trueB (bin (binV .Mult) (var 12) (var 12)))) nilL)
theorem sumE_run {a : List Int} {L : Loc} {j k : Nat} {ys : List Int} (hj : get L j = some (.fro (vi a))) (hl : L.length = 12) (ha : a.length = 4) (hb : ∀ x ∈ a, -4 ≤ x ∧ x ≤ 4) :
    sumE j L [yardL k ys] = some (.int (sumTo (fun i => fn4 a i * fn4 a i) 4), [yardL k ys]) := by
  have hc := comp_fro (a := a) (e := bin (binV .Mult) (var 12) (var 12)) (L := L) (j := j) (k := k) (ys := ys) (fun i => .int (fn4 a i * fn4 a i)) hj hl (by omega)
    (fun i acc hi => by
      have hs : small (fn4 a i) = true := small_20 (fn4_20 hb i)
      have hs' : small (a.getD i 0) = true := hs
      simp only [bin_ap, var_ap, get_app hl, Option.map_some, Option.bind_some, bin_mul, hs', if_true]
      rfl)
    (fun n H => by rw [ha]; rfl)
  rw [ha] at hc
  have q0 := sq16 (fn4_le hb 0)
  have q1 := sq16 (fn4_le hb 1)
  have q2 := sq16 (fn4_le hb 2)
  have q3 := sq16 (fn4_le hb 3)
  unfold sumE
  rw [callN_ap, consL_ap, hc]
  simp only [Option.bind_some, nilL_ap, Option.map_some]
  show ((some [fn4 a 0 * fn4 a 0, fn4 a 1 * fn4 a 1, fn4 a 2 * fn4 a 2, fn4 a 3 * fn4 a 3]).bind fun l => if sumOk l then some (V.int l.sum, [yardL k ys]) else none) = _
  have hsum : sumTo (fun i => fn4 a i * fn4 a i) 4 = 0 + fn4 a 0 * fn4 a 0 + fn4 a 1 * fn4 a 1 + fn4 a 2 * fn4 a 2 + fn4 a 3 * fn4 a 3 := rfl
  rw [hsum]
  generalize fn4 a 0 * fn4 a 0 = p0 at *
  generalize fn4 a 1 * fn4 a 1 = p1 at *
  generalize fn4 a 2 * fn4 a 2 = p2 at *
  generalize fn4 a 3 * fn4 a 3 = p3 at *
  have hok : sumOk [p0, p1, p2, p3] = true := by
    show ((small p0 && small ([p0] : List Int).sum) && ((small p1 && small ([p0, p1] : List Int).sum) && ((small p2 && small ([p0, p1, p2] : List Int).sum) && ((small p3 && small ([p0, p1, p2, p3] : List Int).sum) && true)))) = true
    simp only [List.sum_cons, List.sum_nil]
    rw [small_20 (x := p0) (by omega), small_20 (x := p1) (by omega), small_20 (x := p2) (by omega), small_20 (x := p3) (by omega), small_20 (x := p0 + 0) (by omega), small_20 (x := p0 + (p1 + 0)) (by omega), small_20 (x := p0 + (p1 + (p2 + 0))) (by omega), small_20 (x := p0 + (p1 + (p2 + (p3 + 0)))) (by omega)]
    rfl
  simp only [Option.bind_some, hok, if_true, List.sum_cons, List.sum_nil]
  rw [show p0 + (p1 + (p2 + (p3 + 0))) = 0 + p0 + p1 + p2 + p3 by omega]

noncomputable abbrev sgE (c : CT) (j : Nat) : PE := frzE (compE (valI (var j)) trueB (ucall c (cst (.fn 30)) (consL (var 12) (consL (var 2) nilL))))
theorem sgE_run {d w : Nat} {a : List Int} {L : Loc} {j k : Nat} {ys : List Int} (hw : 1 ≤ w) (hw2 : w ≤ 20) (h2 : get L 2 = some (.int w)) (hj : get L j = some (.fro (vi a))) (hl : L.length = 12) (ha : a.length = 4) (hb : ∀ x ∈ a, -4 ≤ x ∧ x ≤ 4) :
    sgE (callM codes (d + 2)) j L [yardL k ys] = some (row4 w (fn4 a), [yardL k ys]) := by
  have hc := comp_fro (a := a) (e := ucall (callM codes (d + 2)) (cst (.fn 30)) (consL (var 12) (consL (var 2) nilL))) (L := L) (j := j) (k := k) (ys := ys) (fun i => SG w (fn4 a i)) hj hl (by omega)
    (fun i acc hi => by
      have hg : ∀ v, get (L ++ [some v]) 2 = some (.int w) := fun v => by rw [get_append_lt (by omega)]; exact h2
      have hs := sp_law_signed (d := d) (H := [yardL k ys, acc]) hw hw2 (show (fn4 a i).natAbs < 2 ^ 60 by have := fn4_20 hb i; omega)
      have hs' : callM codes (d + 2) 30 [.int (a.getD i 0), .int w] [yardL k ys, acc] = _ := hs
      simp only [ucall_ap, cst_ap, consL_ap, nilL_ap, var_ap, get_app hl, hg, Option.map_some, Option.bind_some, hs'])
    (fun n H => by
      rw [ha]
      show mapO (frz 5 n H) [SG w (fn4 a 0), SG w (fn4 a 1), SG w (fn4 a 2), SG w (fn4 a 3)] = _
      simp only [mapO, frz_SG, Option.map_some, Option.bind_some]
      rfl)
  rw [ha] at hc
  exact hc

theorem four_20 {f e : Nat → Int} (hf : ∀ i, -4 ≤ f i ∧ f i ≤ 4) (he : ∀ i, -4 ≤ e i ∧ e i ≤ 4) : ∀ i, (four f e i).natAbs < 2 ^ 20 := by
  have pr : ∀ i j, -16 ≤ f i * e j ∧ f i * e j ≤ 16 := fun i j => by
    have h1 := hf i
    have h2 := he j
    generalize f i = x at *
    generalize e j = y at *
    have h3 : x = -4 ∨ x = -3 ∨ x = -2 ∨ x = -1 ∨ x = 0 ∨ x = 1 ∨ x = 2 ∨ x = 3 ∨ x = 4 := by omega
    rcases h3 with rfl | rfl | rfl | rfl | rfl | rfl | rfl | rfl | rfl <;> omega
  intro i
  match i with
  | 0 =>
    have h0 := pr 0 0
    have h1 := pr 1 1
    have h2 := pr 2 2
    have h3 := pr 3 3
    show (0 + f 0 * e 0 + f 1 * e 1 + f 2 * e 2 + f 3 * e 3).natAbs < 2 ^ 20
    omega
  | 1 =>
    have h0 := pr 0 1
    have h1 := pr 1 0
    have h2 := pr 2 3
    have h3 := pr 3 2
    show ((f 0 * e 1 - f 1 * e 0) + (f 2 * e 3 - f 3 * e 2)).natAbs < 2 ^ 20
    omega
  | 2 =>
    have h0 := pr 0 2
    have h1 := pr 2 0
    have h2 := pr 3 1
    have h3 := pr 1 3
    show ((f 0 * e 2 - f 2 * e 0) + (f 3 * e 1 - f 1 * e 3)).natAbs < 2 ^ 20
    omega
  | 3 =>
    have h0 := pr 0 3
    have h1 := pr 3 0
    have h2 := pr 1 2
    have h3 := pr 2 1
    show ((f 0 * e 3 - f 3 * e 0) + (f 1 * e 2 - f 2 * e 1)).natAbs < 2 ^ 20
    omega
  | i + 4 => show ((0 : Int) * 0 - 0 * 0 + (0 * 0 - 0 * 0)).natAbs < 2 ^ 20; decide
noncomputable def prs : Nat → Int
  | 0 => 23
  | 1 => 29
  | 2 => 31
  | 3 => 43
  | 4 => 47
  | 5 => 53
  | _ => 59
noncomputable def primesV : V := intsV [23, 29, 31, 43, 47, 53, 59]
theorem primes_idx {H : Hp} : ∀ n : Nat, n < 7 → idxV primesV (.int ((n : Nat) : Int)) H = some (.int (prs n), H)
  | 0, _ | 1, _ | 2, _ | 3, _ | 4, _ | 5, _ | 6, _ => by kernel_rfl
  | n + 7, h => by omega
noncomputable abbrev primesE : PE := frzE (lstE (consL (cst (.int 23)) (consL (cst (.int 29)) (consL (cst (.int 31)) (consL (cst (.int 43)) (consL (cst (.int 47)) (consL (cst (.int 53)) (consL (cst (.int 59)) nilL))))))))
theorem frz_lit {l : List Int} {k : Nat} {ys : List Int} {e : PE} {L : Loc} (h : e L [yardL k ys] = some (.lst 1, [yardL k ys, vi l])) : frzE e L [yardL k ys] = some (intsV l, [yardL k ys]) := by
  rw [frzE_ap, h]
  have f1 : frz 6 1 [yardL k ys, vi l] (.lst 1) = some (intsV l) := by
    show (mapO (frz 5 _ _) (vi l)).map V.fro = _
    rw [frz_vi]; rfl
  have f2 : frzH 1 [yardL k ys, vi l] = some [yardL k ys] := by
    show ((mapO (frz 6 _ _) (yardL k ys)).bind fun b => (some []).map fun l => b :: l) = _
    rw [frz_yard]; rfl
  show ((frz 6 1 _ _).bind fun v => (frzH 1 _).map fun H' => (v, H')) = _
  rw [f1]
  simp only [Option.bind_some]
  rw [f2]; rfl
theorem primesE_run {L : Loc} {k : Nat} {ys : List Int} : primesE L [yardL k ys] = some (primesV, [yardL k ys]) := frz_lit (by kernel_rfl)
noncomputable abbrev rowE : PE := frzE (lstE (consL (cst (.int 1)) (consL (cst (.int 2)) (consL (cst (.int 0)) (consL (cst (.int 0)) (consL (cst (.int 2)) (consL (cst (.int 0)) (consL (cst (.int 0)) (consL (cst (.int 0)) (consL (cst (.int 0)) (consL (cst (.int 2)) nilL)))))))))))
theorem rowE_run {L : Loc} {k : Nat} {ys : List Int} : rowE L [yardL k ys] = some (rowJ, [yardL k ys]) := frz_lit (by kernel_rfl)
theorem cmp_neSG {w : Nat} {a : Int} {H : Hp} : cmpV .NotEq (SG w a) (SG w a) H = some (.bool false, H) := by
  show (eqV H (SG w a) (SG w a)).map (fun b => (V.bool !b, H)) = _
  rw [eqV_SG]; rfl
theorem four_idx {a b : List Int} {H : Hp} : unpV (.fro [.fro (vi a), .fro (vi b)]) H 2 = some [.fro (vi a), .fro (vi b)] := rfl

/-- the law's body, given that the leading down answers well -/
theorem run_law {ss : List Int} (hs : ss.length ≤ 1000) (led : ∀ n m : Nat, n < 6 → m < 7 → ∀ H : Hp, callM codes 12 36 [.int (prs m), .int ((n + 3 : Nat) : Int)] H = some (.bool true, H)) :
    ∃ L' k ys, (cd_law (callM codes 12)) [some (.fro (vi ss)), none, none, none, none, none, none, none, none, none, none, none] [] = some (.ret (.bool true), L', [yardL k ys]) := by
  obtain ⟨ys, hys, hy⟩ := yard_run (ss := ss) (L := [some (.fro (vi ss)), none, none, none, none, none, none, none, none, none, none, none]) rfl rfl hs
  obtain ⟨v1, a1, a2, dr1⟩ := sp_draw (d := 11) (k := 0) (m := 6) (ys := ys) (rest := []) (by decide) (by decide) hys (fun _ _ => rfl)
  obtain ⟨v2, b1, b2, dr2⟩ := sp_draw (d := 11) (k := 1) (m := 7) (ys := ys) (rest := []) (by decide) (by decide) hys (fun _ _ => rfl)
  obtain ⟨n, rfl⟩ := Int.eq_ofNat_of_zero_le a1
  obtain ⟨m, rfl⟩ := Int.eq_ofNat_of_zero_le b1
  have hn : n < 6 := by omega
  have hm : m < 7 := by omega
  obtain ⟨a, b, ha, hb, hab, hbb, dr8⟩ := draws2_run (d := 11) (k := 2) (L := [some (.fro (vi ss)), some (.lst 0), some (.int ((n + 3 : Nat) : Int)), some (.int (prs m)), none, none, none, none, none, none, none, none]) (ys := ys) rfl (by simp) hys (by decide)
  have e3 : (3 : Int) + (n : Int) = ((n + 3 : Nat) : Int) := by push_cast; omega
  have hl := led n m hn hm
  have w1 : 1 ≤ n + 3 := by omega
  have w2 : n + 3 ≤ 20 := by omega
  have w3 : n + 3 ≤ 29 := by omega
  have l2 := fn4_le hab
  have l3 := fn4_le hbb
  have s1 := sumE_run (a := a) (L := [some (.fro (vi ss)), some (.lst 0), some (.int ((n + 3 : Nat) : Int)), some (.int (prs m)), some (.fro (vi a)), some (.fro (vi b)), none, none, none, none, none, none]) (j := 4) (k := 10) (ys := ys) rfl rfl ha hab
  have s2 := sumE_run (a := b) (L := [some (.fro (vi ss)), some (.lst 0), some (.int ((n + 3 : Nat) : Int)), some (.int (prs m)), some (.fro (vi a)), some (.fro (vi b)), none, none, none, none, none, none]) (j := 5) (k := 10) (ys := ys) rfl rfl hb hbb
  have q1 : ∀ i, 0 ≤ fn4 a i * fn4 a i ∧ fn4 a i * fn4 a i ≤ 16 := fun i => sq16 (l2 i)
  have q2 : ∀ i, 0 ≤ fn4 b i * fn4 b i ∧ fn4 b i * fn4 b i ≤ 16 := fun i => sq16 (l3 i)
  have sb : ∀ f : Nat → Int, (∀ i, 0 ≤ f i * f i ∧ f i * f i ≤ 16) → 0 ≤ sumTo (fun i => f i * f i) 4 ∧ sumTo (fun i => f i * f i) 4 ≤ 64 := fun f q => by
    have h0 := q 0
    have h1 := q 1
    have h2 := q 2
    have h3 := q 3
    show 0 ≤ 0 + f 0 * f 0 + f 1 * f 1 + f 2 * f 2 + f 3 * f 3 ∧ 0 + f 0 * f 0 + f 1 * f 1 + f 2 * f 2 + f 3 * f 3 ≤ 64
    omega
  have t1 := sb _ q1
  have t2 := sb _ q2
  have sm1 : small (sumTo (fun i => fn4 a i * fn4 a i) 4) = true := small_20 (by omega)
  have hdue : (sumTo (fun i => fn4 a i * fn4 a i) 4 * sumTo (fun i => fn4 b i * fn4 b i) 4).natAbs < 2 ^ 60 := by
    rw [Int.natAbs_mul]
    have := Nat.mul_le_mul (show (sumTo (fun i => fn4 a i * fn4 a i) 4).natAbs ≤ 64 by omega) (show (sumTo (fun i => fn4 b i * fn4 b i) 4).natAbs ≤ 64 by omega)
    omega
  generalize hD : sumTo (fun i => fn4 a i * fn4 a i) 4 * sumTo (fun i => fn4 b i * fn4 b i) 4 = D at hdue
  have g1 := sgE_run (d := 10) (w := n + 3) (a := a) (L := [some (.fro (vi ss)), some (.lst 0), some (.int ((n + 3 : Nat) : Int)), some (.int (prs m)), some (.fro (vi a)), some (.fro (vi b)), some (.int D), none, none, none, none, none]) (j := 4) (k := 10) (ys := ys) w1 w2 rfl rfl rfl ha hab
  have g2 := sgE_run (d := 10) (w := n + 3) (a := b) (L := [some (.fro (vi ss)), some (.lst 0), some (.int ((n + 3 : Nat) : Int)), some (.int (prs m)), some (.fro (vi a)), some (.fro (vi b)), some (.int D), none, none, none, none, none]) (j := 5) (k := 10) (ys := ys) w1 w2 rfl rfl rfl hb hbb
  have f1 := sp_four (d := 6) (w := n + 3) (a := fn4 a) (e := fn4 b) (H := [yardL 10 ys]) w1 w3 (fn4_20 hab) (fn4_20 hbb)
  have f2 := sp_squares (d := 7) (w := n + 3) (a := four (fn4 a) (fn4 b)) (H := [yardL 10 ys]) w1 w3 (four_20 l2 l3)
  rw [euler, hD] at f2
  have f3 := sp_law_signed (d := 10) (w := n + 3) (a := D) (H := [yardL 10 ys]) w1 w2 hdue
  have j1 : callM codes 12 21 [rowJ, rowJ, .int 12] [yardL 10 ys] = some (twJ, [yardL 10 ys]) := callM_eval (d := 11) rfl jac1
  have j2 : callM codes 12 21 [twJ, twJ, .int 12] [yardL 10 ys] = some (toJ, [yardL 10 ys]) := callM_eval (d := 11) rfl jac2
  have pi := primes_idx (H := [yardL 2 ys]) m hm
  have pd := @partD_run (some (.fro (vi ss))) (some (.lst 0)) (some (.int ((n + 3 : Nat) : Int))) (some (.int (prs m))) (some (.fro (vi a))) (some (.fro (vi b))) (some (.int D)) (some (row4 (n + 3) (four (fn4 a) (fn4 b)))) (some rowJ) (some twJ) none 10 ys
  have dr1' : callM codes 12 28 [.lst 0, .int 6] [yardL 0 ys] = some (.int n, [yardL 1 ys]) := dr1
  have dr2' : callM codes 12 28 [.lst 0, .int 7] [yardL 1 ys] = some (.int m, [yardL 2 ys]) := dr2
  refine ⟨[some (.fro (vi ss)), some (.lst 0), some (.int ((n + 3 : Nat) : Int)), some (.int (prs m)), some (.fro (vi a)), some (.fro (vi b)), some (.int D), some (row4 (n + 3) (four (fn4 a) (fn4 b))), some rowJ, some twJ, some toJ, some (.int 10)], 10, ys, ?_⟩
  have dr8' : frzE (compE (valI (callN rangeF (consL (cst (.int 2)) nilL))) trueB (frzE (compE (valI (callN rangeF (consL (cst (.int 4)) nilL))) trueB (bin (binV .Sub) (ucall (callM codes 12) (cst (.fn 28)) (consL (var 1) (consL (cst (.int 9)) nilL))) (cst (.int 4))))))
    [some (.fro (vi ss)), some (.lst 0), some (.int ((n + 3 : Nat) : Int)), some (.int (prs m)), none, none, none, none, none, none, none, none] [yardL 2 ys] = some (.fro [.fro (vi a), .fro (vi b)], [yardL 10 ys]) := dr8
  have g1' : frzE (compE (valI (var 4)) trueB (ucall (callM codes 12) (cst (.fn 30)) (consL (var 12) (consL (var 2) nilL)))) [some (.fro (vi ss)), some (.lst 0), some (.int ((n + 3 : Nat) : Int)), some (.int (prs m)), some (.fro (vi a)), some (.fro (vi b)), some (.int D), none, none, none, none, none] [yardL 10 ys] = some (row4 (n + 3) (fn4 a), [yardL 10 ys]) := g1
  have g2' : frzE (compE (valI (var 5)) trueB (ucall (callM codes 12) (cst (.fn 30)) (consL (var 12) (consL (var 2) nilL)))) [some (.fro (vi ss)), some (.lst 0), some (.int ((n + 3 : Nat) : Int)), some (.int (prs m)), some (.fro (vi a)), some (.fro (vi b)), some (.int D), none, none, none, none, none] [yardL 10 ys] = some (row4 (n + 3) (fn4 b), [yardL 10 ys]) := g2
  have f1' : callM codes 12 33 [row4 (n + 3) (fn4 a), row4 (n + 3) (fn4 b), .int ((n + 3 : Nat) : Int)] [yardL 10 ys] = some (row4 (n + 3) (four (fn4 a) (fn4 b)), [yardL 10 ys]) := f1
  have f2' : callM codes 12 32 [row4 (n + 3) (four (fn4 a) (fn4 b)), .int ((n + 3 : Nat) : Int)] [yardL 10 ys] = some (SG (n + 3) D, [yardL 10 ys]) := f2
  have f3' : callM codes 12 30 [.int D, .int ((n + 3 : Nat) : Int)] [yardL 10 ys] = some (SG (n + 3) D, [yardL 10 ys]) := f3
  clear dr1 dr2 dr8 g1 g2 f1 f2 f3 led
  generalize callM codes 12 = c at *
  have pe := fun L => @primesE_run L 1 ys
  have re := fun L => @rowE_run L 10 ys
  unfold primesE at pe
  unfold rowE at re
  unfold yardE at hy
  unfold sumE at s1 s2
  unfold partD divC at pd
  unfold cd_law
  rw [seqS_ap, asg_ap, hy]
  simp -implicitDefEqProofs only [Option.map_some, Option.bind_some, List.set_cons_succ, List.set_cons_zero]
  rw [seqS_ap, unpS_ap]
  simp -implicitDefEqProofs only [tupE_ap, consL_ap, nilL_ap, bin_ap, cst_ap, ucall_ap, var_ap, get_0, get_s, Option.map_some, Option.bind_some, dr1', bin_add, e3, pe, dr2', pi, List.length_cons, List.length_nil, Nat.zero_add, Nat.reduceAdd, lenOk_2, if_true, unpV_tup, setMany_cons, setMany_nil, List.set_cons_succ, List.set_cons_zero]
  rw [seqS_ap, unpS_ap]
  rw [dr8']
  simp -implicitDefEqProofs only [Option.map_some, Option.bind_some, List.length_cons, List.length_nil, Nat.zero_add, Nat.reduceAdd, four_idx, setMany_cons, setMany_nil, List.set_cons_succ, List.set_cons_zero]
  rw [seqS_ap, asg_ap, bin_ap, s1]
  simp -implicitDefEqProofs only [Option.bind_some, s2, bin_mul, sm1, if_true, hD, Option.map_some, List.set_cons_succ, List.set_cons_zero]
  rw [seqS_ap, asg_ap, ucall_ap]
  simp -implicitDefEqProofs only [cst_ap, Option.bind_some, consL_ap, nilL_ap]
  rw [g1']
  simp -implicitDefEqProofs only [Option.bind_some]
  rw [g2']
  simp -implicitDefEqProofs only [Option.bind_some, var_ap, get_0, get_s, Option.map_some, f1', List.set_cons_succ, List.set_cons_zero]
  rw [seqS_ap, ifS_ap]
  simp -implicitDefEqProofs only [orB_ap, notB_ap, tval_ap, bin_ap, ucall_ap, cst_ap, consL_ap, nilL_ap, var_ap, get_0, get_s, Option.bind_some, Option.map_some, f2', f3', cmp_neSG, truth_bool, hl, Bool.not_true, Bool.false_eq_true, if_false, reduceIte, nilS_ap]
  rw [seqS_ap, asg_ap, re]
  simp -implicitDefEqProofs only [Option.map_some, Option.bind_some, List.set_cons_succ, List.set_cons_zero]
  rw [seqS_ap, asg_ap]
  simp -implicitDefEqProofs only [ucall_ap, cst_ap, consL_ap, nilL_ap, var_ap, get_0, get_s, Option.bind_some, Option.map_some, j1, List.set_cons_succ, List.set_cons_zero]
  rw [seqS_ap, asg_ap]
  simp -implicitDefEqProofs only [ucall_ap, cst_ap, consL_ap, nilL_ap, var_ap, get_0, get_s, Option.bind_some, Option.map_some, j2, List.set_cons_succ, List.set_cons_zero]
  rw [seqS_ap, pd]
  simp -implicitDefEqProofs only [Option.bind_some, seqS_ap, retS_ap, cst_ap, Option.map_some]

theorem pure_vi : ∀ l : List Int, purevs (vi l) = true
  | [] => rfl
  | a :: l => by
    show (purev (.int a) && purevs (vi l)) = true
    rw [pure_vi l]; rfl
theorem sp_law {ss : List Int} (hs : ss.length ≤ 1000) (led : ∀ n m : Nat, n < 6 → m < 7 → ∀ H : Hp, callM codes 12 36 [.int (prs m), .int ((n + 3 : Nat) : Int)] H = some (.bool true, H)) :
    callM codes 13 37 [.fro (vi ss)] [] = some (.bool true, []) := by
  obtain ⟨L', k, ys, run⟩ := run_law hs led
  exact callM_pure (d := 12) (by show (purevs (vi ss) && true) = true; rw [pure_vi]; rfl) rfl rfl run rfl
noncomputable def nqT : List (Int × Int × Int) := [(0, 3, 0), (0, 5, 0), (0, 7, 0), (0, 9, 0), (1, 3, 0), (1, 5, 0), (1, 7, 0), (1, 9, 0), (2, 3, 1), (2, 7, 0), (6, 3, 2), (7, 3, 2), (8, 3, 3), (11, 5, 2), (12, 5, 2), (18, 7, 3), (23, 9, 3)]
noncomputable def tdT : List (Int × Int × Int) := [(-90, 9, -10), (-49, 7, -7), (-42, 7, -6), (-27, 9, -3), (-15, 3, -5), (-10, 5, -2), (-9, 3, -3), (-6, 3, -2), (-3, 3, -1), (0, 3, 0), (0, 5, 0), (0, 7, 0), (0, 9, 0), (3, 3, 1), (6, 3, 2), (9, 3, 3), (10, 5, 2), (21, 7, 3), (25, 5, 5), (27, 9, 3), (35, 5, 7)]
noncomputable def shT : List (Int × Int) := [(-10, -5), (-6, -3), (-4, -2), (0, 0), (2, 1), (4, 2), (12, 6), (14, 7), (16, 8), (22, 11), (24, 12)]
noncomputable def nqOk (w : Nat) : Bool := nqT.all fun t => isV (callM codes 10 20 [SG w t.1, SG w t.2.1, .int w, .fn 27] []) (SG w t.2.2)
noncomputable def tdOk (w : Nat) : Bool := tdT.all fun t => isV (callM codes 10 17 [SG w t.1, SG w t.2.1, .int w, .fn 27] []) (.tup [SG w t.2.2, SG w 0])
noncomputable def shOk (w : Nat) : Bool := shT.all fun t => isV (callM codes 10 16 [SG w t.1, .int w] []) (SG w t.2)
theorem nq3 : nqOk 3 = true := by decide +kernel
theorem nq4 : nqOk 4 = true := by decide +kernel
theorem nq5 : nqOk 5 = true := by decide +kernel
theorem nq6 : nqOk 6 = true := by decide +kernel
theorem nq7 : nqOk 7 = true := by decide +kernel
theorem nq8 : nqOk 8 = true := by decide +kernel
theorem td3 : tdOk 3 = true := by decide +kernel
theorem td4 : tdOk 4 = true := by decide +kernel
theorem td5 : tdOk 5 = true := by decide +kernel
theorem td6 : tdOk 6 = true := by decide +kernel
theorem td7 : tdOk 7 = true := by decide +kernel
theorem td8 : tdOk 8 = true := by decide +kernel
theorem sh3 : shOk 3 = true := by decide +kernel
theorem sh4 : shOk 4 = true := by decide +kernel
theorem sh5 : shOk 5 = true := by decide +kernel
theorem sh6 : shOk 6 = true := by decide +kernel
theorem sh7 : shOk 7 = true := by decide +kernel
theorem sh8 : shOk 8 = true := by decide +kernel
/-! a code says at least as much as another -/
noncomputable def Le' {α : Type} (f g : Loc → Hp → Option α) : Prop := ∀ L H r, f L H = some r → g L H = some r
noncomputable def LeC (c c' : CT) : Prop := ∀ k vs H r, c k vs H = some r → c' k vs H = some r
theorem Le'.refl {α : Type} (f : Loc → Hp → Option α) : Le' f f := fun _ _ _ h => h
theorem le_bind {α β : Type} {x y : Option α} {f g : α → Option β} {b : β} (h : ∀ a, x = some a → y = some a) (k : ∀ a b, f a = some b → g a = some b) (e : x.bind f = some b) : y.bind g = some b := by
  obtain ⟨a, ha, e⟩ := Option.bind_eq_some_iff.mp e
  rw [h a ha]; exact k a b e
theorem le_map {α β : Type} {x y : Option α} {f : α → β} {b : β} (h : ∀ a, x = some a → y = some a) (e : x.map f = some b) : y.map f = some b := by
  obtain ⟨a, ha, e⟩ := Option.map_eq_some_iff.mp e
  rw [h a ha, Option.map_some, e]
section
variable {c c' : CT} {a a' b b' e e' : PE} {s s' t t' : PS} {p p' q q' : PB} {r r' : PLs} {i i' : PI}
theorem le_seq (h1 : Le' s s') (h2 : Le' t t') : Le' (seqS s t) (seqS s' t') := fun L H x h => le_bind (h1 L H) (fun y z h => by
  split at h
  · exact h2 _ _ _ h
  · exact h) h
theorem le_if (h1 : Le' p p') (h2 : Le' s s') (h3 : Le' t t') : Le' (ifS p s t) (ifS p' s' t') := fun L H x h => le_bind (h1 L H) (fun y z h => by
  split at h
  · rename_i e; rw [if_pos e]; exact h2 _ _ _ h
  · rename_i e; rw [if_neg e]; exact h3 _ _ _ h) h
theorem le_asg {k : Nat} (h1 : Le' a a') : Le' (asg k a) (asg k a') := fun L H x h => le_map (h1 L H) h
theorem le_ret (h1 : Le' a a') : Le' (retS a) (retS a') := fun L H x h => le_map (h1 L H) h
theorem le_expr (h1 : Le' a a') : Le' (exprS a) (exprS a') := fun L H x h => le_bind (h1 L H) (fun _ _ h => h) h
theorem le_unp {ks : List Nat} (h1 : Le' a a') : Le' (unpS ks a) (unpS ks a') := fun L H x h => le_bind (h1 L H) (fun _ _ h => h) h
theorem le_swp {ks : List Nat} (h1 : Le' a a') : Le' (swpS ks a) (swpS ks a') := fun L H x h => le_bind (h1 L H) (fun _ _ h => h) h
theorem le_bin {f : V → V → Hp → Option (V × Hp)} (h1 : Le' a a') (h2 : Le' b b') : Le' (bin f a b) (bin f a' b') := fun L H x h => le_bind (h1 L H) (fun y z h => le_bind (h2 L y.2) (fun _ _ h => h) h) h
theorem le_tval (h1 : Le' a a') : Le' (tval a) (tval a') := fun L H x h => le_bind (h1 L H) (fun _ _ h => h) h
theorem le_notB (h1 : Le' p p') : Le' (notB p) (notB p') := fun L H x h => le_map (h1 L H) h
theorem le_andB (h1 : Le' p p') (h2 : Le' q q') : Le' (andB p q) (andB p' q') := fun L H x h => le_bind (h1 L H) (fun y z h => by
  split at h
  · rename_i e; rw [if_pos e]; exact h2 _ _ _ h
  · rename_i e; rw [if_neg e]; exact h) h
theorem le_orB (h1 : Le' p p') (h2 : Le' q q') : Le' (orB p q) (orB p' q') := fun L H x h => le_bind (h1 L H) (fun y z h => by
  split at h
  · rename_i e; rw [if_pos e]; exact h
  · rename_i e; rw [if_neg e]; exact h2 _ _ _ h) h
theorem le_ite (h1 : Le' p p') (h2 : Le' a a') (h3 : Le' b b') : Le' (iteE p a b) (iteE p' a' b') := fun L H x h => le_bind (h1 L H) (fun y z h => by
  split at h
  · rename_i e; rw [if_pos e]; exact h2 _ _ _ h
  · rename_i e; rw [if_neg e]; exact h3 _ _ _ h) h
theorem le_cons (h1 : Le' a a') (h2 : Le' r r') : Le' (consL a r) (consL a' r') := fun L H x h => le_bind (h1 L H) (fun y z h => le_map (h2 L y.2) h) h
theorem le_tup (h1 : Le' r r') : Le' (tupE r) (tupE r') := fun L H x h => le_bind (h1 L H) (fun _ _ h => h) h
theorem le_lst (h1 : Le' r r') : Le' (lstE r) (lstE r') := fun L H x h => le_bind (h1 L H) (fun _ _ h => h) h
theorem le_callN {f : List V → Hp → Option (V × Hp)} (h1 : Le' r r') : Le' (callN f r) (callN f r') := fun L H x h => le_bind (h1 L H) (fun _ _ h => h) h
theorem le_ucall (hc : LeC c c') (h0 : Le' e e') (h1 : Le' r r') : Le' (ucall c e r) (ucall c' e' r') := fun L H x h => le_bind (h0 L H) (fun y z h => by
  split at h
  · exact le_bind (h1 L y.2) (fun q w h => hc _ _ _ _ h) h
  · cases h) h
theorem le_app (h1 : Le' e e') (h2 : Le' a a') : Le' (appE e a) (appE e' a') := fun L H x h => le_bind (h1 L H) (fun y z h => le_bind (h2 L y.2) (fun _ _ h => h) h) h
theorem le_ext (h1 : Le' e e') (h2 : Le' a a') : Le' (extE e a) (extE e' a') := fun L H x h => le_bind (h1 L H) (fun y z h => le_bind (h2 L y.2) (fun _ _ h => h) h) h
theorem le_frz (h1 : Le' a a') : Le' (frzE a) (frzE a') := fun L H x h => le_bind (h1 L H) (fun _ _ h => h) h
theorem le_valI (h1 : Le' a a') : Le' (valI a) (valI a') := fun L H x h => le_bind (h1 L H) (fun _ _ h => h) h
theorem le_zipI (h1 : Le' a a') (h2 : Le' b b') : Le' (zipI a b) (zipI a' b') := fun L H x h => le_bind (h1 L H) (fun y z h => le_bind (h2 L y.2) (fun _ _ h => h) h) h
theorem le_forL {it : It} {tg : Tg} (h1 : Le' s s') : ∀ n i, Le' (forL it tg s n i) (forL it tg s' n i)
  | 0, _ => fun _ _ _ h => h
  | n + 1, i => fun L H x h => by
    unfold forL at h ⊢
    refine le_bind (fun _ h => h) (fun y z h => ?_) h
    split at h
    · exact h
    · refine le_bind (fun _ h => h) (fun L1 z h => ?_) h
      refine le_bind (h1 L1 H) (fun q z h => ?_) h
      split at h
      · exact le_forL h1 n (i + 1) _ _ _ h
      · exact h
theorem le_for {tg : Tg} (h0 : Le' i i') (h1 : Le' s s') : Le' (forS i tg s) (forS i' tg s') := fun L H x h => le_bind (h0 L H) (fun y z h => le_forL h1 1000 0 _ _ _ h) h
theorem le_whileL (h0 : Le' p p') (h1 : Le' s s') : ∀ n, Le' (whileL p s n) (whileL p' s' n)
  | 0 => fun _ _ _ h => h
  | n + 1 => fun L H x h => by
    unfold whileL at h ⊢
    refine le_bind (h0 L H) (fun y z h => ?_) h
    split at h
    · rename_i e
      rw [if_pos e]
      refine le_bind (h1 L y.2) (fun q z h => ?_) h
      split at h
      · exact le_whileL h0 h1 n _ _ _ h
      · exact h
    · rename_i e
      rw [if_neg e]; exact h
theorem le_while (h0 : Le' p p') (h1 : Le' s s') : Le' (whileS p s) (whileS p' s') := le_whileL h0 h1 1000
theorem le_compL {it : It} {k0 : Nat} (h0 : Le' p p') (h1 : Le' a a') : ∀ n i, ∀ L H r, compL it p a k0 n i L H = some r → compL it p' a' k0 n i L H = some r
  | 0, _ => fun _ _ _ h => h
  | n + 1, i => fun L H x h => by
    unfold compL at h ⊢
    refine le_bind (fun _ h => h) (fun y z h => ?_) h
    split at h
    · exact h
    · refine le_bind (h0 _ H) (fun y z h => ?_) h
      split at h
      · rename_i e
        rw [if_pos e]
        refine le_bind (h1 _ y.2) (fun q z h => ?_) h
        refine le_bind (fun _ h => h) (fun xs z h => ?_) h
        split at h
        · rename_i e2
          rw [if_pos e2]
          exact le_compL h0 h1 n (i + 1) _ _ _ h
        · cases h
      · rename_i e
        rw [if_neg e]
        exact le_compL h0 h1 n (i + 1) _ _ _ h
theorem le_comp (h : Le' i i') (h0 : Le' p p') (h1 : Le' a a') : Le' (compE i p a) (compE i' p' a') := fun L H x e => le_bind (h L H) (fun y z e => le_map (fun _ e => le_compL h0 h1 1000 0 _ _ _ e) e) e
end
theorem le_c36 {c c' : CT} (hc : LeC c c') : Le' (cd_l_led_down c) (cd_l_led_down c') := by
  unfold cd_l_led_down
  repeat' (first | (with_reducible exact Le'.refl _) | exact hc | refine le_seq ?_ ?_ | refine le_if ?_ ?_ ?_ | refine le_asg ?_ | refine le_ret ?_ | refine le_expr ?_ | refine le_unp ?_ | refine le_swp ?_ | refine le_for ?_ ?_ | refine le_while ?_ ?_ | refine le_ucall hc ?_ ?_ | refine le_bin ?_ ?_ | refine le_tval ?_ | refine le_notB ?_ | refine le_andB ?_ ?_ | refine le_orB ?_ ?_ | refine le_ite ?_ ?_ ?_ | refine le_cons ?_ ?_ | refine le_tup ?_ | refine le_lst ?_ | refine le_callN ?_ | refine le_app ?_ ?_ | refine le_ext ?_ ?_ | refine le_frz ?_ | refine le_valI ?_ | refine le_zipI ?_ ?_ | refine le_comp ?_ ?_ ?_)
theorem le_c35 {c c' : CT} (hc : LeC c c') : Le' (cd_l_step c) (cd_l_step c') := by
  unfold cd_l_step
  repeat' (first | (with_reducible exact Le'.refl _) | exact hc | refine le_seq ?_ ?_ | refine le_if ?_ ?_ ?_ | refine le_asg ?_ | refine le_ret ?_ | refine le_expr ?_ | refine le_unp ?_ | refine le_swp ?_ | refine le_for ?_ ?_ | refine le_while ?_ ?_ | refine le_ucall hc ?_ ?_ | refine le_bin ?_ ?_ | refine le_tval ?_ | refine le_notB ?_ | refine le_andB ?_ ?_ | refine le_orB ?_ ?_ | refine le_ite ?_ ?_ ?_ | refine le_cons ?_ ?_ | refine le_tup ?_ | refine le_lst ?_ | refine le_callN ?_ | refine le_app ?_ ?_ | refine le_ext ?_ ?_ | refine le_frz ?_ | refine le_valI ?_ | refine le_zipI ?_ ?_ | refine le_comp ?_ ?_ ?_)
theorem le_c34 {c c' : CT} (hc : LeC c c') : Le' (cd_l_halved c) (cd_l_halved c') := by
  unfold cd_l_halved
  repeat' (first | (with_reducible exact Le'.refl _) | exact hc | refine le_seq ?_ ?_ | refine le_if ?_ ?_ ?_ | refine le_asg ?_ | refine le_ret ?_ | refine le_expr ?_ | refine le_unp ?_ | refine le_swp ?_ | refine le_for ?_ ?_ | refine le_while ?_ ?_ | refine le_ucall hc ?_ ?_ | refine le_bin ?_ ?_ | refine le_tval ?_ | refine le_notB ?_ | refine le_andB ?_ ?_ | refine le_orB ?_ ?_ | refine le_ite ?_ ?_ ?_ | refine le_cons ?_ ?_ | refine le_tup ?_ | refine le_lst ?_ | refine le_callN ?_ | refine le_app ?_ ?_ | refine le_ext ?_ ?_ | refine le_frz ?_ | refine le_valI ?_ | refine le_zipI ?_ ?_ | refine le_comp ?_ ?_ ?_)
theorem le_c33 {c c' : CT} (hc : LeC c c') : Le' (cd_l_four c) (cd_l_four c') := by
  unfold cd_l_four
  repeat' (first | (with_reducible exact Le'.refl _) | exact hc | refine le_seq ?_ ?_ | refine le_if ?_ ?_ ?_ | refine le_asg ?_ | refine le_ret ?_ | refine le_expr ?_ | refine le_unp ?_ | refine le_swp ?_ | refine le_for ?_ ?_ | refine le_while ?_ ?_ | refine le_ucall hc ?_ ?_ | refine le_bin ?_ ?_ | refine le_tval ?_ | refine le_notB ?_ | refine le_andB ?_ ?_ | refine le_orB ?_ ?_ | refine le_ite ?_ ?_ ?_ | refine le_cons ?_ ?_ | refine le_tup ?_ | refine le_lst ?_ | refine le_callN ?_ | refine le_app ?_ ?_ | refine le_ext ?_ ?_ | refine le_frz ?_ | refine le_valI ?_ | refine le_zipI ?_ ?_ | refine le_comp ?_ ?_ ?_)
/-! numbers read off the limbs, and calls answered on numbers -/
noncomputable def limbV (w : Nat) : List V → Nat
  | .int i :: r => i.toNat + 2 ^ w * limbV w r
  | _ => 0
noncomputable def sgL (w : Nat) (b : Bool) (ls : List V) : Int := if b then -(limbV w ls : Int) else (limbV w ls : Int)
noncomputable def deco (w : Nat) (v : V) : Option Int := match v with
  | .tup [.bool b, .fro ls] => if veq (SG w (sgL w b ls)) v then some (sgL w b ls) else none
  | _ => none
theorem deco_ok {w : Nat} {v : V} {a : Int} (h : deco w v = some a) : v = SG w a := by
  unfold deco at h
  split at h
  · rename_i b ls
    split at h
    · rename_i e
      cases h
      exact (veq_ok e).symm
    · cases h
  · cases h
noncomputable def sm (a : Int) : Bool := decide (a.natAbs < 2 ^ 20)
theorem sm_lt {a : Int} (h : sm a = true) : a.natAbs < 2 ^ 20 := of_decide_eq_true h
noncomputable def two (w : Nat) (f : Int → Int → Option V) (vs : List V) (H : Hp) : Option (V × Hp) := match vs with
  | [x, y, .int w'] => if w' = (w : Int) then (deco w x).bind fun a => (deco w y).bind fun b => if sm a && sm b then (f a b).map fun v => (v, H) else none else none
  | _ => none
theorem two_ok {w : Nat} {f : Int → Int → Option V} {vs : List V} {H : Hp} {r : V × Hp} (h : two w f vs H = some r) : ∃ a b v, vs = [SG w a, SG w b, .int w] ∧ a.natAbs < 2 ^ 20 ∧ b.natAbs < 2 ^ 20 ∧ f a b = some v ∧ r = (v, H) := by
  unfold two at h
  split at h
  · split at h
    · rename_i e
      obtain ⟨a, ha, h⟩ := Option.bind_eq_some_iff.mp h
      obtain ⟨b, hb, h⟩ := Option.bind_eq_some_iff.mp h
      split at h
      · rename_i hs
        rw [Bool.and_eq_true] at hs
        obtain ⟨v, hv, h⟩ := Option.map_eq_some_iff.mp h
        subst e
        rw [deco_ok ha, deco_ok hb]
        exact ⟨a, b, v, rfl, sm_lt hs.1, sm_lt hs.2, hv, h.symm⟩
      · cases h
    · cases h
  · cases h
noncomputable def oAdd (w : Nat) : List V → Hp → Option (V × Hp) := two w fun a b => some (SG w (a + b))
noncomputable def oSub (w : Nat) : List V → Hp → Option (V × Hp) := two w fun a b => some (SG w (a - b))
noncomputable def oMul (w : Nat) : List V → Hp → Option (V × Hp) := two w fun a b => some (SG w (a * b))
noncomputable def oSig (w : Nat) (vs : List V) (H : Hp) : Option (V × Hp) := match vs with
  | [.int a, .int w'] => if w' = (w : Int) then if sm a then some (SG w a, H) else none else none
  | _ => none
noncomputable def oLim (w : Nat) (vs : List V) (H : Hp) : Option (V × Hp) := match vs with
  | [.int (.ofNat a), .int w'] => if w' = (w : Int) then if sm a then some (NL (2 ^ w) a, H) else none else none
  | _ => none
noncomputable def oHalf (w : Nat) (vs : List V) (H : Hp) : Option (V × Hp) := match vs with
  | [x, .int w'] => if w' = (w : Int) then (deco w x).bind fun a => (shT.find? fun t => t.1 == a).map fun t => (SG w t.2, H) else none
  | _ => none
noncomputable def tabF (l : List (Int × Int × Int)) (a b : Int) : Option Int := (l.find? fun t => t.1 == a && t.2.1 == b).map fun t => t.2.2
noncomputable def oNq (w : Nat) (vs : List V) (H : Hp) : Option (V × Hp) := match vs with
  | [x, y, .int w', .fn 27] => (two w (fun a b => (tabF nqT a b).map fun q => SG w q) [x, y, .int w'] H)
  | _ => none
noncomputable def oTd (w : Nat) (vs : List V) (H : Hp) : Option (V × Hp) := match vs with
  | [x, y, .int w', .fn 27] => (two w (fun a b => (tabF tdT a b).map fun q => .tup [SG w q, SG w 0]) [x, y, .int w'] H)
  | _ => none
noncomputable def oSq (w : Nat) (vs : List V) (H : Hp) : Option (V × Hp) := match vs with
  | [.fro [p, q, r, s], .int w'] => if w' = (w : Int) then (deco w p).bind fun a => (deco w q).bind fun b => (deco w r).bind fun c => (deco w s).bind fun d => if sm a && (sm b && (sm c && sm d)) then some (SG w (a * a + b * b + c * c + d * d), H) else none else none
  | _ => none
/-- a call's run over other calls -/
noncomputable def runC (c : CT) : CT := fun k vs H => if purevs vs then (runF (codes c k) vs []).map fun r => (r.1, H) else runF (codes c k) vs H
theorem callM_runC (d : Nat) : callM codes (d + 1) = runC (callM codes d) := rfl
noncomputable def orcB (w : Nat) : CT := fun k vs H => bif Nat.beq k 31 then oMul w vs H else bif Nat.beq k 13 then oAdd w vs H else bif Nat.beq k 14 then oSub w vs H else none
noncomputable def orcA (w : Nat) : CT := fun k vs H => bif Nat.beq k 33 then runC (orcB w) 33 vs H else bif Nat.beq k 20 then oNq w vs H else bif Nat.beq k 17 then oTd w vs H else bif Nat.beq k 16 then oHalf w vs H else bif Nat.beq k 29 then oLim w vs H else orcB w k vs H
noncomputable def orcC (w : Nat) : CT := fun k vs H => bif Nat.beq k 30 then oSig w vs H else bif Nat.beq k 32 then oSq w vs H else bif Nat.beq k 34 then runC (orcA w) 34 vs H else bif Nat.beq k 35 then runC (orcA w) 35 vs H else none

theorem runF_le {n m : Nat} {cd cd' : PS} (h : Le' cd cd') {vs : List V} {H : Hp} {r : V × Hp} (e : runF (n, m, cd) vs H = some r) : runF (n, m, cd') vs H = some r := by
  unfold runF at e ⊢
  split at e
  · rename_i hl
    rw [if_pos hl]
    exact le_bind (h _ _) (fun _ _ h => h) e
  · cases e
theorem runC_le {c c' : CT} {k n m : Nat} {cd : CT → PS} (hk : ∀ c, codes c k = (n, m, cd c)) (hcd : Le' (cd c) (cd c')) {vs : List V} {H : Hp} {r : V × Hp} (e : runC c k vs H = some r) : runC c' k vs H = some r := by
  unfold runC at e ⊢
  rw [hk] at e ⊢
  split at e
  · rename_i hp
    rw [if_pos hp]
    exact le_map (fun _ h => runF_le hcd h) e
  · rename_i hp
    rw [if_neg hp]
    exact runF_le hcd e
section
variable {w : Nat} {d : Nat} (hw : 1 ≤ w) (hw2 : w ≤ 20)
include hw hw2
theorem oAdd_ok {vs : List V} {H : Hp} {r : V × Hp} (h : oAdd w vs H = some r) : callM codes (d + 3) 13 vs H = some r := by
  obtain ⟨a, b, v, rfl, h1, h2, h3, rfl⟩ := two_ok h
  cases h3
  exact sp_s_add hw (by omega) (by omega) (by omega)
theorem oSub_ok {vs : List V} {H : Hp} {r : V × Hp} (h : oSub w vs H = some r) : callM codes (d + 4) 14 vs H = some r := by
  obtain ⟨a, b, v, rfl, h1, h2, h3, rfl⟩ := two_ok h
  cases h3
  exact sp_s_sub hw (by omega) (by omega) (by omega)
theorem oMul_ok {vs : List V} {H : Hp} {r : V × Hp} (h : oMul w vs H = some r) : callM codes (d + 4) 31 vs H = some r := by
  obtain ⟨a, b, v, rfl, h1, h2, h3, rfl⟩ := two_ok h
  cases h3
  exact sp_times hw (by omega) (by omega) (by omega) (by have := sq_bound h1 h2; omega)
theorem oSig_ok {vs : List V} {H : Hp} {r : V × Hp} (h : oSig w vs H = some r) : callM codes (d + 2) 30 vs H = some r := by
  unfold oSig at h
  split at h
  · split at h
    · rename_i e
      split at h
      · rename_i hs
        cases h
        subst e
        exact sp_law_signed hw hw2 (by have := sm_lt hs; omega)
      · cases h
    · cases h
  · cases h
theorem oLim_ok {vs : List V} {H : Hp} {r : V × Hp} (h : oLim w vs H = some r) : callM codes (d + 1) 29 vs H = some r := by
  unfold oLim at h
  split at h
  · split at h
    · rename_i e
      split at h
      · rename_i hs
        cases h
        subst e
        exact sp_limbs hw hw2 (by have := sm_lt hs; omega)
      · cases h
    · cases h
  · cases h
theorem oSq_ok {vs : List V} {H : Hp} {r : V × Hp} (h : oSq w vs H = some r) : callM codes (d + 5) 32 vs H = some r := by
  unfold oSq at h
  split at h
  · split at h
    · rename_i e
      obtain ⟨a, ha, h⟩ := Option.bind_eq_some_iff.mp h
      obtain ⟨b, hb, h⟩ := Option.bind_eq_some_iff.mp h
      obtain ⟨c, hc, h⟩ := Option.bind_eq_some_iff.mp h
      obtain ⟨d, hd, h⟩ := Option.bind_eq_some_iff.mp h
      split at h
      · rename_i hs
        simp only [Bool.and_eq_true] at hs
        cases h
        subst e
        rw [deco_ok ha, deco_ok hb, deco_ok hc, deco_ok hd]
        have q1 := sm_lt hs.1
        have q2 := sm_lt hs.2.1
        have q3 := sm_lt hs.2.2.1
        have q4 := sm_lt hs.2.2.2
        have key := sp_squares (d := by assumption) (w := w) (a := fun i => [a, b, c, d].getD i 0) (H := H) hw (by omega) (fun i => by
          match i with
          | 0 => exact q1
          | 1 => exact q2
          | 2 => exact q3
          | 3 => exact q4
          | i + 4 => show ((0 : Int)).natAbs < 2 ^ 20; decide)
        have e2 : sumTo (fun i => [a, b, c, d].getD i 0 * [a, b, c, d].getD i 0) 4 = a * a + b * b + c * c + d * d := by
          show 0 + a * a + b * b + c * c + d * d = _
          omega
        rw [e2] at key
        exact key
      · cases h
    · cases h
  · cases h
end
theorem nq_pure {w : Nat} {a b : Int} {w' : Int} : purevs [SG w a, SG w b, .int w', .fn 27] = true := by
  show (purev _ && (purev _ && (true && (true && true)))) = true
  rw [pure_SG, pure_SG]; rfl
theorem find_mem {α : Type} {p : α → Bool} {l : List α} {t : α} (h : l.find? p = some t) : t ∈ l ∧ p t = true := ⟨List.mem_of_find?_eq_some h, List.find?_some h⟩
theorem tabF_ok {l : List (Int × Int × Int)} {a b q : Int} (h : tabF l a b = some q) : (a, b, q) ∈ l := by
  unfold tabF at h
  obtain ⟨t, ht, e⟩ := Option.map_eq_some_iff.mp h
  obtain ⟨h1, h2⟩ := find_mem ht
  rw [Bool.and_eq_true, beq_iff_eq, beq_iff_eq] at h2
  obtain ⟨x, y, z⟩ := t
  obtain ⟨rfl, rfl⟩ := h2
  cases e
  exact h1
section
variable {w : Nat}
theorem oNq_ok (hT : nqOk w = true) {vs : List V} {H : Hp} {r : V × Hp} (h : oNq w vs H = some r) : callM codes 10 20 vs H = some r := by
  unfold oNq at h
  split at h
  · obtain ⟨a, b, v, e, h1, h2, h3, rfl⟩ := two_ok h
    cases e
    obtain ⟨q, hq, rfl⟩ := Option.map_eq_some_iff.mp h3
    exact callM_eval (d := 9) nq_pure (List.all_eq_true.mp hT _ (tabF_ok hq))
  · cases h
theorem oTd_ok (hT : tdOk w = true) {vs : List V} {H : Hp} {r : V × Hp} (h : oTd w vs H = some r) : callM codes 10 17 vs H = some r := by
  unfold oTd at h
  split at h
  · obtain ⟨a, b, v, e, h1, h2, h3, rfl⟩ := two_ok h
    cases e
    obtain ⟨q, hq, rfl⟩ := Option.map_eq_some_iff.mp h3
    exact callM_eval (d := 9) nq_pure (List.all_eq_true.mp hT _ (tabF_ok hq))
  · cases h
theorem oHalf_ok (hT : shOk w = true) {vs : List V} {H : Hp} {r : V × Hp} (h : oHalf w vs H = some r) : callM codes 10 16 vs H = some r := by
  unfold oHalf at h
  split at h
  · split at h
    · rename_i e
      obtain ⟨a, ha, h⟩ := Option.bind_eq_some_iff.mp h
      obtain ⟨t, ht, h⟩ := Option.map_eq_some_iff.mp h
      obtain ⟨h1, h2⟩ := find_mem ht
      rw [beq_iff_eq] at h2
      subst e
      rw [deco_ok ha, ← h2]
      cases h
      refine callM_eval (d := 9) ?_ (List.all_eq_true.mp hT _ h1)
      show (purev _ && (true && true)) = true
      rw [pure_SG]; rfl
    · cases h
  · cases h
theorem orcB_le (hw : 1 ≤ w) (hw2 : w ≤ 20) : LeC (orcB w) (callM codes 9) := fun k vs H r h => by
  unfold orcB at h
  cases e1 : Nat.beq k 31 with
  | true => rw [e1] at h; obtain rfl := Nat.eq_of_beq_eq_true e1; exact oMul_ok (d := 5) hw hw2 h
  | false =>
    rw [e1] at h
    cases e2 : Nat.beq k 13 with
    | true => rw [e2] at h; obtain rfl := Nat.eq_of_beq_eq_true e2; exact oAdd_ok (d := 6) hw hw2 h
    | false =>
      rw [e2] at h
      cases e3 : Nat.beq k 14 with
      | true => rw [e3] at h; obtain rfl := Nat.eq_of_beq_eq_true e3; exact oSub_ok (d := 5) hw hw2 h
      | false => rw [e3] at h; cases h
theorem orcA_le (hw : 1 ≤ w) (hw2 : w ≤ 20) (h1 : nqOk w = true) (h2 : tdOk w = true) (h3 : shOk w = true) : LeC (orcA w) (callM codes 10) := fun k vs H r h => by
  unfold orcA at h
  cases e1 : Nat.beq k 33 with
  | true => rw [e1] at h; obtain rfl := Nat.eq_of_beq_eq_true e1; exact runC_le (fun _ => rfl) (le_c33 (orcB_le hw hw2)) h
  | false =>
    rw [e1] at h
    cases e2 : Nat.beq k 20 with
    | true => rw [e2] at h; obtain rfl := Nat.eq_of_beq_eq_true e2; exact oNq_ok h1 h
    | false =>
      rw [e2] at h
      cases e3 : Nat.beq k 17 with
      | true => rw [e3] at h; obtain rfl := Nat.eq_of_beq_eq_true e3; exact oTd_ok h2 h
      | false =>
        rw [e3] at h
        cases e4 : Nat.beq k 16 with
        | true => rw [e4] at h; obtain rfl := Nat.eq_of_beq_eq_true e4; exact oHalf_ok h3 h
        | false =>
          rw [e4] at h
          cases e5 : Nat.beq k 29 with
          | true => rw [e5] at h; obtain rfl := Nat.eq_of_beq_eq_true e5; exact oLim_ok (d := 9) hw hw2 h
          | false =>
            rw [e5] at h
            have h : orcB w k vs H = some r := h
            unfold orcB at h
            cases e1 : Nat.beq k 31 with
            | true => rw [e1] at h; obtain rfl := Nat.eq_of_beq_eq_true e1; exact oMul_ok (d := 6) hw hw2 h
            | false =>
              rw [e1] at h
              cases e2 : Nat.beq k 13 with
              | true => rw [e2] at h; obtain rfl := Nat.eq_of_beq_eq_true e2; exact oAdd_ok (d := 7) hw hw2 h
              | false =>
                rw [e2] at h
                cases e3 : Nat.beq k 14 with
                | true => rw [e3] at h; obtain rfl := Nat.eq_of_beq_eq_true e3; exact oSub_ok (d := 6) hw hw2 h
                | false => rw [e3] at h; cases h
theorem orcC_le (hw : 1 ≤ w) (hw2 : w ≤ 20) (h1 : nqOk w = true) (h2 : tdOk w = true) (h3 : shOk w = true) : LeC (orcC w) (callM codes 11) := fun k vs H r h => by
  unfold orcC at h
  cases e1 : Nat.beq k 30 with
  | true => rw [e1] at h; obtain rfl := Nat.eq_of_beq_eq_true e1; exact oSig_ok (d := 9) hw hw2 h
  | false =>
    rw [e1] at h
    cases e2 : Nat.beq k 32 with
    | true => rw [e2] at h; obtain rfl := Nat.eq_of_beq_eq_true e2; exact oSq_ok (d := 6) hw hw2 h
    | false =>
      rw [e2] at h
      cases e3 : Nat.beq k 34 with
      | true => rw [e3] at h; obtain rfl := Nat.eq_of_beq_eq_true e3; exact runC_le (fun _ => rfl) (le_c34 (orcA_le hw hw2 h1 h2 h3)) h
      | false =>
        rw [e3] at h
        cases e4 : Nat.beq k 35 with
        | true => rw [e4] at h; obtain rfl := Nat.eq_of_beq_eq_true e4; exact runC_le (fun _ => rfl) (le_c35 (orcA_le hw hw2 h1 h2 h3)) h
        | false => rw [e4] at h; cases h
noncomputable def ledO (w : Nat) (p : Int) : Bool := isV (runC (orcC w) 36 [.int p, .int w] []) (.bool true)
theorem led_of (hw : 1 ≤ w) (hw2 : w ≤ 20) (h1 : nqOk w = true) (h2 : tdOk w = true) (h3 : shOk w = true) {p : Int} (h : ledO w p = true) (H : Hp) : callM codes 12 36 [.int p, .int w] H = some (.bool true, H) := by
  have e : callM codes 12 36 [.int p, .int w] [] = some (.bool true, []) := runC_le (fun _ => rfl) (le_c36 (orcC_le hw hw2 h1 h2 h3)) (isV_ok h)
  refine callM_eval (d := 11) rfl ?_
  rw [e]; rfl
end
theorem led_23_3 : ledO 3 23 = true := by decide +kernel
theorem led_29_3 : ledO 3 29 = true := by decide +kernel
theorem led_31_3 : ledO 3 31 = true := by decide +kernel
theorem led_43_3 : ledO 3 43 = true := by decide +kernel
theorem led_47_3 : ledO 3 47 = true := by decide +kernel
theorem led_53_3 : ledO 3 53 = true := by decide +kernel
theorem led_59_3 : ledO 3 59 = true := by decide +kernel
theorem led_23_4 : ledO 4 23 = true := by decide +kernel
theorem led_29_4 : ledO 4 29 = true := by decide +kernel
theorem led_31_4 : ledO 4 31 = true := by decide +kernel
theorem led_43_4 : ledO 4 43 = true := by decide +kernel
theorem led_47_4 : ledO 4 47 = true := by decide +kernel
theorem led_53_4 : ledO 4 53 = true := by decide +kernel
theorem led_59_4 : ledO 4 59 = true := by decide +kernel
theorem led_23_5 : ledO 5 23 = true := by decide +kernel
theorem led_29_5 : ledO 5 29 = true := by decide +kernel
theorem led_31_5 : ledO 5 31 = true := by decide +kernel
theorem led_43_5 : ledO 5 43 = true := by decide +kernel
theorem led_47_5 : ledO 5 47 = true := by decide +kernel
theorem led_53_5 : ledO 5 53 = true := by decide +kernel
theorem led_59_5 : ledO 5 59 = true := by decide +kernel
theorem led_23_6 : ledO 6 23 = true := by decide +kernel
theorem led_29_6 : ledO 6 29 = true := by decide +kernel
theorem led_31_6 : ledO 6 31 = true := by decide +kernel
theorem led_43_6 : ledO 6 43 = true := by decide +kernel
theorem led_47_6 : ledO 6 47 = true := by decide +kernel
theorem led_53_6 : ledO 6 53 = true := by decide +kernel
theorem led_59_6 : ledO 6 59 = true := by decide +kernel
theorem led_23_7 : ledO 7 23 = true := by decide +kernel
theorem led_29_7 : ledO 7 29 = true := by decide +kernel
theorem led_31_7 : ledO 7 31 = true := by decide +kernel
theorem led_43_7 : ledO 7 43 = true := by decide +kernel
theorem led_47_7 : ledO 7 47 = true := by decide +kernel
theorem led_53_7 : ledO 7 53 = true := by decide +kernel
theorem led_59_7 : ledO 7 59 = true := by decide +kernel
theorem led_23_8 : ledO 8 23 = true := by decide +kernel
theorem led_29_8 : ledO 8 29 = true := by decide +kernel
theorem led_31_8 : ledO 8 31 = true := by decide +kernel
theorem led_43_8 : ledO 8 43 = true := by decide +kernel
theorem led_47_8 : ledO 8 47 = true := by decide +kernel
theorem led_53_8 : ledO 8 53 = true := by decide +kernel
theorem led_59_8 : ledO 8 59 = true := by decide +kernel
theorem led_all : ∀ n m : Nat, n < 6 → m < 7 → ∀ H : Hp, callM codes 12 36 [.int (prs m), .int ((n + 3 : Nat) : Int)] H = some (.bool true, H) := by
  intro n m hn hm H
  match n, hn with
  | 0, _ =>
    refine led_of (w := 3) (by decide) (by decide) nq3 td3 sh3 ?_ H
    match m, hm with
    | 0, _ => exact led_23_3
    | 1, _ => exact led_29_3
    | 2, _ => exact led_31_3
    | 3, _ => exact led_43_3
    | 4, _ => exact led_47_3
    | 5, _ => exact led_53_3
    | 6, _ => exact led_59_3
  | 1, _ =>
    refine led_of (w := 4) (by decide) (by decide) nq4 td4 sh4 ?_ H
    match m, hm with
    | 0, _ => exact led_23_4
    | 1, _ => exact led_29_4
    | 2, _ => exact led_31_4
    | 3, _ => exact led_43_4
    | 4, _ => exact led_47_4
    | 5, _ => exact led_53_4
    | 6, _ => exact led_59_4
  | 2, _ =>
    refine led_of (w := 5) (by decide) (by decide) nq5 td5 sh5 ?_ H
    match m, hm with
    | 0, _ => exact led_23_5
    | 1, _ => exact led_29_5
    | 2, _ => exact led_31_5
    | 3, _ => exact led_43_5
    | 4, _ => exact led_47_5
    | 5, _ => exact led_53_5
    | 6, _ => exact led_59_5
  | 3, _ =>
    refine led_of (w := 6) (by decide) (by decide) nq6 td6 sh6 ?_ H
    match m, hm with
    | 0, _ => exact led_23_6
    | 1, _ => exact led_29_6
    | 2, _ => exact led_31_6
    | 3, _ => exact led_43_6
    | 4, _ => exact led_47_6
    | 5, _ => exact led_53_6
    | 6, _ => exact led_59_6
  | 4, _ =>
    refine led_of (w := 7) (by decide) (by decide) nq7 td7 sh7 ?_ H
    match m, hm with
    | 0, _ => exact led_23_7
    | 1, _ => exact led_29_7
    | 2, _ => exact led_31_7
    | 3, _ => exact led_43_7
    | 4, _ => exact led_47_7
    | 5, _ => exact led_53_7
    | 6, _ => exact led_59_7
  | 5, _ =>
    refine led_of (w := 8) (by decide) (by decide) nq8 td8 sh8 ?_ H
    match m, hm with
    | 0, _ => exact led_23_8
    | 1, _ => exact led_29_8
    | 2, _ => exact led_31_8
    | 3, _ => exact led_43_8
    | 4, _ => exact led_47_8
    | 5, _ => exact led_53_8
    | 6, _ => exact led_59_8
theorem law_all {ss : List Int} (hs : ss.length ≤ 1000) : callM codes 13 37 [.fro (vi ss)] [] = some (.bool true, []) := sp_law hs led_all
theorem codes_top (c : CT) (k : Nat) : codes c (k + 38) = (1, 1, cd_normal c) := rfl
theorem gnames_top (k : Nat) : gnames (k + 38) = ("normal" : Str) := rfl
noncomputable abbrev rcs : List Nat := [5, 6, 7, 8, 9, 10, 11, 12, 13, 14, 15, 17, 18, 19, 20, 21, 22, 23, 24, 25, 27, 29, 30, 31, 32, 33, 34, 35, 37, 38, 39, 40, 41, 42, 43, 44, 45, 46]
noncomputable def TabRow (g : G) (k : Nat) : Prop := ∃ rec ps lay n, rec ∈ recsOf g.prog ∧ rec.name = g.gname k ∧ FnOk rec ps lay ∧ lay.length = ps.length + n ∧ (∀ c, (codes c k).1 = ps.length ∧ (codes c k).2.1 = n) ∧
    ∀ d c, CallRef g d c → ∀ pm cd doc L a, RefS g d (slotsOf lay L) (execs rec.body (callEnvC (Calls.docDef rec.name rec.params rec.body rec.scope pm cd doc) L a)) (codes c k).2.2
section
variable {g : G} (hg : ∀ k, ∃ a, g.mg (g.gname k) = some a) (hn : ∀ k x, gnames k = x → g.gname k = x) (hr : ∀ i ∈ rcs, rc i ∈ recsOf g.prog)
include hg hn hr
theorem tab_0 : TabRow g 0 := ⟨rc 5, ps_normal, lay_normal, 1, hr 5 (by decide), (hn 0 _ rfl).symm, ok_normal, rfl, fun _ => ⟨rfl, rfl⟩, fun d c hc pm cd doc L a => ref_normal hg hn d c hc pm cd doc L a⟩
theorem tab_1 : TabRow g 1 := ⟨rc 6, ps_is_even, lay_is_even, 0, hr 6 (by decide), (hn 1 _ rfl).symm, ok_is_even, rfl, fun _ => ⟨rfl, rfl⟩, fun d c hc pm cd doc L a => ref_is_even hg hn d c hc pm cd doc L a⟩
theorem tab_2 : TabRow g 2 := ⟨rc 7, ps_compare, lay_compare, 1, hr 7 (by decide), (hn 2 _ rfl).symm, ok_compare, rfl, fun _ => ⟨rfl, rfl⟩, fun d c hc pm cd doc L a => ref_compare hg hn d c hc pm cd doc L a⟩
theorem tab_3 : TabRow g 3 := ⟨rc 8, ps_add, lay_add, 4, hr 8 (by decide), (hn 3 _ rfl).symm, ok_add, rfl, fun _ => ⟨rfl, rfl⟩, fun d c hc pm cd doc L a => ref_add hg hn d c hc pm cd doc L a⟩
theorem tab_4 : TabRow g 4 := ⟨rc 9, ps_sub, lay_sub, 5, hr 9 (by decide), (hn 4 _ rfl).symm, ok_sub, rfl, fun _ => ⟨rfl, rfl⟩, fun d c hc pm cd doc L a => ref_sub hg hn d c hc pm cd doc L a⟩
theorem tab_5 : TabRow g 5 := ⟨rc 10, ps_add_limb, lay_add_limb, 3, hr 10 (by decide), (hn 5 _ rfl).symm, ok_add_limb, rfl, fun _ => ⟨rfl, rfl⟩, fun d c hc pm cd doc L a => ref_add_limb hg hn d c hc pm cd doc L a⟩
theorem tab_6 : TabRow g 6 := ⟨rc 11, ps_divrem_limb, lay_divrem_limb, 3, hr 11 (by decide), (hn 6 _ rfl).symm, ok_divrem_limb, rfl, fun _ => ⟨rfl, rfl⟩, fun d c hc pm cd doc L a => ref_divrem_limb hg hn d c hc pm cd doc L a⟩
theorem tab_7 : TabRow g 7 := ⟨rc 12, ps_shift_left, lay_shift_left, 6, hr 12 (by decide), (hn 7 _ rfl).symm, ok_shift_left, rfl, fun _ => ⟨rfl, rfl⟩, fun d c hc pm cd doc L a => ref_shift_left hg hn d c hc pm cd doc L a⟩
theorem tab_8 : TabRow g 8 := ⟨rc 13, ps_shift_right, lay_shift_right, 6, hr 13 (by decide), (hn 8 _ rfl).symm, ok_shift_right, rfl, fun _ => ⟨rfl, rfl⟩, fun d c hc pm cd doc L a => ref_shift_right hg hn d c hc pm cd doc L a⟩
theorem tab_9 : TabRow g 9 := ⟨rc 14, ps_bits, lay_bits, 0, hr 14 (by decide), (hn 9 _ rfl).symm, ok_bits, rfl, fun _ => ⟨rfl, rfl⟩, fun d c hc pm cd doc L a => ref_bits hg hn d c hc pm cd doc L a⟩
theorem tab_10 : TabRow g 10 := ⟨rc 15, ps_low, lay_low, 2, hr 15 (by decide), (hn 10 _ rfl).symm, ok_low, rfl, fun _ => ⟨rfl, rfl⟩, fun d c hc pm cd doc L a => ref_low hg hn d c hc pm cd doc L a⟩
theorem tab_11 : TabRow g 11 := ⟨rc 17, ps_signed, lay_signed, 0, hr 17 (by decide), (hn 11 _ rfl).symm, ok_signed, rfl, fun _ => ⟨rfl, rfl⟩, fun d c hc pm cd doc L a => ref_signed hg hn d c hc pm cd doc L a⟩
theorem tab_12 : TabRow g 12 := ⟨rc 18, ps_s_neg, lay_s_neg, 0, hr 18 (by decide), (hn 12 _ rfl).symm, ok_s_neg, rfl, fun _ => ⟨rfl, rfl⟩, fun d c hc pm cd doc L a => ref_s_neg hg hn d c hc pm cd doc L a⟩
theorem tab_13 : TabRow g 13 := ⟨rc 19, ps_s_add, lay_s_add, 0, hr 19 (by decide), (hn 13 _ rfl).symm, ok_s_add, rfl, fun _ => ⟨rfl, rfl⟩, fun d c hc pm cd doc L a => ref_s_add hg hn d c hc pm cd doc L a⟩
theorem tab_14 : TabRow g 14 := ⟨rc 20, ps_s_sub, lay_s_sub, 0, hr 20 (by decide), (hn 14 _ rfl).symm, ok_s_sub, rfl, fun _ => ⟨rfl, rfl⟩, fun d c hc pm cd doc L a => ref_s_sub hg hn d c hc pm cd doc L a⟩
theorem tab_15 : TabRow g 15 := ⟨rc 21, ps_s_mul, lay_s_mul, 0, hr 21 (by decide), (hn 15 _ rfl).symm, ok_s_mul, rfl, fun _ => ⟨rfl, rfl⟩, fun d c hc pm cd doc L a => ref_s_mul hg hn d c hc pm cd doc L a⟩
theorem tab_16 : TabRow g 16 := ⟨rc 22, ps_s_half, lay_s_half, 0, hr 22 (by decide), (hn 16 _ rfl).symm, ok_s_half, rfl, fun _ => ⟨rfl, rfl⟩, fun d c hc pm cd doc L a => ref_s_half hg hn d c hc pm cd doc L a⟩
theorem tab_17 : TabRow g 17 := ⟨rc 23, ps_tdiv, lay_tdiv, 2, hr 23 (by decide), (hn 17 _ rfl).symm, ok_tdiv, rfl, fun _ => ⟨rfl, rfl⟩, fun d c hc pm cd doc L a => ref_tdiv hg hn d c hc pm cd doc L a⟩
theorem tab_18 : TabRow g 18 := ⟨rc 24, ps_fdiv, lay_fdiv, 2, hr 24 (by decide), (hn 18 _ rfl).symm, ok_fdiv, rfl, fun _ => ⟨rfl, rfl⟩, fun d c hc pm cd doc L a => ref_fdiv hg hn d c hc pm cd doc L a⟩
theorem tab_19 : TabRow g 19 := ⟨rc 25, ps_s_shift, lay_s_shift, 1, hr 25 (by decide), (hn 19 _ rfl).symm, ok_s_shift, rfl, fun _ => ⟨rfl, rfl⟩, fun d c hc pm cd doc L a => ref_s_shift hg hn d c hc pm cd doc L a⟩
theorem tab_20 : TabRow g 20 := ⟨rc 27, ps_nearest_quotient, lay_nearest_quotient, 0, hr 27 (by decide), (hn 20 _ rfl).symm, ok_nearest_quotient, rfl, fun _ => ⟨rfl, rfl⟩, fun d c hc pm cd doc L a => ref_nearest_quotient hg hn d c hc pm cd doc L a⟩
theorem tab_21 : TabRow g 21 := ⟨rc 29, ps_mul_school, lay_mul_school, 7, hr 29 (by decide), (hn 21 _ rfl).symm, ok_mul_school, rfl, fun _ => ⟨rfl, rfl⟩, fun d c hc pm cd doc L a => ref_mul_school hg hn d c hc pm cd doc L a⟩
theorem tab_22 : TabRow g 22 := ⟨rc 30, ps_divrem_small, lay_divrem_small, 2, hr 30 (by decide), (hn 22 _ rfl).symm, ok_divrem_small, rfl, fun _ => ⟨rfl, rfl⟩, fun d c hc pm cd doc L a => ref_divrem_small hg hn d c hc pm cd doc L a⟩
theorem tab_23 : TabRow g 23 := ⟨rc 31, ps_guessed_limb, lay_guessed_limb, 4, hr 31 (by decide), (hn 23 _ rfl).symm, ok_guessed_limb, rfl, fun _ => ⟨rfl, rfl⟩, fun d c hc pm cd doc L a => ref_guessed_limb hg hn d c hc pm cd doc L a⟩
theorem tab_24 : TabRow g 24 := ⟨rc 32, ps_take_away, lay_take_away, 5, hr 32 (by decide), (hn 24 _ rfl).symm, ok_take_away, rfl, fun _ => ⟨rfl, rfl⟩, fun d c hc pm cd doc L a => ref_take_away hg hn d c hc pm cd doc L a⟩
theorem tab_25 : TabRow g 25 := ⟨rc 33, ps_put_back, lay_put_back, 4, hr 33 (by decide), (hn 25 _ rfl).symm, ok_put_back, rfl, fun _ => ⟨rfl, rfl⟩, fun d c hc pm cd doc L a => ref_put_back hg hn d c hc pm cd doc L a⟩
theorem tab_26 : TabRow g 26 := ⟨rc 34, ps_divide_rows, lay_divide_rows, 4, hr 34 (by decide), (hn 26 _ rfl).symm, ok_divide_rows, rfl, fun _ => ⟨rfl, rfl⟩, fun d c hc pm cd doc L a => ref_divide_rows hg hn d c hc pm cd doc L a⟩
theorem tab_27 : TabRow g 27 := ⟨rc 35, ps_divrem_school, lay_divrem_school, 4, hr 35 (by decide), (hn 27 _ rfl).symm, ok_divrem_school, rfl, fun _ => ⟨rfl, rfl⟩, fun d c hc pm cd doc L a => ref_divrem_school hg hn d c hc pm cd doc L a⟩
theorem tab_28 : TabRow g 28 := ⟨rc 37, ps_l_squared_off, lay_l_squared_off, 0, hr 37 (by decide), (hn 28 _ rfl).symm, ok_l_squared_off, rfl, fun _ => ⟨rfl, rfl⟩, fun d c hc pm cd doc L a => ref_l_squared_off hg hn d c hc pm cd doc L a⟩
theorem tab_29 : TabRow g 29 := ⟨rc 38, ps_l_limbs, lay_l_limbs, 1, hr 38 (by decide), (hn 29 _ rfl).symm, ok_l_limbs, rfl, fun _ => ⟨rfl, rfl⟩, fun d c hc pm cd doc L a => ref_l_limbs hg hn d c hc pm cd doc L a⟩
theorem tab_30 : TabRow g 30 := ⟨rc 39, ps_l_signed, lay_l_signed, 0, hr 39 (by decide), (hn 30 _ rfl).symm, ok_l_signed, rfl, fun _ => ⟨rfl, rfl⟩, fun d c hc pm cd doc L a => ref_l_signed hg hn d c hc pm cd doc L a⟩
theorem tab_31 : TabRow g 31 := ⟨rc 40, ps_l_times, lay_l_times, 0, hr 40 (by decide), (hn 31 _ rfl).symm, ok_l_times, rfl, fun _ => ⟨rfl, rfl⟩, fun d c hc pm cd doc L a => ref_l_times hg hn d c hc pm cd doc L a⟩
theorem tab_32 : TabRow g 32 := ⟨rc 41, ps_l_squares, lay_l_squares, 2, hr 41 (by decide), (hn 32 _ rfl).symm, ok_l_squares, rfl, fun _ => ⟨rfl, rfl⟩, fun d c hc pm cd doc L a => ref_l_squares hg hn d c hc pm cd doc L a⟩
theorem tab_33 : TabRow g 33 := ⟨rc 42, ps_l_four, lay_l_four, 19, hr 42 (by decide), (hn 33 _ rfl).symm, ok_l_four, rfl, fun _ => ⟨rfl, rfl⟩, fun d c hc pm cd doc L a => ref_l_four hg hn d c hc pm cd doc L a⟩
theorem tab_34 : TabRow g 34 := ⟨rc 43, ps_l_halved, lay_l_halved, 4, hr 43 (by decide), (hn 34 _ rfl).symm, ok_l_halved, rfl, fun _ => ⟨rfl, rfl⟩, fun d c hc pm cd doc L a => ref_l_halved hg hn d c hc pm cd doc L a⟩
theorem tab_35 : TabRow g 35 := ⟨rc 44, ps_l_step, lay_l_step, 6, hr 44 (by decide), (hn 35 _ rfl).symm, ok_l_step, rfl, fun _ => ⟨rfl, rfl⟩, fun d c hc pm cd doc L a => ref_l_step hg hn d c hc pm cd doc L a⟩
theorem tab_36 : TabRow g 36 := ⟨rc 45, ps_l_led_down, lay_l_led_down, 8, hr 45 (by decide), (hn 36 _ rfl).symm, ok_l_led_down, rfl, fun _ => ⟨rfl, rfl⟩, fun d c hc pm cd doc L a => ref_l_led_down hg hn d c hc pm cd doc L a⟩
theorem tab_37 : TabRow g 37 := ⟨rc 46, ps_law, lay_law, 11, hr 46 (by decide), (hn 37 _ rfl).symm, ok_law, rfl, fun _ => ⟨rfl, rfl⟩, fun d c hc pm cd doc L a => ref_law hg hn d c hc pm cd doc L a⟩
theorem tab_top (k : Nat) : TabRow g (k + 38) := by
  obtain ⟨rec, ps, lay, n, h1, h2, h3, h4, h5, h6⟩ := tab_0 hg hn hr
  refine ⟨rec, ps, lay, n, h1, ?_, h3, h4, fun c => ?_, fun d c hc => ?_⟩
  · rw [h2, hn 0 ("normal" : Str) rfl, hn (k + 38) _ (gnames_top k)]
  · rw [codes_top]; exact h5 c
  · rw [codes_top]; exact h6 d c hc
theorem tab : Tab g codes := by
  refine ⟨fun k => ?_⟩
  match k with
  | 0 => exact tab_0 hg hn hr
  | 1 => exact tab_1 hg hn hr
  | 2 => exact tab_2 hg hn hr
  | 3 => exact tab_3 hg hn hr
  | 4 => exact tab_4 hg hn hr
  | 5 => exact tab_5 hg hn hr
  | 6 => exact tab_6 hg hn hr
  | 7 => exact tab_7 hg hn hr
  | 8 => exact tab_8 hg hn hr
  | 9 => exact tab_9 hg hn hr
  | 10 => exact tab_10 hg hn hr
  | 11 => exact tab_11 hg hn hr
  | 12 => exact tab_12 hg hn hr
  | 13 => exact tab_13 hg hn hr
  | 14 => exact tab_14 hg hn hr
  | 15 => exact tab_15 hg hn hr
  | 16 => exact tab_16 hg hn hr
  | 17 => exact tab_17 hg hn hr
  | 18 => exact tab_18 hg hn hr
  | 19 => exact tab_19 hg hn hr
  | 20 => exact tab_20 hg hn hr
  | 21 => exact tab_21 hg hn hr
  | 22 => exact tab_22 hg hn hr
  | 23 => exact tab_23 hg hn hr
  | 24 => exact tab_24 hg hn hr
  | 25 => exact tab_25 hg hn hr
  | 26 => exact tab_26 hg hn hr
  | 27 => exact tab_27 hg hn hr
  | 28 => exact tab_28 hg hn hr
  | 29 => exact tab_29 hg hn hr
  | 30 => exact tab_30 hg hn hr
  | 31 => exact tab_31 hg hn hr
  | 32 => exact tab_32 hg hn hr
  | 33 => exact tab_33 hg hn hr
  | 34 => exact tab_34 hg hn hr
  | 35 => exact tab_35 hg hn hr
  | 36 => exact tab_36 hg hn hr
  | 37 => exact tab_37 hg hn hr
  | k + 38 => exact tab_top hg hn hr k
end
theorem aok_13 : AOk 13 callerA := by
  refine ⟨rfl, ?_, ?_⟩ <;> decide +kernel
noncomputable abbrev bnames : List Str := ["len", "range", "min", "abs", "sum", "zip", "enumerate", "int"]
noncomputable def freeB (q : Program) (loose : List Str) : Bool := bnames.all fun x => !(startupNames.contains x || loose.contains x || ((recsOf q).map (·.name)).contains x || ((litsOf q).map (·.1)).contains x || ((clssOf q loose).map (·.name)).contains x)
theorem wellAll_vi {g : G} {P : Params} {h : Heap} {φ : Fi} : ∀ {is : List Int} {vs : List Value}, WellAll P h vs (ofPys (is.map PyData.int)) → VRs g h φ (vi is) vs
  | [], vs, H => by
    have H : WellAll P h vs [] := by simpa [ofPys] using H
    cases H
    exact VRs.nil
  | a :: is, vs, H => by
    have H : WellAll P h vs (.int a :: ofPys (is.map PyData.int)) := by simpa [ofPys, ofPy] using H
    cases H with
    | cons h1 h2 =>
      cases h1
      show VRs g h φ (.int a :: vi is) _
      rw [VRs]
      exact ⟨_, _, rfl, by rw [VR]; exact ⟨_, rfl⟩, wellAll_vi h2⟩
theorem fin {p q : Program} {loose : List Str} {mean : ExcName → Option Value} {w : World} {mg mb : Str → Option Value} {s : Shared} {P : Params} (T : Top q loose mean mg mb s.heap)
    (hp : recsOf p = rcs.map rc) (hq : recsOf q = rcs.map rc) (hf : freeB q loose = true) {fa l : Addr} {is : List Int} (hmg : mg ("law" : Str) = some (.ref fa)) (hw : Well P s.heap (.ref l) (ofPy (.list (is.map PyData.int)))) (hlen : is.length ≤ 63) :
    wpAny (model p w) callerA (call (.ref fa) [.ref l]) (fun v s' => v = .bool true ∧ (∀ b o, s.heap.get? b = some o → s'.heap.get? b = some o) ∧ s'.os = s.os ∧ s'.gens = s.gens) (fun _ _ => False) s := by
  have hpq : recsOf p = recsOf q := hp.trans hq.symm
  have hr : ∀ i ∈ rcs, rc i ∈ recsOf p := fun i hi => by rw [hp]; exact List.mem_map_of_mem hi
  let g : G := {
    prog := p, w := w, hb := s.heap, mg := mg, mb := mb, gname := gnames
    hg := T.g, hB := T.b, lim := T.nolimit
    fns := fun d hd => T.fn d (hpq ▸ hd)
    bnone := fun x hx => by
      have h1 := List.all_eq_true.mp hf x hx
      simp only [Bool.not_eq_true', Bool.or_eq_false_iff] at h1
      obtain ⟨⟨⟨⟨h2, h3⟩, h4⟩, h5⟩, h6⟩ := h1
      refine ⟨T.free x (fun z => ?_) (fun z => ?_) (fun z => ?_) (fun z => ?_) (fun z => ?_), T.builtins x (fun e => ?_)⟩
      · rw [List.contains_iff_mem.mpr z] at h2; cases h2
      · rw [List.contains_iff_mem.mpr z] at h3; cases h3
      · rw [List.contains_iff_mem.mpr z] at h4; cases h4
      · rw [List.contains_iff_mem.mpr z] at h5; cases h5
      · rw [List.contains_iff_mem.mpr z] at h6; cases h6
      · subst e
        revert hx
        decide }
  have hn : ∀ k x, gnames k = x → g.gname k = x := fun k x h => h
  have hg : ∀ k, ∃ a, g.mg (g.gname k) = some a := fun k => by
    have : ∃ i ∈ rcs, (rc i).name = gnames k := by
      by_cases hk : k < 38
      · have key : ∀ k : Fin 38, ∃ i ∈ rcs, (rc i).name = gnames k := by decide +kernel
        exact key ⟨k, hk⟩
      · refine ⟨5, by decide, ?_⟩
        obtain ⟨j, rfl⟩ : ∃ j, k = j + 38 := ⟨k - 38, by omega⟩
        rw [gnames_top]; rfl
    obtain ⟨i, hi, e⟩ := this
    obtain ⟨a, o, pm, cd, doc, h1, _⟩ := g.fns (rc i) (hr i hi)
    exact ⟨.ref a, by show mg (gnames k) = _; rw [← e]; exact h1⟩
  have TT : Tab g codes := tab hg hn hr
  have hc := callM_ok TT 13 37 (.ref fa) hmg
  have hw' : Well P s.heap (.ref l) (.list (ofPys (is.map PyData.int))) := hw
  cases hw' with
  | list hl hi =>
    rename_i vs
    let φ : Fi := ⟨[], fun _ => False, fun b => b = l⟩
    have R : RelH g φ [] s.heap := ⟨fun b o e => e, rfl, List.nodup_nil, fun _ h => (nomatch h), fun _ h => h.elim, fun b hb => ⟨fun h => (nomatch h), by cases hb; exact ⟨_, _, hl⟩⟩, fun k a vs h => by simp [φ] at h⟩
    have V : VRs g s.heap φ [.fro (vi is)] [.ref l] := VRs.one (by rw [VR]; exact ⟨l, _, rfl, ⟨_, hl⟩, rfl, by simpa using wellAll_vi hi⟩)
    refine wpAny_mono (hc.2 callerA φ [] s [.fro (vi is)] [.ref l] (.bool true) [] aok_13 (law_all (by omega)) R V) (fun z s' h => ?_) fun _ _ h => h
    obtain ⟨φ', S, RH, hv⟩ := h
    rw [VR] at hv
    obtain ⟨h, tk, rfl⟩ := S.same
    exact ⟨hv, fun b o e => S.kept b o e (fun h => (nomatch h)) (fun _ h => nomatch h), rfl, rfl⟩
noncomputable abbrev pw : Program := PySem.Challenge.pw_xm0426_01
noncomputable def keep : List Nat := [1, 2, 3, 4, 5, 6, 7, 8, 9, 10, 11, 12, 13, 14, 15, 17, 18, 19, 20, 21, 22, 23, 24, 25, 27, 29, 30, 31, 32, 33, 34, 35, 37, 38, 39, 40, 41, 42, 43, 44, 45, 46]
noncomputable def qv : Program := view pw keep

noncomputable def runG (ok : Thread → Bool) (st : SharedT → Thread → Option (SharedT × Thread)) : Nat → SharedT → Thread → Option SharedT
  | 0, _, _ => none
  | n + 1, s, t => match through t with
    | true => some s
    | false => match ok t with
      | false => none
      | true => match st s t with
        | some (s', t') => runG ok st n s' t'
        | none => none
theorem runG_of {tb : String → Option Builtin} {p : Program} {w : World} {n₀ : Nat} {ann : Option Value} : ∀ {n : Nat} {s s' : SharedT} {t : Thread}, runG (stepOk n₀ ann) (stepT (denote tb) p w) n s t = some s' → topRun tb p w n₀ ann n s.abs t = some s'.abs
  | 0, _, _, _, h => by cases h
  | n + 1, s, s', t, h => by
    unfold runG at h
    unfold topRun
    cases ht : through t with
    | true => rw [ht] at h; cases h; rfl
    | false =>
      rw [ht] at h
      cases hk : stepOk n₀ ann t with
      | false => rw [hk] at h; cases h
      | true =>
        rw [hk] at h
        cases hs : stepT (denote tb) p w s t with
        | none => rw [hs] at h; cases h
        | some r =>
          obtain ⟨s₂, t₂⟩ := r
          rw [hs] at h
          have e := stepT_spec hs
          simp only [e]
          exact runG_of h
noncomputable def btOf (l : List Obj) : Nat → Nat → Nat → BT
  | 0, _, _ => .nil
  | f + 1, a, b => match l[b]? with
    | some o => .node o (btOf l f (2 * a) (a + b)) (btOf l f (2 * a) (2 * a + b))
    | none => .nil
noncomputable def S0 (w : World) (os : OsState) : SharedT := ⟨btOf (boot_heap w.params).objs.toList 5 1 0, 11, (boot_heap w.params).life, Array.mk [], boot_drawn, boot_toks, os⟩
theorem S0_abs (w : World) (os : OsState) : (S0 w os).abs = ⟨boot_heap w.params, Array.mk [], boot_drawn, boot_toks, os⟩ := by kernel_rfl
set_option maxHeartbeats 0
theorem op : ∀ w : World, (fencedOpening treeTable pw w 4388).map (fun s => (s.heap, s.gens, s.drawn, s.toks)) = some (boot_heap w.params, Array.mk [], boot_drawn, boot_toks) := 
  boot_open (by kernel_rfl) (by kernel_rfl) (fun s => by kernel_rfl)
noncomputable abbrev ann0 (w : World) : Option Value := (boot_heap w.params).nsMap mainGlobals "__annotations__"

noncomputable abbrev stQ (w : World) := PySem.W.Fast.tw10156331382660048174 (PySem.W.Fast.tw11892475500146522536 PySem.W.Fast.tw14364793385576792824) pw w
noncomputable abbrev okQ (w : World) := PySem.W.Fast.tw6613529449190102663 11 (ann0 w)
theorem stQ_eq (w : World) : stepT (denote treeTable) pw w = stQ w := by
  rw [PySem.W.Fast.te10156331382660048174, PySem.W.Fast.te11892475500146522536, PySem.W.Fast.te14364793385576792824]
theorem okQ_eq (w : World) : stepOk 11 (ann0 w) = okQ w := by
  rw [PySem.W.Fast.te6613529449190102663]
/-- the head from one look at the run, for any program -/
theorem left_of {p q : Program} {loose : List Str} {Xt : Shared → Bool} {α : Type} {Yf : Shared → α} {Ya : World → α} {N m : Nat} {S0 : World → OsState → SharedT} {ok : World → Thread → Bool} {st : World → SharedT → Thread → Option (SharedT × Thread)}
    (op : ∀ w : World, (fencedOpening treeTable p w N).map (fun s => (s.heap, s.gens, s.drawn, s.toks)) = some (boot_heap w.params, Array.mk [], boot_drawn, boot_toks))
    (h0 : ∀ w os, (S0 w os).abs = ⟨boot_heap w.params, Array.mk [], boot_drawn, boot_toks, os⟩)
    (hok : ∀ w, stepOk m ((boot_heap w.params).nsMap mainGlobals "__annotations__") = ok w) (hst : ∀ w, stepT (denote treeTable) p w = st w)
    (size : ∀ w : World, ((boot_heap w.params).isNs mainGlobals && (Array.mk [] : Array GenState).size == 0, (boot_heap w.params).objs.size) = (true, m))
    (look : ∀ w os, (runG (ok w) (st w) N (S0 w os) (topStub p)).map (fun S => ((staticsOk (importedModules p.main.body) (boot_heap w.params) S.abs.heap && namesBound p S.abs.heap && gensDone S.abs && laidKept (boot_heap w.params) S.abs.heap), openSeen q loose (importedModules p.main.body) Xt true S.abs)) = some (true, openGood q loose))
    (hY : ∀ w s, Yf s = Ya w) : LeftO p q loose Xt Yf Ya N := fun w => by
  obtain ⟨⟨h, gs, d, k, os⟩, e, e'⟩ := Option.map_eq_some_iff.mp (op w)
  obtain ⟨rfl, rfl, rfl, rfl⟩ : h = boot_heap w.params ∧ gs = Array.mk [] ∧ d = boot_drawn ∧ k = boot_toks := by simpa using e'
  obtain ⟨S, hS, hl⟩ := Option.map_eq_some_iff.mp (look w os)
  rw [← hok, ← hst] at hS
  have r := runG_of hS
  rw [h0] at r
  obtain ⟨l1, l2⟩ := Prod.mk.inj hl
  obtain ⟨z1, z2⟩ := Prod.mk.inj (size w)
  have t : topFrom treeTable p w N ⟨boot_heap w.params, Array.mk [], boot_drawn, boot_toks, os⟩ = some S.abs := by
    unfold topFrom
    dsimp only
    rw [z1, z2]
    dsimp only
    rw [r]
    show (match (staticsOk (importedModules p.main.body) (boot_heap w.params) S.abs.heap && namesBound p S.abs.heap && gensDone S.abs && laidKept (boot_heap w.params) S.abs.heap) with | true => some S.abs | false => none) = _
    rw [l1]
  unfold openEnds
  rw [e]
  show (topFrom treeTable p w N _).map _ = _
  rw [t]
  exact congrArg some (Prod.ext l2 (hY w _))
noncomputable abbrev Xv (s : Shared) : Bool := xlAt qv [] s && recOk PySem.Challenge.rw_xm0426_01.row.toRowW.records s
theorem look (w : World) (os : OsState) : (runG (okQ w) (stQ w) 4388 (S0 w os) (topStub pw)).map (fun S => ((staticsOk (importedModules pw.main.body) (boot_heap w.params) S.abs.heap && namesBound pw S.abs.heap && gensDone S.abs && laidKept (boot_heap w.params) S.abs.heap), openSeen qv [] (importedModules pw.main.body) Xv true S.abs)) = some (true, openGood qv []) := by
  rw [PySem.W.Fast.te4187177175401517315]
  kernel_rfl
theorem size0 (w : World) : (((boot_heap w.params).isNs mainGlobals && (Array.mk [] : Array GenState).size == 0), (boot_heap w.params).objs.size) = (true, 11) := by kernel_rfl
theorem left : LeftO pw qv [] Xv (Hook.obs Hook.none) (Hook.val Hook.none) 4388 := left_of op S0_abs okQ_eq stQ_eq size0 look (fun _ _ => rfl)
theorem said : PySem.Challenge.rw_xm0426_01.wellSaid = true := by
  rw [PySem.W.Fast.te9446332074065402090]
  kernel_rfl
noncomputable abbrev rw0 : OpenRow := PySem.Challenge.rw_xm0426_01.row
theorem def_law : defOf qv rw0.name = some (rc 46, []) := by kernel_rfl
theorem pr_law : rw0.prog.theDef rw0.name = some ((rc 46).params, (rc 46).body, (rc 46).scope) := by kernel_rfl
theorem kw_law : kwWritten? (rc 46).params.kwonlyargs (rc 46).params.kw_defaults = some [] := by kernel_rfl
theorem ok_row : (chainsOk qv && opensWell rw0.prog && (frees rw0.toRowW && rw0.within.isEmpty)) = true := by kernel_rfl
theorem bare_row : rw0.prog.bare := ⟨rfl, rfl, rfl, rfl, rfl, by decide +kernel⟩
theorem recs_p : recsOf rw0.prog = rcs.map rc := by kernel_rfl
theorem recs_q : recsOf qv = rcs.map rc := by kernel_rfl
theorem free_q : freeB qv (looseW qv []) = true := by kernel_rfl
end Mine

set_option maxRecDepth 100000 in
set_option maxHeartbeats 8000000 in
theorem PySem.Challenge.cw_xm0426_01_holds : PySem.Challenge.rw_xm0426_01.Holds := by
  refine holds_law Mine.said fun wsaid => ?_
  refine holds_open (q := Mine.qv) (loose := []) (Xt := Mine.Xv) (XP := XL Mine.qv []) (Yf := Hook.obs Hook.none) (Ya := Hook.val Hook.none) (YP := Hook.says Hook.none) (d := Mine.rc 46) (kwd := []) (N := 4388) Mine.left (Hook.of Hook.none) (Hook.keeps Hook.none) (fun s e => xl_of s (Bool.and_eq_true_iff.mp e).1) XL.keeps Mine.def_law Mine.pr_law Mine.kw_law (fun s e => recFacts_of (Bool.and_eq_true_iff.mp e).2) rfl wsaid Mine.ok_row Mine.bare_row ?hw ?hc
  case hw => w_witness2
  case hc =>
    intro w s₀ s₁ mg mb G Y fa o pm cd doc dV kV ho hd hcd hD hmg hg args vals as hpre hlay hrd hwl hlo
    refine Ground.open G ?_
    intro T B D TE TW
    clear hcd hD ho hd B D TE TW Y G
    wrow_args hpre hlay hrd hwl hlo
    rename Well _ _ _ _ => hw
    rename ¬ _ => hlen
    refine wpAny_mono (Mine.fin T Mine.recs_p Mine.recs_q Mine.free_q hmg hw (by omega)) (fun v s' h => ?_) fun _ _ h => h.elim
    obtain ⟨rfl, hk, hos, hgens⟩ := h
    refine GoodW.toG ⟨.inl ⟨.bool true, .bool true, [], rfl, raisesW_false allW_false_nil, .bool true, ?_, fun _ => ⟨List.nodup_nil, fun _ h => (nomatch h)⟩⟩, hk, hos, hgens.trans hg⟩
    exact postW_of (by wrow_shape) (by wtm_val) (by w_fin)
#print axioms PySem.Challenge.cw_xm0426_01_holds

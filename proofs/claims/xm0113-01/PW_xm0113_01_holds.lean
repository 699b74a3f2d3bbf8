import PyProof.Rows.All
import Wide.All
import OpenK.AllK
import Wide.FinOn
import PySem.Challenge.RW_xm0113_01
set_option Elab.async false
section
open PySem PySem.Calls PyProof.Rows
namespace Mine

/-- plain data -/
inductive D where
  | int (i : Int)
  | bool (b : Bool)
  | none
  | list (xs : List D)
  | tup (xs : List D)
  | own (a : Addr)

mutual
inductive Rep (h : Heap) (X : List Addr) : Value → D → Prop
  | int (i : Int) (t : Tok) : Rep h X (.int i t) (.int i)
  | bool (b : Bool) : Rep h X (.bool b) (.bool b)
  | none : Rep h X .none .none
  | own (a : Addr) : Rep h X (.ref a) (.own a)
  | list (a : Addr) (vs : List Value) (ds : List D) (n : Nat) : a ∉ X → h.get? a = some { cls := .type "list", data := .seq vs.toArray n } → Reps h X vs ds → Rep h X (.ref a) (.list ds)
  | tup (a : Addr) (vs : List Value) (ds : List D) (n : Nat) : a ∉ X → h.get? a = some { cls := .type "tuple", data := .seq vs.toArray n } → Reps h X vs ds → Rep h X (.ref a) (.tup ds)
inductive Reps (h : Heap) (X : List Addr) : List Value → List D → Prop
  | nil : Reps h X [] []
  | cons {v : Value} {d : D} {vs : List Value} {ds : List D} : Rep h X v d → Reps h X vs ds → Reps h X (v :: vs) (d :: ds)
end

mutual
theorem Rep.mono {h h' : Heap} {X X' : List Addr} (hk : ∀ a o, a ∉ X → h.get? a = some o → (o.cls = .type "list" ∨ o.cls = .type "tuple") → h'.get? a = some o ∧ a ∉ X') : ∀ {v : Value} {d : D}, Rep h X v d → Rep h' X' v d
  | _, _, .int i t => .int i t
  | _, _, .bool b => .bool b
  | _, _, .none => .none
  | _, _, .own a => .own a
  | _, _, .list a vs ds n hx hg hr => let ⟨h1, h2⟩ := hk a _ hx hg (.inl rfl); .list a vs ds n h2 h1 (Reps.mono hk hr)
  | _, _, .tup a vs ds n hx hg hr => let ⟨h1, h2⟩ := hk a _ hx hg (.inr rfl); .tup a vs ds n h2 h1 (Reps.mono hk hr)
theorem Reps.mono {h h' : Heap} {X X' : List Addr} (hk : ∀ a o, a ∉ X → h.get? a = some o → (o.cls = .type "list" ∨ o.cls = .type "tuple") → h'.get? a = some o ∧ a ∉ X') : ∀ {vs : List Value} {ds : List D}, Reps h X vs ds → Reps h' X' vs ds
  | _, _, .nil => .nil
  | _, _, .cons h1 h2 => .cons (Rep.mono hk h1) (Reps.mono hk h2)
end

/-- every address of X bears an object -/
noncomputable def Old (X : List Addr) (h : Heap) : Prop := ∀ a ∈ X, ∃ o, h.get? a = some o

noncomputable abbrev Ext (h h' : Heap) : Prop := ∀ b o, h.get? b = some o → h'.get? b = some o
/-- all objects stay; all but those of W as they were -/
noncomputable def Kept (W : List Addr) (h h' : Heap) : Prop := (∀ b o, h.get? b = some o → ∃ o', h'.get? b = some o') ∧ ∀ b o, b ∉ W → h.get? b = some o → h'.get? b = some o

theorem Kept.refl (W : List Addr) (h : Heap) : Kept W h h := ⟨fun _ o e => ⟨o, e⟩, fun _ _ _ e => e⟩
theorem Kept.trans {W : List Addr} {h h' h'' : Heap} (x : Kept W h h') (y : Kept W h' h'') : Kept W h h'' :=
  ⟨fun b o e => let ⟨_, e'⟩ := x.1 b o e; y.1 _ _ e', fun b o hb e => y.2 b o hb (x.2 b o hb e)⟩
theorem Kept.weak {W W' : List Addr} {h h' : Heap} (x : Kept W h h') (hs : ∀ a ∈ W, a ∈ W') : Kept W' h h' := ⟨x.1, fun b o hb e => x.2 b o (fun q => hb (hs b q)) e⟩
theorem Kept.ofExt (W : List Addr) {h h' : Heap} (e : Ext h h') : Kept W h h' := ⟨fun b o q => ⟨o, e b o q⟩, fun b o _ q => e b o q⟩
theorem Kept.ext {h h' : Heap} (x : Kept [] h h') : Ext h h' := fun b o e => x.2 b o (by simp) e
theorem Old.kept {W X : List Addr} {h h' : Heap} (x : Old X h) (k : Kept W h h') : Old X h' := fun a ha => let ⟨o, e⟩ := x a ha; k.1 a o e
theorem Old.ext {X : List Addr} {h h' : Heap} (x : Old X h) (k : Ext h h') : Old X h' := fun a ha => let ⟨o, e⟩ := x a ha; ⟨o, k a o e⟩
theorem Old.new {X : List Addr} {h : Heap} (x : Old X h) {a : Addr} (hn : h.get? a = none) : a ∉ X := fun q => by
  obtain ⟨o, e⟩ := x a q; rw [hn] at e; cases e
theorem get_size (h : Heap) : h.get? h.objs.size = none := Heap.get?_none_of_le (Nat.le_refl _)
theorem Ext.push (h : Heap) (o : Obj) : Ext h (h.push o) := fun _ _ e => Heap.get?_push_of_some _ e
theorem Ext.trans {h h' h'' : Heap} (x : Ext h h') (y : Ext h' h'') : Ext h h'' := fun b o e => y b o (x b o e)
theorem Kept.sameBut {a : Addr} {h h' : Heap} (hs : Heap.SameBut a h h') (ha : ∃ o, h'.get? a = some o) : Kept [a] h h' :=
  ⟨fun b o e => by
    by_cases q : b = a
    · rw [q]; exact ha
    · exact ⟨o, (hs.2 b q).trans e⟩, fun b o hb e => (hs.2 b (by simpa using hb)).trans e⟩

theorem Rep.ext {X : List Addr} {h h' : Heap} (k : Ext h h') {v : Value} {d : D} (r : Rep h X v d) : Rep h' X v d :=
  r.mono fun a o hx hg _ => ⟨k a o hg, hx⟩
theorem Reps.ext {X : List Addr} {h h' : Heap} (k : Ext h h') {v : List Value} {d : List D} (r : Reps h X v d) : Reps h' X v d :=
  r.mono fun a o hx hg _ => ⟨k a o hg, hx⟩
theorem Rep.kept {W X : List Addr} {h h' : Heap} (k : Kept W h h') (hw : ∀ a ∈ W, a ∈ X) {v : Value} {d : D} (r : Rep h X v d) : Rep h' X v d :=
  r.mono fun a o hx hg _ => ⟨k.2 a o (fun q => hx (hw a q)) hg, hx⟩
theorem Reps.kept {W X : List Addr} {h h' : Heap} (k : Kept W h h') (hw : ∀ a ∈ W, a ∈ X) {v : List Value} {d : List D} (r : Reps h X v d) : Reps h' X v d :=
  r.mono fun a o hx hg _ => ⟨k.2 a o (fun q => hx (hw a q)) hg, hx⟩
theorem Rep.weak {X X' : List Addr} {h : Heap} (hs : ∀ a ∈ X', a ∈ X) {v : Value} {d : D} (r : Rep h X v d) : Rep h X' v d :=
  r.mono fun _ _ hx hg _ => ⟨hg, fun q => hx (hs _ q)⟩
theorem Reps.weak {X X' : List Addr} {h : Heap} (hs : ∀ a ∈ X', a ∈ X) {v : List Value} {d : List D} (r : Reps h X v d) : Reps h X' v d :=
  r.mono fun _ _ hx hg _ => ⟨hg, fun q => hx (hs _ q)⟩

theorem Reps.length {h : Heap} {X : List Addr} : ∀ {vs : List Value} {ds : List D}, Reps h X vs ds → vs.length = ds.length
  | _, _, .nil => rfl
  | _, _, .cons _ r => by simp [r.length]
theorem Reps.get {h : Heap} {X : List Addr} : ∀ {vs : List Value} {ds : List D}, Reps h X vs ds → ∀ {i : Nat} {d : D}, ds[i]? = some d → ∃ v, vs[i]? = some v ∧ Rep h X v d
  | _, _, .nil, i, d, e => by simp at e
  | _, _, .cons r rs, 0, d, e => by simp at e; subst e; exact ⟨_, rfl, r⟩
  | _, _, .cons r rs, i + 1, d, e => by simp at e; simpa using rs.get e
theorem Reps.get' {h : Heap} {X : List Addr} {vs : List Value} {ds : List D} (r : Reps h X vs ds) {i : Nat} {v : Value} (e : vs[i]? = some v) : ∃ d, ds[i]? = some d ∧ Rep h X v d := by
  have hl := r.length
  have hi : i < ds.length := by rw [← hl]; exact (List.getElem?_eq_some_iff.mp e).1
  obtain ⟨v', e', r'⟩ := r.get (List.getElem?_eq_getElem hi)
  rw [e] at e'; cases e'
  exact ⟨_, List.getElem?_eq_getElem hi, r'⟩
theorem Reps.append {h : Heap} {X : List Addr} : ∀ {vs : List Value} {ds : List D}, Reps h X vs ds → ∀ {vs' : List Value} {ds' : List D}, Reps h X vs' ds' → Reps h X (vs ++ vs') (ds ++ ds')
  | _, _, .nil, _, _, r => r
  | _, _, .cons r rs, _, _, r' => .cons r (rs.append r')
theorem Reps.one {h : Heap} {X : List Addr} {v : Value} {d : D} (r : Rep h X v d) : Reps h X [v] [d] := .cons r .nil
theorem Reps.take {h : Heap} {X : List Addr} : ∀ (n : Nat) {vs : List Value} {ds : List D}, Reps h X vs ds → Reps h X (vs.take n) (ds.take n)
  | 0, _, _, _ => by simpa using Reps.nil
  | _ + 1, _, _, .nil => by simpa using Reps.nil
  | n + 1, _, _, .cons r rs => by simpa using Reps.cons r (rs.take n)
theorem Reps.drop {h : Heap} {X : List Addr} : ∀ (n : Nat) {vs : List Value} {ds : List D}, Reps h X vs ds → Reps h X (vs.drop n) (ds.drop n)
  | 0, _, _, r => by simpa using r
  | _ + 1, _, _, .nil => by simpa using Reps.nil
  | n + 1, _, _, .cons _ rs => by simpa using rs.drop n
theorem Reps.set {h : Heap} {X : List Addr} : ∀ (n : Nat) {vs : List Value} {ds : List D} {v : Value} {d : D}, Reps h X vs ds → Rep h X v d → Reps h X (vs.set n v) (ds.set n d)
  | _, _, _, _, _, .nil, _ => by simpa using Reps.nil
  | 0, _, _, _, _, .cons _ rs, r => by simpa using Reps.cons r rs
  | n + 1, _, _, _, _, .cons r' rs, r => by simpa using Reps.cons r' (rs.set n r)
theorem Reps.replicate {h : Heap} {X : List Addr} {v : Value} {d : D} (r : Rep h X v d) : ∀ n : Nat, Reps h X (List.replicate n v) (List.replicate n d)
  | 0 => .nil
  | n + 1 => .cons r (Reps.replicate r n)

/-- the state moved, every object kept -/
structure Kp (s s' : Shared) : Prop where
  same : ∃ h' tk, s' = { s with heap := h', toks := tk }
  ext : Ext s.heap s'.heap
theorem Kp.refl (s : Shared) : Kp s s := ⟨⟨_, _, rfl⟩, fun _ _ e => e⟩
theorem Kp.trans {s s' s'' : Shared} (x : Kp s s') (y : Kp s' s'') : Kp s s'' := by
  obtain ⟨⟨h1, t1, rfl⟩, k1⟩ := x
  obtain ⟨⟨h2, t2, rfl⟩, k2⟩ := y
  exact ⟨⟨h2, t2, rfl⟩, fun b o e => k2 b o (k1 b o e)⟩
theorem Kp.tok (s : Shared) (t : Nat) : Kp s { s with toks := t } := ⟨⟨_, _, rfl⟩, fun _ _ e => e⟩
theorem Kp.push (s : Shared) (o : Obj) (t : Nat) : Kp s { s with heap := s.heap.push o, toks := t } := ⟨⟨_, _, rfl⟩, Ext.push _ _⟩
theorem Kp.of {s : Shared} {h' : Heap} {tk : Nat} (k : Ext s.heap h') : Kp s { s with heap := h', toks := tk } := ⟨⟨_, _, rfl⟩, k⟩
theorem Kp.keeps {s s' : Shared} (x : Kp s s') : Keeps s s' := by obtain ⟨⟨h1, t1, rfl⟩, k1⟩ := x; exact ⟨h1, t1, rfl, k1⟩
theorem Kp.ofKeeps {s s' : Shared} (x : Keeps s s') : Kp s s' := by obtain ⟨h1, t1, rfl, k1⟩ := x; exact ⟨⟨h1, t1, rfl⟩, k1⟩
/-- the state moved, all but W kept -/
structure Moves (W : List Addr) (s s' : Shared) : Prop where
  same : ∃ h' tk, s' = { s with heap := h', toks := tk }
  kept : Kept W s.heap s'.heap
theorem Moves.refl (W : List Addr) (s : Shared) : Moves W s s := ⟨⟨_, _, rfl⟩, .refl _ _⟩
theorem Moves.trans {W : List Addr} {s s' s'' : Shared} (x : Moves W s s') (y : Moves W s' s'') : Moves W s s'' := by
  obtain ⟨⟨h1, t1, rfl⟩, k1⟩ := x
  obtain ⟨⟨h2, t2, rfl⟩, k2⟩ := y
  exact ⟨⟨h2, t2, rfl⟩, k1.trans k2⟩
theorem Moves.weak {W W' : List Addr} {s s' : Shared} (x : Moves W s s') (hs : ∀ a ∈ W, a ∈ W') : Moves W' s s' := ⟨x.1, x.2.weak hs⟩
theorem Kp.moves (W : List Addr) {s s' : Shared} (x : Kp s s') : Moves W s s' := ⟨x.1, .ofExt W x.2⟩
theorem Moves.kp {s s' : Shared} (x : Moves [] s s') : Kp s s' := ⟨x.1, x.2.ext⟩
end Mine
end
section
open PySem PySem.Calls PyProof.Rows
set_option linter.unusedVariables false
namespace Mine

structure Cx where
  prog : Program
  w : World
  mg : Str → Option Value
  mb : Str → Option Value
  defs : List DefRec
  hb : Heap

noncomputable def bnames : List Str := ["len", "int", "list", "tuple", "range", "enumerate", "zip", "sum", "max", "abs"]

structure GlbH (C : Cx) (h : Heap) : Prop where
  g : h.Ns mainGlobals C.mg
  b : h.Ns builtinsNs C.mb
  nolimit : h.NoLimit
  bt : ∀ x ∈ bnames, C.mg x = none ∧ C.mb x = bootBuiltins x
  fn : ∀ d ∈ C.defs, ∃ a o pm code doc, C.mg d.name = some (.ref a) ∧ h.get? a = some o ∧ o.data = .func (docDef d.name d.params d.body d.scope pm code doc) ∧ h.CodeRec code d.name
structure Glb (C : Cx) (h : Heap) : Prop where
  top : GlbH C C.hb
  up : Ext C.hb h
theorem Glb.g {C : Cx} {h : Heap} (T : Glb C h) : h.Ns mainGlobals C.mg := T.top.g.keeps T.up
theorem Glb.b {C : Cx} {h : Heap} (T : Glb C h) : h.Ns builtinsNs C.mb := T.top.b.keeps T.up
theorem Glb.nolimit {C : Cx} {h : Heap} (T : Glb C h) : h.NoLimit := T.top.nolimit.keeps T.up
theorem Glb.bt {C : Cx} {h : Heap} (T : Glb C h) : ∀ x ∈ bnames, C.mg x = none ∧ C.mb x = bootBuiltins x := T.top.bt
theorem Glb.fn {C : Cx} {h : Heap} (T : Glb C h) : ∀ d ∈ C.defs, ∃ a o pm code doc, C.mg d.name = some (.ref a) ∧ h.get? a = some o ∧ o.data = .func (docDef d.name d.params d.body d.scope pm code doc) ∧ h.CodeRec code d.name :=
  fun d hd => let ⟨a, o, pm, code, doc, h1, h2, h3, h4⟩ := T.top.fn d hd; ⟨a, o, pm, code, doc, h1, T.up _ _ h2, h3, h4.keeps T.up⟩
theorem Glb.ext {C : Cx} {h h' : Heap} (T : Glb C h) (hk : Ext h h') : Glb C h' := ⟨T.top, Ext.trans T.up hk⟩
/-- addresses that the top does not bear -/
noncomputable def Fresh (C : Cx) (X : List Addr) : Prop := ∀ a ∈ X, C.hb.get? a = none
theorem Glb.kept {C : Cx} {h h' : Heap} {X : List Addr} (T : Glb C h) (hk : Kept X h h') (hx : Fresh C X) : Glb C h' :=
  ⟨T.top, fun b o e => hk.2 b o (fun q => by have := hx b q; rw [e] at this; cases this) (T.up b o e)⟩
theorem Glb.fresh {C : Cx} {h : Heap} (T : Glb C h) {a : Addr} (hn : h.get? a = none) : C.hb.get? a = none := by
  cases e : C.hb.get? a with
  | none => rfl
  | some o => have := T.up a o e; rw [hn] at this; cases this

/-- room left for n more frames -/
structure AOk (n : Nat) (A : Around) : Prop where
  hh : A.handled = none
  dp : A.depth + n < 900
  un : A.units + 20 * n < 9000
theorem AOk.le {n m : Nat} {A : Around} (a : AOk n A) (h : m ≤ n) : AOk m A := ⟨a.hh, by have := a.dp; omega, by have := a.un; omega⟩
theorem AOk.deeper {n : Nat} {A : Around} (a : AOk (n + 1) A) (env : Env) : AOk n (A.deeper env) := ⟨a.hh, by have := a.dp; show A.depth + 1 + n < 900; omega, by have := a.un; show A.units + 3 + 20 * n < 9000; omega⟩
theorem AOk.room {n : Nat} {A : Around} (a : AOk n A) : A.depth < recursionLimit := by have := a.dp; show A.depth < 1000; omega

noncomputable def Bd (env : Env) (h : Heap) (x : Str) (v : Value) : Prop :=
  (env.kindOf x = some .local ∧ ∃ m, h.Ns env.locals m ∧ m x = some v) ∨
  ((env.kindOf x = some .cell ∨ env.kindOf x = some .free) ∧ ∃ c, env.cells.lookup x = some c ∧ h.IsCell c (some v))
theorem Bd.ext {env : Env} {h h' : Heap} {x : Str} {v : Value} (b : Bd env h x v) (k : Ext h h') : Bd env h' x v := by
  rcases b with ⟨h1, m, h2, h3⟩ | ⟨h1, c, h2, h3⟩
  · exact .inl ⟨h1, m, h2.keeps k, h3⟩
  · exact .inr ⟨h1, c, h2, h3.keeps k⟩

inductive Own where
  | list (ds : List D)
  | dict (ks : List (List Int))

structure G where
  C : Cx
  n : Nat
  ns : List (Str × NameKind)
  ρ : List (Str × D)
  σ : List (Addr × Own)

/-- the kind of the keys: tuples of ints -/
noncomputable abbrev tk (C : Cx) : HeapKind C.prog C.w (List Int) := tupleKind (intKind C.prog C.w)
theorem itemsAre_reps {C : Cx} {h : Heap} {X : List Addr} : ∀ {ks : List Int} {vs : List Value}, ItemsAre (intKind C.prog C.w) ks vs → Reps h X vs (ks.map D.int)
  | _, _, .nil => .nil
  | _, _, .cons h1 h2 => by
    obtain ⟨t, rfl⟩ := Value.isInt_shape h1
    exact .cons (.int _ _) (itemsAre_reps h2)
theorem reps_itemsAre {C : Cx} {h : Heap} {X : List Addr} : ∀ {ks : List Int} {vs : List Value}, Reps h X vs (ks.map D.int) → ItemsAre (intKind C.prog C.w) ks vs
  | [], _, r => by cases r; exact .nil
  | k :: ks, _, r => by
    cases r with
    | cons h1 h2 =>
      cases h1
      exact .cons (by simp [intKind, Value.isInt]) (reps_itemsAre h2)
theorem tk_is {C : Cx} {h : Heap} {X : List Addr} {a : Addr} {k : List Int} (r : Rep h X (.ref a) (.tup (k.map D.int))) : (tk C).is h k a := by
  cases r with
  | tup a vs ds n hx hg hr => exact ⟨_, _, _, hg, rfl, rfl, by simpa using reps_itemsAre hr⟩
noncomputable def DictIs (C : Cx) (h : Heap) (X : List Addr) (a : Addr) (ks : List (List Int)) : Prop :=
  a ≠ sysModules ∧ ∃ xs : List (List Int × Addr × Value), h.DictOfH (tk C) a xs ∧ xs.map (·.1) = ks ∧ ∀ x ∈ xs, Rep h X (.ref x.2.1) (.tup (x.1.map D.int))
theorem DictIs.keep {C : Cx} {h h' : Heap} {X X' : List Addr} {a : Addr} {ks : List (List Int)} (x : DictIs C h X a ks) (ha : ∀ o, h.get? a = some o → h'.get? a = some o)
    (hr : ∀ v d, Rep h X v d → Rep h' X' v d) : DictIs C h' X' a ks := by
  obtain ⟨h0, xs, ⟨o, es, ep, h1, h2, h3, h4, h5, h6⟩, h7, h8⟩ := x
  exact ⟨h0, xs, ⟨o, es, ep, ha _ h1, h2, h3, h4, fun x hx => tk_is (hr _ _ (h8 x hx)), h6⟩, h7, fun x hx => hr _ _ (h8 x hx)⟩
noncomputable def OwnIs (C : Cx) (h : Heap) (X : List Addr) (a : Addr) : Own → Prop
  | .list ds => ∃ vs, h.PlainList a vs.toArray ∧ Reps h X vs ds
  | .dict ks => DictIs C h X a ks
theorem OwnIs.keep {C : Cx} {h h' : Heap} {X X' : List Addr} {a : Addr} {o : Own} (x : OwnIs C h X a o) (ha : ∀ o, h.get? a = some o → h'.get? a = some o)
    (hr : ∀ v d, Rep h X v d → Rep h' X' v d) (hrs : ∀ v d, Reps h X v d → Reps h' X' v d) : OwnIs C h' X' a o := by
  cases o with
  | list ds => obtain ⟨vs, h1, h2⟩ := x; exact ⟨vs, h1.at fun o e => ha o e, hrs _ _ h2⟩
  | dict ks => exact DictIs.keep x ha hr
theorem OwnIs.ext {C : Cx} {h h' : Heap} {X : List Addr} {a : Addr} {o : Own} (x : OwnIs C h X a o) (k : Ext h h') : OwnIs C h' X a o :=
  x.keep (fun o e => k _ o e) (fun _ _ r => r.ext k) fun _ _ r => r.ext k
theorem OwnIs.alive {C : Cx} {h : Heap} {X : List Addr} {a : Addr} {o : Own} (x : OwnIs C h X a o) : ∃ ob, h.get? a = some ob := by
  cases o with
  | list ds => obtain ⟨vs, ⟨n, e⟩, _⟩ := x; exact ⟨_, e⟩
  | dict ks => obtain ⟨_, xs, ⟨o, es, ep, h1, _⟩, _⟩ := x; exact ⟨_, h1⟩

structure Rd (g : G) (env : Env) (X : List Addr) (s : Shared) : Prop where
  names : ∀ x k, g.ns.lookup x = some k → env.kindOf x = some k ∨ (k = .free ∧ env.kindOf x = some .cell)
  fn : env.scope.kind = .function
  gl : env.globals = mainGlobals
  bi : env.builtins = builtinsNs
  glb : Glb g.C s.heap
  old : Old X s.heap
  fr : Fresh g.C X
  lns : ∃ m, s.heap.Ns env.locals m
  cell : ∀ x, (g.ns.lookup x = some .cell ∨ g.ns.lookup x = some .free) → ∃ c v, env.cells.lookup x = some c ∧ s.heap.IsCell c v
  loc : ∀ x d, g.ρ.lookup x = some d → ∃ v, Bd env s.heap x v ∧ Rep s.heap X v d
  own : ∀ a c, (a, c) ∈ g.σ → a ∈ X ∧ OwnIs g.C s.heap X a c
  cal : ∀ x c, env.cells.lookup x = some c → ∃ o, s.heap.get? c = some o

theorem Rd.ext {g : G} {env : Env} {X : List Addr} {s s' : Shared} (r : Rd g env X s) (k : Kp s s') : Rd g env X s' where
  names := r.names
  fn := r.fn
  gl := r.gl
  bi := r.bi
  glb := r.glb.ext k.ext
  old := r.old.ext k.ext
  fr := r.fr
  lns := let ⟨m, hm⟩ := r.lns; ⟨m, hm.keeps k.ext⟩
  cell := fun x hx => let ⟨c, v, h1, h2⟩ := r.cell x hx; ⟨c, v, h1, h2.keeps k.ext⟩
  loc := fun x d hx => let ⟨v, h1, h2⟩ := r.loc x d hx; ⟨v, h1.ext k.ext, h2.ext k.ext⟩
  own := fun a c hx => let ⟨h1, h2⟩ := r.own a c hx; ⟨h1, h2.ext k.ext⟩
  cal := fun x c hx => let ⟨o, e⟩ := r.cal x c hx; ⟨o, k.ext c o e⟩
theorem Rd.kind {g : G} {env : Env} {X : List Addr} {s : Shared} (r : Rd g env X s) {x : Str} {k : NameKind} (h : g.ns.lookup x = some k) (hk : k ≠ .free) : env.kindOf x = some k :=
  (r.names x k h).elim id fun q => absurd q.1 hk

noncomputable abbrev VP := Heap → List Addr → Value → Prop
noncomputable def Stable (P : VP) : Prop := ∀ h h' X v, Ext h h' → P h X v → P h' X v

noncomputable abbrev isD (d : D) : VP := fun h X v => Rep h X v d
theorem isD_stable (d : D) : Stable (isD d) := fun _ _ _ _ k r => r.ext k

/-- the expression ends in a value that bears P, and moves nothing -/
noncomputable def Evp (g : G) (e : Expr) (P : VP) : Prop := ∀ (A : Around) (env : Env) (X : List Addr) (s : Shared) (E : Value → Shared → Prop), AOk g.n A → Rd g env X s →
  wpAny (model g.C.prog g.C.w) A (eval e env) (fun v s' => P s'.heap X v ∧ Kp s s') E s
noncomputable abbrev Ev (g : G) (e : Expr) (d : D) : Prop := Evp g e (isD d)

noncomputable def isL (ds : List D) : VP := fun h X v => ∃ a vs, v = .ref a ∧ h.PlainList a vs.toArray ∧ Reps h X vs ds
theorem isL_stable (ds : List D) : Stable (isL ds) := fun _ _ _ _ k ⟨a, vs, h1, h2, h3⟩ => ⟨a, vs, h1, h2.at fun o e => k _ o e, h3.ext k⟩
noncomputable abbrev EvL (g : G) (e : Expr) (ds : List D) : Prop := Evp g e (isL ds)

theorem rep_list {h : Heap} {X : List Addr} {v : Value} {ds : List D} (r : Rep h X v (.list ds)) : isL ds h X v := by
  cases r with | list a vs ds n hx hg hr => exact ⟨a, vs, rfl, ⟨n, hg⟩, hr⟩
theorem rep_tup {h : Heap} {X : List Addr} {v : Value} {ds : List D} (r : Rep h X v (.tup ds)) : ∃ a vs n, v = .ref a ∧ a ∉ X ∧ h.get? a = some { cls := .type "tuple", data := .seq vs.toArray n } ∧ Reps h X vs ds := by
  cases r with | tup a vs ds n hx hg hr => exact ⟨a, vs, n, rfl, hx, hg, hr⟩
theorem rep_int {h : Heap} {X : List Addr} {v : Value} {i : Int} (r : Rep h X v (.int i)) : ∃ t, v = .int i t := by
  cases r with | int i t => exact ⟨t, rfl⟩
theorem rep_bool {h : Heap} {X : List Addr} {v : Value} {b : Bool} (r : Rep h X v (.bool b)) : v = .bool b := by
  cases r with | bool b => rfl
theorem rep_none {h : Heap} {X : List Addr} {v : Value} (r : Rep h X v .none) : v = .none := by
  cases r with | none => rfl
theorem rep_own {h : Heap} {X : List Addr} {v : Value} {a : Addr} (r : Rep h X v (.own a)) : v = .ref a := by
  cases r with | own a => rfl

section
variable {g : G}

theorem Evp.weak {e : Expr} {P P' : VP} (h : Evp g e P) (hp : ∀ h X v, P h X v → P' h X v) : Evp g e P' := fun A env X s E ha r =>
  wpAny_mono (h A env X s E ha r) (fun v s' x => ⟨hp _ _ _ x.1, x.2⟩) fun _ _ x => x
theorem Ev.toL {e : Expr} {ds : List D} (h : Ev g e (.list ds)) : EvL g e ds := h.weak fun _ _ _ r => rep_list r
theorem Ev.ownL {e : Expr} {a : Addr} {ds : List D} (h : Ev g e (.own a)) (hs : (a, Own.list ds) ∈ g.σ) : EvL g e ds := fun A env X s E ha r =>
  wpAny_mono (h A env X s E ha r) (fun v s' x => by
    obtain ⟨h1, h2⟩ := x
    cases rep_own h1
    obtain ⟨vs, h3, h4⟩ := (r.ext h2).own a _ hs |>.2
    exact ⟨⟨a, vs, rfl, h3, h4⟩, h2⟩) fun _ _ x => x

theorem ev_int {i : Int} {k : Nat} {pos : Pos} : Ev g (.Constant (.int i) k pos) (.int i) := fun A env X s E ha r =>
  wpAny_Constant_int ⟨.int _ _, Kp.tok _ _⟩
theorem ev_true {b : Bool} {k : Nat} {pos : Pos} : Ev g (.Constant (.bool b) k pos) (.bool b) := fun A env X s E ha r =>
  wpAny_Constant_bool ⟨.bool _, Kp.refl _⟩
theorem ev_none {k : Nat} {pos : Pos} : Ev g (.Constant .none k pos) .none := fun A env X s E ha r =>
  wpAny_Constant_none ⟨.none, Kp.refl _⟩

theorem name_load {M : Model} {A : Around} {E : Value → Shared → Prop} {env : Env} {s : Shared} {x : Str} {pos : Pos} {v : Value} {Q : Value → Shared → Prop} (hk : env.scope.kind = .function) (b : Bd env s.heap x v) (h : Q v s)
    (hd : (x == ("__debug__" : Str)) = false) (hn : (x == ("__classdict__" : Str)) = false) : wpAny M A (eval (.Name x pos) env) Q E s := by
  refine wpAny_Name ?_ hd
  rcases b with ⟨h1, m, h2, h3⟩ | ⟨h1 | h1, c, h2, h3⟩
  · exact wpAny_loadName_local hk h1 h2 h3 h
  · exact wpAny_loadName_cell hk h1 h2 h3 h
  · exact wpAny_loadName_free hk h1 h2 h3 h hn

theorem ev_name {x : Str} {pos : Pos} {d : D} (hx : g.ρ.lookup x = some d) (hd : (x == ("__debug__" : Str)) = false := by decide) (hn : (x == ("__classdict__" : Str)) = false := by decide) : Ev g (.Name x pos) d := fun A env X s E ha r => by
  obtain ⟨v, h1, h2⟩ := r.loc x d hx
  exact name_load r.fn h1 ⟨h2, Kp.refl _⟩ hd hn

/-- what an operation does with two values that are there -/
noncomputable def Op2 (g : G) (f : Value → Value → Sem Value) (P1 P2 P : VP) : Prop := ∀ (A : Around) (X : List Addr) (s : Shared) (E : Value → Shared → Prop) (v1 v2 : Value), AOk g.n A → Glb g.C s.heap → Old X s.heap → P1 s.heap X v1 → P2 s.heap X v2 →
  wpAny (model g.C.prog g.C.w) A (f v1 v2) (fun v s' => P s'.heap X v ∧ Kp s s') E s

theorem evp_bin {l r : Expr} {op : Operator} {pos : Pos} {P1 P2 P : VP} (h1 : Evp g l P1) (h2 : Evp g r P2) (st : Stable P1) (ho : Op2 g (binaryOp op) P1 P2 P) : Evp g (.BinOp l op r pos) P := fun A env X s E ha hr =>
  wpAny_BinOp (wpAny_mono (h1 A env X s E ha hr) (fun a s1 x1 => wpAny_mono (h2 A env X s1 E ha (hr.ext x1.2)) (fun b s2 x2 =>
    wpAny_mono (ho A X s2 E a b ha ((hr.ext x1.2).ext x2.2).glb ((hr.ext x1.2).ext x2.2).old (st _ _ _ _ x2.2.ext x1.1) x2.1) (fun v s3 x3 => ⟨x3.1, (x1.2.trans x2.2).trans x3.2⟩) fun _ _ x => x) fun _ _ x => x) fun _ _ x => x)

theorem op_add {a b : Int} : Op2 g (binaryOp .Add) (isD (.int a)) (isD (.int b)) (isD (.int (a + b))) := fun A X s E v1 v2 _ _ _ h1 h2 => by
  obtain ⟨t, rfl⟩ := rep_int h1; obtain ⟨u, rfl⟩ := rep_int h2
  exact PyProof.Rows.add_int ⟨.int _ _, Kp.tok _ _⟩
theorem op_sub {a b : Int} : Op2 g (binaryOp .Sub) (isD (.int a)) (isD (.int b)) (isD (.int (a - b))) := fun A X s E v1 v2 _ _ _ h1 h2 => by
  obtain ⟨t, rfl⟩ := rep_int h1; obtain ⟨u, rfl⟩ := rep_int h2
  exact PyProof.Rows.sub_int ⟨.int _ _, Kp.tok _ _⟩
theorem op_mod {a b : Int} (hb : b ≠ 0) : Op2 g (binaryOp .Mod) (isD (.int a)) (isD (.int b)) (isD (.int (a.fmod b))) := fun A X s E v1 v2 _ _ _ h1 h2 => by
  obtain ⟨t, rfl⟩ := rep_int h1; obtain ⟨u, rfl⟩ := rep_int h2
  exact PyProof.Rows.mod_int hb ⟨.int _ _, Kp.tok _ _⟩
theorem op_div {a b : Int} (hb : b ≠ 0) (hs : b.natAbs < 1073741824) : Op2 g (binaryOp .FloorDiv) (isD (.int a)) (isD (.int b)) (isD (.int (a.fdiv b))) := fun A X s E v1 v2 _ _ _ h1 h2 => by
  obtain ⟨t, rfl⟩ := rep_int h1; obtain ⟨u, rfl⟩ := rep_int h2
  exact PyProof.Rows.floordiv_int hb ⟨.int _ _, Kp.tok _ _⟩ (.inl (PyProof.noPylong_small hs))
theorem mulOk {a b : Int} (h : a.natAbs < 2 ^ 60 ∨ b.natAbs < 2 ^ 60) : IntMulOk a b := by
  have bits : ∀ c : Int, c.natAbs < 2 ^ 60 → Builtin.Int.intBits c ≤ 64 := fun c hc => by
    unfold Builtin.Int.intBits
    split
    · omega
    · rename_i h0
      have h1 : c.natAbs ≠ 0 := by
        intro q; apply h0; simp [Int.natAbs_eq_zero.mp q]
      have : c.natAbs.log2 < 60 := (Nat.log2_lt h1).mpr hc
      omega
  rcases h with h | h
  · exact IntMulOk.of_left (bits a h)
  · exact IntMulOk.of_right (bits b h)
theorem op_mul {a b : Int} (h : a.natAbs < 2 ^ 60 ∨ b.natAbs < 2 ^ 60) : Op2 g (binaryOp .Mult) (isD (.int a)) (isD (.int b)) (isD (.int (a * b))) := fun A X s E v1 v2 _ _ _ h1 h2 => by
  obtain ⟨t, rfl⟩ := rep_int h1; obtain ⟨u, rfl⟩ := rep_int h2
  exact PyProof.Rows.mul_int ⟨.int _ _, Kp.tok _ _⟩ (mulOk h)
theorem op_pow {a : Int} {n : Nat} (hn : n ≤ 1000) (ha : a.natAbs < 2 ^ 64) : Op2 g (binaryOp .Pow) (isD (.int a)) (isD (.int n)) (isD (.int (a ^ n))) := fun A X s E v1 v2 _ _ _ h1 h2 => by
  obtain ⟨t, rfl⟩ := rep_int h1; obtain ⟨u, rfl⟩ := rep_int h2
  exact PyProof.Rows.pow_int_small (by omega) (by omega) ha ⟨.int _ _, Kp.tok _ _⟩
end
end Mine
end
section
open PySem PySem.Calls PyProof.Rows
set_option linter.unusedVariables false
namespace Mine
section
variable {g : G}

/-- the test comes out as b -/
noncomputable def Tr (g : G) (e : Expr) (b : Bool) : Prop := ∀ (A : Around) (env : Env) (X : List Addr) (s : Shared) (E : Value → Shared → Prop), AOk g.n A → Rd g env X s →
  wpAny (model g.C.prog g.C.w) A (isTrue e env (eval e env)) (fun r s' => r = b ∧ Kp s s') E s

noncomputable def intsD (ns : List Int) : List D := ns.map D.int
theorem reps_ints {h : Heap} {X : List Addr} : ∀ {vs : List Value} {ns : List Int}, Reps h X vs (intsD ns) → IntsAre vs ns
  | vs, [], r => by cases r; exact .nil
  | vs, n :: ns, r => by
    cases r with
    | cons h1 h2 => obtain ⟨t, rfl⟩ := rep_int h1; exact .cons n t (reps_ints h2)
theorem reps_of_ints {h : Heap} {X : List Addr} : ∀ {vs : List Value} {ns : List Int}, IntsAre vs ns → Reps h X vs (intsD ns)
  | _, _, .nil => .nil
  | _, _, .cons n t r => .cons (.int n t) (reps_of_ints r)

theorem op_eq {a b : Int} : Op2 g (compareOp .Eq) (isD (.int a)) (isD (.int b)) (isD (.bool (decide (a = b)))) := fun A X s E v1 v2 _ _ _ h1 h2 => by
  obtain ⟨t, rfl⟩ := rep_int h1; obtain ⟨u, rfl⟩ := rep_int h2
  exact PySem.P.eq_int ⟨.bool _, Kp.refl _⟩
theorem op_ne {a b : Int} : Op2 g (compareOp .NotEq) (isD (.int a)) (isD (.int b)) (isD (.bool (decide (a ≠ b)))) := fun A X s E v1 v2 _ _ _ h1 h2 => by
  obtain ⟨t, rfl⟩ := rep_int h1; obtain ⟨u, rfl⟩ := rep_int h2
  exact PySem.P.ne_int ⟨by rw [show (a != b) = decide (a ≠ b) by by_cases h : a = b <;> simp [h, bne]]; exact .bool _, Kp.refl _⟩
theorem op_lt {a b : Int} : Op2 g (compareOp .Lt) (isD (.int a)) (isD (.int b)) (isD (.bool (decide (a < b)))) := fun A X s E v1 v2 _ _ _ h1 h2 => by
  obtain ⟨t, rfl⟩ := rep_int h1; obtain ⟨u, rfl⟩ := rep_int h2
  exact PySem.P.lt_int ⟨.bool _, Kp.refl _⟩
theorem op_gt {a b : Int} : Op2 g (compareOp .Gt) (isD (.int a)) (isD (.int b)) (isD (.bool (decide (a > b)))) := fun A X s E v1 v2 _ _ _ h1 h2 => by
  obtain ⟨t, rfl⟩ := rep_int h1; obtain ⟨u, rfl⟩ := rep_int h2
  exact PySem.P.gt_int ⟨.bool _, Kp.refl _⟩
theorem op_ge {a b : Int} : Op2 g (compareOp .GtE) (isD (.int a)) (isD (.int b)) (isD (.bool (decide (a ≥ b)))) := fun A X s E v1 v2 _ _ _ h1 h2 => by
  obtain ⟨t, rfl⟩ := rep_int h1; obtain ⟨u, rfl⟩ := rep_int h2
  exact PySem.P.ge_int ⟨.bool _, Kp.refl _⟩
theorem units64 {n : Nat} {A : Around} (a : AOk n A) : A.units + 64 < cLine := by have := a.un; show A.units + 64 < 9900; omega
theorem op_eqL {a b : List Int} : Op2 g (compareOp .Eq) (isL (intsD a)) (isL (intsD b)) (isD (.bool (decide (a = b)))) := fun A X s E v1 v2 ha _ _ h1 h2 => by
  obtain ⟨x, vs, rfl, l1, r1⟩ := h1; obtain ⟨y, us, rfl, l2, r2⟩ := h2
  exact PySem.W.eq_intsK l1.isList (reps_ints r1) l2.isList (reps_ints r2) (units64 ha) ⟨.bool _, Kp.refl _⟩
theorem op_neL {a b : List Int} : Op2 g (compareOp .NotEq) (isL (intsD a)) (isL (intsD b)) (isD (.bool (decide (a ≠ b)))) := fun A X s E v1 v2 ha _ _ h1 h2 => by
  obtain ⟨x, vs, rfl, l1, r1⟩ := h1; obtain ⟨y, us, rfl, l2, r2⟩ := h2
  exact PySem.W.ne_intsK l1.isList (reps_ints r1) l2.isList (reps_ints r2) (units64 ha) ⟨by rw [show (!decide (a = b)) = decide (a ≠ b) by simp]; exact .bool _, Kp.refl _⟩

theorem ev_cmp {l r : Expr} {op : CmpOp} {pos : Pos} {P1 P2 P : VP} (h1 : Evp g l P1) (h2 : Evp g r P2) (st : Stable P1) (ho : Op2 g (compareOp op) P1 P2 P) (hm : behindInMarks op r = false := by with_unfolding_all rfl) : Evp g (.Compare l [op] [r] pos) P := fun A env X s E ha hr =>
  wpAny_Compare1 (wpAny_mono (h1 A env X s E ha hr) (fun a s1 x1 => wpAny_mono (h2 A env X s1 E ha (hr.ext x1.2)) (fun b s2 x2 =>
    wpAny_mono (ho A X s2 E a b ha ((hr.ext x1.2).ext x2.2).glb ((hr.ext x1.2).ext x2.2).old (st _ _ _ _ x2.2.ext x1.1) x2.1) (fun v s3 x3 => ⟨x3.1, (x1.2.trans x2.2).trans x3.2⟩) fun _ _ x => x) fun _ _ x => x) fun _ _ x => x) hm
theorem tr_cmp {l r : Expr} {op : CmpOp} {pos : Pos} {P1 P2 : VP} {b : Bool} (h1 : Evp g l P1) (h2 : Evp g r P2) (st : Stable P1) (ho : Op2 g (compareOp op) P1 P2 (isD (.bool b))) (hm : behindInMarks op r = false := by with_unfolding_all rfl) : Tr g (.Compare l [op] [r] pos) b := fun A env X s E ha hr =>
  wpAny_isTrue_Compare1 (wpAny_mono (h1 A env X s E ha hr) (fun a s1 x1 => wpAny_mono (h2 A env X s1 E ha (hr.ext x1.2)) (fun c s2 x2 =>
    wpAny_mono (ho A X s2 E a c ha ((hr.ext x1.2).ext x2.2).glb ((hr.ext x1.2).ext x2.2).old (st _ _ _ _ x2.2.ext x1.1) x2.1) (fun v s3 x3 => by
      cases rep_bool x3.1
      exact wpAny_truthy_bool ⟨rfl, (x1.2.trans x2.2).trans x3.2⟩) fun _ _ x => x) fun _ _ x => x) fun _ _ x => x) hm
/-- a < b < c -/
theorem tr_cmp2 {l m r : Expr} {o1 o2 : CmpOp} {pos : Pos} {P1 P2 P3 : VP} {b1 b2 : Bool} (h1 : Evp g l P1) (h2 : Evp g m P2) (h3 : b1 = true → Evp g r P3) (st1 : Stable P1) (st2 : Stable P2)
    (ho1 : Op2 g (compareOp o1) P1 P2 (isD (.bool b1))) (ho2 : b1 = true → Op2 g (compareOp o2) P2 P3 (isD (.bool b2)))
    (hm : markedEach [o1, o2] [m, r] = fun ts => ts := by with_unfolding_all rfl) : Tr g (.Compare l [o1, o2] [m, r] pos) (b1 && b2) := fun A env X s E ha hr => by
  show wpAny _ A (do testChain pos (← eval l env) [o1, o2] (markedEach [o1, o2] [m, r] [eval m env, eval r env])) _ _ _
  rw [hm]
  refine wpAny_bind (wpAny_mono (h1 A env X s E ha hr) (fun a s1 x1 => ?_) fun _ _ x => x)
  show wpAny _ A (do
    let rv ← holding [a] (eval m env)
    standAt pos
    let c ← holding [a, rv] (compareOp o1 a rv)
    release [a, rv] [c]
    if ← holding [c, rv] (truthy c) then (do
      let rv' ← holding [rv] (eval r env)
      standAt pos
      let c ← operate [rv, rv'] (compareOp o2 rv rv')
      holding [c] (truthy c)) else pure false) _ _ _
  have r1 := hr.ext x1.2
  refine wpAny_bind (wpAny_holding (wpAny_mono (h2 A env X s1 E ha r1) (fun b s2 x2 => wpAny_bind (wpAny_standAt ?_)) fun _ _ x => x))
  have r2 := r1.ext x2.2
  refine wpAny_bind (wpAny_holding (wpAny_mono (ho1 A X s2 E a b ha r2.glb r2.old (st1 _ _ _ _ x2.2.ext x1.1) x2.1) (fun c s3 x3 => ?_) fun _ _ x => x))
  have r3 := r2.ext x3.2
  have k3 := (x1.2.trans x2.2).trans x3.2
  cases rep_bool x3.1
  refine wpAny_bind (wpAny_release (wpAny_bind (wpAny_holding (wpAny_truthy_bool ?_))))
  cases hb : b1 with
  | false => simp only [Bool.false_eq_true, if_false, Bool.false_and]; exact wpAny_pure ⟨rfl, k3⟩
  | true =>
    simp only [if_true, Bool.true_and]
    refine wpAny_bind (wpAny_holding (wpAny_mono (h3 hb A env X s3 E ha r3) (fun c s4 x4 => wpAny_bind (wpAny_standAt ?_)) fun _ _ x => x))
    have r4 := r3.ext x4.2
    refine wpAny_bind (wpAny_operating (wpAny_mono (ho2 hb A X s4 E b c ha r4.glb r4.old (st2 _ _ _ _ (x3.2.trans x4.2).ext x2.1) x4.1) (fun v s5 x5 => ?_) fun _ _ x => x))
    cases rep_bool x5.1
    exact wpAny_holding (wpAny_truthy_bool ⟨rfl, (k3.trans x4.2).trans x5.2⟩)

theorem ev_ife {t b o : Expr} {pos : Pos} {c : Bool} {P : VP} (ht : Tr g t c) (hb : c = true → Evp g b P) (ho : c = false → Evp g o P) : Evp g (.IfExp t b o pos) P := fun A env X s E ha hr =>
  wpAny_IfExp (wpAny_mono (ht A env X s E ha hr) (fun v s1 x1 => by
    obtain ⟨rfl, k⟩ := x1
    cases v with
    | true => simp only [if_true]; exact wpAny_mono (hb rfl A env X s1 E ha (hr.ext k)) (fun v s2 x2 => ⟨x2.1, k.trans x2.2⟩) fun _ _ x => x
    | false => simp only [Bool.false_eq_true, if_false]; exact wpAny_mono (ho rfl A env X s1 E ha (hr.ext k)) (fun v s2 x2 => ⟨x2.1, k.trans x2.2⟩) fun _ _ x => x) fun _ _ x => x)

theorem op1_neg {a : Int} {A : Around} {X : List Addr} {s : Shared} {E : Value → Shared → Prop} {v : Value} (h : Rep s.heap X v (.int a)) : wpAny (model g.C.prog g.C.w) A (unaryOp .USub v) (fun v s' => Rep s'.heap X v (.int (-a)) ∧ Kp s s') E s := by
  obtain ⟨t, rfl⟩ := rep_int h
  exact PySem.P.neg_int ⟨.int _ _, Kp.tok _ _⟩
theorem ev_neg {e : Expr} {pos : Pos} {a : Int} (h : Ev g e (.int a)) : Ev g (.UnaryOp .USub e pos) (.int (-a)) := fun A env X s E ha hr =>
  wpAny_UnaryOp (wpAny_mono (h A env X s E ha hr) (fun v s1 x1 => wpAny_mono (op1_neg (g := g) x1.1) (fun v s2 x2 => ⟨x2.1, x1.2.trans x2.2⟩) fun _ _ x => x) fun _ _ x => x)

theorem tr_and {x y : Expr} {pos : Pos} {a b : Bool} (h1 : Tr g x a) (h2 : a = true → Tr g y b) : Tr g (.BoolOp .And [x, y] pos) (a && b) := fun A env X s E ha hr =>
  wpAny_isTrue_BoolOp (wpAny_allTrue_And_cons (wpAny_mono (h1 A env X s E ha hr) (fun v s1 x1 => by
    obtain ⟨rfl, k⟩ := x1
    cases v with
    | false => simp only [Bool.false_eq_true, if_false]; exact ⟨by simp, k⟩
    | true =>
      simp only [if_true, Bool.true_and]
      exact wpAny_allTrue_And_cons (wpAny_mono (h2 rfl A env X s1 E ha (hr.ext k)) (fun v s2 x2 => by
        obtain ⟨rfl, k2⟩ := x2
        cases v with
        | false => simp only [Bool.false_eq_true, if_false]; exact ⟨by simp, k.trans k2⟩
        | true => simp only [if_true]; exact wpAny_allTrue_And_nil ⟨by simp, k.trans k2⟩) fun _ _ x => x)) fun _ _ x => x))
theorem tr_or {x y : Expr} {pos : Pos} {a b : Bool} (h1 : Tr g x a) (h2 : a = false → Tr g y b) : Tr g (.BoolOp .Or [x, y] pos) (a || b) := fun A env X s E ha hr =>
  wpAny_isTrue_BoolOp (wpAny_allTrue_Or_cons (wpAny_mono (h1 A env X s E ha hr) (fun v s1 x1 => by
    obtain ⟨rfl, k⟩ := x1
    cases v with
    | true => simp only [if_true]; exact ⟨by simp, k⟩
    | false =>
      simp only [Bool.false_eq_true, if_false, Bool.false_or]
      exact wpAny_allTrue_Or_cons (wpAny_mono (h2 rfl A env X s1 E ha (hr.ext k)) (fun v s2 x2 => by
        obtain ⟨rfl, k2⟩ := x2
        cases v with
        | true => simp only [if_true]; exact ⟨by simp, k.trans k2⟩
        | false => simp only [Bool.false_eq_true, if_false]; exact wpAny_allTrue_Or_nil ⟨by simp, k.trans k2⟩) fun _ _ x => x)) fun _ _ x => x))
/-- x and y as a value, both bools -/
theorem ev_and {x y : Expr} {pos : Pos} {a b : Bool} (h1 : Ev g x (.bool a)) (h2 : a = true → Ev g y (.bool b)) : Ev g (.BoolOp .And [x, y] pos) (.bool (a && b)) := fun A env X s E ha hr =>
  wpAny_And2 (wpAny_mono (h1 A env X s E ha hr) (fun v s1 x1 => by
    cases rep_bool x1.1
    refine wpAny_truthy_bool ?_
    cases a with
    | false => simp only [Bool.false_eq_true, if_false]; exact ⟨.bool _, x1.2⟩
    | true =>
      simp only [if_true, Bool.true_and]
      exact wpAny_mono (h2 rfl A env X s1 E ha (hr.ext x1.2)) (fun v s2 x2 => ⟨x2.1, x1.2.trans x2.2⟩) fun _ _ x => x) fun _ _ x => x)

/-- displays -/
noncomputable def Evs (g : G) (es : List Expr) (ds : List D) : Prop := ∀ (A : Around) (env : Env) (X : List Addr) (s : Shared) (E : Value → Shared → Prop) (pos : Pos), AOk g.n A → Rd g env X s →
  wpAny (model g.C.prog g.C.w) A (spliced (backTo pos (starEach es env))) (fun vs s' => Reps s'.heap X vs ds ∧ Kp s s') E s
theorem evs_nil : Evs g [] [] := fun A env X s E pos ha hr => wpAny_items_nil ⟨.nil, Kp.refl _⟩
theorem evs_cons {e : Expr} {es : List Expr} {d : D} {ds : List D} (h : Ev g e d) (hs : Evs g es ds) (he : ∀ env, starEach (e :: es) env = (false, eval e env) :: starEach es env := by intro env; rfl) : Evs g (e :: es) (d :: ds) := fun A env X s E pos ha hr =>
  wpAny_items_cons (wpAny_mono (h A env X s E ha hr) (fun v s1 x1 => wpAny_mono (hs A env X s1 E pos ha (hr.ext x1.2)) (fun vs s2 x2 => ⟨.cons (x1.1.ext x2.2.ext) x2.1, x1.2.trans x2.2⟩) fun _ _ x => x) fun _ _ x => x) (he env)
theorem rep_newList {h : Heap} {X : List Addr} (o : Old X h) {vs : List Value} {ds : List D} (r : Reps h X vs ds) : Rep (h.push { cls := .type "list", data := .seq vs.toArray }) X (.ref h.objs.size) (.list ds) :=
  .list _ vs ds 0 (o.new (get_size h)) (Heap.get?_push_size _ rfl) (r.ext (Ext.push _ _))
theorem rep_newTup {h : Heap} {X : List Addr} (o : Old X h) {vs : List Value} {ds : List D} (r : Reps h X vs ds) : Rep (h.push { cls := .type "tuple", data := .seq vs.toArray }) X (.ref h.objs.size) (.tup ds) :=
  .tup _ vs ds 0 (o.new (get_size h)) (Heap.get?_push_size _ rfl) (r.ext (Ext.push _ _))
theorem ev_list {es : List Expr} {pos : Pos} {ds : List D} (h : Evs g es ds) (hsz : ds.length ≤ 1000 := by exact Nat.le_of_ble_eq_true rfl) : Ev g (.List es pos) (.list ds) := fun A env X s E ha hr =>
  wpAny_List (wpAny_mono (h A env X s E pos ha hr) (fun vs s1 x1 => ⟨by rw [x1.1.length]; show _ ≤ 16777216; omega, rep_newList (hr.ext x1.2).old x1.1, x1.2.trans (Kp.push _ _ _)⟩) fun _ _ x => x)
theorem ev_tup {es : List Expr} {k : Nat} {pos : Pos} {ds : List D} (h : Evs g es ds) (hsz : ds.length ≤ 1000 := by exact Nat.le_of_ble_eq_true rfl) : Ev g (.Tuple es k pos) (.tup ds) := fun A env X s E ha hr =>
  wpAny_Tuple (wpAny_mono (h A env X s E pos ha hr) (fun vs s1 x1 => ⟨by rw [x1.1.length]; show _ ≤ 16777216; omega, rep_newTup (hr.ext x1.2).old x1.1, x1.2.trans (Kp.push _ _ _)⟩) fun _ _ x => x)
end
end Mine
end
section
open PySem PySem.Calls PyProof.Rows
set_option linter.unusedVariables false
namespace Mine
section
variable {g : G}

theorem ev_sub {value slice : Expr} {pos : Pos} {P1 P : VP} {i : Int} (h1 : Evp g value P1) (h2 : Ev g slice (.int i)) (st : Stable P1)
    (ho : ∀ (A : Around) (env : Env) (X : List Addr) (s : Shared) (E : Value → Shared → Prop) (v : Value) (t : Tok), AOk g.n A → Rd g env X s → P1 s.heap X v → wpAny (model g.C.prog g.C.w) A (subscriptTail value slice v (.int i t)) (fun v s' => P s'.heap X v ∧ Kp s s') E s) :
    Evp g (.Subscript value slice pos) P := fun A env X s E ha hr =>
  Subscript_ (wpAny_mono (h1 A env X s E ha hr) (fun o s1 x1 => wpAny_mono (h2 A env X s1 E ha (hr.ext x1.2)) (fun i' s2 x2 => by
    obtain ⟨t, rfl⟩ := rep_int x2.1
    exact wpAny_mono (ho A env X s2 E o t ha ((hr.ext x1.2).ext x2.2) (st _ _ _ _ x2.2.ext x1.1)) (fun v s3 x3 => ⟨x3.1, (x1.2.trans x2.2).trans x3.2⟩) fun _ _ x => x) fun _ _ x => x) fun _ _ x => x)

noncomputable abbrev plainSub (slice : Expr) : Prop := ∀ o i, subscripted slice false o i = operate [o, i] (getItem o i)

/-- an item of a list -/
theorem ev_item {value slice : Expr} {pos : Pos} {i : Int} {ds : List D} {d : D} (h1 : EvL g value ds) (h2 : Ev g slice (.int i)) (h0 : 0 ≤ i) (hd : ds[i.toNat]? = some d) (hfit : i < 2 ^ 63)
    (hs : plainSub slice := by intro _ _; with_unfolding_all rfl) : Ev g (.Subscript value slice pos) d :=
  ev_sub h1 h2 (isL_stable ds) fun A env X s E v t ha hr hv => by
    obtain ⟨a, vs, rfl, hl, hi⟩ := hv
    obtain ⟨x, hx, hx'⟩ := hi.get hd
    exact tail_any hl.isList.typeIs slot_list_getitem.lookup (wpAny_getItem_list hl.isList h0 hfit (by simpa using hx) ⟨hx', Kp.refl _⟩) (hs _ _)
noncomputable def isT (ds : List D) : VP := isD (.tup ds)
theorem ev_itemT {value slice : Expr} {pos : Pos} {i : Int} {ds : List D} {d : D} (h1 : Ev g value (.tup ds)) (h2 : Ev g slice (.int i)) (h0 : 0 ≤ i) (hd : ds[i.toNat]? = some d) (hfit : i < 2 ^ 63)
    (hs : plainSub slice := by intro _ _; with_unfolding_all rfl) : Ev g (.Subscript value slice pos) d :=
  ev_sub h1 h2 (isD_stable _) fun A env X s E v t ha hr hv => by
    obtain ⟨a, vs, n, rfl, hx, hg, hi⟩ := rep_tup hv
    obtain ⟨x, hx, hx'⟩ := hi.get hd
    have ht : IsTup s.heap a vs.toArray := ⟨_, hg, rfl, n, rfl⟩
    have hlt : i.toNat < vs.length := (List.getElem?_eq_some_iff.mp hx).1
    exact item_tupleT ht (by lia) hfit (j := i.toNat) (by
      simp only [seqIndex?]
      have e1 : ¬ (i < 0) := by lia
      have e2 : i.toNat < vs.length := hlt
      simp only [e1, if_false]
      first
        | (rw [if_pos (by lia)])
        | simp; lia) hx ⟨hx', Kp.refl _⟩ (hs _ _)

noncomputable def oi : Option Nat → Option Int
  | none => none
  | some n => some ((n : Nat) : Int)
/-- a slice's bound -/
noncomputable def Part (g : G) (e : Option Expr) (k : Option Nat) : Prop := match e, k with
  | none, none => True
  | some e, some k => Ev g e (.int k)
  | _, _ => False
theorem part_ev {e : Option Expr} {k : Option Nat} (h : Part g e k) (A : Around) (env : Env) (X : List Addr) (s : Shared) (E : Value → Shared → Prop) (ha : AOk g.n A) (hr : Rd g env X s) :
    wpAny (model g.C.prog g.C.w) A (evalPart e env) (fun v s' => IsPart v (oi k) ∧ Kp s s') E s := by
  cases e with
  | none => cases k with
    | none => exact wpAny_pure ⟨.none, Kp.refl _⟩
    | some k => exact h.elim
  | some e => cases k with
    | none => exact h.elim
    | some k => exact wpAny_mono (h A env X s E ha hr) (fun v s' x => by obtain ⟨t, rfl⟩ := rep_int x.1; exact ⟨.int _ _, x.2⟩) fun _ _ x => x
noncomputable def sliceL {α : Type} (lo hi : Option Nat) (l : List α) : List α := (match hi with | none => l | some b => l.take b).drop (lo.getD 0)
theorem pick_slice (items : Array Value) (lo hi : Option Nat) : slicePick items (oi lo) (oi hi) none = (sliceL lo hi items.toList).toArray := by
  rw [slicePick_plain]
  congr 1
  cases lo with
  | none => cases hi with
    | none => simp [oi, sliceL]; exact List.take_of_length_le (by simp)
    | some b =>
      simp only [oi, Option.elim, clipAt_nat, sliceL, Option.getD, List.drop_zero, Nat.sub_zero]
      rw [← Array.length_toList, List.take_eq_take_iff]; lia
  | some a => cases hi with
    | none =>
      simp only [oi, Option.elim, clipAt_nat, sliceL, Option.getD]
      rw [← Array.length_toList]
      by_cases h : a ≤ items.toList.length
      · rw [Nat.min_eq_left h, List.take_of_length_le (by simp)]
      · rw [Nat.min_eq_right (by lia), List.drop_of_length_le (Nat.le_refl _), List.drop_of_length_le (by lia)]; simp
    | some b =>
      simp only [oi, Option.elim, clipAt_nat, sliceL, Option.getD]
      rw [← Array.length_toList, List.drop_take]
      by_cases h : a ≤ items.toList.length
      · rw [Nat.min_eq_left h, List.take_eq_take_iff]; simp; lia
      · rw [show min a items.toList.length = items.toList.length from Nat.min_eq_right (by lia), List.drop_of_length_le (Nat.le_refl _), List.drop_of_length_le (show items.toList.length ≤ a by lia)]; simp
theorem reps_slice {h : Heap} {X : List Addr} (lo hi : Option Nat) {vs : List Value} {ds : List D} (r : Reps h X vs ds) : Reps h X (sliceL lo hi vs) (sliceL lo hi ds) := by
  unfold sliceL
  cases hi with
  | none => exact r.drop _
  | some b => exact (r.take _).drop _
theorem slice_len {α : Type} (lo hi : Option Nat) (l : List α) : (sliceL lo hi l).length ≤ l.length := by
  unfold sliceL; cases hi <;> simp <;> lia

noncomputable def isLs (ds : List D) : VP := fun h X v => ∃ a vs, v = .ref a ∧ h.IsList a vs.toArray ∧ Reps h X vs ds
theorem isLs_stable (ds : List D) : Stable (isLs ds) := fun _ _ _ _ k ⟨a, vs, h1, h2, h3⟩ => ⟨a, vs, h1, h2.at fun o e => k _ o e, h3.ext k⟩
theorem isL.toLs {ds : List D} {h : Heap} {X : List Addr} {v : Value} (x : isL ds h X v) : isLs ds h X v := let ⟨a, vs, h1, h2, h3⟩ := x; ⟨a, vs, h1, h2.isList, h3⟩

theorem ev_slice' {value : Expr} {lo hi : Option Expr} {p pos : Pos} {ds : List D} {a b : Option Nat} (h1 : Evp g value (isLs ds)) (h2 : Part g lo a) (h3 : Part g hi b) (hsz : ds.length ≤ 16777216)
    (ht : ∀ o r, letTemporaryGo value o r = pure () := by intro _ _; rfl) : Ev g (.Subscript value (.Slice lo hi none p) pos) (.list (sliceL a b ds)) := fun A env X s E ha hr =>
  wpAny_Subscript_list_slice (wpAny_mono (h1 A env X s E ha hr) (fun o s1 x1 => wpAny_mono (part_ev h2 A env X s1 E ha (hr.ext x1.2)) (fun vl s2 x2 => wpAny_mono (part_ev h3 A env X s2 E ha ((hr.ext x1.2).ext x2.2)) (fun vu s3 x3 => by
    obtain ⟨l, vs, rfl, hl, hi⟩ := isLs_stable ds _ _ _ _ (x2.2.trans x3.2).ext x1.1
    have r3 := ((hr.ext x1.2).ext x2.2).ext x3.2
    have i2 : IsPart vl (oi a) := x2.1
    refine ⟨l, vs.toArray, _, _, rfl, hl, by rw [List.size_toArray, hi.length]; exact hsz, x2.1, x3.1, ?_, ((x1.2.trans x2.2).trans x3.2).trans ((Kp.push _ _ s3.toks).trans (Kp.push _ _ s3.toks))⟩
    rw [pick_slice]
    have h9 := rep_newList (r3.ext (Kp.push s3 { cls := .type "slice", data := .fields #[vl, vu, .none] } s3.toks)).old ((reps_slice a b hi).ext (Ext.push _ { cls := .type "slice", data := .fields #[vl, vu, .none] }))
    rw [Heap.size_push] at h9
    simpa using h9) fun _ _ x => x) fun _ _ x => x) fun _ _ x => x) ht
theorem ev_slice {value : Expr} {lo hi : Option Expr} {p pos : Pos} {ds : List D} {a b : Option Nat} (h1 : EvL g value ds) (h2 : Part g lo a) (h3 : Part g hi b) (hsz : ds.length ≤ 16777216)
    (ht : ∀ o r, letTemporaryGo value o r = pure () := by intro _ _; rfl) : Ev g (.Subscript value (.Slice lo hi none p) pos) (.list (sliceL a b ds)) :=
  ev_slice' (h1.weak fun _ _ _ x => x.toLs) h2 h3 hsz ht

/-- lists: + and * -/
theorem op_addL {a b : List D} (hsz : a.length + b.length ≤ 16777216) : Op2 g (binaryOp .Add) (isL a) (isL b) (isD (.list (a ++ b))) := fun A X s E v1 v2 ha hg ho h1 h2 => by
  obtain ⟨x, vs, rfl, ⟨n1, l1⟩, r1⟩ := h1; obtain ⟨y, us, rfl, ⟨n2, l2⟩, r2⟩ := h2
  refine PySem.P.add_list l1 l2 ⟨?_, Kp.push _ _ _⟩ (by simp only [List.size_toArray, r1.length, r2.length]; exact hsz)
  have := rep_newList ho (r1.append r2)
  simpa using this
end
end Mine
end
section
open PySem PySem.Calls PyProof.Rows
set_option linter.unusedVariables false
set_option maxRecDepth 100000
namespace Mine
section
variable {g : G}

theorem fold_rep (v : Value) : ∀ (k : Nat) (acc : Array Value), List.foldl (fun x1 x2 => x1 ++ x2) acc (List.replicate k #[v]) = acc ++ (List.replicate k v).toArray
  | 0, acc => by simp
  | k + 1, acc => by
    rw [List.replicate_succ, List.foldl_cons, fold_rep v k]
    apply Array.ext'
    simp [List.replicate_succ]

theorem mulList {A : Around} {s : Shared} {E : Value → Shared → Prop} {x : Addr} {items : Array Value} {n1 : Nat} {y : Int} {u : Tok} {Q : Value → Shared → Prop} {prog : Program} {w : World}
    (l1 : s.heap.get? x = some { cls := .type "list", data := .seq items n1 }) (c0 : ¬(!Builtin.List.listFitsIndex y) = true) (c1 : ¬ items.size * y.toNat > (2 ^ 63 - 1) / 8) (c2 : ¬ Builtin.List.listTooLong (items.size * y.toNat) = true)
    (hq : Q (.ref s.heap.objs.size) { s with heap := s.heap.push { cls := Value.type "list", data := Data.seq (List.foldl (fun x1 x2 => x1 ++ x2) #[] (List.replicate (if items.isEmpty = true then 0 else y.toNat) items)) } }) :
    wpAny (model prog w) A (binaryOp .Mult (.ref x) (.int y u)) Q E s :=
  wpAny_binaryOp_repeat_ref (T := "list") (U := "int") (by decide) ⟨_, l1, rfl⟩ (fun s' => typeIs_int s' _ u) noFill_list_mul F.fills_int_mul F.slot_int_rmul repeat_list F.slot_int_index.lookup
      (call_meets F.slot_int_rmul (typeIs_int s _ u) F.entry_int_rmul (F.args_int_rmul_2 _ _) (int___rmul___int_list _ u x _ n1)
        ⟨l1, rfl, ⟨_, l1, rfl⟩, call_meets F.slot_list_mul ⟨_, l1, rfl⟩ F.entry_list_mul (F.args_list_mul_2 _ _)
          (AutoListH.list___mul___list_int_3 x items n1 y u c0 c1 c2) ⟨l1, hq⟩⟩)
theorem mul_c0 (k : Nat) (hk : k ≤ 16777216) : ¬(!Builtin.List.listFitsIndex ((k : Nat) : Int)) = true := by
  have h9 : Builtin.List.listFitsIndex ((k : Nat) : Int) = true := by
    unfold Builtin.List.listFitsIndex
    simp only [Bool.and_eq_true, decide_eq_true_eq]
    constructor <;> omega
  rw [h9]; decide
theorem mul_c2 (k : Nat) (hk : k ≤ 16777216) : ¬ Builtin.List.listTooLong k = true := by
  unfold Builtin.List.listTooLong
  have : sizeLine = 16777216 := rfl
  simp only [decide_eq_true_eq]
  omega
theorem op_mulL {d : D} {k : Nat} (hk : k ≤ 16777216) : Op2 g (binaryOp .Mult) (isL [d]) (isD (.int k)) (isD (.list (List.replicate k d))) := fun A X s E v1 v2 ha hg ho h1 h2 => by
  obtain ⟨x, vs, rfl, ⟨n1, l1⟩, r1⟩ := h1; obtain ⟨u, rfl⟩ := rep_int h2
  cases r1 with
  | @cons v _ _ _ r1 r2 =>
    cases r2
    have h1 : (#[v] : Array Value).size = 1 := rfl
    obtain ⟨y, hy⟩ : ∃ y : Int, y = ((k : Nat) : Int) := ⟨_, rfl⟩
    have h2 : y.toNat = k := by rw [hy]; exact Int.toNat_natCast k
    rw [← hy]
    refine mulList (items := #[v]) l1 (by rw [hy]; exact mul_c0 k hk) (by rw [h1, h2]; omega) (by rw [h1, h2, Nat.one_mul]; exact mul_c2 k hk) ⟨?_, Kp.push s _ s.toks⟩
    rw [h2]
    have e1 : (if (#[v] : Array Value).isEmpty = true then 0 else k) = k := rfl
    rw [e1, fold_rep]
    have e2 : (#[] : Array Value) ++ (List.replicate k v).toArray = (List.replicate k v).toArray := Array.empty_append
    rw [e2]
    exact rep_newList ho (Reps.replicate r1 k)

/-- a call of a built-in name -/
theorem name_builtin {M : Model} {A : Around} {E : Value → Shared → Prop} {env : Env} {X : List Addr} {s : Shared} {f : Str} {p : Pos} {v : Value} {Q : Value → Shared → Prop} (hr : Rd g env X s) (hk : g.ns.lookup f = some .globalImplicit)
    (hb : f ∈ bnames) (hv : bootBuiltins f = some v) (hd : (f == ("__debug__" : Str)) = false) (h : Q v s) : wpAny M A (eval (.Name f p) env) Q E s := by
  have hkk : env.kindOf f = some .globalImplicit := hr.kind hk (by decide)
  have h1 := hr.glb.bt f hb
  exact Name_function_global hr.fn hkk (loadGlobal_builtin (env := env) (by rw [hr.gl]; exact hr.glb.g) h1.1 (by rw [hr.bi]; exact hr.glb.b) (h1.2.trans hv) h) hd

theorem call1 {f : Str} {p pos : Pos} {e : Expr} {fv : Value} {P1 P : VP} (hk : g.ns.lookup f = some .globalImplicit) (hb : f ∈ bnames) (hv : bootBuiltins f = some fv) (hd : (f == ("__debug__" : Str)) = false) (hf : (∃ T, fv = .type T) ∨ ∃ i, fv = .builtin i)
    (h1 : Evp g e P1) (ho : ∀ (A : Around) (X : List Addr) (s : Shared) (E : Value → Shared → Prop) (v : Value), AOk g.n A → Glb g.C s.heap → Old X s.heap → P1 s.heap X v → wpAny (model g.C.prog g.C.w) A (call fv [v]) (fun v s' => P s'.heap X v ∧ Kp s s') E s)
    (he : ∀ env, starEach [e] env = (false, eval e env) :: starEach [] env := by intro env; rfl) : Evp g (.Call (.Name f p) [e] [] pos) P := fun A env X s E ha hr =>
  Call_Name rfl (name_builtin hr hk hb hv hd (by
    have key : wpAny (model g.C.prog g.C.w) A (spliced (backTo pos (starEach [e] env))) (fun vs s₁ => wpAny (model g.C.prog g.C.w) A (call fv vs) (fun v s' => P s'.heap X v ∧ Kp s s') E s₁) E s :=
      wpAny_items_cons (wpAny_mono (h1 A env X s E ha hr) (fun v s1 x1 => wpAny_items_nil (wpAny_mono (ho A X s1 E v ha (hr.ext x1.2).glb (hr.ext x1.2).old x1.1) (fun r s2 x2 => ⟨x2.1, x1.2.trans x2.2⟩) fun _ _ x => x)) fun _ _ x => x) (he env)
    rcases hf with ⟨T, rfl⟩ | ⟨i, rfl⟩
    · exact PyProof.Rows.callWith_type1 key (he env)
    · exact PyProof.Rows.callWith_builtin1 key (he env)))
theorem call2 {f : Str} {p pos : Pos} {e1 e2 : Expr} {fv : Value} {P1 P2 P : VP} (hk : g.ns.lookup f = some .globalImplicit) (hb : f ∈ bnames) (hv : bootBuiltins f = some fv) (hd : (f == ("__debug__" : Str)) = false) (hf : (∃ T, fv = .type T) ∨ ∃ i, fv = .builtin i)
    (h1 : Evp g e1 P1) (h2 : Evp g e2 P2) (st : Stable P1) (ho : ∀ (A : Around) (X : List Addr) (s : Shared) (E : Value → Shared → Prop) (v v' : Value), AOk g.n A → Glb g.C s.heap → Old X s.heap → P1 s.heap X v → P2 s.heap X v' → wpAny (model g.C.prog g.C.w) A (call fv [v, v']) (fun v s' => P s'.heap X v ∧ Kp s s') E s)
    (he : ∀ env, starEach [e1, e2] env = (false, eval e1 env) :: starEach [e2] env := by intro env; rfl) (he2 : ∀ env, starEach [e2] env = (false, eval e2 env) :: starEach [] env := by intro env; rfl) : Evp g (.Call (.Name f p) [e1, e2] [] pos) P := fun A env X s E ha hr =>
  Call_Name rfl (name_builtin hr hk hb hv hd (by
    have key : wpAny (model g.C.prog g.C.w) A (spliced (backTo pos (starEach [e1, e2] env))) (fun vs s₁ => wpAny (model g.C.prog g.C.w) A (call fv vs) (fun v s' => P s'.heap X v ∧ Kp s s') E s₁) E s :=
      wpAny_items_cons (wpAny_mono (h1 A env X s E ha hr) (fun v s1 x1 => wpAny_items_cons (wpAny_mono (h2 A env X s1 E ha (hr.ext x1.2)) (fun v' s2 x2 => wpAny_items_nil
        (wpAny_mono (ho A X s2 E v v' ha ((hr.ext x1.2).ext x2.2).glb ((hr.ext x1.2).ext x2.2).old (st _ _ _ _ x2.2.ext x1.1) x2.1) (fun r s3 x3 => ⟨x3.1, (x1.2.trans x2.2).trans x3.2⟩) fun _ _ x => x)) fun _ _ x => x) (he2 env)) fun _ _ x => x) (he env)
    have pl : (backTo pos (starEach [e2] env)).any (·.1) = false := by rw [he2 env]; rfl
    rcases hf with ⟨T, rfl⟩ | ⟨i, rfl⟩
    · exact PyProof.Rows.callWith_type1 key (he env) pl
    · exact PyProof.Rows.callWith_builtin1 key (he env) pl))

theorem boot_len : bootBuiltins "len" = some (.builtin "len") := by kernel_rfl
theorem boot_int : bootBuiltins "int" = some (.type "int") := by kernel_rfl
theorem boot_list : bootBuiltins "list" = some (.type "list") := by kernel_rfl
theorem boot_tuple : bootBuiltins "tuple" = some (.type "tuple") := by kernel_rfl
theorem boot_range : bootBuiltins "range" = some (.type "range") := by kernel_rfl
theorem boot_enum : bootBuiltins "enumerate" = some (.type "enumerate") := by kernel_rfl
theorem boot_zip : bootBuiltins "zip" = some (.type "zip") := by kernel_rfl
theorem boot_sum : bootBuiltins "sum" = some (.builtin "sum") := by kernel_rfl
theorem boot_max : bootBuiltins "max" = some (.builtin "max") := by kernel_rfl
theorem boot_abs : bootBuiltins "abs" = some (.builtin "abs") := by kernel_rfl

theorem ev_len {p pos : Pos} {e : Expr} {ds : List D} (h : EvL g e ds) (hsz : ds.length ≤ 16777216) (hk : g.ns.lookup ("len" : Str) = some .globalImplicit := by rfl)
    (he : ∀ env, starEach [e] env = (false, eval e env) :: starEach [] env := by intro env; rfl) : Ev g (.Call (.Name "len" p) [e] [] pos) (.int ds.length) :=
  call1 hk (by decide) boot_len (by decide) (.inr ⟨_, rfl⟩) h (fun A X s E v ha hg ho hv => by
    obtain ⟨a, vs, rfl, hl, hi⟩ := hv
    have e : vs.toArray.size = ds.length := by rw [List.size_toArray, hi.length]
    exact call_len_list hl.isList (by rw [e]; omega) (by rw [e]; exact ⟨.int _ _, Kp.tok _ _⟩)) he
theorem ev_intB {p pos : Pos} {e : Expr} {b : Bool} (h : Ev g e (.bool b)) (hk : g.ns.lookup ("int" : Str) = some .globalImplicit := by rfl)
    (he : ∀ env, starEach [e] env = (false, eval e env) :: starEach [] env := by intro env; rfl) : Ev g (.Call (.Name "int" p) [e] [] pos) (.int (if b then 1 else 0)) :=
  call1 hk (by decide) boot_int (by decide) (.inl ⟨_, rfl⟩) h (fun A X s E v ha hg ho hv => by
    cases rep_bool hv
    exact call_int_bool ⟨.int _ _, Kp.tok _ _⟩) he
theorem ev_intI {p pos : Pos} {e : Expr} {i : Int} (h : Ev g e (.int i)) (hk : g.ns.lookup ("int" : Str) = some .globalImplicit := by rfl)
    (he : ∀ env, starEach [e] env = (false, eval e env) :: starEach [] env := by intro env; rfl) : Ev g (.Call (.Name "int" p) [e] [] pos) (.int i) :=
  call1 hk (by decide) boot_int (by decide) (.inl ⟨_, rfl⟩) h (fun A X s E v ha hg ho hv => by
    obtain ⟨t, rfl⟩ := rep_int hv
    exact call_int_int ⟨.int _ _, Kp.refl _⟩) he
theorem ev_abs {p pos : Pos} {e : Expr} {i : Int} (h : Ev g e (.int i)) (hk : g.ns.lookup ("abs" : Str) = some .globalImplicit := by rfl)
    (he : ∀ env, starEach [e] env = (false, eval e env) :: starEach [] env := by intro env; rfl) : Ev g (.Call (.Name "abs" p) [e] [] pos) (.int (if i < 0 then -i else i)) :=
  call1 hk (by decide) boot_abs (by decide) (.inr ⟨_, rfl⟩) h (fun A X s E v ha hg ho hv => by
    obtain ⟨t, rfl⟩ := rep_int hv
    exact call_abs_int fun u tk => ⟨.int _ _, Kp.tok _ _⟩) he
theorem ev_listL {p pos : Pos} {e : Expr} {ds : List D} (h : EvL g e ds) (hsz : ds.length ≤ 16777216) (hk : g.ns.lookup ("list" : Str) = some .globalImplicit := by rfl)
    (he : ∀ env, starEach [e] env = (false, eval e env) :: starEach [] env := by intro env; rfl) : Ev g (.Call (.Name "list" p) [e] [] pos) (.list ds) :=
  call1 hk (by decide) boot_list (by decide) (.inl ⟨_, rfl⟩) h (fun A X s E v ha hg ho hv => by
    obtain ⟨a, vs, rfl, ⟨n, hl⟩, hi⟩ := hv
    refine call_list_seq a (.inl rfl) hl rfl rfl (fun h' c' hk hD => ?_) (by rw [List.size_toArray, hi.length]; exact hsz)
    exact ⟨.list _ vs ds c' (ho.new (get_size _)) hD (hi.ext hk), Kp.of hk⟩) he
theorem ev_tupleL {p pos : Pos} {e : Expr} {ds : List D} (h : EvL g e ds) (hsz : ds.length ≤ 16777216) (hk : g.ns.lookup ("tuple" : Str) = some .globalImplicit := by rfl)
    (he : ∀ env, starEach [e] env = (false, eval e env) :: starEach [] env := by intro env; rfl) : Ev g (.Call (.Name "tuple" p) [e] [] pos) (.tup ds) :=
  call1 hk (by decide) boot_tuple (by decide) (.inl ⟨_, rfl⟩) h (fun A X s E v ha hg ho hv => by
    obtain ⟨a, vs, rfl, ⟨n, hl⟩, hi⟩ := hv
    refine call_tuple_list (items := vs.toArray) ⟨_, hl, rfl, n, rfl⟩ (fun h' hk => ?_) (by rw [List.size_toArray, hi.length]; exact hsz)
    exact ⟨rep_newTup (ho.ext hk) (hi.ext hk), Kp.of (Ext.trans hk (Ext.push _ _))⟩) he
theorem ev_sum {p pos : Pos} {e : Expr} {ns : List Int} (h : EvL g e (intsD ns)) (hk : g.ns.lookup ("sum" : Str) = some .globalImplicit := by rfl)
    (he : ∀ env, starEach [e] env = (false, eval e env) :: starEach [] env := by intro env; rfl) : Ev g (.Call (.Name "sum" p) [e] [] pos) (.int ns.sum) :=
  call1 hk (by decide) boot_sum (by decide) (.inr ⟨_, rfl⟩) h (fun A X s E v ha hg ho hv => by
    obtain ⟨a, vs, rfl, hl, hi⟩ := hv
    have hI := reps_ints hi
    have hall := hI.allInts
    obtain ⟨xs, hxs⟩ := hall.items
    have hn := nums_intItems xs
    rw [← hxs, hI.numsOf] at hn
    refine sum_intListG ha.hh (hxs ▸ hl.isList) fun h' tk t' hk => ⟨?_, Kp.of hk⟩
    rw [preSum_eq, List.take_of_length_le (by simp), ← hn]
    exact .int _ _) he
theorem ev_max {p pos : Pos} {e1 e2 : Expr} {a b : Int} (h1 : Ev g e1 (.int a)) (h2 : Ev g e2 (.int b)) (hk : g.ns.lookup ("max" : Str) = some .globalImplicit := by rfl)
    (he : ∀ env, starEach [e1, e2] env = (false, eval e1 env) :: starEach [e2] env := by intro env; rfl) (he2 : ∀ env, starEach [e2] env = (false, eval e2 env) :: starEach [] env := by intro env; rfl) : Ev g (.Call (.Name "max" p) [e1, e2] [] pos) (.int (max a b)) :=
  call2 hk (by decide) boot_max (by decide) (.inr ⟨_, rfl⟩) h1 h2 (isD_stable _) (fun A X s E v v' ha hg ho hv hv' => by
    obtain ⟨t, rfl⟩ := rep_int hv; obtain ⟨u, rfl⟩ := rep_int hv'
    refine max_two_ints ha.hh fun h' tk hk => ⟨?_, Kp.of hk⟩
    by_cases q : b > a
    · rw [if_pos q, show max a b = b by omega]; exact .int _ _
    · rw [if_neg q, show max a b = a by omega]; exact .int _ _) he he2
end
end Mine
end
section
open PySem PySem.Calls PyProof.Rows
set_option linter.unusedVariables false
set_option maxRecDepth 100000
namespace Mine

noncomputable def G.with (g : G) (ρ : List (Str × D)) : G := { g with ρ := ρ }
noncomputable def G.set (g : G) (x : Str) (d : D) : G := { g with ρ := (x, d) :: g.ρ }
noncomputable def G.own (g : G) (σ : List (Addr × Own)) : G := { g with σ := σ }

/-- the state of a frame: W its writable addresses, Y those of the callers; B where we count from -/
structure St (g : G) (env : Env) (W Y : List Addr) (B : List Shared) (s : Shared) : Prop where
  rd : Rd g env (W ++ Y) s
  mv : ∀ b ∈ B, Moves W b s
  lw : env.locals ∈ W
  cw : ∀ x c, g.ns.lookup x = some .cell → env.cells.lookup x = some c → c ∈ W
  ap : ∀ x c, env.cells.lookup x = some c → c ≠ env.locals
  inj : ∀ x x' c, g.ns.lookup x = some .cell → env.cells.lookup x = some c → env.cells.lookup x' = some c → x = x'
  ow : ∀ a c, (a, c) ∈ g.σ → a ∈ W ∧ a ≠ env.locals ∧ ∀ x c', (g.ns.lookup x = some .cell ∨ g.ns.lookup x = some .free) → env.cells.lookup x = some c' → a ≠ c'

theorem Heap.Ns.dict {h : Heap} {a : Addr} {m : Str → Option Value} (x : h.Ns a m) : ∃ o es n, h.get? a = some o ∧ o.data = .dict es n := by
  obtain ⟨o, es, ep, ho, hd, _⟩ := x; exact ⟨o, es, ep, ho, hd⟩
theorem ns_alive {h : Heap} {a : Addr} {m : Str → Option Value} (x : h.Ns a m) : ∃ o, h.get? a = some o := let ⟨o, _, _, ho, _⟩ := Heap.Ns.dict x; ⟨o, ho⟩

section
variable {g : G} {env : Env} {W Y : List Addr} {B : List Shared} {s : Shared}

theorem St.kp {s' : Shared} (S : St g env W Y B s) (k : Kp s s') : St g env W Y B s' :=
  ⟨S.rd.ext k, fun b hb => (S.mv b hb).trans (k.moves W), S.lw, S.cw, S.ap, S.inj, S.ow⟩
theorem St.rebase (S : St g env W Y B s) : St g env W Y (s :: B) s := ⟨S.rd, fun b hb => by
  rcases List.mem_cons.mp hb with rfl | hb
  · exact .refl _ _
  · exact S.mv b hb, S.lw, S.cw, S.ap, S.inj, S.ow⟩
theorem St.bases {B' : List Shared} (S : St g env W Y B s) (h : ∀ b ∈ B', b ∈ B) : St g env W Y B' s := ⟨S.rd, fun b hb => S.mv b (h b hb), S.lw, S.cw, S.ap, S.inj, S.ow⟩

/-- forget and reorder names -/
theorem St.sub {ρ : List (Str × D)} (S : St g env W Y B s) (h : ∀ x d, ρ.lookup x = some d → g.ρ.lookup x = some d) : St (g.with ρ) env W Y B s :=
  ⟨⟨S.rd.names, S.rd.fn, S.rd.gl, S.rd.bi, S.rd.glb, S.rd.old, S.rd.fr, S.rd.lns, S.rd.cell, fun x d hx => S.rd.loc x d (h x d hx), S.rd.own, S.rd.cal⟩, S.mv, S.lw, S.cw, S.ap, S.inj, S.ow⟩

/-- own lists and dicts lie apart from dicts of names and cells -/
theorem OwnIs.kept {C : Cx} {h h' : Heap} {X : List Addr} {a b : Addr} {c : Own} (x : OwnIs C h X a c) (hab : a ≠ b) (hs : Heap.SameBut b h h') (kx : Kept X h h') : OwnIs C h' X a c :=
  x.keep (fun o e => (hs.2 a hab).trans e) (fun _ _ r => r.kept kx fun _ h => h) fun _ _ r => r.kept kx fun _ h => h

/-- a change of one own address that is no list -/
theorem Rd.poke {g : G} {env : Env} {X : List Addr} {s : Shared} (r : Rd g env X s) {b : Addr} {h' : Heap} {tk : Nat} (hb : b ∈ X) (hs : Heap.SameBut b s.heap h') (al : ∃ o, h'.get? b = some o)
    (hns : ∃ m, h'.Ns env.locals m) (hcell : ∀ x, (g.ns.lookup x = some .cell ∨ g.ns.lookup x = some .free) → ∃ c v, env.cells.lookup x = some c ∧ h'.IsCell c v)
    (hoff : ∀ a c, (a, c) ∈ g.σ → a ≠ b) {ρ : List (Str × D)} (hloc : ∀ x d, ρ.lookup x = some d → ∃ v, Bd env h' x v ∧ Rep h' X v d) : Rd (g.with ρ) env X { s with heap := h', toks := tk } := by
  have kx : Kept X s.heap h' := (Kept.sameBut hs al).weak fun a ha => by rw [List.mem_singleton.mp ha]; exact hb
  exact ⟨r.names, r.fn, r.gl, r.bi, r.glb.kept kx r.fr, r.old.kept kx, r.fr, hns, hcell, hloc, fun a c hc => ⟨(r.own a c hc).1, (r.own a c hc).2.kept (hoff a c hc) hs kx⟩, fun x c hx => let ⟨o, e⟩ := r.cal x c hx; kx.1 c o e⟩

/-- storing into a name -/
theorem St.store {A : Around} {M : Model} {x : Str} {v : Value} {d : D} {Q : Unit → Shared → Prop} {E : Value → Shared → Prop} (S : St g env W Y B s) (hk : g.ns.lookup x = some .local ∨ g.ns.lookup x = some .cell) (r : Rep s.heap (W ++ Y) v d)
    (h : ∀ s', St (g.set x d) env W Y B s' → Kept W s.heap s'.heap → Q () s') : wpAny M A (storeName env x v) Q E s := by
  rcases hk with hk | hk
  · have hkk : env.kindOf x = some .local := S.rd.kind hk (by decide)
    obtain ⟨m, hm⟩ := S.rd.lns
    refine wpAny_storeName_local hkk hm (fun h' hn hs => h _ ?_ ((Kept.sameBut hs (ns_alive hn)).weak fun a ha => by rw [List.mem_singleton.mp ha]; exact S.lw)) (by rw [S.rd.fn]; rfl)
    have al := ns_alive hn
    have kw : Kept W s.heap h' := (Kept.sameBut hs al).weak fun a ha => by rw [List.mem_singleton.mp ha]; exact S.lw
    have kx : Kept (W ++ Y) s.heap h' := kw.weak fun a ha => List.mem_append_left _ ha
    obtain ⟨oL, es, n, eL, dL⟩ := Heap.Ns.dict hm
    refine ⟨S.rd.poke (ρ := (x, d) :: g.ρ) (List.mem_append_left _ S.lw) hs al ⟨_, hn⟩ (fun y hy => ?_) (fun a c hc q => ?_) (fun y d' hy => ?_), fun b hb => (S.mv b hb).trans ⟨⟨_, _, rfl⟩, kw⟩, S.lw, S.cw, S.ap, S.inj, S.ow⟩
    · obtain ⟨c, w, h1, h2⟩ := S.rd.cell y hy
      exact ⟨c, w, h1, h2.sameBut hs (S.ap y c h1)⟩
    · exact (S.ow a c hc).2.1 q
    · rw [List.lookup_cons] at hy
      cases hb : y == x with
      | true =>
        rw [hb] at hy; cases hy
        have hyx : y = x := beq_iff_eq.mp hb
        subst hyx
        exact ⟨v, .inl ⟨hkk, _, hn, by simp⟩, r.kept kx fun _ h => h⟩
      | false =>
        rw [hb] at hy
        have hyx : y ≠ x := fun q => by rw [q] at hb; simp at hb
        obtain ⟨w, hbd, hr⟩ := S.rd.loc y d' hy
        refine ⟨w, ?_, hr.kept kx fun _ h => h⟩
        rcases hbd with ⟨h1, m', h2, h3⟩ | ⟨h1, c, h2, h3⟩
        · refine .inl ⟨h1, _, hn, ?_⟩
          simp only [if_neg hyx]
          exact (Heap.Ns.agree hm h2 y).trans h3
        · exact .inr ⟨h1, c, h2, h3.sameBut hs (S.ap y c h2)⟩
  · have hkk : env.kindOf x = some .cell := S.rd.kind hk (by decide)
    obtain ⟨c, w, hc, hv⟩ := S.rd.cell x (.inl hk)
    refine wpAny_storeName_cell S.rd.fn hkk hc hv (fun h' hn hs => h { s with heap := h' } ?_ ((Kept.sameBut hs (let ⟨o, ho, _⟩ := hn; ⟨o, ho⟩)).weak fun a ha => by rw [List.mem_singleton.mp ha]; exact S.cw x c hk hc))
    have al : ∃ o, h'.get? c = some o := let ⟨o, ho, _⟩ := hn; ⟨o, ho⟩
    have hcW := S.cw x c hk hc
    have kw : Kept W s.heap h' := (Kept.sameBut hs al).weak fun a ha => by rw [List.mem_singleton.mp ha]; exact hcW
    have kx : Kept (W ++ Y) s.heap h' := kw.weak fun a ha => List.mem_append_left _ ha
    obtain ⟨m, hm⟩ := S.rd.lns
    obtain ⟨oc, eoc, dc⟩ := hv
    refine ⟨S.rd.poke (tk := s.toks) (ρ := (x, d) :: g.ρ) (List.mem_append_left _ hcW) hs al ⟨m, hm.sameBut hs (Ne.symm (S.ap x c hc))⟩ (fun y hy => ?_) (fun a c' hc' q => ?_) (fun y d' hy => ?_), fun b hb => (S.mv b hb).trans ⟨⟨_, _, rfl⟩, kw⟩, S.lw, S.cw, S.ap, S.inj, S.ow⟩
    · obtain ⟨c', w', h1, h2⟩ := S.rd.cell y hy
      by_cases q : c' = c
      · subst q; exact ⟨c', _, h1, hn⟩
      · exact ⟨c', w', h1, h2.sameBut hs q⟩
    · exact (S.ow a c' hc').2.2 x c (.inl hk) hc q
    · rw [List.lookup_cons] at hy
      cases hb : y == x with
      | true =>
        rw [hb] at hy; cases hy
        have hyx : y = x := beq_iff_eq.mp hb
        subst hyx
        exact ⟨v, .inr ⟨.inl hkk, c, hc, hn⟩, r.kept kx fun _ h => h⟩
      | false =>
        rw [hb] at hy
        have hyx : y ≠ x := fun q => by rw [q] at hb; simp at hb
        obtain ⟨w', hbd, hr⟩ := S.rd.loc y d' hy
        refine ⟨w', ?_, hr.kept kx fun _ h => h⟩
        rcases hbd with ⟨h1, m', h2, h3⟩ | ⟨h1, c', h2, h3⟩
        · exact .inl ⟨h1, m', h2.sameBut hs (Ne.symm (S.ap x c hc)), h3⟩
        · exact .inr ⟨h1, c', h2, h3.sameBut hs fun q => hyx (S.inj x y c hk hc (q ▸ h2)).symm⟩
end
end Mine
end
section
open PySem PySem.Calls PyProof.Rows
set_option linter.unusedVariables false
set_option maxRecDepth 100000
namespace Mine
section
variable {g : G} {A : Around} {env : Env} {W Y : List Addr} {B : List Shared} {s : Shared} {E : Value → Shared → Prop} {Q : Flow → Shared → Prop} {rest : List Stmt}

noncomputable abbrev mod (g : G) : Model := model g.C.prog g.C.w
noncomputable abbrev modC (C : Cx) : Model := model C.prog C.w


theorem st_assign {C : Cx} {x : Str} {p pos : Pos} {e : Expr} {d : D} (S : St g env W Y B s) (ha : AOk g.n A) (he : Ev g e d) (hk : g.ns.lookup x = some .local ∨ g.ns.lookup x = some .cell)
    (k : ∀ s', St (g.set x d) env W Y B s' → wpAny (modC C) A (execs rest env) Q E s')
    (hsw : swapsWith e (some (.Name x p)) pos.line env = pure false := by rfl) (hCe : g.C = C := by rfl) :
    wpAny (modC C) A (execs (.Assign [.Name x p] e pos :: rest) env) Q E s := by
  subst hCe
  exact
  wpAny_execs_cons (wpAny_Assign_Name (wpAny_mono (he A env _ s E ha S.rd) (fun v s1 x1 => (S.kp x1.2).store hk x1.1 fun s' S' _ => k s' S') fun _ _ x => x) hsw)

theorem st_ret {C : Cx} {e : Expr} {pos : Pos} {P : VP} (S : St g env W Y B s) (ha : AOk g.n A) (he : Evp g e P) (k : ∀ v s', P s'.heap (W ++ Y) v → St g env W Y B s' → Q (.ret v) s') (hCe : g.C = C := by rfl) :
    wpAny (modC C) A (execs (.Return (some e) pos :: rest) env) Q E s := by
  subst hCe
  exact
  wpAny_execs_cons (wpAny_Return_some (wpAny_mono (he A env _ s E ha S.rd) (fun v s1 x1 => k v s1 x1.1 (S.kp x1.2)) fun _ _ x => x))

theorem st_if {C : Cx} {t : Expr} {b : Bool} {body orelse : List Stmt} {pos : Pos} (S : St g env W Y B s) (ha : AOk g.n A) (ht : Tr g t b)
    (k1 : b = true → ∀ s', St g env W Y B s' → wpAny (modC C) A (execs body env) (fun f s'' => match f with | .next => wpAny (modC C) A (execs rest env) Q E s'' | f => Q f s'') E s')
    (k0 : b = false → ∀ s', St g env W Y B s' → wpAny (modC C) A (execs orelse env) (fun f s'' => match f with | .next => wpAny (modC C) A (execs rest env) Q E s'' | f => Q f s'') E s') (hCe : g.C = C := by rfl) :
    wpAny (modC C) A (execs (.If t body orelse pos :: rest) env) Q E s := by
  subst hCe
  exact
  wpAny_execs_cons (wpAny_If (wpAny_mono (ht A env _ s E ha S.rd) (fun r s1 x1 => by
    obtain ⟨rfl, kp⟩ := x1
    cases r with
    | true => simp only [if_true]; exact k1 rfl s1 (S.kp kp)
    | false => simp only [Bool.false_eq_true, if_false]; exact k0 rfl s1 (S.kp kp)) fun _ _ x => x))
theorem st_done {C : Cx} (h : Q .next s) : wpAny (modC C) A (execs [] env) Q E s := wpAny_execs_nil h

theorem extBut_ext {h h' : Heap} (e : Heap.ExtBut h.objs.size h h') : Ext h h' := fun b o q => e b o (Nat.ne_of_lt (Heap.lt_size q)) q


noncomputable def G.sets (g : G) : List Str → List D → G
  | x :: xs, d :: ds => (g.set x d).sets xs ds
  | _, _ => g
noncomputable abbrev kindOk (g : G) (x : Str) : Prop := g.ns.lookup x = some .local ∨ g.ns.lookup x = some .cell
/-- names stored one by one -/
theorem St.stores {Q : Unit → Shared → Prop} {f : Str → Value → Sem Unit} (hf : ∀ x v (s : Shared) (Q : Unit → Shared → Prop), wpAny (mod g) A (storeName env x v) Q E s → wpAny (mod g) A (f x v) Q E s) :
    ∀ {g' : G}, g'.C = g.C → ∀ (xs : List Str) {vs : List Value} {ds : List D} {s : Shared}, St g' env W Y B s → Reps s.heap (W ++ Y) vs ds → xs.length = ds.length → (∀ x ∈ xs, kindOk g' x) → (∀ s', St (g'.sets xs ds) env W Y B s' → Q () s') →
      wpAny (mod g) A (assignInOrder (xs.map f) vs) Q E s
  | g', hg, [], _, _, s, S, .nil, _, _, h => wpAny_pure (h s S)
  | g', hg, [], _, _, s, S, .cons _ _, hl, _, h => by simp at hl
  | g', hg, x :: xs, _, _, s, S, .nil, hl, _, h => by simp at hl
  | g', hg, x :: xs, v :: vs, d :: ds, s, S, .cons r rs, hl, hk, h => by
    show wpAny _ A (do holding vs (f x v); assignInOrder (xs.map f) vs) _ _ _
    refine wpAny_bind (wpAny_holding (hf x v s _ (S.store (hk x List.mem_cons_self) r fun s' S' kp => ?_)))
    exact St.stores hf (g' := g'.set x d) hg xs S' (rs.kept kp fun a ha => List.mem_append_left _ ha) (by simpa using hl) (fun y hy => hk y (List.mem_cons_of_mem _ hy)) h

/-- the targets are names -/
noncomputable def namesE (xs : List (Str × Pos)) : List Expr := xs.map fun x => .Name x.1 x.2
theorem assignEach_names (env : Env) : ∀ xs : List (Str × Pos), (assignEach (namesE xs) env).map (·.2) = xs.map fun x => assign (.Name x.1 x.2) env
  | [] => rfl
  | x :: xs => by
    show assign (.Name x.1 x.2) env :: (assignEach (namesE xs) env).map (·.2) = _
    rw [assignEach_names env xs]; rfl
theorem assignEach_len (env : Env) : ∀ xs : List (Str × Pos), (assignEach (namesE xs) env).length = xs.length
  | [] => rfl
  | x :: xs => by show (assignEach (namesE xs) env).length + 1 = _; rw [assignEach_len env xs]; rfl
theorem assignEach_star (env : Env) : ∀ xs : List (Str × Pos), (assignEach (namesE xs) env).findIdx? (·.1) = none
  | [] => rfl
  | x :: xs => by
    show List.findIdx? (·.1) ((false, assign (.Name x.1 x.2) env) :: assignEach (namesE xs) env) = none
    rw [List.findIdx?_cons, assignEach_star env xs]; rfl
theorem map_names {α : Type} (f : Str → Value → Sem Unit) : ∀ xs : List (Str × Pos), (xs.map fun x => (fun v => f x.1 v : Value → Sem Unit)) = (xs.map (·.1)).map f
  | [] => rfl
  | x :: xs => by simp

theorem assignNames (xs : List (Str × Pos)) {vs : List Value} {ds : List D} {Q : Unit → Shared → Prop} (S : St g env W Y B s) (r : Reps s.heap (W ++ Y) vs ds) (hl : xs.length = ds.length) (hk : ∀ x ∈ xs, kindOk g x.1)
    (h : ∀ s', St (g.sets (xs.map (·.1)) ds) env W Y B s' → Q () s') : wpAny (mod g) A (assignInOrder (xs.map fun x => assign (.Name x.1 x.2) env) vs) Q E s := by
  have key : ∀ (g' : G), g'.C = g.C → ∀ (xs : List (Str × Pos)) {vs : List Value} {ds : List D} {s : Shared}, St g' env W Y B s → Reps s.heap (W ++ Y) vs ds → xs.length = ds.length → (∀ x ∈ xs, kindOk g' x.1) → (∀ s', St (g'.sets (xs.map (·.1)) ds) env W Y B s' → Q () s') →
      wpAny (mod g) A (assignInOrder (xs.map fun x => assign (.Name x.1 x.2) env) vs) Q E s := by
    intro g' hg xs
    induction xs generalizing g' with
    | nil =>
      intro vs ds s S r hl hk h
      cases r with
      | nil => exact wpAny_pure (h s S)
      | cons _ _ => simp at hl
    | cons x xs ih =>
      intro vs ds s S r hl hk h
      cases r with
      | nil => simp at hl
      | @cons v d vs ds r rs =>
        show wpAny _ A (do holding vs (assign (.Name x.1 x.2) env v); assignInOrder (xs.map fun x => assign (.Name x.1 x.2) env) vs) _ _ _
        refine wpAny_bind (wpAny_holding (assign_Name (S.store (hk x List.mem_cons_self) r fun s' S' kp => ?_)))
        exact ih (g'.set x.1 d) hg S' (rs.kept kp fun a ha => List.mem_append_left _ ha) (by simpa using hl) (fun y hy => hk y (List.mem_cons_of_mem _ hy)) h
  exact key g rfl xs S r hl hk h

theorem assignTuple (xs : List (Str × Pos)) {k : Nat} {tp : Pos} {v : Value} {ds : List D} {Q : Unit → Shared → Prop} (S : St g env W Y B s) (hh : A.handled = none) (r : Rep s.heap (W ++ Y) v (.tup ds)) (hl : xs.length = ds.length) (hk : ∀ x ∈ xs, kindOk g x.1)
    (h : ∀ s', St (g.sets (xs.map (·.1)) ds) env W Y B s' → Q () s') : wpAny (mod g) A (assign (.Tuple (namesE xs) k tp) env v) Q E s := by
  obtain ⟨a, vs, n, rfl, hx, hg, hr⟩ := rep_tup r
  refine wpAny_assign_Tuple hh (items := vs.toArray) ⟨_, hg, rfl, n, rfl⟩ (by rw [assignEach_len, List.size_toArray, hr.length, hl]) (assignEach_star env xs) fun h' he => ?_
  have k' : Kp s { s with heap := h' } := Kp.of (extBut_ext he)
  rw [assignEach_names]
  exact assignNames xs (S.kp k') (hr.ext k'.ext) hl hk h

/-- a, b = .. -/
theorem st_tuple {C : Cx} (xs : List (Str × Pos)) {k : Nat} {tp pos : Pos} {e : Expr} {ds : List D} (S : St g env W Y B s) (ha : AOk g.n A) (he : Ev g e (.tup ds)) (hl : xs.length = ds.length) (hk : ∀ x ∈ xs, kindOk g x.1)
    (kont : ∀ s', St (g.sets (xs.map (·.1)) ds) env W Y B s' → wpAny (modC C) A (execs rest env) Q E s')
    (hs : swapsWithSole [.Tuple (namesE xs) k tp] e pos.line env = pure false) (hw : swappedStores [.Tuple (namesE xs) k tp] e env = pure none) (hCe : g.C = C := by rfl) :
    wpAny (modC C) A (execs (.Assign [.Tuple (namesE xs) k tp] e pos :: rest) env) Q E s := by
  subst hCe
  exact
  wpAny_execs_cons (Assign_Tuple (wpAny_mono (he A env _ s E ha S.rd) (fun v s1 x1 => assignTuple xs (S.kp x1.2) ha.hh x1.1 hl hk fun s' S' => kont s' S') fun _ _ x => x) hs hw)
/-- a, b = .. where the compiler exchanges the stores -/
theorem st_tuple_sw {C : Cx} (xs : List Str) {elts : List Expr} {k : Nat} {tp pos : Pos} {e : Expr} {ds : List D} (S : St g env W Y B s) (ha : AOk g.n A) (he : Ev g e (.tup ds)) (hl : xs.length = ds.length) (hk : ∀ x ∈ xs, kindOk g x)
    (kont : ∀ s', St (g.sets xs.reverse ds.reverse) env W Y B s' → wpAny (modC C) A (execs rest env) Q E s')
    (hs : swapsWithSole [.Tuple elts k tp] e pos.line env = pure false) (hw : swappedStores [.Tuple elts k tp] e env = pure (some xs)) (hCe : g.C = C := by rfl) :
    wpAny (modC C) A (execs (.Assign [.Tuple elts k tp] e pos :: rest) env) Q E s := by
  subst hCe
  exact
  wpAny_execs_cons (Assign_Tuple_swapped (wpAny_mono (he A env _ s E ha S.rd) (fun v s1 x1 => by
    obtain ⟨a, vs, n, rfl, hx, hg, hr⟩ := rep_tup x1.1
    have hlen : xs.length = vs.toArray.size := by rw [List.size_toArray, hr.length, hl]
    rw [hlen]
    refine wpAny_unpackItems_tuple ha.hh (items := vs.toArray) ⟨_, hg, rfl, n, rfl⟩ fun h' he => ?_
    have k' : Kp s1 { s1 with heap := h' } := Kp.of (extBut_ext he)
    have rr : Reps h' (W ++ Y) vs.toArray.toList.reverse ds.reverse := by
      have : ∀ {vs : List Value} {ds : List D}, Reps h' (W ++ Y) vs ds → Reps h' (W ++ Y) vs.reverse ds.reverse := by
        intro vs ds r
        induction vs generalizing ds with
        | nil => cases r; exact .nil
        | cons v vs ih => cases r with | cons r1 r2 => simpa using (ih r2).append (.one r1)
      simpa using this (hr.ext k'.ext)
    exact St.stores (fun x v s Q h => PyProof.Rows.bindName_ h) rfl xs.reverse ((S.kp x1.2).kp k') rr (by simpa using hl) (fun x hx => hk x (List.mem_reverse.mp hx)) fun s' S' => kont s' S') fun _ _ x => x) hs hw)
end
end Mine
end
section
open PySem PySem.Calls PyProof.Rows
set_option linter.unusedVariables false
set_option maxRecDepth 100000
namespace Mine
section
variable {g : G} {A : Around} {env : Env} {W Y : List Addr} {B : List Shared} {s : Shared} {E : Value → Shared → Prop} {Q : Flow → Shared → Prop} {rest : List Stmt}

/-- the expression makes a list that nothing else bears -/
noncomputable def EvN (g : G) (e : Expr) (ds : List D) : Prop := ∀ (A : Around) (env : Env) (X : List Addr) (s : Shared) (E : Value → Shared → Prop), AOk g.n A → Rd g env X s →
  wpAny (mod g) A (eval e env) (fun v s' => (∃ a vs, v = .ref a ∧ s.heap.get? a = none ∧ s'.heap.PlainList a vs.toArray ∧ Reps s'.heap (a :: X) vs ds) ∧ Kp s s') E s

theorem reps_new {h : Heap} {X : List Addr} {a : Addr} (hn : h.get? a = none) {vs : List Value} {ds : List D} (r : Reps h X vs ds) : Reps h (a :: X) vs ds :=
  r.mono fun b o hb e _ => ⟨e, fun q => by
    rcases List.mem_cons.mp q with q | q
    · rw [q, hn] at e; cases e
    · exact hb q⟩
theorem rep_new {h : Heap} {X : List Addr} {a : Addr} (hn : h.get? a = none) {v : Value} {d : D} (r : Rep h X v d) : Rep h (a :: X) v d :=
  r.mono fun b o hb e _ => ⟨e, fun q => by
    rcases List.mem_cons.mp q with q | q
    · rw [q, hn] at e; cases e
    · exact hb q⟩

theorem evN_list {es : List Expr} {pos : Pos} {ds : List D} (h : Evs g es ds) (hsz : ds.length ≤ 1000 := by exact Nat.le_of_ble_eq_true rfl) : EvN g (.List es pos) ds := fun A env X s E ha hr =>
  wpAny_List (wpAny_mono (h A env X s E pos ha hr) (fun vs s1 x1 => ⟨by rw [x1.1.length]; show _ ≤ 16777216; omega, ⟨_, vs, rfl, by
      cases e : s.heap.get? s1.heap.objs.size with
      | none => rfl
      | some o => exact absurd (x1.2.ext _ _ e) (by rw [get_size]; simp), ⟨0, Heap.get?_push_size _ rfl⟩, (reps_new (get_size _) x1.1).ext (Ext.push _ _)⟩, x1.2.trans (Kp.push _ _ _)⟩) fun _ _ x => x)
theorem evN_mul {l r : Expr} {pos : Pos} {d : D} {k : Nat} (h1 : EvL g l [d]) (h2 : Ev g r (.int k)) (hk : k ≤ 16777216) : EvN g (.BinOp l .Mult r pos) (List.replicate k d) := fun A env X s E ha hr =>
  wpAny_BinOp (wpAny_mono (h1 A env X s E ha hr) (fun a s1 x1 => wpAny_mono (h2 A env X s1 E ha (hr.ext x1.2)) (fun b s2 x2 => by
    obtain ⟨x, vs, rfl, ⟨n1, l1⟩, r1⟩ := isL_stable _ _ _ _ _ x2.2.ext x1.1
    obtain ⟨u, rfl⟩ := rep_int x2.1
    cases r1 with
    | @cons v _ _ _ r1 r2 =>
      cases r2
      have k2 := x1.2.trans x2.2
      have h1 : (#[v] : Array Value).size = 1 := rfl
      obtain ⟨y, hy⟩ : ∃ y : Int, y = ((k : Nat) : Int) := ⟨_, rfl⟩
      have h2 : y.toNat = k := by rw [hy]; exact Int.toNat_natCast k
      rw [← hy]
      refine mulList (items := #[v]) l1 (by rw [hy]; exact mul_c0 k hk) (by rw [h1, h2]; omega) (by rw [h1, h2, Nat.one_mul]; exact mul_c2 k hk) ⟨⟨_, List.replicate k v, rfl, ?_, ⟨0, ?_⟩, (reps_new (get_size _) (Reps.replicate r1 k)).ext (Ext.push _ _)⟩, k2.trans (Kp.push s2 _ s2.toks)⟩
      · cases e : s.heap.get? s2.heap.objs.size with
        | none => rfl
        | some o => exact absurd (k2.ext _ _ e) (by rw [get_size]; simp)
      · rw [h2]
        have e1 : (if (#[v] : Array Value).isEmpty = true then 0 else k) = k := rfl
        have e2 : (#[] : Array Value) ++ (List.replicate k v).toArray = (List.replicate k v).toArray := Array.empty_append
        rw [e1, fold_rep, e2]
        exact Heap.get?_push_size _ rfl) fun _ _ x => x) fun _ _ x => x)

theorem St.dead {a : Addr} (S : St g env W Y B s) {b : Shared} (hb : b ∈ B) (hn : s.heap.get? a = none) : b.heap.get? a = none := by
  cases e : b.heap.get? a with
  | none => rfl
  | some o => obtain ⟨o', e'⟩ := (S.mv b hb).kept.1 a o e; rw [hn] at e'; cases e'
/-- one more own address -/
theorem St.addOwnG {s1 : Shared} {a : Addr} {oc : Own} (S : St g env W Y B s) (k : Kp s s1) (hn : s.heap.get? a = none) (hx : OwnIs g.C s1.heap (a :: (W ++ Y)) a oc) :
    St (g.own ((a, oc) :: g.σ)) env (a :: W) Y B s1 ∧ (∀ p ∈ g.σ, p.1 ≠ a) := by
  have S1 := S.kp k
  have al : ∃ o, s1.heap.get? a = some o := hx.alive
  have hf : g.C.hb.get? a = none := S.rd.glb.fresh hn
  have up : ∀ {v : Value} {d : D}, Rep s.heap (W ++ Y) v d → Rep s1.heap (a :: (W ++ Y)) v d := fun r => (rep_new hn r).ext k.ext
  refine ⟨⟨⟨S1.rd.names, S1.rd.fn, S1.rd.gl, S1.rd.bi, S1.rd.glb, fun b hb => ?_, fun b hb => ?_, S1.rd.lns, S1.rd.cell, fun x d hx => ?_, fun b c hb => ?_, S1.rd.cal⟩, fun b hb => (S1.mv b hb).weak fun b hb => List.mem_cons_of_mem _ hb, List.mem_cons_of_mem _ S1.lw, fun x c hk hx => List.mem_cons_of_mem _ (S1.cw x c hk hx), S1.ap, S1.inj, fun b c hb => ?_⟩, fun p hp q => ?_⟩
  · rcases List.mem_cons.mp hb with rfl | hb
    · exact al
    · exact S1.rd.old b hb
  · rcases List.mem_cons.mp hb with rfl | hb
    · exact hf
    · exact S1.rd.fr b hb
  · obtain ⟨v, h1, h2⟩ := S.rd.loc x d hx
    exact ⟨v, h1.ext k.ext, up h2⟩
  · rcases List.mem_cons.mp hb with e | hb
    · cases e; exact ⟨List.mem_cons_self, hx⟩
    · obtain ⟨h1, h2⟩ := S.rd.own b c hb
      exact ⟨List.mem_cons_of_mem _ h1, h2.keep (fun o e => k.ext _ o e) (fun _ _ r => up r) fun _ _ r => (reps_new hn r).ext k.ext⟩
  · rcases List.mem_cons.mp hb with e | hb
    · cases e
      refine ⟨List.mem_cons_self, fun q => ?_, fun x c' hk hx q => ?_⟩
      · obtain ⟨m, hm⟩ := S.rd.lns
        obtain ⟨o, ho⟩ := ns_alive hm
        rw [← q, hn] at ho; cases ho
      · obtain ⟨c, v, h1, o, h2, _⟩ := S.rd.cell x hk
        rw [hx] at h1; cases h1
        rw [← q, hn] at h2; cases h2
    · exact ⟨List.mem_cons_of_mem _ (S.ow b c hb).1, (S.ow b c hb).2⟩
  · obtain ⟨o, e1⟩ := (S.rd.own p.1 p.2 hp).2.alive
    rw [q, hn] at e1; cases e1

theorem St.addOwn {s1 : Shared} {a : Addr} {vs : List Value} {ds : List D} (S : St g env W Y B s) (k : Kp s s1) (hn : s.heap.get? a = none) (hl : s1.heap.PlainList a vs.toArray) (hr : Reps s1.heap (a :: (W ++ Y)) vs ds) :
    St (g.own ((a, .list ds) :: g.σ)) env (a :: W) Y B s1 ∧ (∀ p ∈ g.σ, p.1 ≠ a) := S.addOwnG k hn ⟨vs, hl, hr⟩

/-- a new list bound to a name, the frame's own from here on -/
theorem st_own {C : Cx} {x : Str} {p pos : Pos} {e : Expr} {ds : List D} (S : St g env W Y B s) (ha : AOk g.n A) (he : EvN g e ds) (hk : kindOk g x)
    (k : ∀ a s', St ((g.own ((a, .list ds) :: g.σ)).set x (.own a)) env (a :: W) Y B s' → (∀ p ∈ g.σ, p.1 ≠ a) → a ∉ W ++ Y → (∀ b ∈ B, b.heap.get? a = none) → wpAny (modC C) A (execs rest env) Q E s')
    (hsw : swapsWith e (some (.Name x p)) pos.line env = pure false := by rfl) (hCe : g.C = C := by rfl) :
    wpAny (modC C) A (execs (.Assign [.Name x p] e pos :: rest) env) Q E s := by
  subst hCe
  exact
  wpAny_execs_cons (wpAny_Assign_Name (wpAny_mono (he A env _ s E ha S.rd) (fun v s1 x1 => by
    obtain ⟨⟨a, vs, rfl, hn, hl, hr⟩, kp⟩ := x1
    obtain ⟨S1, hne⟩ := S.addOwn kp hn hl hr
    exact S1.store hk (.own a) fun s' S' _ => k a s' S' hne (S.rd.old.new hn) fun b hb => S.dead hb hn) fun _ _ x => x) hsw)

theorem OwnIs.notCell {C : Cx} {h : Heap} {X : List Addr} {a c : Addr} {o : Own} {v : Option Value} (x : OwnIs C h X a o) (y : h.IsCell c v) : c ≠ a := fun q => by
  obtain ⟨ob, e, d⟩ := y
  cases o with
  | list ds => obtain ⟨vs, ⟨n, e'⟩, _⟩ := x; rw [q, e'] at e; cases e; cases d
  | dict ks => obtain ⟨_, xs, ⟨o, es, ep, h1, _, h3, _⟩, _⟩ := x; rw [q, h1] at e; cases e; rw [h3] at d; cases d

/-- an own list or dict changes -/
theorem St.setOwnG {a : Addr} {c c' : Own} {σ : List (Addr × Own)} {h' : Heap} {tk : Nat} (S : St (g.own ((a, c) :: σ)) env W Y B s) (hne : ∀ p ∈ σ, p.1 ≠ a) (hs : Heap.SameBut a s.heap h') (hx : OwnIs g.C h' (W ++ Y) a c') :
    St (g.own ((a, c') :: σ)) env W Y B { s with heap := h', toks := tk } := by
  have al := hx.alive
  have haO := S.ow a c List.mem_cons_self
  have haW : a ∈ W := haO.1
  have haX : a ∈ W ++ Y := List.mem_append_left _ haW
  have kw : Kept W s.heap h' := (Kept.sameBut hs al).weak fun b hb => by rw [List.mem_singleton.mp hb]; exact haW
  have kx : Kept (W ++ Y) s.heap h' := kw.weak fun b hb => List.mem_append_left _ hb
  obtain ⟨m, hm⟩ := S.rd.lns
  have hL : env.locals ≠ a := fun q => haO.2.1 q.symm
  have hC : ∀ b v, s.heap.IsCell b v → b ≠ a := fun b v y => (S.rd.own a c List.mem_cons_self).2.notCell y
  refine ⟨⟨S.rd.names, S.rd.fn, S.rd.gl, S.rd.bi, S.rd.glb.kept kx S.rd.fr, S.rd.old.kept kx, S.rd.fr, ⟨m, hm.sameBut hs hL⟩, fun x hx => ?_, fun x d hx => ?_, fun b c hb => ?_, fun x c hx => let ⟨o, e⟩ := S.rd.cal x c hx; kx.1 c o e⟩, fun b hb => (S.mv b hb).trans ⟨⟨_, _, rfl⟩, kw⟩, S.lw, S.cw, S.ap, S.inj, fun b c hb => ?_⟩
  · obtain ⟨c, v, h1, h2⟩ := S.rd.cell x hx
    exact ⟨c, v, h1, h2.sameBut hs (hC c v h2)⟩
  · obtain ⟨v, h1, h2⟩ := S.rd.loc x d hx
    refine ⟨v, ?_, h2.kept kx fun _ h => h⟩
    rcases h1 with ⟨h1, m', h3, h4⟩ | ⟨h1, c, h3, h4⟩
    · exact .inl ⟨h1, m', h3.sameBut hs hL, h4⟩
    · exact .inr ⟨h1, c, h3, h4.sameBut hs (hC c _ h4)⟩
  · rcases List.mem_cons.mp hb with e | hb
    · cases e; exact ⟨haX, hx⟩
    · obtain ⟨h1, h2⟩ := S.rd.own b c (List.mem_cons_of_mem _ hb)
      exact ⟨h1, h2.kept (hne _ hb) hs kx⟩
  · rcases List.mem_cons.mp hb with e | hb
    · cases e; exact haO
    · exact S.ow b c (List.mem_cons_of_mem _ hb)
theorem St.setOwn {a : Addr} {ds ds' : List D} {σ : List (Addr × Own)} {h' : Heap} {tk : Nat} {vs' : List Value} (S : St (g.own ((a, .list ds) :: σ)) env W Y B s) (hne : ∀ p ∈ σ, p.1 ≠ a) (hs : Heap.SameBut a s.heap h') (hl : h'.PlainList a vs'.toArray) (hr : Reps s.heap (W ++ Y) vs' ds') :
    St (g.own ((a, .list ds') :: σ)) env W Y B { s with heap := h', toks := tk } := by
  have haW : a ∈ W := (S.ow a (.list ds) List.mem_cons_self).1
  have al : ∃ o, h'.get? a = some o := let ⟨n, e⟩ := hl; ⟨_, e⟩
  have kx : Kept (W ++ Y) s.heap h' := (Kept.sameBut hs al).weak fun b hb => by rw [List.mem_singleton.mp hb]; exact List.mem_append_left _ haW
  exact S.setOwnG hne hs ⟨vs', hl, hr.kept kx fun _ h => h⟩
end
end Mine
end
section
open PySem PySem.Calls PyProof.Rows
set_option linter.unusedVariables false
set_option maxRecDepth 100000
namespace Mine
section
variable {g : G} {A : Around} {env : Env} {W Y : List Addr} {B : List Shared} {s : Shared} {E : Value → Shared → Prop} {Q : Flow → Shared → Prop} {rest : List Stmt}

theorem setSeq {s : Shared} {a : Addr} {vs : List Value} {v : Value} {i : Int} {t : Tok} {n : Nat} {M : Model} {prog : Program} {w : World} {Q : Unit → Shared → Prop} (ho : s.heap.get? a = some { cls := .type "list", data := .seq vs.toArray n }) (h0 : 0 ≤ i) (hi : i.toNat < vs.length) (hfit : i < 2 ^ 63)
    (h : ∀ h', Heap.SameBut a s.heap h' → h'.PlainList a (vs.set i.toNat v).toArray → Q () { s with heap := h' }) : wpAny (model prog w) A (setItem (.ref a) (.int i t) v) Q E s := by
  refine PySem.W.ki_setAt ho h0 hfit (by rw [List.size_toArray]; omega) (h _ (Heap.SameBut.update ..) ?_)
  refine ⟨if (vs.set i.toNat v).length == vs.length then n else n + 1, ?_⟩
  rw [Heap.get?_update_self _ ho (by simp [Obj.mapSeq, Obj.isFreed])]
  simp [Obj.mapSeq]

theorem Ev.inOwn {g : G} {e : Expr} {d : D} (h : Ev g e d) : Ev g e d := h

/-- x[i] = e -/
theorem st_item {C : Cx} {x i e : Expr} {p pos : Pos} {a : Addr} {ds : List D} {σ : List (Addr × Own)} {d : D} {n : Nat} (S : St (g.own ((a, .list ds) :: σ)) env W Y B s) (ha : AOk g.n A) (hne : ∀ p ∈ σ, p.1 ≠ a)
    (he : Ev (g.own ((a, .list ds) :: σ)) e d) (hx : Ev (g.own ((a, .list ds) :: σ)) x (.own a)) (hi : Ev (g.own ((a, .list ds) :: σ)) i (.int n)) (hn : n < ds.length) (hsz : ds.length ≤ 16777216)
    (k : ∀ s', St (g.own ((a, .list (ds.set n d)) :: σ)) env W Y B s' → wpAny (modC C) A (execs rest env) Q E s')
    (hsw : swapsWithSole [.Subscript x i p] e pos.line env = pure false := by rfl) (hss : swappedStores [.Subscript x i p] e env = pure none := by rfl) (hCe : g.C = C := by rfl) :
    wpAny (modC C) A (execs (.Assign [.Subscript x i p] e pos :: rest) env) Q E s := by
  subst hCe
  refine wpAny_execs_cons ?_
  rw [PyProof.Rows.exec_Assign, hsw]
  refine wpAny_bind (wpAny_standAt (wpAny_bind (wpAny_pure ?_)))
  rw [if_neg (by decide)]
  refine wpAny_bind (wpAny_mono (he A env _ s E ha S.rd) (fun v s1 x1 => ?_) fun _ _ x => x)
  rw [hss]
  refine wpAny_bind (wpAny_pure ?_)
  show wpAny _ A (do (assign (.Subscript x i p) env v); pure Flow.next) _ _ _
  refine wpAny_bind ?_
  rw [assign_Subscript]
  have S1 := S.kp x1.2
  refine wpAny_bind (wpAny_holding (wpAny_mono (hx A env _ s1 E ha S1.rd) (fun ov s2 x2 => ?_) fun _ _ x => x))
  have S2 := S1.kp x2.2
  refine wpAny_bind (wpAny_holding (wpAny_mono (hi A env _ s2 E ha S2.rd) (fun iv s3 x3 => ?_) fun _ _ x => x))
  have S3 := S2.kp x3.2
  cases rep_own x2.1
  obtain ⟨t, rfl⟩ := rep_int x3.1
  obtain ⟨vs, ⟨n0, e0⟩, hr⟩ := (S3.rd.own a (.list ds) List.mem_cons_self).2
  refine wpAny_bind (wpAny_standAt (wpAny_bind (wpAny_holding (setSeq (M := mod g) e0 (by omega) (by rw [hr.length]; simpa using hn) (by omega) fun h' hs hl => ?_))))
  refine wpAny_release (wpAny_pure (k _ ?_))
  have := S3.setOwn (g := g) (tk := s3.toks) hne hs hl ((hr.set n (x1.1.ext (x2.2.trans x3.2).ext)))
  exact this

/-- x[i] += e, ints -/
theorem st_augItem {C : Cx} {x i e : Expr} {p pos : Pos} {a : Addr} {ds : List D} {σ : List (Addr × Own)} {n : Nat} {c d : Int} (S : St (g.own ((a, .list ds) :: σ)) env W Y B s) (ha : AOk g.n A) (hne : ∀ p ∈ σ, p.1 ≠ a)
    (he : Ev (g.own ((a, .list ds) :: σ)) e (.int d)) (hx : Ev (g.own ((a, .list ds) :: σ)) x (.own a)) (hi : Ev (g.own ((a, .list ds) :: σ)) i (.int n)) (hn : ds[n]? = some (.int c)) (hsz : ds.length ≤ 16777216)
    (k : ∀ s', St (g.own ((a, .list (ds.set n (.int (c + d)))) :: σ)) env W Y B s' → wpAny (modC C) A (execs rest env) Q E s')
    (hrel : ∀ ov iv new, augStore i ov iv new = (do holding [new, ov, iv] (setItem ov iv new); release [new, ov, iv] []; pure .next) := by intro _ _ _; rfl) (hCe : g.C = C := by rfl) :
    wpAny (modC C) A (execs (.AugAssign (.Subscript x i p) .Add e pos :: rest) env) Q E s := by
  subst hCe
  have hn' : n < ds.length := (List.getElem?_eq_some_iff.mp hn).1
  refine wpAny_execs_cons (wpAny_AugAssign_SubscriptAny (wpAny_mono (hx A env _ s E ha S.rd) (fun ov s1 x1 => wpAny_mono (hi A env _ s1 E ha (S.kp x1.2).rd) (fun iv s2 x2 => ?_) fun _ _ x => x) fun _ _ x => x) hrel)
  have S2 := (S.kp x1.2).kp x2.2
  cases rep_own x1.1
  obtain ⟨t, rfl⟩ := rep_int x2.1
  obtain ⟨vs, ⟨n0, e0⟩, hr⟩ := (S2.rd.own a (.list ds) List.mem_cons_self).2
  obtain ⟨y, hy, ry⟩ := hr.get hn
  obtain ⟨t', rfl⟩ := rep_int ry
  refine wpAny_getItem_list (items := vs.toArray) ⟨_, e0, rfl, n0, rfl⟩ (by omega) (by omega) (by simpa using hy) ?_
  refine wpAny_mono (he A env _ s2 E ha S2.rd) (fun v s3 x3 => ?_) fun _ _ x => x
  obtain ⟨u, rfl⟩ := rep_int x3.1
  have S3 := S2.kp x3.2
  refine PyProof.Rows.iadd_int ?_
  have S4 := S3.kp (Kp.tok s3 (s3.toks + 1))
  obtain ⟨vs4, ⟨n4, e4⟩, hr4⟩ := (S4.rd.own a (.list ds) List.mem_cons_self).2
  refine setSeq (M := mod g) e4 (by omega) (by rw [hr4.length]; simpa using hn') (by omega) fun h' hs hl => ?_
  exact k _ (S4.setOwn (g := g) (tk := s3.toks + 1) hne hs hl (hr4.set n (.int _ _)))

theorem base_name {x : Str} {p : Pos} {attr : Str} {env : Env} {w : Sem Value} : attributeBase (.Name x p) attr env w = w := rfl

/-- x.append(e) -/
theorem st_append {C : Cx} {x : Str} {p ap cp pos : Pos} {e : Expr} {a : Addr} {ds : List D} {σ : List (Addr × Own)} {d : D} (S : St (g.own ((a, .list ds) :: σ)) env W Y B s) (ha : AOk g.n A) (hne : ∀ p ∈ σ, p.1 ≠ a)
    (hx : Ev (g.own ((a, .list ds) :: σ)) (.Name x p) (.own a)) (he : Ev (g.own ((a, .list ds) :: σ)) e d) (hsz : ds.length ≤ 16777216)
    (k : ∀ s', St (g.own ((a, .list (ds ++ [d])) :: σ)) env W Y B s' → wpAny (modC C) A (execs rest env) Q E s')
    (htrees : ∀ env, starEach [e] env = (false, eval e env) :: starEach [] env := by intro env; rfl) (hline : (ap.endLine == cp.line) = true := by rfl) (hCe : g.C = C := by rfl) :
    wpAny (modC C) A (execs (.Expr (.Call (.Attribute (.Name x p) "append" ap) [e] [] cp) pos :: rest) env) Q E s := by
  subst hCe
  refine wpAny_execs_cons (wpAny_Expr (wpAny_Call_append rfl (by rw [htrees]; rfl) hline (by rw [htrees]; rfl) (wpAny_mono (hx A env _ s E ha S.rd) (fun ov s1 x1 => ?_) fun _ _ x => x)) (by unfold interactive; rw [S.rd.fn]; rfl) rfl)
  have S1 := S.kp x1.2
  cases rep_own x1.1
  obtain ⟨vs, ⟨n0, e0⟩, hr⟩ := (S1.rd.own a (.list ds) List.mem_cons_self).2
  refine ⟨a, vs.toArray, rfl, ⟨_, n0, e0, rfl, rfl, rfl⟩, wpAny_mono (he A env _ s1 E ha S1.rd) (fun y s2 x2 => ?_) fun _ _ x => x⟩
  have S2 := S1.kp x2.2
  refine wpAny_list_append_plain (items := vs.toArray) ⟨n0, x2.2.ext _ _ e0⟩ (fun h' hl hs => ?_) (by rw [List.size_toArray, hr.length]; exact hsz)
  have hl' : h'.PlainList a (vs ++ [y]).toArray := by simpa using hl
  exact k _ (S2.setOwn (g := g) (tk := s2.toks) hne hs hl' ((hr.ext x2.2.ext).append (.one x2.1)))
end
end Mine
end
section
open PySem PySem.Calls PyProof.Rows
set_option linter.unusedVariables false
set_option maxRecDepth 100000
namespace Mine

/-- what a call of a def of the text does: bw the own lists that it is handed, bw' as it leaves them -/
noncomputable def FnC (C : Cx) (n : Nat) (f : Str) (ds : List D) (bw : List (Addr × Own)) (out : D) (bw' : List (Addr × Own)) : Prop :=
  ∀ (A : Around) (X : List Addr) (s : Shared) (E : Value → Shared → Prop) (fa : Addr) (vals : List Value), AOk n A → Glb C s.heap → Old X s.heap → Fresh C X → C.mg f = some (.ref fa) → Reps s.heap X vals ds →
    (∀ a c, (a, c) ∈ bw → a ∈ X ∧ OwnIs C s.heap X a c) →
    wpAny (model C.prog C.w) A (call (.ref fa) vals) (fun v s' => Rep s'.heap X v out ∧ Moves (bw.map (·.1)) s s' ∧ (∀ a c, (a, c) ∈ bw' → OwnIs C s'.heap X a c)) E s
noncomputable abbrev FnP (C : Cx) (n : Nat) (f : Str) (ds : List D) (out : D) : Prop := FnC C n f ds [] out []

theorem bindL_skip {kd : Str → Option NameKind} {x : Str} : ∀ {bs : List (Str × Value)} {m : Str → Option Value}, (∀ v, (x, v) ∉ bs) → bindL kd bs m x = m x
  | [], _, _ => rfl
  | (n, v) :: r, m, h => by
    unfold bindL
    rw [bindL_skip fun w hw => h w (List.mem_cons_of_mem _ hw)]
    have : x ≠ n := fun q => h v (by rw [q]; exact List.mem_cons_self)
    split
    · simp [this]
    · rfl
theorem bindC_skip {kd : Str → Option NameKind} {x : Str} : ∀ {bs : List (Str × Value)} {m : Str → Option Value}, (∀ v, (x, v) ∉ bs) → bindC kd bs m x = m x
  | [], _, _ => rfl
  | (n, v) :: r, m, h => by
    unfold bindC
    rw [bindC_skip fun w hw => h w (List.mem_cons_of_mem _ hw)]
    have : x ≠ n := fun q => h v (by rw [q]; exact List.mem_cons_self)
    split
    · rfl
    · simp [this]
theorem bindL_of {kd : Str → Option NameKind} {x : Str} {v : Value} (hk : kd x = some .local) : ∀ {bs : List (Str × Value)} {m : Str → Option Value}, (bs.map (·.1)).Nodup → (x, v) ∈ bs → bindL kd bs m x = some v
  | (n, w) :: r, m, hn, hm => by
    rw [List.map_cons, List.nodup_cons] at hn
    unfold bindL
    rcases List.mem_cons.mp hm with e | hm
    · cases e
      rw [bindL_skip fun w hw => hn.1 (List.mem_map.mpr ⟨_, hw, rfl⟩), if_pos hk]; simp
    · exact bindL_of hk hn.2 hm
theorem bindC_of {kd : Str → Option NameKind} {x : Str} {v : Value} (hk : kd x ≠ some .local) : ∀ {bs : List (Str × Value)} {m : Str → Option Value}, (bs.map (·.1)).Nodup → (x, v) ∈ bs → bindC kd bs m x = some v
  | (n, w) :: r, m, hn, hm => by
    rw [List.map_cons, List.nodup_cons] at hn
    unfold bindC
    rcases List.mem_cons.mp hm with e | hm
    · cases e
      rw [bindC_skip fun w hw => hn.1 (List.mem_map.mpr ⟨_, hw, rfl⟩), if_neg hk]; simp
    · exact bindC_of hk hn.2 hm
theorem cellsFrom_some {x : Str} : ∀ {names : List (Str × NameKind)} {n : Nat} {acc : List (Str × Addr)}, ((x, NameKind.cell) ∈ names ∨ (acc.lookup x).isSome = true) → ((cellsFrom n names acc).lookup x).isSome = true
  | [], _, _, h => by rcases h with h | h; cases h; exact h
  | (y, k) :: r, n, acc, h => by
    unfold cellsFrom
    split
    · rename_i hk
      apply cellsFrom_some
      rcases h with h | h
      · rcases List.mem_cons.mp h with e | h
        · cases e; right; simp
        · exact .inl h
      · right
        rw [List.lookup_cons]
        cases x == y with
        | true => rfl
        | false => exact h
    · rename_i hk
      apply cellsFrom_some
      rcases h with h | h
      · rcases List.mem_cons.mp h with e | h
        · cases e; exact absurd rfl hk
        · exact .inl h
      · exact .inr h

theorem zip_lookup {h : Heap} {X : List Addr} {x : Str} {d : D} : ∀ {ps : List Str} {vals : List Value} {ds : List D}, Reps h X vals ds → (ps.zip ds).lookup x = some d → ∃ v, (x, v) ∈ ps.zip vals ∧ Rep h X v d
  | [], _, _, _, e => by simp at e
  | _ :: _, _, _, .nil, e => by simp at e
  | p :: ps, _, _, .cons r rs, e => by
    rw [List.zip_cons_cons, List.lookup_cons] at e
    cases hb : x == p with
    | true =>
      rw [hb] at e; cases e
      rw [beq_iff_eq.mp hb]
      exact ⟨_, by rw [List.zip_cons_cons]; exact List.mem_cons_self, r⟩
    | false =>
      rw [hb] at e
      obtain ⟨v, h1, h2⟩ := zip_lookup rs e
      exact ⟨v, by rw [List.zip_cons_cons]; exact List.mem_cons_of_mem _ h1, h2⟩
theorem zip_fst : ∀ {ps : List Str} {vals : List Value}, ((ps.zip vals).map (·.1)).Sublist ps
  | [], _ => by simp
  | p :: ps, [] => by simp
  | p :: ps, v :: vs => by simpa using zip_fst

theorem Moves.drop {W V : List Addr} {s s' : Shared} (m : Moves W s s') (hw : ∀ a ∈ W, a ∈ V ∨ s.heap.get? a = none) : Moves V s s' :=
  ⟨m.same, m.kept.1, fun b o hb e => m.kept.2 b o (fun q => (hw b q).elim hb fun z => by rw [z] at e; cases e) e⟩

/-- the body's own contract -/
noncomputable def BodyOk (C : Cx) (n : Nat) (d : DefRec) (ps : List Str) (ds : List D) (bw : List (Addr × Own)) (out : D) (bw' : List (Addr × Own)) : Prop :=
  ∀ (A : Around) (env : Env) (W0 Y : List Addr) (s0 s : Shared) (E : Value → Shared → Prop), AOk n A → (∀ a ∈ W0, s0.heap.get? a = none) → St ⟨C, n, d.scope.names, ps.zip ds, bw⟩ env (W0 ++ bw.map (·.1)) Y [s0] s →
    wpAny (model C.prog C.w) A (execs d.body env) (fun fl s' => ∃ v W1, (match fl with | Flow.ret v => v | _ => Value.none) = v ∧ (∀ a ∈ W1, s0.heap.get? a = none) ∧ Rep s'.heap Y v out ∧ Moves (W1 ++ bw.map (·.1)) s0 s' ∧ (∀ a c, (a, c) ∈ bw' → OwnIs C s'.heap Y a c)) E s

theorem fn_ok {C : Cx} {n : Nat} (d : DefRec) (hd : d ∈ C.defs) (ps : List Str) {ds : List D} {bw bw' : List (Addr × Own)} {out : D} (hl : ps.length = ds.length)
    (hbind : ∀ (pm code doc : Value) (vals : List Value), vals.length = ps.length → bindArgs (docDef d.name d.params d.body d.scope pm code doc) ⟨vals, []⟩ = pure (ps.zip vals))
    (hnd : ps.Nodup) (hkind : ∀ x ∈ ps, d.scope.names.lookup x = some .local ∨ d.scope.names.lookup x = some .cell)
    (hcells : ∀ x k, d.scope.names.lookup x = some k → k ≠ .free)
    (hco : d.scope.isCoroutine = false) (hgen : d.scope.isGenerator = false) (hk : d.scope.kind = .function)
    (body : BodyOk C n d ps ds bw out bw') : FnC C (n + 1) d.name ds bw out bw' := by
  intro A X s E fa vals hA hG hO hF hfa hR hbw
  obtain ⟨a, o, pm, code, doc, h1, h2, h3, h4⟩ := hG.fn d hd
  rw [hfa] at h1; cases h1
  have hlv : vals.length = ps.length := by rw [hR.length, hl]
  have mem_cell : ∀ x, d.scope.names.lookup x = some .cell → ((cellsFrom (s.heap.objs.size + 1) d.scope.names []).lookup x).isSome = true := fun x hx => cellsFrom_some (.inl (mem_of_lookup hx))
  refine wpAny_call (codeAny_call_cells (fd := docDef d.name d.params d.body d.scope pm code doc) (binds := ps.zip vals) hA.room h2 h3 hG.nolimit h4 rfl (hbind pm code doc vals hlv) rfl (fun x hx => ?_) (fun s₁ I => ?_) hco hgen hk)
  · have hxp : x.1 ∈ ps := zip_fst.subset (List.mem_map.mpr ⟨x, hx, rfl⟩)
    rcases hkind _ hxp with q | q
    · exact .inl q
    · exact .inr ⟨q, mem_cell _ q⟩
  · have hnd' : ((ps.zip vals).map (·.1)).Nodup := hnd.sublist zip_fst
    generalize hee : callEnvC (docDef d.name d.params d.body d.scope pm code doc) s.heap.objs.size fa = env at I ⊢
    have hsc : env.scope = d.scope := by rw [← hee]; rfl
    have hLo : env.locals = s.heap.objs.size := by rw [← hee]; rfl
    have hcl : env.cells = cellsFrom (s.heap.objs.size + 1) d.scope.names [] := by rw [← hee]; rfl
    have hkO : ∀ x, env.kindOf x = d.scope.names.lookup x := fun x => by unfold Env.kindOf; rw [hsc]
    have hkeep : Ext s.heap s₁.heap := I.toInCall.keep
    have hsame := I.toInCall.same
    have dead : ∀ b, s.heap.objs.size ≤ b → s.heap.get? b = none := fun b hb => Heap.get?_none_of_le hb
    obtain ⟨Wc, hWc⟩ : ∃ Wc, Wc = d.scope.names.filterMap fun x => env.cells.lookup x.1 := ⟨_, rfl⟩
    have hWm : ∀ c ∈ Wc, ∃ x, env.cells.lookup x = some c := fun c hc => by
      rw [hWc] at hc
      obtain ⟨x, _, hx⟩ := List.mem_filterMap.mp hc
      exact ⟨_, hx⟩
    have hWi : ∀ x c, d.scope.names.lookup x = some .cell → env.cells.lookup x = some c → c ∈ Wc := fun x c hx hc => by
      rw [hWc]; exact List.mem_filterMap.mpr ⟨(x, .cell), mem_of_lookup hx, hc⟩
    have above : ∀ x c, env.cells.lookup x = some c → s.heap.objs.size < c := fun x c hc => by
      have := I.above x c (mem_of_lookup hc)
      rwa [hLo] at this
    have hW0 : ∀ b ∈ env.locals :: Wc, s.heap.get? b = none := fun b hb => by
      rcases List.mem_cons.mp hb with q | hb
      · rw [q, hLo]; exact dead _ (Nat.le_refl _)
      · obtain ⟨x, hc⟩ := hWm b hb
        exact dead _ (Nat.le_of_lt (above x b hc))
    have hal : ∀ b ∈ env.locals :: Wc, ∃ o, s₁.heap.get? b = some o := fun b hb => by
      rcases List.mem_cons.mp hb with q | hb
      · rw [q]; exact ns_alive I.toInCall.ns
      · obtain ⟨x, hc⟩ := hWm b hb
        have ⟨o', ho', _⟩ := I.cell x b hc
        exact ⟨o', ho'⟩
    have hkp : Kp s s₁ := ⟨hsame, hkeep⟩
    have hXW : ∀ b ∈ (env.locals :: Wc) ++ bw.map (·.1) ++ X, b ∈ X ∨ b ∈ env.locals :: Wc := fun b hb => by
      rcases List.mem_append.mp hb with hb | hb
      · rcases List.mem_append.mp hb with hb | hb
        · exact .inr hb
        · obtain ⟨⟨a', c⟩, hc, rfl⟩ := List.mem_map.mp hb
          exact .inl (hbw a' c hc).1
      · exact .inl hb
    have up : ∀ {v : Value} {d : D}, Rep s.heap X v d → Rep s₁.heap ((env.locals :: Wc) ++ bw.map (·.1) ++ X) v d := fun r => r.mono fun b o' hx hg _ => ⟨hkeep b o' hg, fun q => by
      rcases hXW b q with q | q
      · exact hx q
      · rw [hW0 b q] at hg; cases hg⟩
    have ups : ∀ {v : List Value} {d : List D}, Reps s.heap X v d → Reps s₁.heap ((env.locals :: Wc) ++ bw.map (·.1) ++ X) v d := fun r => r.mono fun b o' hx hg _ => ⟨hkeep b o' hg, fun q => by
      rcases hXW b q with q | q
      · exact hx q
      · rw [hW0 b q] at hg; cases hg⟩
    have S : St ⟨C, n, d.scope.names, ps.zip ds, bw⟩ env ((env.locals :: Wc) ++ bw.map (·.1)) X [s] s₁ := by
      refine ⟨⟨fun x k h => .inl ((hkO x).trans h), by rw [hsc]; exact hk, by rw [← hee]; rfl, by rw [← hee]; rfl, hG.ext hkeep, fun b hb => ?_, fun b hb => ?_, ⟨_, I.toInCall.ns⟩, fun x hx => ?_, fun x dd hx => ?_, fun b c hb => ?_, fun x c hx => let ⟨o, e, _⟩ := I.cell x c hx; ⟨o, e⟩⟩, fun b hb => ?_, List.mem_append_left _ List.mem_cons_self, fun x c hx hc => List.mem_append_left _ (List.mem_cons_of_mem _ (hWi x c hx hc)), fun x c hc q => ?_, fun x x' c _ h h' => ?_, fun b c hb => ?_⟩
      · rcases hXW b hb with q | q
        · obtain ⟨o', e⟩ := hO b q; exact ⟨o', hkeep _ _ e⟩
        · exact hal b q
      · rcases hXW b hb with q | q
        · exact hF b q
        · exact hG.fresh (hW0 b q)
      · rcases hx with hx | hx
        · obtain ⟨c, hc⟩ := Option.isSome_iff_exists.mp (mem_cell x hx)
          rw [← hcl] at hc
          exact ⟨c, _, hc, I.cell x c hc⟩
        · exact absurd rfl (hcells x _ hx)
      · obtain ⟨v, hv, hr⟩ := zip_lookup hR hx
        refine ⟨v, ?_, up hr⟩
        have hxp : x ∈ ps := zip_fst.subset (List.mem_map.mpr ⟨(x, v), hv, rfl⟩)
        rcases hkind x hxp with q | q
        · exact .inl ⟨(hkO x).trans q, _, I.toInCall.ns, bindL_of ((hkO x).trans q) hnd' hv⟩
        · obtain ⟨c, hc⟩ := Option.isSome_iff_exists.mp (mem_cell x q)
          rw [← hcl] at hc
          refine .inr ⟨.inl ((hkO x).trans q), c, hc, ?_⟩
          have := I.cell x c hc
          rwa [bindC_of (by rw [hkO x, q]; decide) hnd' hv] at this
      · obtain ⟨b1, b2⟩ := hbw b c hb
        exact ⟨List.mem_append_right _ b1, b2.keep (fun o' e => hkeep _ _ e) (fun _ _ r => up r) fun _ _ r => ups r⟩
      · rw [List.mem_singleton.mp hb]; exact hkp.moves _
      · have := above x c hc
        rw [q, hLo] at this
        exact Nat.lt_irrefl _ this
      · exact name_of_addr I.apart (mem_of_lookup h) (mem_of_lookup h')
      · have hb2 := (hbw b c hb).2.alive
        refine ⟨List.mem_append_right _ (List.mem_map.mpr ⟨_, hb, rfl⟩), fun q => ?_, fun x c' _ hc q => ?_⟩
        · obtain ⟨o', e⟩ := hb2
          rw [q, hW0 _ List.mem_cons_self] at e; cases e
        · obtain ⟨o', e⟩ := hb2
          rw [q, dead c' (Nat.le_of_lt (above x c' hc))] at e; cases e
    have key := body (A.deeper env) env (env.locals :: Wc) X s s₁
    refine wpAny_mono (key _ (hA.deeper env) hW0 S) (fun fl s' hfl => ?_) fun _ _ x => x
    obtain ⟨v, W1, rfl, hd1, hr1, hm1, ho1⟩ := hfl
    refine ⟨hr1, hm1.drop fun b hb => ?_, ho1⟩
    rcases List.mem_append.mp hb with hb | hb
    · exact .inr (hd1 b hb)
    · exact .inl hb
end Mine
end
section
open PySem PySem.Calls PyProof.Rows
set_option linter.unusedVariables false
set_option maxRecDepth 100000
namespace Mine
section
variable {g : G} {A : Around} {env : Env} {W Y : List Addr} {B : List Shared} {s : Shared} {E : Value → Shared → Prop} {Q : Flow → Shared → Prop} {rest : List Stmt}

/-- arguments of a call, purely -/
noncomputable def EvA (g : G) (es : List Expr) (ds : List D) : Prop := ∀ (A : Around) (env : Env) (X : List Addr) (s : Shared) (E : Value → Shared → Prop) (pos : Pos) (fa : Addr) (o : Obj) (fd : FuncData) (Q : Value → Shared → Prop), AOk g.n A → Rd g env X s →
  s.heap.get? fa = some o → o.data = .func fd → (∀ vs s', Reps s'.heap X vs ds → Kp s s' → wpAny (mod g) A (call (.ref fa) vs) Q E s') → wpAny (mod g) A (callWith pos (.ref fa) [] (backTo pos (starEach es env)) []) Q E s
theorem evA {es : List Expr} {ds : List D} (h : Evs g es ds) (hne : ∃ e r, es = e :: r ∧ ∀ env, starEach (e :: r) env = (false, eval e env) :: starEach r env) : EvA g es ds := fun A env X s E pos fa o fd Q ha hr ho hd k => by
  obtain ⟨e, r, rfl, he⟩ := hne
  refine callWith_function (o := o) (fd := fd) ?_
  have h1 := h A env X s E pos ha hr
  rw [he env] at h1 ⊢
  refine evalArgs_plain (wpAny_mono h1 (fun vs s' x => ?_) fun _ _ x => x)
  exact ⟨⟨x.2.ext _ _ ho, hd⟩, k vs s' x.1 x.2⟩

theorem Glb.at {C : Cx} {h : Heap} (T : Glb C h) {f : Str} (hd : ∃ d ∈ C.defs, d.name = f) : ∃ a o fd, C.mg f = some (.ref a) ∧ h.get? a = some o ∧ o.data = .func fd := by
  obtain ⟨d, hd, rfl⟩ := hd
  obtain ⟨a, o, pm, code, doc, h1, h2, h3, h4⟩ := T.fn d hd
  exact ⟨a, o, _, h1, h2, h3⟩

theorem name_def {M : Model} {f : Str} {p : Pos} {v : Value} {X : List Addr} {Q : Value → Shared → Prop} (hr : Rd g env X s) (hk : g.ns.lookup f = some .globalImplicit) (hv : g.C.mg f = some v) (hd : (f == ("__debug__" : Str)) = false) (h : Q v s) :
    wpAny M A (eval (.Name f p) env) Q E s :=
  Name_function_global hr.fn (hr.kind hk (by decide)) (loadGlobal_global (env := env) (by rw [hr.gl]; exact hr.glb.g) hv h) hd

/-- a call of a pure def -/
theorem ev_call {f : Str} {p pos : Pos} {es : List Expr} {ds : List D} {d : D} (hf : FnP g.C g.n f ds d) (h : Evs g es ds)
    (hne : ∃ e r, es = e :: r ∧ ∀ env, starEach (e :: r) env = (false, eval e env) :: starEach r env := by exact ⟨_, _, rfl, fun _ => rfl⟩)
    (hdef : ∃ d ∈ g.C.defs, d.name = f := by assumption) (hk : g.ns.lookup f = some .globalImplicit := by rfl) (hd : (f == ("__debug__" : Str)) = false := by decide) : Ev g (.Call (.Name f p) es [] pos) d := fun A env X s E ha hr => by
  obtain ⟨fa, o, fd, h1, h2, h3⟩ := hr.glb.at hdef
  refine Call_Name rfl (name_def hr hk h1 hd (evA h hne A env X s E pos fa o fd _ ha hr h2 h3 fun vs s' r k => ?_))
  have hr' := hr.ext k
  exact wpAny_mono (hf A X s' E fa vs ha hr'.glb hr'.old hr'.fr h1 r (fun _ _ q => by cases q)) (fun v s'' x => ⟨x.1, k.trans x.2.1.kp⟩) fun _ _ x => x

/-- an expression that changes own lists -/
noncomputable def Evx (g g' : G) (e : Expr) (P : VP) : Prop := ∀ (A : Around) (env : Env) (W Y : List Addr) (B : List Shared) (s : Shared) (E : Value → Shared → Prop), AOk g.n A → St g env W Y B s →
  wpAny (mod g) A (eval e env) (fun v s' => P s'.heap (W ++ Y) v ∧ St g' env W Y B s' ∧ Moves W s s') E s
theorem Evp.x {e : Expr} {P : VP} (h : Evp g e P) : Evx g g e P := fun A env W Y B s E ha S =>
  wpAny_mono (h A env _ s E ha S.rd) (fun v s' x => ⟨x.1, S.kp x.2, x.2.moves W⟩) fun _ _ x => x

theorem Kept.ns {W : List Addr} {h h' : Heap} (k : Kept W h h') {a : Addr} {m : Str → Option Value} (ha : a ∉ W) (x : h.Ns a m) : h'.Ns a m := x.at' fun o e => k.2 a o ha e
theorem Kept.cell {W : List Addr} {h h' : Heap} (k : Kept W h h') {c : Addr} {v : Option Value} (hc : c ∉ W) (x : h.IsCell c v) : h'.IsCell c v := let ⟨o, e, d⟩ := x; ⟨o, k.2 c o hc e, d⟩

/-- an own list or dict changes -/
theorem St.setOwnM {a : Addr} {c c' : Own} {σ : List (Addr × Own)} {s' : Shared} (S : St (g.own ((a, c) :: σ)) env W Y B s) (hne : ∀ p ∈ σ, p.1 ≠ a) (hm : Moves [a] s s') (hx : OwnIs g.C s'.heap (W ++ Y) a c') :
    St (g.own ((a, c') :: σ)) env W Y B s' := by
  have haO := S.ow a c List.mem_cons_self
  have haW : a ∈ W := haO.1
  have haX : a ∈ W ++ Y := List.mem_append_left _ haW
  have kw : Moves W s s' := hm.weak fun b hb => by rw [List.mem_singleton.mp hb]; exact haW
  have kx : Kept (W ++ Y) s.heap s'.heap := kw.kept.weak fun b hb => List.mem_append_left _ hb
  obtain ⟨m, hmm⟩ := S.rd.lns
  have hL : env.locals ∉ [a] := fun q => haO.2.1 (List.mem_singleton.mp q).symm
  have hC : ∀ b v, s.heap.IsCell b v → b ∉ [a] := fun b v y q => (S.rd.own a c List.mem_cons_self).2.notCell y (List.mem_singleton.mp q)
  refine ⟨⟨S.rd.names, S.rd.fn, S.rd.gl, S.rd.bi, S.rd.glb.kept kx S.rd.fr, S.rd.old.kept kx, S.rd.fr, ⟨m, hm.kept.ns hL hmm⟩, fun x hx => ?_, fun x d hx => ?_, fun b c hb => ?_, fun x c hx => let ⟨o, e⟩ := S.rd.cal x c hx; kx.1 c o e⟩, fun b hb => (S.mv b hb).trans kw, S.lw, S.cw, S.ap, S.inj, fun b c hb => ?_⟩
  · obtain ⟨c, v, h1, h2⟩ := S.rd.cell x hx
    exact ⟨c, v, h1, hm.kept.cell (hC c v h2) h2⟩
  · obtain ⟨v, h1, h2⟩ := S.rd.loc x d hx
    refine ⟨v, ?_, h2.kept kx fun _ h => h⟩
    rcases h1 with ⟨h1, m', h3, h4⟩ | ⟨h1, c, h3, h4⟩
    · exact .inl ⟨h1, m', hm.kept.ns hL h3, h4⟩
    · exact .inr ⟨h1, c, h3, hm.kept.cell (hC c _ h4) h4⟩
  · rcases List.mem_cons.mp hb with e | hb
    · cases e; exact ⟨haX, hx⟩
    · obtain ⟨h1, h2⟩ := S.rd.own b c (List.mem_cons_of_mem _ hb)
      exact ⟨h1, h2.keep (fun o e => hm.kept.2 b o (fun q => hne _ hb (List.mem_singleton.mp q)) e) (fun _ _ r => r.kept kx fun _ h => h) fun _ _ r => r.kept kx fun _ h => h⟩
  · rcases List.mem_cons.mp hb with e | hb
    · cases e; exact haO
    · exact S.ow b c (List.mem_cons_of_mem _ hb)

/-- a call of a def that changes an own list -/
theorem evx_call {f : Str} {p pos : Pos} {es : List Expr} {ds : List D} {d : D} {a : Addr} {c c' : Own} {σ : List (Addr × Own)} (hf : FnC g.C g.n f ds [(a, c)] d [(a, c')]) (h : Evs (g.own ((a, c) :: σ)) es ds) (hnσ : ∀ p ∈ σ, p.1 ≠ a)
    (hne : ∃ e r, es = e :: r ∧ ∀ env, starEach (e :: r) env = (false, eval e env) :: starEach r env := by exact ⟨_, _, rfl, fun _ => rfl⟩)
    (hdef : ∃ d ∈ g.C.defs, d.name = f := by assumption) (hk : g.ns.lookup f = some .globalImplicit := by rfl) (hd : (f == ("__debug__" : Str)) = false := by decide) :
    Evx (g.own ((a, c) :: σ)) (g.own ((a, c') :: σ)) (.Call (.Name f p) es [] pos) (isD d) := fun A env W Y B s E ha S => by
  obtain ⟨fa, o, fd, h1, h2, h3⟩ := S.rd.glb.at hdef
  refine Call_Name rfl (name_def S.rd hk h1 hd (evA h hne A env _ s E pos fa o fd _ ha S.rd h2 h3 fun vs s' r k => ?_))
  have S1 := S.kp k
  refine wpAny_mono (hf A _ s' E fa vs ha S1.rd.glb S1.rd.old S1.rd.fr h1 r (fun b c q => ?_)) (fun v s'' x => ?_) fun _ _ x => x
  · rcases List.mem_cons.mp q with q | q
    · cases q; exact S1.rd.own _ _ List.mem_cons_self
    · cases q
  · have haW : a ∈ W := (S.ow a c List.mem_cons_self).1
    exact ⟨x.1, S1.setOwnM hnσ x.2.1 (x.2.2 a c' List.mem_cons_self), (k.moves W).trans (x.2.1.weak fun b hb => by rw [List.mem_singleton.mp hb]; exact haW)⟩

/-- x = e, e changing own lists -/
theorem st_assignX {C : Cx} {g' : G} {x : Str} {p pos : Pos} {e : Expr} {d : D} (S : St g env W Y B s) (ha : AOk g.n A) (he : Evx g g' e (isD d)) (hC : g'.C = g.C) (hk : g'.ns.lookup x = some .local ∨ g'.ns.lookup x = some .cell)
    (k : ∀ s', St (g'.set x d) env W Y B s' → wpAny (modC C) A (execs rest env) Q E s')
    (hsw : swapsWith e (some (.Name x p)) pos.line env = pure false := by rfl) (hCe : g.C = C := by rfl) :
    wpAny (modC C) A (execs (.Assign [.Name x p] e pos :: rest) env) Q E s := by
  subst hCe
  exact
  wpAny_execs_cons (wpAny_Assign_Name (wpAny_mono (he A env _ _ _ s E ha S) (fun v s1 x1 => x1.2.1.store hk x1.1 fun s' S' _ => k s' S') fun _ _ x => x) hsw)
end
end Mine
end
section
open PySem PySem.Calls PyProof.Rows
set_option linter.unusedVariables false
set_option maxRecDepth 100000
namespace Mine

/-- all but its kept, its lost perhaps -/
structure Lost (its : List Addr) (s s' : Shared) : Prop where
  same : ∃ h' tk, s' = { s with heap := h', toks := tk }
  keep : ∀ b o, b ∉ its → s.heap.get? b = some o → s'.heap.get? b = some o
/-- an iterator over plain data -/
structure Itr (C : Cx) (A : Around) (X : List Addr) (I : Addr) (its : List Addr) (ds : List D) (okT : Expr → Prop) (st : Nat → Heap → Prop) : Prop where
  frame : ∀ W i h h', (∀ a ∈ W, a ∈ X) → (∀ a ∈ its, a ∉ W) → Kept W h h' → st i h → st i h'
  item : ∀ i d target (s : Shared) (E : Value → Shared → Prop), ds[i]? = some d → okT target → Old X s.heap → st i s.heap →
    wpAny (model C.prog C.w) A (pyNext (.ref I)) (fun r s₁ => ∃ v, r = some v ∧ ∀ E', wpAny (model C.prog C.w) A (letOwnedTupleGo target (.ref I) v) (fun _ s' => Rep s'.heap X v d ∧ st (i + 1) s'.heap ∧ Moves its s s') E' s₁) E s
  done : ∀ (s : Shared) (E : Value → Shared → Prop), Old X s.heap → st ds.length s.heap → wpAny (model C.prog C.w) A (pyNext (.ref I)) (fun r s' => r = none ∧ Lost its s s') E s
  self : ∀ i (s : Shared) (Q : Value → Shared → Prop) (E : Value → Shared → Prop), st i s.heap → Q (.ref I) s → wpAny (model C.prog C.w) A (pyIter (.ref I)) Q E s

noncomputable def Src (g : G) (e : Expr) (ds : List D) (okT : Expr → Prop) : Prop := ∀ (A : Around) (env : Env) (X : List Addr) (s : Shared) (E : Value → Shared → Prop), AOk g.n A → Rd g env X s →
  wpAny (mod g) A (eval e env) (fun xv s₁ => wpAny (mod g) A (pyIter xv) (fun it s₂ => Kp s s₂ ∧ ∃ (I : Addr) (its : List Addr) (st : List Addr → Nat → Heap → Prop), it = .ref I ∧ (∀ a ∈ its, s.heap.get? a = none ∧ ∃ o, s₂.heap.get? a = some o) ∧
    ∀ X', (∀ a ∈ its, a ∈ X') → (∀ a ∈ X', a ∈ X ∨ a ∈ its ∨ s₂.heap.get? a = none) → st X' 0 s₂.heap ∧ Itr g.C A X' I its ds okT (st X')) E s₁) E s

noncomputable def okName (t : Expr) : Prop := ∃ x p, t = .Name x p
noncomputable def okTup (t : Expr) : Prop := ∃ es k p, t = .Tuple es k p

theorem moves_of {W : List Addr} {s : Shared} {h' : Heap} {tk : Nat} (hk : ∀ b o, b ∉ W → s.heap.get? b = some o → h'.get? b = some o) (hal : ∀ a ∈ W, ∃ o, h'.get? a = some o) : Moves W s { s with heap := h', toks := tk } :=
  ⟨⟨_, _, rfl⟩, fun b o e => by
    by_cases q : b ∈ W
    · exact hal b q
    · exact ⟨o, hk b o q e⟩, hk⟩
theorem lit_alive {h : Heap} {a l i : Nat} (x : h.IsListIter a l i) : ∃ o, h.get? a = some o := let ⟨o, ho, _⟩ := x; ⟨o, ho⟩
theorem Moves.reps {W X : List Addr} {s s' : Shared} (m : Moves W s s') (hw : ∀ a ∈ W, a ∈ X) {v : List Value} {d : List D} (r : Reps s.heap X v d) : Reps s'.heap X v d := r.kept m.kept hw
theorem notin_of {X X' its : List Addr} {h2 : Heap} {a : Addr} (hX : ∀ a ∈ X', a ∈ X ∨ a ∈ its ∨ h2.get? a = none) (h1 : a ∉ X) (h3 : a ∉ its) (h4 : ∃ o, h2.get? a = some o) : a ∉ X' := fun q => by
  rcases hX a q with q | q | q
  · exact h1 q
  · exact h3 q
  · obtain ⟨o, e⟩ := h4; rw [q] at e; cases e
theorem reps_in {X X' its : List Addr} {h h2 : Heap} (hX : ∀ a ∈ X', a ∈ X ∨ a ∈ its ∨ h2.get? a = none) (k : Ext h h2) (hi : ∀ a ∈ its, h.get? a = none) {vs : List Value} {ds : List D} (r : Reps h X vs ds) : Reps h2 X' vs ds :=
  r.mono fun a o hx e _ => ⟨k a o e, notin_of hX hx (fun q => by rw [hi a q] at e; cases e) ⟨o, k a o e⟩⟩

section
variable {g : G}
theorem src_list {e : Expr} {ds : List D} (h : Ev g e (.list ds)) : Src g e ds okName := fun A env X s E ha hr =>
  wpAny_mono (h A env X s E ha hr) (fun v s1 x1 => by
    obtain ⟨hv, k1⟩ := x1
    cases hv with
    | list a vs _ n hx hg hrs =>
    have hl : s1.heap.IsList a vs.toArray := ⟨_, hg, rfl, n, rfl⟩
    refine wpAny_pyIter_list hl ?_
    have k2 : Kp s1 { s1 with heap := s1.heap.push { cls := .type "list_iterator", data := .fields #[.ref a, .int 0 0] } } := Kp.push _ _ _
    have hI : s.heap.get? s1.heap.objs.size = none := by
      cases e : s.heap.get? s1.heap.objs.size with
      | none => rfl
      | some o => exact absurd (k1.ext _ _ e) (by rw [get_size]; simp)
    have hit : (s1.heap.push { cls := .type "list_iterator", data := .fields #[.ref a, .int 0 0] }).IsListIter s1.heap.objs.size a 0 := ⟨_, Heap.get?_push_size _ rfl, rfl, rfl⟩
    refine ⟨k1.trans k2, s1.heap.objs.size, [s1.heap.objs.size], fun X' i h => h.IsListIter s1.heap.objs.size a i ∧ h.IsList a vs.toArray ∧ Reps h X' vs ds, rfl, fun b hb => by rw [List.mem_singleton.mp hb]; exact ⟨hI, lit_alive hit⟩, fun X' h1 h2 => ?_⟩
    have haX : a ∉ X' := notin_of h2 hx (fun q => by rw [List.mem_singleton.mp q, get_size] at hg; cases hg) ⟨_, k2.ext _ _ hg⟩
    refine ⟨⟨hit, hl.push _, reps_in h2 k2.ext (fun b hb => by rw [List.mem_singleton.mp hb]; exact get_size _) hrs⟩, ?_, ?_, ?_, ?_⟩
    · rintro W i h h' hW hI' hk ⟨q1, q2, q3⟩
      exact ⟨q1.at fun o e => hk.2 _ o (hI' _ List.mem_cons_self) e, q2.at fun o e => hk.2 _ o (fun z => haX (hW _ z)) e, q3.kept hk hW⟩
    · rintro i d target s E hd ⟨x, p, rfl⟩ hO ⟨q1, q2, q3⟩
      obtain ⟨v, hv, hr'⟩ := q3.get hd
      refine wpAny_pyNext_list_item q1 q2 (x := v) (by simpa using hv) fun h' hit' hs' => ⟨v, rfl, fun E' => wpAny_pure ?_⟩
      have m : Moves [s1.heap.objs.size] s { s with heap := h' } := ⟨⟨_, _, rfl⟩, Kept.sameBut hs' (lit_alive hit')⟩
      have hw : ∀ b ∈ [s1.heap.objs.size], b ∈ X' := h1
      exact ⟨hr'.kept m.kept hw, ⟨hit', q2.at fun o e => m.kept.2 _ o (fun z => haX (hw _ z)) e, m.reps hw q3⟩, m⟩
    · rintro s E hO ⟨q1, q2, q3⟩
      refine wpAny_pyNext_list_end ha.hh q1 q2 (by simp [q3.length]) fun h' he' => ⟨rfl, ⟨_, _, rfl⟩, fun b o hb e => he' b o (fun q => hb (by rw [q]; exact List.mem_cons_self)) e⟩
    · exact fun i s Q E q h => wpAny_pyIter_listiter q.1 h) fun _ _ x => x

theorem call1k {f : Str} {p pos : Pos} {e : Expr} {fv : Value} {P1 : VP} {A : Around} {env : Env} {X : List Addr} {s : Shared} {E : Value → Shared → Prop} {Q : Value → Shared → Prop} (hk : g.ns.lookup f = some .globalImplicit) (hb : f ∈ bnames) (hv : bootBuiltins f = some fv) (hd : (f == ("__debug__" : Str)) = false) (hf : ∃ T, fv = .type T)
    (h1 : Evp g e P1) (ha : AOk g.n A) (hr : Rd g env X s) (ho : ∀ v s1, P1 s1.heap X v → Kp s s1 → wpAny (mod g) A (call fv [v]) Q E s1)
    (he : ∀ env, starEach [e] env = (false, eval e env) :: starEach [] env) : wpAny (mod g) A (eval (.Call (.Name f p) [e] [] pos) env) Q E s :=
  Call_Name rfl (name_builtin hr hk hb hv hd (by
    have key : wpAny (mod g) A (spliced (backTo pos (starEach [e] env))) (fun vs s₁ => wpAny (mod g) A (call fv vs) Q E s₁) E s :=
      wpAny_items_cons (wpAny_mono (h1 A env X s E ha hr) (fun v s1 x1 => wpAny_items_nil (ho v s1 x1.1 x1.2)) fun _ _ x => x) (he env)
    obtain ⟨T, rfl⟩ := hf
    exact PyProof.Rows.callWith_type1 key (he env)))
theorem call2k {f : Str} {p pos : Pos} {e1 e2 : Expr} {fv : Value} {P1 P2 : VP} {A : Around} {env : Env} {X : List Addr} {s : Shared} {E : Value → Shared → Prop} {Q : Value → Shared → Prop} (hk : g.ns.lookup f = some .globalImplicit) (hb : f ∈ bnames) (hv : bootBuiltins f = some fv) (hd : (f == ("__debug__" : Str)) = false) (hf : ∃ T, fv = .type T)
    (h1 : Evp g e1 P1) (h2 : Evp g e2 P2) (st : Stable P1) (ha : AOk g.n A) (hr : Rd g env X s) (ho : ∀ v v' s1, P1 s1.heap X v → P2 s1.heap X v' → Kp s s1 → wpAny (mod g) A (call fv [v, v']) Q E s1)
    (he : ∀ env, starEach [e1, e2] env = (false, eval e1 env) :: starEach [e2] env) (he2 : ∀ env, starEach [e2] env = (false, eval e2 env) :: starEach [] env) : wpAny (mod g) A (eval (.Call (.Name f p) [e1, e2] [] pos) env) Q E s :=
  Call_Name rfl (name_builtin hr hk hb hv hd (by
    have key : wpAny (mod g) A (spliced (backTo pos (starEach [e1, e2] env))) (fun vs s₁ => wpAny (mod g) A (call fv vs) Q E s₁) E s :=
      wpAny_items_cons (wpAny_mono (h1 A env X s E ha hr) (fun v s1 x1 => wpAny_items_cons (wpAny_mono (h2 A env X s1 E ha (hr.ext x1.2)) (fun v' s2 x2 => wpAny_items_nil
        (ho v v' s2 (st _ _ _ _ x2.2.ext x1.1) x2.1 (x1.2.trans x2.2))) fun _ _ x => x) (he2 env)) fun _ _ x => x) (he env)
    have pl : (backTo pos (starEach [e2] env)).any (·.1) = false := by rw [he2 env]; rfl
    obtain ⟨T, rfl⟩ := hf
    exact PyProof.Rows.callWith_type1 key (he env) pl))

noncomputable def rangeD (a : Int) (k : Nat) : List D := (List.range k).map fun i => D.int (a + (i : Nat))
theorem rangeD_get {a : Int} {k i : Nat} {d : D} (h : (rangeD a k)[i]? = some d) : i < k ∧ d = .int (a + (i : Nat)) := by
  unfold rangeD at h
  rw [List.getElem?_map] at h
  cases hr : (List.range k)[i]? with
  | none => rw [hr] at h; cases h
  | some j =>
    rw [hr] at h
    obtain ⟨h1, h2⟩ := List.getElem?_eq_some_iff.mp hr
    rw [List.getElem_range] at h2
    rw [List.length_range] at h1
    subst h2
    exact ⟨h1, by simpa using h.symm⟩
theorem rangeD_len (a : Int) (k : Nat) : (rangeD a k).length = k := by simp [rangeD]

/-- the iterator of a range -/
theorem range_itr {A : Around} {s s1 : Shared} {X : List Addr} {E : Value → Shared → Prop} {r : Addr} {a b : Int} {t u v : Tok} {k : Nat} (hh : A.handled = none) (k0 : Kp s s1) (hr : IsRange s1.heap r a b 1 t u v) (hk : (b - a).toNat = k) (h1 : a.natAbs < 2 ^ 40) (h2 : b.natAbs < 2 ^ 40) :
    wpAny (mod g) A (pyIter (.ref r)) (fun it s₂ => Kp s s₂ ∧ ∃ (I : Addr) (its : List Addr) (st : List Addr → Nat → Heap → Prop), it = .ref I ∧ (∀ a ∈ its, s.heap.get? a = none ∧ ∃ o, s₂.heap.get? a = some o) ∧
    ∀ X', (∀ a ∈ its, a ∈ X') → (∀ a ∈ X', a ∈ X ∨ a ∈ its ∨ s₂.heap.get? a = none) → st X' 0 s₂.heap ∧ Itr g.C A X' I its (rangeD a k) okName (st X')) E s1 := by
  refine wpAny_pyIter_range hr (small_one (by lia) (by lia) (by lia) (by lia)) ?_
  have hsz : Builtin.Range.rangeSize a b 1 = (k : Int) := by rw [rangeSize_one]; split <;> lia
  rw [hsz]
  have k2 : Kp s1 { s1 with heap := s1.heap.push { cls := .type "range_iterator", data := .fields #[rawInt a, rawInt (k : Int), rawInt 1] } } := Kp.push _ _ _
  have hI : s.heap.get? s1.heap.objs.size = none := by
    cases e : s.heap.get? s1.heap.objs.size with
    | none => rfl
    | some o => exact absurd (k0.ext _ _ e) (by rw [get_size]; simp)
  have hit : IsRangeIter (s1.heap.push { cls := .type "range_iterator", data := .fields #[rawInt a, rawInt (k : Int), rawInt 1] }) s1.heap.objs.size (a + (0 : Nat) * 1) ((k : Int) - (0 : Nat)) 1 := by
    have : IsRangeIter (s1.heap.push { cls := .type "range_iterator", data := .fields #[rawInt a, rawInt (k : Int), rawInt 1] }) s1.heap.objs.size a k 1 := Heap.get?_push_size _ rfl
    simpa using this
  have Wk := Walks.range (prog := g.C.prog) (w := g.C.w) (A := A) hh s1.heap.objs.size a 1 k
  refine ⟨k0.trans k2, s1.heap.objs.size, [s1.heap.objs.size], fun X' i h => IsRangeIter h s1.heap.objs.size (a + (i : Nat) * 1) ((k : Int) - (i : Nat)) 1, rfl, fun b hb => by rw [List.mem_singleton.mp hb]; exact ⟨hI, _, hit⟩, fun X' h1 h2 => ⟨hit, ?_, ?_, ?_, ?_⟩⟩
  · rintro W i h h' hW hI' hk q
    exact Wk.frame i h h' q fun b hb o e => hk.2 b o (hI' b hb) e
  · rintro i d target s E hd ⟨x, p, rfl⟩ hO q
    obtain ⟨hi, rfl⟩ := rangeD_get hd
    refine Wk.item i s _ E hi q fun v h' tk hv hst hkk => ⟨v, rfl, fun E' => wpAny_pure ?_⟩
    obtain ⟨t, rfl⟩ := hv
    rw [Int.mul_one]
    exact ⟨.int _ _, hst, moves_of hkk fun b hb => by rw [List.mem_singleton.mp hb]; exact ⟨_, hst⟩⟩
  · rintro s E hO q
    rw [rangeD_len] at q
    exact Wk.done s _ E q fun h' tk hkk => ⟨rfl, ⟨_, _, rfl⟩, hkk⟩
  · exact fun i s Q E q h => Wk.self i s Q E q h

theorem src_range1 {p pos : Pos} {e : Expr} {b : Int} {k : Nat} (h : Ev g e (.int b)) (hk : b.toNat = k) (hb : b.natAbs < 2 ^ 40) (hg : g.ns.lookup ("range" : Str) = some .globalImplicit := by rfl)
    (he : ∀ env, starEach [e] env = (false, eval e env) :: starEach [] env := by intro env; rfl) : Src g (.Call (.Name "range" p) [e] [] pos) (rangeD 0 k) okName := fun A env X s E ha hr =>
  call1k hg (by decide) boot_range (by decide) ⟨_, rfl⟩ h ha hr (fun v s1 h1 k1 => by
    obtain ⟨t, rfl⟩ := rep_int h1
    refine call_range_1 (range_itr ha.hh (k1.trans (Kp.push _ _ _)) (IsRange.new _ _ _ _ _ _ _) (by lia) (by decide) hb)) he
theorem src_range2 {p pos : Pos} {e1 e2 : Expr} {a b : Int} {k : Nat} (h1 : Ev g e1 (.int a)) (h2 : Ev g e2 (.int b)) (hk : (b - a).toNat = k) (hA : a.natAbs < 2 ^ 40) (hb : b.natAbs < 2 ^ 40) (hg : g.ns.lookup ("range" : Str) = some .globalImplicit := by rfl)
    (he : ∀ env, starEach [e1, e2] env = (false, eval e1 env) :: starEach [e2] env := by intro env; rfl) (he2 : ∀ env, starEach [e2] env = (false, eval e2 env) :: starEach [] env := by intro env; rfl) : Src g (.Call (.Name "range" p) [e1, e2] [] pos) (rangeD a k) okName := fun A env X s E ha hr =>
  call2k hg (by decide) boot_range (by decide) ⟨_, rfl⟩ h1 h2 (isD_stable _) ha hr (fun v v' s1 h1 h2 k1 => by
    obtain ⟨t, rfl⟩ := rep_int h1
    obtain ⟨u, rfl⟩ := rep_int h2
    refine call_range_2 (range_itr ha.hh (k1.trans (Kp.push _ _ _)) (IsRange.new _ _ _ _ _ _ _) hk hA hb)) he he2

noncomputable def enumD (ds : List D) : List D := ds.zipIdx.map fun x => D.tup [.int (x.2 : Nat), x.1]
theorem enumD_get {ds : List D} {i : Nat} {d : D} (h : (enumD ds)[i]? = some d) : ∃ d', ds[i]? = some d' ∧ d = .tup [.int (i : Nat), d'] := by
  unfold enumD at h
  rw [List.getElem?_map, List.getElem?_zipIdx] at h
  cases hr : ds[i]? with
  | none => rw [hr] at h; cases h
  | some d' => rw [hr] at h; exact ⟨d', rfl, by simpa using h.symm⟩
theorem enumD_len (ds : List D) : (enumD ds).length = ds.length := by simp [enumD]
theorem src_enum {p pos : Pos} {e : Expr} {ds : List D} (h : Ev g e (.list ds)) (hg : g.ns.lookup ("enumerate" : Str) = some .globalImplicit := by rfl)
    (he : ∀ env, starEach [e] env = (false, eval e env) :: starEach [] env := by intro env; rfl) : Src g (.Call (.Name "enumerate" p) [e] [] pos) (enumD ds) okTup := fun A env X s E ha hr =>
  call1k hg (by decide) boot_enum (by decide) ⟨_, rfl⟩ h ha hr (fun v s1 hv k1 => by
    cases hv with
    | list a vs _ n hx hg hrs =>
    have hl : s1.heap.IsList a vs.toArray := ⟨_, hg, rfl, n, rfl⟩
    refine call_enumerate_list hl fun h' hE hit hsz hk => ?_
    have hk' : Ext s1.heap h' := hk
    have k2 : Kp s1 { s1 with heap := h' } := Kp.of hk'
    refine wpAny_pyIter_enum hE ⟨k1.trans k2, s1.heap.objs.size + 1, [s1.heap.objs.size + 1, s1.heap.objs.size],
      fun X' i h => (∃ old, IsEnum h (s1.heap.objs.size + 1) s1.heap.objs.size i old) ∧ h.IsListIter s1.heap.objs.size a i ∧ h.IsList a vs.toArray ∧ Reps h X' vs ds, rfl, fun b hb => ?_, fun X' h1 h2 => ?_⟩
    · have dead : ∀ b, s1.heap.objs.size ≤ b → s.heap.get? b = none := fun b hb => by
        cases e : s.heap.get? b with
        | none => rfl
        | some o => exact absurd (k1.ext _ _ e) (by rw [Heap.get?_none_of_le hb]; simp)
      rcases List.mem_cons.mp hb with rfl | hb
      · exact ⟨dead _ (Nat.le_succ _), _, hE⟩
      · rw [List.mem_singleton.mp hb]; exact ⟨dead _ (Nat.le_refl _), lit_alive hit⟩
    have deadI : ∀ b ∈ [s1.heap.objs.size + 1, s1.heap.objs.size], s1.heap.get? b = none := fun b hb => by
      rcases List.mem_cons.mp hb with rfl | hb
      · exact Heap.get?_none_of_le (Nat.le_succ _)
      · rw [List.mem_singleton.mp hb]; exact get_size _
    have haX : a ∉ X' := notin_of h2 hx (fun q => by rw [deadI _ q] at hg; cases hg) ⟨_, hk' _ _ hg⟩
    have hne : s1.heap.objs.size + 1 ≠ s1.heap.objs.size := Nat.succ_ne_self _
    refine ⟨⟨⟨_, hE⟩, hit, hl.at fun o e => hk' _ o e, reps_in h2 hk' deadI hrs⟩, ?_, ?_, ?_, ?_⟩
    · rintro W i h h' hW hI' hk ⟨⟨old, q0⟩, q1, q2, q3⟩
      exact ⟨⟨old, hk.2 _ _ (hI' _ List.mem_cons_self) q0⟩, q1.at fun o e => hk.2 _ o (hI' _ (List.mem_cons_of_mem _ List.mem_cons_self)) e, q2.at fun o e => hk.2 _ o (fun z => haX (hW _ z)) e, q3.kept hk hW⟩
    · rintro i d target s E hd ⟨es, kk, pp, rfl⟩ hO ⟨⟨old, q0⟩, q1, q2, q3⟩
      obtain ⟨d', hd', rfl⟩ := enumD_get hd
      obtain ⟨v, hv, hr'⟩ := q3.get hd'
      refine wpAny_pyNext_enum_item q0 q1 q2 (x := v) (by simpa using hv) hne fun h1' z1 z2 z3 z4 z5 => ⟨_, rfl, fun E' => ?_⟩
      refine wpAny_letOwnedTupleGo_enum z1 fun h2' y1 y2 => ?_
      have hT : s.heap.objs.size ∉ X' := fun q => by obtain ⟨o, e⟩ := hO _ q; rw [get_size] at e; cases e
      have m : Moves [s1.heap.objs.size + 1, s1.heap.objs.size] s { s with heap := h2', toks := s.toks + 1 } := by
        refine moves_of (fun b o hb e => ?_) fun b hb => ?_
        · have n1 : b ≠ s1.heap.objs.size + 1 := fun q => hb (by rw [q]; exact List.mem_cons_self)
          have n2 : b ≠ s1.heap.objs.size := fun q => hb (by rw [q]; exact List.mem_cons_of_mem _ List.mem_cons_self)
          exact (y2.2 b n1).trans (z5 b o n1 n2 e)
        · rcases List.mem_cons.mp hb with rfl | hb
          · exact ⟨_, y1⟩
          · rw [List.mem_singleton.mp hb]
            obtain ⟨o, ho⟩ := lit_alive z2
            exact ⟨o, (y2.2 _ (Ne.symm hne)).trans ho⟩
      have hne2 : s.heap.objs.size ≠ s1.heap.objs.size + 1 := fun q => hT (h1 _ (by rw [q]; exact List.mem_cons_self))
      refine ⟨.tup _ [.int i s.toks, v] _ 0 hT ((y2.2 _ hne2).trans z3) (.cons (.int _ _) (.cons (hr'.kept m.kept h1) .nil)), ⟨⟨_, by simpa using y1⟩, ?_, ?_, m.reps h1 q3⟩, m⟩
      · exact z2.at fun o e => (y2.2 _ (Ne.symm hne)).trans e
      · exact q2.at fun o e => m.kept.2 _ o (fun z => haX (h1 _ z)) e
    · rintro s E hO ⟨⟨old, q0⟩, q1, q2, q3⟩
      rw [enumD_len] at q0 q1
      refine wpAny_pyNext_enum_end ha.hh q0 q1 q2 (by simp [q3.length]) fun h' he' => ⟨rfl, ⟨_, _, rfl⟩, fun b o hb e => he' b o (fun q => hb (by rw [q]; exact List.mem_cons_of_mem _ List.mem_cons_self)) e⟩
    · rintro i s Q E ⟨⟨old, q0⟩, q1, q2, q3⟩ h
      exact wpAny_pyIter_enum q0 h) he

noncomputable def zipD (xs ys : List D) : List D := List.zipWith (fun x y => D.tup [x, y]) xs ys
theorem zipD_get {xs ys : List D} {i : Nat} {d : D} (h : (zipD xs ys)[i]? = some d) : ∃ x y, xs[i]? = some x ∧ ys[i]? = some y ∧ d = .tup [x, y] := by
  unfold zipD at h
  rw [List.getElem?_zipWith] at h
  cases hx : xs[i]? with
  | none => rw [hx] at h; cases h
  | some x =>
    cases hy : ys[i]? with
    | none => rw [hx, hy] at h; cases h
    | some y => rw [hx, hy] at h; exact ⟨x, y, rfl, rfl, by simpa using h.symm⟩
theorem src_zip {p pos : Pos} {e1 e2 : Expr} {xs ys : List D} (h1 : Ev g e1 (.list xs)) (h2 : Ev g e2 (.list ys)) (hg : g.ns.lookup ("zip" : Str) = some .globalImplicit := by rfl)
    (he : ∀ env, starEach [e1, e2] env = (false, eval e1 env) :: starEach [e2] env := by intro env; rfl) (he2 : ∀ env, starEach [e2] env = (false, eval e2 env) :: starEach [] env := by intro env; rfl) : Src g (.Call (.Name "zip" p) [e1, e2] [] pos) (zipD xs ys) okTup := fun A env X s E ha hr =>
  call2k hg (by decide) boot_zip (by decide) ⟨_, rfl⟩ h1 h2 (isD_stable _) ha hr (fun v v' s1 hv hv' k1 => by
    cases hv with
    | list a vs _ n hx hg hrs =>
    cases hv' with
    | list a' vs' _ n' hx' hg' hrs' =>
    have hl : s1.heap.IsList a vs.toArray := ⟨_, hg, rfl, n, rfl⟩
    have hl' : s1.heap.IsList a' vs'.toArray := ⟨_, hg', rfl, n', rfl⟩
    refine call_zip_2 hl hl' fun h' z1 z2 z3 z4 z5 z6 hk => ?_
    obtain ⟨N, hN⟩ : ∃ N, N = s1.heap.objs.size := ⟨_, rfl⟩
    rw [← hN] at z1 z2 z3 z4 z5 z6 ⊢
    have hk' : Ext s1.heap h' := hk
    have k2 : Kp s1 { s1 with heap := h' } := Kp.of hk'
    have hdead : ∀ b, N ≤ b → s1.heap.get? b = none := fun b hb => Heap.get?_none_of_le (by rw [← hN]; exact hb)
    have halt : ∀ {b : Addr} {o : Obj}, s1.heap.get? b = some o → b < N := fun {b o} e => by rw [hN]; exact Heap.lt_size e
    have hL : a < N := halt hg
    have hL' : a' < N := halt hg'
    have AP : ZipApart (N + 4) (N + 2) (N + 3) N (N + 1) a a' := by
      have lt4 : ∀ {x y : Nat}, x < y → x ≠ y := fun h => Nat.ne_of_lt h
      exact ⟨by simp, by simp, by simp, by simp, by simp, by simp, by simp, by simp, by simp, by simp, Nat.ne_of_lt (Nat.lt_of_lt_of_le hL (Nat.le_add_right _ _)), Nat.ne_of_lt (Nat.lt_of_lt_of_le hL (Nat.le_add_right _ _)), Nat.ne_of_lt hL, Nat.ne_of_lt (Nat.lt_of_lt_of_le hL (Nat.le_add_right _ _)), Nat.ne_of_lt (Nat.lt_of_lt_of_le hL' (Nat.le_add_right _ _)), Nat.ne_of_lt (Nat.lt_of_lt_of_le hL' (Nat.le_add_right _ _)), Nat.ne_of_lt hL', Nat.ne_of_lt (Nat.lt_of_lt_of_le hL' (Nat.le_add_right _ _))⟩
    have hmem : ∀ b ∈ [N + 4, N + 2, N + 3, N, N + 1], N ≤ b := fun b hb => by simp at hb; lia
    refine wpAny_pyIter_zip z1 ⟨k1.trans k2, N + 4, [N + 4, N + 2, N + 3, N, N + 1],
      fun X' i h => (IsZip h (N + 4) (N + 2) (N + 3) .none ∧ IsPair h (N + 2) (.ref N) (.ref (N + 1)) ∧ ∃ c d, IsPair h (N + 3) c d) ∧ (h.IsListIter N a i ∧ h.IsListIter (N + 1) a' i) ∧ (h.IsList a vs.toArray ∧ h.IsList a' vs'.toArray) ∧ Reps h X' vs xs ∧ Reps h X' vs' ys, rfl, fun b hb => ?_, fun X' h1 h2 => ?_⟩
    · refine ⟨?_, ?_⟩
      · cases e : s.heap.get? b with
        | none => rfl
        | some o => exact absurd (k1.ext _ _ e) (by rw [hdead b (hmem b hb)]; simp)
      · simp at hb
        rcases hb with rfl | rfl | rfl | rfl | rfl
        · exact ⟨_, z1⟩
        · exact ⟨_, z2⟩
        · exact ⟨_, z3⟩
        · exact lit_alive z4
        · exact lit_alive z5
    have deadI : ∀ b ∈ [N + 4, N + 2, N + 3, N, N + 1], s1.heap.get? b = none := fun b hb => hdead b (hmem b hb)
    have haX : a ∉ X' := notin_of h2 hx (fun q => by rw [deadI _ q] at hg; cases hg) ⟨_, hk' _ _ hg⟩
    have haX' : a' ∉ X' := notin_of h2 hx' (fun q => by rw [deadI _ q] at hg'; cases hg') ⟨_, hk' _ _ hg'⟩
    refine ⟨⟨⟨z1, z2, _, _, z3⟩, ⟨z4, z5⟩, ⟨hl.at fun o e => hk' _ o e, hl'.at fun o e => hk' _ o e⟩, reps_in h2 hk' deadI hrs, reps_in h2 hk' deadI hrs'⟩, ?_, ?_, ?_, ?_⟩
    · rintro W i h h' hW hI' hk ⟨⟨q1, q2, c, d, q3⟩, ⟨q4, q5⟩, ⟨q6, q7⟩, q8, q9⟩
      exact ⟨⟨hk.2 _ _ (hI' _ (by simp)) q1, hk.2 _ _ (hI' _ (by simp)) q2, c, d, hk.2 _ _ (hI' _ (by simp)) q3⟩, ⟨q4.at fun o e => hk.2 _ o (hI' _ (by simp)) e, q5.at fun o e => hk.2 _ o (hI' _ (by simp)) e⟩,
        ⟨q6.at fun o e => hk.2 _ o (fun z => haX (hW _ z)) e, q7.at fun o e => hk.2 _ o (fun z => haX' (hW _ z)) e⟩, q8.kept hk hW, q9.kept hk hW⟩
    · rintro i d target s E hd ⟨es, kk, pp, rfl⟩ hO ⟨⟨q1, q2, c, d', q3⟩, ⟨q4, q5⟩, ⟨q6, q7⟩, q8, q9⟩
      obtain ⟨x, y, hx1, hy1, rfl⟩ := zipD_get hd
      obtain ⟨v, hv, hr1⟩ := q8.get hx1
      obtain ⟨v', hv', hr2⟩ := q9.get hy1
      refine wpAny_pyNext_zip_item AP q1 q2 q3 q4 q5 q6 q7 (x := v) (y := v') (by simpa using hv) (by simpa using hv') fun h1' y1 y2 y3 y4 y5 y6 y7 => ⟨_, rfl, fun E' => ?_⟩
      refine wpAny_letOwnedTupleGo_zip y1 fun h2' x1 x2 => ?_
      have hT : s.heap.objs.size ∉ X' := fun q => by obtain ⟨o, e⟩ := hO _ q; rw [get_size] at e; cases e
      have n2 : N + 2 ≠ N + 4 := by lia
      have n3 : N + 3 ≠ N + 4 := by lia
      have n0 : N ≠ N + 4 := by lia
      have n1 : N + 1 ≠ N + 4 := by lia
      have keep1 : ∀ b o, b ∉ [N + 4, N + 2, N + 3, N, N + 1] → s.heap.get? b = some o → h2'.get? b = some o := fun b o hb e => by
        simp at hb
        exact (x2.2 b hb.1).trans (y7 b o hb.1 hb.2.2.1 hb.2.2.2.1 hb.2.2.2.2 e)
      have w1 : IsZip h2' (N + 4) (N + 2) (N + 3) .none := x1
      have w2 : IsPair h2' (N + 2) (.ref N) (.ref (N + 1)) := (x2.2 _ n2).trans (y7 _ _ (by simp) (by simp) (by simp) (by simp) q2)
      have w3 : IsPair h2' (N + 3) v v' := (x2.2 _ n3).trans y2
      have w4 : h2'.IsListIter N a (i + 1) := y3.at fun o e => (x2.2 _ n0).trans e
      have w5 : h2'.IsListIter (N + 1) a' (i + 1) := y4.at fun o e => (x2.2 _ n1).trans e
      have m : Moves [N + 4, N + 2, N + 3, N, N + 1] s { s with heap := h2' } := by
        refine moves_of keep1 fun b hb => ?_
        simp at hb
        rcases hb with rfl | rfl | rfl | rfl | rfl
        · exact ⟨_, w1⟩
        · exact ⟨_, w2⟩
        · exact ⟨_, w3⟩
        · exact lit_alive w4
        · exact lit_alive w5
      have hne2 : s.heap.objs.size ≠ N + 4 := fun q => hT (h1 _ (by rw [q]; simp))
      exact ⟨.tup _ [v, v'] _ 0 hT ((x2.2 _ hne2).trans y5) (.cons (hr1.kept m.kept h1) (.cons (hr2.kept m.kept h1) .nil)),
        ⟨⟨w1, w2, _, _, w3⟩, ⟨w4, w5⟩, ⟨q6.at fun o e => m.kept.2 _ o (fun z => haX (h1 _ z)) e, q7.at fun o e => m.kept.2 _ o (fun z => haX' (h1 _ z)) e⟩, m.reps h1 q8, m.reps h1 q9⟩, m⟩
    · rintro s E hO ⟨⟨q1, q2, c, d', q3⟩, ⟨q4, q5⟩, ⟨q6, q7⟩, q8, q9⟩
      have hend : vs.toArray[(zipD xs ys).length]? = none ∨ vs'.toArray[(zipD xs ys).length]? = none := by
        have e1 := q8.length
        have e2 := q9.length
        have e3 : (zipD xs ys).length = min xs.length ys.length := by simp [zipD]
        rw [e3]
        rcases Nat.le_total xs.length ys.length with h | h
        · exact .inl (Array.getElem?_eq_none (by simp; lia))
        · exact .inr (Array.getElem?_eq_none (by simp; lia))
      refine wpAny_pyNext_zip_end ha.hh AP q1 q2 q3 q4 q5 q6 q7 hend fun h' he' => ⟨rfl, ⟨_, _, rfl⟩, fun b o hb e => ?_⟩
      simp at hb
      exact he' b o hb.1 hb.2.2.1 hb.2.2.2.1 hb.2.2.2.2 e
    · rintro i s Q E ⟨⟨q1, q2, c, d', q3⟩, _⟩ h
      exact wpAny_pyIter_zip q1 h) he he2
end
end Mine
end
section
open PySem PySem.Calls PyProof.Rows
set_option linter.unusedVariables false
set_option maxRecDepth 100000
namespace Mine
section
variable {g : G} {A : Around} {env : Env} {W Y : List Addr} {B : List Shared} {s : Shared} {E : Value → Shared → Prop} {Q : Flow → Shared → Prop} {rest : List Stmt}

theorem mem_mid {W its Y : List Addr} {a : Addr} (h : a ∈ W ++ (its ++ Y)) : a ∈ its ∨ a ∈ W ++ Y := by
  rcases List.mem_append.mp h with h | h
  · exact .inr (List.mem_append_left _ h)
  · rcases List.mem_append.mp h with h | h
    · exact .inl h
    · exact .inr (List.mem_append_right _ h)
theorem mid_mem {W its Y : List Addr} {a : Addr} (h : a ∈ W ++ Y) : a ∈ W ++ (its ++ Y) := by
  rcases List.mem_append.mp h with h | h
  · exact List.mem_append_left _ h
  · exact List.mem_append_right _ (List.mem_append_right _ h)

/-- iterators come to be: protected from here on -/
theorem St.enter {its : List Addr} {s' : Shared} (S : St g env W Y B s) (k : Kp s s') (hi : ∀ a ∈ its, s.heap.get? a = none ∧ ∃ o, s'.heap.get? a = some o) : St g env W (its ++ Y) B s' := by
  have S1 := S.kp k
  have up : ∀ {v : Value} {d : D}, Rep s.heap (W ++ Y) v d → Rep s'.heap (W ++ (its ++ Y)) v d := fun r => r.mono fun a o hx e _ => ⟨k.ext _ _ e, fun q => (mem_mid q).elim (fun z => by rw [(hi a z).1] at e; cases e) hx⟩
  have ups : ∀ {v : List Value} {d : List D}, Reps s.heap (W ++ Y) v d → Reps s'.heap (W ++ (its ++ Y)) v d := fun r => r.mono fun a o hx e _ => ⟨k.ext _ _ e, fun q => (mem_mid q).elim (fun z => by rw [(hi a z).1] at e; cases e) hx⟩
  refine ⟨⟨S.rd.names, S.rd.fn, S.rd.gl, S.rd.bi, S1.rd.glb, fun a ha => ?_, fun a ha => ?_, S1.rd.lns, S1.rd.cell, fun x d hx => ?_, fun a c hc => ?_, S1.rd.cal⟩, S1.mv, S.lw, S.cw, S.ap, S.inj, S.ow⟩
  · exact (mem_mid ha).elim (fun z => (hi a z).2) (S1.rd.old a)
  · exact (mem_mid ha).elim (fun z => S.rd.glb.fresh (hi a z).1) (S1.rd.fr a)
  · obtain ⟨v, h1, h2⟩ := S.rd.loc x d hx
    exact ⟨v, h1.ext k.ext, up h2⟩
  · obtain ⟨h1, h2⟩ := S.rd.own a c hc
    exact ⟨mid_mem h1, h2.keep (fun o e => k.ext _ _ e) (fun _ _ r => up r) fun _ _ r => ups r⟩

/-- what the iterators lie apart from -/
structure ApartW (env : Env) (W : List Addr) (B : List Shared) (its : List Addr) : Prop where
  w : ∀ a ∈ its, a ∉ W
  c : ∀ a ∈ its, ∀ x, env.cells.lookup x ≠ some a
  b : ∀ b ∈ B, ∀ a ∈ its, b.heap.get? a = none
structure Apart (env : Env) (W Y : List Addr) (B : List Shared) (its : List Addr) : Prop extends ApartW env W B its where
  y : ∀ a ∈ its, a ∉ Y
theorem St.apart {its : List Addr} (S : St g env W Y B s) (hi : ∀ a ∈ its, s.heap.get? a = none) : Apart env W Y B its where
  y := fun a ha q => by
    obtain ⟨o, e⟩ := S.rd.old a (List.mem_append_right _ q)
    rw [hi a ha] at e; cases e
  w := fun a ha q => by
    obtain ⟨o, e⟩ := S.rd.old a (List.mem_append_left _ q)
    rw [hi a ha] at e; cases e
  c := fun a ha x q => by
    obtain ⟨o, e⟩ := S.rd.cal x a q
    rw [hi a ha] at e; cases e
  b := fun b hb a ha => S.dead hb (hi a ha)

theorem St.lose {its : List Addr} {s' : Shared} (S : St g env W (its ++ Y) B s) (p : Apart env W Y B its) (m : Lost its s s') : St g env W Y B s' := by
  have old : ∀ a o, a ∉ its → s.heap.get? a = some o → s'.heap.get? a = some o := m.keep
  have dn : ∀ {v : Value} {d : D}, Rep s.heap (W ++ (its ++ Y)) v d → Rep s'.heap (W ++ Y) v d := fun r => r.mono fun a o hx e _ => ⟨old _ _ (fun q => hx (List.mem_append_right _ (List.mem_append_left _ q))) e, fun q => hx (mid_mem q)⟩
  have dns : ∀ {v : List Value} {d : List D}, Reps s.heap (W ++ (its ++ Y)) v d → Reps s'.heap (W ++ Y) v d := fun r => r.mono fun a o hx e _ => ⟨old _ _ (fun q => hx (List.mem_append_right _ (List.mem_append_left _ q))) e, fun q => hx (mid_mem q)⟩
  have hL : env.locals ∉ its := fun q => p.w _ q S.lw
  have frX : ∀ a ∈ its, ∀ o, g.C.hb.get? a ≠ some o := fun a ha o e => by
    have := S.rd.fr a (List.mem_append_right _ (List.mem_append_left _ ha))
    rw [this] at e; cases e
  have hN : ∀ {m}, s.heap.Ns env.locals m → s'.heap.Ns env.locals m := fun x => x.at' fun o e => old _ o hL e
  have hC : ∀ {x c v}, env.cells.lookup x = some c → s.heap.IsCell c v → s'.heap.IsCell c v := fun hx ⟨o, e, d⟩ => ⟨o, old _ o (fun q => p.c _ q _ hx) e, d⟩
  have hB : ∀ {x v}, Bd env s.heap x v → Bd env s'.heap x v := fun b => by
    rcases b with ⟨h1, m', h2, h3⟩ | ⟨h1, c, h2, h3⟩
    · exact .inl ⟨h1, m', hN h2, h3⟩
    · exact .inr ⟨h1, c, h2, hC h2 h3⟩
  refine ⟨⟨S.rd.names, S.rd.fn, S.rd.gl, S.rd.bi, ⟨S.rd.glb.top, fun b o e => old b o (fun q => frX b q o e) (S.rd.glb.up b o e)⟩, fun a ha => ?_, fun a ha => S.rd.fr a (mid_mem ha), let ⟨mm, hm⟩ := S.rd.lns; ⟨mm, hN hm⟩, fun x hx => ?_, fun x d hx => ?_, fun a c hc => ?_, fun x c hx => ?_⟩, fun b hb => ?_, S.lw, S.cw, S.ap, S.inj, S.ow⟩
  · obtain ⟨o, e⟩ := S.rd.old a (mid_mem ha)
    exact ⟨o, old a o (fun q => (List.mem_append.mp ha).elim (p.w a q) (p.y a q)) e⟩
  · obtain ⟨c, v, h1, h2⟩ := S.rd.cell x hx
    exact ⟨c, v, h1, hC h1 h2⟩
  · obtain ⟨v, h1, h2⟩ := S.rd.loc x d hx
    exact ⟨v, hB h1, dn h2⟩
  · have haW := (S.ow a c hc).1
    exact ⟨List.mem_append_left _ haW, (S.rd.own a c hc).2.keep (fun o e => old a o (fun q => p.w a q haW) e) (fun _ _ r => dn r) fun _ _ r => dns r⟩
  · obtain ⟨o, e⟩ := S.rd.cal x c hx
    exact ⟨o, old c o (fun q => p.c c q x hx) e⟩
  · obtain ⟨⟨h1, t1, e1⟩, k1⟩ := S.mv b hb
    obtain ⟨h2, t2, e2⟩ := m.same
    refine ⟨⟨h2, t2, by rw [e2, e1]⟩, fun a o e => ?_, fun a o ha e => ?_⟩
    · obtain ⟨o', e'⟩ := k1.1 a o e
      exact ⟨o', old a o' (fun q => by rw [p.b b hb a q] at e; cases e) e'⟩
    · exact old a o (fun q => by rw [p.b b hb a q] at e; cases e) (k1.2 a o ha e)
theorem Moves.lost {its : List Addr} {s s' : Shared} (m : Moves its s s') : Lost its s s' := ⟨m.same, m.kept.2⟩
/-- the iterators step -/
theorem St.step {its : List Addr} {s' : Shared} (S : St g env W Y B s) (hy : ∀ a ∈ its, a ∈ Y) (p : ApartW env W B its) (m : Moves its s s') : St g env W Y B s' := by
  have L := m.lost
  have hw : ∀ a ∈ its, a ∈ W ++ Y := fun a ha => List.mem_append_right _ (hy a ha)
  have hL : env.locals ∉ its := fun q => p.w _ q S.lw
  have hN : ∀ {m'}, s.heap.Ns env.locals m' → s'.heap.Ns env.locals m' := fun x => m.kept.ns hL x
  have hC : ∀ {x c v}, env.cells.lookup x = some c → s.heap.IsCell c v → s'.heap.IsCell c v := fun hx y => m.kept.cell (fun q => p.c _ q _ hx) y
  have hB : ∀ {x v}, Bd env s.heap x v → Bd env s'.heap x v := fun b => by
    rcases b with ⟨h1, m', h2, h3⟩ | ⟨h1, c, h2, h3⟩
    · exact .inl ⟨h1, m', hN h2, h3⟩
    · exact .inr ⟨h1, c, h2, hC h2 h3⟩
  have kx := m.kept.weak hw
  refine ⟨⟨S.rd.names, S.rd.fn, S.rd.gl, S.rd.bi, S.rd.glb.kept kx S.rd.fr, S.rd.old.kept kx, S.rd.fr, let ⟨mm, hm⟩ := S.rd.lns; ⟨mm, hN hm⟩, fun x hx => ?_, fun x d hx => ?_, fun a c hc => ?_, fun x c hx => let ⟨o, e⟩ := S.rd.cal x c hx; kx.1 c o e⟩, fun b hb => ?_, S.lw, S.cw, S.ap, S.inj, S.ow⟩
  · obtain ⟨c, v, h1, h2⟩ := S.rd.cell x hx
    exact ⟨c, v, h1, hC h1 h2⟩
  · obtain ⟨v, h1, h2⟩ := S.rd.loc x d hx
    exact ⟨v, hB h1, h2.kept kx fun _ h => h⟩
  · have haW := (S.ow a c hc).1
    exact ⟨List.mem_append_left _ haW, (S.rd.own a c hc).2.keep (fun o e => m.kept.2 a o (fun q => p.w a q haW) e) (fun _ _ r => r.kept kx fun _ h => h) fun _ _ r => r.kept kx fun _ h => h⟩
  · obtain ⟨⟨h1, t1, e1⟩, k1⟩ := S.mv b hb
    obtain ⟨h2, t2, e2⟩ := m.same
    refine ⟨⟨h2, t2, by rw [e2, e1]⟩, fun a o e => let ⟨o', e'⟩ := k1.1 a o e; m.kept.1 a o' e', fun a o ha e => ?_⟩
    exact m.kept.2 a o (fun q => by rw [p.b b hb a q] at e; cases e) (k1.2 a o ha e)

/-- a target takes a value -/
noncomputable def Tgt (γ : G) (target : Expr) (d : D) (γ' : G) : Prop := ∀ (A : Around) (env : Env) (W Y : List Addr) (B : List Shared) (s : Shared) (v : Value) (E : Value → Shared → Prop) (Q : Unit → Shared → Prop), A.handled = none → St γ env W Y B s → Rep s.heap (W ++ Y) v d →
  (∀ s', St γ' env W Y B s' → Moves W s s' → Q () s') → wpAny (mod γ) A (assign target env v) Q E s
theorem Tgt.use {g γ : G} {target : Expr} {d : D} {γ' : G} (h : Tgt γ target d γ') (hC : γ.C = g.C) (A : Around) (env : Env) (W Y : List Addr) (B : List Shared) (s : Shared) (v : Value) (E : Value → Shared → Prop) (Q : Unit → Shared → Prop) (hh : A.handled = none) (S : St γ env W Y B s) (r : Rep s.heap (W ++ Y) v d)
    (k : ∀ s', St γ' env W Y B s' → Moves W s s' → Q () s') : wpAny (mod g) A (assign target env v) Q E s := by
  have := h A env W Y B s v E Q hh S r k
  unfold mod at this ⊢
  rw [hC] at this
  exact this
theorem St.moved {γ γ' : G} {s' : Shared} (S : St γ env W Y B s) (h : ∀ B', St γ env W Y B' s → St γ' env W Y B' s') : Moves W s s' := (h (s :: B) S.rebase).mv s List.mem_cons_self
theorem tgt_name {γ : G} {x : Str} {p : Pos} {d : D} (hk : kindOk γ x) : Tgt γ (.Name x p) d (γ.set x d) := fun A env W Y B s v E Q hh S r h =>
  assign_Name (S.rebase.store hk r fun s' S' _ => h s' (S'.bases fun b hb => List.mem_cons_of_mem _ hb) (S'.mv s List.mem_cons_self))
theorem tgt_tup2 {γ : G} {x y : Str} {p q tp : Pos} {k : Nat} {d1 d2 : D} (h1 : kindOk γ x) (h2 : kindOk γ y) : Tgt γ (.Tuple [.Name x p, .Name y q] k tp) (.tup [d1, d2]) ((γ.set x d1).set y d2) := fun A env W Y B s v E Q hh S r h =>
  assignTuple [(x, p), (y, q)] S.rebase hh r rfl (fun z hz => by
    rcases List.mem_cons.mp hz with rfl | hz
    · exact h1
    · rw [List.mem_singleton.mp hz]; exact h2) fun s' S' => h s' (S'.bases fun b hb => List.mem_cons_of_mem _ hb) (S'.mv s List.mem_cons_self)

theorem for_core {target iter : Expr} {body : List Stmt} {ds : List D} {okT : Expr → Prop} {I : Addr} {its : List Addr} {st : List Addr → Nat → Heap → Prop} {s2 : Shared} (S : St g env W Y B s) (ha : AOk g.n A) (ht : okT target) (γ : Nat → G) (hC : ∀ i, (γ i).C = g.C)
    (RR : G → D → Prop) (Iv : Nat → Prop) (hI0 : Iv 0) (h0 : ∀ Y' s', St g env W Y' B s' → St (γ 0) env W Y' B s')
    (hb : ∀ i d, ds[i]? = some d → Iv i → ∃ γ', γ'.C = g.C ∧ Tgt (γ i) target d γ' ∧ ∀ Y' B' s' E', St γ' env W Y' B' s' →
      wpAny (mod g) A (execs body env) (fun f s'' => (f = .next ∧ Iv (i + 1) ∧ St (γ (i + 1)) env W Y' B' s'') ∨ ∃ v γ'' d', f = .ret v ∧ RR γ'' d' ∧ St γ'' env W Y' B' s'' ∧ Rep s''.heap (W ++ Y') v d') E' s')
    (kr : ∀ γ'' d' v Y' s'', RR γ'' d' → (∀ a ∈ Y, a ∈ Y') → St γ'' env W Y' B s'' → Rep s''.heap (W ++ Y') v d' → Q (.ret v) s'')
    (k : ∀ s', Iv ds.length → St (γ ds.length) env W Y B s' → wpAny (mod g) A (execs rest env) Q E s')
    (k2 : Kp s s2) (hi : ∀ a ∈ its, s.heap.get? a = none ∧ ∃ o, s2.heap.get? a = some o)
    (hX : ∀ X', (∀ a ∈ its, a ∈ X') → (∀ a ∈ X', a ∈ W ++ Y ∨ a ∈ its ∨ s2.heap.get? a = none) → st X' 0 s2.heap ∧ Itr g.C A X' I its ds okT (st X')) :
    codeAny (mod g) A (.forLoop target (.ref I) body [] env) (fun r s' => match r with | .ok f => (match f with | .next => wpAny (mod g) A (execs rest env) Q E s' | f => Q f s') | .error e => cameBackBy (mod g) A env E e s') s2 := by
  have P := S.apart (its := its) fun a ha => (hi a ha).1
  have S2 := S.enter k2 hi
  have hits : ∀ a ∈ its, a ∈ W ++ (its ++ Y) := fun a ha => List.mem_append_right _ (List.mem_append_left _ ha)
  obtain ⟨st0, IT⟩ := hX (W ++ (its ++ Y)) hits (fun a ha => (mem_mid ha).elim (fun z => .inr (.inl z)) .inl)
  have S3 := h0 _ _ S2
  refine codeAny_forLoop_any (fun n s' => ∃ i, i ≤ ds.length ∧ n = ds.length - i ∧ Iv i ∧ St (γ i) env W (its ++ Y) B s' ∧ st (W ++ (its ++ Y)) i s'.heap) ?_ ds.length ⟨0, Nat.zero_le _, rfl, hI0, S3, st0⟩
  rintro n s' ⟨i, hi', rfl, hIv, Si, sti⟩
  by_cases hlt : i < ds.length
  · obtain ⟨d, hd⟩ : ∃ d, ds[i]? = some d := ⟨_, List.getElem?_eq_getElem hlt⟩
    refine wpAny_mono (IT.item i d target s' _ hd ht Si.rd.old sti) (fun r s3 x3 => ?_) fun _ _ x => x
    obtain ⟨v, rfl, x4⟩ := x3
    refine wpAny_mono (x4 _) (fun _ s4 x5 => ?_) fun _ _ x => x
    obtain ⟨hv, st4, m4⟩ := x5
    have S4 := Si.step (fun a ha => List.mem_append_left _ ha) P.toApartW m4
    obtain ⟨γ', hC', hT, hB'⟩ := hb i d hd hIv
    refine hT.use (g := g) (hC i) A env W _ B s4 v _ _ ha.hh S4 hv fun s5 S5 m5 => ?_
    have st5 := IT.frame W _ _ _ (fun a ha => List.mem_append_left _ ha) P.w m5.kept st4
    refine wpAny_mono (hB' (its ++ Y) (s5 :: B) s5 _ S5.rebase) (fun f s6 x6 => ?_) fun _ _ x => x
    rcases x6 with ⟨rfl, hI6, S6⟩ | ⟨v', γ'', d', rfl, hR, S6, hv'⟩
    · refine ⟨ds.length - (i + 1), by omega, i + 1, hlt, rfl, hI6, S6.bases fun b hb => List.mem_cons_of_mem _ hb, ?_⟩
      exact IT.frame W _ _ _ (fun a ha => List.mem_append_left _ ha) P.w (S6.mv s5 List.mem_cons_self).kept st5
    · exact kr γ'' d' v' (its ++ Y) s6 hR (fun a ha => List.mem_append_right _ ha) (S6.bases fun b hb => List.mem_cons_of_mem _ hb) hv'
  · have hi2 : i = ds.length := by omega
    subst hi2
    refine wpAny_mono (IT.done s' _ Si.rd.old sti) (fun r s3 x3 => ?_) fun _ _ x => x
    obtain ⟨rfl, L⟩ := x3
    exact wpAny_execs_nil (k s3 hIv (Si.lose P L))

/-- for target in iter: body; RR says what an early return hands on -/
theorem st_forI {C : Cx} {target iter : Expr} {body : List Stmt} {pos : Pos} {ds : List D} {okT : Expr → Prop} (S : St g env W Y B s) (ha : AOk g.n A) (hs : Src g iter ds okT) (ht : okT target) (γ : Nat → G) (hC : ∀ i, (γ i).C = g.C)
    (RR : G → D → Prop) (Iv : Nat → Prop) (hI0 : Iv 0) (h0 : ∀ Y' s', St g env W Y' B s' → St (γ 0) env W Y' B s')
    (hb : ∀ i d, ds[i]? = some d → Iv i → ∃ γ', γ'.C = g.C ∧ Tgt (γ i) target d γ' ∧ ∀ Y' B' s' E', St γ' env W Y' B' s' →
      wpAny (modC C) A (execs body env) (fun f s'' => (f = .next ∧ Iv (i + 1) ∧ St (γ (i + 1)) env W Y' B' s'') ∨ ∃ v γ'' d', f = .ret v ∧ RR γ'' d' ∧ St γ'' env W Y' B' s'' ∧ Rep s''.heap (W ++ Y') v d') E' s')
    (kr : ∀ γ'' d' v Y' s'', RR γ'' d' → (∀ a ∈ Y, a ∈ Y') → St γ'' env W Y' B s'' → Rep s''.heap (W ++ Y') v d' → Q (.ret v) s'')
    (k : ∀ s', Iv ds.length → St (γ ds.length) env W Y B s' → wpAny (modC C) A (execs rest env) Q E s')
    (hfs : ∀ x, foldedSetIterable iter env x = pure x := by intro _; rfl) (hCe : g.C = C := by rfl) :
    wpAny (modC C) A (execs (.For target iter body [] pos :: rest) env) Q E s := by
  subst hCe
  refine wpAny_execs_cons (wpAny_For (wpAny_mono (hs A env _ s E ha S.rd) (fun xv s1 x1 => wpAny_mono x1 (fun it s2 x2 => ?_) fun _ _ x => x) fun _ _ x => x) hfs)
  obtain ⟨k2, I, its, st, rfl, hi, hX⟩ := x2
  exact for_core (iter := iter) S ha ht γ hC RR Iv hI0 h0 hb kr k k2 hi hX

theorem st_forR {C : Cx} {target iter : Expr} {body : List Stmt} {pos : Pos} {ds : List D} {okT : Expr → Prop} (S : St g env W Y B s) (ha : AOk g.n A) (hs : Src g iter ds okT) (ht : okT target) (γ : Nat → G) (hC : ∀ i, (γ i).C = g.C)
    (RR : G → D → Prop) (h0 : ∀ Y' s', St g env W Y' B s' → St (γ 0) env W Y' B s')
    (hb : ∀ i d, ds[i]? = some d → ∃ γ', γ'.C = g.C ∧ Tgt (γ i) target d γ' ∧ ∀ Y' B' s' E', St γ' env W Y' B' s' →
      wpAny (modC C) A (execs body env) (fun f s'' => (f = .next ∧ St (γ (i + 1)) env W Y' B' s'') ∨ ∃ v γ'' d', f = .ret v ∧ RR γ'' d' ∧ St γ'' env W Y' B' s'' ∧ Rep s''.heap (W ++ Y') v d') E' s')
    (kr : ∀ γ'' d' v Y' s'', RR γ'' d' → (∀ a ∈ Y, a ∈ Y') → St γ'' env W Y' B s'' → Rep s''.heap (W ++ Y') v d' → Q (.ret v) s'')
    (k : ∀ s', St (γ ds.length) env W Y B s' → wpAny (modC C) A (execs rest env) Q E s')
    (hfs : ∀ x, foldedSetIterable iter env x = pure x := by intro _; rfl) (hCe : g.C = C := by rfl) :
    wpAny (modC C) A (execs (.For target iter body [] pos :: rest) env) Q E s :=
  st_forI S ha hs ht γ hC RR (fun _ => True) trivial h0 (fun i d hd _ => let ⟨γ', h1, h2, h3⟩ := hb i d hd; ⟨γ', h1, h2, fun Y' B' s' E' S' => wpAny_mono (h3 Y' B' s' E' S') (fun f s'' x => x.imp (fun x => ⟨x.1, trivial, x.2⟩) id) fun _ _ x => x⟩) kr (fun s' _ S' => k s' S') hfs hCe

theorem st_for {C : Cx} {target iter : Expr} {body : List Stmt} {pos : Pos} {ds : List D} {okT : Expr → Prop} (S : St g env W Y B s) (ha : AOk g.n A) (hs : Src g iter ds okT) (ht : okT target) (γ : Nat → G) (hC : ∀ i, (γ i).C = g.C)
    (h0 : ∀ Y' s', St g env W Y' B s' → St (γ 0) env W Y' B s')
    (hb : ∀ i d, ds[i]? = some d → ∃ γ', γ'.C = g.C ∧ Tgt (γ i) target d γ' ∧ ∀ Y' B' s' E', St γ' env W Y' B' s' →
      wpAny (modC C) A (execs body env) (fun f s'' => f = .next ∧ St (γ (i + 1)) env W Y' B' s'') E' s')
    (k : ∀ s', St (γ ds.length) env W Y B s' → wpAny (modC C) A (execs rest env) Q E s')
    (hfs : ∀ x, foldedSetIterable iter env x = pure x := by intro _; rfl) (hCe : g.C = C := by rfl) :
    wpAny (modC C) A (execs (.For target iter body [] pos :: rest) env) Q E s := by
  subst hCe
  exact
  st_forR S ha hs ht γ hC (fun _ _ => False) h0 (fun i d hd => let ⟨γ', h1, h2, h3⟩ := hb i d hd; ⟨γ', h1, h2, fun Y' B' s' E' S' => wpAny_mono (h3 Y' B' s' E' S') (fun f s'' x => .inl x) fun _ _ x => x⟩) (fun _ _ _ _ _ h => h.elim) k hfs

theorem st_while {C : Cx} {test : Expr} {body : List Stmt} {pos : Pos} (S : St g env W Y B s) (ha : AOk g.n A) (γ : Nat → G) (hC : ∀ i, (γ i).C = g.C) (hn : ∀ i, (γ i).n = g.n) (N : Nat)
    (h0 : ∀ s', St g env W Y B s' → St (γ 0) env W Y B s') (ht : ∀ i, i < N → Tr (γ i) test true) (hN : Tr (γ N) test false)
    (hb : ∀ i, i < N → ∀ s' E', St (γ i) env W Y B s' → wpAny (modC C) A (execs body env) (fun f s'' => f = .next ∧ St (γ (i + 1)) env W Y B s'') E' s')
    (k : ∀ s', St (γ N) env W Y B s' → wpAny (modC C) A (execs rest env) Q E s') (hCe : g.C = C := by rfl) :
    wpAny (modC C) A (execs (.While test body [] pos :: rest) env) Q E s := by
  subst hCe
  refine wpAny_execs_cons (wpAny_While (codeAny_whileLoop (fun n s' => ∃ i, i ≤ N ∧ n = N - i ∧ St (γ i) env W Y B s') ?_ N ⟨0, Nat.zero_le _, rfl, h0 s S⟩))
  rintro n s' ⟨i, hi, rfl, Si⟩
  have e1 : model (γ i).C.prog (γ i).C.w = mod g := by unfold mod; rw [hC i]
  by_cases hlt : i < N
  · have key := ht i hlt A env _ s' (notedBy (mod g) A env fun e s' => cameBackBy (mod g) A env E e s') (by rw [hn i]; exact ha) Si.rd
    rw [e1] at key
    refine wpAny_mono key (fun b s2 x2 => ?_) fun _ _ x => x
    obtain ⟨rfl, k2⟩ := x2
    simp only [if_true]
    refine wpAny_mono (hb i hlt s2 _ (Si.kp k2)) (fun f s3 x3 => ?_) fun _ _ x => x
    obtain ⟨rfl, S3⟩ := x3
    exact ⟨N - (i + 1), by omega, i + 1, hlt, rfl, S3⟩
  · have hi2 : i = N := by omega
    subst hi2
    have key := hN A env _ s' (notedBy (mod g) A env fun e s' => cameBackBy (mod g) A env E e s') (by rw [hn i]; exact ha) Si.rd
    rw [e1] at key
    refine wpAny_mono key (fun b s2 x2 => ?_) fun _ _ x => x
    obtain ⟨rfl, k2⟩ := x2
    simp only [Bool.false_eq_true, if_false]
    exact wpAny_execs_nil (k s2 (Si.kp k2))
end
end Mine
end
section
open PySem PySem.Calls PyProof.Rows
set_option linter.unusedVariables false
set_option maxRecDepth 100000
namespace Mine

theorem codeAny_compLoop_gen {prog : Program} {w : World} {A : Around} {R : Result → Shared → Prop} {s : Shared} {elt target iter : Expr} {ifs : List Expr} {scope : Scope} {pos : Pos} {it acc : Value} {env : Env} (I : Nat → Shared → Prop)
    (turn : ∀ n s, I n s → wpAny (model prog w) A (pyNext it) (fun r s₁ => match r with
      | none => R (.ok .next) s₁
      | some v => wpAny (model prog w) A (letOwnedTupleGo target it v) (fun _ s₁' => wpAny (model prog w) A (assign target env v) (fun _ s₂ =>
          wpAny (model prog w) A (forIn ifs true fun c r => if r = true then do let ok ← isTrue c env (eval c env); pure (ForInStep.yield ok) else pure (ForInStep.yield r)) (fun ok s₃ =>
            if ok = true then wpAny (model prog w) A (eval elt env) (fun x s₄ =>
              wpAny (model prog w) A (call (.builtin "list.append") [acc, x]) (fun _ s₅ => ∃ m, m < n ∧ I m s₅) (notedBy (model prog w) A env fun e s' => R (.error e) s') s₄) (notedBy (model prog w) A env fun e s' => R (.error e) s') s₃
            else ∃ m, m < n ∧ I m s₃) (notedBy (model prog w) A env fun e s' => R (.error e) s') s₂) (notedBy (model prog w) A env fun e s' => R (.error e) s') s₁') (notedBy (model prog w) A env fun e s' => R (.error e) s') s₁) (notedBy (model prog w) A env fun e s' => R (.error e) s') s)
    (n : Nat) (h : I n s) :
    codeAny (model prog w) A (.compLoop (.ListComp elt [⟨target, iter, ifs, 0⟩] scope pos) 0 it acc env) R s := by
  refine codeAny_loop rfl I (fun n s hI => ?_) n h
  show wpAny _ A ((compTurn (.ListComp elt [⟨target, iter, ifs, 0⟩] scope pos) 0 it acc env).onRaise (fun x => do noteFrame x env; theTreesLotGoes x)) _ _ s
  refine wpAny_noted ?_
  rw [compTurn_list]
  refine wpAny_bind (wpAny_standAt (wpAny_bind (wpAny_mono (turn n s hI) (fun r s₁ h₁ => ?_) fun _ _ h' => h')))
  cases r with
  | none => exact wpAny_pure h₁
  | some v =>
    refine wpAny_bind (wpAny_mono h₁ (fun _ s₁' h₁' => ?_) fun _ _ h' => h')
    refine wpAny_bind (wpAny_mono h₁' (fun _ s₂ h₂ => wpAny_bind (wpAny_mono h₂ (fun ok s₃ h₃ => ?_) fun _ _ h' => h')) fun _ _ h' => h')
    cases ok with
    | false => exact wpAny_pure ⟨rfl, h₃⟩
    | true =>
      exact wpAny_bind (wpAny_bind (wpAny_mono h₃ (fun x s₄ h₄ => wpAny_bind (wpAny_mono h₄ (fun _ s₅ h₅ => wpAny_pure (wpAny_pure ⟨rfl, h₅⟩)) fun _ _ h' => h')) fun _ _ h' => h'))

/-- the captured cells -/
noncomputable def closeL (env : Env) : List (Str × NameKind) → List (Str × Addr) → List (Str × Addr)
  | [], acc => acc
  | (x, k) :: r, acc => if k == .free then (match env.cells.lookup x with
    | some c => closeL env r ((x, c) :: acc)
    | none => closeL env r acc) else closeL env r acc
theorem closure_eq {env : Env} : ∀ (names : List (Str × NameKind)) (acc : List (Str × Addr)), (∀ x, (x, NameKind.free) ∈ names → ∃ c, env.cells.lookup x = some c) →
    (forIn names acc (fun (x : Str × NameKind) (r : List (Str × Addr)) => if x.2 == .free then (do let a ← cellOf env x.1; pure (ForInStep.yield ((x.1, a) :: r))) else pure (ForInStep.yield r)) : Sem (List (Str × Addr))) = pure (closeL env names acc)
  | [], acc, _ => rfl
  | (x, k) :: r, acc, h => by
    rw [List.forIn_cons]
    unfold closeL
    have hr : ∀ y, (y, NameKind.free) ∈ r → ∃ c, env.cells.lookup y = some c := fun y hy => h y (List.mem_cons_of_mem _ hy)
    cases hk : k == NameKind.free with
    | false => simp only [Bool.false_eq_true, if_false]; exact closure_eq r acc hr
    | true =>
      simp only [if_true]
      have hkk : k = .free := by revert hk; cases k <;> decide
      obtain ⟨c, hc⟩ := h x (by rw [hkk]; exact List.mem_cons_self)
      have e1 : cellOf env x = pure c := by unfold cellOf; rw [hc]
      rw [e1, hc]
      exact closure_eq r _ hr
theorem closure_is {scope : Scope} {env : Env} (h : ∀ x, (x, NameKind.free) ∈ scope.names → ∃ c, env.cells.lookup x = some c) : closureFor scope env = pure (closeL env scope.names []) := by
  have := closure_eq scope.names [] h
  simp only [closureFor]
  rw [show (forIn scope.names ([] : List (Str × Addr)) (fun (x : Str × NameKind) (r : List (Str × Addr)) => match x with
      | (name, kind) => (do if (kind == NameKind.free) = true then (do let a ← cellOf env name; pure (ForInStep.yield ((name, a) :: r))) else pure (ForInStep.yield r))) : Sem (List (Str × Addr))) = _ from this]
  rfl
theorem closeL_some {env : Env} : ∀ {names : List (Str × NameKind)} {acc : List (Str × Addr)} {x : Str} {c : Addr}, (∀ y b, acc.lookup y = some b → env.cells.lookup y = some b) → (closeL env names acc).lookup x = some c → env.cells.lookup x = some c
  | [], acc, x, c, ha, h => ha _ _ h
  | (y, k) :: r, acc, x, c, ha, h => by
    unfold closeL at h
    split at h
    · split at h
      · rename_i b hb
        refine closeL_some (fun z e hz => ?_) h
        rw [List.lookup_cons] at hz
        cases q : z == y with
        | true => rw [q] at hz; cases hz; rw [beq_iff_eq.mp q]; exact hb
        | false => rw [q] at hz; exact ha z e hz
      · exact closeL_some ha h
    · exact closeL_some ha h
theorem closeL_has {env : Env} : ∀ {names : List (Str × NameKind)} {acc : List (Str × Addr)} {x : Str}, (∀ y, (y, NameKind.free) ∈ names → ∃ c, env.cells.lookup y = some c) → ((x, NameKind.free) ∈ names ∨ (acc.lookup x).isSome = true) → ((closeL env names acc).lookup x).isSome = true
  | [], acc, x, _, h => by rcases h with h | h; cases h; exact h
  | (y, k) :: r, acc, x, hh, h => by
    unfold closeL
    have hr : ∀ z, (z, NameKind.free) ∈ r → ∃ c, env.cells.lookup z = some c := fun z hz => hh z (List.mem_cons_of_mem _ hz)
    split
    · rename_i hk
      have hkk : k = .free := by revert hk; cases k <;> decide
      subst hkk
      obtain ⟨c, hc⟩ := hh y List.mem_cons_self
      rw [hc]
      refine closeL_has hr ?_
      rcases h with h | h
      · rcases List.mem_cons.mp h with e | h
        · cases e; right; simp
        · exact .inl h
      · right
        rw [List.lookup_cons]
        cases x == y with
        | true => rfl
        | false => exact h
    · rename_i hk
      refine closeL_has hr ?_
      rcases h with h | h
      · rcases List.mem_cons.mp h with e | h
        · cases e; exact absurd rfl hk
        · exact .inl h
      · exact .inr h
theorem closeL_inj {env : Env} {names : List (Str × NameKind)} (hi : ∀ x x' c, env.cells.lookup x = some c → env.cells.lookup x' = some c → x = x') {x x' : Str} {c : Addr} (h : (closeL env names []).lookup x = some c) (h' : (closeL env names []).lookup x' = some c) : x = x' :=
  hi x x' c (closeL_some (fun _ _ e => by simp at e) h) (closeL_some (fun _ _ e => by simp at e) h')

theorem cellsFrom_app : ∀ (names : List (Str × NameKind)) (n : Nat) (acc acc' : List (Str × Addr)), cellsFrom n names (acc ++ acc') = cellsFrom n names acc ++ acc'
  | [], _, _, _ => rfl
  | (x, k) :: r, n, acc, acc' => by
    unfold cellsFrom
    split
    · exact cellsFrom_app r (n + 1) ((x, n) :: acc) acc'
    · exact cellsFrom_app r n acc acc'
theorem lookup_app {α : Type} {x : Str} : ∀ (l l' : List (Str × α)), (l ++ l').lookup x = match l.lookup x with | some c => some c | none => l'.lookup x
  | [], l' => by simp
  | (y, b) :: r, l' => by
    rw [List.cons_append, List.lookup_cons, List.lookup_cons]
    cases x == y with
    | true => rfl
    | false => exact lookup_app r l'
theorem relabel_kind {env : Env} : ∀ {names : List (Str × NameKind)} {x : Str} {k : NameKind}, names.lookup x = some k →
    (names.map fun (n, k) => if (k == NameKind.free && env.scope.kind == .function && env.kindOf n == some .cell) then (n, NameKind.cell) else (n, k)).lookup x = some k ∨ (k = .free ∧ (names.map fun (n, k) => if (k == NameKind.free && env.scope.kind == .function && env.kindOf n == some .cell) then (n, NameKind.cell) else (n, k)).lookup x = some .cell)
  | [], _, _, h => by simp at h
  | (n, k0) :: r, x, k, h => by
    have ih := @relabel_kind env r x k
    rw [List.map_cons]
    generalize hT : (List.map _ r) = T at ih ⊢
    dsimp only
    cases hx : x == n with
    | true =>
      simp only [List.lookup_cons, hx] at h
      cases h
      by_cases hc : (k0 == NameKind.free && env.scope.kind == .function && env.kindOf n == some .cell) = true
      · right
        have hk : k0 = .free := by
          simp only [Bool.and_eq_true] at hc
          have := hc.1.1
          revert this; cases k0 <;> decide
        refine ⟨hk, ?_⟩
        rw [if_pos hc, List.lookup_cons, hx]
      · left
        rw [if_neg hc, List.lookup_cons, hx]
    | false =>
      simp only [List.lookup_cons, hx] at h
      by_cases hc : (k0 == NameKind.free && env.scope.kind == .function && env.kindOf n == some .cell) = true
      · rw [if_pos hc, List.lookup_cons, hx]; exact ih h
      · rw [if_neg hc, List.lookup_cons, hx]; exact ih h

/-- the frame of a comprehension -/
noncomputable def cenvOf (scope : Scope) (env : Env) (L : Addr) : Env :=
  { scope := relabel scope env, locals := L, globals := env.globals, cells := cellsFrom (L + 1) scope.names (closeL env scope.names []), qual := env.qual, func := none, code := env.code, frame := env.frame, builtins := env.builtins }
theorem newEnv_comp {M : Model} {A : Around} {E : Value → Shared → Prop} {s : Shared} {scope : Scope} {env : Env} {cl : List (Str × Addr)} {Q : Env → Shared → Prop} (hcl : cl = closeL env scope.names [])
    (h : ∀ cenv, { cenv with scope := relabel scope env } = cenvOf scope env s.heap.objs.size → cenv.locals = s.heap.objs.size → Q cenv { s with heap := pushCells (s.heap.push { cls := .type "dict", data := .dict #[] }) scope.names }) :
    wpAny M A (newFunctionEnv scope env.globals cl [] env.qual none .none (some env)) Q E s := by
  simp only [newFunctionEnv, Option.isSome_some, if_true]
  refine wpAny_bind (wpAny_alloc ?_)
  refine wpAny_bind (wpAny_layCells _ (fun name kind cells => by cases hkc : kind == NameKind.cell <;> simp [hkc]) _ _ _ _ ?_)
  refine wpAny_bind (wpAny_pure ?_)
  refine wpAny_pure (h _ ?_ rfl)
  rw [show ({ s with heap := s.heap.push { cls := .type "dict", data := .dict #[] } } : Shared).heap.objs.size = s.heap.objs.size + 1 from Heap.size_push ..]
  subst hcl
  rfl
end Mine
end
section
open PySem PySem.Calls PyProof.Rows
set_option linter.unusedVariables false
set_option maxRecDepth 100000
namespace Mine

theorem closeL_mem {env : Env} : ∀ {names : List (Str × NameKind)} {acc : List (Str × Addr)} {x : Str} {c : Addr}, (closeL env names acc).lookup x = some c → (x, NameKind.free) ∈ names ∨ acc.lookup x = some c
  | [], acc, x, c, h => .inr h
  | (y, k) :: r, acc, x, c, h => by
    unfold closeL at h
    split at h
    · rename_i hk
      have hkk : k = .free := by revert hk; cases k <;> decide
      subst hkk
      split at h
      · rename_i b hb
        rcases closeL_mem h with q | q
        · exact .inl (List.mem_cons_of_mem _ q)
        · rw [List.lookup_cons] at q
          cases z : x == y with
          | true => rw [beq_iff_eq.mp z]; exact .inl List.mem_cons_self
          | false => rw [z] at q; exact .inr q
      · exact (closeL_mem h).imp (List.mem_cons_of_mem _) id
    · exact (closeL_mem h).imp (List.mem_cons_of_mem _) id
theorem cellsFrom_mem : ∀ {names : List (Str × NameKind)} {n : Nat} {acc : List (Str × Addr)} {x : Str} {c : Addr}, (x, c) ∈ cellsFrom n names acc → (x, NameKind.cell) ∈ names ∨ (x, c) ∈ acc
  | [], _, _, _, _, h => .inr h
  | (y, k) :: r, n, acc, x, c, h => by
    unfold cellsFrom at h
    split at h
    · rename_i hk
      have hkk : k = .cell := by revert hk; cases k <;> decide
      subst hkk
      rcases cellsFrom_mem h with q | q
      · exact .inl (List.mem_cons_of_mem _ q)
      · rcases List.mem_cons.mp q with e | q
        · cases e; exact .inl List.mem_cons_self
        · exact .inr q
    · exact (cellsFrom_mem h).imp (List.mem_cons_of_mem _) id

/-- what a comprehension's scope must be -/
structure ScOk (g : G) (scope : Scope) : Prop where
  kind : scope.kind = .function
  names : ∀ x ∈ scope.names, x.2 = .local → scope.names.lookup x.1 = some .local
  free : ∀ x ∈ scope.names, x.2 = .free → g.ns.lookup x.1 = some .cell ∨ g.ns.lookup x.1 = some .free
  dis : ∀ x ∈ scope.names, x.2 = .cell → ∀ y ∈ scope.names, y.2 = .free → x.1 ≠ y.1

section
variable {g : G} {A : Around} {env : Env} {X : List Addr} {s : Shared} {E : Value → Shared → Prop}

/-- the frame of the comprehension is a frame -/
theorem comp_frame {scope : Scope} {γ : G} {Wb its : List Addr} {s2 : Shared} (hR : Rd g env X s) (hWb : ∀ a ∈ Wb, a ∈ X) (ok : ScOk g scope) (hC : γ.C = g.C) (hns : γ.ns = scope.names)
    (hcap : ∀ x d, γ.ρ.lookup x = some d → g.ρ.lookup x = some d ∧ scope.names.lookup x = some .free) (hσ : ∀ a c, (a, c) ∈ γ.σ → (a, c) ∈ g.σ ∧ a ∈ Wb)
    (k2 : Kp s s2) (hi : ∀ a ∈ its, s.heap.get? a = none ∧ ∃ o, s2.heap.get? a = some o) (Ac L : Addr) (hD : Ac = s2.heap.objs.size) (hL : L = Ac + 1) (s3 s4 : Shared)
    (h3 : s3 = { s2 with heap := s2.heap.push { cls := .type "list", dict := none, data := .seq ([] : List Value).toArray } }) (h4 : s4 = { s3 with heap := pushCells (s3.heap.push { cls := .type "dict", data := .dict #[] }) scope.names }) :
    ∃ Wc, (∀ a ∈ L :: Wc, s2.heap.get? a = none ∧ a ≠ Ac) ∧ St γ (cenvOf scope env L) ((L :: Wc) ++ Wb) (Ac :: (its ++ X)) [s] s4 ∧ Ext s2.heap s4.heap ∧ Kp s s4 ∧ s4.heap.PlainList Ac #[] ∧ (∀ x c, (cenvOf scope env L).cells.lookup x = some c → c ∈ Wc ∨ ∃ o, s.heap.get? c = some o) := by
  have hs3 : s3.heap.objs.size = L := by rw [h3, hL, hD]; exact Heap.size_push ..
  have e23 : Ext s2.heap s3.heap := by rw [h3]; exact Ext.push _ _
  have e34 : Ext s3.heap s4.heap := by
    rw [h4]
    exact fun b o e => pushCells_keeps _ _ b o (Heap.get?_push_of_some _ e)
  have e24 : Ext s2.heap s4.heap := Ext.trans e23 e34
  have k24 : Kp s2 s4 := ⟨⟨s4.heap, s2.toks, by rw [h4, h3]⟩, e24⟩
  have k4 : Kp s s4 := k2.trans k24
  obtain ⟨nc, hnc⟩ : ∃ nc, nc = cellsFrom (L + 1) scope.names [] := ⟨_, rfl⟩
  have okc : CellsOk s4.heap (L + 1) nc := by
    have := cellsFrom_ok scope.names (s3.heap.push { cls := .type "dict", data := .dict #[] }) (L + 1) [] ⟨fun _ _ hm => (nomatch hm), List.Pairwise.nil⟩ (by rw [Heap.size_push, hs3]; exact Nat.le_refl _)
    rw [Heap.size_push, hs3] at this
    rw [hnc, h4]; exact this
  have hcells : (cenvOf scope env L).cells = nc ++ closeL env scope.names [] := by
    rw [hnc]
    show cellsFrom (L + 1) scope.names (closeL env scope.names []) = _
    have := cellsFrom_app scope.names (L + 1) [] (closeL env scope.names [])
    simpa using this
  have hdead2 : ∀ a, Ac ≤ a → s2.heap.get? a = none := fun a ha => Heap.get?_none_of_le (by rw [← hD]; exact ha)
  have hW : ∀ a ∈ L :: nc.map (·.2), s2.heap.get? a = none ∧ a ≠ Ac := fun a ha => by
    have : Ac < a := by
      rcases List.mem_cons.mp ha with rfl | ha
      · rw [hL]; exact Nat.lt_succ_self _
      · obtain ⟨⟨x, c⟩, hc, rfl⟩ := List.mem_map.mp ha
        have := (okc.empty x c hc).2
        exact Nat.lt_of_lt_of_le (by rw [hL]; exact Nat.lt_succ_of_lt (Nat.lt_succ_self _)) this
    exact ⟨hdead2 a (Nat.le_of_lt this), Ne.symm (Nat.ne_of_lt this)⟩
  have back : ∀ a, s2.heap.get? a = none → s.heap.get? a = none := fun a h => by
    cases e : s.heap.get? a with
    | none => rfl
    | some o => have := k2.ext _ _ e; rw [h] at this; cases this
  have hDl : s4.heap.PlainList Ac #[] := ⟨0, e34 _ _ (by rw [h3, hD]; exact Heap.get?_push_size _ rfl)⟩
  have hLn : s4.heap.Ns L fun _ => none := by
    rw [h4, ← hs3]
    exact (Heap.Ns.new s3.heap (.type "dict")).keeps (pushCells_keeps _ _)
  have memX : ∀ a, a ∈ ((L :: nc.map (·.2)) ++ Wb) ++ (Ac :: (its ++ X)) → a ∈ X ∨ (s.heap.get? a = none ∧ ∃ o, s4.heap.get? a = some o) := fun a ha => by
    rcases List.mem_append.mp ha with ha | ha
    · rcases List.mem_append.mp ha with ha | ha
      · refine .inr ⟨back a (hW a ha).1, ?_⟩
        rcases List.mem_cons.mp ha with rfl | ha
        · exact ns_alive hLn
        · obtain ⟨⟨x, c⟩, hc, rfl⟩ := List.mem_map.mp ha
          obtain ⟨o, ho, _⟩ := (okc.empty x c hc).1
          exact ⟨o, ho⟩
      · exact .inl (hWb a ha)
    · rcases List.mem_cons.mp ha with rfl | ha
      · exact .inr ⟨back _ (hdead2 _ (Nat.le_refl _)), let ⟨n, e⟩ := hDl; ⟨_, e⟩⟩
      · rcases List.mem_append.mp ha with ha | ha
        · obtain ⟨h1, o, e⟩ := hi a ha
          exact .inr ⟨h1, o, e24 _ _ e⟩
        · exact .inl ha
  have up : ∀ {v : Value} {d : D}, Rep s.heap X v d → Rep s4.heap (((L :: nc.map (·.2)) ++ Wb) ++ (Ac :: (its ++ X))) v d := fun r => r.mono fun a o hx e _ => ⟨k4.ext _ _ e, fun q => (memX a q).elim hx fun z => by rw [z.1] at e; cases e⟩
  have ups : ∀ {v : List Value} {d : List D}, Reps s.heap X v d → Reps s4.heap (((L :: nc.map (·.2)) ++ Wb) ++ (Ac :: (its ++ X))) v d := fun r => r.mono fun a o hx e _ => ⟨k4.ext _ _ e, fun q => (memX a q).elim hx fun z => by rw [z.1] at e; cases e⟩
  have free_cell : ∀ x, (x, NameKind.free) ∈ scope.names → ∃ c v, env.cells.lookup x = some c ∧ s.heap.IsCell c v := fun x hx => hR.cell x (ok.free _ hx rfl)
  have hnl : ∀ x, (x, NameKind.free) ∈ scope.names → nc.lookup x = none := fun x hx => by
    cases e : nc.lookup x with
    | none => rfl
    | some c =>
      rcases cellsFrom_mem (hnc ▸ mem_of_lookup e) with q | q
      · exact absurd rfl (ok.dis (x, .cell) q rfl (x, .free) hx rfl)
      · cases q
  have clook : ∀ x c, (cenvOf scope env L).cells.lookup x = some c → (x, c) ∈ nc ∨ ((x, NameKind.free) ∈ scope.names ∧ env.cells.lookup x = some c) := fun x c h => by
    rw [hcells, lookup_app] at h
    cases e : nc.lookup x with
    | some c' => rw [e] at h; cases h; exact .inl (mem_of_lookup e)
    | none =>
      rw [e] at h
      rcases closeL_mem h with q | q
      · exact .inr ⟨q, closeL_some (fun _ _ e => by simp at e) h⟩
      · simp at q
  have cfree : ∀ x, (x, NameKind.free) ∈ scope.names → ∀ c, env.cells.lookup x = some c → (cenvOf scope env L).cells.lookup x = some c := fun x hx c hc => by
    rw [hcells, lookup_app, hnl x hx]
    have := closeL_has (env := env) (names := scope.names) (acc := []) (x := x) (fun y hy => let ⟨c, v, h, _⟩ := free_cell y hy; ⟨c, h⟩) (.inl hx)
    obtain ⟨c', hc'⟩ := Option.isSome_iff_exists.mp this
    have h2 := closeL_some (fun _ _ e => by simp at e) hc'
    rw [hc] at h2; cases h2
    exact hc'
  have ccell : ∀ x, scope.names.lookup x = some .cell → ∃ c, (x, c) ∈ nc ∧ (cenvOf scope env L).cells.lookup x = some c := fun x hx => by
    have := cellsFrom_some (x := x) (names := scope.names) (n := L + 1) (acc := []) (.inl (mem_of_lookup hx))
    rw [← hnc] at this
    obtain ⟨c, hc⟩ := Option.isSome_iff_exists.mp this
    exact ⟨c, mem_of_lookup hc, by rw [hcells, lookup_app, hc]⟩
  have kindI : ∀ x k, scope.names.lookup x = some k → (cenvOf scope env L).kindOf x = some k ∨ (k = .free ∧ (cenvOf scope env L).kindOf x = some .cell) := fun x k h => relabel_kind (env := env) h
  refine ⟨nc.map (·.2), hW, ⟨⟨fun x k h => kindI x k (hns ▸ h), ok.kind, hR.gl, hR.bi, by rw [hC]; exact hR.glb.ext k4.ext, fun a ha => ?_, fun a ha => ?_, ⟨_, hLn⟩, fun x hx => ?_, fun x d hx => ?_, fun a c hc => ?_, fun x c hx => ?_⟩, fun b hb => ?_, List.mem_append_left _ List.mem_cons_self, fun x c hx hc => ?_, fun x c hc q => ?_, fun x x' c hk h h' => ?_, fun a c hc => ?_⟩, e24, k4, hDl, fun x c h => (clook x c h).imp (fun q => List.mem_map.mpr ⟨_, q, rfl⟩) fun q => hR.cal x c q.2⟩
  · rcases memX a ha with q | q
    · obtain ⟨o, e⟩ := hR.old a q; exact ⟨o, k4.ext _ _ e⟩
    · exact q.2
  · rw [hC]
    rcases memX a ha with q | q
    · exact hR.fr a q
    · exact hR.glb.fresh q.1
  · rw [hns] at hx
    rcases hx with hx | hx
    · obtain ⟨c, h1, h2⟩ := ccell x hx
      exact ⟨c, _, h2, (okc.empty x c h1).1⟩
    · obtain ⟨c, v, h1, h2⟩ := free_cell x (mem_of_lookup hx)
      exact ⟨c, v, cfree x (mem_of_lookup hx) c h1, h2.keeps k4.ext⟩
  · obtain ⟨h1, h2⟩ := hcap x d hx
    obtain ⟨v, hb, hr⟩ := hR.loc x d h1
    refine ⟨v, ?_, up hr⟩
    have hfm := mem_of_lookup h2
    have hko : env.kindOf x = some .cell ∨ env.kindOf x = some .free := by
      rcases ok.free _ hfm rfl with q | q
      · exact .inl (hR.kind q (by decide))
      · rcases hR.names x _ q with z | z
        · exact .inr z
        · exact .inl z.2
    rcases hb with ⟨q1, _⟩ | ⟨q1, c, q2, q3⟩
    · rcases hko with z | z <;> (rw [z] at q1; cases q1)
    · refine .inr ⟨?_, c, cfree x hfm c q2, q3.keeps k4.ext⟩
      rcases kindI x _ h2 with z | z
      · exact .inr z
      · exact .inl z.2
  · obtain ⟨h1, h2⟩ := hσ a c hc
    exact ⟨List.mem_append_left _ (List.mem_append_right _ h2), hC ▸ (hR.own a c h1).2.keep (fun o e => k4.ext _ _ e) (fun _ _ r => up r) fun _ _ r => ups r⟩
  · rcases clook x c hx with q | q
    · obtain ⟨o, ho, _⟩ := (okc.empty x c q).1; exact ⟨o, ho⟩
    · obtain ⟨o, ho⟩ := hR.cal x c q.2; exact ⟨o, k4.ext _ _ ho⟩
  · rw [List.mem_singleton.mp hb]; exact k4.moves _
  · rw [hns] at hx
    rcases clook x c hc with q | q
    · exact List.mem_append_left _ (List.mem_cons_of_mem _ (List.mem_map.mpr ⟨_, q, rfl⟩))
    · exact absurd rfl (ok.dis (x, .cell) (mem_of_lookup hx) rfl (x, .free) q.1 rfl)
  · have q' : c = L := q
    rcases clook x c hc with z | z
    · have := (okc.empty x c z).2
      rw [q'] at this
      exact Nat.not_succ_le_self _ this
    · obtain ⟨o, ho⟩ := hR.cal x c z.2
      rw [q', back L (hW L List.mem_cons_self).1] at ho; cases ho
  · rw [hns] at hk
    rcases clook x c h with z | z
    · rcases clook x' c h' with z' | z'
      · exact name_of_addr okc.apart z z'
      · obtain ⟨o, ho⟩ := hR.cal x' c z'.2
        rw [back c (hW c (List.mem_cons_of_mem _ (List.mem_map.mpr ⟨_, z, rfl⟩))).1] at ho; cases ho
    · exact absurd rfl (ok.dis (x, .cell) (mem_of_lookup hk) rfl (x, .free) z.1 rfl)
  · obtain ⟨h1, h2⟩ := hσ a c hc
    obtain ⟨o, ho⟩ := (hR.own a c h1).2.alive
    refine ⟨List.mem_append_right _ h2, fun q => ?_, fun x c' _ hc' q => ?_⟩
    · have q' : a = L := q
      rw [q', back L (hW L List.mem_cons_self).1] at ho; cases ho
    · rcases clook x c' hc' with z | z
      · rw [q, back c' (hW c' (List.mem_cons_of_mem _ (List.mem_map.mpr ⟨_, z, rfl⟩))).1] at ho; cases ho
      · obtain ⟨c'', v, y1, y2⟩ := free_cell x z.1
        rw [z.2] at y1; cases y1
        exact (hR.own a c h1).2.notCell y2 q.symm
end
end Mine
end
section
open PySem PySem.Calls PyProof.Rows
set_option linter.unusedVariables false
set_option maxRecDepth 100000
namespace Mine
section
variable {g : G} {A : Around} {env : Env} {X : List Addr} {s : Shared} {E : Value → Shared → Prop}

noncomputable abbrev testsOf (ifs : List Expr) (env : Env) : Sem Bool := forIn ifs true fun c r => if r = true then do let ok ← isTrue c env (eval c env); pure (ForInStep.yield ok) else pure (ForInStep.yield r)

theorem comp_gen {elt target iter : Expr} {ifs : List Expr} {scope : Scope} {pos : Pos} {ds : List D} {okT : Expr → Prop} {Wb : List Addr} {Q : Value → Shared → Prop} {use : Option (Value → Sem Unit)}
    (ha : AOk g.n A) (hR : Rd g env X s) (hWb : ∀ a ∈ Wb, a ∈ X) (ok : ScOk g scope) (hs : Src g iter ds okT) (ht : okT target) (hlen : ds.length ≤ 16777216)
    (γ : Nat → G) (hC : ∀ i, (γ i).C = g.C) (hns : (γ 0).ns = scope.names)
    (hcap : ∀ x d, (γ 0).ρ.lookup x = some d → g.ρ.lookup x = some d ∧ scope.names.lookup x = some .free) (hσ : ∀ a c, (a, c) ∈ (γ 0).σ → (a, c) ∈ g.σ ∧ a ∈ Wb)
    (out : Nat → List D) (h0 : out 0 = [])
    (hstep : ∀ i d, ds[i]? = some d → ∃ γ', γ'.C = g.C ∧ Tgt (γ i) target d γ' ∧ ∀ env' W' Y' B' s' E', St γ' env' W' Y' B' s' →
      wpAny (mod g) A (testsOf ifs env') (fun ok s'' => if ok = true then wpAny (mod g) A (eval elt env') (fun v s3 => ∃ dv, Rep s3.heap (W' ++ Y') v dv ∧ out (i + 1) = out i ++ [dv] ∧ St (γ (i + 1)) env' W' Y' B' s3) E' s''
        else out (i + 1) = out i ∧ St (γ (i + 1)) env' W' Y' B' s'') E' s')
    (hfin : ∀ Ac L vs s5 m, s.heap.get? Ac = none → s.heap.get? L = none → L ≠ Ac → s5.heap.Ns L m → s5.heap.PlainList Ac vs.toArray → Reps s5.heap (L :: Ac :: X) vs (out ds.length) → Moves Wb s s5 →
      (∀ a c, (a, c) ∈ (γ ds.length).σ → a ≠ L ∧ OwnIs g.C s5.heap (L :: X) a c) → compPost (mod g) A E use Q (.ref Ac) L (.ok .next) s5)
    (hfs : ∀ x, foldedSetIterable iter env x = pure x := by intro _; rfl) :
    wpAny (mod g) A (comprehension (.ListComp elt [⟨target, iter, ifs, 0⟩] scope pos) scope env (firstIterPos [⟨target, iter, ifs, 0⟩] pos) (newList []) false (eval iter env) use) Q E s := by
  refine wpAny_comprehension_free (use := use) rfl hfs (closure_is fun x hx => let ⟨c, v, h, _⟩ := hR.cell x (ok.free _ hx rfl); ⟨c, h⟩) ok.kind ok.names
    (wpAny_mono (hs A env X s E ha hR) (fun xv s1 x1 => wpAny_mono x1 (fun it s2 x2 => ?_) fun _ _ x => x) fun _ _ x => x)
  obtain ⟨k2, I, its, st, rfl, hi, hX⟩ := x2
  refine wpAny_newObj_type (newEnv_comp rfl fun cenv hce hcl => ?_)
  rw [hce]
  obtain ⟨Ac, hAc⟩ : ∃ Ac, Ac = s2.heap.objs.size := ⟨_, rfl⟩
  obtain ⟨s3, h3⟩ : ∃ s3 : Shared, s3 = { s2 with heap := s2.heap.push { cls := .type "list", dict := none, data := .seq ([] : List Value).toArray } } := ⟨_, rfl⟩
  rw [← h3] at hce hcl ⊢
  obtain ⟨L, hL⟩ : ∃ L, L = s3.heap.objs.size := ⟨_, rfl⟩
  have hL1 : L = Ac + 1 := by rw [hL, h3, hAc]; exact Heap.size_push ..
  obtain ⟨s4, h4⟩ : ∃ s4 : Shared, s4 = { s3 with heap := pushCells (s3.heap.push { cls := .type "dict", data := .dict #[] }) scope.names } := ⟨_, rfl⟩
  rw [← h4]
  rw [← hL] at hcl hce ⊢
  rw [← hAc]
  obtain ⟨Wc, hW, S4, e24, k4, hDl, ccells⟩ := comp_frame hR hWb ok (hC 0) hns hcap hσ k2 hi Ac L hAc hL1 s3 s4 h3 h4
  obtain ⟨W', hW'⟩ : ∃ W', W' = (L :: Wc) ++ Wb := ⟨_, rfl⟩
  obtain ⟨Y', hY'⟩ : ∃ Y', Y' = Ac :: (its ++ X) := ⟨_, rfl⟩
  rw [← hW', ← hY'] at S4
  have hdAc : s2.heap.get? Ac = none := by rw [hAc]; exact get_size _
  have back : ∀ a, s2.heap.get? a = none → s.heap.get? a = none := fun a h => by
    cases e : s.heap.get? a with
    | none => rfl
    | some o => have := k2.ext _ _ e; rw [h] at this; cases this
  have hLAc : L ≠ Ac := (hW L List.mem_cons_self).2
  have hitsD : ∀ a ∈ its, a ≠ Ac ∧ a ∉ L :: Wc := fun a h => by
    obtain ⟨_, o, e⟩ := hi a h
    exact ⟨fun q => (by rw [q, hdAc] at e; cases e), fun q => by rw [(hW a q).1] at e; cases e⟩
  have hWalive : ∀ a ∈ W', s.heap.get? a = none ∨ a ∈ X := fun a h => by
    rw [hW'] at h
    rcases List.mem_append.mp h with h | h
    · exact .inl (back a (hW a h).1)
    · exact .inr (hWb a h)
  have hitsY : ∀ a ∈ its, a ∈ Y' := fun a h => by rw [hY']; exact List.mem_cons_of_mem _ (List.mem_append_left _ h)
  have hAcY : ∀ a ∈ [Ac], a ∈ Y' := fun a h => by rw [List.mem_singleton.mp h, hY']; exact List.mem_cons_self
  have hXY : ∀ a ∈ X, a ∈ W' ++ Y' := fun a h => List.mem_append_right _ (by rw [hY']; exact List.mem_cons_of_mem _ (List.mem_append_right _ h))
  have hWW : ∀ a ∈ W', a ∈ L :: Wc ∨ a ∈ Wb := fun a h => by rw [hW'] at h; exact List.mem_append.mp h
  have aliveX : ∀ a ∈ X, ∃ o, s2.heap.get? a = some o := fun a h => let ⟨o, e⟩ := hR.old a h; ⟨o, k2.ext _ _ e⟩
  have hAcX : Ac ∉ X := fun h => by obtain ⟨o, e⟩ := aliveX Ac h; rw [hdAc] at e; cases e
  have P1 : ApartW (cenvOf scope env L) W' [s] its := ⟨fun a h q => ?_, fun a h x q => ?_, fun b hb a h => ?_⟩
  rotate_left
  · rcases hWW a q with z | z
    · exact (hitsD a h).2 z
    · obtain ⟨o, e⟩ := hR.old a (hWb a z)
      rw [(hi a h).1] at e; cases e
  · rcases ccells x a q with z | ⟨o, e⟩
    · exact (hitsD a h).2 (List.mem_cons_of_mem _ z)
    · rw [(hi a h).1] at e; cases e
  · rw [List.mem_singleton.mp hb]; exact (hi a h).1
  have P2 : ApartW (cenvOf scope env L) W' [s] [Ac] := ⟨fun a h q => ?_, fun a h x q => ?_, fun b hb a h => ?_⟩
  rotate_left
  · rw [List.mem_singleton.mp h] at q
    rcases hWW Ac q with z | z
    · exact (hW Ac z).2 rfl
    · exact hAcX (hWb _ z)
  · rw [List.mem_singleton.mp h] at q
    rcases ccells x Ac q with z | ⟨o, e⟩
    · exact (hW Ac (List.mem_cons_of_mem _ z)).2 rfl
    · rw [back Ac hdAc] at e; cases e
  · rw [List.mem_singleton.mp hb, List.mem_singleton.mp h]; exact back Ac hdAc
  obtain ⟨st0, IT⟩ := hX (W' ++ Y') (fun a h => List.mem_append_right _ (hitsY a h)) (fun a h => by
    rcases List.mem_append.mp h with h | h
    · rcases hWW a h with z | z
      · exact .inr (.inr (hW a z).1)
      · exact .inl (hWb a z)
    · rw [hY'] at h
      rcases List.mem_cons.mp h with rfl | h
      · exact .inr (.inr hdAc)
      · exact (List.mem_append.mp h).elim (fun z => .inr (.inl z)) .inl)
  have hWX : ∀ a ∈ W', a ∈ W' ++ Y' := fun a h => List.mem_append_left _ h
  have hAcX' : ∀ a ∈ [Ac], a ∈ W' ++ Y' := fun a h => List.mem_append_right _ (hAcY a h)
  have hitsAc : ∀ a ∈ its, a ∉ [Ac] := fun a h q => (hitsD a h).1 (List.mem_singleton.mp q)
  have st4 : st (W' ++ Y') 0 s4.heap := IT.frame [] 0 _ _ (fun _ h => by cases h) (fun _ _ h => by cases h) (.ofExt _ e24) st0
  have hAcW : Ac ∉ W' := P2.w Ac List.mem_cons_self
  -- the loop
  have loop : codeAny (mod g) A (.compLoop (.ListComp elt [⟨target, iter, ifs, 0⟩] scope pos) 0 (.ref I) (.ref Ac) (cenvOf scope env L)) (compPost (mod g) A E use Q (.ref Ac) cenv.locals) s4 := by
    refine codeAny_compLoop_gen (fun n s' => ∃ i vs, i ≤ ds.length ∧ n = ds.length - i ∧ St (γ i) (cenvOf scope env L) W' Y' [s] s' ∧ st (W' ++ Y') i s'.heap ∧ s'.heap.PlainList Ac vs.toArray ∧ Reps s'.heap (W' ++ Y') vs (out i) ∧ (out i).length ≤ i) ?_ ds.length
      ⟨0, [], Nat.zero_le _, rfl, S4, st4, hDl, by rw [h0]; exact .nil, by rw [h0]; exact Nat.le_refl _⟩
    rintro n s' ⟨i, vs, hi', rfl, Si, sti, hPl, hRs, hol⟩
    by_cases hlt : i < ds.length
    · obtain ⟨d, hd⟩ : ∃ d, ds[i]? = some d := ⟨_, List.getElem?_eq_getElem hlt⟩
      refine wpAny_mono (IT.item i d target s' _ hd ht Si.rd.old sti) (fun r s5 x5 => ?_) fun _ _ x => x
      obtain ⟨v, rfl, x6⟩ := x5
      refine wpAny_mono (x6 _) (fun _ s6 x7 => ?_) fun _ _ x => x
      obtain ⟨hv, st6, m6⟩ := x7
      have S6 := Si.step hitsY P1 m6
      have hPl6 := hPl.at fun o e => m6.kept.2 Ac o (fun q => hitsAc Ac q List.mem_cons_self) e
      have hRs6 := m6.reps (fun a h => List.mem_append_right _ (hitsY a h)) hRs
      obtain ⟨γ', hC', hT, hB'⟩ := hstep i d hd
      refine hT.use (g := g) (hC i) A _ W' Y' [s] s6 v _ _ ha.hh S6 hv fun s7 S7 m7 => ?_
      have st7 := IT.frame W' _ _ _ hWX P1.w m7.kept st6
      have hPl7 := hPl6.at fun o e => m7.kept.2 Ac o hAcW e
      have hRs7 := m7.reps hWX hRs6
      refine wpAny_mono (hB' _ W' Y' (s7 :: [s]) s7 _ S7.rebase) (fun okk s8 x8 => ?_) fun _ _ x => x
      cases okk with
      | false =>
        simp only [Bool.false_eq_true, if_false] at x8 ⊢
        obtain ⟨ho, S8⟩ := x8
        have m8 := S8.mv s7 List.mem_cons_self
        exact ⟨ds.length - (i + 1), by omega, i + 1, vs, hlt, rfl, S8.bases fun b hb => List.mem_cons_of_mem _ hb, IT.frame W' _ _ _ hWX P1.w m8.kept st7,
          hPl7.at fun o e => m8.kept.2 Ac o hAcW e, by rw [ho]; exact m8.reps hWX hRs7, by rw [ho]; omega⟩
      | true =>
        simp only [if_true] at x8 ⊢
        refine wpAny_mono x8 (fun y s9 x9 => ?_) fun _ _ x => x
        obtain ⟨dv, hdv, ho, S9⟩ := x9
        have m9 := S9.mv s7 List.mem_cons_self
        have hPl9 := hPl7.at fun o e => m9.kept.2 Ac o hAcW e
        have hRs9 := m9.reps hWX hRs7
        have hlv : vs.toArray.size ≤ sizeLine := by
          rw [List.size_toArray, hRs.length]
          show _ ≤ 16777216
          omega
        refine wpAny_list_append_plain (hsz := hlv) hPl9 fun h' hl' hs' => ?_
        have m10 : Moves [Ac] s9 { s9 with heap := h' } := ⟨⟨_, _, rfl⟩, Kept.sameBut hs' (let ⟨n, e⟩ := hl'; ⟨_, e⟩)⟩
        have S10 := S9.bases (B' := [s]) (fun b hb => List.mem_cons_of_mem _ hb) |>.step hAcY P2 m10
        have hRs10 := m10.reps hAcX' hRs9
        refine ⟨ds.length - (i + 1), by omega, i + 1, vs ++ [y], hlt, rfl, S10, ?_, by simpa using hl', ?_, by rw [ho]; simp; omega⟩
        · exact IT.frame [Ac] _ _ _ hAcX' hitsAc m10.kept (IT.frame W' _ _ _ hWX P1.w m9.kept st7)
        · rw [ho]
          exact hRs10.append (.one (hdv.kept m10.kept hAcX'))
    · have hi2 : i = ds.length := by omega
      subst hi2
      refine wpAny_mono (IT.done s' _ Si.rd.old sti) (fun r s5 x5 => ?_) fun _ _ x => x
      obtain ⟨rfl, Lo⟩ := x5
      have hLits : L ∉ its := fun q => (hitsD L q).2 List.mem_cons_self
      obtain ⟨m, hm⟩ := Si.rd.lns
      have hm5 : s5.heap.Ns L m := hm.at' fun o e => Lo.keep L o hLits e
      rw [hcl]
      have keep : ∀ b o, b ∉ its → s'.heap.get? b = some o → s5.heap.get? b = some o := Lo.keep
      have hLX : L ∈ W' ++ Y' := hWX L (by rw [hW']; exact List.mem_append_left _ List.mem_cons_self)
      have notin : ∀ b, b ∉ W' ++ Y' → b ∉ its := fun b hb q => hb (List.mem_append_right _ (hitsY b q))
      have sub : ∀ b ∈ L :: Ac :: X, b ∈ W' ++ Y' := fun b q => by
        rcases List.mem_cons.mp q with rfl | q
        · exact hLX
        · rcases List.mem_cons.mp q with rfl | q
          · exact hAcX' _ List.mem_cons_self
          · exact hXY b q
      have dn : ∀ {v : Value} {d : D}, Rep s'.heap (W' ++ Y') v d → Rep s5.heap (L :: Ac :: X) v d := fun r => r.mono fun b o hx e _ => ⟨keep b o (notin b hx) e, fun q => hx (sub b q)⟩
      have dns : ∀ {v : List Value} {d : List D}, Reps s'.heap (W' ++ Y') v d → Reps s5.heap (L :: Ac :: X) v d := fun r => r.mono fun b o hx e _ => ⟨keep b o (notin b hx) e, fun q => hx (sub b q)⟩
      have mm := Si.mv s List.mem_cons_self
      refine hfin Ac L vs s5 m (back Ac hdAc) (back L (hW L List.mem_cons_self).1) hLAc hm5 (hPl.at fun o e => keep Ac o (fun q => (hitsD Ac q).1 rfl) e) (dns hRs) ?_ fun a c hc => ?_
      · obtain ⟨⟨h1, t1, e1⟩, k1⟩ := mm
        obtain ⟨h2, t2, e2⟩ := Lo.same
        have dead : ∀ b o, s.heap.get? b = some o → b ∉ its := fun b o e q => by rw [(hi b q).1] at e; cases e
        refine ⟨⟨h2, t2, by rw [e2, e1]⟩, fun b o e => ?_, fun b o hb e => ?_⟩
        · obtain ⟨o', e'⟩ := k1.1 b o e
          exact ⟨o', keep b o' (dead b o e) e'⟩
        · refine keep b o (dead b o e) (k1.2 b o (fun q => ?_) e)
          rcases hWW b q with z | z
          · rw [back b (hW b z).1] at e; cases e
          · exact hb z
      · have hOW := Si.ow a c hc
        have hnL : a ≠ L := hOW.2.1
        have hni : a ∉ its := fun q => P1.w a q hOW.1
        have := (Si.rd.own a c hc).2
        rw [hC] at this
        have wk : ∀ b ∈ L :: X, b ∈ L :: Ac :: X := fun b hb => by
          rcases List.mem_cons.mp hb with rfl | hb
          · exact List.mem_cons_self
          · exact List.mem_cons_of_mem _ (List.mem_cons_of_mem _ hb)
        exact ⟨hnL, this.keep (fun o e => keep a o hni e) (fun _ _ r => (dn r).weak wk) fun _ _ r => (dns r).weak wk⟩
  exact codeAny_compStart_list loop (IT.self 0 _ _ _ st4 loop)

theorem comp_core {elt target iter : Expr} {ifs : List Expr} {scope : Scope} {pos : Pos} {ds : List D} {okT : Expr → Prop} {Wb : List Addr} {Q : Value → Shared → Prop}
    (ha : AOk g.n A) (hR : Rd g env X s) (hWb : ∀ a ∈ Wb, a ∈ X) (ok : ScOk g scope) (hs : Src g iter ds okT) (ht : okT target) (hlen : ds.length ≤ 16777216)
    (γ : Nat → G) (hC : ∀ i, (γ i).C = g.C) (hns : (γ 0).ns = scope.names)
    (hcap : ∀ x d, (γ 0).ρ.lookup x = some d → g.ρ.lookup x = some d ∧ scope.names.lookup x = some .free) (hσ : ∀ a c, (a, c) ∈ (γ 0).σ → (a, c) ∈ g.σ ∧ a ∈ Wb)
    (out : Nat → List D) (h0 : out 0 = [])
    (hstep : ∀ i d, ds[i]? = some d → ∃ γ', γ'.C = g.C ∧ Tgt (γ i) target d γ' ∧ ∀ env' W' Y' B' s' E', St γ' env' W' Y' B' s' →
      wpAny (mod g) A (testsOf ifs env') (fun ok s'' => if ok = true then wpAny (mod g) A (eval elt env') (fun v s3 => ∃ dv, Rep s3.heap (W' ++ Y') v dv ∧ out (i + 1) = out i ++ [dv] ∧ St (γ (i + 1)) env' W' Y' B' s3) E' s''
        else out (i + 1) = out i ∧ St (γ (i + 1)) env' W' Y' B' s'') E' s')
    (hQ : ∀ Ac vs s', s.heap.get? Ac = none → s'.heap.PlainList Ac vs.toArray → Reps s'.heap (Ac :: X) vs (out ds.length) → Moves Wb s s' → (∀ a c, (a, c) ∈ (γ ds.length).σ → OwnIs g.C s'.heap X a c) → Q (.ref Ac) s')
    (hfs : ∀ x, foldedSetIterable iter env x = pure x := by intro _; rfl) :
    wpAny (mod g) A (eval (.ListComp elt [⟨target, iter, ifs, 0⟩] scope pos) env) Q E s := by
  rw [eval_ListComp]
  refine comp_gen (use := none) ha hR hWb ok hs ht hlen γ hC hns hcap hσ out h0 hstep (fun Ac L vs s5 m hA hL hLA hm hPl hRs hM hO => ?_) hfs
  refine ⟨m, hm, fun h' hs' => hQ Ac vs _ hA (hPl.at fun o e => (hs'.2 Ac (Ne.symm hLA)).trans e) (hRs.mono fun b o hx e _ => ?_) ⟨?_, ?_, ?_⟩ fun a c hc => ?_⟩
  · exact ⟨(hs'.2 b fun q => hx (by rw [q]; exact List.mem_cons_self)).trans e, fun q => hx (List.mem_cons_of_mem _ q)⟩
  · obtain ⟨h2, t2, e2⟩ := hM.same
    exact ⟨h', t2, by rw [e2]⟩
  · intro b o e
    obtain ⟨o', e'⟩ := hM.kept.1 b o e
    exact ⟨o', (hs'.2 b fun q => by rw [q, hL] at e; cases e).trans e'⟩
  · intro b o hb e
    exact (hs'.2 b fun q => by rw [q, hL] at e; cases e).trans (hM.kept.2 b o hb e)
  · obtain ⟨h1, h2⟩ := hO a c hc
    refine h2.keep (fun o e => (hs'.2 a h1).trans e) (fun _ _ r => ?_) fun _ _ r => ?_
    · exact r.mono fun b o hx e _ => ⟨(hs'.2 b fun q => hx (by rw [q]; exact List.mem_cons_self)).trans e, fun q => hx (List.mem_cons_of_mem _ q)⟩
    · exact r.mono fun b o hx e _ => ⟨(hs'.2 b fun q => hx (by rw [q]; exact List.mem_cons_self)).trans e, fun q => hx (List.mem_cons_of_mem _ q)⟩

/-- the frame's names inside of a pure comprehension -/
noncomputable def cg (g : G) (scope : Scope) : G := { g with ns := scope.names, ρ := g.ρ.filter fun p => scope.names.lookup p.1 == some .free, σ := [] }
theorem filter_lookup {α : Type} {p : Str → Bool} {x : Str} {d : α} : ∀ {l : List (Str × α)}, (l.filter fun q => p q.1).lookup x = some d → l.lookup x = some d ∧ p x = true
  | [], h => by simp at h
  | (y, b) :: r, h => by
    rw [List.filter_cons] at h
    rw [List.lookup_cons]
    cases q : x == y with
    | true =>
      have e := beq_iff_eq.mp q
      subst e
      cases hp : p x with
      | true => simp only [hp, if_true, List.lookup_cons, q] at h; exact ⟨by simpa using h, rfl⟩
      | false =>
        simp only [hp] at h
        have := (filter_lookup (p := p) (x := x) (l := r) (by simpa using h)).2
        rw [hp] at this; cases this
    | false =>
      cases hp : p y with
      | true => simp only [hp, if_true, List.lookup_cons, q] at h; exact filter_lookup h
      | false => simp only [hp] at h; exact filter_lookup (by simpa using h)
theorem cg_cap {scope : Scope} : ∀ x d, (cg g scope).ρ.lookup x = some d → g.ρ.lookup x = some d ∧ scope.names.lookup x = some .free := fun x d h => by
  obtain ⟨h1, h2⟩ := filter_lookup (p := fun y => scope.names.lookup y == some .free) h
  exact ⟨h1, by simpa using h2⟩

theorem set_sub {γ : G} {W Y : List Addr} {B : List Shared} {x : Str} {d : D} (S : St (γ.set x d) env W Y B s) (h : γ.ρ.lookup x = none) : St γ env W Y B s := by
  have := S.sub (ρ := γ.ρ) fun y e hy => by
    show List.lookup y ((x, d) :: γ.ρ) = some e
    rw [List.lookup_cons]
    cases q : y == x with
    | true => rw [beq_iff_eq.mp q, h] at hy; cases hy
    | false => exact hy
  exact this
noncomputable abbrev lc (scope : Scope) (x : Str) : Prop := scope.names.lookup x = some .local ∨ scope.names.lookup x = some .cell
theorem cg_none {scope : Scope} {x : Str} (h : lc scope x) : (cg g scope).ρ.lookup x = none := by
  cases e : (cg g scope).ρ.lookup x with
  | none => rfl
  | some d => rcases h with h | h <;> (rw [(cg_cap x d e).2] at h; cases h)
theorem set_sub2 {γ : G} {W Y : List Addr} {B : List Shared} {x y : Str} {a b : D} (S : St ((γ.set x a).set y b) env W Y B s) (hx : γ.ρ.lookup x = none) (hy : γ.ρ.lookup y = none) : St γ env W Y B s := by
  have := S.sub (ρ := γ.ρ) fun z e hz => by
    show List.lookup z ((y, b) :: (x, a) :: γ.ρ) = some e
    rw [List.lookup_cons, List.lookup_cons]
    cases q : z == y with
    | true => rw [beq_iff_eq.mp q, hy] at hz; cases hz
    | false =>
      cases q : z == x with
      | true => rw [beq_iff_eq.mp q, hx] at hz; cases hz
      | false => exact hz
  exact this

theorem tests_nil {env' : Env} {M : Model} {s' : Shared} {E' : Value → Shared → Prop} {Q : Bool → Shared → Prop} (h : Q true s') : wpAny M A (testsOf [] env') Q E' s' := wpAny_pure h
theorem tests_one {env' : Env} {c : Expr} {s' : Shared} {E' : Value → Shared → Prop} {Q : Bool → Shared → Prop} (h : wpAny (mod g) A (isTrue c env' (eval c env')) Q E' s') : wpAny (mod g) A (testsOf [c] env') Q E' s' := wpAny_tests_one h

theorem comp_rep {Ac : Addr} {vs : List Value} {s' : Shared} {out : List D} (hR : Rd g env X s) (h1 : s.heap.get? Ac = none) (h2 : s'.heap.PlainList Ac vs.toArray) (h3 : Reps s'.heap (Ac :: X) vs out) : Rep s'.heap X (.ref Ac) (.list out) := by
  obtain ⟨n, e⟩ := h2
  exact .list Ac vs _ n (fun q => by obtain ⟨o, z⟩ := hR.old Ac q; rw [h1] at z; cases z) e (h3.weak fun b hb => List.mem_cons_of_mem _ hb)

/-- [elt for x in iter] -/
theorem ev_comp1 {elt iter : Expr} {x : Str} {px pos : Pos} {scope : Scope} {ds : List D} (out : List D) (hs : Src g iter ds okName) (ok : ScOk g scope) (hx : lc scope x) (hlen : ds.length ≤ 16777216) (hl : out.length = ds.length)
    (he : ∀ (i : Nat) (d d' : D), ds[i]? = some d → out[i]? = some d' → Ev ((cg g scope).set x d) elt d')
    (hfs : ∀ env x, foldedSetIterable iter env x = pure x := by intro _ _; rfl) : Ev g (.ListComp elt [⟨.Name x px, iter, [], 0⟩] scope pos) (.list out) := fun A env X s E ha hR =>
  comp_core (Wb := []) ha hR (fun _ h => by cases h) ok hs ⟨x, px, rfl⟩ hlen (fun _ => cg g scope) (fun _ => rfl) rfl cg_cap (fun _ _ h => by cases h) (fun i => out.take i) (by simp)
    (fun i d hd => ⟨(cg g scope).set x d, rfl, tgt_name hx, fun env' W' Y' B' s' E' S' => tests_nil (by
      have hi : i < out.length := by rw [hl]; exact (List.getElem?_eq_some_iff.mp hd).1
      simp only [if_true]
      refine wpAny_mono (he i d _ hd (List.getElem?_eq_getElem hi) A env' _ s' E' ha S'.rd) (fun v s3 x3 => ⟨_, x3.1, by rw [List.take_succ_eq_append_getElem hi], set_sub (S'.kp x3.2) (cg_none hx)⟩) fun _ _ x => x)⟩)
    (fun Ac vs s' h1 h2 h3 h4 _ => by
      rw [← hl, List.take_length] at h3
      exact ⟨comp_rep hR h1 h2 h3, h4.kp⟩) (hfs env)
/-- [elt for x, y in iter] -/
theorem ev_comp2 {elt iter : Expr} {x y : Str} {px py tp pos : Pos} {k : Nat} {scope : Scope} {ds : List D} (out : List D) (hs : Src g iter ds okTup) (ok : ScOk g scope) (hx : lc scope x) (hy : lc scope y) (hlen : ds.length ≤ 16777216) (hl : out.length = ds.length)
    (he : ∀ (i : Nat) (d d' : D), ds[i]? = some d → out[i]? = some d' → ∃ a b, d = D.tup [a, b] ∧ Ev (((cg g scope).set x a).set y b) elt d')
    (hfs : ∀ env x, foldedSetIterable iter env x = pure x := by intro _ _; rfl) : Ev g (.ListComp elt [⟨.Tuple [.Name x px, .Name y py] k tp, iter, [], 0⟩] scope pos) (.list out) := fun A env X s E ha hR =>
  comp_core (Wb := []) ha hR (fun _ h => by cases h) ok hs ⟨_, _, _, rfl⟩ hlen (fun _ => cg g scope) (fun _ => rfl) rfl cg_cap (fun _ _ h => by cases h) (fun i => out.take i) (by simp)
    (fun i d hd => by
      have hi : i < out.length := by rw [hl]; exact (List.getElem?_eq_some_iff.mp hd).1
      obtain ⟨a, b, rfl, hE⟩ := he i d _ hd (List.getElem?_eq_getElem hi)
      exact ⟨((cg g scope).set x a).set y b, rfl, tgt_tup2 hx hy, fun env' W' Y' B' s' E' S' => tests_nil (by
        simp only [if_true]
        refine wpAny_mono (hE A env' _ s' E' ha S'.rd) (fun v s3 x3 => ⟨_, x3.1, by rw [List.take_succ_eq_append_getElem hi], set_sub2 (S'.kp x3.2) (cg_none hx) (cg_none hy)⟩) fun _ _ x => x)⟩)
    (fun Ac vs s' h1 h2 h3 h4 _ => by
      rw [← hl, List.take_length] at h3
      exact ⟨comp_rep hR h1 h2 h3, h4.kp⟩) (hfs env)
/-- [elt for x in iter if c] -/
theorem ev_compIf {elt iter c : Expr} {x : Str} {px pos : Pos} {scope : Scope} {ds : List D} (p : D → Bool) (f : D → D) (hs : Src g iter ds okName) (ok : ScOk g scope) (hx : lc scope x) (hlen : ds.length ≤ 16777216)
    (he : ∀ (i : Nat) (d : D), ds[i]? = some d → Tr ((cg g scope).set x d) c (p d) ∧ (p d = true → Ev ((cg g scope).set x d) elt (f d)))
    (hfs : ∀ env x, foldedSetIterable iter env x = pure x := by intro _ _; rfl) : Ev g (.ListComp elt [⟨.Name x px, iter, [c], 0⟩] scope pos) (.list ((ds.filter p).map f)) := fun A env X s E ha hR =>
  comp_core (Wb := []) ha hR (fun _ h => by cases h) ok hs ⟨x, px, rfl⟩ hlen (fun _ => cg g scope) (fun _ => rfl) rfl cg_cap (fun _ _ h => by cases h) (fun i => ((ds.take i).filter p).map f) (by simp)
    (fun i d hd => ⟨(cg g scope).set x d, rfl, tgt_name hx, fun env' W' Y' B' s' E' S' => tests_one (wpAny_mono ((he i d hd).1 A env' _ s' E' ha S'.rd) (fun r s2 x2 => by
      obtain ⟨rfl, k2⟩ := x2
      have hi : i < ds.length := (List.getElem?_eq_some_iff.mp hd).1
      have e1 : ds.take (i + 1) = ds.take i ++ [d] := by
        rw [List.take_succ_eq_append_getElem hi]
        rw [List.getElem?_eq_getElem hi] at hd
        cases hd; rfl
      cases hp : p d with
      | true =>
        simp only [if_true]
        refine wpAny_mono ((he i d hd).2 hp A env' _ s2 E' ha (S'.kp k2).rd) (fun v s3 x3 => ⟨_, x3.1, by rw [e1, List.filter_append]; simp [hp], set_sub ((S'.kp k2).kp x3.2) (cg_none hx)⟩) fun _ _ x => x
      | false =>
        simp only [Bool.false_eq_true, if_false]
        exact ⟨by rw [e1, List.filter_append]; simp [hp], set_sub (S'.kp k2) (cg_none hx)⟩) fun _ _ x => x)⟩)
    (fun Ac vs s' h1 h2 h3 h4 _ => by
      rw [List.take_length] at h3
      exact ⟨comp_rep hR h1 h2 h3, h4.kp⟩) (hfs env)
end
end Mine
end
section
open PySem PySem.Calls PyProof.Rows
set_option linter.unusedVariables false
set_option maxRecDepth 100000
namespace Mine

noncomputable def kIs : NameKind → NameKind → Bool
  | .local, .local => true
  | .cell, .cell => true
  | .free, .free => true
  | _, _ => false
theorem kIs_eq {a b : NameKind} (h : kIs a b = true) : a = b := by
  cases a <;> cases b <;> first | rfl | (simp [kIs] at h)
noncomputable def isK (l : List (Str × NameKind)) (x : Str) (k : NameKind) : Bool := match l.lookup x with
  | some k' => kIs k' k
  | none => false
theorem isK_eq {l : List (Str × NameKind)} {x : Str} {k : NameKind} (h : isK l x k = true) : l.lookup x = some k := by
  unfold isK at h
  split at h
  · rename_i k' e; rw [e, kIs_eq h]
  · cases h

noncomputable def fnCheck (sc : Scope) (ps : List Str) : Bool := decide ps.Nodup && ps.all (fun x => isK sc.names x .local || isK sc.names x .cell) && sc.names.all (fun p => !kIs p.2 .free)
  && !sc.isCoroutine && !sc.isGenerator && (match sc.kind with | .function => true | _ => false)
theorem kIs_refl_free : kIs .free .free = true := rfl
theorem fn_ok' {C : Cx} {n : Nat} (d : DefRec) (hd : d ∈ C.defs) (ps : List Str) {ds : List D} {bw bw' : List (Addr × Own)} {out : D} (hl : ps.length = ds.length)
    (hbind : ∀ (pm code doc : Value) (vals : List Value), vals.length = ps.length → bindArgs (docDef d.name d.params d.body d.scope pm code doc) ⟨vals, []⟩ = pure (ps.zip vals))
    (hc : fnCheck d.scope ps = true) (body : BodyOk C n d ps ds bw out bw') {f : Str} (hf : d.name = f := by rfl) : FnC C (n + 1) f ds bw out bw' := by
  subst hf
  unfold fnCheck at hc
  simp only [Bool.and_eq_true, Bool.not_eq_true', decide_eq_true_eq, List.all_eq_true, Bool.or_eq_true] at hc
  obtain ⟨⟨⟨⟨⟨h1, h2⟩, h3⟩, h4⟩, h5⟩, h6⟩ := hc
  refine fn_ok d hd ps hl hbind h1 (fun x hx => (h2 x hx).imp isK_eq isK_eq) (fun x k h q => ?_) h4 h5 ?_ body
  · have := h3 _ (mem_of_lookup h)
    rw [q] at this; cases this
  · revert h6; cases d.scope.kind <;> intro h <;> first | rfl | cases h

noncomputable def scCheck (ns : List (Str × NameKind)) (sc : Scope) : Bool := (match sc.kind with | .function => true | _ => false) && sc.names.all (fun p => !kIs p.2 .local || isK sc.names p.1 .local)
  && sc.names.all (fun p => !kIs p.2 .free || isK ns p.1 .cell || isK ns p.1 .free) && sc.names.all (fun p => !kIs p.2 .cell || sc.names.all (fun q => !kIs q.2 .free || decide (p.1 ≠ q.1)))
theorem scOk {g : G} {sc : Scope} (h : scCheck g.ns sc = true) : ScOk g sc := by
  unfold scCheck at h
  simp only [Bool.and_eq_true, List.all_eq_true, Bool.or_eq_true, Bool.not_eq_true'] at h
  obtain ⟨⟨⟨h1, h2⟩, h3⟩, h4⟩ := h
  refine ⟨?_, fun x hx q => ?_, fun x hx q => ?_, fun x hx q y hy q' => ?_⟩
  · revert h1; cases sc.kind <;> intro h <;> first | rfl | cases h
  · rcases h2 x hx with z | z
    · rw [q] at z; cases z
    · exact isK_eq z
  · rcases h3 x hx with (z | z) | z
    · rw [q] at z; cases z
    · exact .inl (isK_eq z)
    · exact .inr (isK_eq z)
  · rcases h4 x hx with z | z
    · rw [q] at z; cases z
    · rcases z y hy with z | z
      · rw [q'] at z; cases z
      · simpa using z
/-- the end of a pure def -/
theorem St.fin {g : G} {env : Env} {W Y : List Addr} {s0 s : Shared} {d : D} {v : Value} (S : St g env W Y [s0] s) (hW : ∀ a ∈ W, s0.heap.get? a = none) (r : Rep s.heap (W ++ Y) v d) :
    ∃ v' W1, (match Flow.ret v with | Flow.ret v => v | _ => Value.none) = v' ∧ (∀ a ∈ W1, s0.heap.get? a = none) ∧ Rep s.heap Y v' d ∧ Moves (W1 ++ ([] : List (Addr × Own)).map (·.1)) s0 s ∧ (∀ a c, (a, c) ∈ ([] : List (Addr × Own)) → OwnIs g.C s.heap Y a c) :=
  ⟨v, W, rfl, hW, r.weak fun b hb => List.mem_append_right _ hb, by simpa using S.mv s0 List.mem_cons_self, fun _ _ h => by cases h⟩
end Mine
namespace Mine
/-- every row of the second list is so in the first -/
noncomputable def Has (l : List (Str × D)) : List (Str × D) → Prop
  | [] => True
  | p :: r => l.lookup p.1 = some p.2 ∧ Has l r
theorem Has.get {l : List (Str × D)} : ∀ {r : List (Str × D)}, Has l r → ∀ x d, r.lookup x = some d → l.lookup x = some d
  | [], _, x, d, h => by simp at h
  | (y, e) :: r, hh, x, d, h => by
    rw [List.lookup_cons] at h
    cases q : x == y with
    | true => rw [q] at h; cases h; rw [beq_iff_eq.mp q]; exact hh.1
    | false => rw [q] at h; exact Has.get hh.2 x d h
theorem St.to {g γ : G} {env : Env} {W Y : List Addr} {B : List Shared} {s : Shared} (S : St g env W Y B s) (h : Has g.ρ γ.ρ) (hC : γ.C = g.C := by rfl) (hn : γ.n = g.n := by rfl) (hns : γ.ns = g.ns := by rfl) (hσ : γ.σ = g.σ := by rfl) : St γ env W Y B s := by
  have := S.sub (ρ := γ.ρ) h.get
  obtain ⟨C, n, ns, ρ, σ⟩ := γ
  cases hC; cases hn; cases hns; cases hσ
  exact this
end Mine
end
section
open PySem PySem.Calls PyProof.Rows
set_option linter.unusedVariables false
set_option maxRecDepth 100000
namespace Mine

theorem blockKind_fn {env : Env} (h : env.scope.kind = .function) : env.blockKind = .function := by
  unfold Env.blockKind; rw [h]; rfl

theorem swap2 {env : Env} {x y : Str} {p q tp vp : Pos} {k k' : Nat} {e1 e2 : Expr} (hb : env.scope.kind = .function) (hx : env.kindOf x = some .local) (hy : env.kindOf y = some .local) (hpq : (q.line == p.line) = true) (hxy : (x == y) = false)
    (hs : ([e1, e2].any fun | .Starred .. => true | _ => false) = false) (hf : [e1, e2].all (foldedForSure 8) = false) (hc : [e1, e2].all (constantsAlone 8) = false) :
    swappedStores [.Tuple [.Name x p, .Name y q] k tp] (.Tuple [e1, e2] k' vp) env = pure (some [x, y]) := by
  have h1 : (env.blockKind != .function) = false := by rw [blockKind_fn hb]; rfl
  have hqp : q.line = p.line := by simpa using hpq
  have h2 : ([Expr.Name x p, Expr.Name y q].filterMap fun t => match t with
      | .Name id pos => if env.kindOf id == some .local && pos.line == p.line then some id else none
      | _ => none) = [x, y] := by
    simp [List.filterMap_cons, hx, hy, hqp]
  have hyx : (y == x) = false := by
    cases h : y == x with
    | false => rfl
    | true => rw [beq_iff_eq.mp h] at hxy; simp at hxy
  have h3 : ([x, y].eraseDups.length != [x, y].length) = false := by
    have : [x, y].eraseDups = [x, y] := by
      rw [List.eraseDups_cons]
      simp [hyx, List.eraseDups_cons]
    rw [this]; rfl
  unfold swappedStores
  show (if (!([Expr.Name x p, Expr.Name y q].length == 2 || [Expr.Name x p, Expr.Name y q].length == 3) || [e1, e2].length != [Expr.Name x p, Expr.Name y q].length || env.blockKind != .function) = true then pure none else _) = _
  rw [h1, if_neg (by simp)]
  show (if ([e1, e2].any fun | .Starred .. => true | _ => false) = true then pure none else _) = _
  rw [hs, if_neg (by simp)]
  show (if (([Expr.Name x p, Expr.Name y q].filterMap fun t => match t with
      | .Name id pos => if env.kindOf id == some .local && pos.line == p.line then some id else none
      | _ => none).length != [Expr.Name x p, Expr.Name y q].length || ([Expr.Name x p, Expr.Name y q].filterMap fun t => match t with
      | .Name id pos => if env.kindOf id == some .local && pos.line == p.line then some id else none
      | _ => none).eraseDups.length != ([Expr.Name x p, Expr.Name y q].filterMap fun t => match t with
      | .Name id pos => if env.kindOf id == some .local && pos.line == p.line then some id else none
      | _ => none).length) = true then pure none else _) = _
  rw [h2, h3, if_neg (by simp)]
  show (if ([e1, e2].all (foldedForSure 8)) = true then pure none else _) = _
  rw [hf, if_neg (by simp)]
  show (if ([e1, e2].all (constantsAlone 8)) = true then _ else pure (some _)) = _
  rw [hc, if_neg (by simp)]
  exact congrArg (fun l : List Str => (pure (some l) : Sem (Option (List Str)))) h2

section
variable {g : G} {A : Around} {env : Env} {W Y : List Addr} {B : List Shared} {s : Shared} {E : Value → Shared → Prop} {Q : Flow → Shared → Prop} {rest : List Stmt}
/-- x, y = (e1, e2) with the stores exchanged -/
theorem st_tup2 {C : Cx} {x y : Str} {p q tp vp pos : Pos} {k k' : Nat} {e1 e2 : Expr} {d1 d2 : D} (S : St g env W Y B s) (ha : AOk g.n A) (h1 : Ev g e1 d1) (h2 : Ev g e2 d2) (hx : g.ns.lookup x = some .local) (hy : g.ns.lookup y = some .local)
    (kont : ∀ s', St ((g.set y d2).set x d1) env W Y B s' → wpAny (modC C) A (execs rest env) Q E s')
    (hpq : (q.line == p.line) = true := by rfl) (hxy : (x == y) = false := by decide)
    (hs : ([e1, e2].any fun | .Starred .. => true | _ => false) = false := by rfl) (hf : [e1, e2].all (foldedForSure 8) = false := by rfl) (hc : [e1, e2].all (constantsAlone 8) = false := by rfl)
    (he1 : ∀ env, starEach [e1, e2] env = (false, eval e1 env) :: starEach [e2] env := by intro env; rfl) (he2 : ∀ env, starEach [e2] env = (false, eval e2 env) :: starEach [] env := by intro env; rfl)
    (hCe : g.C = C := by rfl) : wpAny (modC C) A (execs (.Assign [.Tuple [.Name x p, .Name y q] k tp] (.Tuple [e1, e2] k' vp) pos :: rest) env) Q E s :=
  st_tuple_sw [x, y] S ha (ds := [d1, d2]) (ev_tup (evs_cons h1 (evs_cons h2 evs_nil he2) he1)) rfl (fun z hz => by
    rcases List.mem_cons.mp hz with rfl | hz
    · exact .inl hx
    · rw [List.mem_singleton.mp hz]; exact .inl hy) kont rfl (swap2 S.rd.fn (S.rd.kind hx (by decide)) (S.rd.kind hy (by decide)) hpq hxy hs hf hc) hCe
end
end Mine
namespace Mine
theorem Tr.is {g : G} {e : Expr} {b b' : Bool} (h : Tr g e b) (hb : b = b') : Tr g e b' := hb ▸ h
theorem Ev.is {g : G} {e : Expr} {d d' : D} (h : Ev g e d) (hd : d = d') : Ev g e d' := hd ▸ h
end Mine
namespace Mine
section
variable {g : G}
theorem ev_add {l r : Expr} {pos : Pos} {a b : Int} (h1 : Ev g l (.int a)) (h2 : Ev g r (.int b)) : Ev g (.BinOp l .Add r pos) (.int (a + b)) := evp_bin h1 h2 (isD_stable _) op_add
theorem ev_minus {l r : Expr} {pos : Pos} {a b : Int} (h1 : Ev g l (.int a)) (h2 : Ev g r (.int b)) : Ev g (.BinOp l .Sub r pos) (.int (a - b)) := evp_bin h1 h2 (isD_stable _) op_sub
theorem ev_mul {l r : Expr} {pos : Pos} {a b : Int} (h1 : Ev g l (.int a)) (h2 : Ev g r (.int b)) (h : a.natAbs < 2 ^ 60 ∨ b.natAbs < 2 ^ 60) : Ev g (.BinOp l .Mult r pos) (.int (a * b)) := evp_bin h1 h2 (isD_stable _) (op_mul h)
theorem ev_mod {l r : Expr} {pos : Pos} {a b : Int} (h1 : Ev g l (.int a)) (h2 : Ev g r (.int b)) (h : b ≠ 0) : Ev g (.BinOp l .Mod r pos) (.int (a.fmod b)) := evp_bin h1 h2 (isD_stable _) (op_mod h)
theorem ev_div {l r : Expr} {pos : Pos} {a b : Int} (h1 : Ev g l (.int a)) (h2 : Ev g r (.int b)) (h : b ≠ 0) (hs : b.natAbs < 1073741824) : Ev g (.BinOp l .FloorDiv r pos) (.int (a.fdiv b)) := evp_bin h1 h2 (isD_stable _) (op_div h hs)
theorem ev_pow {l r : Expr} {pos : Pos} {a : Int} {n : Nat} (h1 : Ev g l (.int a)) (h2 : Ev g r (.int n)) (hn : n ≤ 1000) (ha : a.natAbs < 2 ^ 64) : Ev g (.BinOp l .Pow r pos) (.int (a ^ n)) := evp_bin h1 h2 (isD_stable _) (op_pow hn ha)
theorem ev_addL {l r : Expr} {pos : Pos} {a b : List D} (h1 : Ev g l (.list a)) (h2 : Ev g r (.list b)) (h : a.length + b.length ≤ 16777216) : Ev g (.BinOp l .Add r pos) (.list (a ++ b)) := evp_bin h1.toL h2.toL (isL_stable _) (op_addL h)
theorem ev_mulL {l r : Expr} {pos : Pos} {d : D} {k : Nat} (h1 : Ev g l (.list [d])) (h2 : Ev g r (.int k)) (h : k ≤ 16777216) : Ev g (.BinOp l .Mult r pos) (.list (List.replicate k d)) := evp_bin h1.toL h2 (isL_stable _) (op_mulL h)
theorem tr_eq {l r : Expr} {pos : Pos} {a b : Int} (h1 : Ev g l (.int a)) (h2 : Ev g r (.int b)) (hm : behindInMarks .Eq r = false := by with_unfolding_all rfl) : Tr g (.Compare l [.Eq] [r] pos) (decide (a = b)) := tr_cmp h1 h2 (isD_stable _) op_eq hm
theorem tr_ne {l r : Expr} {pos : Pos} {a b : Int} (h1 : Ev g l (.int a)) (h2 : Ev g r (.int b)) (hm : behindInMarks .NotEq r = false := by with_unfolding_all rfl) : Tr g (.Compare l [.NotEq] [r] pos) (decide (a ≠ b)) := tr_cmp h1 h2 (isD_stable _) op_ne hm
theorem tr_lt {l r : Expr} {pos : Pos} {a b : Int} (h1 : Ev g l (.int a)) (h2 : Ev g r (.int b)) (hm : behindInMarks .Lt r = false := by with_unfolding_all rfl) : Tr g (.Compare l [.Lt] [r] pos) (decide (a < b)) := tr_cmp h1 h2 (isD_stable _) op_lt hm
theorem tr_gt {l r : Expr} {pos : Pos} {a b : Int} (h1 : Ev g l (.int a)) (h2 : Ev g r (.int b)) (hm : behindInMarks .Gt r = false := by with_unfolding_all rfl) : Tr g (.Compare l [.Gt] [r] pos) (decide (a > b)) := tr_cmp h1 h2 (isD_stable _) op_gt hm
theorem tr_ge {l r : Expr} {pos : Pos} {a b : Int} (h1 : Ev g l (.int a)) (h2 : Ev g r (.int b)) (hm : behindInMarks .GtE r = false := by with_unfolding_all rfl) : Tr g (.Compare l [.GtE] [r] pos) (decide (a ≥ b)) := tr_cmp h1 h2 (isD_stable _) op_ge hm
theorem ev_eq {l r : Expr} {pos : Pos} {a b : Int} (h1 : Ev g l (.int a)) (h2 : Ev g r (.int b)) (hm : behindInMarks .Eq r = false := by with_unfolding_all rfl) : Ev g (.Compare l [.Eq] [r] pos) (.bool (decide (a = b))) := ev_cmp h1 h2 (isD_stable _) op_eq hm
theorem ev_eqL {l r : Expr} {pos : Pos} {a b : List Int} (h1 : Ev g l (.list (intsD a))) (h2 : Ev g r (.list (intsD b))) (hm : behindInMarks .Eq r = false := by with_unfolding_all rfl) : Ev g (.Compare l [.Eq] [r] pos) (.bool (decide (a = b))) := ev_cmp h1.toL h2.toL (isL_stable _) op_eqL hm
theorem tr_eqL {l r : Expr} {pos : Pos} {a b : List Int} (h1 : Ev g l (.list (intsD a))) (h2 : Ev g r (.list (intsD b))) (hm : behindInMarks .Eq r = false := by with_unfolding_all rfl) : Tr g (.Compare l [.Eq] [r] pos) (decide (a = b)) := tr_cmp h1.toL h2.toL (isL_stable _) op_eqL hm
theorem tr_neL {l r : Expr} {pos : Pos} {a b : List Int} (h1 : Ev g l (.list (intsD a))) (h2 : Ev g r (.list (intsD b))) (hm : behindInMarks .NotEq r = false := by with_unfolding_all rfl) : Tr g (.Compare l [.NotEq] [r] pos) (decide (a ≠ b)) := tr_cmp h1.toL h2.toL (isL_stable _) op_neL hm
theorem ev_itemL {value slice : Expr} {pos : Pos} {i : Int} {ds : List D} {d : D} (h1 : Ev g value (.list ds)) (h2 : Ev g slice (.int i)) (h0 : 0 ≤ i) (hd : ds[i.toNat]? = some d) (hfit : i < 2 ^ 63)
    (hs : plainSub slice := by intro _ _; with_unfolding_all rfl) : Ev g (.Subscript value slice pos) d := ev_item h1.toL h2 h0 hd hfit hs
end
end Mine
end
section
open PySem PySem.Calls PyProof.Rows
set_option linter.unusedVariables false
set_option maxRecDepth 100000
namespace Mine

theorem noFill_tuple_mul : fillsNumberSlot (.type "tuple") "mul" = pure false :=
  PySem.fillsNumberSlot_seq (id := "tuple.__mul__") (r := some (.builtin "tuple.__rmul__")) F.slot_tuple_mul.lookup (by decide +kernel) F.slot_tuple_rmul.lookup (by decide +kernel)
theorem repeat_tuple : seqRepeat? (.type "tuple") = pure (some (.builtin "tuple.__mul__")) := by
  unfold seqRepeat?
  rw [PySem.seqSlot_of (T := "tuple") (name := "__mul__") (id := "tuple.__mul__") F.slot_tuple_mul.lookup (by decide +kernel), PySem.seqSlot_of (T := "tuple") (name := "__rmul__") (id := "tuple.__rmul__") F.slot_tuple_rmul.lookup (by decide +kernel)]
  rfl
theorem rmul_int_tuple (a : Int) (t : Tok) (l : Addr) (items : Array Value) (n : Nat) :
    Meets (Builtin.«int.__rmul__» ⟨[.int a t, .ref l], []⟩) (fun _ R s => s.heap.get? l = some { cls := .type "tuple", dict := none, data := .seq items n, slots := #[] } ∧ R (.ok (.ret Value.notImplemented)) s) :=
  .of_wp fun prog w A R s h => by obtain ⟨hp, g, d, tk, os⟩ := s; obtain ⟨hl, h⟩ := h; wp_walk; exact ⟨_, rfl, h⟩
set_option maxHeartbeats 1000000 in
theorem mul_tuple_int (l : Addr) (v : Value) (n : Nat) (x : Int) (u : Tok) (h1 : 2 ≤ x) (h2 : x ≤ 1000) :
    Meets (Builtin.«tuple.__mul__» ⟨[.ref l, .int x u], []⟩) (fun _ R s => s.heap.get? l = some { cls := .type "tuple", dict := none, data := .seq #[v] n, slots := #[] } ∧ R (.ok (.ret (Value.ref s.heap.objs.size))) { s with heap := s.heap.push { cls := Value.type "tuple", data := Data.seq (List.replicate x.toNat v).toArray } }) :=
  .of_wp fun prog w A R s h => by
    obtain ⟨hp, g, d, tk, os⟩ := s; obtain ⟨hl, h⟩ := h
    have e1 : (List.foldl (fun x1 x2 => x1 ++ x2) #[] (List.replicate x.toNat #[v])) = (List.replicate x.toNat v).toArray := by
      rw [fold_rep]; simp
    wp_walk
    have c1 : (decide (x < -2 ^ 63) || decide (x ≥ 2 ^ 63)) = false := by simp; omega
    have c2 : ((#[v] : Array Value).isEmpty || x == 1) = false := by
      have : (x == 1) = false := by simpa using (show x ≠ 1 by omega)
      rw [this]; rfl
    have c3 : (decide (x ≤ 0) || (#[v] : Array Value).isEmpty) = false := by
      have : decide (x ≤ 0) = false := by simp; omega
      rw [this]; rfl
    have c4 : ¬ (((#[v] : Array Value).size : Int) * x > (2 ^ 63 - 1) / 8) := by
      have : (((#[v] : Array Value).size : Nat) : Int) = 1 := rfl
      rw [this]; omega
    have c5 : Builtin.Tuple.tupleTooMany (((#[v] : Array Value).size : Int) * x) = false := by
      have : (((#[v] : Array Value).size : Nat) : Int) = 1 := rfl
      rw [this]
      unfold Builtin.Tuple.tupleTooMany
      have : sizeLine = 16777216 := rfl
      simp
      omega
    rw [c1]
    simp only [Bool.false_eq_true, if_false]
    refine wpAny_bind (wpAny_tupleItemsOf hl rfl ?_)
    rw [c2, c3, c5]
    simp only [Bool.false_eq_true, if_false]
    rw [if_neg c4, e1]
    have hsz : (List.replicate x.toNat v).toArray.size ≤ sizeLine := by
      have : sizeLine = 16777216 := rfl
      rw [List.size_toArray, List.length_replicate]; omega
    show wpAny _ _ (newObj (.type "tuple") (.seq (List.replicate x.toNat v).toArray) >>= _) _ _ _
    refine wpAny_bind (wpAny_newObj_type ?_ hsz)
    exact wpAny_pure ⟨_, rfl, h⟩

section
variable {g : G}
/-- (d,) * k -/
theorem ev_mulT {l r : Expr} {pos : Pos} {d : D} {k : Nat} (h1 : Ev g l (.tup [d])) (h2 : Ev g r (.int k)) (hk : 2 ≤ k) (hk2 : k ≤ 1000) : Ev g (.BinOp l .Mult r pos) (.tup (List.replicate k d)) :=
  evp_bin h1 h2 (isD_stable _) fun A X s E v1 v2 ha hg ho h1 h2 => by
    obtain ⟨x, vs, n1, rfl, hx, l1, r1⟩ := rep_tup h1; obtain ⟨u, rfl⟩ := rep_int h2
    cases r1 with
    | @cons v _ _ _ r1 r2 =>
      cases r2
      have key := mul_tuple_int x v n1 (k : Int) u (by omega) (by omega)
      have hf : ∀ Q : Value → Shared → Prop, Q (.ref s.heap.objs.size) { s with heap := s.heap.push { cls := .type "tuple", data := .seq (List.replicate k v).toArray } } → wpAny (model g.C.prog g.C.w) A (binaryOp .Mult (.ref x) (.int k u)) Q E s := fun Q hq =>
        wpAny_binaryOp_repeat_ref (T := "tuple") (U := "int") (by decide) ⟨_, l1, rfl⟩ (fun s' => typeIs_int s' _ u) noFill_tuple_mul F.fills_int_mul F.slot_int_rmul repeat_tuple F.slot_int_index.lookup
          (call_meets F.slot_int_rmul (typeIs_int s _ u) F.entry_int_rmul (F.args_int_rmul_2 _ _) (rmul_int_tuple _ u x _ n1)
            ⟨l1, rfl, ⟨_, l1, rfl⟩, call_meets F.slot_tuple_mul ⟨_, l1, rfl⟩ F.entry_tuple_mul (F.args_tuple_mul_2 _ _) key ⟨l1, by rw [Int.toNat_natCast]; exact hq⟩⟩)
      exact hf _ ⟨rep_newTup ho (Reps.replicate r1 k), Kp.push _ _ _⟩

/-- word.count(0) -/
theorem ev_count {x : Str} {p ap cp : Pos} {e : Expr} {ns : List Int} {k : Int} (hx : Ev g (.Name x p) (.tup (intsD ns))) (he : Ev g e (.int k))
    (hline : (ap.endLine == cp.line) = true := by rfl) (hs : ∀ env, starEach [e] env = [(false, eval e env)] := by intro env; rfl) :
    Ev g (.Call (.Attribute (.Name x p) "count" ap) [e] [] cp) (.int (ns.count k : Nat)) := fun A env X s E ha hr => by
  refine wpAny_Call_method (T := "tuple") (id := "tuple.count") base_name (by rw [hs env]; rfl) hline PySem.F.plainAttrs_tuple PySem.F.slot_tuple_count PySem.F.type_tuple_count (wpAny_mono (hx A env X s E ha hr) (fun ov s1 x1 => ?_) fun _ _ x => x)
  obtain ⟨t, vs, n, rfl, hX, hg, hrs⟩ := rep_tup x1.1
  refine ⟨⟨_, hg, rfl⟩, fun a e => by cases e; exact ⟨_, hg, rfl⟩, ?_⟩
  rw [hs env]
  refine P.count_tuple (wpAny_mono (he A env X s1 E ha (hr.ext x1.2)) (fun v s2 x2 => ?_) fun _ _ x => x)
  obtain ⟨t', rfl⟩ := rep_int x2.1
  have hI := reps_ints hrs
  refine ⟨vs.toArray, n, isInt k, x2.2.ext _ _ hg, fun y hy => eq_isInt k t' hI y (by simpa using hy), ?_, (x1.2.trans x2.2).trans (Kp.tok _ _)⟩
  rw [show vs.toArray.toList = vs from rfl, countP_isInt k hI]
  exact .int _ _
end
end Mine
end
section
open PySem PySem.Calls PyProof.Rows
set_option linter.unusedVariables false
set_option maxRecDepth 100000
namespace Mine

/-- a plain dict, its rows as they lie -/
noncomputable def DAt (h : Heap) (d : Addr) (es : Array DictEntry) (ep : Nat) : Prop := ∃ o, h.get? d = some o ∧ o.ExactDict ∧ o.data = .dict es ep
theorem DAt.at {h h' : Heap} {d : Addr} {es : Array DictEntry} {ep : Nat} (x : DAt h d es ep) (k : ∀ o, h.get? d = some o → h'.get? d = some o) : DAt h' d es ep := let ⟨o, e, r⟩ := x; ⟨o, k o e, r⟩
theorem DAt.typeIs {s : Shared} {d : Addr} {es : Array DictEntry} {ep : Nat} (x : DAt s.heap d es ep) : s.TypeIs (.ref d) "dict" := let ⟨o, e, c, _⟩ := x; ⟨o, e, c.1⟩

section
variable {prog : Program} {w : World} {A : Around} {E : Value → Shared → Prop} {s : Shared}

theorem d_pyIter {d : Addr} {es : Array DictEntry} {ep : Nat} {Q : Value → Shared → Prop} (hd : (d == sysModules) = false) (hm : DAt s.heap d es ep)
    (hQ : Q (.ref s.heap.objs.size) { s with heap := s.heap.push { cls := .type "dict_keyiterator", data := .fields #[.ref d, .int 0 0, .int es.size 0, .int ep 0] } }) :
    wpAny (model prog w) A (pyIter (.ref d)) Q E s := by
  have hT := hm.typeIs
  obtain ⟨o, ho, hc, hdat⟩ := hm
  refine wpAny_pyIter_slot hT PySem.F.slot_dict_iter (wpAny_call_entry PySem.F.slot_dict_iter hT PySem.F.entry_dict_iter ?_ (PySem.F.args_dict_iter_1 _))
  unfold Builtin.«dict.__iter__»
  refine wpAny_bind ?_
  unfold Builtin.Dict.dictSlotNone
  refine wpAny_bind (wpAny_notOrdered_dict hT ?_)
  refine wpAny_pure ?_
  show wpAny _ _ (Builtin.Dict.showsAll d >>= _) _ _ s
  unfold Builtin.Dict.showsAll
  rw [if_neg (by rw [hd]; exact Bool.false_ne_true)]
  refine wpAny_bind (wpAny_pure ?_)
  refine wpAny_bind (wpAny_dictEntries ho hdat ?_)
  refine wpAny_bind (wpAny_dictEpoch ho hdat ?_)
  refine wpAny_bind (wpAny_newObj_type (wpAny_pure ⟨_, rfl, "dict_keyiterator", _, ⟨_, Heap.get?_push_size _ rfl, rfl⟩, PySem.F.slot_dict_keyiterator_next.lookup, ?_⟩))
  simpa [rawInt] using hQ

theorem d_next {it d : Addr} {i ep : Nat} {es : Array DictEntry} {Q : Option Value → Shared → Prop} (hit : s.heap.IsKeyIter it d i es.size ep)
    (hm : DAt s.heap d es ep) (hi : i < es.size)
    (hQ : ∀ h', h'.IsKeyIter it d (i + 1) es.size ep → Heap.SameBut it s.heap h' → Q (some es[i].key) { s with heap := h' }) :
    wpAny (model prog w) A (pyNext (.ref it)) Q E s := by
  obtain ⟨o, ho, hc, hd⟩ := id hit
  obtain ⟨od, hod, hcd, hdd⟩ := hm
  unfold pyNext
  refine wpAny_bind (wpAny_attempt (wpAny_callSpecial?_slot (name := Str.ofString "__next__") hit.typeIs PySem.F.slot_dict_keyiterator_next
    (wpAny_call_entry PySem.F.slot_dict_keyiterator_next hit.typeIs PySem.F.entry_dict_keyiterator_next ?_ (PySem.F.args_dict_keyiterator_next_1 _))))
  refine wpAny_bind (wpAny_pure ?_)
  refine wpAny_bind ?_
  refine wpAny_bind ?_
  first | refine wpAny_bind (wpAny_typeNameOfWhole_keyiter hit.typeIs (wpAny_pure ?_)) | refine wpAny_bind (wpAny_typeNameOf_keyiter hit.typeIs (wpAny_pure ?_))
  refine wpAny_bind (wpAny_fieldsOf ho hd ?_)
  have hown : Builtin.Dict_items.ownsTuple "dict_keyiterator" = false := by decide
  simp only [hown, Bool.false_eq_true, if_false]
  show wpAny _ _ (if (Value.ref d == Value.none) = true then _ else _) _ _ s
  rw [if_neg (show ¬ ((Value.ref d == Value.none) = true) from Bool.false_ne_true)]
  refine wpAny_bind (wpAny_pure ?_)
  refine wpAny_bind (wpAny_dictEntries hod hdd ?_)
  rw [if_neg (by simp)]
  refine wpAny_bind (wpAny_pure ?_)
  refine wpAny_bind (wpAny_dictEpoch hod hdd ?_)
  rw [if_neg (by simp)]
  refine wpAny_pure ?_
  simp only [show ¬ ((i : Int) < 0) from by omega, if_false, Int.toNat_natCast, Array.getElem?_eq_getElem hi]
  refine wpAny_bind ?_
  first | refine wpAny_bind (wpAny_typeNameOfWhole_keyiter hit.typeIs (wpAny_pure ?_)) | refine wpAny_bind (wpAny_typeNameOf_keyiter hit.typeIs (wpAny_pure ?_))
  refine wpAny_bind (wpAny_isOneOf_keyiter hit.typeIs ?_)
  show wpAny _ _ (setField (.ref it) 1 (rawInt ((i : Int) + 1)) >>= _) _ _ s
  refine wpAny_bind (wpAny_setField ho hd (by simp) ?_)
  have hit' : (s.heap.update it (Obj.mapFields (·.setIfInBounds 1 (rawInt ((i : Int) + 1))))).IsKeyIter it d (i + 1) es.size ep :=
    ⟨_, Heap.get?_update_self _ ho (Obj.isFreed_of_fields (Obj.data_mapFields hd _)), (Obj.cls_mapFields ..).trans hc, by rw [Obj.data_mapFields hd]; simp [rawInt]⟩
  refine wpAny_bind (wpAny_holding ?_)
  refine wpAny_bind (wpAny_isOneOf_keyiter (s := { s with heap := s.heap.update it (Obj.mapFields (·.setIfInBounds 1 (rawInt ((i : Int) + 1)))) }) hit'.typeIs ?_)
  show wpAny _ _ (pure es[i].key) _ _ _
  exact wpAny_pure (wpAny_pure ⟨_, rfl, wpAny_pure (hQ _ hit' (Heap.SameBut.update ..))⟩)

theorem d_end {it d : Addr} {ep : Nat} {es : Array DictEntry} {Q : Option Value → Shared → Prop} (hh : A.handled = none) (hit : s.heap.IsKeyIter it d es.size es.size ep)
    (hm : DAt s.heap d es ep) (hQ : ∀ h', Heap.ExtBut it s.heap h' → Q none { s with heap := h' }) : wpAny (model prog w) A (pyNext (.ref it)) Q E s := by
  obtain ⟨o, ho, hc, hd⟩ := id hit
  obtain ⟨od, hod, hcd, hdd⟩ := hm
  unfold pyNext
  refine wpAny_bind (wpAny_attempt (wpAny_callSpecial?_slot (name := Str.ofString "__next__") hit.typeIs PySem.F.slot_dict_keyiterator_next
    (wpAny_call_entry PySem.F.slot_dict_keyiterator_next hit.typeIs PySem.F.entry_dict_keyiterator_next ?_ (PySem.F.args_dict_keyiterator_next_1 _))))
  refine wpAny_bind (wpAny_pure ?_)
  refine wpAny_bind ?_
  refine wpAny_bind ?_
  first | refine wpAny_bind (wpAny_typeNameOfWhole_keyiter hit.typeIs (wpAny_pure ?_)) | refine wpAny_bind (wpAny_typeNameOf_keyiter hit.typeIs (wpAny_pure ?_))
  refine wpAny_bind (wpAny_fieldsOf ho hd ?_)
  have hown : Builtin.Dict_items.ownsTuple "dict_keyiterator" = false := by decide
  simp only [hown, Bool.false_eq_true, if_false]
  show wpAny _ _ (if (Value.ref d == Value.none) = true then _ else _) _ _ s
  rw [if_neg (show ¬ ((Value.ref d == Value.none) = true) from Bool.false_ne_true)]
  refine wpAny_bind (wpAny_pure ?_)
  refine wpAny_bind (wpAny_dictEntries hod hdd ?_)
  rw [if_neg (by simp)]
  refine wpAny_bind (wpAny_pure ?_)
  refine wpAny_bind (wpAny_dictEpoch hod hdd ?_)
  rw [if_neg (by simp)]
  refine wpAny_pure ?_
  simp only [show ¬ ((es.size : Int) < 0) from by omega, if_false, Int.toNat_natCast, Array.getElem?_eq_none (Nat.le_refl es.size)]
  refine wpAny_bind ?_
  first | refine wpAny_bind (wpAny_typeNameOfWhole_keyiter hit.typeIs (wpAny_pure ?_)) | refine wpAny_bind (wpAny_typeNameOf_keyiter hit.typeIs (wpAny_pure ?_))
  show wpAny _ _ (setField (.ref it) 0 .none >>= _) _ _ s
  refine wpAny_bind (wpAny_setField ho hd (by simp) ?_)
  show wpAny _ _ (newExc (.type "StopIteration") [] >>= _) _ _ _
  refine wpAny_bind ?_
  simp only [newExc, newTuple]
  refine wpAny_bind (wpAny_newObj_type ?_ (by size_fits))
  refine wpAny_bind (m := firstArgMember _ _) (wpAny_of_eq (a := Value.none) (by first | rfl | (simp only [firstArgMember]; rfl)) ?_)
  refine wpAny_newObj_type ?_ (by size_fits)
  simp only [raiseNew]
  refine wpAny_bind (wpAny_handled ?_)
  rw [show A.in1.handled = none from hh]
  refine wpAny_bind (wpAny_pure (wpAny_throw ?_))
  refine wpAny_bind (wpAny_isInstance (T := "StopIteration") (b := true) ⟨_, Heap.get?_push_size _ rfl, rfl⟩ isSubtype_stop ?_)
  exact wpAny_pure (hQ _ (((Heap.SameBut.update ..).extBut.push _).push _))
end

theorem walks_dict {prog : Program} {w : World} {A : Around} (hh : A.handled = none) (I d : Addr) (hne : d ≠ I) (es : Array DictEntry) (ep : Nat) :
    Walks prog w A I [I, d] [I] es.size (fun i v => ∃ e, es[i]? = some e ∧ v = e.key) (fun i h => h.IsKeyIter I d i es.size ep ∧ DAt h d es ep) where
  sub := fun b hb => by simp at hb; simp [hb]
  frame := fun _ _ _ st hk => ⟨let ⟨o, ho, r⟩ := st.1; ⟨o, hk I (by simp) o ho, r⟩, st.2.at fun o e => hk d (by simp) o e⟩
  item := fun i s Q E hi st hQ => by
    refine d_next st.1 st.2 hi fun h' hit' hs' => ?_
    exact hQ _ h' s.toks ⟨es[i], Array.getElem?_eq_getElem hi, rfl⟩ ⟨hit', st.2.at fun o e => hs'.extBut d o hne e⟩ fun b o hb e => hs'.extBut b o (fun h => hb (by simp [h])) e
  done := fun s Q E st hQ => d_end hh st.1 st.2 fun h' he' => hQ h' s.toks fun b o hb e => he' b o (fun h => hb (by simp [h])) e
  self := fun i s Q E st hQ => by
    have hT := st.1.typeIs
    refine wpAny_pyIter_slot hT PySem.F.slot_dict_keyiterator_iter (wpAny_call_entry PySem.F.slot_dict_keyiterator_iter hT PySem.F.entry_dict_keyiterator_iter ?_ (PySem.F.args_dict_keyiterator_iter_1 _))
    exact wpAny_pure ⟨_, rfl, "dict_keyiterator", _, hT, PySem.F.slot_dict_keyiterator_next.lookup, hQ⟩

theorem src_dict {prog : Program} {w : World} {d : Addr} {es : Array DictEntry} {ep : Nat} (lo : (d == sysModules) = false) :
    W.KdlSrc prog w "dict" d d es.size (fun i v => ∃ e, es[i]? = some e ∧ v = e.key) (fun h => DAt h d es ep) where
  type := fun _ hm => hm.typeIs
  there := fun _ hm => let ⟨o, e, _⟩ := hm; ⟨Heap.lt_size e, Heap.lt_size e⟩
  keep := fun _ _ hm hk => hm.at fun o e => hk d (.inl rfl) o e
  notList := by decide
  notTuple := by decide
  hint := fun _ _ _ _ hm hq => W.kdl_hint_dict hm.typeIs hq
  iter := fun _ _ hh hm => ⟨_, _, (fun _ _ hq => d_pyIter lo hm hq), walks_dict hh _ d (Nat.ne_of_lt (let ⟨o, e, _⟩ := hm; Heap.lt_size e)) es ep, ⟨⟨_, Heap.get?_push_size _ rfl, rfl, rfl⟩, hm.at fun o e => Heap.get?_push_of_some _ e⟩⟩
end Mine
end
section
open PySem PySem.Calls PyProof.Rows
set_option linter.unusedVariables false
set_option maxRecDepth 100000
namespace Mine

noncomputable def insK (ks : List (List Int)) (k : List Int) : List (List Int) := if k ∈ ks then ks else ks ++ [k]
theorem storedH_keys {xs : List (List Int × Addr × Value)} {k : List Int} {a : Addr} {v : Value} : (storedH xs k a v).map (·.1) = insK (xs.map (·.1)) k := by
  unfold storedH insK
  by_cases h : k ∈ xs.map (·.1)
  · have : (atKey xs k).isSome = true := by
      unfold atKey
      rw [Option.isSome_map]
      rw [List.find?_isSome]
      obtain ⟨x, hx, e⟩ := List.mem_map.mp h
      exact ⟨x, hx, by simpa using e⟩
    rw [if_pos this, if_pos h, keys_map_putAt]
  · have : (atKey xs k).isSome = false := by
      unfold atKey
      rw [Option.isSome_map]
      cases e : (xs.find? fun x => decide (x.1 = k)) with
      | none => rfl
      | some x =>
        exfalso; apply h
        have h1 := List.mem_of_find?_eq_some e
        have h2 := List.find?_some e
        exact List.mem_map.mpr ⟨x, h1, by simpa using h2⟩
    rw [if_neg (by rw [this]; simp), if_neg h]
    simp
theorem storedH_mem {xs : List (List Int × Addr × Value)} {k : List Int} {a : Addr} {v : Value} {x : List Int × Addr × Value} (h : x ∈ storedH xs k a v) : (∃ y ∈ xs, x.1 = y.1 ∧ x.2.1 = y.2.1) ∨ (x.1 = k ∧ x.2.1 = a) := by
  unfold storedH at h
  split at h
  · obtain ⟨y, hy, e⟩ := List.mem_map.mp h
    refine .inl ⟨y, hy, ?_⟩
    rw [← e]
    unfold putAt
    split <;> exact ⟨rfl, rfl⟩
  · rcases List.mem_append.mp h with h | h
    · exact .inl ⟨x, h, rfl, rfl⟩
    · rw [List.mem_singleton.mp h]; exact .inr ⟨rfl, rfl⟩

theorem rep_dictBut {h h' : Heap} {X : List Addr} {a : Addr} {o : Obj} (ho : h.get? a = some o) (hc : o.cls = .type "dict") (hs : Heap.SameBut a h h') {v : Value} {d : D} (r : Rep h X v d) : Rep h' (a :: X) v d :=
  r.mono fun b ob hb e cl => by
    have hne : b ≠ a := fun q => by
      rw [q, ho] at e; cases e
      rcases cl with cl | cl <;> exact absurd (hc.symm.trans cl) (by decide)
    exact ⟨(hs.2 b hne).trans e, fun q => by
      rcases List.mem_cons.mp q with q | q
      · exact hne q
      · exact hb q⟩

section
variable {g : G}
/-- list(d) -/
theorem ev_listDict {p pos : Pos} {e : Expr} {a : Addr} {ks : List (List Int)} (h : Ev g e (.own a)) (hσ : (a, Own.dict ks) ∈ g.σ) (hsz : ks.length ≤ 16777216) (hk : g.ns.lookup ("list" : Str) = some .globalImplicit := by rfl)
    (he : ∀ env, starEach [e] env = (false, eval e env) :: starEach [] env := by intro env; rfl) : Ev g (.Call (.Name "list" p) [e] [] pos) (.list (ks.map fun k => .tup (intsD k))) := fun A env X s E ha hr =>
  call1k hk (by decide) boot_list (by decide) ⟨_, rfl⟩ h ha hr (fun v s1 h1 k1 => by
    cases rep_own h1
    have r1 := hr.ext k1
    obtain ⟨lo, xs, ⟨o, es, ep, q1, q2, q3, q4, q5, q6⟩, q7, q8⟩ := (r1.own a _ hσ).2
    have hD : DAt s1.heap a es ep := ⟨o, q1, q2, q3⟩
    have hes : es.size = ks.length := by rw [← Array.length_toList, q4, List.length_map, ← q7, List.length_map]
    refine W.kdl_call (src_dict (es := es) (ep := ep) (by simpa using lo)) ha.hh hD (by rw [hes]; exact hsz) fun h' tk acc c' hkp hS hacc => ?_
    have hkp' : Ext s1.heap h' := hkp
    refine ⟨?_, k1.trans (Kp.of hkp')⟩
    have hRs : Reps h' X acc.toList (ks.map fun k => D.tup (intsD k)) := by
      have key : ∀ (xs' : List (List Int × Addr × Value)) (l : List Value), (∀ x ∈ xs', Rep h' X (.ref x.2.1) (.tup (x.1.map D.int))) → l.length = xs'.length → (∀ (j : Nat) (v : Value), l[j]? = some v → ∃ x : List Int × Addr × Value, xs'[j]? = some x ∧ v = Value.ref x.2.1) → Reps h' X l (xs'.map fun x => D.tup (intsD x.1)) := by
        intro xs'
        induction xs' with
        | nil => intro l _ hl _; cases l with
          | nil => exact .nil
          | cons _ _ => simp at hl
        | cons x r ih =>
          intro l hx hl hj
          cases l with
          | nil => simp at hl
          | cons v l =>
            obtain ⟨x', e1, rfl⟩ := hj 0 v rfl
            simp at e1; subst e1
            exact .cons (hx _ List.mem_cons_self) (ih l (fun y hy => hx y (List.mem_cons_of_mem _ hy)) (by simpa using hl) fun j u hu => by simpa using hj (j + 1) u (by simpa using hu))
      have := key xs acc.toList (fun x hx => (q8 x hx).ext hkp') (by rw [Array.length_toList, hacc.1, hes, ← q7, List.length_map]) (fun j v hv => by
        obtain ⟨e, he1, he2⟩ := hacc.2 j v (by rw [← Array.getElem?_toList]; exact hv)
        rw [← Array.getElem?_toList, q4, List.getElem?_map] at he1
        cases hx : xs[j]? with
        | none => rw [hx] at he1; cases he1
        | some x => rw [hx] at he1; cases he1; exact ⟨x, rfl, he2⟩)
      rw [← q7, List.map_map]
      exact this
    have hS' : h'.get? s1.heap.objs.size = some { cls := .type "list", data := .seq acc.toList.toArray c' } := by rw [hS]
    exact .list _ acc.toList _ c' (r1.old.new (get_size _)) hS' hRs) he
end

section
variable {g : G} {A : Around} {env : Env} {W Y : List Addr} {B : List Shared} {s : Shared} {E : Value → Shared → Prop} {Q : Flow → Shared → Prop} {rest : List Stmt}

/-- x = {key: value} -/
theorem st_dict {C : Cx} {x : Str} {p pos dp : Pos} {ek ev : Expr} {k : List Int} {i : Int} (S : St g env W Y B s) (ha : AOk g.n A) (hkk : Ev g ek (.tup (intsD k))) (hvv : Ev g ev (.int i)) (hk : kindOk g x)
    (kont : ∀ a s', St ((g.own ((a, .dict [k]) :: g.σ)).set x (.own a)) env (a :: W) Y B s' → (∀ p ∈ g.σ, p.1 ≠ a) → a ∉ W ++ Y → (∀ b ∈ B, b.heap.get? a = none) → wpAny (modC C) A (execs rest env) Q E s')
    (hsw : swapsWith (.Dict [some ek] [ev] dp) (some (.Name x p)) pos.line env = pure false := by rfl) (hCe : g.C = C := by rfl) :
    wpAny (modC C) A (execs (.Assign [.Name x p] (.Dict [some ek] [ev] dp) pos :: rest) env) Q E s := by
  subst hCe
  refine wpAny_execs_cons (wpAny_Assign_Name ?_ hsw)
  rw [arm_eval_Dict]
  rw [show ((evalEachOpt [some ek] env).zip ((evalEach [ev] env).map fun v => do let x ← v; standAt dp; pure x)) = ([(eval ek env, (do let x ← eval ev env; standAt dp; pure x))] : List (Sem Value × Sem Value)).map fun p => (some p.1, p.2) from rfl]
  rw [dictDisplay_pairs _ (by simp) (Nat.le_of_ble_eq_true rfl)]
  refine wpAny_bind (wpAny_standAt (wpAny_bind ?_))
  unfold subDict
  refine wpAny_bind (wpAny_alloc (wpAny_bind (wpAny_holding ?_)))
  rw [if_pos (Nat.le_of_ble_eq_true rfl)]
  obtain ⟨a, hA⟩ : ∃ a, a = s.heap.objs.size := ⟨_, rfl⟩
  obtain ⟨s1, h1⟩ : ∃ s1 : Shared, s1 = { s with heap := s.heap.push { cls := .type "dict", data := .dict #[] } } := ⟨_, rfl⟩
  rw [← h1, ← hA]
  have k1 : Kp s s1 := by rw [h1]; exact ⟨⟨_, _, rfl⟩, Ext.push _ _⟩
  have ga : s1.heap.get? a = some { cls := .type "dict", data := .dict #[] } := by rw [h1, hA]; exact Heap.get?_push_size _ rfl
  have S1 := S.kp k1
  refine wpAny_bind (evalPairs_cons (wpAny_mono (hkk A env _ s1 E ha S1.rd) (fun vk s2 x2 => wpAny_bind (wpAny_mono (hvv A env _ s2 E ha (S1.kp x2.2).rd) (fun vv s3 x3 => wpAny_bind (wpAny_standAt (wpAny_pure (evalPairs_nil ?_)))) fun _ _ x => x)) fun _ _ x => x))
  refine wpAny_holding ?_
  have k3 : Kp s1 s3 := x2.2.trans x3.2
  have ga3 := k3.ext _ _ ga
  have rk := x2.1.ext x3.2.ext
  obtain ⟨T, vs, n, rfl, hTX, hTg, hTr⟩ := rep_tup rk
  refine wpAny_bind ?_
  rw [List.forIn_cons]
  have hD : s3.heap.DictOfH (tk g.C) a [] := ⟨_, #[], 0, ga3, ⟨rfl, rfl, rfl⟩, rfl, rfl, fun _ hx => by simp at hx, List.nodup_nil⟩
  refine wpAny_bind (wpAny_bind (wpAny_dictSet_heap (knd := tk g.C) (hsz := Nat.zero_le _) (by have := ha.un; show A.units < 9900; omega) (tk_is rk) hD fun h' hm' hs' => wpAny_pure ?_))
  dsimp only
  rw [List.forIn_nil]
  refine wpAny_pure (wpAny_pure (wpAny_pure (wpAny_pure ?_)))
  have hst : storedH [] k T vv = [(k, T, vv)] := rfl
  rw [hst] at hm'
  have kk : Kp s { s3 with heap := h', toks := s3.toks + (tk g.C).draws k } := by
    obtain ⟨h9, t9, e9⟩ := (k1.trans k3).same
    refine ⟨⟨h', s3.toks + (tk g.C).draws k, by rw [e9]⟩, fun b o e => ?_⟩
    have hne : b ≠ a := fun q => by rw [q, hA, get_size] at e; cases e
    exact (hs'.2 b hne).trans ((k1.trans k3).ext _ _ e)
  have hlo : a ≠ sysModules := fun q => by
    obtain ⟨o, e⟩ := ns_alive S.rd.glb.g
    have := Heap.lt_size e
    rw [← hA, q] at this
    revert this; decide
  have hown : OwnIs g.C h' (a :: (W ++ Y)) a (.dict [k]) := ⟨hlo, _, hm', rfl, fun x hx => by
    rw [List.mem_singleton.mp hx]
    exact rep_dictBut ga3 rfl hs' rk⟩
  obtain ⟨S9, hne⟩ := S.addOwnG (oc := .dict [k]) kk (by rw [hA]; exact get_size _) hown
  exact S9.store hk (.own a) fun s' S' _ => kont a s' S' hne (S.rd.old.new (by rw [hA]; exact get_size _)) fun b hb => S.dead hb (by rw [hA]; exact get_size _)

/-- d[key] = value -/
theorem st_dictItem {C : Cx} {x i e : Expr} {p pos : Pos} {a : Addr} {ks : List (List Int)} {σ : List (Addr × Own)} {k : List Int} {v : Int} (S : St (g.own ((a, .dict ks) :: σ)) env W Y B s) (ha : AOk g.n A) (hne : ∀ p ∈ σ, p.1 ≠ a)
    (he : Ev (g.own ((a, .dict ks) :: σ)) e (.int v)) (hx : Ev (g.own ((a, .dict ks) :: σ)) x (.own a)) (hi : Ev (g.own ((a, .dict ks) :: σ)) i (.tup (intsD k))) (hsz : ks.length ≤ 16777216)
    (kont : ∀ s', St (g.own ((a, .dict (insK ks k)) :: σ)) env W Y B s' → wpAny (modC C) A (execs rest env) Q E s')
    (hsw : swapsWithSole [.Subscript x i p] e pos.line env = pure false := by rfl) (hss : swappedStores [.Subscript x i p] e env = pure none := by rfl) (hCe : g.C = C := by rfl) :
    wpAny (modC C) A (execs (.Assign [.Subscript x i p] e pos :: rest) env) Q E s := by
  subst hCe
  refine wpAny_execs_cons ?_
  rw [PyProof.Rows.exec_Assign, hsw]
  refine wpAny_bind (wpAny_standAt (wpAny_bind (wpAny_pure ?_)))
  rw [if_neg (by decide)]
  refine wpAny_bind (wpAny_mono (he A env _ s E ha S.rd) (fun v' s1 x1 => ?_) fun _ _ x => x)
  rw [hss]
  refine wpAny_bind (wpAny_pure ?_)
  show wpAny _ A (do (assign (.Subscript x i p) env v'); pure Flow.next) _ _ _
  refine wpAny_bind ?_
  rw [assign_Subscript]
  have S1 := S.kp x1.2
  refine wpAny_bind (wpAny_holding (wpAny_mono (hx A env _ s1 E ha S1.rd) (fun ov s2 x2 => ?_) fun _ _ x => x))
  have S2 := S1.kp x2.2
  refine wpAny_bind (wpAny_holding (wpAny_mono (hi A env _ s2 E ha S2.rd) (fun iv s3 x3 => ?_) fun _ _ x => x))
  have S3 := S2.kp x3.2
  cases rep_own x2.1
  obtain ⟨T, vs, n, rfl, hTX, hTg, hTr⟩ := rep_tup x3.1
  obtain ⟨lo, xs, hD, q7, q8⟩ := (S3.rd.own a (.dict ks) List.mem_cons_self).2
  obtain ⟨o, es, ep, z1, z2, z3, z4, z5, z6⟩ := id hD
  refine wpAny_bind (wpAny_standAt (wpAny_bind (wpAny_holding (wpAny_setItem_heap (knd := tk g.C) (hsz := by rw [show sizeLine = 16777216 from rfl, ← List.length_map (f := (·.1)), q7]; exact hsz) (by have := ha.un; show A.units + 1 < 9900; omega) (tk_is x3.1) hD fun h' hm' hs' => ?_))))
  refine wpAny_release (wpAny_pure (kont _ ?_))
  refine S3.setOwnG (g := g) (tk := s3.toks + (tk g.C).draws k) hne hs' ⟨lo, _, hm', by rw [storedH_keys, q7], fun y hy => ?_⟩
  rcases storedH_mem hy with ⟨y', hy', e1, e2⟩ | ⟨e1, e2⟩
  · rw [e1, e2]; exact (rep_dictBut z1 z2.1 hs' (q8 y' hy')).weak fun b hb => List.mem_cons_of_mem _ hb
  · rw [e1, e2]; exact (rep_dictBut z1 z2.1 hs' x3.1).weak fun b hb => List.mem_cons_of_mem _ hb
end
end Mine
end
section
open PySem PySem.Calls PyProof.Rows
set_option linter.unusedVariables false
set_option maxRecDepth 100000
namespace Mine
section
variable {g : G} {A : Around} {env : Env} {W Y : List Addr} {B : List Shared} {s : Shared} {E : Value → Shared → Prop} {Q : Flow → Shared → Prop} {rest : List Stmt}

/-- x -= e -/
theorem st_augSub {C : Cx} {x : Str} {p pos : Pos} {e : Expr} {a b : Int} (S : St g env W Y B s) (ha : AOk g.n A) (hx : g.ρ.lookup x = some (.int a)) (he : Ev g e (.int b)) (hk : kindOk g x)
    (k : ∀ s', St (g.set x (.int (a - b))) env W Y B s' → wpAny (modC C) A (execs rest env) Q E s')
    (hn : (x == ("__classdict__" : Str)) = false := by decide) (hCe : g.C = C := by rfl) :
    wpAny (modC C) A (execs (.AugAssign (.Name x p) .Sub e pos :: rest) env) Q E s := by
  subst hCe
  obtain ⟨v, hb, hr⟩ := S.rd.loc x _ hx
  obtain ⟨t, rfl⟩ := rep_int hr
  refine wpAny_execs_cons (wpAny_AugAssign_Name ?_)
  have key : wpAny (mod g) A (eval e env) (fun v s₂ => wpAny (mod g) A (inplaceOp .Sub (.int a t) v) (fun r s₃ => wpAny (mod g) A (storeName env x r) (fun _ s' => wpAny (mod g) A (execs rest env) Q E s') E s₃) E s₂) E s :=
    wpAny_mono (he A env _ s E ha S.rd) (fun v s2 x2 => by
      obtain ⟨u, rfl⟩ := rep_int x2.1
      refine PyProof.Rows.isub_int ?_
      exact ((S.kp x2.2).kp (Kp.tok _ _)).store hk (.int _ _) fun s' S' _ => k s' S') fun _ _ x => x
  rcases hb with ⟨h1, m, h2, h3⟩ | ⟨h1 | h1, c, h2, h3⟩
  · exact wpAny_loadName_local S.rd.fn h1 h2 h3 key
  · exact wpAny_loadName_cell S.rd.fn h1 h2 h3 key
  · exact wpAny_loadName_free S.rd.fn h1 h2 h3 key hn

/-- a new address comes over from the protected to the own -/
theorem St.adopt {a : Addr} {oc : Own} (S : St g env W (a :: Y) B s) (p : ApartW env W B [a]) (hx : OwnIs g.C s.heap (a :: (W ++ Y)) a oc) : St (g.own ((a, oc) :: g.σ)) env (a :: W) Y B s := by
  have e1 : ∀ b, b ∈ (a :: W) ++ Y → b ∈ W ++ a :: Y := fun b h => by
    simp only [List.cons_append, List.mem_cons, List.mem_append] at h ⊢
    rcases h with h | h | h
    · exact .inr (.inl h)
    · exact .inl h
    · exact .inr (.inr h)
  have e2 : ∀ b, b ∈ W ++ a :: Y → b ∈ (a :: W) ++ Y := fun b h => by
    simp only [List.cons_append, List.mem_cons, List.mem_append] at h ⊢
    rcases h with h | h | h
    · exact .inr (.inl h)
    · exact .inl h
    · exact .inr (.inr h)
  refine ⟨⟨S.rd.names, S.rd.fn, S.rd.gl, S.rd.bi, S.rd.glb, fun b h => S.rd.old b (e1 b h), fun b h => S.rd.fr b (e1 b h), S.rd.lns, S.rd.cell, fun x d hx => ?_, fun b c hb => ?_, S.rd.cal⟩, fun b hb => (S.mv b hb).weak fun b h => List.mem_cons_of_mem _ h, List.mem_cons_of_mem _ S.lw, fun x c hk hc => List.mem_cons_of_mem _ (S.cw x c hk hc), S.ap, S.inj, fun b c hb => ?_⟩
  · obtain ⟨v, h1, h2⟩ := S.rd.loc x d hx
    exact ⟨v, h1, h2.weak e1⟩
  · rcases List.mem_cons.mp hb with q | hb
    · cases q; exact ⟨List.mem_cons_self, hx⟩
    · obtain ⟨h1, h2⟩ := S.rd.own b c hb
      exact ⟨e2 b h1, h2.keep (fun _ e => e) (fun _ _ r => r.weak e1) fun _ _ r => r.weak e1⟩
  · rcases List.mem_cons.mp hb with q | hb
    · cases q
      refine ⟨List.mem_cons_self, fun q => p.w a List.mem_cons_self (q ▸ S.lw), fun x c' _ hc q => p.c a List.mem_cons_self x (q ▸ hc)⟩
    · exact ⟨List.mem_cons_of_mem _ (S.ow b c hb).1, (S.ow b c hb).2⟩

theorem swaps_true {env : Env} {elt : Expr} {gs : List Comprehension} {scope : Scope} {pos py : Pos} {y : Str} {line : Nat} (hb : env.scope.kind = .function) (hk : env.kindOf y = some .local) (hl : (py.line == pos.line) = true)
    (hn : (scope.names.any fun p => p.1 == y && (p.2 == .local || p.2 == .cell)) = false) : swapsWith (.ListComp elt gs scope pos) (some (.Name y py)) line env = pure true := by
  show (pure (env.blockKind == .function && env.kindOf y == some .local && py.line == pos.line && !(scope.names.any fun p => p.1 == y && (p.2 == .local || p.2 == .cell))) : Sem Bool) = pure true
  rw [blockKind_fn hb, hk, hl, hn]
  rfl

/-- y = [elt for x, z in iter], the list the frame's own from here on -/
theorem st_comp2 {C : Cx} {elt iter : Expr} {x z y : Str} {px pz tp pos py spos : Pos} {k : Nat} {scope : Scope} {ds : List D} (out : List D) (S : St g env W Y B s) (ha : AOk g.n A) (hs : Src g iter ds okTup) (ok : ScOk g scope) (hx : lc scope x) (hz : lc scope z) (hlen : ds.length ≤ 16777216) (hl : out.length = ds.length)
    (he : ∀ (i : Nat) (d d' : D), ds[i]? = some d → out[i]? = some d' → ∃ a b, d = D.tup [a, b] ∧ Ev (((cg g scope).set x a).set z b) elt d') (hy : g.ns.lookup y = some .local)
    (kont : ∀ a s', St ((g.own ((a, .list out) :: g.σ)).set y (.own a)) env (a :: W) Y B s' → (∀ p ∈ g.σ, p.1 ≠ a) → a ∉ W ++ Y → (∀ b ∈ B, b.heap.get? a = none) → wpAny (modC C) A (execs rest env) Q E s')
    (hli : (py.line == pos.line) = true := by rfl) (hn : (scope.names.any fun p => p.1 == y && (p.2 == .local || p.2 == .cell)) = false := by decide +kernel)
    (hfs : ∀ env x, foldedSetIterable iter env x = pure x := by intro _ _; rfl) (hCe : g.C = C := by rfl) :
    wpAny (modC C) A (execs (.Assign [.Name y py] (.ListComp elt [⟨.Tuple [.Name x px, .Name z pz] k tp, iter, [], 0⟩] scope pos) spos :: rest) env) Q E s := by
  subst hCe
  refine wpAny_execs_cons ?_
  rw [exec_Assign_Name_used _ _ _ _ (swaps_true S.rd.fn (S.rd.kind hy (by decide)) hli hn)]
  refine wpAny_bind (wpAny_standAt (wpAny_bind ?_))
  show wpAny _ A (do let _ ← comprehension (.ListComp elt [⟨.Tuple [.Name x px, .Name z pz] k tp, iter, [], 0⟩] scope pos) scope env _ (newList []) false (eval iter env) (some (assign (.Name y py) env))) _ _ s
  refine wpAny_bind (wpAny_mono (comp_gen (g := g) (use := some (assign (.Name y py) env)) (Q := fun _ s' => wpAny (modC g.C) A (execs rest env) Q E s') (Wb := []) ha S.rd (fun _ h => by cases h) ok hs ⟨_, _, _, rfl⟩ hlen (fun _ => cg g scope) (fun _ => rfl) rfl cg_cap (fun _ _ h => by cases h) (fun i => out.take i) (by simp)
    (fun i d hd => by
      have hi : i < out.length := by rw [hl]; exact (List.getElem?_eq_some_iff.mp hd).1
      obtain ⟨a, b, rfl, hE⟩ := he i d _ hd (List.getElem?_eq_getElem hi)
      exact ⟨((cg g scope).set x a).set z b, rfl, tgt_tup2 hx hz, fun env' W' Y' B' s' E' S' => tests_nil (by
        simp only [if_true]
        refine wpAny_mono (hE A env' _ s' E' ha S'.rd) (fun v s3 x3 => ⟨_, x3.1, by rw [List.take_succ_eq_append_getElem hi], set_sub2 (S'.kp x3.2) (cg_none hx) (cg_none hz)⟩) fun _ _ x => x)⟩)
    (fun Ac L vs s5 m hA hL hLA hm hPl hRs hM _ => ?_) (hfs env)) (fun _ s' hq => wpAny_pure (wpAny_pure hq)) fun _ _ e => e)
  show wpAny _ A (assign (.Name y py) env (.ref Ac)) _ E s5
  have kp := hM.kp
  have alAc : ∃ o, s5.heap.get? Ac = some o := let ⟨n, e⟩ := hPl; ⟨_, e⟩
  have S5 := S.enter (its := [Ac, L]) kp (fun a h => by
    rcases List.mem_cons.mp h with rfl | h
    · exact ⟨hA, alAc⟩
    · rw [List.mem_singleton.mp h]; exact ⟨hL, ns_alive hm⟩)
  have P0 := S.apart (its := [Ac]) fun a h => by rw [List.mem_singleton.mp h]; exact hA
  have PL := S.apart (its := [L]) fun a h => by rw [List.mem_singleton.mp h]; exact hL
  rw [← hl, List.take_length] at hRs
  have hown : OwnIs g.C s5.heap (Ac :: (W ++ (L :: Y))) Ac (.list out) := ⟨vs, hPl, hRs.weak fun b h => by
    simp only [List.mem_cons, List.mem_append] at h ⊢
    rcases h with h | h | h | h
    · exact .inr (.inl h)
    · exact .inr (.inr (.inl h))
    · exact .inl h
    · exact .inr (.inr (.inr h))⟩
  have S6 := St.adopt (g := g) (Y := L :: Y) S5 P0.toApartW hown
  have hne : ∀ p ∈ g.σ, p.1 ≠ Ac := fun p hp q => by
    obtain ⟨o, e⟩ := (S.rd.own p.1 p.2 hp).2.alive
    rw [q, hA] at e; cases e
  have hLW : L ∉ Ac :: W := fun h => by
    rcases List.mem_cons.mp h with h | h
    · exact hLA h
    · exact PL.w L List.mem_cons_self h
  refine assign_Name (S6.store (.inl hy) (.own Ac) fun s' S' kk => ⟨m, kk.ns hLW hm, fun h' hs' => ?_⟩)
  have PA : Apart env (Ac :: W) Y B [L] := ⟨⟨fun a h q => hLW (by rw [List.mem_singleton.mp h] at q; exact q), PL.c, PL.b⟩, PL.y⟩
  have S7 := S'.lose (its := [L]) (s' := { s' with heap := h' }) PA ⟨⟨_, _, rfl⟩, fun b o hb e => (hs'.2 b fun q => hb (by rw [q]; exact List.mem_cons_self)).trans e⟩
  exact kont Ac _ S7 hne (S.rd.old.new hA) fun b hb => S.dead hb hA

/-- an own list is left as plain data -/
theorem St.freeze {γ : G} {a : Addr} {ds : List D} {σ : List (Addr × Own)} (S : St (g.own ((a, .list ds) :: σ)) env (a :: W) Y B s) (hB : ∀ b ∈ B, b.heap.get? a = none) (haX : a ∉ W ++ Y) (hne : ∀ p ∈ σ, p.1 ≠ a)
    (hρ : ∀ x d, γ.ρ.lookup x = some d → g.ρ.lookup x = some d ∨ (g.ρ.lookup x = some (.own a) ∧ d = .list ds)) (hC : γ.C = g.C := by rfl) (hn : γ.n = g.n := by rfl) (hns : γ.ns = g.ns := by rfl) (hσ : γ.σ = σ := by rfl) : St γ env W Y B s := by
  obtain ⟨C', n', ns', ρ', σ'⟩ := γ
  cases hC; cases hn; cases hns; cases hσ
  have haO := S.ow a (.list ds) List.mem_cons_self
  have nW : ∀ b, b ∈ a :: W → b ≠ a → b ∈ W := fun b h q => (List.mem_cons.mp h).elim (fun z => (q z).elim) id
  have sub : ∀ b, b ∈ W ++ Y → b ∈ (a :: W) ++ Y := fun b h => List.mem_cons_of_mem _ h
  obtain ⟨vs, ⟨n0, e0⟩, hr⟩ := (S.rd.own a (.list ds) List.mem_cons_self).2
  refine ⟨⟨S.rd.names, S.rd.fn, S.rd.gl, S.rd.bi, S.rd.glb, fun b h => S.rd.old b (sub b h), fun b h => S.rd.fr b (sub b h), S.rd.lns, S.rd.cell, fun x d hx => ?_, fun b c hb => ?_, S.rd.cal⟩, fun b hb => ?_, nW _ S.lw fun q => haO.2.1 q.symm, fun x c hk hc => nW _ (S.cw x c hk hc) fun q => haO.2.2 x c (.inl hk) hc q.symm, S.ap, S.inj, fun b c hb => ?_⟩
  · rcases hρ x d hx with h | ⟨h, rfl⟩
    · obtain ⟨v, h1, h2⟩ := S.rd.loc x d h
      exact ⟨v, h1, h2.weak sub⟩
    · obtain ⟨v, h1, h2⟩ := S.rd.loc x _ h
      cases rep_own h2
      exact ⟨_, h1, .list a vs ds n0 haX e0 (hr.weak sub)⟩
  · obtain ⟨h1, h2⟩ := S.rd.own b c (List.mem_cons_of_mem _ hb)
    refine ⟨?_, h2.keep (fun _ e => e) (fun _ _ r => r.weak sub) fun _ _ r => r.weak sub⟩
    have := (S.ow b c (List.mem_cons_of_mem _ hb)).1
    exact List.mem_append_left _ (nW b this (hne _ hb))
  · refine (S.mv b hb).drop fun c hc => ?_
    rcases List.mem_cons.mp hc with rfl | hc
    · exact .inr (hB b hb)
    · exact .inl hc
  · have := S.ow b c (List.mem_cons_of_mem _ hb)
    exact ⟨nW b this.1 (hne _ hb), this.2⟩
end
end Mine
end
section
open PySem PySem.Calls PyProof.Rows
set_option linter.unusedVariables false
set_option maxRecDepth 100000
namespace Mine
section
variable {g : G} {A : Around} {env : Env} {W Y : List Addr} {B : List Shared} {s : Shared} {E : Value → Shared → Prop} {Q : Flow → Shared → Prop} {rest : List Stmt}

/-- the order of the own lists is free -/
theorem St.perm {γ : G} (S : St g env W Y B s) (h : ∀ p ∈ γ.σ, p ∈ g.σ) (hC : γ.C = g.C := by rfl) (hn : γ.n = g.n := by rfl) (hns : γ.ns = g.ns := by rfl) (hρ : γ.ρ = g.ρ := by rfl) : St γ env W Y B s := by
  obtain ⟨C', n', ns', ρ', σ'⟩ := γ
  cases hC; cases hn; cases hns; cases hρ
  exact ⟨⟨S.rd.names, S.rd.fn, S.rd.gl, S.rd.bi, S.rd.glb, S.rd.old, S.rd.fr, S.rd.lns, S.rd.cell, S.rd.loc, fun a c hc => S.rd.own a c (h _ hc), S.rd.cal⟩, S.mv, S.lw, S.cw, S.ap, S.inj, fun a c hc => S.ow a c (h _ hc)⟩

/-- the end of a def that hands back an own list -/
theorem St.finOwn {env : Env} {W Y : List Addr} {s0 s : Shared} {ds : List D} {a : Addr} {σ : List (Addr × Own)} (S : St (g.own ((a, .list ds) :: σ)) env W Y [s0] s) (hW : ∀ a ∈ W, s0.heap.get? a = none) (haY : a ∉ Y) {v : Value} (hv : Rep s.heap (W ++ Y) v (.own a)) :
    ∃ v' W1, (match Flow.ret v with | Flow.ret v => v | _ => Value.none) = v' ∧ (∀ a ∈ W1, s0.heap.get? a = none) ∧ Rep s.heap Y v' (.list ds) ∧ Moves (W1 ++ ([] : List (Addr × Own)).map (·.1)) s0 s ∧ (∀ a c, (a, c) ∈ ([] : List (Addr × Own)) → OwnIs g.C s.heap Y a c) := by
  obtain ⟨vs, ⟨n0, e0⟩, hr⟩ := (S.rd.own a (.list ds) List.mem_cons_self).2
  refine ⟨v, W, rfl, hW, ?_, by simpa using S.mv s0 List.mem_cons_self, fun _ _ h => by cases h⟩
  cases rep_own hv
  exact .list a vs ds n0 haY e0 (hr.weak fun b hb => List.mem_append_right _ hb)
/-- the end of a def that was handed an own list -/
theorem St.finB {env : Env} {W1 Y : List Addr} {s0 s : Shared} {a : Addr} {c0 c : Own} {fl : Flow} {v : Value} {d : D} (S : St g env (W1 ++ [(a, c0)].map (·.1)) Y [s0] s) (hfl : (match fl with | Flow.ret v => v | _ => Value.none) = v) (hW : ∀ b ∈ W1, s0.heap.get? b = none) (hσ : (a, c) ∈ g.σ) (r : Rep s.heap Y v d) :
    ∃ v' W1, (match fl with | Flow.ret v => v | _ => Value.none) = v' ∧ (∀ a ∈ W1, s0.heap.get? a = none) ∧ Rep s.heap Y v' d ∧ Moves (W1 ++ [(a, c0)].map (·.1)) s0 s ∧ (∀ b c', (b, c') ∈ [(a, c)] → OwnIs g.C s.heap Y b c') := by
  refine ⟨v, W1, hfl, hW, r, S.mv s0 List.mem_cons_self, fun b c' h => ?_⟩
  rcases List.mem_cons.mp h with h | h
  · cases h
    exact (S.rd.own a c hσ).2.keep (fun _ e => e) (fun _ _ r => r.weak fun b hb => List.mem_append_right _ hb) fun _ _ r => r.weak fun b hb => List.mem_append_right _ hb
  · cases h

/-- effects: in an operand, in an index -/
theorem evx_add {g' : G} {l r : Expr} {pos : Pos} {a b : Int} (h1 : Ev g l (.int a)) (h2 : Evx g g' r (isD (.int b))) (hC : g'.C = g.C := by rfl) (hn : g'.n = g.n := by rfl) : Evx g g' (.BinOp l .Add r pos) (isD (.int (a + b))) := fun A env W Y B s E ha S =>
  wpAny_BinOp (wpAny_mono (h1 A env _ s E ha S.rd) (fun v1 s1 x1 => wpAny_mono (h2 A env W Y B s1 E ha (S.kp x1.2)) (fun v2 s2 x2 => by
    obtain ⟨t, rfl⟩ := rep_int x1.1
    obtain ⟨u, rfl⟩ := rep_int x2.1
    exact PyProof.Rows.add_int ⟨.int _ _, x2.2.1.kp (Kp.tok _ _), ((x1.2.moves W).trans x2.2.2).trans ((Kp.tok _ _).moves W)⟩) fun _ _ x => x) fun _ _ x => x)
theorem evx_itemT {g' : G} {value slice : Expr} {pos : Pos} {i : Int} {ds : List D} {d : D} (h1 : Ev g value (.tup ds)) (h2 : Evx g g' slice (isD (.int i))) (h0 : 0 ≤ i) (hd : ds[i.toNat]? = some d) (hfit : i < 2 ^ 63)
    (hs : plainSub slice := by intro _ _; with_unfolding_all rfl) : Evx g g' (.Subscript value slice pos) (isD d) := fun A env W Y B s E ha S =>
  Subscript_ (wpAny_mono (h1 A env _ s E ha S.rd) (fun o s1 x1 => wpAny_mono (h2 A env W Y B s1 E ha (S.kp x1.2)) (fun i' s2 x2 => by
    obtain ⟨t, rfl⟩ := rep_int x2.1
    have hv := x1.1.kept x2.2.2.kept (fun b hb => List.mem_append_left _ hb)
    obtain ⟨a, vs, n, rfl, hx, hg, hi⟩ := rep_tup hv
    obtain ⟨x, hx, hx'⟩ := hi.get hd
    have htt : IsTup s2.heap a vs.toArray := ⟨_, hg, rfl, n, rfl⟩
    have hlt : i.toNat < vs.length := (List.getElem?_eq_some_iff.mp hx).1
    exact item_tupleT htt (by lia) hfit (j := i.toNat) (by
      simp only [seqIndex?]
      have e1 : ¬ (i < 0) := by lia
      simp only [e1, if_false]
      first
        | (rw [if_pos (by lia)])
        | simp; lia) hx ⟨hx', x2.2.1, (x1.2.moves W).trans x2.2.2⟩ (hs _ _)) fun _ _ x => x) fun _ _ x => x)

/-- x, y = e, e changing own lists -/
theorem st_tupleX {C : Cx} {g' : G} (xs : List (Str × Pos)) {k : Nat} {tp pos : Pos} {e : Expr} {ds : List D} (S : St g env W Y B s) (ha : AOk g.n A) (he : Evx g g' e (isD (.tup ds))) (hl : xs.length = ds.length) (hk : ∀ x ∈ xs, kindOk g' x.1)
    (kont : ∀ s', St (g'.sets (xs.map (·.1)) ds) env W Y B s' → wpAny (modC C) A (execs rest env) Q E s')
    (hs : swapsWithSole [.Tuple (namesE xs) k tp] e pos.line env = pure false := by rfl) (hw : swappedStores [.Tuple (namesE xs) k tp] e env = pure none := by rfl) (hCe : g.C = C := by rfl) (hC' : g'.C = C := by rfl) :
    wpAny (modC C) A (execs (.Assign [.Tuple (namesE xs) k tp] e pos :: rest) env) Q E s := by
  subst hCe
  refine wpAny_execs_cons (Assign_Tuple (wpAny_mono (he A env W Y B s E ha S) (fun v s1 x1 => ?_) fun _ _ x => x) hs hw)
  have := assignTuple (g := g') (A := A) (E := E) (Q := fun _ s' => wpAny (modC g.C) A (execs rest env) Q E s') xs x1.2.1 ha.hh (k := k) (tp := tp) x1.1 hl hk fun s' S' => kont s' S'
  unfold mod at this
  rw [hC'] at this
  exact this

/-- for x in range(1 + draw) .. : the iterable changes own lists -/
noncomputable def Srcx (g g' : G) (e : Expr) (ds : List D) (okT : Expr → Prop) : Prop := ∀ (A : Around) (env : Env) (W Y : List Addr) (B : List Shared) (s : Shared) (E : Value → Shared → Prop), AOk g.n A → St g env W Y B s →
  wpAny (mod g) A (eval e env) (fun xv s₁ => St g' env W Y B s₁ ∧ wpAny (mod g) A (pyIter xv) (fun it s₂ => Kp s₁ s₂ ∧ ∃ (I : Addr) (its : List Addr) (st : List Addr → Nat → Heap → Prop), it = .ref I ∧ (∀ a ∈ its, s₁.heap.get? a = none ∧ ∃ o, s₂.heap.get? a = some o) ∧
    ∀ X', (∀ a ∈ its, a ∈ X') → (∀ a ∈ X', a ∈ W ++ Y ∨ a ∈ its ∨ s₂.heap.get? a = none) → st X' 0 s₂.heap ∧ Itr g.C A X' I its ds okT (st X')) E s₁) E s
theorem srcx_range1 {g' : G} {p pos : Pos} {e : Expr} {b : Int} {k : Nat} (h : Evx g g' e (isD (.int b))) (hk : b.toNat = k) (hb : b.natAbs < 2 ^ 40) (hg : g.ns.lookup ("range" : Str) = some .globalImplicit := by rfl)
    (he : ∀ env, starEach [e] env = (false, eval e env) :: starEach [] env := by intro env; rfl) : Srcx g g' (.Call (.Name "range" p) [e] [] pos) (rangeD 0 k) okName := fun A env W Y B s E ha S =>
  Call_Name rfl (name_builtin S.rd hg (by decide) boot_range (by decide) (PyProof.Rows.callWith_type1 (wpAny_items_cons (wpAny_mono (h A env W Y B s E ha S) (fun v s1 x1 => wpAny_items_nil (by
    obtain ⟨t, rfl⟩ := rep_int x1.1
    refine call_range_1 ⟨x1.2.1.kp (Kp.push _ _ _), range_itr (g := g) ha.hh (Kp.refl _) (IsRange.new _ _ _ _ _ _ _) (by lia) (by decide) hb⟩)) fun _ _ x => x) (he env)) (he env)))
theorem st_forX {C : Cx} {g' : G} {target iter : Expr} {body : List Stmt} {pos : Pos} {ds : List D} {okT : Expr → Prop} (S : St g env W Y B s) (ha : AOk g.n A) (hs : Srcx g g' iter ds okT) (hC' : g'.C = g.C) (hn' : g'.n = g.n) (ht : okT target) (γ : Nat → G) (hC : ∀ i, (γ i).C = g.C)
    (h0 : ∀ Y' s', St g' env W Y' B s' → St (γ 0) env W Y' B s')
    (hb : ∀ i d, ds[i]? = some d → ∃ γ', γ'.C = g.C ∧ Tgt (γ i) target d γ' ∧ ∀ Y' B' s' E', St γ' env W Y' B' s' →
      wpAny (modC C) A (execs body env) (fun f s'' => f = .next ∧ St (γ (i + 1)) env W Y' B' s'') E' s')
    (k : ∀ s', St (γ ds.length) env W Y B s' → wpAny (modC C) A (execs rest env) Q E s')
    (hfs : ∀ x, foldedSetIterable iter env x = pure x := by intro _; rfl) (hCe : g.C = C := by rfl) :
    wpAny (modC C) A (execs (.For target iter body [] pos :: rest) env) Q E s := by
  subst hCe
  refine wpAny_execs_cons (wpAny_For (wpAny_mono (hs A env W Y B s E ha S) (fun xv s1 x1 => wpAny_mono x1.2 (fun it s2 x2 => ?_) fun _ _ x => x) fun _ _ x => x) hfs)
  obtain ⟨k2, I, its, st, rfl, hi, hX⟩ := x2
  have e1 : mod g' = mod g := by unfold mod; rw [hC']
  have key := for_core (g := g') (A := A) (E := E) (Q := Q) (rest := rest) (iter := iter) (target := target) (body := body) x1.1 (by rw [hn']; exact ha) ht γ (fun i => (hC i).trans hC'.symm) (fun _ _ => False) (fun _ => True) trivial h0
    (fun i d hd _ => let ⟨γ', h1, h2, h3⟩ := hb i d hd; ⟨γ', h1.trans hC'.symm, h2, fun Y' B' s' E' S' => by
      rw [e1]
      exact wpAny_mono (h3 Y' B' s' E' S') (fun f s'' x => .inl ⟨x.1, trivial, x.2⟩) fun _ _ x => x⟩) (fun _ _ _ _ _ h => h.elim) (fun s' _ S' => by rw [e1]; exact k s' S') k2 hi (by rw [hC']; exact hX)
  rw [e1] at key
  exact key

/-- x.append(e), e changing own lists -/
theorem st_appendX {C : Cx} {x : Str} {p ap cp pos : Pos} {e : Expr} {a : Addr} {ds : List D} {σ σ' : List (Addr × Own)} {d : D} (S : St (g.own ((a, .list ds) :: σ)) env W Y B s) (ha : AOk g.n A) (hne : ∀ p ∈ σ', p.1 ≠ a)
    (hx : Ev (g.own ((a, .list ds) :: σ)) (.Name x p) (.own a)) (he : Evx (g.own ((a, .list ds) :: σ)) (g.own ((a, .list ds) :: σ')) e (isD d)) (hsz : ds.length ≤ 16777216)
    (k : ∀ s', St (g.own ((a, .list (ds ++ [d])) :: σ')) env W Y B s' → wpAny (modC C) A (execs rest env) Q E s')
    (htrees : ∀ env, starEach [e] env = (false, eval e env) :: starEach [] env := by intro env; rfl) (hline : (ap.endLine == cp.line) = true := by rfl) (hCe : g.C = C := by rfl) :
    wpAny (modC C) A (execs (.Expr (.Call (.Attribute (.Name x p) "append" ap) [e] [] cp) pos :: rest) env) Q E s := by
  subst hCe
  refine wpAny_execs_cons (wpAny_Expr (wpAny_Call_append rfl (by rw [htrees]; rfl) hline (by rw [htrees]; rfl) (wpAny_mono (hx A env _ s E ha S.rd) (fun ov s1 x1 => ?_) fun _ _ x => x)) (by unfold interactive; rw [S.rd.fn]; rfl) rfl)
  have S1 := S.kp x1.2
  cases rep_own x1.1
  obtain ⟨vs, ⟨n0, e0⟩, hr⟩ := (S1.rd.own a (.list ds) List.mem_cons_self).2
  refine ⟨a, vs.toArray, rfl, ⟨_, n0, e0, rfl, rfl, rfl⟩, wpAny_mono (he A env W Y B s1 E ha S1) (fun y s2 x2 => ?_) fun _ _ x => x⟩
  have S2 := x2.2.1
  obtain ⟨vs, ⟨n2, e2⟩, hr2⟩ := (S2.rd.own a (.list ds) List.mem_cons_self).2
  refine wpAny_list_append_plain (items := vs.toArray) ⟨n2, e2⟩ (fun h' hl hs => ?_) (by rw [List.size_toArray, hr2.length]; exact hsz)
  have hl' : h'.PlainList a (vs ++ [y]).toArray := by simpa using hl
  exact k _ (S2.setOwn (g := g) (tk := s2.toks) hne hs hl' (hr2.append (.one x2.1)))

/-- a call for its effect alone -/
theorem st_callX {C : Cx} {g' : G} {f : Str} {p cp pos : Pos} {es : List Expr} (S : St g env W Y B s) (ha : AOk g.n A) (he : Evx g g' (.Call (.Name f p) es [] cp) (isD .none))
    (k : ∀ s', St g' env W Y B s' → wpAny (modC C) A (execs rest env) Q E s') (hCe : g.C = C := by rfl) :
    wpAny (modC C) A (execs (.Expr (.Call (.Name f p) es [] cp) pos :: rest) env) Q E s := by
  subst hCe
  refine wpAny_execs_cons (wpAny_Expr (wpAny_mono (he A env W Y B s E ha S) (fun v s1 x1 => ?_) fun _ _ x => x) (by unfold interactive; rw [S.rd.fn]; rfl) rfl)
  cases rep_none x1.1
  exact k s1 x1.2.1

/-- [elt for x in iter], elt changing one own list -/
theorem evx_comp1 {elt iter : Expr} {x : Str} {px pos : Pos} {scope : Scope} {ds out : List D} {a : Addr} {c : Nat → Own} {σ : List (Addr × Own)} (hs : Src (g.own ((a, c 0) :: σ)) iter ds okName) (ok : ScOk (g.own ((a, c 0) :: σ)) scope) (hx : lc scope x) (hlen : ds.length ≤ 16777216) (hl : out.length = ds.length) (hne : ∀ p ∈ σ, p.1 ≠ a)
    (he : ∀ (i : Nat) (d d' : D), ds[i]? = some d → out[i]? = some d' → Evx (((cg g scope).own [(a, c i)]).set x d) (((cg g scope).own [(a, c (i + 1))]).set x d) elt (isD d'))
    (hfs : ∀ env x, foldedSetIterable iter env x = pure x := by intro _ _; rfl) : Evx (g.own ((a, c 0) :: σ)) (g.own ((a, c ds.length) :: σ)) (.ListComp elt [⟨.Name x px, iter, [], 0⟩] scope pos) (isD (.list out)) := fun A env W Y B s E ha S => by
  have haW : a ∈ W := (S.ow a (c 0) List.mem_cons_self).1
  refine comp_core (g := g.own ((a, c 0) :: σ)) (Wb := [a]) ha S.rd (fun b h => by rw [List.mem_singleton.mp h]; exact List.mem_append_left _ haW) ok hs ⟨x, px, rfl⟩ hlen (fun i => (cg g scope).own [(a, c i)]) (fun _ => rfl) rfl (cg_cap (g := g)) (fun b c' h => by
      rcases List.mem_cons.mp h with h | h
      · cases h; exact ⟨List.mem_cons_self, List.mem_cons_self⟩
      · cases h) (fun i => out.take i) (by simp)
    (fun i d hd => ⟨((cg g scope).own [(a, c i)]).set x d, rfl, tgt_name hx, fun env' W' Y' B' s' E' S' => tests_nil (by
      have hi : i < out.length := by rw [hl]; exact (List.getElem?_eq_some_iff.mp hd).1
      simp only [if_true]
      refine wpAny_mono (he i d _ hd (List.getElem?_eq_getElem hi) A env' W' Y' B' s' E' ha S') (fun v s3 x3 => ⟨_, x3.1, by rw [List.take_succ_eq_append_getElem hi], set_sub x3.2.1 (cg_none (g := g) hx)⟩) fun _ _ x => x)⟩)
    (fun Ac vs s' h1 h2 h3 h4 h5 => ?_) (hfs env)
  rw [← hl, List.take_length] at h3
  refine ⟨comp_rep S.rd h1 h2 h3, S.setOwnM hne h4 (h5 a _ List.mem_cons_self), h4.weak fun b h => by rw [List.mem_singleton.mp h]; exact haW⟩
end
end Mine
end
section
open PySem PySem.Calls PyProof.Rows
set_option linter.unusedVariables false
set_option maxRecDepth 100000
namespace Mine
section
variable {g : G} {A : Around} {env : Env} {W Y : List Addr} {B : List Shared} {s : Shared} {E : Value → Shared → Prop} {Q : Flow → Shared → Prop} {rest : List Stmt}

theorem assign_item {x i : Expr} {p : Pos} {a : Addr} {ds : List D} {σ : List (Addr × Own)} {d : D} {v : Value} {n : Nat} {Q : Unit → Shared → Prop} (S : St (g.own ((a, .list ds) :: σ)) env W Y B s) (ha : AOk g.n A) (hne : ∀ p ∈ σ, p.1 ≠ a) (hv : Rep s.heap (W ++ Y) v d)
    (hx : Ev (g.own ((a, .list ds) :: σ)) x (.own a)) (hi : Ev (g.own ((a, .list ds) :: σ)) i (.int n)) (hn : n < ds.length) (hsz : ds.length ≤ 16777216)
    (k : ∀ s', St (g.own ((a, .list (ds.set n d)) :: σ)) env W Y B s' → Moves W s s' → Q () s') : wpAny (mod g) A (assign (.Subscript x i p) env v) Q E s := by
  rw [assign_Subscript]
  refine wpAny_bind (wpAny_holding (wpAny_mono (hx A env _ s E ha S.rd) (fun ov s2 x2 => ?_) fun _ _ x => x))
  have S2 := S.kp x2.2
  refine wpAny_bind (wpAny_holding (wpAny_mono (hi A env _ s2 E ha S2.rd) (fun iv s3 x3 => ?_) fun _ _ x => x))
  have S3 := S2.kp x3.2
  cases rep_own x2.1
  obtain ⟨t, rfl⟩ := rep_int x3.1
  obtain ⟨vs, ⟨n0, e0⟩, hr⟩ := (S3.rd.own a (.list ds) List.mem_cons_self).2
  refine wpAny_bind (wpAny_standAt (wpAny_bind (wpAny_holding (setSeq (M := mod g) e0 (by omega) (by rw [hr.length]; simpa using hn) (by omega) fun h' hs hl => ?_))))
  have haW : a ∈ W := (S3.ow a (.list ds) List.mem_cons_self).1
  have mv : Moves W s { s3 with heap := h' } := ((x2.2.trans x3.2).moves W).trans ⟨⟨_, _, rfl⟩, (Kept.sameBut hs (let ⟨n, e⟩ := hl; ⟨_, e⟩)).weak fun b hb => by rw [List.mem_singleton.mp hb]; exact haW⟩
  refine wpAny_release (k _ ?_ mv)
  exact S3.setOwn (g := g) (tk := s3.toks) hne hs hl ((hr.set n (hv.ext (x2.2.trans x3.2).ext)))

/-- x[m], x[n] = e1, e2 -/
theorem st_swapItems {C : Cx} {x1 i1 x2 i2 e1 e2 : Expr} {p1 p2 tp vp pos : Pos} {k k' : Nat} {a : Addr} {ds : List D} {σ : List (Addr × Own)} {d1 d2 : D} {m n : Nat} (S : St (g.own ((a, .list ds) :: σ)) env W Y B s) (ha : AOk g.n A) (hne : ∀ p ∈ σ, p.1 ≠ a)
    (h1 : Ev (g.own ((a, .list ds) :: σ)) e1 d1) (h2 : Ev (g.own ((a, .list ds) :: σ)) e2 d2)
    (hx1 : Ev (g.own ((a, .list ds) :: σ)) x1 (.own a)) (hi1 : Ev (g.own ((a, .list ds) :: σ)) i1 (.int m)) (hx2 : ∀ ds', Ev (g.own ((a, .list ds') :: σ)) x2 (.own a)) (hi2 : ∀ ds', Ev (g.own ((a, .list ds') :: σ)) i2 (.int n)) (hm : m < ds.length) (hn : n < ds.length) (hsz : ds.length ≤ 16777216)
    (kont : ∀ s', St (g.own ((a, .list ((ds.set m d1).set n d2)) :: σ)) env W Y B s' → wpAny (modC C) A (execs rest env) Q E s')
    (hs : swapsWithSole [.Tuple [.Subscript x1 i1 p1, .Subscript x2 i2 p2] k tp] (.Tuple [e1, e2] k' vp) pos.line env = pure false := by rfl) (hw : swappedStores [.Tuple [.Subscript x1 i1 p1, .Subscript x2 i2 p2] k tp] (.Tuple [e1, e2] k' vp) env = pure none)
    (he1 : ∀ env, starEach [e1, e2] env = (false, eval e1 env) :: starEach [e2] env := by intro env; rfl) (he2 : ∀ env, starEach [e2] env = (false, eval e2 env) :: starEach [] env := by intro env; rfl) (hCe : g.C = C := by rfl) :
    wpAny (modC C) A (execs (.Assign [.Tuple [.Subscript x1 i1 p1, .Subscript x2 i2 p2] k tp] (.Tuple [e1, e2] k' vp) pos :: rest) env) Q E s := by
  subst hCe
  refine wpAny_execs_cons (Assign_Tuple (wpAny_mono ((ev_tup (ds := [d1, d2]) (evs_cons h1 (evs_cons h2 evs_nil he2) he1) (Nat.le_of_ble_eq_true rfl)) A env _ s E ha S.rd) (fun v s1 x1' => ?_) fun _ _ x => x) hs hw)
  obtain ⟨T, vs, nn, rfl, hTX, hTg, hTr⟩ := rep_tup x1'.1
  have S1 := S.kp x1'.2
  refine wpAny_assign_Tuple ha.hh (items := vs.toArray) ⟨_, hTg, rfl, nn, rfl⟩ (by rw [List.size_toArray, hTr.length]; rfl) rfl fun h' he => ?_
  have kk : Kp s1 { s1 with heap := h' } := Kp.of (extBut_ext he)
  have S2 := S1.kp kk
  have hr2 := hTr.ext kk.ext
  cases hr2 with
  | @cons v1 _ vs1 _ r1 rs =>
    cases rs with
    | @cons v2 _ vs2 _ r2 rs2 =>
      cases rs2
      show wpAny _ A (do holding [v2] (assign (.Subscript x1 i1 p1) env v1); assignInOrder [assign (.Subscript x2 i2 p2) env] [v2]) _ _ _
      refine wpAny_bind (wpAny_holding (assign_item S2 ha hne r1 hx1 hi1 hm hsz fun s3 S3 m3 => ?_))
      show wpAny _ A (do holding [] (assign (.Subscript x2 i2 p2) env v2); assignInOrder [] []) _ _ _
      refine wpAny_bind (wpAny_holding (assign_item S3 ha hne (r2.kept m3.kept fun b hb => List.mem_append_left _ hb) (hx2 _) (hi2 _) (by simpa using hn) (by simpa using hsz) fun s4 S4 m4 => ?_))
      exact wpAny_pure (kont s4 S4)

theorem noswap {env : Env} {x1 i1 x2 i2 e1 e2 : Expr} {p1 p2 tp vp : Pos} {k k' : Nat} (hb : env.scope.kind = .function) (hs : ([e1, e2].any fun | .Starred .. => true | _ => false) = false := by rfl) :
    swappedStores [.Tuple [.Subscript x1 i1 p1, .Subscript x2 i2 p2] k tp] (.Tuple [e1, e2] k' vp) env = pure none := by
  have h1 : (env.blockKind != .function) = false := by rw [blockKind_fn hb]; rfl
  unfold swappedStores
  show (if (!([Expr.Subscript x1 i1 p1, Expr.Subscript x2 i2 p2].length == 2 || [Expr.Subscript x1 i1 p1, Expr.Subscript x2 i2 p2].length == 3) || [e1, e2].length != [Expr.Subscript x1 i1 p1, Expr.Subscript x2 i2 p2].length || env.blockKind != .function) = true then pure none else _) = _
  rw [h1, if_neg (by simp)]
  show (if ([e1, e2].any fun | .Starred .. => true | _ => false) = true then pure none else _) = _
  rw [hs, if_neg (by simp)]
  rfl
end
end Mine
end
section
open PySem PySem.Calls PyProof.Rows
set_option linter.unusedVariables false
set_option maxRecDepth 100000
namespace Mine

/-- an iterator within a zip -/
structure Nxt (prog : Program) (w : World) (A : Around) (it l : Addr) (items : Array Value) (st : Nat → Heap → Prop) : Prop where
  frame : ∀ i h h', st i h → (∀ b, b = it ∨ b = l → ∀ o, h.get? b = some o → h'.get? b = some o) → st i h'
  alive : ∀ i h, st i h → ∃ o, h.get? it = some o
  item : ∀ i x (s : Shared) (Q : Value → Shared → Prop) (E : Value → Shared → Prop), st i s.heap → items[i]? = some x → (∀ h', st (i + 1) h' → Heap.SameBut it s.heap h' → Q x { s with heap := h' }) → wpAny (model prog w) A (Builtin.SmallTypes.nextOf (.ref it)) Q E s
  fin : ∀ i (s : Shared) (Q : Value → Shared → Prop) (E : Value → Shared → Prop), st i s.heap → items[i]? = none → (∀ h' e, Heap.ExtBut it s.heap h' → (∃ o, h'.get? e = some o ∧ o.cls = .type "StopIteration") → E (.ref e) { s with heap := h' }) → wpAny (model prog w) A (Builtin.SmallTypes.nextOf (.ref it)) Q E s

section
variable {prog : Program} {w : World} {A : Around}
theorem nxt_list (hh : A.handled = none) {it l : Addr} (hne : l ≠ it) (items : Array Value) : Nxt prog w A it l items (fun i h => h.IsListIter it l i ∧ h.IsList l items) where
  frame := fun i h h' st k => ⟨st.1.at fun o e => k _ (.inl rfl) o e, st.2.at fun o e => k _ (.inr rfl) o e⟩
  alive := fun i h st => lit_alive st.1
  item := fun i x s Q E st hx k => wpAny_nextOf_list_item st.1 st.2 hx fun h' a b => k h' ⟨a, st.2.extBut b.extBut hne⟩ b
  fin := fun i s Q E st hx k => wpAny_nextOf_list_end hh st.1 st.2 hx k
theorem nxt_tuple (hh : A.handled = none) {it l : Addr} (hne : l ≠ it) (items : Array Value) : Nxt prog w A it l items (fun i h => h.IsTupleIter it l i ∧ h.IsTuple l items) where
  frame := fun i h h' st k => ⟨st.1.at fun o e => k _ (.inl rfl) o e, st.2.at fun o e => k _ (.inr rfl) o e⟩
  alive := fun i h st => let ⟨o, ho, _⟩ := st.1; ⟨o, ho⟩
  item := fun i x s Q E st hx k => by
    obtain ⟨o, ho, hc, hd⟩ := id st.1
    obtain ⟨ol, hol, _, nl, hdl⟩ := id st.2
    unfold Builtin.SmallTypes.nextOf
    refine wpAny_bind (wpAny_callSpecial?_slot (name := Str.ofString "__next__") st.1.typeIs F.slot_tuple_iterator_next
      (wpAny_call_entry F.slot_tuple_iterator_next st.1.typeIs F.entry_tuple_iterator_next ?_ (F.args_tuple_iterator_next_1 _)))
    show wpAny _ _ (field (.ref it) 0 >>= _) _ _ s
    refine wpAny_bind (wpAny_field ho hd (x := .ref l) rfl ?_)
    show wpAny _ _ (if (Value.ref l == Value.none) = true then _ else _) _ _ s
    rw [if_neg (show ¬ ((Value.ref l == Value.none) = true) from Bool.false_ne_true)]
    show wpAny _ _ (field (.ref it) 1 >>= _) _ _ s
    refine wpAny_bind (wpAny_field ho hd (x := .int i 0) rfl ?_)
    show wpAny _ _ (seqItems? (.ref l) >>= _) _ _ s
    refine wpAny_bind (wpAny_seqItems hol hdl ?_)
    simp only [Int.toNat_natCast, hx]
    refine wpAny_bind (wpAny_setField ho hd (by simp) (wpAny_pure ⟨x, rfl, wpAny_pure (k _ ⟨⟨_, Heap.get?_update_self _ ho (Obj.isFreed_of_fields (Obj.data_mapFields hd _)), (Obj.cls_mapFields ..).trans hc, ?_⟩, st.2.extBut (Heap.SameBut.update ..).extBut hne⟩ (Heap.SameBut.update ..))⟩))
    rw [Obj.data_mapFields hd]; simp [rawInt]
  fin := fun i s Q E st hx k => by
    obtain ⟨o, ho, hc, hd⟩ := id st.1
    obtain ⟨ol, hol, _, nl, hdl⟩ := id st.2
    unfold Builtin.SmallTypes.nextOf
    refine wpAny_bind (wpAny_callSpecial?_slot (name := Str.ofString "__next__") st.1.typeIs F.slot_tuple_iterator_next
      (wpAny_call_entry F.slot_tuple_iterator_next st.1.typeIs F.entry_tuple_iterator_next ?_ (F.args_tuple_iterator_next_1 _)))
    show wpAny _ _ (field (.ref it) 0 >>= _) _ _ s
    refine wpAny_bind (wpAny_field ho hd (x := .ref l) rfl ?_)
    show wpAny _ _ (if (Value.ref l == Value.none) = true then _ else _) _ _ s
    rw [if_neg (show ¬ ((Value.ref l == Value.none) = true) from Bool.false_ne_true)]
    show wpAny _ _ (field (.ref it) 1 >>= _) _ _ s
    refine wpAny_bind (wpAny_field ho hd (x := .int i 0) rfl ?_)
    show wpAny _ _ (seqItems? (.ref l) >>= _) _ _ s
    refine wpAny_bind (wpAny_seqItems hol hdl ?_)
    simp only [Int.toNat_natCast, hx]
    refine wpAny_bind (wpAny_rule (wpAny_bind (wpAny_setField ho hd (by simp) ?_)))
    show wpAny _ _ (newExc (.type "StopIteration") [] >>= _) _ _ _
    refine wpAny_bind ?_
    simp only [newExc, newTuple]
    refine wpAny_bind (wpAny_newObj_type ?_ (by size_fits))
    refine wpAny_bind (m := firstArgMember _ _) (wpAny_of_eq (a := Value.none) (by first | rfl | (simp only [firstArgMember]; rfl)) ?_)
    refine wpAny_newObj_type ?_ (by size_fits)
    simp only [raiseNew]
    refine wpAny_bind (wpAny_handled ?_)
    first | rw [show A.in1.handled = none from hh] | rw [hh]
    refine wpAny_bind (wpAny_pure (wpAny_throw ?_))
    exact k _ _ (((Heap.SameBut.update ..).extBut.push _).push _) ⟨_, Heap.get?_push_size _ rfl, rfl⟩

/-- what the parts of a zip lie apart from -/
structure ZA (z TI TO i1 i2 l1 l2 : Addr) : Prop where
  TIz : TI ≠ z
  TOz : TO ≠ z
  i1z : i1 ≠ z
  i2z : i2 ≠ z
  TITO : TI ≠ TO
  TIi1 : TI ≠ i1
  TIi2 : TI ≠ i2
  TOi1 : TO ≠ i1
  TOi2 : TO ≠ i2
  i12 : i1 ≠ i2
  l1 : l1 ≠ z ∧ l1 ≠ TO ∧ l1 ≠ i1 ∧ l1 ≠ i2
  l2 : l2 ≠ z ∧ l2 ≠ TO ∧ l2 ≠ i1 ∧ l2 ≠ i2

theorem Nxt.but {it l : Addr} {items : Array Value} {st : Nat → Heap → Prop} (N : Nxt prog w A it l items st) {i : Nat} {h h' : Heap} {b : Addr} (x : st i h) (k : Heap.ExtBut b h h') (h1 : it ≠ b) (h2 : l ≠ b) : st i h' :=
  N.frame i h h' x fun c hc o e => k c o (by rcases hc with rfl | rfl; exact h1; exact h2) e

theorem zipG_item {E : Value → Shared → Prop} {s : Shared} {z TI TO i1 i2 l1 l2 : Addr} {k1 k2 : Nat} {xs ys : Array Value} {x y a b : Value} {st1 st2 : Nat → Heap → Prop} {Q : Option Value → Shared → Prop} (D : ZA z TI TO i1 i2 l1 l2)
    (N1 : Nxt prog w A.in1 i1 l1 xs st1) (N2 : Nxt prog w A.in1 i2 l2 ys st2)
    (hz : IsZip s.heap z TI TO .none) (hTI : IsPair s.heap TI (.ref i1) (.ref i2)) (hTO : IsPair s.heap TO a b)
    (h1 : st1 k1 s.heap) (h2 : st2 k2 s.heap) (hx : xs[k1]? = some x) (hy : ys[k2]? = some y)
    (hQ : ∀ h', IsZip h' z TI TO (rawInt s.heap.objs.size) → IsPair h' TO x y → st1 (k1 + 1) h' → st2 (k2 + 1) h' → IsPair h' s.heap.objs.size x y →
      (∀ c o, c ≠ z → c ≠ TO → c ≠ i1 → c ≠ i2 → s.heap.get? c = some o → h'.get? c = some o) → Q (some (.ref s.heap.objs.size)) { s with heap := h' }) :
    wpAny (model prog w) A (pyNext (.ref z)) Q E s := by
  have hT : s.TypeIs (.ref z) "zip" := ⟨_, hz, rfl⟩
  unfold pyNext
  refine wpAny_bind (wpAny_attempt (wpAny_callSpecial?_slot (name := Str.ofString "__next__") hT F.slot_zip_next (wpAny_call_entry F.slot_zip_next hT F.entry_zip_next ?_ (F.args_zip_next_1 _))))
  show wpAny _ _ (field (.ref z) 2 >>= _) _ _ _
  refine wpAny_bind (wpAny_field hz rfl (x := .bool false) rfl ?_)
  show wpAny _ _ (field (.ref z) 3 >>= _) _ _ _
  refine wpAny_bind (wpAny_field hz rfl (x := .ref TI) rfl (wpAny_bind (wpAny_seqItems hTI rfl ?_)))
  show wpAny _ _ (Builtin.SmallTypes.ownedTupleIsFree (.ref z) >>= _) _ _ _
  refine wpAny_bind ?_
  unfold Builtin.SmallTypes.ownedTupleIsFree
  refine wpAny_bind (wpAny_field hz rfl (x := .none) rfl (wpAny_pure ?_))
  simp only [if_true]
  refine wpAny_bind (wpAny_rule (wpAny_bind (wpAny_field hz rfl (x := .ref TO) rfl (wpAny_bind (wpAny_setField_rec hz (by simp) fun g1 hz1 hs1 => ?_)))))
  replace hz1 : IsZip g1 z TI TO .ellipsis := hz1
  refine wpAny_bind ?_
  simp only [List.zipIdx_cons, List.zipIdx_nil, List.forIn_cons, List.forIn_nil]
  refine wpAny_bind (wpAny_bind (wpAny_onRaise ?_))
  show wpAny _ _ (Builtin.SmallTypes.nextOf (.ref i1) >>= _) _ _ _
  refine wpAny_bind (N1.item k1 x _ _ _ (N1.but h1 hs1.extBut D.i1z D.l1.1) hx fun g2 n2 hs2 => wpAny_pure ?_)
  have pTO2 : IsPair g2 TO a b := hs2.extBut _ _ D.TOi1 (hs1.extBut _ _ D.TOz hTO)
  refine wpAny_bind (wpAny_seqItems pTO2 rfl (wpAny_bind (wpAny_updateSeq_pair pTO2 fun g3 pTO3 hs3 => ?_)))
  replace pTO3 : IsPair g3 TO x b := pTO3
  refine wpAny_bind (wpAny_letGo (wpAny_pure ?_))
  refine wpAny_bind (wpAny_bind (wpAny_onRaise ?_))
  show wpAny _ _ (Builtin.SmallTypes.nextOf (.ref i2) >>= _) _ _ _
  have st2' : st2 k2 g3 := N2.but (N2.but (N2.but h2 hs1.extBut D.i2z D.l2.1) hs2.extBut D.i12.symm D.l2.2.2.1) hs3.extBut D.TOi2.symm D.l2.2.1
  refine wpAny_bind (N2.item k2 y _ _ _ st2' hy fun g4 n4 hs4 => wpAny_pure ?_)
  have pTO4 : IsPair g4 TO x b := hs4.extBut _ _ D.TOi2 pTO3
  refine wpAny_bind (wpAny_seqItems pTO4 rfl (wpAny_bind (wpAny_updateSeq_pair pTO4 fun g5 pTO5 hs5 => ?_)))
  replace pTO5 : IsPair g5 TO x y := pTO5
  refine wpAny_bind (wpAny_letGo (wpAny_pure (wpAny_pure ?_)))
  refine wpAny_bind (wpAny_seqItems pTO5 rfl (wpAny_bind (wpAny_newTuple ?_)))
  have hsz : g5.objs.size = s.heap.objs.size := by rw [hs5.1, hs4.1, hs3.1, hs2.1, hs1.1]
  have hz5 : IsZip g5 z TI TO .ellipsis := hs5.extBut _ _ D.TOz.symm (hs4.extBut _ _ D.i2z.symm (hs3.extBut _ _ D.TOz.symm (hs2.extBut _ _ D.i1z.symm hz1)))
  have hk5 : ∀ c o, c ≠ z → c ≠ TO → c ≠ i1 → c ≠ i2 → s.heap.get? c = some o → g5.get? c = some o := fun c o c1 c2 c3 c4 e =>
    hs5.extBut _ _ c2 (hs4.extBut _ _ c4 (hs3.extBut _ _ c2 (hs2.extBut _ _ c3 (hs1.extBut _ _ c1 e))))
  have n15 : st1 (k1 + 1) g5 := N1.but (N1.but (N1.but n2 hs3.extBut D.TOi1.symm D.l1.2.1) hs4.extBut D.i12 D.l1.2.2.2) hs5.extBut D.TOi1.symm D.l1.2.1
  have n25 : st2 (k2 + 1) g5 := N2.but n4 hs5.extBut D.TOi2.symm D.l2.2.1
  have hzlt : z < g5.objs.size := Heap.lt_size hz5
  show wpAny _ _ (Builtin.SmallTypes.ownedTupleHandOut (.ref z) (.ref g5.objs.size) >>= _) _ _ _
  refine wpAny_bind ?_
  unfold Builtin.SmallTypes.ownedTupleHandOut
  have hz6 : IsZip (g5.push { cls := .type "tuple", data := .seq #[x, y] }) z TI TO .ellipsis := Heap.get?_push_of_some _ hz5
  refine wpAny_bind (wpAny_setField_rec hz6 (by simp) fun g7 hz7 hs7 => ?_)
  replace hz7 : IsZip g7 z TI TO (rawInt g5.objs.size) := hz7
  refine wpAny_setField_rec hz7 (by simp) fun g8 hz8 hs8 => ?_
  replace hz8 : IsZip g8 z TI TO (rawInt g5.objs.size) := hz8
  have up : ∀ c o, c ≠ z → g5.get? c = some o → g8.get? c = some o := fun c o c1 e => hs8.extBut _ _ c1 (hs7.extBut _ _ c1 (Heap.get?_push_of_some _ e))
  have hT8 : IsPair g8 g5.objs.size x y := hs8.extBut _ _ (Nat.ne_of_gt hzlt) (hs7.extBut _ _ (Nat.ne_of_gt hzlt) (Heap.get?_push_size _ rfl))
  rw [hsz] at hz8 hT8
  refine wpAny_pure ⟨_, rfl, ?_⟩
  show wpAny _ _ (pure (some (Value.ref g5.objs.size))) _ _ _
  rw [hsz]
  exact wpAny_pure (hQ g8 hz8 (up _ _ D.TOz pTO5) (N1.frame _ _ _ n15 fun c hc o e => up c o (by rcases hc with rfl | rfl; exact D.i1z; exact D.l1.1) e) (N2.frame _ _ _ n25 fun c hc o e => up c o (by rcases hc with rfl | rfl; exact D.i2z; exact D.l2.1) e) hT8 fun c o c1 c2 c3 c4 e => up c o c1 (hk5 c o c1 c2 c3 c4 e))

theorem zipG_end {E : Value → Shared → Prop} {s : Shared} {z TI TO i1 i2 l1 l2 : Addr} {k : Nat} {xs ys : Array Value} {a b : Value} {st1 st2 : Nat → Heap → Prop} {Q : Option Value → Shared → Prop} (D : ZA z TI TO i1 i2 l1 l2)
    (N1 : Nxt prog w A.in1 i1 l1 xs st1) (N2 : Nxt prog w A.in1 i2 l2 ys st2)
    (hz : IsZip s.heap z TI TO .none) (hTI : IsPair s.heap TI (.ref i1) (.ref i2)) (hTO : IsPair s.heap TO a b)
    (h1 : st1 k s.heap) (h2 : st2 k s.heap) (hend : xs[k]? = none ∨ ys[k]? = none)
    (hQ : ∀ h', (∀ c o, c ≠ z → c ≠ TO → c ≠ i1 → c ≠ i2 → s.heap.get? c = some o → h'.get? c = some o) → Q none { s with heap := h' }) :
    wpAny (model prog w) A (pyNext (.ref z)) Q E s := by
  have hT : s.TypeIs (.ref z) "zip" := ⟨_, hz, rfl⟩
  unfold pyNext
  refine wpAny_bind (wpAny_attempt (wpAny_callSpecial?_slot (name := Str.ofString "__next__") hT F.slot_zip_next (wpAny_call_entry F.slot_zip_next hT F.entry_zip_next ?_ (F.args_zip_next_1 _))))
  show wpAny _ _ (field (.ref z) 2 >>= _) _ _ _
  refine wpAny_bind (wpAny_field hz rfl (x := .bool false) rfl ?_)
  show wpAny _ _ (field (.ref z) 3 >>= _) _ _ _
  refine wpAny_bind (wpAny_field hz rfl (x := .ref TI) rfl (wpAny_bind (wpAny_seqItems hTI rfl ?_)))
  show wpAny _ _ (Builtin.SmallTypes.ownedTupleIsFree (.ref z) >>= _) _ _ _
  refine wpAny_bind ?_
  unfold Builtin.SmallTypes.ownedTupleIsFree
  refine wpAny_bind (wpAny_field hz rfl (x := .none) rfl (wpAny_pure ?_))
  simp only [if_true]
  refine wpAny_bind (wpAny_rule (wpAny_bind (wpAny_field hz rfl (x := .ref TO) rfl (wpAny_bind (wpAny_setField_rec hz (by simp) fun g1 hz1 hs1 => ?_)))))
  replace hz1 : IsZip g1 z TI TO .ellipsis := hz1
  refine wpAny_bind ?_
  simp only [List.zipIdx_cons, List.zipIdx_nil, List.forIn_cons, List.forIn_nil]
  refine wpAny_bind (wpAny_bind (wpAny_onRaise ?_))
  show wpAny _ _ (Builtin.SmallTypes.nextOf (.ref i1) >>= _) _ _ _
  have stop : ∀ (h9 : Heap) (e : Addr), (∃ o, h9.get? e = some o ∧ o.cls = .type "StopIteration") → (∀ c o, c ≠ z → c ≠ TO → c ≠ i1 → c ≠ i2 → s.heap.get? c = some o → h9.get? c = some o) →
      wpAny (model prog w) A (do if ← isInstance (.ref e) (.type "StopIteration") then pure none else throw (.ref e)) Q E { s with heap := h9 } := fun h9 e he hk => by
    obtain ⟨o, ho, hc⟩ := he
    refine wpAny_bind (wpAny_isInstance (T := "StopIteration") (b := true) ⟨o, ho, hc⟩ isSubtype_stop ?_)
    exact wpAny_pure (hQ _ hk)
  cases hx : xs[k]? with
  | none =>
    refine wpAny_bind (N1.fin k _ _ _ (N1.but h1 hs1.extBut D.i1z D.l1.1) hx fun g2 e hs2 he => ?_)
    have hz2 : IsZip g2 z TI TO .ellipsis := hs2 _ _ D.i1z.symm hz1
    obtain ⟨oe, hoe, hce⟩ := he
    have hez : e ≠ z := fun x => by subst x; rw [hz2] at hoe; cases hoe; simp at hce
    exact wpAny_setField_rec hz2 (by simp) fun g3 _ hs3 => stop g3 e ⟨oe, hs3.extBut _ _ hez hoe, hce⟩ fun c o c1 _ c3 _ x => hs3.extBut _ _ c1 (hs2 _ _ c3 (hs1.extBut _ _ c1 x))
  | some x =>
    have hy : ys[k]? = none := by
      rcases hend with h | h
      · rw [hx] at h; cases h
      · exact h
    refine wpAny_bind (N1.item k x _ _ _ (N1.but h1 hs1.extBut D.i1z D.l1.1) hx fun g2 n2 hs2 => wpAny_pure ?_)
    have pTO2 : IsPair g2 TO a b := hs2.extBut _ _ D.TOi1 (hs1.extBut _ _ D.TOz hTO)
    refine wpAny_bind (wpAny_seqItems pTO2 rfl (wpAny_bind (wpAny_updateSeq_pair pTO2 fun g3 pTO3 hs3 => ?_)))
    refine wpAny_bind (wpAny_letGo (wpAny_pure ?_))
    refine wpAny_bind (wpAny_bind (wpAny_onRaise ?_))
    show wpAny _ _ (Builtin.SmallTypes.nextOf (.ref i2) >>= _) _ _ _
    have st2' : st2 k g3 := N2.but (N2.but (N2.but h2 hs1.extBut D.i2z D.l2.1) hs2.extBut D.i12.symm D.l2.2.2.1) hs3.extBut D.TOi2.symm D.l2.2.1
    refine wpAny_bind (N2.fin k _ _ _ st2' hy fun g4 e hs4 he => ?_)
    have hz4 : IsZip g4 z TI TO .ellipsis := hs4 _ _ D.i2z.symm (hs3.extBut _ _ D.TOz.symm (hs2.extBut _ _ D.i1z.symm hz1))
    obtain ⟨oe, hoe, hce⟩ := he
    have hez : e ≠ z := fun x => by subst x; rw [hz4] at hoe; cases hoe; simp at hce
    exact wpAny_setField_rec hz4 (by simp) fun g5 _ hs5 => stop g5 e ⟨oe, hs5.extBut _ _ hez hoe, hce⟩ fun c o c1 c2 c3 c4 x => hs5.extBut _ _ c1 (hs4 _ _ c4 (hs3.extBut _ _ c2 (hs2.extBut _ _ c3 (hs1.extBut _ _ c1 x))))
end
end Mine
end
section
open PySem PySem.Calls PyProof.Rows
set_option linter.unusedVariables false
set_option maxRecDepth 100000
namespace Mine

noncomputable abbrev zh1 (h : Heap) (l1 : Addr) : Heap := h.push { cls := .type "tuple_iterator", data := .fields #[.ref l1, .int 0 0] }
noncomputable abbrev zh2 (h : Heap) (l1 l2 : Addr) : Heap := (zh1 h l1).push { cls := .type "list_iterator", data := .fields #[.ref l2, .int 0 0] }
noncomputable abbrev zh3 (h : Heap) (l1 l2 : Addr) : Heap := (zh2 h l1 l2).push { cls := .type "tuple", data := .seq #[.ref h.objs.size, .ref (zh1 h l1).objs.size] }
noncomputable abbrev zh4 (h : Heap) (l1 l2 : Addr) : Heap := (zh3 h l1 l2).push { cls := .type "tuple", data := .seq #[.none, .none] }
noncomputable abbrev zh5 (h : Heap) (l1 l2 : Addr) : Heap := (zh4 h l1 l2).push { cls := .type "zip", data := .fields #[.none, .bool false, .bool false, .ref (zh2 h l1 l2).objs.size, .ref (zh3 h l1 l2).objs.size] }

theorem zipT_new (l1 l2 : Addr) (xs ys : Array Value) :
    Meets (Builtin.«zip.__new__» ⟨[.type "zip", .ref l1, .ref l2], []⟩) (fun _ R s => s.heap.IsTuple l1 xs ∧ s.heap.IsList l2 ys ∧ R (.ok (.ret (.ref (zh4 s.heap l1 l2).objs.size))) { s with heap := zh5 s.heap l1 l2 }) :=
  .of_wp fun prog w A R s h => by
    obtain ⟨hp, g, d, tk, os⟩ := s; obtain ⟨hl1, hl2, h⟩ := h
    have hsub := sub_zip
    have hL1 : Heap.IsTuple (Shared.heap ⟨hp, g, d, tk, os⟩) l1 xs := hl1
    have hL2 : Heap.IsList (Shared.heap ⟨hp.push { cls := .type "tuple_iterator", data := .fields #[.ref l1, .int 0 0] }, g, d, tk, os⟩) l2 ys := Heap.IsList.push hl2 _
    wp_walk using wpAny_pyIter_tuple hL1, wpAny_pyIter_list hL2
    exact ⟨_, rfl, h⟩

section
variable {g : G}
theorem src_zipT {p pos : Pos} {e1 e2 : Expr} {xs ys : List D} (h1 : Ev g e1 (.tup xs)) (h2 : Ev g e2 (.list ys)) (hg : g.ns.lookup ("zip" : Str) = some .globalImplicit := by rfl)
    (he : ∀ env, starEach [e1, e2] env = (false, eval e1 env) :: starEach [e2] env := by intro env; rfl) (he2 : ∀ env, starEach [e2] env = (false, eval e2 env) :: starEach [] env := by intro env; rfl) : Src g (.Call (.Name "zip" p) [e1, e2] [] pos) (zipD xs ys) okTup := fun A env X s E ha hr =>
  call2k hg (by decide) boot_zip (by decide) ⟨_, rfl⟩ h1 h2 (isD_stable _) ha hr (fun v v' s1 hv hv' k1 => by
    cases hv with
    | tup a vs _ n hx hg hrs =>
    cases hv' with
    | list a' vs' _ n' hx' hg' hrs' =>
    have hl : s1.heap.IsTuple a vs.toArray := ⟨_, hg, rfl, n, rfl⟩
    have hl' : s1.heap.IsList a' vs'.toArray := ⟨_, hg', rfl, n', rfl⟩
    refine callType_new PySem.F.called_zip (by decide) (PySem.F.typeCall_zip_2 _ _) (PySem.F.newCall_zip_2 _ _) (fun obj => PySem.F.args_object_init_3 obj _ _) PySem.F.entry_zip_new (zipT_new a a' vs.toArray vs'.toArray) ⟨hl, hl', ?_⟩
    obtain ⟨N, hN⟩ : ∃ N, N = s1.heap.objs.size := ⟨_, rfl⟩
    have z1 : (zh1 s1.heap a).objs.size = N + 1 := by rw [hN]; exact Heap.size_push ..
    have z2 : (zh2 s1.heap a a').objs.size = N + 2 := by rw [Heap.size_push, z1]
    have z3 : (zh3 s1.heap a a').objs.size = N + 3 := by rw [Heap.size_push, z2]
    have z4 : (zh4 s1.heap a a').objs.size = N + 4 := by rw [Heap.size_push, z3]
    have q5 : (zh5 s1.heap a a').get? (zh4 s1.heap a a').objs.size = some _ := Heap.get?_push_size _ rfl
    have q4 : (zh5 s1.heap a a').get? (zh3 s1.heap a a').objs.size = some _ := Heap.get?_push_of_some _ (Heap.get?_push_size _ rfl)
    have q3 : (zh5 s1.heap a a').get? (zh2 s1.heap a a').objs.size = some _ := Heap.get?_push_of_some _ (Heap.get?_push_of_some _ (Heap.get?_push_size _ rfl))
    have q2 : (zh5 s1.heap a a').get? (zh1 s1.heap a).objs.size = some _ := Heap.get?_push_of_some _ (Heap.get?_push_of_some _ (Heap.get?_push_of_some _ (Heap.get?_push_size _ rfl)))
    have q1 : (zh5 s1.heap a a').get? s1.heap.objs.size = some _ := Heap.get?_push_of_some _ (Heap.get?_push_of_some _ (Heap.get?_push_of_some _ (Heap.get?_push_of_some _ (Heap.get?_push_size _ rfl))))
    have hk' : Ext s1.heap (zh5 s1.heap a a') := fun c o x => Heap.get?_push_of_some _ (Heap.get?_push_of_some _ (Heap.get?_push_of_some _ (Heap.get?_push_of_some _ (Heap.get?_push_of_some _ x))))
    obtain ⟨h', hh'⟩ : ∃ h', h' = zh5 s1.heap a a' := ⟨_, rfl⟩
    rw [← hh'] at q1 q2 q3 q4 q5 hk' ⊢
    rw [z2, z3, z4] at q5
    rw [z3] at q4
    rw [z1, z2, ← hN] at q3
    rw [z1] at q2
    rw [← hN] at q1
    rw [z4]
    have w1 : IsZip h' (N + 4) (N + 2) (N + 3) .none := q5
    have w2 : IsPair h' (N + 2) (.ref N) (.ref (N + 1)) := q3
    have w3 : IsPair h' (N + 3) .none .none := q4
    have w4 : h'.IsTupleIter N a 0 := ⟨_, q1, rfl, rfl⟩
    have w5 : h'.IsListIter (N + 1) a' 0 := ⟨_, q2, rfl, rfl⟩
    refine ⟨⟨_, w1, rfl⟩, ?_⟩
    have k2 : Kp s1 { s1 with heap := h' } := Kp.of hk'
    have hdead : ∀ b, N ≤ b → s1.heap.get? b = none := fun b hb => Heap.get?_none_of_le (by rw [← hN]; exact hb)
    have halt : ∀ {b : Addr} {o : Obj}, s1.heap.get? b = some o → b < N := fun {b o} e => by rw [hN]; exact Heap.lt_size e
    have hL : a < N := halt hg
    have hL' : a' < N := halt hg'
    have lt : ∀ {b : Addr} (k : Nat), b < N → b ≠ N + k := fun k h => Nat.ne_of_lt (Nat.lt_of_lt_of_le h (Nat.le_add_right _ _))
    have AP : ZA (N + 4) (N + 2) (N + 3) N (N + 1) a a' :=
      ⟨by simp, by simp, by simp, by simp, by simp, by simp, by simp, by simp, by simp, by simp, ⟨lt 4 hL, lt 3 hL, Nat.ne_of_lt hL, lt 1 hL⟩, ⟨lt 4 hL', lt 3 hL', Nat.ne_of_lt hL', lt 1 hL'⟩⟩
    have NX1 := nxt_tuple (prog := g.C.prog) (w := g.C.w) (A := A.in1) ha.hh (it := N) (Nat.ne_of_lt hL) vs.toArray
    have NX2 := nxt_list (prog := g.C.prog) (w := g.C.w) (A := A.in1) ha.hh (it := N + 1) (lt 1 hL') vs'.toArray
    have hmem : ∀ b ∈ [N + 4, N + 2, N + 3, N, N + 1], N ≤ b := fun b hb => by simp at hb; lia
    refine wpAny_pyIter_zip w1 ⟨k1.trans k2, N + 4, [N + 4, N + 2, N + 3, N, N + 1],
      fun X' i h => (IsZip h (N + 4) (N + 2) (N + 3) .none ∧ IsPair h (N + 2) (.ref N) (.ref (N + 1)) ∧ ∃ c d, IsPair h (N + 3) c d) ∧ (h.IsTupleIter N a i ∧ h.IsTuple a vs.toArray) ∧ (h.IsListIter (N + 1) a' i ∧ h.IsList a' vs'.toArray) ∧ Reps h X' vs xs ∧ Reps h X' vs' ys, rfl, fun b hb => ?_, fun X' h1 h2 => ?_⟩
    · refine ⟨?_, ?_⟩
      · cases e : s.heap.get? b with
        | none => rfl
        | some o => exact absurd (k1.ext _ _ e) (by rw [hdead b (hmem b hb)]; simp)
      · simp at hb
        rcases hb with rfl | rfl | rfl | rfl | rfl
        · exact ⟨_, w1⟩
        · exact ⟨_, w2⟩
        · exact ⟨_, w3⟩
        · exact NX1.alive 0 _ ⟨w4, hl.at fun o e => hk' _ o e⟩
        · exact lit_alive w5
    have deadI : ∀ b ∈ [N + 4, N + 2, N + 3, N, N + 1], s1.heap.get? b = none := fun b hb => hdead b (hmem b hb)
    have haX : a ∉ X' := notin_of h2 hx (fun q => by rw [deadI _ q] at hg; cases hg) ⟨_, hk' _ _ hg⟩
    have haX' : a' ∉ X' := notin_of h2 hx' (fun q => by rw [deadI _ q] at hg'; cases hg') ⟨_, hk' _ _ hg'⟩
    refine ⟨⟨⟨w1, w2, _, _, w3⟩, ⟨w4, hl.at fun o e => hk' _ o e⟩, ⟨w5, hl'.at fun o e => hk' _ o e⟩, reps_in h2 hk' deadI hrs, reps_in h2 hk' deadI hrs'⟩, ?_, ?_, ?_, ?_⟩
    · rintro W i h h' hW hI' hk ⟨⟨q1, q2, c, d, q3⟩, q4, q5, q8, q9⟩
      refine ⟨⟨hk.2 _ _ (hI' _ (by simp)) q1, hk.2 _ _ (hI' _ (by simp)) q2, c, d, hk.2 _ _ (hI' _ (by simp)) q3⟩, NX1.frame i _ _ q4 fun b hb o e => hk.2 b o ?_ e, NX2.frame i _ _ q5 fun b hb o e => hk.2 b o ?_ e, q8.kept hk hW, q9.kept hk hW⟩
      · rcases hb with rfl | rfl
        · exact hI' _ (by simp)
        · exact fun z => haX (hW _ z)
      · rcases hb with rfl | rfl
        · exact hI' _ (by simp)
        · exact fun z => haX' (hW _ z)
    · rintro i d target s E hd ⟨es, kk, pp, rfl⟩ hO ⟨⟨q1, q2, c, d', q3⟩, q4, q5, q8, q9⟩
      obtain ⟨x, y, hx1, hy1, rfl⟩ := zipD_get hd
      obtain ⟨v, hv, hr1⟩ := q8.get hx1
      obtain ⟨v', hv', hr2⟩ := q9.get hy1
      refine zipG_item AP NX1 NX2 q1 q2 q3 q4 q5 (x := v) (y := v') (by simpa using hv) (by simpa using hv') fun h1' y1 y2 y3 y4 y5 y7 => ⟨_, rfl, fun E' => ?_⟩
      refine wpAny_letOwnedTupleGo_zip y1 fun h2' x1 x2 => ?_
      have hT : s.heap.objs.size ∉ X' := fun q => by obtain ⟨o, e⟩ := hO _ q; rw [get_size] at e; cases e
      have n2 : N + 2 ≠ N + 4 := by simp
      have n3 : N + 3 ≠ N + 4 := by simp
      have n0 : N ≠ N + 4 := by simp
      have n1 : N + 1 ≠ N + 4 := by simp
      have keep1 : ∀ b o, b ∉ [N + 4, N + 2, N + 3, N, N + 1] → s.heap.get? b = some o → h2'.get? b = some o := fun b o hb e => by
        simp at hb
        exact (x2.2 b hb.1).trans (y7 b o hb.1 hb.2.2.1 hb.2.2.2.1 hb.2.2.2.2 e)
      have w1 : IsZip h2' (N + 4) (N + 2) (N + 3) .none := x1
      have w2 : IsPair h2' (N + 2) (.ref N) (.ref (N + 1)) := (x2.2 _ n2).trans (y7 _ _ (by simp) (by simp) (by simp) (by simp) q2)
      have w3 : IsPair h2' (N + 3) v v' := (x2.2 _ n3).trans y2
      have w4 : h2'.IsTupleIter N a (i + 1) ∧ h2'.IsTuple a vs.toArray := NX1.but y3 x2.extBut n0 (lt 4 hL)
      have w5 : h2'.IsListIter (N + 1) a' (i + 1) ∧ h2'.IsList a' vs'.toArray := NX2.but y4 x2.extBut n1 (lt 4 hL')
      have m : Moves [N + 4, N + 2, N + 3, N, N + 1] s { s with heap := h2' } := by
        refine moves_of keep1 fun b hb => ?_
        simp at hb
        rcases hb with rfl | rfl | rfl | rfl | rfl
        · exact ⟨_, w1⟩
        · exact ⟨_, w2⟩
        · exact ⟨_, w3⟩
        · exact NX1.alive _ _ w4
        · exact NX2.alive _ _ w5
      have hne2 : s.heap.objs.size ≠ N + 4 := fun q => hT (h1 _ (by rw [q]; simp))
      exact ⟨.tup _ [v, v'] _ 0 hT ((x2.2 _ hne2).trans y5) (.cons (hr1.kept m.kept h1) (.cons (hr2.kept m.kept h1) .nil)),
        ⟨⟨w1, w2, _, _, w3⟩, w4, w5, m.reps h1 q8, m.reps h1 q9⟩, m⟩
    · rintro s E hO ⟨⟨q1, q2, c, d', q3⟩, q4, q5, q8, q9⟩
      have hend : vs.toArray[(zipD xs ys).length]? = none ∨ vs'.toArray[(zipD xs ys).length]? = none := by
        have e1 := q8.length
        have e2 := q9.length
        have e3 : (zipD xs ys).length = min xs.length ys.length := by simp [zipD]
        rw [e3]
        rcases Nat.le_total xs.length ys.length with h | h
        · exact .inl (Array.getElem?_eq_none (by simp; lia))
        · exact .inr (Array.getElem?_eq_none (by simp; lia))
      refine zipG_end AP NX1 NX2 q1 q2 q3 q4 q5 hend fun h' he' => ⟨rfl, ⟨_, _, rfl⟩, fun b o hb e => ?_⟩
      simp at hb
      exact he' b o hb.1 hb.2.2.1 hb.2.2.2.1 hb.2.2.2.2 e
    · rintro i s Q E ⟨⟨q1, q2, c, d', q3⟩, _⟩ h
      exact wpAny_pyIter_zip q1 h) he he2
end
end Mine
end
section
open PySem PySem.Calls PyProof.Rows
set_option linter.unusedVariables false
set_option maxRecDepth 100000
namespace Mine
noncomputable def dR (i : Nat) : DefRec := match PySem.Challenge.pw_xm0113_01.main.body[i]? with
  | some (.FunctionDef name args body _ _ _ scope _ _ pos) => ⟨name, args, body, scope, pos⟩
  | _ => ⟨"", ⟨[], [], none, [], [], none, []⟩, [], ⟨.function, [], false, false, []⟩, ⟨0, 0, 0, 0⟩⟩
noncomputable def defsL : List DefRec := [dR 1, dR 2, dR 4, dR 5, dR 6, dR 8, dR 10, dR 11, dR 12, dR 13, dR 14, dR 16, dR 17, dR 18, dR 19, dR 20, dR 21, dR 22]

structure Good (C : Cx) : Prop where
  defs : C.defs = defsL

section
variable {C : Cx}
theorem Good.mem (hC : Good C) (k : Nat) {d : DefRec} (h : defsL[k]? = some d) : d ∈ C.defs := by
  rw [hC.defs]; exact List.mem_of_getElem? h
theorem Good.fn (hC : Good C) (k : Nat) {f : Str} {d : DefRec} (h : defsL[k]? = some d) (hn : d.name = f) : ∃ d ∈ C.defs, d.name = f := ⟨d, hC.mem k h, hn⟩

theorem kinds3 {g : G} {a b c : Str × Pos} (h1 : kindOk g a.1) (h2 : kindOk g b.1) (h3 : kindOk g c.1) : ∀ x ∈ [a, b, c], kindOk g x.1 := fun x hx => by
  rcases List.mem_cons.mp hx with rfl | hx
  · exact h1
  · rcases List.mem_cons.mp hx with rfl | hx
    · exact h2
    · rw [List.mem_singleton.mp hx]; exact h3
theorem kinds2 {g : G} {a b : Str × Pos} (h1 : kindOk g a.1) (h2 : kindOk g b.1) : ∀ x ∈ [a, b], kindOk g x.1 := fun x hx => by
  rcases List.mem_cons.mp hx with rfl | hx
  · exact h1
  · rw [List.mem_singleton.mp hx]; exact h2
/-- inverse_mod over a contract of extended -/
theorem inverse_ok (hC : Good C) {n : Nat} {a m g s t : Int} (hm : m ≠ 0) (he : FnP C n ("extended" : Str) [.int (a.fmod m), .int m] (.tup [.int g, .int s, .int t])) :
    FnP C (n + 1) ("inverse_mod" : Str) [.int a, .int m] (if g = 1 then .int (s.fmod m) else .none) := by
  have h1 : ∃ d ∈ C.defs, d.name = ("extended" : Str) := hC.fn 0 rfl rfl
  refine fn_ok' (dR 2) (hC.mem 1 rfl) ["a", "m"] rfl ?_ (by decide +kernel) ?_
  · intro pm code doc vals hl
    match vals, hl with
    | [x, y], _ => rfl
  · intro A env W0 Y s0 s' E hA hW S
    refine st_tuple [("g", _), ("s", _), ("t", _)] S hA (ev_call he (evs_cons (evp_bin (ev_name rfl) (ev_name rfl) (isD_stable _) (op_mod hm)) (evs_cons (ev_name rfl) evs_nil))) rfl ?_ ?_ ?_ ?_
    · exact kinds3 (.inl rfl) (.inl rfl) (.inl rfl)
    · intro s1 S1
      refine st_ret S1 hA (P := isD (if g = 1 then .int (s.fmod m) else .none)) (ev_ife (tr_cmp (ev_name rfl) ev_int (isD_stable _) op_eq) (fun h => ?_) fun h => ?_) fun v s2 r S2 => S2.fin (by simpa using hW) r
      · rw [if_pos (by simpa using h)]
        exact evp_bin (ev_name rfl) (ev_name rfl) (isD_stable _) (op_mod hm)
      · rw [if_neg (by simpa using h)]
        exact ev_none
    · rfl
    · rfl
end
end Mine
end
section
open PySem PySem.Calls PyProof.Rows
set_option linter.unusedVariables false
set_option maxRecDepth 100000
namespace Mine
section
variable {C : Cx}
local macro_rules | `(tactic| walk_at "side") => `(tactic| first
  | decide
  | assumption
  | omega
  | (left; omega)
  | (right; omega)
  | (simp; omega)
  | (simp; done))

noncomputable abbrev I3 := Int × Int × Int
noncomputable abbrev T3 (x : I3) : D := .tup [.int x.1, .int x.2.1, .int x.2.2]
noncomputable def extStep (q : I3 × I3) : I3 × I3 := (q.2, (q.1.1 - q.1.1.fdiv q.2.1 * q.2.1, q.1.2.1 - q.1.1.fdiv q.2.1 * q.2.2.1, q.1.2.2 - q.1.1.fdiv q.2.1 * q.2.2.2))
noncomputable def extSeq (a b : Int) : Nat → I3 × I3
  | 0 => ((a, 1, 0), (b, 0, 1))
  | i + 1 => extStep (extSeq a b i)
noncomputable abbrev small3 (q : I3 × I3) : Prop := q.2.1.natAbs < 1000000 ∧ q.2.2.1.natAbs < 1000000 ∧ q.2.2.2.natAbs < 1000000

theorem ext_ok (hC : Good C) {n : Nat} {a b : Int} (N : Nat) (hs : ∀ i, i < N → small3 (extSeq a b i) ∧ (extSeq a b i).2.1 ≠ 0) (hN : (extSeq a b N).2.1 = 0) :
    FnP C (n + 1) ("extended" : Str) [.int a, .int b] (if (extSeq a b N).1.1 ≥ 0 then T3 (extSeq a b N).1 else T3 (0 - (extSeq a b N).1.1, 0 - (extSeq a b N).1.2.1, 0 - (extSeq a b N).1.2.2)) := by
  refine fn_ok' (dR 1) (hC.mem 0 rfl) ["a", "b"] rfl ?_ (by decide +kernel) ?_
  · intro pm code doc vals hl
    match vals, hl with
    | [x, y], _ => rfl
  intro A env W0 Y s0 s' E hA hW S
  refine st_tup2 S hA (d1 := T3 (a, 1, 0)) (d2 := T3 (b, 0, 1)) (ev_tup (evs_cons (ev_name rfl) (evs_cons ev_int (evs_cons ev_int evs_nil)))) (ev_tup (evs_cons (ev_name rfl) (evs_cons ev_int (evs_cons ev_int evs_nil)))) rfl rfl fun s1 S1 => ?_
  refine st_while S1 hA (fun i => ⟨C, n, (dR 1).scope.names, [("one", T3 (extSeq a b i).1), ("other", T3 (extSeq a b i).2)], []⟩) (fun _ => rfl) (fun _ => rfl) N (fun s' S' => S'.to ⟨rfl, rfl, trivial⟩) (fun i hi => ?_) ?_ (fun i hi s2 E' S2 => ?_) fun s2 S2 => ?_
  · exact Tr.is (tr_ne (ev_itemT (ev_name rfl) ev_int (by decide) rfl (by decide)) ev_int) (by simpa using (hs i hi).2)
  · exact Tr.is (tr_ne (ev_itemT (ev_name rfl) ev_int (by decide) rfl (by decide)) ev_int) (by simpa using hN)
  · obtain ⟨⟨b1, b2, b3⟩, hne⟩ := hs i hi
    refine st_assign S2 hA (ev_div (ev_itemT (ev_name rfl) ev_int (by decide) rfl (by decide)) (ev_itemT (ev_name rfl) ev_int (by decide) rfl (by decide)) (by walk_at "side") (by walk_at "side")) (.inl rfl) fun s3 S3 => ?_
    refine st_assign S3 hA (ev_tup (evs_cons (ev_minus (ev_itemT (ev_name rfl) ev_int (by decide) rfl (by decide)) (ev_mul (ev_name rfl) (ev_itemT (ev_name rfl) ev_int (by decide) rfl (by decide)) (by walk_at "side"))) (evs_cons (ev_minus (ev_itemT (ev_name rfl) ev_int (by decide) rfl (by decide)) (ev_mul (ev_name rfl) (ev_itemT (ev_name rfl) ev_int (by decide) rfl (by decide)) (by walk_at "side"))) (evs_cons (ev_minus (ev_itemT (ev_name rfl) ev_int (by decide) rfl (by decide)) (ev_mul (ev_name rfl) (ev_itemT (ev_name rfl) ev_int (by decide) rfl (by decide)) (by walk_at "side"))) evs_nil)))) (.inl rfl) fun s4 S4 => ?_
    refine st_tup2 S4 hA (ev_name rfl) (ev_name rfl) rfl rfl fun s5 S5 => ?_
    exact st_done ⟨rfl, S5.to ⟨rfl, rfl, trivial⟩⟩
  · refine st_ret S2 hA (P := isD (if (extSeq a b N).1.1 ≥ 0 then T3 (extSeq a b N).1 else T3 (0 - (extSeq a b N).1.1, 0 - (extSeq a b N).1.2.1, 0 - (extSeq a b N).1.2.2))) (ev_ife (tr_ge (ev_itemT (ev_name rfl) ev_int (by decide) rfl (by decide)) ev_int) (fun h => ?_) fun h => ?_) fun v s2 r S2 => S2.fin (by simpa using hW) r
    · rw [if_pos (by simpa using h)]
      exact (ev_name rfl)
    · rw [if_neg (by simpa using h)]
      exact (ev_tup (evs_cons (ev_minus ev_int (ev_itemT (ev_name rfl) ev_int (by decide) rfl (by decide))) (evs_cons (ev_minus ev_int (ev_itemT (ev_name rfl) ev_int (by decide) rfl (by decide))) (evs_cons (ev_minus ev_int (ev_itemT (ev_name rfl) ev_int (by decide) rfl (by decide))) evs_nil))))

theorem inv_one (hC : Good C) {n : Nat} (a p : Int) (N : Nat) (x : I3) (hp : p ≠ 0) (hs : ∀ i, i < N → small3 (extSeq (a.fmod p) p i) ∧ (extSeq (a.fmod p) p i).2.1 ≠ 0) (hN : (extSeq (a.fmod p) p N).2.1 = 0)
    (hx : (extSeq (a.fmod p) p N).1 = x) (h1 : x.1 = 1) (h2 : x.2.1.fmod p = (a ^ 3).fmod p) : FnP C (n + 2) ("inverse_mod" : Str) [.int a, .int p] (.int ((a ^ 3).fmod p)) := by
  have h := ext_ok hC (n := n) N hs hN
  rw [hx, if_pos (by rw [h1]; decide)] at h
  have := inverse_ok hC hp h
  rw [if_pos h1, h2] at this
  exact this
theorem inv_ok (hC : Good C) {n : Nat} {a p : Int} (hp : p = 2 ∨ p = 3 ∨ p = 5) (h1 : 0 < a) (h2 : a < p) : FnP C (n + 2) ("inverse_mod" : Str) [.int a, .int p] (.int ((a ^ 3).fmod p)) := by
  rcases hp with rfl | rfl | rfl
  · obtain rfl : a = 1 := by omega
    exact inv_one hC 1 2 2 _ (by decide) (by decide) (by decide) rfl (by decide) (by decide)
  · rcases (show a = 1 ∨ a = 2 by omega) with rfl | rfl
    · exact inv_one hC 1 3 2 _ (by decide) (by decide) (by decide) rfl (by decide) (by decide)
    · exact inv_one hC 2 3 3 _ (by decide) (by decide) (by decide) rfl (by decide) (by decide)
  · rcases (show a = 1 ∨ a = 2 ∨ a = 3 ∨ a = 4 by omega) with rfl | rfl | rfl | rfl
    · exact inv_one hC 1 5 2 _ (by decide) (by decide) (by decide) rfl (by decide) (by decide)
    · exact inv_one hC 2 5 3 _ (by decide) (by decide) (by decide) rfl (by decide) (by decide)
    · exact inv_one hC 3 5 4 _ (by decide) (by decide) (by decide) rfl (by decide) (by decide)
    · exact inv_one hC 4 5 3 _ (by decide) (by decide) (by decide) rfl (by decide) (by decide)
end
end Mine
end
section
open PySem PySem.Calls PyProof.Rows
set_option linter.unusedVariables false
set_option maxRecDepth 100000
namespace Mine
section
variable {C : Cx}
local macro_rules | `(tactic| walk_at "side") => `(tactic| first
  | decide
  | assumption
  | lia
  | (left; lia)
  | (right; lia)
  | (simp; lia)
  | (simp; done))

theorem intsD_get {ns : List Int} {i : Nat} {x : Int} (h : ns[i]? = some x) : (intsD ns)[i]? = some (.int x) := by
  unfold intsD; rw [List.getElem?_map, h]; rfl
theorem intsD_len (ns : List Int) : (intsD ns).length = ns.length := by simp [intsD]
theorem getD_get {ns : List Int} {i : Nat} (h : i < ns.length) : ns[i]? = some (ns.getD i 0) := by
  rw [List.getD_eq_getElem?_getD, List.getElem?_eq_getElem h]; rfl
theorem intsD_getD {ns : List Int} {i : Nat} (h : i < ns.length) : (intsD ns)[i]? = some (.int (ns.getD i 0)) := intsD_get (getD_get h)
theorem intsD_take (ns : List Int) (k : Nat) : (intsD ns).take k = intsD (ns.take k) := by simp [intsD, List.map_take]
theorem intsD_drop (ns : List Int) (k : Nat) : (intsD ns).drop k = intsD (ns.drop k) := by simp [intsD, List.map_drop]

noncomputable def trimN (row : List Int) : Nat → Nat
  | 0 => 0
  | k + 1 => if row.getD k 0 = 0 then trimN row k else k + 1
theorem trimN_le (row : List Int) : ∀ k, trimN row k ≤ k
  | 0 => Nat.le_refl _
  | k + 1 => by unfold trimN; split; exact Nat.le_succ_of_le (trimN_le row k); exact Nat.le_refl _
theorem trimN_zero (row : List Int) : ∀ k i, trimN row k ≤ i → i < k → row.getD i 0 = 0
  | 0, i, _, h => by lia
  | k + 1, i, h1, h2 => by
    unfold trimN at h1
    split at h1
    · rename_i h
      by_cases q : i = k
      · rw [q]; exact h
      · exact trimN_zero row k i h1 (by lia)
    · lia
theorem trimN_last (row : List Int) : ∀ k, trimN row k ≠ 0 → row.getD (trimN row k - 1) 0 ≠ 0
  | 0, h => absurd rfl h
  | k + 1, h => by
    unfold trimN at h ⊢
    split
    · rename_i q; rw [if_pos q] at h; exact trimN_last row k h
    · rename_i q; simpa using q
noncomputable def trimS (row : List Int) : List Int := row.take (trimN row row.length)

theorem ztrim_ok (hC : Good C) {n : Nat} (row : List Int) (hsz : row.length ≤ 1000) : FnP C (n + 1) ("ztrim" : Str) [.list (intsD row)] (.list (intsD (trimS row))) := by
  refine fn_ok' (dR 10) (hC.mem 6 rfl) ["row"] rfl ?_ (by decide +kernel) ?_
  · intro pm code doc vals hl
    match vals, hl with
    | [x], _ => rfl
  intro A env W0 Y s0 s' E hA hW S
  have hlen := intsD_len row
  refine st_assign S hA (ev_len (Ev.toL (ev_name rfl)) (by lia)) (.inl rfl) fun s1 S1 => ?_
  rw [hlen] at S1
  have hle := trimN_le row row.length
  refine st_while S1 hA (fun i => ⟨C, n, (dR 10).scope.names, [("size", .int ((row.length - i : Nat) : Int)), ("row", .list (intsD row))], []⟩) (fun _ => rfl) (fun _ => rfl) (row.length - trimN row row.length) (fun s' S' => S'.to ⟨rfl, rfl, trivial⟩) (fun i hi => ?_) ?_ (fun i hi s2 E' S2 => ?_) fun s2 S2 => ?_
  · have hz := trimN_zero row row.length (row.length - i - 1) (by lia) (by lia)
    have e : (((row.length - i : Nat) : Int) - 1).toNat = row.length - i - 1 := by lia
    refine Tr.is (tr_and (tr_gt (ev_name rfl) ev_int) (fun h => tr_eq (ev_itemL (ev_name rfl) (ev_minus (ev_name rfl) ev_int) (by lia) (d := .int (row.getD (row.length - i - 1) 0)) (by rw [e]; exact intsD_getD (by lia)) (by lia)) ev_int)) ?_
    rw [hz]; simp; lia
  · by_cases h0 : trimN row row.length = 0
    · refine Tr.is (tr_and (b := false) (tr_gt (ev_name rfl) ev_int) (fun h => ?_)) ?_
      · rw [h0] at h; simp at h
      · rw [h0]; simp
    · have hz := trimN_last row row.length h0
      have e1 : row.length - (row.length - trimN row row.length) = trimN row row.length := by lia
      have e : (((row.length - (row.length - trimN row row.length) : Nat) : Int) - 1).toNat = trimN row row.length - 1 := by lia
      refine Tr.is (tr_and (tr_gt (ev_name rfl) ev_int) (fun h => tr_eq (ev_itemL (ev_name rfl) (ev_minus (ev_name rfl) ev_int) (by lia) (d := .int (row.getD (trimN row row.length - 1) 0)) (by rw [e]; exact intsD_getD (by lia)) (by lia)) ev_int)) ?_
      rw [decide_eq_false hz]; simp
  · refine st_augSub S2 hA rfl ev_int (.inl rfl) fun s3 S3 => ?_
    refine st_done ⟨rfl, S3.to ⟨?_, rfl, trivial⟩⟩
    show some (D.int _) = some (D.int _)
    congr 2; lia
  · refine st_ret S2 hA (P := isD (.list (intsD (trimS row)))) (ev_listL (Ev.toL (Ev.is (ev_slice (a := none) (b := some (trimN row row.length)) (Ev.toL (ev_name rfl)) trivial ?_ (by lia)) ?_)) (by rw [intsD_len]; unfold trimS; rw [List.length_take]; lia)) fun v s2 r S2 => S2.fin (by simpa using hW) r
    · exact Ev.is (ev_name (d := .int ((row.length - (row.length - trimN row row.length) : Nat) : Int)) rfl) (by congr 2; lia)
    · unfold sliceL trimS
      simp [intsD_take]
end
end Mine
end
section
open PySem PySem.Calls PyProof.Rows
set_option linter.unusedVariables false
set_option maxRecDepth 100000
namespace Mine
section
variable {C : Cx}
local macro_rules | `(tactic| walk_at "side") => `(tactic| first
  | decide
  | assumption
  | omega
  | (left; omega)
  | (right; omega)
  | (simp; omega)
  | (simp; done))

noncomputable def addL (a b : List Int) : List Int := (List.range (max a.length b.length)).map fun i => a.getD i 0 + b.getD i 0
noncomputable def addS (a b : List Int) : List Int := trimS (addL a b)
theorem getD_out {a : List Int} {i : Nat} (h : a.length ≤ i) : a.getD i 0 = 0 := by
  rw [List.getD_eq_getElem?_getD, List.getElem?_eq_none h]; rfl

theorem zadd_ok (hC : Good C) {n : Nat} (a b : List Int) (ha : a.length ≤ 1000) (hb : b.length ≤ 1000) : FnP C (n + 2) ("zadd" : Str) [.list (intsD a), .list (intsD b)] (.list (intsD (addS a b))) := by
  have h1 : ∃ d ∈ C.defs, d.name = ("ztrim" : Str) := hC.fn 6 rfl rfl
  refine fn_ok' (dR 11) (hC.mem 7 rfl) ["a", "b"] rfl ?_ (by decide +kernel) ?_
  · intro pm code doc vals hl
    match vals, hl with
    | [x, y], _ => rfl
  intro A env W0 Y s0 s' E hA hW S
  have hla := intsD_len a
  have hlb := intsD_len b
  refine st_assign S hA (ev_max (ev_len (Ev.toL (ev_name rfl)) (by omega)) (ev_len (Ev.toL (ev_name rfl)) (by omega))) (.inl rfl) fun s1 S1 => ?_
  have hm : (max (((intsD a).length : Nat) : Int) (((intsD b).length : Nat) : Int)).toNat = max a.length b.length := by rw [hla, hlb]; omega
  refine st_ret S1 hA (P := isD (.list (intsD (addS a b)))) (ev_call (ztrim_ok hC (addL a b) (by unfold addL; simp; omega)) (evs_cons (ev_comp1 (intsD (addL a b)) (src_range1 (ev_name rfl) hm (by omega)) (scOk (by kernel_rfl)) (.inl rfl) (by rw [rangeD_len]; omega) (by rw [rangeD_len]; simp [intsD, addL]) ?_) evs_nil)) fun v s2 r S2 => S2.fin (by simpa using hW) r
  intro i d d' hd hd'
  obtain ⟨hi, rfl⟩ := rangeD_get hd
  have : d' = .int (a.getD i 0 + b.getD i 0) := by
    unfold intsD addL at hd'
    rw [List.getElem?_map, List.getElem?_map, List.getElem?_range hi] at hd'
    simpa using hd'.symm
  subst this
  have e0 : (0 + (i : Int)).toNat = i := by omega
  refine ev_add (ev_ife (tr_lt (ev_name rfl) (ev_len (Ev.toL (ev_name rfl)) (by omega))) (fun h => ?_) fun h => ?_) (ev_ife (tr_lt (ev_name rfl) (ev_len (Ev.toL (ev_name rfl)) (by omega))) (fun h => ?_) fun h => ?_)
  · simp only [decide_eq_true_eq] at h
    exact ev_itemL (ev_name rfl) (ev_name rfl) (by omega) (by rw [e0]; exact intsD_getD (by omega)) (by omega)
  · simp only [decide_eq_false_iff_not] at h
    rw [getD_out (by omega)]
    exact ev_int
  · simp only [decide_eq_true_eq] at h
    exact ev_itemL (ev_name rfl) (ev_name rfl) (by omega) (by rw [e0]; exact intsD_getD (by omega)) (by omega)
  · simp only [decide_eq_false_iff_not] at h
    rw [getD_out (by omega)]
    exact ev_int

noncomputable def scaleS (p : List Int) (k : Int) : List Int := if k ≠ 0 then p.map (· * k) else []
theorem zscale_ok (hC : Good C) {n : Nat} (p : List Int) (k : Int) (hp : p.length ≤ 1000) (hk : k.natAbs < 2 ^ 60) : FnP C (n + 1) ("zscale" : Str) [.list (intsD p), .int k] (.list (intsD (scaleS p k))) := by
  refine fn_ok' (dR 12) (hC.mem 8 rfl) ["p", "k"] rfl ?_ (by decide +kernel) ?_
  · intro pm code doc vals hl
    match vals, hl with
    | [x, y], _ => rfl
  intro A env W0 Y s0 s' E hA hW S
  refine st_ret S hA (P := isD (.list (intsD (scaleS p k)))) (ev_ife (tr_ne (ev_name rfl) ev_int) (fun h => ?_) fun h => ?_) fun v s2 r S2 => S2.fin (by simpa using hW) r
  · simp only [decide_eq_true_eq] at h
    unfold scaleS
    rw [if_pos h]
    refine ev_comp1 (intsD (p.map (· * k))) (src_list (ev_name rfl)) (scOk (by kernel_rfl)) (.inl rfl) (by rw [intsD_len]; omega) (by simp [intsD]) ?_
    intro i d d' hd hd'
    unfold intsD at hd hd'
    rw [List.getElem?_map, List.getElem?_map] at hd'
    rw [List.getElem?_map] at hd
    cases e : p[i]? with
    | none => rw [e] at hd; cases hd
    | some x =>
      rw [e] at hd hd'
      cases hd; cases hd'
      exact ev_mul (ev_name rfl) (ev_name rfl) (.inr hk)
  · simp only [decide_eq_false_iff_not] at h
    unfold scaleS
    rw [if_neg h]
    exact ev_list evs_nil
end
end Mine
end
section
open PySem PySem.Calls PyProof.Rows
set_option linter.unusedVariables false
set_option maxRecDepth 100000
namespace Mine
section
variable {C : Cx}
local macro_rules | `(tactic| walk_at "side") => `(tactic| first
  | decide
  | assumption
  | lia
  | (left; lia)
  | (right; lia)
  | (simp; lia)
  | (simp; done))

noncomputable def addAt (f : List Int) (i : Nat) (x : Int) : List Int := f.set i (f.getD i 0 + x)
theorem addAt_len (f : List Int) (i : Nat) (x : Int) : (addAt f i x).length = f.length := by simp [addAt]
theorem intsD_set (f : List Int) (i : Nat) (x : Int) : (intsD f).set i (.int x) = intsD (f.set i x) := by simp [intsD, List.map_set]
noncomputable def mulIn (f : List Int) (one : Nat) (left : Int) (b : List Int) : Nat → List Int
  | 0 => f
  | j + 1 => addAt (mulIn f one left b j) (one + j) (left * b.getD j 0)
theorem mulIn_len (f : List Int) (one : Nat) (left : Int) (b : List Int) : ∀ j, (mulIn f one left b j).length = f.length
  | 0 => rfl
  | j + 1 => by unfold mulIn; rw [addAt_len, mulIn_len]
noncomputable def mulOut (a b : List Int) : Nat → List Int
  | 0 => List.replicate (a.length + b.length - 1) 0
  | i + 1 => if a.getD i 0 ≠ 0 then mulIn (mulOut a b i) i (a.getD i 0) b b.length else mulOut a b i
theorem mulOut_len (a b : List Int) : ∀ i, (mulOut a b i).length = a.length + b.length - 1
  | 0 => by simp [mulOut]
  | i + 1 => by
    unfold mulOut
    split
    · rw [mulIn_len, mulOut_len]
    · exact mulOut_len a b i
noncomputable def mulS (a b : List Int) : List Int := if a.length = 0 ∨ b.length = 0 then [] else mulOut a b a.length

theorem intsD_item {ns : List Int} {i : Nat} {d : D} (h : (intsD ns)[i]? = some d) : i < ns.length ∧ d = .int (ns.getD i 0) := by
  have hi : i < ns.length := by
    have := (List.getElem?_eq_some_iff.mp h).1
    rwa [intsD_len] at this
  rw [intsD_getD hi] at h
  exact ⟨hi, by simpa using h.symm⟩

theorem zmul_ok (hC : Good C) {n : Nat} (a b : List Int) (hla : a.length ≤ 1000) (hlb : b.length ≤ 1000) (hs : ∀ x ∈ a, x.natAbs < 2 ^ 60) : FnP C (n + 1) ("zmul" : Str) [.list (intsD a), .list (intsD b)] (.list (intsD (mulS a b))) := by
  refine fn_ok' (dR 13) (hC.mem 9 rfl) ["a", "b"] rfl ?_ (by decide +kernel) ?_
  · intro pm code doc vals hl
    match vals, hl with
    | [x, y], _ => rfl
  intro A env W0 Y s0 s' E hA hW S
  have hda := intsD_len a
  have hdb := intsD_len b
  refine st_if S hA (tr_or (tr_eq (ev_len (Ev.toL (ev_name rfl)) (by lia)) ev_int) (fun _ => tr_eq (ev_len (Ev.toL (ev_name rfl)) (by lia)) ev_int)) (fun h s1 S1 => ?_) (fun h s1 S1 => ?_)
  · refine st_ret S1 hA (P := isD (.list (intsD (mulS a b)))) ?_ fun v s2 r S2 => S2.fin (by simpa using hW) r
    have : mulS a b = [] := by
      unfold mulS
      rw [hda, hdb] at h
      simp only [Bool.or_eq_true, decide_eq_true_eq] at h
      rw [if_pos (by lia)]
    rw [this]
    exact ev_list evs_nil
  · rw [hda, hdb] at h
    simp only [Bool.or_eq_false_iff, decide_eq_false_iff_not] at h
    refine st_done ?_
    refine st_own S1 hA (evN_mul (d := .int 0) (k := a.length + b.length - 1) (Ev.toL (ev_list (evs_cons ev_int evs_nil))) (Ev.is (ev_minus (ev_add (ev_len (Ev.toL (ev_name rfl)) (by lia)) (ev_len (Ev.toL (ev_name rfl)) (by lia))) ev_int) (by congr 1; lia)) (by lia)) (.inl rfl) fun x s2 S2 hne hxX hxB => ?_
    have hrep : List.replicate (a.length + b.length - 1) (D.int 0) = intsD (mulOut a b 0) := by simp [mulOut, intsD]
    refine st_for S2 hA (src_enum (ev_name rfl)) ⟨_, _, _, rfl⟩ (fun i => ⟨C, n, (dR 13).scope.names, [("found", .own x), ("a", .list (intsD a)), ("b", .list (intsD b))], [(x, .list (intsD (mulOut a b i)))]⟩) (fun _ => rfl) (fun Y' s' S' => S'.to ⟨rfl, rfl, rfl, trivial⟩ (hσ := by rw [← hrep]; rfl)) (fun i d hd => ?_) fun s3 S3 => ?_
    · obtain ⟨d', hd', rfl⟩ := enumD_get hd
      obtain ⟨hi, rfl⟩ := intsD_item hd'
      refine ⟨((⟨C, n, (dR 13).scope.names, [("found", .own x), ("a", .list (intsD a)), ("b", .list (intsD b))], [(x, .list (intsD (mulOut a b i)))]⟩ : G).set "one" (.int i)).set "left" (.int (a.getD i 0)), rfl, tgt_tup2 (.inl rfl) (.inl rfl), fun Y' B' s' E' S' => ?_⟩
      refine st_if S' hA (tr_ne (ev_name rfl) ev_int) (fun h s4 S4 => ?_) (fun h s4 S4 => ?_)
      · simp only [decide_eq_true_eq] at h
        refine st_for S4 hA (src_enum (ev_name rfl)) ⟨_, _, _, rfl⟩ (fun j => ⟨C, n, (dR 13).scope.names, [("one", .int i), ("left", .int (a.getD i 0)), ("found", .own x), ("a", .list (intsD a)), ("b", .list (intsD b))], [(x, .list (intsD (mulIn (mulOut a b i) i (a.getD i 0) b j)))]⟩) (fun _ => rfl) (fun Y' s' S' => S'.to ⟨rfl, rfl, rfl, rfl, rfl, trivial⟩) (fun j d hd => ?_) fun s5 S5 => ?_
        · obtain ⟨d', hd', rfl⟩ := enumD_get hd
          obtain ⟨hj, rfl⟩ := intsD_item hd'
          refine ⟨((⟨C, n, (dR 13).scope.names, [("one", .int i), ("left", .int (a.getD i 0)), ("found", .own x), ("a", .list (intsD a)), ("b", .list (intsD b))], [(x, .list (intsD (mulIn (mulOut a b i) i (a.getD i 0) b j)))]⟩ : G).set "other" (.int j)).set "right" (.int (b.getD j 0)), rfl, tgt_tup2 (.inl rfl) (.inl rfl), fun Y' B' s' E' S' => ?_⟩
          have S6 : St ((⟨C, n, (dR 13).scope.names, [("other", .int j), ("right", .int (b.getD j 0)), ("one", .int i), ("left", .int (a.getD i 0)), ("found", .own x), ("a", .list (intsD a)), ("b", .list (intsD b))], []⟩ : G).own [(x, .list (intsD (mulIn (mulOut a b i) i (a.getD i 0) b j)))]) env _ Y' B' s' := S'.to ⟨rfl, rfl, rfl, rfl, rfl, rfl, rfl, trivial⟩
          have hlen : (mulIn (mulOut a b i) i (a.getD i 0) b j).length = a.length + b.length - 1 := by rw [mulIn_len, mulOut_len]
          have hsm : (a.getD i 0).natAbs < 2 ^ 60 := hs _ (by rw [List.getD_eq_getElem?_getD, List.getElem?_eq_getElem hi]; exact List.getElem_mem _)
          refine st_augItem S6 hA (fun _ h => by cases h) (ev_mul (ev_name rfl) (ev_name rfl) (.inl hsm)) (ev_name rfl) (n := i + j) (Ev.is (ev_add (ev_name rfl) (ev_name rfl)) (by congr 1)) (intsD_getD (by rw [hlen]; lia)) (by rw [intsD_len, hlen]; lia) fun s7 S7 => ?_
          refine st_done ⟨rfl, S7.to ⟨rfl, rfl, rfl, rfl, rfl, trivial⟩ (hσ := ?_)⟩
          rw [intsD_set]
          rfl
        · refine st_done (st_done ⟨rfl, S5.to ⟨rfl, rfl, rfl, trivial⟩ (hσ := ?_)⟩)
          rw [enumD_len, hdb]
          show [(x, Own.list (intsD (mulOut a b (i + 1))))] = _
          rw [show mulOut a b (i + 1) = mulIn (mulOut a b i) i (a.getD i 0) b b.length by rw [mulOut, if_pos h]]
      · simp only [decide_eq_false_iff_not] at h
        refine st_done (st_done ⟨rfl, S4.to ⟨rfl, rfl, rfl, trivial⟩ (hσ := ?_)⟩)
        show [(x, Own.list (intsD (mulOut a b (i + 1))))] = _
        rw [show mulOut a b (i + 1) = mulOut a b i by rw [mulOut, if_neg h]]
        rfl
    · rw [enumD_len, hda] at S3
      refine st_ret S3 hA (P := isD (.own x)) (ev_name rfl) fun v s4 r S4 => ?_
      have hm : mulS a b = mulOut a b a.length := by unfold mulS; rw [if_neg (by lia)]
      rw [hm]
      exact St.finOwn (g := ⟨C, n, (dR 13).scope.names, [("found", .own x), ("a", .list (intsD a)), ("b", .list (intsD b))], []⟩) (σ := []) S4 (by
        intro y hy
        rcases List.mem_cons.mp hy with rfl | hy
        · exact hxB _ List.mem_cons_self
        · simp at hy; exact hW y hy) (fun q => hxX (List.mem_append_right _ q)) r
end
end Mine
end
section
open PySem PySem.Calls PyProof.Rows
set_option linter.unusedVariables false
set_option maxRecDepth 100000
namespace Mine
section
variable {C : Cx}
local macro_rules | `(tactic| walk_at "side") => `(tactic| first
  | decide
  | assumption
  | omega
  | (left; omega)
  | (right; omega)
  | (simp; omega)
  | (simp; done))

/-- the states of zpower's loop: found, factor, many -/
noncomputable def powStep (q : List Int × List Int × Nat) : List Int × List Int × Nat :=
  (if q.2.2 % 2 = 1 then mulS q.1 q.2.1 else q.1, if q.2.2 > 1 then mulS q.2.1 q.2.1 else q.2.1, q.2.2 / 2)
noncomputable def powSeq (p : List Int) (k : Nat) : Nat → List Int × List Int × Nat
  | 0 => ([1], p, k)
  | i + 1 => powStep (powSeq p k i)
noncomputable abbrev okP (q : List Int × List Int × Nat) : Prop := q.2.2 > 0 ∧ q.1.length ≤ 1000 ∧ q.2.1.length ≤ 1000 ∧ (∀ x ∈ q.1, x.natAbs < 2 ^ 60) ∧ ∀ x ∈ q.2.1, x.natAbs < 2 ^ 60

theorem zpower_ok (hC : Good C) {n : Nat} (p : List Int) (k N : Nat) (hp : p.length ≤ 1000) (hs : ∀ i, i < N → okP (powSeq p k i)) (hN : (powSeq p k N).2.2 = 0) : FnP C (n + 2) ("zpower" : Str) [.list (intsD p), .int k] (.list (intsD (powSeq p k N).1)) := by
  have h1 : ∃ d ∈ C.defs, d.name = ("zmul" : Str) := hC.fn 9 rfl rfl
  refine fn_ok' (dR 14) (hC.mem 10 rfl) ["p", "many"] rfl ?_ (by decide +kernel) ?_
  · intro pm code doc vals hl
    match vals, hl with
    | [x, y], _ => rfl
  intro A env W0 Y s0 s' E hA hW S
  refine st_tup2 S hA (ev_list (evs_cons ev_int evs_nil)) (ev_listL (Ev.toL (ev_name rfl)) (by rw [intsD_len]; omega)) rfl rfl fun s1 S1 => ?_
  refine st_while S1 hA (fun i => ⟨C, n + 1, (dR 14).scope.names, [("found", .list (intsD (powSeq p k i).1)), ("factor", .list (intsD (powSeq p k i).2.1)), ("many", .int (powSeq p k i).2.2)], []⟩) (fun _ => rfl) (fun _ => rfl) N (fun s' S' => S'.to ⟨rfl, rfl, rfl, trivial⟩) (fun i hi => ?_) ?_ (fun i hi s2 E' S2 => ?_) fun s2 S2 => ?_
  · exact Tr.is (tr_gt (ev_name rfl) ev_int) (by have := (hs i hi).1; simp; omega)
  · exact Tr.is (tr_gt (ev_name rfl) ev_int) (by rw [hN]; simp)
  · obtain ⟨hm, l1, l2, b1, b2⟩ := hs i hi
    have rest : ∀ (fo : List Int), fo = (powSeq p k (i + 1)).1 → ∀ s3, St (⟨C, n + 1, (dR 14).scope.names, [("found", .list (intsD fo)), ("factor", .list (intsD (powSeq p k i).2.1)), ("many", .int (powSeq p k i).2.2)], []⟩ : G) env (W0 ++ ([] : List (Addr × Own)).map (·.1)) Y [s0] s3 →
        St (⟨C, n + 1, (dR 14).scope.names, [("found", .list (intsD (powSeq p k (i + 1)).1)), ("factor", .list (intsD (powSeq p k i).2.1)), ("many", .int (powSeq p k i).2.2)], []⟩ : G) env (W0 ++ ([] : List (Addr × Own)).map (·.1)) Y [s0] s3 := fun fo e s3 S3 => e ▸ S3
    have tail : ∀ s3, St (⟨C, n + 1, (dR 14).scope.names, [("found", .list (intsD (powSeq p k (i + 1)).1)), ("factor", .list (intsD (powSeq p k i).2.1)), ("many", .int (powSeq p k i).2.2)], []⟩ : G) env (W0 ++ ([] : List (Addr × Own)).map (·.1)) Y [s0] s3 →
        wpAny (modC C) A (execs ((((dR 14).body[1]?.map fun st => match st with | .While _ b _ _ => b | _ => []).getD []).drop 1) env) (fun f s'' => f = .next ∧ St (⟨C, n + 1, (dR 14).scope.names, [("found", .list (intsD (powSeq p k (i + 1)).1)), ("factor", .list (intsD (powSeq p k (i + 1)).2.1)), ("many", .int (powSeq p k (i + 1)).2.2)], []⟩ : G) env (W0 ++ ([] : List (Addr × Own)).map (·.1)) Y [s0] s'') E' s3 := by
      intro s3 S3
      refine st_assign S3 hA (d := .list (intsD (powSeq p k (i + 1)).2.1)) (ev_ife (tr_gt (ev_name rfl) ev_int) (fun h => ?_) fun h => ?_) (.inl rfl) fun s4 S4 => ?_
      · simp only [decide_eq_true_eq] at h
        have e : (powSeq p k (i + 1)).2.1 = mulS (powSeq p k i).2.1 (powSeq p k i).2.1 := by
          show (if (powSeq p k i).2.2 > 1 then _ else _) = _
          rw [if_pos (by omega)]
        rw [e]
        exact ev_call (zmul_ok hC _ _ l2 l2 b2) (evs_cons (ev_name rfl) (evs_cons (ev_name rfl) evs_nil))
      · simp only [decide_eq_false_iff_not] at h
        have e : (powSeq p k (i + 1)).2.1 = (powSeq p k i).2.1 := by
          show (if (powSeq p k i).2.2 > 1 then _ else _) = _
          rw [if_neg (by omega)]
        rw [e]
        exact ev_name rfl
      · refine st_assign S4 hA (ev_div (ev_name rfl) ev_int (by decide) (by decide)) (.inl rfl) fun s5 S5 => ?_
        refine st_done ⟨rfl, S5.to ⟨rfl, rfl, ?_, trivial⟩⟩
        show some (D.int _) = some (D.int _)
        congr 2
        show ((powSeq p k i).2.2 : Int).fdiv 2 = (((powSeq p k i).2.2 / 2 : Nat) : Int)
        rw [Int.fdiv_eq_ediv_of_nonneg _ (by decide)]
        omega
    refine st_if S2 hA (tr_eq (ev_mod (ev_name rfl) ev_int (by decide)) ev_int) (fun h s3 S3 => ?_) (fun h s3 S3 => ?_)
    · simp only [decide_eq_true_eq] at h
      rw [Int.fmod_eq_emod_of_nonneg _ (by decide)] at h
      refine st_assign S3 hA (ev_call (zmul_ok hC _ _ l1 l2 b1) (evs_cons (ev_name rfl) (evs_cons (ev_name rfl) evs_nil))) (.inl rfl) fun s4 S4 => ?_
      refine st_done (tail s4 (rest _ ?_ s4 (S4.to ⟨rfl, rfl, rfl, trivial⟩)))
      show _ = (if (powSeq p k i).2.2 % 2 = 1 then _ else _)
      rw [if_pos (by omega)]
    · simp only [decide_eq_false_iff_not] at h
      rw [Int.fmod_eq_emod_of_nonneg _ (by decide)] at h
      refine st_done (tail s3 (rest _ ?_ s3 (S3.to ⟨rfl, rfl, rfl, trivial⟩)))
      show _ = (if (powSeq p k i).2.2 % 2 = 1 then _ else _)
      rw [if_neg (by omega)]
  · refine st_ret S2 hA (P := isD (.list (intsD (powSeq p k N).1))) (ev_name rfl) fun v s2 r S2 => S2.fin (by simpa using hW) r

noncomputable def binS (n : Nat) : Nat → List Int
  | 0 => [1]
  | k + 1 => binS n k ++ [((binS n k).getD k 0 * ((n : Int) - k)).fdiv ((k : Int) + 1)]
theorem binS_len (n : Nat) : ∀ k, (binS n k).length = k + 1
  | 0 => rfl
  | k + 1 => by unfold binS; rw [List.length_append, binS_len]; rfl
theorem binomial_ok (hC : Good C) {m : Nat} (n : Nat) (hn : n ≤ 1000) : FnP C (m + 1) ("binomial_row" : Str) [.int n] (.list (intsD (binS n n))) := by
  refine fn_ok' (dR 8) (hC.mem 5 rfl) ["n"] rfl ?_ (by decide +kernel) ?_
  · intro pm code doc vals hl
    match vals, hl with
    | [x], _ => rfl
  intro A env W0 Y s0 s' E hA hW S
  refine st_own S hA (evN_list (evs_cons ev_int evs_nil)) (.inl rfl) fun x s2 S2 hne hxX hxB => ?_
  refine st_for S2 hA (src_range1 (k := n) (ev_name rfl) (by omega) (by omega)) ⟨_, _, rfl⟩ (fun i => ⟨C, m, (dR 8).scope.names, [("found", .own x), ("n", .int n)], [(x, .list (intsD (binS n i)))]⟩) (fun _ => rfl) (fun Y' s' S' => S'.to ⟨rfl, rfl, trivial⟩) (fun i d hd => ?_) fun s3 S3 => ?_
  · obtain ⟨hi, rfl⟩ := rangeD_get hd
    refine ⟨(⟨C, m, (dR 8).scope.names, [("found", .own x), ("n", .int n)], [(x, .list (intsD (binS n i)))]⟩ : G).set "k" (.int (0 + (i : Int))), rfl, tgt_name (.inl rfl), fun Y' B' s' E' S' => ?_⟩
    have S6 : St ((⟨C, m, (dR 8).scope.names, [("k", .int i), ("found", .own x), ("n", .int n)], []⟩ : G).own [(x, .list (intsD (binS n i)))]) env _ Y' B' s' := S'.to ⟨by show some (D.int _) = some (D.int _); congr 2; omega, rfl, rfl, trivial⟩
    have hit : (intsD (binS n i))[((i : Nat) : Int).toNat]? = some (D.int ((binS n i).getD i 0)) := by
      rw [Int.toNat_natCast]; exact intsD_getD (by rw [binS_len]; omega)
    refine st_append S6 hA (fun _ h => by cases h) (ev_name rfl) (ev_div (ev_mul (ev_item (Ev.ownL (ev_name rfl) List.mem_cons_self) (ev_name rfl) (by omega) hit (by omega)) (ev_minus (ev_name rfl) (ev_name rfl)) (.inr (by omega))) (ev_add (ev_name rfl) ev_int) (by omega) (by omega)) (by rw [intsD_len, binS_len]; omega) fun s7 S7 => ?_
    refine st_done ⟨rfl, S7.to ⟨rfl, rfl, trivial⟩ (hσ := ?_)⟩
    show [(x, Own.list (intsD (binS n i ++ [_])))] = [(x, Own.list (intsD (binS n i) ++ [_]))]
    simp [intsD]
  · rw [rangeD_len] at S3
    refine st_ret S3 hA (P := isD (.own x)) (ev_name rfl) fun v s4 r S4 => ?_
    exact St.finOwn (g := ⟨C, m, (dR 8).scope.names, [("found", .own x), ("n", .int n)], []⟩) (σ := []) S4 (by
      intro y hy
      rcases List.mem_cons.mp hy with rfl | hy
      · exact hxB _ List.mem_cons_self
      · simp at hy; exact hW y hy) (fun q => hxX (List.mem_append_right _ q)) r
end
end Mine
end
section
open PySem PySem.Calls PyProof.Rows
set_option linter.unusedVariables false
set_option maxRecDepth 100000
namespace Mine
section
variable {C : Cx}
local macro_rules | `(tactic| walk_at "side") => `(tactic| first
  | decide
  | assumption
  | lia
  | (left; lia)
  | (right; lia)
  | (simp; lia)
  | (simp; done))

noncomputable def rowsD (rows : List (List Int)) : List D := rows.map fun r => .list (intsD r)
theorem rowsD_len (rows : List (List Int)) : (rowsD rows).length = rows.length := by simp [rowsD]
theorem rowsD_get {rows : List (List Int)} {i : Nat} (h : i < rows.length) : (rowsD rows)[i]? = some (.list (intsD (rows.getD i []))) := by
  unfold rowsD
  rw [List.getElem?_map, List.getElem?_eq_getElem h, List.getD_eq_getElem?_getD, List.getElem?_eq_getElem h]; rfl
theorem rowsD_item {rows : List (List Int)} {i : Nat} {d : D} (h : (rowsD rows)[i]? = some d) : i < rows.length ∧ d = .list (intsD (rows.getD i [])) := by
  have hi : i < rows.length := by
    have := (List.getElem?_eq_some_iff.mp h).1
    rwa [rowsD_len] at this
  rw [rowsD_get hi] at h
  exact ⟨hi, by simpa using h.symm⟩
theorem rowsD_set (rows : List (List Int)) (i : Nat) (r : List Int) : (rowsD rows).set i (.list (intsD r)) = rowsD (rows.set i r) := by simp [rowsD, List.map_set]

noncomputable def pivN (rows : List (List Int)) (c : Nat) : Nat → Nat → Int
  | 0, _ => -1
  | k + 1, at_ => if (rows.getD at_ []).getD c 0 ≠ 0 then (at_ : Int) else pivN rows c k (at_ + 1)
noncomputable def pivS (rows : List (List Int)) (done c : Nat) : Int := pivN rows c (rows.length - done) done
theorem pivN_skip (rows : List (List Int)) (c : Nat) : ∀ (i k at_ : Nat), (∀ j, j < i → (rows.getD (at_ + j) []).getD c 0 = 0) → i ≤ k → pivN rows c k at_ = pivN rows c (k - i) (at_ + i)
  | 0, k, at_, _, _ => rfl
  | i + 1, 0, at_, _, h => by lia
  | i + 1, k + 1, at_, h, hk => by
    have h0 := h 0 (by lia)
    rw [Nat.add_zero] at h0
    have e2 : at_ + (i + 1) = at_ + 1 + i := by lia
    rw [pivN, if_neg (by rw [h0]; simp), pivN_skip rows c i k (at_ + 1) (fun j hj => by rw [show at_ + 1 + j = at_ + (j + 1) by lia]; exact h (j + 1) (by lia)) (by lia), Nat.add_sub_add_right, e2]

theorem pivot_ok (hC : Good C) {n : Nat} (rows : List (List Int)) (done c : Nat) (a : Addr) (hd : done ≤ rows.length) (hl : rows.length ≤ 1000) (hc : c < 1000) (hw : ∀ r ∈ rows, c < r.length) :
    FnC C (n + 1) ("pivot_row" : Str) [.own a, .int done, .int c] [(a, .list (rowsD rows))] (.int (pivS rows done c)) [(a, .list (rowsD rows))] := by
  refine fn_ok' (dR 5) (hC.mem 3 rfl) ["work", "done", "column"] rfl ?_ (by decide +kernel) ?_
  · intro pm code doc vals hl
    match vals, hl with
    | [x, y, z], _ => rfl
  intro A env W0 Y s0 s' E hA hW S
  have hrl := rowsD_len rows
  have hmem : ∀ {γ : G}, γ.σ = [(a, Own.list (rowsD rows))] → (a, Own.list (rowsD rows)) ∈ γ.σ := fun h => by rw [h]; exact List.mem_cons_self
  refine st_forI S hA (src_range2 (k := rows.length - done) (ev_name rfl) (ev_len (Ev.ownL (ev_name rfl) List.mem_cons_self) (by lia)) (by rw [hrl]; lia) (by lia) (by rw [hrl]; lia)) ⟨_, _, rfl⟩
    (fun i => ⟨C, n, (dR 5).scope.names, [("work", .own a), ("done", .int done), ("column", .int c)], [(a, .list (rowsD rows))]⟩) (fun _ => rfl) (fun γ d => (a, Own.list (rowsD rows)) ∈ γ.σ ∧ γ.C = C ∧ d = .int (pivS rows done c)) (fun i => ∀ j, j < i → (rows.getD (done + j) []).getD c 0 = 0) (fun j h => by lia)
    (fun Y' s' S' => S'.to ⟨rfl, rfl, rfl, trivial⟩) (fun i d hdd hI => ?_) (fun γ d v Y' s' hR hY' S' hv => ?_) (fun s3 hI S3 => ?_)
  · obtain ⟨hi, rfl⟩ := rangeD_get hdd
    refine ⟨(⟨C, n, (dR 5).scope.names, [("work", .own a), ("done", .int done), ("column", .int c)], [(a, .list (rowsD rows))]⟩ : G).set "at" (.int ((done : Int) + (i : Nat))), rfl, tgt_name (.inl rfl), fun Y' B' s' E' S' => ?_⟩
    have hi' : done + i < rows.length := by lia
    have ei : ((done : Int) + (i : Nat)).toNat = done + i := by lia
    have hrow : c < (rows.getD (done + i) []).length := hw _ (by rw [List.getD_eq_getElem?_getD, List.getElem?_eq_getElem hi']; exact List.getElem_mem _)
    refine st_if S' hA (tr_ne (ev_itemL (ev_item (Ev.ownL (ev_name rfl) List.mem_cons_self) (ev_name rfl) (by lia) (by rw [ei]; exact rowsD_get hi') (by lia)) (ev_name rfl) (by lia) (by rw [Int.toNat_natCast]; exact intsD_getD hrow) (by lia)) ev_int) (fun h s4 S4 => ?_) (fun h s4 S4 => ?_)
    · simp only [decide_eq_true_eq] at h
      refine st_ret S4 hA (P := isD (.int (pivS rows done c))) (Ev.is (ev_name rfl) ?_) fun v s5 r S5 => .inr ⟨v, _, _, rfl, ⟨List.mem_cons_self, rfl, rfl⟩, S5, r⟩
      unfold pivS
      rw [pivN_skip rows c i (rows.length - done) done hI (by lia)]
      obtain ⟨k, hk⟩ : ∃ k, rows.length - done - i = k + 1 := ⟨rows.length - done - i - 1, by lia⟩
      rw [hk, pivN, if_pos h]
      congr 1
    · simp only [decide_eq_false_iff_not] at h
      refine st_done (st_done (.inl ⟨rfl, fun j hj => ?_, S4.to ⟨rfl, rfl, rfl, trivial⟩⟩))
      by_cases q : j = i
      · rw [q]; exact Decidable.not_not.mp h
      · exact hI j (by lia)
  · obtain ⟨h1, h2, rfl⟩ := hR
    have := S'.finB (c0 := .list (rowsD rows)) (fl := .ret v) rfl hW h1 (d := .int (pivS rows done c)) (hv.weak fun b hb => List.mem_append_right _ hb)
    obtain ⟨v', W1, q1, q2, q3, q4, q5⟩ := this
    exact ⟨v', W1, q1, q2, q3.weak hY', q4, fun b c' hb => by
      have := q5 b c' hb
      rw [h2] at this
      exact this.keep (fun _ e => e) (fun _ _ r => r.weak hY') fun _ _ r => r.weak hY'⟩
  · rw [rangeD_len] at hI
    refine st_ret S3 hA (P := isD (.int (pivS rows done c))) (Ev.is (ev_neg ev_int) ?_) fun v s5 r S5 => S5.finB (c0 := .list (rowsD rows)) (fl := .ret v) rfl hW List.mem_cons_self (r.weak fun b hb => List.mem_append_right _ hb)
    unfold pivS
    rw [pivN_skip rows c (rows.length - done) (rows.length - done) done hI (Nat.le_refl _), Nat.sub_self]
    rfl
end
end Mine
end
section
open PySem PySem.Calls PyProof.Rows
set_option linter.unusedVariables false
set_option maxRecDepth 100000
namespace Mine
section
variable {C : Cx}
local macro_rules | `(tactic| walk_at "side") => `(tactic| first
  | decide
  | assumption
  | lia
  | (left; lia)
  | (right; lia)
  | (simp; lia)
  | (simp; done))

noncomputable def clearRow (p turn : Int) (c : Nat) (top row : List Int) : List Int :=
  if (row.getD c 0 * turn).fmod p ≠ 0 then List.zipWith (fun x y => (x - (row.getD c 0 * turn).fmod p * y).fmod p) row top else row
noncomputable def turnOf (p : Int) (c : Nat) (top : List Int) : Int := (top.getD c 0 ^ 3).fmod p
noncomputable def clearN (p : Int) (rows : List (List Int)) (done c : Nat) : Nat → List (List Int)
  | 0 => rows
  | i + 1 => (clearN p rows done c i).set (done + 1 + i) (clearRow p (turnOf p c (rows.getD done [])) c ((clearN p rows done c i).getD done []) ((clearN p rows done c i).getD (done + 1 + i) []))
noncomputable def clearS (p : Int) (rows : List (List Int)) (done c : Nat) : List (List Int) := clearN p rows done c (rows.length - (done + 1))
theorem clearN_len (p : Int) (rows : List (List Int)) (done c : Nat) : ∀ i, (clearN p rows done c i).length = rows.length
  | 0 => rfl
  | i + 1 => by unfold clearN; rw [List.length_set, clearN_len]

/-- rows of length L, entries in [0, p) -/
noncomputable def OkRows (p : Int) (L : Nat) (rows : List (List Int)) : Prop := ∀ r ∈ rows, r.length = L ∧ ∀ x ∈ r, 0 ≤ x ∧ x < p
theorem OkRows.row {p : Int} {L : Nat} {rows : List (List Int)} (h : OkRows p L rows) {i : Nat} (hi : i < rows.length) : (rows.getD i []).length = L ∧ ∀ x ∈ rows.getD i [], 0 ≤ x ∧ x < p :=
  h _ (by rw [List.getD_eq_getElem?_getD, List.getElem?_eq_getElem hi]; exact List.getElem_mem _)
theorem getD_mem {l : List Int} {i : Nat} (h : i < l.length) : l.getD i 0 ∈ l := by
  rw [List.getD_eq_getElem?_getD, List.getElem?_eq_getElem h]; exact List.getElem_mem _
theorem clearRow_ok {p turn : Int} {c L : Nat} {top row : List Int} (hp : 0 < p) (h1 : top.length = L) (h2 : row.length = L ∧ ∀ x ∈ row, 0 ≤ x ∧ x < p) : (clearRow p turn c top row).length = L ∧ ∀ x ∈ clearRow p turn c top row, 0 ≤ x ∧ x < p := by
  unfold clearRow
  split
  · refine ⟨by rw [List.length_zipWith, h1, h2.1, Nat.min_self], fun x hx => ?_⟩
    obtain ⟨i, hi, rfl⟩ := List.mem_iff_getElem.mp hx
    rw [List.getElem_zipWith]
    exact ⟨Int.fmod_nonneg_of_pos _ hp, Int.fmod_lt_of_pos _ hp⟩
  · exact h2
theorem OkRows.set {p : Int} {L : Nat} {rows : List (List Int)} (h : OkRows p L rows) {i : Nat} {r : List Int} (hr : r.length = L ∧ ∀ x ∈ r, 0 ≤ x ∧ x < p) : OkRows p L (rows.set i r) := fun r' hr' => by
  rcases List.mem_or_eq_of_mem_set hr' with q | q
  · exact h r' q
  · rw [q]; exact hr
theorem clearN_ok {p : Int} {L : Nat} {rows : List (List Int)} (hp : 0 < p) (h : OkRows p L rows) (done c : Nat) : ∀ i, done + 1 + i ≤ rows.length → OkRows p L (clearN p rows done c i)
  | 0, _ => h
  | i + 1, hi => by
    have ih := clearN_ok hp h done c i (by lia)
    unfold clearN
    have hl := clearN_len p rows done c i
    exact ih.set (clearRow_ok hp (ih.row (by lia)).1 (ih.row (by lia)))

theorem clear_ok (hC : Good C) {n : Nat} (rows : List (List Int)) (done c L : Nat) (p : Int) (a : Addr) (hp : p = 2 ∨ p = 3 ∨ p = 5) (hd : done < rows.length) (hl : rows.length ≤ 1000) (hc : c < L) (hL : L ≤ 1000) (hw : OkRows p L rows) (h0 : (rows.getD done []).getD c 0 ≠ 0) :
    FnC C (n + 3) ("clear_below" : Str) [.own a, .int done, .int c, .int p] [(a, .list (rowsD rows))] .none [(a, .list (rowsD (clearS p rows done c)))] := by
  have h1 : ∃ d ∈ C.defs, d.name = ("inverse_mod" : Str) := hC.fn 1 rfl rfl
  have hpp : 0 < p ∧ p ≠ 0 ∧ p.natAbs < 1000 := by lia
  refine fn_ok' (dR 6) (hC.mem 4 rfl) ["work", "done", "column", "p"] rfl ?_ (by decide +kernel) ?_
  · intro pm code doc vals hl
    match vals, hl with
    | [x, y, z, w], _ => rfl
  intro A env W0 Y s0 s' E hA hW S
  have hrl := rowsD_len rows
  obtain ⟨r1, r2⟩ := hw.row hd
  have hx := r2 _ (getD_mem (i := c) (by lia))
  refine st_assign S hA (ev_call (inv_ok hC hp (by lia) hx.2) (evs_cons (ev_itemL (ev_item (Ev.ownL (ev_name rfl) List.mem_cons_self) (ev_name rfl) (by lia) (by rw [Int.toNat_natCast]; exact rowsD_get hd) (by lia)) (ev_name rfl) (by lia) (by rw [Int.toNat_natCast]; exact intsD_getD (by lia)) (by lia)) (evs_cons (ev_name rfl) evs_nil))) (.inl rfl) fun s1 S1 => ?_
  refine st_for S1 hA (src_range2 (k := rows.length - (done + 1)) (ev_add (ev_name rfl) ev_int) (ev_len (Ev.ownL (ev_name rfl) List.mem_cons_self) (by lia)) (by rw [hrl]; lia) (by lia) (by rw [hrl]; lia)) ⟨_, _, rfl⟩
    (fun i => ⟨C, n + 2, (dR 6).scope.names, [("turn", .int (turnOf p c (rows.getD done []))), ("work", .own a), ("done", .int done), ("column", .int c), ("p", .int p)], [(a, .list (rowsD (clearN p rows done c i)))]⟩) (fun _ => rfl)
    (fun Y' s' S' => S'.to ⟨rfl, rfl, rfl, rfl, rfl, trivial⟩) (fun i d hdd => ?_) (fun s3 S3 => ?_)
  · obtain ⟨hi, rfl⟩ := rangeD_get hdd
    refine ⟨(⟨C, n + 2, (dR 6).scope.names, [("turn", .int (turnOf p c (rows.getD done []))), ("work", .own a), ("done", .int done), ("column", .int c), ("p", .int p)], [(a, .list (rowsD (clearN p rows done c i)))]⟩ : G).set "at" (.int ((done : Int) + 1 + (i : Nat))), rfl, tgt_name (.inl rfl), fun Y' B' s' E' S' => ?_⟩
    obtain ⟨R, hR⟩ : ∃ R, R = clearN p rows done c i := ⟨_, rfl⟩
    have hlen : R.length = rows.length := by rw [hR]; exact clearN_len p rows done c i
    have okR : OkRows p L R := by rw [hR]; exact clearN_ok hpp.1 hw done c i (by lia)
    have ei : ((done : Int) + 1 + (i : Nat)).toNat = done + 1 + i := by lia
    obtain ⟨q1, q2⟩ := okR.row (i := done + 1 + i) (by lia)
    obtain ⟨q3, q4⟩ := okR.row (i := done) (by lia)
    have hxx := q2 _ (getD_mem (i := c) (by lia))
    have hstep : clearN p rows done c (i + 1) = R.set (done + 1 + i) (clearRow p (turnOf p c (rows.getD done [])) c (R.getD done []) (R.getD (done + 1 + i) [])) := by rw [clearN, hR]
    have S2 : St ((⟨C, n + 2, (dR 6).scope.names, [("at", .int ((done + 1 + i : Nat) : Int)), ("turn", .int (turnOf p c (rows.getD done []))), ("work", .own a), ("done", .int done), ("column", .int c), ("p", .int p)], []⟩ : G).own [(a, .list (rowsD R))]) env (W0 ++ ([(a, Own.list (rowsD rows))] : List (Addr × Own)).map (·.1)) Y' B' s' := by
      rw [hR]; exact S'.to ⟨by show some (D.int _) = some (D.int _); congr 2, rfl, rfl, rfl, rfl, rfl, trivial⟩
    refine st_assign S2 hA (d := .int (((R.getD (done + 1 + i) []).getD c 0 * turnOf p c (rows.getD done [])).fmod p)) (ev_mod (ev_mul (ev_itemL (ev_item (Ev.ownL (ev_name rfl) List.mem_cons_self) (ev_name rfl) (by lia) (by rw [Int.toNat_natCast]; exact rowsD_get (by lia)) (by lia)) (ev_name rfl) (by lia) (by rw [Int.toNat_natCast]; exact intsD_getD (by lia)) (by lia)) (ev_name rfl) (.inl (by lia))) (ev_name rfl) (by lia)) (.inr rfl) fun s4 S4 => ?_
    refine st_if S4 hA (tr_ne (ev_name rfl) ev_int) (fun h s5 S5 => ?_) (fun h s5 S5 => ?_)
    · simp only [decide_eq_true_eq] at h
      have S6 : St ((⟨C, n + 2, (dR 6).scope.names, [("number", .int (((R.getD (done + 1 + i) []).getD c 0 * turnOf p c (rows.getD done [])).fmod p)), ("at", .int ((done + 1 + i : Nat) : Int)), ("turn", .int (turnOf p c (rows.getD done []))), ("work", .own a), ("done", .int done), ("column", .int c), ("p", .int p)], []⟩ : G).own [(a, .list (rowsD R))]) env (W0 ++ ([(a, Own.list (rowsD rows))] : List (Addr × Own)).map (·.1)) Y' B' s5 := S5.to ⟨rfl, rfl, rfl, rfl, rfl, rfl, rfl, trivial⟩
      have hnum : ((R.getD (done + 1 + i) []).getD c 0 * turnOf p c (rows.getD done [])).fmod p < p := Int.fmod_lt_of_pos _ hpp.1
      have hnum0 : 0 ≤ ((R.getD (done + 1 + i) []).getD c 0 * turnOf p c (rows.getD done [])).fmod p := Int.fmod_nonneg_of_pos _ hpp.1
      refine st_item (ds := rowsD R) (n := done + 1 + i) (d := .list (intsD (clearRow p (turnOf p c (rows.getD done [])) c (R.getD done []) (R.getD (done + 1 + i) [])))) S6 hA (fun _ h => by cases h) (ev_comp2 (intsD (clearRow p (turnOf p c (rows.getD done [])) c (R.getD done []) (R.getD (done + 1 + i) []))) (src_zip (ev_item (Ev.ownL (ev_name rfl) List.mem_cons_self) (ev_name rfl) (by lia) (by rw [Int.toNat_natCast]; exact rowsD_get (by lia)) (by lia)) (ev_item (Ev.ownL (ev_name rfl) List.mem_cons_self) (ev_name rfl) (by lia) (by rw [Int.toNat_natCast]; exact rowsD_get (by lia)) (by lia))) (scOk (by kernel_rfl)) (.inl rfl) (.inl rfl) ?_ ?_ ?_) (ev_name rfl) (ev_name rfl) (by rw [rowsD_len]; lia) (by rw [rowsD_len]; lia) fun s7 S7 => ?_
      · simp only [zipD, List.length_zipWith, intsD_len]; lia
      · rw [intsD_len]
        simp only [zipD, List.length_zipWith, intsD_len]
        rw [(clearRow_ok hpp.1 q3 ⟨q1, q2⟩).1, q1, q3, Nat.min_self]
      · intro j d d' hj hj'
        obtain ⟨x, y, hx, hy, rfl⟩ := zipD_get hj
        obtain ⟨k1, rfl⟩ := intsD_item hx
        obtain ⟨k2, rfl⟩ := intsD_item hy
        refine ⟨_, _, rfl, ?_⟩
        obtain ⟨k3, rfl⟩ := intsD_item hj'
        have e9 : (clearRow p (turnOf p c (rows.getD done [])) c (R.getD done []) (R.getD (done + 1 + i) [])).getD j 0 = ((R.getD (done + 1 + i) []).getD j 0 - ((R.getD (done + 1 + i) []).getD c 0 * turnOf p c (rows.getD done [])).fmod p * (R.getD done []).getD j 0).fmod p := by
          unfold clearRow
          rw [if_pos h]
          rw [List.getD_eq_getElem?_getD, List.getElem?_zipWith, getD_get k1, getD_get k2]
          rfl
        rw [e9]
        exact ev_mod (ev_minus (ev_name rfl) (ev_mul (ev_name rfl) (ev_name rfl) (.inl (by lia)))) (ev_name rfl) (by lia)
      · refine st_done (st_done ⟨rfl, S7.to ⟨rfl, rfl, rfl, rfl, rfl, trivial⟩ (hσ := ?_)⟩)
        show [(a, Own.list (rowsD (clearN p rows done c (i + 1))))] = [(a, Own.list ((rowsD R).set _ _))]
        rw [rowsD_set, hstep]
    · simp only [decide_eq_false_iff_not] at h
      refine st_done (st_done ⟨rfl, S5.to ⟨rfl, rfl, rfl, rfl, rfl, trivial⟩ (hσ := ?_)⟩)
      show [(a, Own.list (rowsD (clearN p rows done c (i + 1))))] = [(a, Own.list (rowsD R))]
      rw [hstep]
      have : clearRow p (turnOf p c (rows.getD done [])) c (R.getD done []) (R.getD (done + 1 + i) []) = R.getD (done + 1 + i) [] := by
        unfold clearRow; rw [if_neg h]
      rw [this]
      congr 4
      rw [List.getD_eq_getElem?_getD, List.getElem?_eq_getElem (by lia : done + 1 + i < R.length)]
      simp
  · rw [rangeD_len] at S3
    refine st_done ?_
    exact St.finB (c0 := .list (rowsD rows)) (c := .list (rowsD (clearS p rows done c))) (fl := .next) (v := .none) S3 rfl hW List.mem_cons_self .none
end
end Mine
end
section
open PySem PySem.Calls PyProof.Rows
set_option linter.unusedVariables false
set_option maxRecDepth 100000
namespace Mine

theorem noswapC {env : Env} {x y : Str} {p q tp vp : Pos} {k k' : Nat} {e1 e2 : Expr} (hb : env.scope.kind = .function) (hx : env.kindOf x = some .cell) (hy : env.kindOf y = some .local) (hpq : (q.line == p.line) = true)
    (hs : ([e1, e2].any fun | .Starred .. => true | _ => false) = false := by rfl) :
    swappedStores [.Tuple [.Name x p, .Name y q] k tp] (.Tuple [e1, e2] k' vp) env = pure none := by
  have h1 : (env.blockKind != .function) = false := by rw [blockKind_fn hb]; rfl
  have hqp : q.line = p.line := by simpa using hpq
  have h2 : ([Expr.Name x p, Expr.Name y q].filterMap fun t => match t with
      | .Name id pos => if env.kindOf id == some .local && pos.line == p.line then some id else none
      | _ => none) = [y] := by
    simp [hx, hy, hqp]
  unfold swappedStores
  show (if (!([Expr.Name x p, Expr.Name y q].length == 2 || [Expr.Name x p, Expr.Name y q].length == 3) || [e1, e2].length != [Expr.Name x p, Expr.Name y q].length || env.blockKind != .function) = true then pure none else _) = _
  rw [h1, if_neg (by simp)]
  show (if ([e1, e2].any fun | .Starred .. => true | _ => false) = true then pure none else _) = _
  rw [hs, if_neg (by simp)]
  show (if (([Expr.Name x p, Expr.Name y q].filterMap fun t => match t with
      | .Name id pos => if env.kindOf id == some .local && pos.line == p.line then some id else none
      | _ => none).length != [Expr.Name x p, Expr.Name y q].length || ([Expr.Name x p, Expr.Name y q].filterMap fun t => match t with
      | .Name id pos => if env.kindOf id == some .local && pos.line == p.line then some id else none
      | _ => none).eraseDups.length != ([Expr.Name x p, Expr.Name y q].filterMap fun t => match t with
      | .Name id pos => if env.kindOf id == some .local && pos.line == p.line then some id else none
      | _ => none).length) = true then pure none else _) = _
  rw [h2, if_pos (by simp)]

section
variable {C : Cx}
local macro_rules | `(tactic| walk_at "side") => `(tactic| first
  | decide
  | assumption
  | lia
  | (left; lia)
  | (right; lia)
  | (simp; lia)
  | (simp; done))

noncomputable def unitRow (m at_ : Nat) : List Int := (List.range m).map fun spot => if spot = at_ then 1 else 0
noncomputable def initW (rows : List (List Int)) : List (List Int) := (List.range rows.length).map fun at_ => rows.getD at_ [] ++ unitRow rows.length at_
noncomputable def swapW (w : List (List Int)) (i j : Nat) : List (List Int) := (w.set i (w.getD j [])).set j (w.getD i [])
noncomputable def nullStep (p : Int) (c : Nat) (q : List (List Int) × Nat) : List (List Int) × Nat :=
  if pivS q.1 q.2 c ≥ 0 then (clearS p (swapW q.1 q.2 (pivS q.1 q.2 c).toNat) q.2 c, q.2 + 1) else q
noncomputable def nullSeq (p : Int) (rows : List (List Int)) : Nat → List (List Int) × Nat
  | 0 => (initW rows, 0)
  | j + 1 => nullStep p j (nullSeq p rows j)
noncomputable def nullS (p : Int) (rows : List (List Int)) (wide : Nat) : List (List Int) := ((nullSeq p rows wide).1.drop (nullSeq p rows wide).2).map fun r => r.drop wide

theorem pivN_spec (rows : List (List Int)) (c : Nat) : ∀ k at_, pivN rows c k at_ ≥ 0 → ∃ m, pivN rows c k at_ = (m : Nat) ∧ at_ ≤ m ∧ m < at_ + k ∧ (rows.getD m []).getD c 0 ≠ 0
  | 0, at_, h => by rw [pivN] at h; lia
  | k + 1, at_, h => by
    rw [pivN] at h ⊢
    split
    · rename_i q; exact ⟨at_, rfl, Nat.le_refl _, by lia, q⟩
    · rename_i q
      rw [if_neg q] at h
      obtain ⟨m, h1, h2, h3, h4⟩ := pivN_spec rows c k (at_ + 1) h
      exact ⟨m, h1, by lia, by lia, h4⟩
theorem pivS_spec {rows : List (List Int)} {done c : Nat} (h : pivS rows done c ≥ 0) : ∃ m, pivS rows done c = (m : Nat) ∧ done ≤ m ∧ m < rows.length ∧ (rows.getD m []).getD c 0 ≠ 0 := by
  obtain ⟨m, h1, h2, h3, h4⟩ := pivN_spec rows c _ _ h
  exact ⟨m, h1, h2, by lia, h4⟩
theorem swapW_len (w : List (List Int)) (i j : Nat) : (swapW w i j).length = w.length := by simp [swapW]
theorem swapW_get {w : List (List Int)} {i j : Nat} (hi : i < w.length) (hj : j < w.length) : (swapW w i j).getD i [] = w.getD j [] := by
  unfold swapW
  rw [List.getD_eq_getElem?_getD, List.getElem?_set]
  by_cases q : j = i
  · rw [if_pos q, q, List.length_set, if_pos hi]; rfl
  · rw [if_neg q, List.getElem?_set, if_pos rfl, if_pos hi]; rfl
theorem swapW_ok {p : Int} {L : Nat} {w : List (List Int)} (h : OkRows p L w) {i j : Nat} (hi : i < w.length) (hj : j < w.length) : OkRows p L (swapW w i j) := (h.set (h.row hj)).set (h.row hi)
theorem clearS_len (p : Int) (w : List (List Int)) (d c : Nat) : (clearS p w d c).length = w.length := clearN_len ..
theorem clearS_ok {p : Int} {L : Nat} {w : List (List Int)} (hp : 0 < p) (h : OkRows p L w) {d c : Nat} (hd : d < w.length) : OkRows p L (clearS p w d c) := clearN_ok hp h d c _ (by lia)

theorem initW_len (rows : List (List Int)) : (initW rows).length = rows.length := by simp [initW]
theorem initW_get {rows : List (List Int)} {i : Nat} (h : i < rows.length) : (initW rows).getD i [] = rows.getD i [] ++ unitRow rows.length i := by
  unfold initW
  rw [List.getD_eq_getElem?_getD, List.getElem?_map, List.getElem?_range h]; rfl
theorem initW_ok {p : Int} {wide : Nat} {rows : List (List Int)} (hp : 2 ≤ p) (h : OkRows p wide rows) : OkRows p (wide + rows.length) (initW rows) := fun r hr => by
  unfold initW at hr
  obtain ⟨i, hi, rfl⟩ := List.mem_map.mp hr
  rw [List.mem_range] at hi
  obtain ⟨h1, h2⟩ := h.row hi
  refine ⟨by rw [List.length_append, h1]; simp [unitRow], fun x hx => ?_⟩
  rcases List.mem_append.mp hx with q | q
  · exact h2 x q
  · unfold unitRow at q
    obtain ⟨j, _, rfl⟩ := List.mem_map.mp q
    split <;> lia
/-- what holds between the columns -/
structure NullI (p : Int) (L m : Nat) (q : List (List Int) × Nat) : Prop where
  ok : OkRows p L q.1
  len : q.1.length = m
  done : q.2 ≤ m
theorem nullStep_ok {p : Int} {L m c : Nat} {q : List (List Int) × Nat} (hp : 0 < p) (h : NullI p L m q) : NullI p L m (nullStep p c q) := by
  unfold nullStep
  split
  · rename_i hp'
    obtain ⟨k, h1, h2, h3, h4⟩ := pivS_spec hp'
    have hd : q.2 < q.1.length := by lia
    rw [h1, Int.toNat_natCast]
    refine ⟨clearS_ok hp (swapW_ok h.ok hd h3) (by rw [swapW_len]; exact hd), by show (clearS _ _ _ _).length = m; rw [clearS_len, swapW_len, h.len], ?_⟩
    have := h.len
    show q.2 + 1 ≤ m
    lia
  · exact h
theorem nullSeq_ok {p : Int} {wide : Nat} {rows : List (List Int)} (hp : 2 ≤ p) (h : OkRows p wide rows) : ∀ j, NullI p (wide + rows.length) rows.length (nullSeq p rows j)
  | 0 => ⟨initW_ok hp h, initW_len rows, Nat.zero_le _⟩
  | j + 1 => nullStep_ok (by lia) (nullSeq_ok hp h j)
theorem intsD_app (a b : List Int) : intsD (a ++ b) = intsD a ++ intsD b := by simp [intsD]
theorem rowsD_drop (rows : List (List Int)) (k : Nat) : (rowsD rows).drop k = rowsD (rows.drop k) := by simp [rowsD, List.map_drop]

theorem null_ok (hC : Good C) {n : Nat} (rows : List (List Int)) (wide : Nat) (p : Int) (hp : p = 2 ∨ p = 3 ∨ p = 5) (hm : 0 < rows.length) (hm2 : rows.length ≤ 100) (hw : OkRows p wide rows) (hwide : wide ≤ 100) :
    FnP C (n + 4) ("null_space" : Str) [.list (rowsD rows), .int p] (.list (rowsD (nullS p rows wide))) := by
  have f1 : ∃ d ∈ C.defs, d.name = ("pivot_row" : Str) := hC.fn 3 rfl rfl
  have f2 : ∃ d ∈ C.defs, d.name = ("clear_below" : Str) := hC.fn 4 rfl rfl
  have hp2 : 2 ≤ p := by lia
  have hrl := rowsD_len rows
  refine fn_ok' (dR 4) (hC.mem 2 rfl) ["rows", "p"] rfl ?_ (by decide +kernel) ?_
  · intro pm code doc vals hl
    match vals, hl with
    | [x, y], _ => rfl
  intro A env W0 Y s0 s' E hA hW S
  refine st_assign S hA (ev_len (Ev.toL (ev_name rfl)) (by lia)) (.inr rfl) fun s1 S1 => ?_
  refine st_comp2 (rowsD (initW rows)) S1 hA (src_enum (ev_name rfl)) (scOk (by kernel_rfl)) (.inr rfl) (.inl rfl) (by rw [enumD_len, hrl]; lia) (by rw [enumD_len, hrl, rowsD_len, initW_len]) (fun i d d' hd hd' => ?_) rfl fun a s2 S2 hne haX haB => ?_
  · obtain ⟨d1, hd1, rfl⟩ := enumD_get hd
    obtain ⟨hi, rfl⟩ := rowsD_item hd1
    obtain ⟨_, rfl⟩ := rowsD_item hd'
    refine ⟨_, _, rfl, ?_⟩
    rw [initW_get hi, intsD_app]
    obtain ⟨h1, h2⟩ := hw.row hi
    refine ev_addL (ev_listL (Ev.toL (ev_name rfl)) (by rw [intsD_len]; lia)) (ev_comp1 (intsD (unitRow rows.length i)) (src_range1 (k := rows.length) (ev_name rfl) (by rw [hrl]; lia) (by rw [hrl]; lia)) (scOk (by kernel_rfl)) (.inl rfl) (by rw [rangeD_len]; lia) (by rw [rangeD_len, intsD_len]; simp [unitRow]) ?_) (by rw [intsD_len, intsD_len]; simp only [unitRow, List.length_map, List.length_range]; lia)
    intro j d d' hd hd'
    obtain ⟨hj, rfl⟩ := rangeD_get hd
    obtain ⟨_, rfl⟩ := intsD_item hd'
    refine Ev.is (ev_intB (ev_eq (ev_name rfl) (ev_name rfl))) ?_
    unfold unitRow
    rw [List.getD_eq_getElem?_getD, List.getElem?_map, List.getElem?_range hj]
    simp only [decide_eq_true_eq, Option.map_some, Option.getD_some]
    congr 1
    by_cases q : j = i
    · rw [if_pos (by lia), if_pos q]
    · rw [if_neg (by lia), if_neg q]
  · have hr0 := hw.row (i := 0) hm
    have S2' : St ((⟨C, n + 3, (dR 4).scope.names, [("work", .own a), ("many", .int ((rows.length : Nat) : Int)), ("rows", .list (rowsD rows)), ("p", .int p)], [(a, .list (rowsD (initW rows)))]⟩ : G)) env (a :: (W0 ++ ([] : List (Addr × Own)).map (·.1))) Y [s0] s2 := S2.to ⟨rfl, by show some (D.int _) = some (D.int _); rw [hrl], rfl, rfl, trivial⟩
    refine st_tuple (ds := [.int (wide : Nat), .int (0 : Nat)]) [("wide", _), ("done", _)] S2' hA (ev_tup (evs_cons (ev_ife (P := isD (.int (wide : Nat))) (tr_gt (ev_name rfl) ev_int) (fun h => ?_) fun h => ?_) (evs_cons ev_int evs_nil))) rfl (kinds2 (.inr rfl) (.inl rfl)) (fun s3 S3 => ?_) rfl (noswapC S2.rd.fn (S2'.rd.kind rfl (by decide)) (S2'.rd.kind rfl (by decide)) rfl)
    · refine Ev.is (ev_len (Ev.toL (ev_itemL (d := .list (intsD (rows.getD 0 []))) (ev_name rfl) ev_int (by decide) (rowsD_get hm) (by decide))) (by rw [intsD_len]; lia)) ?_
      rw [intsD_len, hr0.1]
    · simp only [decide_eq_false_iff_not] at h; lia
    · have NI := nullSeq_ok hp2 hw
      refine st_for S3 hA (src_range1 (k := wide) (ev_name rfl) (by lia) (by lia)) ⟨_, _, rfl⟩ (fun j => ⟨C, n + 3, (dR 4).scope.names, [("wide", .int (wide : Nat)), ("done", .int ((nullSeq p rows j).2 : Nat)), ("work", .own a), ("p", .int p)], [(a, .list (rowsD (nullSeq p rows j).1))]⟩) (fun _ => rfl) (fun Y' s' S' => S'.to ⟨rfl, rfl, rfl, rfl, trivial⟩) (fun j d hd => ?_) (fun s4 S4 => ?_)
      · obtain ⟨hj, rfl⟩ := rangeD_get hd
        refine ⟨(⟨C, n + 3, (dR 4).scope.names, [("wide", .int (wide : Nat)), ("done", .int ((nullSeq p rows j).2 : Nat)), ("work", .own a), ("p", .int p)], [(a, .list (rowsD (nullSeq p rows j).1))]⟩ : G).set "column" (.int (0 + (j : Int))), rfl, tgt_name (.inl rfl), fun Y' B' s' E' S' => ?_⟩
        have N := NI j
        obtain ⟨q, hq⟩ : ∃ q, q = nullSeq p rows j := ⟨_, rfl⟩
        have hnext : nullSeq p rows (j + 1) = nullStep p j q := by rw [hq]; rfl
        rw [← hq] at N
        have S5 : St ((⟨C, n + 3, (dR 4).scope.names, [("column", .int (j : Int)), ("wide", .int (wide : Nat)), ("done", .int (q.2 : Nat)), ("work", .own a), ("p", .int p)], []⟩ : G).own [(a, .list (rowsD q.1))]) env (a :: (W0 ++ ([] : List (Addr × Own)).map (·.1))) Y' B' s' := by
          rw [hq]; exact S'.to ⟨by show some (D.int _) = some (D.int _); congr 2; lia, rfl, rfl, rfl, rfl, trivial⟩
        have hlen := N.len
        have hdone := N.done
        have hL : wide + rows.length ≤ 200 := by lia
        refine st_assignX S5 hA (evx_call (g := ⟨C, n + 3, (dR 4).scope.names, [("column", .int (j : Int)), ("wide", .int (wide : Nat)), ("done", .int (q.2 : Nat)), ("work", .own a), ("p", .int p)], []⟩) (σ := []) (pivot_ok hC (n := n + 2) q.1 q.2 j a (by lia) (by lia) (by lia) (fun r hr => by rw [(N.ok r hr).1]; lia)) (evs_cons (ev_name rfl) (evs_cons (ev_name rfl) (evs_cons (ev_name rfl) evs_nil))) (fun _ h => by cases h)) rfl (.inl rfl) fun s6 S6 => ?_
        refine st_if S6 hA (tr_ge (ev_name rfl) ev_int) (fun h s7 S7 => ?_) (fun h s7 S7 => ?_)
        · simp only [decide_eq_true_eq] at h
          obtain ⟨k, h1, h2, h3, h4⟩ := pivS_spec h
          have S8 : St ((⟨C, n + 3, (dR 4).scope.names, [("pivot", .int (k : Nat)), ("column", .int (j : Int)), ("wide", .int (wide : Nat)), ("done", .int (q.2 : Nat)), ("work", .own a), ("p", .int p)], []⟩ : G).own [(a, .list (rowsD q.1))]) env (a :: (W0 ++ ([] : List (Addr × Own)).map (·.1))) Y' B' s7 := S7.to ⟨by show some (D.int _) = some (D.int _); rw [h1], rfl, rfl, rfl, rfl, rfl, trivial⟩
          have hd : q.2 < q.1.length := by lia
          refine st_swapItems S8 hA (fun _ h => by cases h) (d1 := .list (intsD (q.1.getD k []))) (d2 := .list (intsD (q.1.getD q.2 []))) (ev_item (Ev.ownL (ev_name rfl) List.mem_cons_self) (ev_name rfl) (by lia) (by rw [Int.toNat_natCast]; exact rowsD_get h3) (by lia)) (ev_item (Ev.ownL (ev_name rfl) List.mem_cons_self) (ev_name rfl) (by lia) (by rw [Int.toNat_natCast]; exact rowsD_get hd) (by lia))
            (ev_name rfl) (ev_name rfl) (fun _ => ev_name rfl) (fun _ => ev_name rfl) (by rw [rowsD_len]; exact hd) (by rw [rowsD_len]; exact h3) (by rw [rowsD_len]; lia) (fun s9 S9 => ?_) rfl (noswap S8.rd.fn)
          rw [rowsD_set, rowsD_set] at S9
          have hwl : (swapW q.1 q.2 k).length = rows.length := by rw [swapW_len, hlen]
          refine st_callX S9 hA (evx_call (g := ⟨C, n + 3, (dR 4).scope.names, [("pivot", .int (k : Nat)), ("column", .int (j : Int)), ("wide", .int (wide : Nat)), ("done", .int (q.2 : Nat)), ("work", .own a), ("p", .int p)], []⟩) (σ := []) (clear_ok hC (n := n) (swapW q.1 q.2 k) q.2 j (wide + rows.length) p a hp (by lia) (by lia) (by lia) (by lia) (swapW_ok N.ok hd h3) (by rw [swapW_get hd h3]; exact h4)) (evs_cons (ev_name rfl) (evs_cons (ev_name rfl) (evs_cons (ev_name rfl) (evs_cons (ev_name rfl) evs_nil)))) (fun _ h => by cases h)) fun s10 S10 => ?_
          have hst : nullStep p j q = (clearS p (swapW q.1 q.2 k) q.2 j, q.2 + 1) := by
            unfold nullStep; rw [if_pos h, h1, Int.toNat_natCast]
          refine st_assign S10 hA (ev_add (ev_name rfl) ev_int) (.inl rfl) fun s11 S11 => ?_
          refine st_done (st_done ⟨rfl, S11.to ⟨rfl, ?_, rfl, rfl, trivial⟩ (hσ := ?_)⟩)
          · show some (D.int _) = some (D.int _)
            rw [hnext, hst]; rfl
          · show [(a, Own.list (rowsD (nullSeq p rows (j + 1)).1))] = _
            rw [hnext, hst]; rfl
        · simp only [decide_eq_false_iff_not] at h
          have hst : nullStep p j q = q := by unfold nullStep; rw [if_neg h]
          refine st_done (st_done ⟨rfl, S7.to ⟨rfl, ?_, rfl, rfl, trivial⟩ (hσ := ?_)⟩)
          · show some (D.int _) = some (D.int _)
            rw [hnext, hst]
          · show [(a, Own.list (rowsD (nullSeq p rows (j + 1)).1))] = _
            rw [hnext, hst]; rfl
      · rw [rangeD_len] at S4
        have N := NI wide
        obtain ⟨q, hq⟩ : ∃ q, q = nullSeq p rows wide := ⟨_, rfl⟩
        rw [← hq] at N S4
        have hlen := N.len
        refine st_ret S4 hA (P := isD (.list (rowsD (nullS p rows wide)))) ?_ fun v s5 r S5 => S5.fin (by
          intro y hy
          rcases List.mem_cons.mp hy with rfl | hy
          · exact haB _ List.mem_cons_self
          · simp at hy; exact hW y hy) r
        refine ev_comp1 (rowsD (nullS p rows wide)) (src_list (Ev.is (ev_slice (a := some q.2) (b := none) (Ev.ownL (ev_name rfl) List.mem_cons_self) (ev_name rfl) trivial (by rw [rowsD_len]; lia)) (show _ = D.list (rowsD (q.1.drop q.2)) by unfold sliceL; rw [← rowsD_drop]; rfl))) (scOk (by kernel_rfl)) (.inl rfl) (by rw [rowsD_len, List.length_drop]; lia) (by rw [rowsD_len, rowsD_len]; unfold nullS; rw [List.length_map, hq]) ?_
        intro i d d' hd hd'
        obtain ⟨hi, rfl⟩ := rowsD_item hd
        obtain ⟨_, rfl⟩ := rowsD_item hd'
        have e : (nullS p rows wide).getD i [] = ((q.1.drop q.2).getD i []).drop wide := by
          unfold nullS
          rw [← hq, List.getD_eq_getElem?_getD, List.getElem?_map, List.getD_eq_getElem?_getD, List.getElem?_eq_getElem hi]; rfl
        rw [e]
        have hrow : ((q.1.drop q.2).getD i []).length ≤ 200 := by
          rw [List.getD_eq_getElem?_getD, List.getElem?_eq_getElem hi]
          have := (N.ok _ (List.mem_of_mem_drop (List.getElem_mem hi))).1
          simp only [Option.getD_some]
          lia
        exact Ev.is (ev_slice (a := some wide) (b := none) (Ev.toL (ev_name rfl)) (ev_name rfl) trivial (by rw [intsD_len]; lia)) (by unfold sliceL; rw [← intsD_drop]; rfl)
end
end Mine
end
section
open PySem PySem.Calls PyProof.Rows
set_option linter.unusedVariables false
set_option maxRecDepth 100000
namespace Mine
section
variable {C : Cx}
local macro_rules | `(tactic| walk_at "side") => `(tactic| first
  | decide
  | assumption
  | omega
  | (left; omega)
  | (right; omega)
  | (simp; omega)
  | (simp; done))

noncomputable def drawT : List Int := [0, 1, 1, 0, 1, 1, 0, 1, 1, 2]
noncomputable def drawS (xs : List Int) (k : Nat) (many : Int) : Int :=
  if k < xs.length then (if xs.getD k 0 < 0 then -xs.getD k 0 else xs.getD k 0).fmod many else (drawT.getD (k % 10) 0).fmod many
noncomputable def poolD (xs : List Int) (k : Nat) : List D := [.list (intsD xs), .int (k : Nat)]

inductive IntsE : List Expr → List Int → Prop
  | nil : IntsE [] []
  | cons {es : List Expr} {cs : List Int} {c : Int} {k : Nat} {p : Pos} : IntsE es cs → IntsE (.Constant (.int c) k p :: es) (c :: cs)
theorem evs_ints {g : G} {es : List Expr} {cs : List Int} (h : IntsE es cs) : Evs g es (intsD cs) := by
  induction h with
  | nil => exact evs_nil
  | cons _ ih => exact evs_cons ev_int ih (fun env => rfl)
theorem plain_bin {o : Operator} {a b : Expr} {p : Pos} : plainSub (.BinOp a o b p) := fun _ _ => rfl
theorem ev_pick {g : G} {es : List Expr} {k : Nat} {p q : Pos} {slice : Expr} {cs : List Int} {i : Int} (j : Nat) (h2 : Ev g slice (.int i)) (hij : i = (j : Int)) (hi : j < cs.length) (hsz : cs.length ≤ 1000) (hs : plainSub slice) (h : IntsE es cs) : Ev g (.Subscript (.Tuple es k p) slice q) (.int (cs.getD j 0)) := by
  subst hij
  exact ev_itemT (ds := intsD cs) (ev_tup (evs_ints h) (by rw [intsD_len]; exact hsz)) h2 (by omega) (by rw [Int.toNat_natCast]; exact intsD_getD hi) (by omega) hs
theorem draw_ok (hC : Good C) {n : Nat} (xs : List Int) (k : Nat) (many : Int) (a : Addr) (hx : xs.length ≤ 1000) (hk : k ≤ 1000) (hm : many ≠ 0) :
    FnC C (n + 1) ("_law_draw" : Str) [.own a, .int many] [(a, .list (poolD xs k))] (.int (drawS xs k many)) [(a, .list (poolD xs (k + 1)))] := by
  refine fn_ok' (dR 16) (hC.mem 11 rfl) ["pool", "many"] rfl ?_ (by decide +kernel) ?_
  · intro pm code doc vals hl
    match vals, hl with
    | [x, y], _ => rfl
  intro A env W0 Y s0 s' E hA hW S
  have hlx := intsD_len xs
  refine st_assign S hA (d := .int (k : Nat)) (ev_item (ds := poolD xs k) (Ev.ownL (ev_name rfl) List.mem_cons_self) ev_int (by decide) rfl (by decide)) (.inl rfl) fun s1 S1 => ?_
  have S2 : St ((⟨C, n, (dR 16).scope.names, [("spot", .int (k : Nat)), ("pool", .own a), ("many", .int many)], []⟩ : G).own [(a, .list (poolD xs k))]) env (W0 ++ ([(a, Own.list (poolD xs k))] : List (Addr × Own)).map (·.1)) Y [s0] s1 := S1.to ⟨rfl, rfl, rfl, trivial⟩
  refine st_item (n := 1) S2 hA (fun _ h => by cases h) (d := .int ((k + 1 : Nat) : Int)) (Ev.is (ev_add (ev_name rfl) ev_int) (by congr 1)) (ev_name rfl) ev_int (by show 1 < 2; decide) (by show 2 ≤ _; decide) fun s3 S3 => ?_
  have S4 : St ((⟨C, n, (dR 16).scope.names, [("spot", .int (k : Nat)), ("pool", .own a), ("many", .int many)], []⟩ : G).own [(a, .list (poolD xs (k + 1)))]) env (W0 ++ ([(a, Own.list (poolD xs k))] : List (Addr × Own)).map (·.1)) Y [s0] s3 := S3
  refine st_if S4 hA (tr_lt (ev_name rfl) (ev_len (Ev.toL (ev_item (ds := poolD xs (k + 1)) (Ev.ownL (ev_name rfl) List.mem_cons_self) ev_int (by decide) rfl (by decide))) (by omega))) (fun h s5 S5 => ?_) (fun h s5 S5 => ?_)
  · simp only [decide_eq_true_eq] at h
    have hk2 : k < xs.length := by omega
    refine st_ret S5 hA (P := isD (.int (drawS xs k many))) (Ev.is (ev_mod (ev_abs (ev_itemL (ev_item (ds := poolD xs (k + 1)) (Ev.ownL (ev_name rfl) List.mem_cons_self) ev_int (by decide) rfl (by decide)) (ev_name rfl) (by omega) (by rw [Int.toNat_natCast]; exact intsD_getD hk2) (by omega))) (ev_name rfl) hm) ?_) fun v s6 r S6 => S6.finB (c0 := .list (poolD xs k)) (fl := .ret v) rfl hW List.mem_cons_self (r.weak fun b hb => List.mem_append_right _ hb)
    unfold drawS
    rw [if_pos hk2]
  · simp only [decide_eq_false_iff_not] at h
    have hk2 : ¬ k < xs.length := by omega
    refine st_done ?_
    change wpAny (modC C) A (execs (_ :: _) env) _ E s5
    have hmod : (k : Int).fmod 10 = ((k % 10 : Nat) : Int) := by rw [Int.fmod_eq_emod_of_nonneg _ (by decide)]; omega
    have hlt : k % 10 < 10 := Nat.mod_lt _ (by decide)
    have hS : drawS xs k many = (drawT.getD (k % 10) 0).fmod many := if_neg hk2
    rw [hS]
    have key : ∀ (es : List Expr) (k1 : Nat) (p1 p2 p3 p4 p5 p6 p7 : Pos) (k2 : Nat), IntsE es drawT → Ev ((⟨C, n, (dR 16).scope.names, [("spot", .int (k : Nat)), ("pool", .own a), ("many", .int many)], []⟩ : G).own [(a, .list (poolD xs (k + 1)))]) (.BinOp (.Subscript (.Tuple es k1 p1) (.BinOp (.Name "spot" p2) .Mod (.Constant (.int 10) k2 p3) p4) p5) .Mod (.Name "many" p6) p7) (.int ((drawT.getD (k % 10) 0).fmod many)) := by
      intro es k1 p1 p2 p3 p4 p5 p6 p7 k2 h
      exact ev_mod (ev_pick (cs := drawT) (k % 10) (ev_mod (ev_name rfl) ev_int (by decide)) hmod hlt (by decide) plain_bin h) (ev_name rfl) hm
    have TT := fun (es : List Expr) (k1 : Nat) (p1 p2 p3 p4 p5 p6 p7 : Pos) (k2 : Nat) h (pos : Pos) (rest : List Stmt) (Q : Flow → Shared → Prop) (E : Value → Shared → Prop) kk => st_ret (pos := pos) (rest := rest) (Q := Q) (E := E) S5 hA (key es k1 p1 p2 p3 p4 p5 p6 p7 k2 h) kk
    refine TT _ _ _ _ _ _ _ _ _ _ ?_ _ _ _ _ ?_
    · unfold drawT; repeat (first | exact .nil | refine .cons ?_)
    · intro v s6 r S6
      exact S6.finB (c0 := .list (poolD xs k)) (fl := .ret v) rfl hW List.mem_cons_self (r.weak fun b hb => List.mem_append_right _ hb)
/-- the words that are sums of multiples of the rows -/
noncomputable def wordOf (p : Int) (word row : List Int) (number : Int) : List Int := List.zipWith (fun one other => (one + number * other).fmod p) word row
noncomputable def wordNum (p : Int) (word row : List Int) (f : List (List Int)) : Nat → List (List Int)
  | 0 => f
  | j + 1 => insK (wordNum p word row f j) (wordOf p word row (1 + (j : Int)))
noncomputable def wordRow (p : Int) (row : List Int) (ws : List (List Int)) (f : List (List Int)) : Nat → List (List Int)
  | 0 => f
  | i + 1 => wordNum p (ws.getD i []) row (wordRow p row ws f i) (p - 1).toNat
noncomputable def wordSeq (p : Int) (rows : List (List Int)) (n : Nat) : Nat → List (List Int)
  | 0 => [List.replicate n 0]
  | i + 1 => wordRow p (rows.getD i []) (wordSeq p rows n i) (wordSeq p rows n i) (wordSeq p rows n i).length
noncomputable def wordsS (p : Int) (rows : List (List Int)) (n : Nat) : List (List Int) := wordSeq p rows n rows.length
noncomputable def wordsD (ws : List (List Int)) : List D := ws.map fun k => .tup (intsD k)
theorem wordsD_len (ws : List (List Int)) : (wordsD ws).length = ws.length := by simp [wordsD]
theorem wordsD_item {ws : List (List Int)} {i : Nat} {d : D} (h : (wordsD ws)[i]? = some d) : i < ws.length ∧ d = .tup (intsD (ws.getD i [])) := by
  have hi : i < ws.length := by
    have := (List.getElem?_eq_some_iff.mp h).1
    rwa [wordsD_len] at this
  refine ⟨hi, ?_⟩
  unfold wordsD at h
  rw [List.getElem?_map, List.getElem?_eq_getElem hi] at h
  rw [List.getD_eq_getElem?_getD, List.getElem?_eq_getElem hi]
  simpa using h.symm
theorem insK_len (ks : List (List Int)) (k : List Int) : (insK ks k).length ≤ ks.length + 1 := by
  unfold insK; split <;> simp
theorem wordNum_len (p : Int) (word row : List Int) (f : List (List Int)) : ∀ j, (wordNum p word row f j).length ≤ f.length + j
  | 0 => Nat.le_refl _
  | j + 1 => by
    have h1 := wordNum_len p word row f j
    have h2 := insK_len (wordNum p word row f j) (wordOf p word row (1 + (j : Int)))
    unfold wordNum; omega
theorem wordRow_len (p : Int) (row : List Int) (ws f : List (List Int)) : ∀ i, (wordRow p row ws f i).length ≤ f.length + i * (p - 1).toNat
  | 0 => by simp [wordRow]
  | i + 1 => by
    have h1 := wordRow_len p row ws f i
    have h2 := wordNum_len p (ws.getD i []) row (wordRow p row ws f i) (p - 1).toNat
    unfold wordRow
    rw [Nat.succ_mul]
    omega
theorem wordSeq_len {p : Int} (hp : 1 ≤ p) (rows : List (List Int)) (n : Nat) : ∀ i, (wordSeq p rows n i).length ≤ p.toNat ^ i
  | 0 => by simp [wordSeq]
  | i + 1 => by
    have h1 := wordSeq_len hp rows n i
    have h2 := wordRow_len p (rows.getD i []) (wordSeq p rows n i) (wordSeq p rows n i) (wordSeq p rows n i).length
    unfold wordSeq
    have h3 : (wordSeq p rows n i).length + (wordSeq p rows n i).length * (p - 1).toNat = (wordSeq p rows n i).length * p.toNat := by
      have : p.toNat = (p - 1).toNat + 1 := by omega
      rw [this, Nat.mul_succ, Nat.add_comm]
    rw [Nat.pow_succ]
    have h4 : (wordSeq p rows n i).length * p.toNat ≤ p.toNat ^ i * p.toNat := Nat.mul_le_mul_right _ h1
    omega
/-- every word has length n -/
theorem insK_all {P : List Int → Prop} {ks : List (List Int)} {k : List Int} (h : ∀ x ∈ ks, P x) (hk : P k) : ∀ x ∈ insK ks k, P x := fun x hx => by
  unfold insK at hx
  split at hx
  · exact h x hx
  · rcases List.mem_append.mp hx with q | q
    · exact h x q
    · rw [List.mem_singleton.mp q]; exact hk
theorem wordOf_ok {p : Int} (hp : 0 < p) {n : Nat} {word row : List Int} {m : Int} (h1 : word.length = n) (h2 : row.length = n) : (wordOf p word row m).length = n ∧ ∀ x ∈ wordOf p word row m, 0 ≤ x ∧ x < p := by
  unfold wordOf
  refine ⟨by rw [List.length_zipWith, h1, h2, Nat.min_self], fun x hx => ?_⟩
  obtain ⟨i, hi, rfl⟩ := List.mem_iff_getElem.mp hx
  rw [List.getElem_zipWith]
  exact ⟨Int.fmod_nonneg_of_pos _ hp, Int.fmod_lt_of_pos _ hp⟩
noncomputable abbrev OkW (p : Int) (n : Nat) (k : List Int) : Prop := k.length = n ∧ ∀ x ∈ k, 0 ≤ x ∧ x < p
theorem wordNum_ok {p : Int} (hp : 0 < p) {n : Nat} {word row : List Int} {f : List (List Int)} (hf : ∀ k ∈ f, OkW p n k) (h1 : word.length = n) (h2 : row.length = n) : ∀ j, ∀ k ∈ wordNum p word row f j, OkW p n k
  | 0 => hf
  | j + 1 => insK_all (wordNum_ok hp hf h1 h2 j) (wordOf_ok hp h1 h2)
theorem getD_memL {l : List (List Int)} {i : Nat} (h : i < l.length) : l.getD i [] ∈ l := by
  rw [List.getD_eq_getElem?_getD, List.getElem?_eq_getElem h]; exact List.getElem_mem _
theorem wordRow_ok {p : Int} (hp : 0 < p) {n : Nat} {row : List Int} {ws f : List (List Int)} (hf : ∀ k ∈ f, OkW p n k) (hw : ∀ k ∈ ws, OkW p n k) (h2 : row.length = n) : ∀ i, i ≤ ws.length → ∀ k ∈ wordRow p row ws f i, OkW p n k
  | 0, _ => hf
  | i + 1, hi => wordNum_ok hp (wordRow_ok hp hf hw h2 i (by omega)) (hw _ (getD_memL (by omega))).1 h2 _
theorem wordSeq_ok {p : Int} (hp : 0 < p) {n : Nat} {rows : List (List Int)} (hr : ∀ r ∈ rows, r.length = n) : ∀ i, i ≤ rows.length → ∀ k ∈ wordSeq p rows n i, OkW p n k
  | 0, _ => fun k hk => by
    rw [wordSeq, List.mem_singleton] at hk
    subst hk
    exact ⟨List.length_replicate, fun x hx => by rw [List.eq_of_mem_replicate hx]; omega⟩
  | i + 1, hi => wordRow_ok hp (wordSeq_ok hp hr i (by omega)) (wordSeq_ok hp hr i (by omega)) (hr _ (getD_memL (by omega))) _ (Nat.le_refl _)
end
end Mine
end
section
open PySem PySem.Calls PyProof.Rows
set_option linter.unusedVariables false
set_option maxRecDepth 100000
namespace Mine
section
variable {C : Cx}
local macro_rules | `(tactic| walk_at "side") => `(tactic| first
  | decide
  | assumption
  | omega
  | (left; omega)
  | (right; omega)
  | (simp; omega)
  | (simp; done))

theorem words_ok (hC : Good C) {n : Nat} (rows : List (List Int)) (m : Nat) (p : Int) (hp : p = 2 ∨ p = 3 ∨ p = 5) (hm : 2 ≤ m) (hm2 : m ≤ 100) (hr : OkRows p m rows) (hl : rows.length ≤ 1000) (hsz : p.toNat ^ rows.length ≤ 16777216) :
    FnP C (n + 1) ("_law_words" : Str) [.list (rowsD rows), .int m, .int p] (.list (wordsD (wordsS p rows m))) := by
  have hpp : 0 < p ∧ p ≠ 0 ∧ p.natAbs < 1000 := by omega
  refine fn_ok' (dR 17) (hC.mem 12 rfl) ["rows", "n", "p"] rfl ?_ (by decide +kernel) ?_
  · intro pm code doc vals hl
    match vals, hl with
    | [x, y, z], _ => rfl
  intro A env W0 Y s0 s' E hA hW S
  have hrl := rowsD_len rows
  have hseq : ∀ i, i ≤ rows.length → (wordSeq p rows m i).length ≤ 16777216 := fun i hi =>
    Nat.le_trans (wordSeq_len (by omega) rows m i) (Nat.le_trans (Nat.pow_le_pow_right (by omega) hi) hsz)
  have hstep : ∀ i, i < rows.length → (wordSeq p rows m i).length * p.toNat ≤ 16777216 := fun i hi => by
    have h1 := wordSeq_len (by omega : 1 ≤ p) rows m i
    have h2 : (wordSeq p rows m i).length * p.toNat ≤ p.toNat ^ (i + 1) := by rw [Nat.pow_succ]; exact Nat.mul_le_mul_right _ h1
    exact Nat.le_trans h2 (Nat.le_trans (Nat.pow_le_pow_right (by omega) hi) hsz)
  refine st_dict S hA (k := List.replicate m 0) (Ev.is (ev_mulT (ev_tup (evs_cons ev_int evs_nil)) (ev_name rfl) hm (by omega)) (by simp [intsD])) ev_int (.inl rfl) fun x s1 S1 hne hxX hxB => ?_
  refine st_for S1 hA (src_list (ev_name rfl)) ⟨_, _, rfl⟩ (fun i => ⟨C, n, (dR 17).scope.names, [("found", .own x), ("rows", .list (rowsD rows)), ("n", .int m), ("p", .int p)], [(x, .dict (wordSeq p rows m i))]⟩) (fun _ => rfl) (fun Y' s' S' => S'.to ⟨rfl, rfl, rfl, rfl, trivial⟩) (fun i d hd => ?_) fun s3 S3 => ?_
  · obtain ⟨hi, rfl⟩ := rowsD_item hd
    obtain ⟨row, hrow⟩ : ∃ row, row = rows.getD i [] := ⟨_, rfl⟩
    obtain ⟨ws, hws⟩ : ∃ ws, ws = wordSeq p rows m i := ⟨_, rfl⟩
    have hwsl : ws.length ≤ 16777216 := by rw [hws]; exact hseq i (by omega)
    have hwsp : ws.length * p.toNat ≤ 16777216 := by rw [hws]; exact hstep i hi
    obtain ⟨q1, q2⟩ := hr.row hi
    rw [← hrow] at q1 q2 ⊢
    have hok : ∀ k ∈ ws, OkW p m k := by rw [hws]; exact wordSeq_ok hpp.1 (fun r h => (hr r h).1) i (by omega)
    refine ⟨(⟨C, n, (dR 17).scope.names, [("found", .own x), ("rows", .list (rowsD rows)), ("n", .int m), ("p", .int p)], [(x, .dict (wordSeq p rows m i))]⟩ : G).set "row" (.list (intsD row)), rfl, tgt_name (.inl rfl), fun Y' B' s' E' S' => ?_⟩
    have S2 : St (⟨C, n, (dR 17).scope.names, [("row", .list (intsD row)), ("found", .own x), ("rows", .list (rowsD rows)), ("n", .int m), ("p", .int p)], [(x, .dict ws)]⟩) env (x :: (W0 ++ ([] : List (Addr × Own)).map (·.1))) Y' B' s' := by
      rw [hws]; exact S'.to ⟨rfl, rfl, rfl, rfl, rfl, trivial⟩
    refine st_for S2 hA (src_list (ds := wordsD ws) (ev_listDict (ev_name rfl) List.mem_cons_self hwsl)) ⟨_, _, rfl⟩ (fun j => ⟨C, n, (dR 17).scope.names, [("row", .list (intsD row)), ("found", .own x), ("rows", .list (rowsD rows)), ("n", .int m), ("p", .int p)], [(x, .dict (wordRow p row ws ws j))]⟩) (fun _ => rfl) (fun Y' s' S' => S'.to ⟨rfl, rfl, rfl, rfl, rfl, trivial⟩) (fun j d hd => ?_) fun s5 S5 => ?_
    · obtain ⟨hj, rfl⟩ := wordsD_item hd
      obtain ⟨word, hword⟩ : ∃ word, word = ws.getD j [] := ⟨_, rfl⟩
      obtain ⟨f, hf⟩ : ∃ f, f = wordRow p row ws ws j := ⟨_, rfl⟩
      have hwl : word.length = m := by rw [hword]; exact (hok _ (getD_memL hj)).1
      have hfl : f.length + (p - 1).toNat ≤ 16777216 := by
        have h1 := wordRow_len p row ws ws j
        rw [← hf] at h1
        have h2 : ws.length * p.toNat = ws.length + ws.length * (p - 1).toNat := by
          have : p.toNat = (p - 1).toNat + 1 := by omega
          rw [this, Nat.mul_succ, Nat.add_comm]
        have h3 : j * (p - 1).toNat + (p - 1).toNat ≤ ws.length * (p - 1).toNat := by
          rw [← Nat.succ_mul]; exact Nat.mul_le_mul_right _ hj
        omega
      rw [← hword]
      refine ⟨(⟨C, n, (dR 17).scope.names, [("row", .list (intsD row)), ("found", .own x), ("rows", .list (rowsD rows)), ("n", .int m), ("p", .int p)], [(x, .dict (wordRow p row ws ws j))]⟩ : G).set "word" (.tup (intsD word)), rfl, tgt_name (.inl rfl), fun Y' B' s' E' S' => ?_⟩
      have S4 : St (⟨C, n, (dR 17).scope.names, [("word", .tup (intsD word)), ("row", .list (intsD row)), ("found", .own x), ("rows", .list (rowsD rows)), ("n", .int m), ("p", .int p)], [(x, .dict f)]⟩) env (x :: (W0 ++ ([] : List (Addr × Own)).map (·.1))) Y' B' s' := by
        rw [hf]; exact S'.to ⟨rfl, rfl, rfl, rfl, rfl, rfl, trivial⟩
      refine st_for S4 hA (src_range2 (k := (p - 1).toNat) ev_int (ev_name rfl) rfl (by omega) (by omega)) ⟨_, _, rfl⟩ (fun l => ⟨C, n, (dR 17).scope.names, [("word", .tup (intsD word)), ("row", .list (intsD row)), ("found", .own x), ("rows", .list (rowsD rows)), ("n", .int m), ("p", .int p)], [(x, .dict (wordNum p word row f l))]⟩) (fun _ => rfl) (fun Y' s' S' => S'.to ⟨rfl, rfl, rfl, rfl, rfl, rfl, trivial⟩) (fun l d hd => ?_) fun s6 S6 => ?_
      · obtain ⟨hll, rfl⟩ := rangeD_get hd
        refine ⟨(⟨C, n, (dR 17).scope.names, [("word", .tup (intsD word)), ("row", .list (intsD row)), ("found", .own x), ("rows", .list (rowsD rows)), ("n", .int m), ("p", .int p)], [(x, .dict (wordNum p word row f l))]⟩ : G).set "number" (.int (1 + (l : Nat))), rfl, tgt_name (.inr rfl), fun Y' B' s' E' S' => ?_⟩
        have S7 : St ((⟨C, n, (dR 17).scope.names, [("number", .int (1 + (l : Nat))), ("word", .tup (intsD word)), ("row", .list (intsD row)), ("found", .own x), ("rows", .list (rowsD rows)), ("n", .int m), ("p", .int p)], []⟩ : G).own [(x, .dict (wordNum p word row f l))]) env (x :: (W0 ++ ([] : List (Addr × Own)).map (·.1))) Y' B' s' := S'.to ⟨rfl, rfl, rfl, rfl, rfl, rfl, rfl, trivial⟩
        have hnl := wordNum_len p word row f l
        refine st_dictItem (k := wordOf p word row (1 + (l : Int))) S7 hA (fun _ h => by cases h) ev_int (ev_name rfl) (ev_tupleL (Ev.toL (ev_comp2 (intsD (wordOf p word row (1 + (l : Int)))) (src_zipT (ev_name rfl) (ev_name rfl)) (scOk (by kernel_rfl)) (.inl rfl) (.inl rfl) ?_ ?_ ?_)) ?_) (by omega) fun s8 S8 => ?_
        · simp only [zipD, List.length_zipWith, intsD_len]; omega
        · rw [intsD_len]
          simp only [zipD, List.length_zipWith, intsD_len, wordOf]
        · intro j d d' hj hj'
          obtain ⟨x, y, hx, hy, rfl⟩ := zipD_get hj
          obtain ⟨k1, rfl⟩ := intsD_item hx
          obtain ⟨k2, rfl⟩ := intsD_item hy
          refine ⟨_, _, rfl, ?_⟩
          obtain ⟨k3, rfl⟩ := intsD_item hj'
          have e9 : (wordOf p word row (1 + (l : Int))).getD j 0 = (word.getD j 0 + (1 + (l : Int)) * row.getD j 0).fmod p := by
            unfold wordOf
            rw [List.getD_eq_getElem?_getD, List.getElem?_zipWith, getD_get k1, getD_get k2]
            rfl
          rw [e9]
          exact ev_mod (ev_add (ev_name rfl) (ev_mul (ev_name rfl) (ev_name rfl) (.inl (by omega)))) (ev_name rfl) (by omega)
        · rw [intsD_len, (wordOf_ok hpp.1 hwl q1).1]; omega
        · exact st_done ⟨rfl, S8.to ⟨rfl, rfl, rfl, rfl, rfl, rfl, trivial⟩⟩
      · rw [rangeD_len] at S6
        refine st_done ⟨rfl, S6.to ⟨rfl, rfl, rfl, rfl, rfl, trivial⟩ (hσ := ?_)⟩
        show [(x, Own.dict (wordNum p (ws.getD j []) row (wordRow p row ws ws j) (p - 1).toNat))] = [(x, Own.dict (wordNum p word row f (p - 1).toNat))]
        rw [hf, hword]
    · rw [wordsD_len] at S5
      refine st_done ⟨rfl, S5.to ⟨rfl, rfl, rfl, rfl, trivial⟩ (hσ := ?_)⟩
      show [(x, Own.dict (wordRow p (rows.getD i []) (wordSeq p rows m i) (wordSeq p rows m i) (wordSeq p rows m i).length))] = [(x, Own.dict (wordRow p row ws ws ws.length))]
      rw [hrow, hws]
  · rw [hrl] at S3
    refine st_ret S3 hA (P := isD (.list (wordsD (wordsS p rows m)))) (ev_listDict (ev_name rfl) List.mem_cons_self (hseq _ (Nat.le_refl _))) fun v s4 r S4 => S4.fin (fun b hb => ?_) r
    rcases List.mem_cons.mp hb with rfl | hb
    · exact hxB _ List.mem_cons_self
    · simp at hb; exact hW b hb
end
end Mine
end
section
open PySem PySem.Calls PyProof.Rows
set_option linter.unusedVariables false
set_option maxRecDepth 100000
namespace Mine
section
variable {C : Cx}
local macro_rules | `(tactic| walk_at "side") => `(tactic| first
  | decide
  | assumption
  | lia
  | (left; lia)
  | (right; lia)
  | (simp; lia)
  | (simp; done))

/-- the places that are not 0, as a number -/
noncomputable def supN (word : List Int) : Nat → Nat
  | 0 => 0
  | n + 1 => supN word n + if word.getD n 0 ≠ 0 then 2 ^ n else 0
noncomputable def supL (word : List Int) (n : Nat) : List Int := ((List.range n).filter fun i => decide (word.getD i 0 ≠ 0)).map fun i => (2 : Int) ^ i
theorem supL_sum (word : List Int) : ∀ n, (supL word n).sum = (supN word n : Nat)
  | 0 => rfl
  | n + 1 => by
    have ih := supL_sum word n
    unfold supL at ih ⊢
    rw [List.range_succ, List.filter_append, List.map_append, List.sum_append, ih]
    rw [supN]
    by_cases h : word.getD n 0 = 0
    · have : ([n].filter fun i => decide (word.getD i 0 ≠ 0)) = [] := by rw [List.filter_cons_of_neg (by simpa using h)]; rfl
      rw [this, if_neg (by simpa using h)]; simp
    · have : ([n].filter fun i => decide (word.getD i 0 ≠ 0)) = [n] := by rw [List.filter_cons_of_pos (by simpa using h)]; rfl
      rw [this, if_pos h]; simp
theorem supN_lt (word : List Int) : ∀ n, supN word n < 2 ^ n
  | 0 => by simp [supN]
  | n + 1 => by
    have ih := supN_lt word n
    unfold supN
    rw [Nat.pow_succ]
    split <;> lia
noncomputable def withA (words : List (List Int)) (n : Nat) : Nat → List Int
  | 0 => List.replicate (2 ^ n) 0
  | k + 1 => addAt (withA words n k) (supN (words.getD k []) n) 1
noncomputable def withL (f : List Int) (at' : Nat) : Nat → List Int
  | 0 => f
  | l + 1 => if l / 2 ^ at' % 2 = 1 then addAt (withL f at' l) l ((withL f at' l).getD (l - 2 ^ at') 0) else withL f at' l
noncomputable def withB (f : List Int) (n : Nat) : Nat → List Int
  | 0 => f
  | a + 1 => withL (withB f n a) a (2 ^ n)
noncomputable def withinS (words : List (List Int)) (n : Nat) : List Int := withB (withA words n words.length) n n
theorem withA_len (words : List (List Int)) (n : Nat) : ∀ k, (withA words n k).length = 2 ^ n
  | 0 => by simp [withA]
  | k + 1 => by unfold withA; rw [addAt_len, withA_len]
theorem withL_len (f : List Int) (a : Nat) : ∀ l, (withL f a l).length = f.length
  | 0 => rfl
  | l + 1 => by
    unfold withL
    split
    · rw [addAt_len, withL_len]
    · exact withL_len f a l
theorem withB_len (f : List Int) (n : Nat) : ∀ a, (withB f n a).length = f.length
  | 0 => rfl
  | a + 1 => by unfold withB; rw [withL_len, withB_len]
theorem pow2_cast (n : Nat) : ((2 : Int) ^ n) = ((2 ^ n : Nat) : Int) := by simp
theorem sup_eval {g : G} {n : Nat} (word : List Int) {elt c iter : Expr} {x : Str} {px pos : Pos} {scope : Scope} (hn : n ≤ 1000) (hl : n ≤ word.length) (hs : Src g iter (rangeD 0 n) okName) (ok : ScOk g scope) (hx : lc scope x)
    (hc : ∀ i : Nat, i < n → Tr ((cg g scope).set x (.int i)) c (decide (word.getD i 0 ≠ 0))) (he : ∀ i : Nat, i < n → Ev ((cg g scope).set x (.int i)) elt (.int ((2 : Int) ^ i)))
    (hfs : ∀ env x, foldedSetIterable iter env x = pure x := by intro _ _; rfl) : Ev g (.ListComp elt [⟨.Name x px, iter, [c], 0⟩] scope pos) (.list (intsD (supL word n))) := by
  refine Ev.is (ev_compIf (ds := rangeD 0 n) (fun d => match d with | .int i => decide (word.getD i.toNat 0 ≠ 0) | _ => false) (fun d => match d with | .int i => .int ((2 : Int) ^ i.toNat) | d => d) hs ok hx (by rw [rangeD_len]; lia) ?_ hfs) ?_
  · intro i d hd
    obtain ⟨hi, rfl⟩ := rangeD_get hd
    have e : (0 : Int) + (i : Nat) = (i : Nat) := Int.zero_add _
    rw [e]
    refine ⟨?_, fun _ => ?_⟩
    · exact hc i hi
    · exact he i hi
  · congr 1
    unfold rangeD supL intsD
    rw [List.filter_map, List.map_map, List.map_map]
    congr 1
    · funext i
      show D.int _ = D.int _
      simp
    · congr 1
      funext i
      show decide _ = decide _
      simp
theorem within_ok (hC : Good C) {n : Nat} (words : List (List Int)) (m : Nat) (hm : 1 ≤ m) (hm2 : m ≤ 10) (hw : ∀ w ∈ words, w.length = m) (hsz : words.length ≤ 16777216) :
    FnP C (n + 1) ("_law_within" : Str) [.list (wordsD words), .int m] (.list (intsD (withinS words m))) := by
  refine fn_ok' (dR 18) (hC.mem 13 rfl) ["words", "n"] rfl ?_ (by decide +kernel) ?_
  · intro pm code doc vals hl
    match vals, hl with
    | [x, y], _ => rfl
  intro A env W0 Y s0 s' E hA hW S
  have hP : 2 ^ m ≤ 1024 := Nat.pow_le_pow_right (n := 2) (by decide) hm2
  have hq : ∀ {g : G} {e : Expr}, Ev g e (.int ((2 : Int) ^ m)) → Ev g e (.int ((2 ^ m : Nat) : Int)) := fun h => Ev.is h (by rw [pow2_cast])
  refine st_own S hA (evN_mul (d := .int 0) (k := 2 ^ m) (Ev.toL (ev_list (evs_cons ev_int evs_nil))) (hq (ev_pow ev_int (ev_name rfl) (by lia) (by decide))) (by lia)) (.inl rfl) fun x s1 S1 hne hxX hxB => ?_
  have hrep : List.replicate (2 ^ m) (D.int 0) = intsD (withA words m 0) := by simp [withA, intsD]
  refine st_for S1 hA (src_list (ds := wordsD words) (ev_name rfl)) ⟨_, _, rfl⟩ (fun i => ⟨C, n, (dR 18).scope.names, [("found", .own x), ("words", .list (wordsD words)), ("n", .int m)], [(x, .list (intsD (withA words m i)))]⟩) (fun _ => rfl) (fun Y' s' S' => S'.to ⟨rfl, rfl, rfl, trivial⟩ (hσ := by rw [← hrep]; rfl)) (fun i d hd => ?_) fun s3 S3 => ?_
  · obtain ⟨hi, rfl⟩ := wordsD_item hd
    obtain ⟨word, hword⟩ : ∃ word, word = words.getD i [] := ⟨_, rfl⟩
    have hwl : word.length = m := by rw [hword]; exact hw _ (getD_memL hi)
    rw [← hword]
    refine ⟨(⟨C, n, (dR 18).scope.names, [("found", .own x), ("words", .list (wordsD words)), ("n", .int m)], [(x, .list (intsD (withA words m i)))]⟩ : G).set "word" (.tup (intsD word)), rfl, tgt_name (.inr rfl), fun Y' B' s' E' S' => ?_⟩
    have S2 : St ((⟨C, n, (dR 18).scope.names, [("word", .tup (intsD word)), ("found", .own x), ("words", .list (wordsD words)), ("n", .int m)], []⟩ : G).own [(x, .list (intsD (withA words m i)))]) env _ Y' B' s' := S'.to ⟨rfl, rfl, rfl, rfl, trivial⟩
    have hlen := withA_len words m i
    have hlt := supN_lt word m
    refine st_augItem S2 hA (fun _ h => by cases h) ev_int (ev_name rfl) (n := supN word m) (Ev.is (ev_sum (Ev.toL (sup_eval (n := m) word (by lia) (by lia) (src_range1 (ev_name rfl) (by lia) (by lia)) (scOk (by kernel_rfl)) (.inl rfl) (fun j hj => tr_ne (ev_itemT (ev_name rfl) (ev_name rfl) (by lia) (by rw [Int.toNat_natCast]; exact intsD_getD (by lia)) (by lia)) ev_int) (fun j hj => ev_pow ev_int (ev_name rfl) (by lia) (by decide))))) (by rw [supL_sum])) (intsD_getD (by rw [hlen]; lia)) (by rw [intsD_len, hlen]; lia) fun s4 S4 => ?_
    refine st_done ⟨rfl, S4.to ⟨rfl, rfl, rfl, trivial⟩ (hσ := ?_)⟩
    rw [intsD_set]
    show [(x, Own.list (intsD (addAt (withA words m i) (supN (words.getD i []) m) 1)))] = _
    rw [hword]
    rfl
  · rw [wordsD_len] at S3
    obtain ⟨f, hf⟩ : ∃ f, f = withA words m words.length := ⟨_, rfl⟩
    have hfl : f.length = 2 ^ m := by rw [hf]; exact withA_len words m _
    rw [← hf] at S3
    refine st_for S3 hA (src_range1 (k := m) (ev_name rfl) (by lia) (by lia)) ⟨_, _, rfl⟩ (fun i => ⟨C, n, (dR 18).scope.names, [("found", .own x), ("words", .list (wordsD words)), ("n", .int m)], [(x, .list (intsD (withB f m i)))]⟩) (fun _ => rfl) (fun Y' s' S' => S') (fun i d hd => ?_) fun s5 S5 => ?_
    · obtain ⟨hi, rfl⟩ := rangeD_get hd
      have e0 : (0 : Int) + (i : Nat) = (i : Nat) := Int.zero_add _
      rw [e0]
      obtain ⟨b, hb⟩ : ∃ b, b = withB f m i := ⟨_, rfl⟩
      have hbl : b.length = 2 ^ m := by rw [hb, withB_len, hfl]
      have hPi : 2 ^ i ≤ 1024 := Nat.pow_le_pow_right (n := 2) (by decide) (show i ≤ 10 by lia)
      have hPi0 : 0 < 2 ^ i := Nat.pow_pos (by decide)
      have hqi : ∀ {g : G} {e : Expr}, Ev g e (.int ((2 : Int) ^ i)) → Ev g e (.int ((2 ^ i : Nat) : Int)) := fun h => Ev.is h (by rw [pow2_cast])
      refine ⟨(⟨C, n, (dR 18).scope.names, [("found", .own x), ("words", .list (wordsD words)), ("n", .int m)], [(x, .list (intsD (withB f m i)))]⟩ : G).set "at" (.int (i : Nat)), rfl, tgt_name (.inl rfl), fun Y' B' s' E' S' => ?_⟩
      rw [← hb] at S'
      refine st_for S' hA (src_range1 (k := 2 ^ m) (hq (ev_pow ev_int (ev_name rfl) (by lia) (by decide))) (by lia) (by lia)) ⟨_, _, rfl⟩ (fun l => ⟨C, n, (dR 18).scope.names, [("at", .int (i : Nat)), ("found", .own x), ("words", .list (wordsD words)), ("n", .int m)], [(x, .list (intsD (withL b i l)))]⟩) (fun _ => rfl) (fun Y' s' S' => S'.to ⟨rfl, rfl, rfl, rfl, trivial⟩) (fun l d hd => ?_) fun s6 S6 => ?_
      · obtain ⟨hl, rfl⟩ := rangeD_get hd
        have e0 : (0 : Int) + (l : Nat) = (l : Nat) := Int.zero_add _
        rw [e0]
        obtain ⟨q, hqq⟩ : ∃ q, q = withL b i l := ⟨_, rfl⟩
        have hql : q.length = 2 ^ m := by rw [hqq, withL_len, hbl]
        refine ⟨(⟨C, n, (dR 18).scope.names, [("at", .int (i : Nat)), ("found", .own x), ("words", .list (wordsD words)), ("n", .int m)], [(x, .list (intsD (withL b i l)))]⟩ : G).set "lot" (.int (l : Nat)), rfl, tgt_name (.inl rfl), fun Y' B' s' E' S' => ?_⟩
        rw [← hqq] at S'
        have hstep : withL b i (l + 1) = if l / 2 ^ i % 2 = 1 then addAt q l (q.getD (l - 2 ^ i) 0) else q := by rw [hqq]; rfl
        refine st_if S' hA (b := decide (l / 2 ^ i % 2 = 1)) (Tr.is (tr_eq (ev_mod (ev_div (ev_name rfl) (hqi (ev_pow ev_int (ev_name rfl) (by lia) (by decide))) (by lia) (by lia)) ev_int (by decide)) ev_int) ?_) (fun h s7 S7 => ?_) (fun h s7 S7 => ?_)
        · rw [Int.fdiv_eq_ediv_of_nonneg _ (by lia), Int.fmod_eq_emod_of_nonneg _ (by decide)]
          have : ((l : Nat) : Int) / ((2 ^ i : Nat) : Int) % 2 = ((l / 2 ^ i % 2 : Nat) : Int) := by simp
          rw [this]
          by_cases h : l / 2 ^ i % 2 = 1
          · simp [h]
          · have h2 : ¬ ((l / 2 ^ i % 2 : Nat) : Int) = 1 := by lia
            simp only [h, h2]
        · simp only [decide_eq_true_eq] at h
          have hge : 2 ^ i ≤ l := by
            by_cases hlt : l < 2 ^ i
            · rw [Nat.div_eq_of_lt hlt] at h; lia
            · lia
          have S8 : St ((⟨C, n, (dR 18).scope.names, [("lot", .int (l : Nat)), ("at", .int (i : Nat)), ("found", .own x), ("words", .list (wordsD words)), ("n", .int m)], []⟩ : G).own [(x, .list (intsD q))]) env _ Y' B' s7 := S7.to ⟨rfl, rfl, rfl, rfl, rfl, trivial⟩
          refine st_augItem S8 hA (fun _ h => by cases h) (d := q.getD (l - 2 ^ i) 0) (ev_item (ds := intsD q) (i := ((l - 2 ^ i : Nat) : Int)) (Ev.ownL (ev_name rfl) List.mem_cons_self) (Ev.is (ev_minus (ev_name rfl) (hqi (ev_pow ev_int (ev_name rfl) (by lia) (by decide)))) (by congr 1; lia)) (by lia) (by rw [Int.toNat_natCast]; exact intsD_getD (by lia)) (by lia)) (ev_name rfl) (n := l) (ev_name rfl) (intsD_getD (by rw [hql]; lia)) (by rw [intsD_len, hql]; lia) fun s9 S9 => ?_
          refine st_done (st_done ⟨rfl, S9.to ⟨rfl, rfl, rfl, rfl, trivial⟩ (hσ := ?_)⟩)
          show [(x, Own.list (intsD (withL b i (l + 1))))] = _
          rw [hstep, if_pos h, intsD_set]
          rfl
        · simp only [decide_eq_false_iff_not] at h
          refine st_done (st_done ⟨rfl, S7.to ⟨rfl, rfl, rfl, rfl, trivial⟩ (hσ := ?_)⟩)
          show [(x, Own.list (intsD (withL b i (l + 1))))] = _
          rw [hstep, if_neg h]
          rfl
      · rw [rangeD_len] at S6
        refine st_done ⟨rfl, S6.to ⟨rfl, rfl, rfl, trivial⟩ (hσ := ?_)⟩
        show [(x, Own.list (intsD (withL (withB f m i) i (2 ^ m))))] = _
        rw [← hb]
    · rw [rangeD_len] at S5
      refine st_ret S5 hA (P := isD (.own x)) (ev_name rfl) fun v s4 r S4 => ?_
      have hm : withinS words m = withB f m m := by unfold withinS; rw [hf]
      rw [hm]
      exact St.finOwn (g := ⟨C, n, (dR 18).scope.names, [("found", .own x), ("words", .list (wordsD words)), ("n", .int m)], []⟩) (σ := []) S4 (by
        intro y hy
        rcases List.mem_cons.mp hy with rfl | hy
        · exact hxB _ List.mem_cons_self
        · simp at hy; exact hW y hy) (fun q => hxX (List.mem_append_right _ q)) r
end
end Mine
end
section
open PySem PySem.Calls PyProof.Rows
set_option linter.unusedVariables false
set_option maxRecDepth 100000
namespace Mine
section
variable {C : Cx}
local macro_rules | `(tactic| walk_at "side") => `(tactic| first
  | decide
  | assumption
  | omega
  | (left; omega)
  | (right; omega)
  | (simp; omega)
  | (simp; done))

noncomputable def wtA (words : List (List Int)) (n : Nat) : Nat → List Int
  | 0 => List.replicate (n + 1) 0
  | k + 1 => addAt (wtA words n k) (n - (words.getD k []).count 0) 1
noncomputable def weightsS (words : List (List Int)) (n : Nat) : List Int := wtA words n words.length
theorem wtA_len (words : List (List Int)) (n : Nat) : ∀ k, (wtA words n k).length = n + 1
  | 0 => by simp [wtA]
  | k + 1 => by unfold wtA; rw [addAt_len, wtA_len]
theorem weights_ok (hC : Good C) {n : Nat} (words : List (List Int)) (m : Nat) (hm2 : m ≤ 100) (hw : ∀ w ∈ words, w.length = m) (hsz : words.length ≤ 16777216) :
    FnP C (n + 1) ("_law_weights" : Str) [.list (wordsD words), .int m] (.list (intsD (weightsS words m))) := by
  refine fn_ok' (dR 19) (hC.mem 14 rfl) ["words", "n"] rfl ?_ (by decide +kernel) ?_
  · intro pm code doc vals hl
    match vals, hl with
    | [x, y], _ => rfl
  intro A env W0 Y s0 s' E hA hW S
  refine st_own S hA (evN_mul (d := .int 0) (k := m + 1) (Ev.toL (ev_list (evs_cons ev_int evs_nil))) (Ev.is (ev_add (ev_name rfl) ev_int) (by congr 1)) (by omega)) (.inl rfl) fun x s1 S1 hne hxX hxB => ?_
  have hrep : List.replicate (m + 1) (D.int 0) = intsD (wtA words m 0) := by simp [wtA, intsD]
  refine st_for S1 hA (src_list (ds := wordsD words) (ev_name rfl)) ⟨_, _, rfl⟩ (fun i => ⟨C, n, (dR 19).scope.names, [("found", .own x), ("words", .list (wordsD words)), ("n", .int m)], [(x, .list (intsD (wtA words m i)))]⟩) (fun _ => rfl) (fun Y' s' S' => S'.to ⟨rfl, rfl, rfl, trivial⟩ (hσ := by rw [← hrep]; rfl)) (fun i d hd => ?_) fun s3 S3 => ?_
  · obtain ⟨hi, rfl⟩ := wordsD_item hd
    obtain ⟨word, hword⟩ : ∃ word, word = words.getD i [] := ⟨_, rfl⟩
    have hwl : word.length = m := by rw [hword]; exact hw _ (getD_memL hi)
    rw [← hword]
    refine ⟨(⟨C, n, (dR 19).scope.names, [("found", .own x), ("words", .list (wordsD words)), ("n", .int m)], [(x, .list (intsD (wtA words m i)))]⟩ : G).set "word" (.tup (intsD word)), rfl, tgt_name (.inl rfl), fun Y' B' s' E' S' => ?_⟩
    have S2 : St ((⟨C, n, (dR 19).scope.names, [("word", .tup (intsD word)), ("found", .own x), ("words", .list (wordsD words)), ("n", .int m)], []⟩ : G).own [(x, .list (intsD (wtA words m i)))]) env _ Y' B' s' := S'.to ⟨rfl, rfl, rfl, rfl, trivial⟩
    have hlen := wtA_len words m i
    have hcount : word.count 0 ≤ m := by rw [← hwl]; exact List.count_le_length
    refine st_augItem S2 hA (fun _ h => by cases h) ev_int (ev_name rfl) (n := m - word.count 0) (Ev.is (ev_minus (ev_name rfl) (ev_count (ns := word) (ev_name rfl) ev_int)) (by congr 1; omega)) (intsD_getD (by rw [hlen]; omega)) (by rw [intsD_len, hlen]; omega) fun s4 S4 => ?_
    refine st_done ⟨rfl, S4.to ⟨rfl, rfl, rfl, trivial⟩ (hσ := ?_)⟩
    rw [intsD_set]
    show [(x, Own.list (intsD (addAt (wtA words m i) (m - (words.getD i []).count 0) 1)))] = _
    rw [hword]
    rfl
  · rw [wordsD_len] at S3
    refine st_ret S3 hA (P := isD (.own x)) (ev_name rfl) fun v s4 r S4 => ?_
    exact St.finOwn (g := ⟨C, n, (dR 19).scope.names, [("found", .own x), ("words", .list (wordsD words)), ("n", .int m)], []⟩) (ds := intsD (weightsS words m)) (σ := []) S4 (by
        intro y hy
        rcases List.mem_cons.mp hy with rfl | hy
        · exact hxB _ List.mem_cons_self
        · simp at hy; exact hW y hy) (fun q => hxX (List.mem_append_right _ q)) r

noncomputable def fuelN (k : Nat) : Nat := if k = 0 then 0 else if k < 2 then 1 else if k < 4 then 2 else 3
noncomputable def powS (q : List Int) (k : Nat) : List Int := (powSeq q k (fuelN k)).1
noncomputable def basisS (p : Int) (n at' : Nat) : List Int := mulS (powS [1, -1] at') (powS [1, p - 1] (n - at'))
noncomputable def pairsL : List (Int × Nat) := [(3, 4), (2, 5), (5, 3), (2, 6), (3, 3), (2, 4)]
noncomputable abbrev powOk (q : List Int) (k : Nat) : Prop := (∀ i, i < fuelN k → okP (powSeq q k i)) ∧ (powSeq q k (fuelN k)).2.2 = 0 ∧ (powS q k).length ≤ 1000 ∧ ∀ x ∈ powS q k, x.natAbs < 2 ^ 60
noncomputable abbrev basisOk (p : Int) (n : Nat) : Prop := ∀ a, a < n + 1 → powOk [1, -1] a ∧ powOk [1, p - 1] (n - a) ∧ (basisS p n a).length ≤ 1000
set_option synthInstance.maxSize 4000 in
set_option synthInstance.maxHeartbeats 400000 in
theorem basis_ok : ∀ q ∈ pairsL, basisOk q.1 q.2 := by decide +kernel
noncomputable def movedN (w : List Int) (n : Nat) (p : Int) : Nat → List Int
  | 0 => []
  | k + 1 => addS (movedN w n p k) (scaleS (basisS p n k) (w.getD k 0))
noncomputable def movedS (w : List Int) (n : Nat) (p : Int) : List Int := movedN w n p w.length
theorem addL_len' (a b : List Int) : (addS a b).length ≤ max a.length b.length := by
  unfold addS trimS
  rw [List.length_take]
  have : (addL a b).length = max a.length b.length := by simp [addL]
  omega
theorem scaleS_len (p : List Int) (k : Int) : (scaleS p k).length ≤ p.length := by
  unfold scaleS; split <;> simp
theorem movedN_len (w : List Int) {n : Nat} {p : Int} (h : basisOk p n) : ∀ k, k ≤ n + 1 → (movedN w n p k).length ≤ 1000
  | 0, _ => by simp [movedN]
  | k + 1, hk => by
    have h1 := movedN_len w h k (by omega)
    have h2 := addL_len' (movedN w n p k) (scaleS (basisS p n k) (w.getD k 0))
    have h3 := scaleS_len (basisS p n k) (w.getD k 0)
    have h4 := (h k (by omega)).2.2
    unfold movedN
    omega
theorem moved_ok (hC : Good C) {m : Nat} (w : List Int) (n : Nat) (p : Int) (hpn : (p, n) ∈ pairsL) (hw : w.length = n + 1) (hb : ∀ x ∈ w, x.natAbs < 2 ^ 60) :
    FnP C (m + 3) ("_law_moved" : Str) [.list (intsD w), .int n, .int p] (.list (intsD (movedS w n p))) := by
  have hB : basisOk p n := basis_ok _ hpn
  have h1 : ∃ d ∈ C.defs, d.name = ("zadd" : Str) := hC.fn 7 rfl rfl
  have h2 : ∃ d ∈ C.defs, d.name = ("zscale" : Str) := hC.fn 8 rfl rfl
  have h3 : ∃ d ∈ C.defs, d.name = ("zmul" : Str) := hC.fn 9 rfl rfl
  have h4 : ∃ d ∈ C.defs, d.name = ("zpower" : Str) := hC.fn 10 rfl rfl
  refine fn_ok' (dR 20) (hC.mem 15 rfl) ["weights", "n", "p"] rfl ?_ (by decide +kernel) ?_
  · intro pm code doc vals hl
    match vals, hl with
    | [x, y, z], _ => rfl
  intro A env W0 Y s0 s' E hA hW S
  have hdw := intsD_len w
  refine st_assign S hA (d := .list (intsD [])) (ev_list evs_nil) (.inl rfl) fun s1 S1 => ?_
  refine st_for S1 hA (src_enum (ev_name rfl)) ⟨_, _, _, rfl⟩ (fun i => ⟨C, m + 2, (dR 20).scope.names, [("found", .list (intsD (movedN w n p i))), ("weights", .list (intsD w)), ("n", .int n), ("p", .int p)], []⟩) (fun _ => rfl) (fun Y' s' S' => S'.to ⟨rfl, rfl, rfl, rfl, trivial⟩) (fun i d hd => ?_) fun s3 S3 => ?_
  · obtain ⟨d', hd', rfl⟩ := enumD_get hd
    obtain ⟨hi, rfl⟩ := intsD_item hd'
    obtain ⟨b1, b2, b3⟩ := hB i (by omega)
    refine ⟨((⟨C, m + 2, (dR 20).scope.names, [("found", .list (intsD (movedN w n p i))), ("weights", .list (intsD w)), ("n", .int n), ("p", .int p)], []⟩ : G).set "at" (.int i)).set "many" (.int (w.getD i 0)), rfl, tgt_tup2 (.inl rfl) (.inl rfl), fun Y' B' s' E' S' => ?_⟩
    have S2 : St (⟨C, m + 2, (dR 20).scope.names, [("many", .int (w.getD i 0)), ("at", .int i), ("found", .list (intsD (movedN w n p i))), ("weights", .list (intsD w)), ("n", .int n), ("p", .int p)], []⟩ : G) env _ Y' B' s' := S'.to ⟨rfl, rfl, rfl, rfl, rfl, rfl, trivial⟩
    refine st_assign S2 hA (d := .list (intsD (movedN w n p (i + 1)))) (ev_call (zadd_ok hC (movedN w n p i) (scaleS (basisS p n i) (w.getD i 0)) (movedN_len w hB i (by omega)) (Nat.le_trans (scaleS_len _ _) b3)) (evs_cons (ev_name rfl) (evs_cons (ev_call (zscale_ok hC (basisS p n i) (w.getD i 0) b3 (hb _ (getD_mem hi))) (evs_cons (ev_call (zmul_ok hC (powS [1, -1] i) (powS [1, p - 1] (n - i)) b1.2.2.1 b2.2.2.1 b1.2.2.2) (evs_cons (ev_call (zpower_ok hC [1, -1] i (fuelN i) (by decide) b1.1 b1.2.1) (evs_cons (ev_list (evs_cons ev_int (evs_cons (ev_neg ev_int) evs_nil))) (evs_cons (ev_name rfl) evs_nil))) (evs_cons (ev_call (zpower_ok hC [1, p - 1] (n - i) (fuelN (n - i)) (by show 2 ≤ 1000; decide) b2.1 b2.2.1) (evs_cons (ev_list (evs_cons ev_int (evs_cons (ev_minus (ev_name rfl) ev_int) evs_nil))) (evs_cons (Ev.is (ev_minus (ev_name rfl) (ev_name rfl)) (by congr 1; omega)) evs_nil))) evs_nil))) (evs_cons (ev_name rfl) evs_nil))) evs_nil))) (.inl rfl) fun s4 S4 => ?_
    exact st_done ⟨rfl, S4.to ⟨rfl, rfl, rfl, rfl, trivial⟩⟩
  · rw [enumD_len, hdw] at S3
    exact st_ret S3 hA (P := isD (.list (intsD (movedS w n p)))) (ev_name rfl) fun v s4 r S4 => S4.fin (by simpa using hW) r

noncomputable def leastS (w : List Int) (n : Nat) (p : Int) (most : Nat) : Bool := decide ((w.take most).drop 1 = List.replicate (most - 1) 0) && decide (w.getD most 0 = (p - 1) * (binS n n).getD most 0)
theorem least_ok (hC : Good C) {m : Nat} (w : List Int) (n : Nat) (p : Int) (most : Nat) (h1 : 1 ≤ most) (h2 : most ≤ n) (hn : n ≤ 100) (hp : p = 2 ∨ p = 3 ∨ p = 5) (hw : w.length = n + 1) :
    FnP C (m + 2) ("_law_is_least" : Str) [.list (intsD w), .int n, .int p, .int most] (.bool (leastS w n p most)) := by
  have hf : ∃ d ∈ C.defs, d.name = ("binomial_row" : Str) := hC.fn 5 rfl rfl
  refine fn_ok' (dR 21) (hC.mem 16 rfl) ["weights", "n", "p", "most"] rfl ?_ (by decide +kernel) ?_
  · intro pm code doc vals hl
    match vals, hl with
    | [x, y, z, u], _ => rfl
  intro A env W0 Y s0 s' E hA hW S
  have hdw := intsD_len w
  have hbl := binS_len n n
  refine st_ret S hA (P := isD (.bool (leastS w n p most))) (ev_and (ev_eqL (a := (w.take most).drop 1) (b := List.replicate (most - 1) 0) (Ev.is (ev_slice (a := some 1) (b := some most) (Ev.toL (ev_name rfl)) ev_int (ev_name rfl) (by omega)) ?_) (Ev.is (ev_mulL (k := most - 1) (ev_list (evs_cons ev_int evs_nil)) (Ev.is (ev_minus (ev_name rfl) ev_int) (by congr 1; omega)) (by omega)) ?_)) (fun _ => ev_eq (ev_itemL (ev_name rfl) (ev_name rfl) (by omega) (by rw [Int.toNat_natCast]; exact intsD_getD (by omega)) (by omega)) (ev_mul (ev_minus (ev_name rfl) ev_int) (ev_itemL (ev_call (binomial_ok hC n (by omega)) (evs_cons (ev_name rfl) evs_nil)) (ev_name rfl) (by omega) (by rw [Int.toNat_natCast]; exact intsD_getD (by omega)) (by omega)) (.inl (by omega))))) fun v s2 r S2 => S2.fin (by simpa using hW) r
  · simp [sliceL, intsD, List.map_take, List.map_drop]
  · simp [intsD]
end
end Mine
end
section
open PySem PySem.Calls PyProof.Rows
set_option linter.unusedVariables false
set_option maxRecDepth 100000
namespace Mine
section
variable {C : Cx}
local macro_rules | `(tactic| walk_at "side") => `(tactic| first
  | decide
  | assumption
  | lia
  | (left; lia)
  | (right; lia)
  | (simp; lia)
  | (simp; done))

noncomputable def dotS (a b : List Int) : Int := (List.zipWith (· * ·) a b).sum
noncomputable def colsS (made : List (List Int)) (n : Nat) : List (List Int) := (List.range n).map fun a => made.map fun r => r.getD a 0
noncomputable def bitsN (lot : Nat) : Nat → Nat
  | 0 => 0
  | n + 1 => bitsN lot n + lot / 2 ^ n % 2
noncomputable def bitsL (lot n : Nat) : List Int := (List.range n).map fun a => ((lot / 2 ^ a % 2 : Nat) : Int)
theorem bitsL_sum (lot : Nat) : ∀ n, (bitsL lot n).sum = (bitsN lot n : Nat)
  | 0 => rfl
  | n + 1 => by
    have ih := bitsL_sum lot n
    unfold bitsL at ih ⊢
    rw [List.range_succ, List.map_append, List.sum_append, ih]
    rw [bitsN]
    simp
theorem bitsN_le (lot : Nat) : ∀ n, bitsN lot n ≤ n
  | 0 => Nat.le_refl _
  | n + 1 => by
    have := bitsN_le lot n
    rw [bitsN]
    lia
noncomputable def baseS (p : Int) (n : Nat) (made : List (List Int)) : List (List Int) := nullS p (colsS made n) made.length
noncomputable def codeS (p : Int) (n : Nat) (made : List (List Int)) : List (List Int) := wordsS p made n
noncomputable def dualS (p : Int) (n : Nat) (made : List (List Int)) : List (List Int) := wordsS p (baseS p n made) n
/-- what the law asks, in plain words -/
structure LawP (p : Int) (n : Nat) (made : List (List Int)) : Prop where
  ok : OkRows p n (baseS p n made)
  len : (baseS p n made).length ≤ n
  orth : ∀ r ∈ baseS p n made, ∀ m ∈ made, (dotS r m).fmod p = 0
  within : ∀ lot, lot < 2 ^ n → (withinS (codeS p n made) n).getD lot 0 * p ^ (n - bitsN lot n) = ((codeS p n made).length : Int) * (withinS (dualS p n made) n).getD (2 ^ n - 1 - lot) 0
  mw1 : movedS (weightsS (codeS p n made) n) n p = scaleS (trimS (weightsS (dualS p n made) n)) ((codeS p n made).length : Int)
  mw2 : movedS (weightsS (dualS p n made) n) n p = scaleS (trimS (weightsS (codeS p n made) n)) ((dualS p n made).length : Int)
  mds : ∀ size, size = n - (baseS p n made).length → 0 < size → size < n → ((weightsS (codeS p n made) n).take (n - size + 1)).drop 1 = List.replicate (n - size) 0 → leastS (weightsS (codeS p n made) n) n p (n - size + 1) = true ∧ leastS (weightsS (dualS p n made) n) n p (size + 1) = true

theorem wtA_bound (words : List (List Int)) (n : Nat) : ∀ k, ∀ x ∈ wtA words n k, 0 ≤ x ∧ x ≤ (k : Int)
  | 0, x, hx => by rw [List.eq_of_mem_replicate hx]; lia
  | k + 1, x, hx => by
    have ih := wtA_bound words n k
    unfold wtA addAt at hx
    rcases List.mem_or_eq_of_mem_set hx with h | h
    · have := ih x h; lia
    · have hg : 0 ≤ (wtA words n k).getD (n - (words.getD k []).count 0) 0 ∧ (wtA words n k).getD (n - (words.getD k []).count 0) 0 ≤ (k : Int) := by
        by_cases hl : n - (words.getD k []).count 0 < (wtA words n k).length
        · exact ih _ (getD_mem hl)
        · rw [getD_out (by lia)]; lia
      lia
theorem wordsS_len {p : Int} (hp : 1 ≤ p) (rows : List (List Int)) (n : Nat) : (wordsS p rows n).length ≤ p.toNat ^ rows.length := wordSeq_len hp rows n _
theorem wordsS_ok {p : Int} (hp : 0 < p) {n : Nat} {rows : List (List Int)} (hr : ∀ r ∈ rows, r.length = n) : ∀ k ∈ wordsS p rows n, OkW p n k := wordSeq_ok hp hr _ (Nat.le_refl _)
theorem pairs_cases {p : Int} {n : Nat} (h : (p, n) ∈ pairsL) : (p = 2 ∨ p = 3 ∨ p = 5) ∧ 2 ≤ n ∧ n ≤ 6 ∧ p.toNat ^ n ≤ 125 := by
  have : ∀ q ∈ pairsL, (q.1 = 2 ∨ q.1 = 3 ∨ q.1 = 5) ∧ 2 ≤ q.2 ∧ q.2 ≤ 6 ∧ q.1.toNat ^ q.2 ≤ 125 := by decide
  exact this _ h

theorem law_c (hC : Good C) {k n : Nat} {p : Int} {code dual base : List (List Int)} (hpn : (p, n) ∈ pairsL) (hb : base.length ≤ n) (hcl : code.length ≤ 100000) (hdl : dual.length ≤ 100000) (hcw : ∀ w ∈ code, w.length = n) (hdw : ∀ w ∈ dual, w.length = n)
    (mw1 : movedS (weightsS code n) n p = scaleS (trimS (weightsS dual n)) (code.length : Int)) (mw2 : movedS (weightsS dual n) n p = scaleS (trimS (weightsS code n)) (dual.length : Int))
    (mds : ∀ size, size = n - base.length → 0 < size → size < n → ((weightsS code n).take (n - size + 1)).drop 1 = List.replicate (n - size) 0 → leastS (weightsS code n) n p (n - size + 1) = true ∧ leastS (weightsS dual n) n p (size + 1) = true)
    {σ : List (Addr × Own)} {A : Around} {env : Env} {W Y : List Addr} {B : List Shared} {s : Shared} {Q : Flow → Shared → Prop} {E : Value → Shared → Prop} (hA : AOk (k + 4) A)
    (hQ : ∀ (g : G) v s', g.C = C → St g env W Y B s' → Rep s'.heap (W ++ Y) v (.bool true) → Q (.ret v) s')
    (S : St (⟨C, k + 4, (dR 22).scope.names, [("code", .list (wordsD code)), ("dual", .list (wordsD dual)), ("base", .list (rowsD base)), ("p", .int p), ("n", .int n)], σ⟩ : G) env W Y B s) :
    wpAny (modC C) A (execs ((dR 22).body.drop 9) env) Q E s := by
  obtain ⟨hp, hn2, hn6, hpow⟩ := pairs_cases hpn
  have f1 : ∃ d ∈ C.defs, d.name = ("_law_weights" : Str) := hC.fn 14 rfl rfl
  have f2 : ∃ d ∈ C.defs, d.name = ("_law_moved" : Str) := hC.fn 15 rfl rfl
  have f3 : ∃ d ∈ C.defs, d.name = ("_law_is_least" : Str) := hC.fn 16 rfl rfl
  have f4 : ∃ d ∈ C.defs, d.name = ("zscale" : Str) := hC.fn 8 rfl rfl
  have f5 : ∃ d ∈ C.defs, d.name = ("ztrim" : Str) := hC.fn 6 rfl rfl
  have lc' := wordsD_len code
  have ld' := wordsD_len dual
  have lb := rowsD_len base
  have w1 : (weightsS code n).length = n + 1 := wtA_len _ _ _
  have w2 : (weightsS dual n).length = n + 1 := wtA_len _ _ _
  have b1 : ∀ x ∈ weightsS code n, x.natAbs < 2 ^ 60 := fun x hx => by have := wtA_bound code n _ x hx; lia
  have b2 : ∀ x ∈ weightsS dual n, x.natAbs < 2 ^ 60 := fun x hx => by have := wtA_bound dual n _ x hx; lia
  have t1 : (trimS (weightsS code n)).length ≤ 1000 := by unfold trimS; rw [List.length_take]; lia
  have t2 : (trimS (weightsS dual n)).length ≤ 1000 := by unfold trimS; rw [List.length_take]; lia
  refine st_tup2 S hA (ev_call (weights_ok hC code n (by lia) hcw (by lia)) (evs_cons (ev_name rfl) (evs_cons (ev_name rfl) evs_nil))) (ev_call (weights_ok hC dual n (by lia) hdw (by lia)) (evs_cons (ev_name rfl) (evs_cons (ev_name rfl) evs_nil))) rfl rfl fun s1 S1 => ?_
  obtain ⟨u, hu⟩ : ∃ u, u = weightsS code n := ⟨_, rfl⟩
  obtain ⟨v, hv⟩ : ∃ v, v = weightsS dual n := ⟨_, rfl⟩
  rw [← hu] at w1 b1 t1 mw1 mw2 mds
  rw [← hv] at w2 b2 t2 mw1 mw2 mds
  rw [← hu, ← hv] at S1
  have S2 : St (⟨C, k + 4, (dR 22).scope.names, [("weights", .list (intsD u)), ("others", .list (intsD v)), ("code", .list (wordsD code)), ("dual", .list (wordsD dual)), ("base", .list (rowsD base)), ("p", .int p), ("n", .int n)], σ⟩ : G) env W Y B s1 := S1.to ⟨rfl, rfl, rfl, rfl, rfl, rfl, rfl, trivial⟩
  refine st_if S2 hA (b := false) (Tr.is (tr_neL (a := movedS u n p) (b := scaleS (trimS v) (code.length : Int)) (ev_call (moved_ok hC u n p hpn w1 b1) (evs_cons (ev_name rfl) (evs_cons (ev_name rfl) (evs_cons (ev_name rfl) evs_nil)))) (ev_call (zscale_ok hC (trimS v) (code.length : Int) t2 (by lia)) (evs_cons (ev_call (ztrim_ok hC v (by lia)) (evs_cons (ev_name rfl) evs_nil)) (evs_cons (Ev.is (ev_len (Ev.toL (ev_name rfl)) (by lia)) (by rw [lc'])) evs_nil)))) (by simp [mw1])) (fun h => by cases h) fun _ s3 S3 => ?_
  refine st_done ?_
  change wpAny (modC C) A (execs (_ :: _) env) _ E s3
  refine st_if S3 hA (b := false) (Tr.is (tr_neL (a := movedS v n p) (b := scaleS (trimS u) (dual.length : Int)) (ev_call (moved_ok hC v n p hpn w2 b2) (evs_cons (ev_name rfl) (evs_cons (ev_name rfl) (evs_cons (ev_name rfl) evs_nil)))) (ev_call (zscale_ok hC (trimS u) (dual.length : Int) t1 (by lia)) (evs_cons (ev_call (ztrim_ok hC u (by lia)) (evs_cons (ev_name rfl) evs_nil)) (evs_cons (Ev.is (ev_len (Ev.toL (ev_name rfl)) (by lia)) (by rw [ld'])) evs_nil)))) (by simp [mw2])) (fun h => by cases h) fun _ s4 S4 => ?_
  refine st_done ?_
  change wpAny (modC C) A (execs (_ :: _) env) _ E s4
  obtain ⟨size, hsz⟩ : ∃ size, size = n - base.length := ⟨_, rfl⟩
  refine st_assign S4 hA (d := .int (size : Nat)) (Ev.is (ev_minus (ev_name rfl) (ev_len (Ev.toL (ev_name rfl)) (by lia))) (by congr 1; lia)) (.inl rfl) fun s5 S5 => ?_
  have S6 : St (⟨C, k + 4, (dR 22).scope.names, [("size", .int (size : Nat)), ("weights", .list (intsD u)), ("others", .list (intsD v)), ("p", .int p), ("n", .int n)], σ⟩ : G) env W Y B s5 := S5.to ⟨rfl, rfl, rfl, rfl, rfl, trivial⟩
  have hcond : Tr (⟨C, k + 4, (dR 22).scope.names, [("size", .int (size : Nat)), ("weights", .list (intsD u)), ("others", .list (intsD v)), ("p", .int p), ("n", .int n)], σ⟩ : G) ((((dR 22).body[13]?).bind fun st => match st with | .If t _ _ _ => some t | _ => none).getD (.Constant .none 0 ⟨0, 0, 0, 0⟩)) ((decide ((0 : Int) < (size : Nat)) && decide (((size : Nat) : Int) < (n : Nat))) && decide ((u.take (n - size + 1)).drop 1 = List.replicate (n - size) 0)) := by
    refine tr_and (tr_cmp2 ev_int (ev_name rfl) (fun _ => ev_name rfl) (isD_stable _) (isD_stable _) op_lt (fun _ => op_lt) (hm := by funext ts; exact markedEach_of_false _ _ ts (by with_unfolding_all rfl))) fun _ => tr_eqL (a := (u.take (n - size + 1)).drop 1) (b := List.replicate (n - size) 0) (Ev.is (ev_slice (a := some 1) (b := some (n - size + 1)) (Ev.toL (ev_name rfl)) ev_int (Ev.is (ev_add (ev_minus (ev_name rfl) (ev_name rfl)) ev_int) (by congr 1; lia)) (by rw [intsD_len]; lia)) ?_) (Ev.is (ev_mulL (k := n - size) (ev_list (evs_cons ev_int evs_nil)) (Ev.is (ev_minus (ev_name rfl) (ev_name rfl)) (by congr 1; lia)) (by lia)) ?_)
    · simp [sliceL, intsD, List.map_take, List.map_drop]
    · simp [intsD]
  refine st_if S6 hA hcond (fun h s7 S7 => ?_) (fun h s7 S7 => ?_)
  · simp only [Bool.and_eq_true, decide_eq_true_eq] at h
    obtain ⟨⟨h1, h2⟩, h3⟩ := h
    obtain ⟨m1, m2⟩ := mds size hsz (by lia) (by lia) h3
    refine st_ret S7 hA (P := isD (.bool true)) (Ev.is (ev_and (ev_call (least_ok hC u n p (n - size + 1) (by lia) (by lia) (by lia) hp w1) (evs_cons (ev_name rfl) (evs_cons (ev_name rfl) (evs_cons (ev_name rfl) (evs_cons (Ev.is (ev_add (ev_minus (ev_name rfl) (ev_name rfl)) ev_int) (by congr 1; lia)) evs_nil))))) (fun _ => ev_call (least_ok hC v n p (size + 1) (by lia) (by lia) (by lia) hp w2) (evs_cons (ev_name rfl) (evs_cons (ev_name rfl) (evs_cons (ev_name rfl) (evs_cons (Ev.is (ev_add (ev_name rfl) ev_int) (by congr 1)) evs_nil)))))) (by rw [m1, m2]; rfl)) fun v s8 r S8 => hQ _ v s8 rfl S8 r
  · refine st_done ?_
    change wpAny (modC C) A (execs (_ :: _) env) _ E s7
    exact st_ret S7 hA (P := isD (.bool true)) ev_true fun v s8 r S8 => hQ _ v s8 rfl S8 r
end
end Mine
end
section
open PySem PySem.Calls PyProof.Rows
set_option linter.unusedVariables false
set_option maxRecDepth 100000
namespace Mine
section
variable {C : Cx}
local macro_rules | `(tactic| walk_at "side") => `(tactic| first
  | decide
  | assumption
  | lia
  | (left; lia)
  | (right; lia)
  | (simp; lia)
  | (simp; done))

theorem withinS_len (words : List (List Int)) (n : Nat) : (withinS words n).length = 2 ^ n := by
  unfold withinS; rw [withB_len, withA_len]
theorem law_b (hC : Good C) {k n : Nat} {p : Int} {made base : List (List Int)} (hpn : (p, n) ∈ pairsL) (hbase : base = baseS p n made) (hmk : OkRows p n made) (hml : made.length ≤ 3) (L : LawP p n made)
    {σ : List (Addr × Own)} {A : Around} {env : Env} {W Y : List Addr} {B : List Shared} {s : Shared} {Q : Flow → Shared → Prop} {E : Value → Shared → Prop} (hA : AOk (k + 4) A)
    (hQ : ∀ (g : G) v s', g.C = C → St g env W Y B s' → Rep s'.heap (W ++ Y) v (.bool true) → Q (.ret v) s')
    (S : St (⟨C, k + 4, (dR 22).scope.names, [("base", .list (rowsD base)), ("made", .list (rowsD made)), ("p", .int p), ("n", .int n)], σ⟩ : G) env W Y B s) :
    wpAny (modC C) A (execs ((dR 22).body.drop 6) env) Q E s := by
  obtain ⟨hp, hn2, hn6, hpow⟩ := pairs_cases hpn
  have hp1 : 1 ≤ p := by lia
  have f1 : ∃ d ∈ C.defs, d.name = ("_law_words" : Str) := hC.fn 12 rfl rfl
  have f2 : ∃ d ∈ C.defs, d.name = ("_law_within" : Str) := hC.fn 13 rfl rfl
  obtain ⟨L1, L2, L3, L4, L5, L6, L7⟩ := L
  rw [← hbase] at L1 L2 L3 L7
  have hdual : dualS p n made = wordsS p base n := by rw [hbase]; rfl
  have hcode : codeS p n made = wordsS p made n := rfl
  rw [hdual, hcode] at L4 L5 L6 L7
  have hpN : 1 ≤ p.toNat := by lia
  have hpl : ∀ j, j ≤ n → p.toNat ^ j ≤ 125 := fun j hj => Nat.le_trans (Nat.pow_le_pow_right hpN hj) hpow
  have hp3 : p.toNat ^ made.length ≤ 125 := by
    refine Nat.le_trans (Nat.pow_le_pow_right hpN hml) ?_
    rcases hp with rfl | rfl | rfl <;> decide
  have hc1 := wordsS_len hp1 made n
  have hd1 := wordsS_len hp1 base n
  have hd2 := hpl _ L2
  have hcw := wordsS_ok (by lia : 0 < p) (fun r h => (hmk r h).1)
  have hdw := wordsS_ok (by lia : 0 < p) (fun r h => (L1 r h).1)
  have hP : 2 ^ n ≤ 64 := Nat.pow_le_pow_right (n := 2) (by decide) hn6
  have hpb : ∀ j, j ≤ 6 → (p ^ j).natAbs < 2 ^ 60 := by rcases hp with rfl | rfl | rfl <;> decide
  refine st_tup2 S hA (ev_call (words_ok hC made n p hp hn2 (by lia) hmk (by lia) (by lia)) (evs_cons (ev_name rfl) (evs_cons (ev_name rfl) (evs_cons (ev_name rfl) evs_nil)))) (ev_call (words_ok hC base n p hp hn2 (by lia) L1 (by lia) (by lia)) (evs_cons (ev_name rfl) (evs_cons (ev_name rfl) (evs_cons (ev_name rfl) evs_nil)))) rfl rfl fun s1 S1 => ?_
  obtain ⟨code, hcd⟩ : ∃ code, code = wordsS p made n := ⟨_, rfl⟩
  obtain ⟨dual, hdd⟩ : ∃ dual, dual = wordsS p base n := ⟨_, rfl⟩
  rw [← hcd] at S1 L4 L5 L6 L7 hc1 hcw
  rw [← hdd] at S1 L4 L5 L6 L7 hd1 hdw
  have lcd := wordsD_len code
  have S2 : St (⟨C, k + 4, (dR 22).scope.names, [("code", .list (wordsD code)), ("dual", .list (wordsD dual)), ("base", .list (rowsD base)), ("p", .int p), ("n", .int n)], σ⟩ : G) env W Y B s1 := S1.to ⟨rfl, rfl, rfl, rfl, rfl, trivial⟩
  refine st_tup2 S2 hA (ev_call (within_ok hC code n (by lia) (by lia) (fun w h => (hcw w h).1) (by lia)) (evs_cons (ev_name rfl) (evs_cons (ev_name rfl) evs_nil))) (ev_call (within_ok hC dual n (by lia) (by lia) (fun w h => (hdw w h).1) (by lia)) (evs_cons (ev_name rfl) (evs_cons (ev_name rfl) evs_nil))) rfl rfl fun s3 S3 => ?_
  have li := withinS_len code n
  have lb := withinS_len dual n
  obtain ⟨u, hu⟩ : ∃ u, u = withinS code n := ⟨_, rfl⟩
  obtain ⟨v, hv⟩ : ∃ v, v = withinS dual n := ⟨_, rfl⟩
  rw [← hu] at S3 L4 li
  rw [← hv] at S3 L4 lb
  have S4 : St (⟨C, k + 4, (dR 22).scope.names, [("inside", .list (intsD u)), ("beside", .list (intsD v)), ("code", .list (wordsD code)), ("dual", .list (wordsD dual)), ("base", .list (rowsD base)), ("p", .int p), ("n", .int n)], σ⟩ : G) env W Y B s3 := S3.to ⟨rfl, rfl, rfl, rfl, rfl, rfl, rfl, trivial⟩
  have hq : ∀ {g : G} {e : Expr}, Ev g e (.int ((2 : Int) ^ n)) → Ev g e (.int ((2 ^ n : Nat) : Int)) := fun h => Ev.is h (by rw [pow2_cast])
  refine st_for S4 hA (src_range1 (k := 2 ^ n) (hq (ev_pow ev_int (ev_name rfl) (by lia) (by decide))) (by lia) (by lia)) ⟨_, _, rfl⟩ (fun _ => ⟨C, k + 4, (dR 22).scope.names, [("inside", .list (intsD u)), ("beside", .list (intsD v)), ("code", .list (wordsD code)), ("dual", .list (wordsD dual)), ("base", .list (rowsD base)), ("p", .int p), ("n", .int n)], σ⟩) (fun _ => rfl) (fun Y' s' S' => S') (fun i d hd => ?_) fun s5 S5 => ?_
  · obtain ⟨hi, rfl⟩ := rangeD_get hd
    have e0 : (0 : Int) + (i : Nat) = (i : Nat) := Int.zero_add _
    rw [e0]
    have hbl := bitsN_le i n
    refine ⟨(⟨C, k + 4, (dR 22).scope.names, [("inside", .list (intsD u)), ("beside", .list (intsD v)), ("code", .list (wordsD code)), ("dual", .list (wordsD dual)), ("base", .list (rowsD base)), ("p", .int p), ("n", .int n)], σ⟩ : G).set "lot" (.int (i : Nat)), rfl, tgt_name (.inr rfl), fun Y' B' s' E' S' => ?_⟩
    refine st_assign S' hA (d := .int ((n - bitsN i n : Nat) : Int)) (Ev.is (ev_minus (ev_name rfl) (ev_sum (ns := bitsL i n) (Ev.toL (ev_comp1 (intsD (bitsL i n)) (src_range1 (k := n) (ev_name rfl) (by lia) (by lia)) (scOk (by kernel_rfl)) (.inl rfl) (by rw [rangeD_len]; lia) (by rw [rangeD_len, intsD_len]; simp [bitsL]) ?_)))) ?_) (.inl rfl) fun s6 S6 => ?_
    · intro j d d' hd hd'
      obtain ⟨hj, rfl⟩ := rangeD_get hd
      obtain ⟨_, rfl⟩ := intsD_item hd'
      have e0 : (0 : Int) + (j : Nat) = (j : Nat) := Int.zero_add _
      rw [e0]
      have hPj : 2 ^ j ≤ 64 := Nat.pow_le_pow_right (n := 2) (by decide) (show j ≤ 6 by lia)
      have hPj0 : 0 < 2 ^ j := Nat.pow_pos (by decide)
      refine Ev.is (ev_mod (ev_div (ev_name rfl) (Ev.is (d' := .int ((2 ^ j : Nat) : Int)) (ev_pow ev_int (ev_name rfl) (by lia) (by decide)) (by rw [pow2_cast])) (by lia) (by lia)) ev_int (by decide)) ?_
      rw [Int.fdiv_eq_ediv_of_nonneg _ (by lia), Int.fmod_eq_emod_of_nonneg _ (by decide)]
      unfold bitsL
      rw [List.getD_eq_getElem?_getD, List.getElem?_map, List.getElem?_range hj]
      simp
    · rw [bitsL_sum]; congr 1; lia
    · have S7 : St (⟨C, k + 4, (dR 22).scope.names, [("outside", .int ((n - bitsN i n : Nat) : Int)), ("lot", .int (i : Nat)), ("inside", .list (intsD u)), ("beside", .list (intsD v)), ("code", .list (wordsD code)), ("dual", .list (wordsD dual)), ("base", .list (rowsD base)), ("p", .int p), ("n", .int n)], σ⟩ : G) env W Y' B' s6 := S6.to ⟨rfl, rfl, rfl, rfl, rfl, rfl, rfl, rfl, rfl, trivial⟩
      have hidx : ((2 : Int) ^ n - 1 - (i : Nat)).toNat = 2 ^ n - 1 - i := by rw [pow2_cast]; lia
      have hidx0 : 0 ≤ (2 : Int) ^ n - 1 - (i : Nat) := by rw [pow2_cast]; lia
      have hidx1 : (2 : Int) ^ n - 1 - (i : Nat) < 2 ^ 63 := by rw [pow2_cast]; lia
      refine st_if S7 hA (b := false) (Tr.is (tr_ne (ev_mul (ev_itemL (d := .int (u.getD i 0)) (ev_name rfl) (ev_name rfl) (by lia) (by rw [Int.toNat_natCast]; exact intsD_getD (by lia)) (by lia)) (ev_pow (ev_name rfl) (ev_name rfl) (by lia) (by lia)) (.inr (hpb _ (by lia)))) (ev_mul (ev_len (Ev.toL (ev_name rfl)) (by lia)) (ev_itemL (d := .int (v.getD (2 ^ n - 1 - i) 0)) (ev_name rfl) (ev_minus (ev_minus (ev_pow ev_int (ev_name rfl) (by lia) (by decide)) ev_int) (ev_name rfl)) hidx0 (by rw [hidx]; exact intsD_getD (by lia)) hidx1) (.inl (by lia)))) (by rw [lcd, L4 i hi]; simp)) (fun h => by cases h) fun _ s8 S8 => ?_
      exact st_done (st_done ⟨rfl, S8.to ⟨rfl, rfl, rfl, rfl, rfl, rfl, rfl, trivial⟩⟩)
  · have S6 : St (⟨C, k + 4, (dR 22).scope.names, [("code", .list (wordsD code)), ("dual", .list (wordsD dual)), ("base", .list (rowsD base)), ("p", .int p), ("n", .int n)], σ⟩ : G) env W Y B s5 := S5.to ⟨rfl, rfl, rfl, rfl, rfl, trivial⟩
    exact law_c hC hpn L2 (by lia) (by lia) (fun w h => (hcw w h).1) (fun w h => (hdw w h).1) L5 L6 L7 hA hQ S6

theorem law_a (hC : Good C) {k n : Nat} {p : Int} {made : List (List Int)} (hpn : (p, n) ∈ pairsL) (hmk : OkRows p n made) (hm1 : 1 ≤ made.length) (hml : made.length ≤ 3) (L : LawP p n made)
    {σ : List (Addr × Own)} {A : Around} {env : Env} {W Y : List Addr} {B : List Shared} {s : Shared} {Q : Flow → Shared → Prop} {E : Value → Shared → Prop} (hA : AOk (k + 4) A)
    (hQ : ∀ (g : G) v s', g.C = C → St g env W Y B s' → Rep s'.heap (W ++ Y) v (.bool true) → Q (.ret v) s')
    (S : St (⟨C, k + 4, (dR 22).scope.names, [("made", .list (rowsD made)), ("p", .int p), ("n", .int n)], σ⟩ : G) env W Y B s) :
    wpAny (modC C) A (execs ((dR 22).body.drop 4) env) Q E s := by
  obtain ⟨hp, hn2, hn6, hpow⟩ := pairs_cases hpn
  have f1 : ∃ d ∈ C.defs, d.name = ("null_space" : Str) := hC.fn 2 rfl rfl
  have hcl : (colsS made n).length = n := by simp [colsS]
  have hcg : ∀ a, a < n → (colsS made n).getD a [] = made.map fun r => r.getD a 0 := fun a ha => by
    unfold colsS
    rw [List.getD_eq_getElem?_getD, List.getElem?_map, List.getElem?_range ha]; rfl
  have hcok : OkRows p made.length (colsS made n) := fun r hr => by
    unfold colsS at hr
    obtain ⟨a, ha, rfl⟩ := List.mem_map.mp hr
    refine ⟨by simp, fun x hx => ?_⟩
    obtain ⟨m, hm, rfl⟩ := List.mem_map.mp hx
    obtain ⟨q1, q2⟩ := hmk m hm
    exact q2 _ (getD_mem (by rw [q1]; exact List.mem_range.mp ha))
  have hrm := rowsD_len made
  refine st_assign S hA (d := .list (rowsD (baseS p n made))) (ev_call (null_ok hC (colsS made n) made.length p hp (by lia) (by lia) hcok (by lia)) (evs_cons (ev_comp1 (rowsD (colsS made n)) (src_range1 (k := n) (ev_name rfl) (by lia) (by lia)) (scOk (by kernel_rfl)) (.inr rfl) (by rw [rangeD_len]; lia) (by rw [rangeD_len, rowsD_len, hcl]) ?_) (evs_cons (ev_name rfl) evs_nil))) (.inl rfl) fun s1 S1 => ?_
  · intro i d d' hd hd'
    obtain ⟨hi, rfl⟩ := rangeD_get hd
    obtain ⟨_, rfl⟩ := rowsD_item hd'
    have e0 : (0 : Int) + (i : Nat) = (i : Nat) := Int.zero_add _
    rw [e0, hcg i hi]
    have TT := fun (elt iter : Expr) (x : Str) (px pos : Pos) (scope : Scope) G h1 h2 h3 h4 h5 h6 h7 => @ev_comp1 G elt iter x px pos scope (rowsD made) (intsD (made.map fun r => r.getD i 0)) h1 h2 h3 h4 h5 h6 h7
    refine TT _ _ _ _ _ _ _ (src_list (ev_name rfl)) (scOk (by kernel_rfl)) (.inl rfl) (by lia) (by rw [intsD_len, hrm, List.length_map]) ?_ (by intro _ _; rfl)
    intro j d d' hd hd'
    obtain ⟨hj, rfl⟩ := rowsD_item hd
    obtain ⟨_, rfl⟩ := intsD_item hd'
    have e1 : (made.map fun r => r.getD i 0).getD j 0 = (made.getD j []).getD i 0 := by
      rw [List.getD_eq_getElem?_getD, List.getElem?_map, List.getD_eq_getElem?_getD (l := made), List.getElem?_eq_getElem hj]; rfl
    rw [e1]
    exact ev_itemL (ev_name rfl) (ev_name rfl) (by lia) (by rw [Int.toNat_natCast]; exact intsD_getD (by rw [(hmk.row hj).1]; exact hi)) (by lia)
  · obtain ⟨base, hb⟩ : ∃ base, base = baseS p n made := ⟨_, rfl⟩
    have L1 := L.ok
    have L2 := L.len
    have L3 := L.orth
    rw [← hb] at S1 L1 L2 L3
    have S2 : St (⟨C, k + 4, (dR 22).scope.names, [("base", .list (rowsD base)), ("made", .list (rowsD made)), ("p", .int p), ("n", .int n)], σ⟩ : G) env W Y B s1 := S1.to ⟨rfl, rfl, rfl, rfl, trivial⟩
    refine st_for S2 hA (src_list (ev_name rfl)) ⟨_, _, rfl⟩ (fun _ => ⟨C, k + 4, (dR 22).scope.names, [("base", .list (rowsD base)), ("made", .list (rowsD made)), ("p", .int p), ("n", .int n)], σ⟩) (fun _ => rfl) (fun Y' s' S' => S') (fun i d hd => ?_) fun s3 S3 => ?_
    · obtain ⟨hi, rfl⟩ := rowsD_item hd
      obtain ⟨row, hrow⟩ : ∃ row, row = base.getD i [] := ⟨_, rfl⟩
      have hmem : row ∈ base := by rw [hrow]; exact getD_memL hi
      have hrl := (L1 row hmem).1
      have hre := (L1 row hmem).2
      have horth := L3 row hmem
      rw [← hrow]
      refine ⟨(⟨C, k + 4, (dR 22).scope.names, [("base", .list (rowsD base)), ("made", .list (rowsD made)), ("p", .int p), ("n", .int n)], σ⟩ : G).set "row" (.list (intsD row)), rfl, tgt_name (.inr rfl), fun Y' B' s' E' S' => ?_⟩
      refine st_if S' hA (b := false) (Tr.is (tr_neL (a := []) (b := []) (Ev.is (ev_compIf (ds := rowsD made) (fun _ => false) id (src_list (ev_name rfl)) (scOk (by kernel_rfl)) (.inl rfl) (by lia) ?_) ?_) (ev_list evs_nil)) (by simp)) (fun h => by cases h) fun _ s8 S8 => ?_
      · intro j d hd
        obtain ⟨hj, rfl⟩ := rowsD_item hd
        refine ⟨?_, fun h => by cases h⟩
        obtain ⟨one, hone⟩ : ∃ one, one = made.getD j [] := ⟨_, rfl⟩
        have hm2 : one ∈ made := by rw [hone]; exact getD_memL hj
        have hol := (hmk one hm2).1
        rw [← hone]
        refine Tr.is (tr_ne (ev_mod (ev_sum (ns := List.zipWith (· * ·) row one) (Ev.toL (ev_comp2 (intsD (List.zipWith (· * ·) row one)) (src_zip (ev_name rfl) (ev_name rfl)) (scOk (by kernel_rfl)) (.inl rfl) (.inl rfl) ?_ ?_ ?_))) (ev_name rfl) (by lia)) ev_int) ?_
        · simp only [zipD, List.length_zipWith, intsD_len]; lia
        · simp only [zipD, List.length_zipWith, intsD_len]
        · intro t d d' ht ht'
          obtain ⟨x, y, hx, hy, rfl⟩ := zipD_get ht
          obtain ⟨k1, rfl⟩ := intsD_item hx
          obtain ⟨k2, rfl⟩ := intsD_item hy
          refine ⟨_, _, rfl, ?_⟩
          obtain ⟨k3, rfl⟩ := intsD_item ht'
          have e9 : (List.zipWith (· * ·) row one).getD t 0 = row.getD t 0 * one.getD t 0 := by
            rw [List.getD_eq_getElem?_getD, List.getElem?_zipWith, getD_get k1, getD_get k2]; rfl
          have hx := hre _ (getD_mem k1)
          rw [e9]
          exact ev_mul (ev_name rfl) (ev_name rfl) (.inl (by lia))
        · have := horth one hm2
          unfold dotS at this
          rw [this]; simp
      · have : (rowsD made).filter (fun _ => false) = [] := by simp
        rw [this]; rfl
      · exact st_done (st_done ⟨rfl, S8.to ⟨rfl, rfl, rfl, rfl, trivial⟩⟩)
    · exact law_b hC hpn hb hmk hml L hA hQ S3
end
end Mine
end
section
open PySem PySem.Calls PyProof.Rows
set_option linter.unusedVariables false
set_option maxRecDepth 100000
namespace Mine
section
variable {C : Cx}
local macro_rules | `(tactic| walk_at "side") => `(tactic| first
  | decide
  | assumption
  | omega
  | (left; omega)
  | (right; omega)
  | (simp; omega)
  | (simp; done))

theorem evx_swap {g : G} {p q p' q' : Addr × Own} {e : Expr} {P : VP} (h : Evx (g.own [p, q]) (g.own [p', q']) e P) : Evx (g.own [q, p]) (g.own [q', p']) e P := fun A env W Y B s E ha S =>
  wpAny_mono (h A env W Y B s E ha (S.perm (γ := g.own [p, q]) (fun z hz => by
    rcases List.mem_cons.mp hz with rfl | hz
    · exact List.mem_cons_of_mem _ List.mem_cons_self
    · rcases List.mem_cons.mp hz with rfl | hz
      · exact List.mem_cons_self
      · cases hz))) (fun v s1 x => ⟨x.1, x.2.1.perm (fun z hz => by
    rcases List.mem_cons.mp hz with rfl | hz
    · exact List.mem_cons_of_mem _ List.mem_cons_self
    · rcases List.mem_cons.mp hz with rfl | hz
      · exact List.mem_cons_self
      · cases hz), x.2.2⟩) fun _ _ x => x
noncomputable def pairD (q : Int × Nat) : D := .tup [.int q.1, .int q.2]
noncomputable def rowS (xs : List Int) (p : Int) (n k : Nat) : List Int := (List.range n).map fun j => drawS xs (k + j) p
noncomputable def madeS (xs : List Int) (p : Int) (n : Nat) : Nat → List (List Int)
  | 0 => []
  | i + 1 => madeS xs p n i ++ [rowS xs p n (2 + i * n)]
theorem madeS_len (xs : List Int) (p : Int) (n : Nat) : ∀ i, (madeS xs p n i).length = i
  | 0 => rfl
  | i + 1 => by rw [madeS, List.length_append, madeS_len]; rfl
theorem drawS_ok (xs : List Int) (k : Nat) {m : Int} (hm : 0 < m) : 0 ≤ drawS xs k m ∧ drawS xs k m < m := by
  unfold drawS
  split
  · exact ⟨Int.fmod_nonneg_of_pos _ hm, Int.fmod_lt_of_pos _ hm⟩
  · exact ⟨Int.fmod_nonneg_of_pos _ hm, Int.fmod_lt_of_pos _ hm⟩
theorem madeS_ok (xs : List Int) {p : Int} (hp : 0 < p) (n : Nat) : ∀ i, OkRows p n (madeS xs p n i)
  | 0 => fun r hr => by cases hr
  | i + 1 => fun r hr => by
    rw [madeS] at hr
    rcases List.mem_append.mp hr with h | h
    · exact madeS_ok xs hp n i r h
    · rw [List.mem_singleton.mp h]
      refine ⟨by simp [rowS], fun x hx => ?_⟩
      obtain ⟨j, _, rfl⟩ := List.mem_map.mp hx
      exact drawS_ok xs _ hp
theorem rowsD_app (a : List (List Int)) (r : List Int) : rowsD a ++ [.list (intsD r)] = rowsD (a ++ [r]) := by simp [rowsD]

inductive PairsE : List Expr → List (Int × Nat) → Prop
  | nil : PairsE [] []
  | cons {es : List Expr} {cs : List (Int × Nat)} {a c : Int} {b k1 k2 k3 : Nat} {p1 p2 p3 : Pos} : c = (b : Int) → PairsE es cs → PairsE (.Tuple [.Constant (.int a) k1 p1, .Constant (.int c) k2 p2] k3 p3 :: es) ((a, b) :: cs)
theorem evs_pairs {g : G} {es : List Expr} {cs : List (Int × Nat)} (h : PairsE es cs) : Evs g es (cs.map pairD) := by
  induction h with
  | nil => exact evs_nil
  | cons e _ ih => subst e; exact evs_cons (ev_tup (evs_cons ev_int (evs_cons ev_int evs_nil))) ih (fun env => rfl)
theorem plain_call {f : Expr} {es : List Expr} {kw} {p : Pos} : plainSub (.Call f es kw p) := fun _ _ => rfl

theorem law_ok (hC : Good C) {k : Nat} (script : List Int) (hl : script.length ≤ 1000)
    (plain : ∀ (p : Int) (n : Nat) (made : List (List Int)), (p, n) ∈ pairsL → OkRows p n made → 1 ≤ made.length → made.length ≤ 3 → LawP p n made) :
    FnP C (k + 5) ("law" : Str) [.list (intsD script)] (.bool true) := by
  have f1 : ∃ d ∈ C.defs, d.name = ("_law_draw" : Str) := hC.fn 11 rfl rfl
  refine fn_ok' (dR 22) (hC.mem 17 rfl) ["script"] rfl ?_ (by decide +kernel) ?_
  · intro pm code doc vals hl
    match vals, hl with
    | [x], _ => rfl
  intro A env W0 Y s0 s' E hA hW S
  have hls := intsD_len script
  obtain ⟨xs, hxs⟩ : ∃ xs, xs = script.take 20 := ⟨_, rfl⟩
  have hxl : xs.length ≤ 1000 := by rw [hxs, List.length_take]; omega
  refine st_own S hA (ds := poolD xs 0) (evN_list (evs_cons (d := .list (intsD xs)) (ev_comp1 (intsD xs) (src_list (Ev.is (d' := .list (intsD xs)) (ev_slice (a := none) (b := some 20) (Ev.toL (ev_name rfl)) trivial ev_int (by omega)) (by rw [hxs]; simp [sliceL, intsD, List.map_take]))) (scOk (by kernel_rfl)) (.inl rfl) (by rw [intsD_len]; omega) rfl (fun i d d' hd hd' => ?_)) (evs_cons ev_int evs_nil)) (by show 2 ≤ 1000; decide)) (.inr rfl) fun a s1 S1 hne haX haB => ?_
  · rw [hd] at hd'
    cases hd'
    obtain ⟨_, rfl⟩ := intsD_item hd
    exact ev_intI (ev_name rfl)
  have d1 := drawS_ok xs 0 (m := 6) (by decide)
  obtain ⟨i0, hi0⟩ : ∃ i0, i0 = drawS xs 0 6 := ⟨_, rfl⟩
  obtain ⟨p, n, hpn, hget⟩ : ∃ p n, (p, n) ∈ pairsL ∧ (pairsL.map pairD)[(drawS xs 0 6).toNat]? = some (.tup [.int p, .int (n : Nat)]) := by
    rw [← hi0] at d1 ⊢
    have h6 : i0.toNat < pairsL.length := by show i0.toNat < 6; omega
    refine ⟨(pairsL[i0.toNat]).1, (pairsL[i0.toNat]).2, List.getElem_mem h6, ?_⟩
    rw [List.getElem?_map, List.getElem?_eq_getElem h6]; rfl
  obtain ⟨hp, hn2, hn6, hpow⟩ := pairs_cases hpn
  have S2 : St ((⟨C, k + 4, (dR 22).scope.names, [("pool", .own a)], []⟩ : G).own [(a, .list (poolD xs 0))]) env (a :: (W0 ++ ([] : List (Addr × Own)).map (·.1))) Y [s0] s1 := S1.to ⟨rfl, trivial⟩
  have key := fun (es : List Expr) (k1 : Nat) (p1 p2 p3 p4 p5 p6 : Pos) (k2 : Nat) (h : PairsE es pairsL) => evx_itemT (pos := p1) (ds := pairsL.map pairD) (ev_tup (k := k1) (pos := p2) (evs_pairs h) (by show 6 ≤ 1000; decide)) (evx_call (f := ("_law_draw" : Str)) (es := [.Name "pool" p3, .Constant (.int 6) k2 p4]) (p := p5) (pos := p6) (g := ⟨C, k + 4, (dR 22).scope.names, [("pool", .own a)], []⟩) (σ := []) (draw_ok hC xs 0 6 a hxl (by omega) (by decide)) (evs_cons (ev_name rfl) (evs_cons ev_int evs_nil)) (fun _ h => by cases h)) d1.1 hget (by omega) plain_call
  have TT := fun (pos : Pos) (q1 q2 q3 : Pos) (k3 : Nat) (rest : List Stmt) (Q : Flow → Shared → Prop) (E : Value → Shared → Prop) (es : List Expr) (k1 : Nat) (p1 p2 p3 p4 p5 p6 : Pos) (k2 : Nat) h kont hs hw => st_tupleX (pos := pos) (k := k3) (tp := q3) (rest := rest) (Q := Q) (E := E) [("p", q1), ("n", q2)] S2 hA (key es k1 p1 p2 p3 p4 p5 p6 k2 h) rfl (kinds2 (.inr rfl) (.inl rfl)) kont hs hw
  refine TT ⟨106, 4, 106, 79⟩ ⟨106, 4, 106, 5⟩ ⟨106, 7, 106, 8⟩ ⟨106, 4, 106, 8⟩ 0 _ _ _ _ 0 ⟨106, 11, 106, 79⟩ ⟨106, 11, 106, 59⟩ ⟨106, 70, 106, 74⟩ ⟨106, 76, 106, 77⟩ ⟨106, 60, 106, 69⟩ ⟨106, 60, 106, 78⟩ 0 ?e1 ?e2 ?e3 ?e4
  case e1 => unfold pairsL; repeat (first | exact .nil | refine .cons rfl ?_)
  case e3 => rfl
  case e4 => rfl
  intro s3 S3
  have S4 : St (⟨C, k + 4, (dR 22).scope.names, [("p", .int p), ("n", .int n), ("pool", .own a)], [(a, .list (poolD xs 1))]⟩ : G) env (a :: (W0 ++ ([] : List (Addr × Own)).map (·.1))) Y [s0] s3 := S3.to ⟨rfl, rfl, rfl, trivial⟩
  refine st_own S4 hA (evN_list evs_nil) (.inr rfl) fun b s5 S5 hneb hbX hbB => ?_
  have hba : b ≠ a := fun h => hneb _ List.mem_cons_self h.symm
  have d2 := drawS_ok xs 1 (m := 3) (by decide)
  obtain ⟨T, hT⟩ : ∃ T, T = (1 + drawS xs 1 3).toNat := ⟨_, rfl⟩
  have S6 : St ((⟨C, k + 4, (dR 22).scope.names, [("made", .own b), ("p", .int p), ("n", .int n), ("pool", .own a)], []⟩ : G).own [(a, .list (poolD xs 1)), (b, .list [])]) env (b :: a :: (W0 ++ ([] : List (Addr × Own)).map (·.1))) Y [s0] s5 := (S5.to (γ := (⟨C, k + 4, (dR 22).scope.names, [("made", .own b), ("p", .int p), ("n", .int n), ("pool", .own a)], []⟩ : G).own [(b, .list []), (a, .list (poolD xs 1))]) ⟨rfl, rfl, rfl, rfl, trivial⟩).perm (fun z hz => by
    rcases List.mem_cons.mp hz with rfl | hz
    · exact List.mem_cons_of_mem _ List.mem_cons_self
    · rcases List.mem_cons.mp hz with rfl | hz
      · exact List.mem_cons_self
      · cases hz)
  refine st_forX S6 hA (srcx_range1 (k := T) (evx_add ev_int (evx_call (g := ⟨C, k + 4, (dR 22).scope.names, [("made", .own b), ("p", .int p), ("n", .int n), ("pool", .own a)], []⟩) (σ := [(b, .list [])]) (draw_ok hC xs 1 3 a hxl (by omega) (by decide)) (evs_cons (ev_name rfl) (evs_cons ev_int evs_nil)) (fun z h => by rw [List.mem_singleton.mp h]; exact hba))) hT.symm (by omega)) rfl rfl ⟨_, _, rfl⟩
    (fun i => (⟨C, k + 4, (dR 22).scope.names, [("made", .own b), ("p", .int p), ("n", .int n), ("pool", .own a)], []⟩ : G).own [(b, .list (rowsD (madeS xs p n i))), (a, .list (poolD xs (2 + i * n)))]) (fun _ => rfl)
    (fun Y' s' S' => St.perm S' (fun z hz => by
    rcases List.mem_cons.mp hz with rfl | hz
    · exact List.mem_cons_of_mem _ List.mem_cons_self
    · rcases List.mem_cons.mp hz with rfl | hz
      · rw [Nat.zero_mul]; exact List.mem_cons_self
      · cases hz)) (fun i d hd => ?_) fun s7 S7 => ?_
  · obtain ⟨hi, rfl⟩ := rangeD_get hd
    refine ⟨((⟨C, k + 4, (dR 22).scope.names, [("made", .own b), ("p", .int p), ("n", .int n), ("pool", .own a)], []⟩ : G).own [(b, .list (rowsD (madeS xs p n i))), (a, .list (poolD xs (2 + i * n)))]).set "turn" (.int (0 + (i : Nat))), rfl, tgt_name (.inl rfl), fun Y' B' s' E' S' => ?_⟩
    have hin : i * n ≤ 18 := by
      have : i * n ≤ 3 * 6 := Nat.mul_le_mul (by omega) hn6
      omega
    have S8 : St ((⟨C, k + 4, (dR 22).scope.names, [("made", .own b), ("p", .int p), ("n", .int n), ("pool", .own a)], []⟩ : G).own [(b, .list (rowsD (madeS xs p n i))), (a, .list (poolD xs (2 + i * n)))]) env (b :: a :: (W0 ++ ([] : List (Addr × Own)).map (·.1))) Y' B' s' := S'.to ⟨rfl, rfl, rfl, rfl, trivial⟩
    have hml := madeS_len xs p n i
    refine st_appendX (σ' := [(a, .list (poolD xs (2 + i * n + n)))]) (d := .list (intsD (rowS xs p n (2 + i * n)))) S8 hA (fun z h => by rw [List.mem_singleton.mp h]; exact hba.symm) (ev_name rfl) ?_ (by rw [rowsD_len]; omega) fun s9 S9 => ?_
    · refine evx_swap (p := (a, Own.list (poolD xs (2 + i * n)))) (p' := (a, Own.list (poolD xs (2 + i * n + n)))) ?_
      have TT := fun (elt iter : Expr) (x : Str) (px pos : Pos) (scope : Scope) h1 h2 h3 h4 h5 h6 h7 h8 => @evx_comp1 (⟨C, k + 4, (dR 22).scope.names, [("made", .own b), ("p", .int p), ("n", .int n), ("pool", .own a)], []⟩ : G) elt iter x px pos scope (rangeD 0 n) (intsD (rowS xs p n (2 + i * n))) a (fun j => .list (poolD xs (2 + i * n + j))) [(b, .list (rowsD (madeS xs p n i)))] h1 h2 h3 h4 h5 h6 h7 h8
      rw [rangeD_len] at TT
      refine TT _ _ _ _ _ _ (src_range1 (k := n) (ev_name rfl) (by omega) (by omega)) (scOk (by kernel_rfl)) (.inl rfl) (by omega) (by rw [intsD_len]; simp [rowS]) (fun z h => by rw [List.mem_singleton.mp h]; exact hba) (fun j d d' hd hd' => ?_) (by intro _ _; rfl)
      obtain ⟨hj, rfl⟩ := rangeD_get hd
      obtain ⟨_, rfl⟩ := intsD_item hd'
      have er : (rowS xs p n (2 + i * n)).getD j 0 = drawS xs (2 + i * n + j) p := by
        unfold rowS
        rw [List.getD_eq_getElem?_getD, List.getElem?_map, List.getElem?_range hj]; rfl
      rw [er]
      exact evx_call (g := (cg (⟨C, k + 4, (dR 22).scope.names, [("made", .own b), ("p", .int p), ("n", .int n), ("pool", .own a)], []⟩ : G) _).set "at" (.int (0 + (j : Nat)))) (σ := []) (draw_ok hC xs (2 + i * n + j) p a hxl (by omega) (by omega)) (evs_cons (ev_name rfl) (evs_cons (ev_name rfl) evs_nil)) (fun _ h => by cases h) (hdef := f1)
    · refine st_done ⟨rfl, ?_⟩
      rw [rowsD_app] at S9
      have e : 2 + i * n + n = 2 + (i + 1) * n := by rw [Nat.succ_mul]; omega
      rw [e] at S9
      exact S9
  · rw [rangeD_len] at S7
    have hml := madeS_len xs p n T
    have hmo := madeS_ok xs (by omega : 0 < p) n T
    obtain ⟨made, hmd⟩ : ∃ made, made = madeS xs p n T := ⟨_, rfl⟩
    rw [← hmd] at S7 hml hmo
    have S8 : St (⟨C, k + 4, (dR 22).scope.names, [("made", .list (rowsD made)), ("p", .int p), ("n", .int n)], [(a, .list (poolD xs (2 + T * n)))]⟩ : G) env (a :: (W0 ++ ([] : List (Addr × Own)).map (·.1))) Y [s0] s7 := S7.freeze hbB hbX (fun z h => by rw [List.mem_singleton.mp h]; exact hba.symm) (fun x d hx => by
      have hx' : List.lookup x [(("made" : Str), D.list (rowsD made)), (("p" : Str), D.int p), (("n" : Str), D.int n)] = some d := hx
      show List.lookup x [(("made" : Str), D.own b), (("p" : Str), D.int p), (("n" : Str), D.int n), (("pool" : Str), D.own a)] = some d ∨ (List.lookup x [(("made" : Str), D.own b), (("p" : Str), D.int p), (("n" : Str), D.int n), (("pool" : Str), D.own a)] = some (.own b) ∧ d = .list (rowsD made))
      simp only [List.lookup] at hx' ⊢
      cases h1 : (x == ("made" : Str)) <;> cases h2 : (x == ("p" : Str)) <;> cases h3 : (x == ("n" : Str)) <;> simp_all)
    refine law_a hC hpn hmo (by omega) (by omega) (plain p n made hpn hmo (by omega) (by omega)) hA (fun g v s' hg S' r => ?_) S8
    have := S'.fin (fun y hy => by
      rcases List.mem_cons.mp hy with rfl | hy
      · exact haB _ List.mem_cons_self
      · simp at hy; exact hW y hy) r
    rw [hg] at this
    exact this
end
end Mine
end
section
open PySem PySem.Calls PyProof.Rows
set_option linter.unusedVariables false
namespace Mine

/-- sums -/
noncomputable def sm {α : Type} (l : List α) (f : α → Int) : Int := (l.map f).sum
section
variable {α β : Type}
theorem sm_nil (f : α → Int) : sm [] f = 0 := rfl
theorem sm_cons (x : α) (l : List α) (f : α → Int) : sm (x :: l) f = f x + sm l f := by simp [sm]
theorem sm_append (l m : List α) (f : α → Int) : sm (l ++ m) f = sm l f + sm m f := by simp [sm]
theorem sm_congr {l : List α} {f g : α → Int} (h : ∀ x ∈ l, f x = g x) : sm l f = sm l g := by
  unfold sm; rw [List.map_congr_left h]
theorem sm_add (l : List α) (f g : α → Int) : sm l (fun x => f x + g x) = sm l f + sm l g := by
  induction l with
  | nil => rfl
  | cons x l ih => simp only [sm_cons, ih]; lia
theorem sm_sub (l : List α) (f g : α → Int) : sm l (fun x => f x - g x) = sm l f - sm l g := by
  induction l with
  | nil => rfl
  | cons x l ih => simp only [sm_cons, ih]; lia
theorem sm_mul (l : List α) (k : Int) (f : α → Int) : sm l (fun x => k * f x) = k * sm l f := by
  induction l with
  | nil => simp [sm]
  | cons x l ih => simp only [sm_cons, ih]; grind
theorem sm_mulR (l : List α) (k : Int) (f : α → Int) : sm l (fun x => f x * k) = sm l f * k := by
  induction l with
  | nil => simp [sm]
  | cons x l ih => simp only [sm_cons, ih]; grind
theorem sm_zero (l : List α) : sm l (fun _ => 0) = 0 := by
  induction l with
  | nil => rfl
  | cons x l ih => simp only [sm_cons, ih]; lia
theorem sm_const (l : List α) (k : Int) : sm l (fun _ => k) = k * (l.length : Int) := by
  induction l with
  | nil => simp [sm]
  | cons x l ih => simp only [sm_cons, ih, List.length_cons]; grind
theorem sm_swap (l : List α) (m : List β) (f : α → β → Int) : sm l (fun x => sm m (fun y => f x y)) = sm m (fun y => sm l (fun x => f x y)) := by
  induction l with
  | nil => simp only [sm_nil]; rw [sm_zero]
  | cons x l ih => simp only [sm_cons, ih]; rw [sm_add]
theorem sm_map (l : List β) (g : β → α) (f : α → Int) : sm (l.map g) f = sm l (fun x => f (g x)) := by
  unfold sm; rw [List.map_map]; rfl
theorem sm_flatMap (l : List β) (g : β → List α) (f : α → Int) : sm (l.flatMap g) f = sm l (fun x => sm (g x) f) := by
  induction l with
  | nil => rfl
  | cons x l ih => rw [List.flatMap_cons, sm_append, ih, sm_cons]
theorem sm_nonneg {l : List α} {f : α → Int} (h : ∀ x ∈ l, 0 ≤ f x) : 0 ≤ sm l f := by
  induction l with
  | nil => exact Int.le_refl _
  | cons x l ih =>
    rw [sm_cons]
    have := h x List.mem_cons_self
    have := ih fun y hy => h y (List.mem_cons_of_mem _ hy)
    lia
theorem sm_le {l : List α} {f g : α → Int} (h : ∀ x ∈ l, f x ≤ g x) : sm l f ≤ sm l g := by
  have := sm_nonneg (l := l) (f := fun x => g x - f x) fun x hx => by have := h x hx; lia
  rw [sm_sub] at this; lia
end

/-- all vectors -/
noncomputable def allV (p : Int) : Nat → List (List Int)
  | 0 => [[]]
  | n + 1 => (List.range p.toNat).flatMap fun x => (allV p n).map fun v => ((x : Nat) : Int) :: v
theorem mem_allV {p : Int} : ∀ {n : Nat} {v : List Int}, v ∈ allV p n ↔ OkW p n v
  | 0, v => by
    unfold allV
    rw [List.mem_singleton]
    constructor
    · rintro rfl; exact ⟨rfl, fun x hx => nomatch hx⟩
    · intro h; exact List.length_eq_zero_iff.mp h.1
  | n + 1, v => by
    unfold allV
    rw [List.mem_flatMap]
    constructor
    · rintro ⟨x, hx, hv⟩
      obtain ⟨u, hu, rfl⟩ := List.mem_map.mp hv
      obtain ⟨h1, h2⟩ := mem_allV.mp hu
      refine ⟨by rw [List.length_cons, h1], fun y hy => ?_⟩
      rcases List.mem_cons.mp hy with rfl | hy
      · have := List.mem_range.mp hx; lia
      · exact h2 y hy
    · rintro ⟨h1, h2⟩
      match v, h1 with
      | y :: u, h1 =>
        have hy := h2 y List.mem_cons_self
        refine ⟨y.toNat, List.mem_range.mpr (by lia), List.mem_map.mpr ⟨u, mem_allV.mpr ⟨by simpa using h1, fun z hz => h2 z (List.mem_cons_of_mem _ hz)⟩, ?_⟩⟩
        congr 1; lia
theorem nodup_map_cons {x : Int} {l : List (List Int)} (h : l.Nodup) : (l.map fun v => x :: v).Nodup := by
  unfold List.Nodup at *
  rw [List.pairwise_map]
  exact h.imp fun q e => q (List.cons.inj e).2
theorem nodup_flat {l : List Nat} {m : List (List Int)} (hl : l.Nodup) (hm : m.Nodup) : (l.flatMap fun x => m.map fun v => ((x : Nat) : Int) :: v).Nodup := by
  induction l with
  | nil => exact List.nodup_nil
  | cons x l ih =>
    rw [List.flatMap_cons, List.nodup_append]
    obtain ⟨h1, h2⟩ := List.nodup_cons.mp hl
    refine ⟨nodup_map_cons hm, ih h2, fun a ha b hb e => ?_⟩
    subst e
    obtain ⟨v, _, rfl⟩ := List.mem_map.mp ha
    obtain ⟨y, hy, hb⟩ := List.mem_flatMap.mp hb
    obtain ⟨u, _, e⟩ := List.mem_map.mp hb
    have := (List.cons.inj e).1
    have : y = x := by lia
    subst this
    exact h1 hy
theorem nodup_allV (p : Int) : ∀ n, (allV p n).Nodup
  | 0 => by simp [allV]
  | n + 1 => nodup_flat List.nodup_range (nodup_allV p n)
theorem len_allV (p : Int) : ∀ n, (allV p n).length = p.toNat ^ n
  | 0 => rfl
  | n + 1 => by
    unfold allV
    rw [List.length_flatMap]
    have : (List.range p.toNat).map (fun x : Nat => ((allV p n).map fun v => ((x : Nat) : Int) :: v).length) = (List.range p.toNat).map (fun _ => p.toNat ^ n) := by
      apply List.map_congr_left; intro x _; rw [List.length_map, len_allV p n]
    rw [this, List.map_const', List.length_range]
    simp [Nat.pow_succ, Nat.mul_comm]

/-- the dot product -/
theorem dotS_cons (x y : Int) (a b : List Int) : dotS (x :: a) (y :: b) = x * y + dotS a b := by simp [dotS]
theorem dotS_comm : ∀ a b : List Int, dotS a b = dotS b a
  | [], [] => rfl
  | [], _ :: _ => rfl
  | _ :: _, [] => rfl
  | x :: a, y :: b => by rw [dotS_cons, dotS_cons, dotS_comm a b, Int.mul_comm]
theorem wordOf_cons (p m x y : Int) (w r : List Int) : wordOf p (x :: w) (y :: r) m = (x + m * y).fmod p :: wordOf p w r m := rfl
/-- up to multiples of p -/
theorem dot_wordOf {p : Int} (hp : 0 < p) (m : Int) : ∀ {u w r : List Int}, w.length = u.length → r.length = u.length → (dotS (wordOf p w r m) u) % p = (dotS w u + m * dotS r u) % p
  | [], w, r, h1, h2 => by
    rw [List.length_eq_zero_iff.mp h1, List.length_eq_zero_iff.mp h2]; simp [dotS, wordOf]
  | z :: u, w, r, h1, h2 => by
    match w, r, h1, h2 with
    | x :: w, y :: r, h1, h2 =>
    have ih := dot_wordOf hp m (w := w) (r := r) (u := u) (by simpa using h1) (by simpa using h2)
    rw [wordOf_cons, dotS_cons, dotS_cons, dotS_cons, Int.fmod_eq_emod_of_nonneg _ (by lia)]
    have e1 : (x + m * y) % p = x + m * y - p * ((x + m * y) / p) := by rw [Int.emod_def]
    have e2 : dotS (wordOf p w r m) u = dotS w u + m * dotS r u + p * ((dotS (wordOf p w r m) u) / p - (dotS w u + m * dotS r u) / p) := by
      have a1 := Int.emod_add_mul_ediv (dotS (wordOf p w r m) u) p
      have a2 := Int.emod_add_mul_ediv (dotS w u + m * dotS r u) p
      rw [ih] at a1
      grind
    rw [e1]
    generalize (x + m * y) / p = q1 at *
    generalize (dotS (wordOf p w r m) u) / p - (dotS w u + m * dotS r u) / p = q2 at *
    rw [e2]
    have : (x + m * y - p * q1) * z + (dotS w u + m * dotS r u + p * q2) = (x * z + dotS w u + m * (y * z + dotS r u)) + p * (q2 - q1 * z) := by grind
    rw [this, Int.add_mul_emod_self_left]
end Mine
end
section
set_option linter.unusedVariables false
namespace Mine
noncomputable def ph : List (Int × Int) → List Int → Int
  | [], _ => 1
  | _ :: _, [] => 1
  | q :: fs, x :: v => (if x = 0 then q.1 else q.2) * ph fs v
noncomputable def gT (p : Int) (fs : List (Int × Int)) : List (Int × Int) := fs.map fun q => (q.1 + (p - 1) * q.2, q.1 - q.2)
noncomputable def SS (p : Int) (fs : List (Int × Int)) (c : List Int) (s : Int) : Int := sm (allV p fs.length) fun v => if (dotS c v - s) % p = 0 then ph fs v else 0
noncomputable def eN (p t : Int) : Int := if t % p = 0 then 0 else 1
theorem SS_cons (p : Int) (q : Int × Int) (fs : List (Int × Int)) (c0 : Int) (c : List Int) (s : Int) :
    SS p (q :: fs) (c0 :: c) s = sm (List.range p.toNat) fun x => (if ((x : Nat) : Int) = 0 then q.1 else q.2) * SS p fs c (s - c0 * (x : Nat)) := by
  unfold SS
  rw [List.length_cons]
  show sm ((List.range p.toNat).flatMap fun x => (allV p fs.length).map fun v => ((x : Nat) : Int) :: v) _ = _
  rw [sm_flatMap]
  refine sm_congr fun x _ => ?_
  rw [sm_map, ← sm_mul]
  refine sm_congr fun v _ => ?_
  rw [dotS_cons]
  have : c0 * (x : Nat) + dotS c v - s = dotS c v - (s - c0 * (x : Nat)) := by lia
  rw [this]
  split
  · rfl
  · rw [Int.mul_zero]
theorem coef {p : Int} (hp : p = 2 ∨ p = 3 ∨ p = 5) {c0 : Int} (h0 : 0 ≤ c0) (h1 : c0 < p) (a b s : Int) (hs : s % p ≠ 0) :
    sm (List.range p.toNat) (fun x => (if ((x : Nat) : Int) = 0 then a else b) * (eN p (s - c0 * (x : Nat)) - eN p (0 - c0 * (x : Nat)))) = if c0 = 0 then a + (p - 1) * b else a - b := by
  rcases hp with rfl | rfl | rfl
  · have hc : c0 = 0 ∨ c0 = 1 := by lia
    have hr : s % 2 = 1 := by lia
    show sm [0, 1] _ = _
    rcases hc with rfl | rfl <;> simp [sm_cons, sm_nil, eN, Int.sub_emod s, hr] <;> grind
  · have hc : c0 = 0 ∨ c0 = 1 ∨ c0 = 2 := by lia
    have hr : s % 3 = 1 ∨ s % 3 = 2 := by lia
    show sm [0, 1, 2] _ = _
    rcases hc with rfl | rfl | rfl <;> rcases hr with hr | hr <;> simp [sm_cons, sm_nil, eN, Int.sub_emod s, hr] <;> grind
  · have hc : c0 = 0 ∨ c0 = 1 ∨ c0 = 2 ∨ c0 = 3 ∨ c0 = 4 := by lia
    have hr : s % 5 = 1 ∨ s % 5 = 2 ∨ s % 5 = 3 ∨ s % 5 = 4 := by lia
    show sm [0, 1, 2, 3, 4] _ = _
    rcases hc with rfl | rfl | rfl | rfl | rfl <;> rcases hr with hr | hr | hr | hr <;> simp [sm_cons, sm_nil, eN, Int.sub_emod s, hr] <;> grind
theorem SS_zero {p : Int} (fs : List (Int × Int)) (c : List Int) {s : Int} (h : s % p = 0) : SS p fs c s = SS p fs c 0 := by
  unfold SS
  refine sm_congr fun v _ => ?_
  have : (dotS c v - s) % p = (dotS c v - 0) % p := by
    rw [Int.sub_emod, h]; simp
  rw [this]
theorem SS_diff {p : Int} (hp : p = 2 ∨ p = 3 ∨ p = 5) : ∀ (fs : List (Int × Int)) (c : List Int), OkW p fs.length c → ∀ s, SS p fs c 0 - SS p fs c s = eN p s * ph (gT p fs) c
  | [], c, h, s => by
    have : c = [] := List.length_eq_zero_iff.mp h.1
    subst this
    unfold SS eN
    show sm [[]] _ - sm [[]] _ = _
    have d0 : dotS [] [] = 0 := rfl
    simp only [sm_cons, sm_nil, d0, ph, gT, List.map_nil]
    by_cases q : s % p = 0
    · have : (0 - s) % p = 0 := by rcases hp with rfl | rfl | rfl <;> lia
      rw [if_pos this, if_pos q]; simp
    · have : ¬ (0 - s) % p = 0 := by rcases hp with rfl | rfl | rfl <;> lia
      rw [if_neg this, if_neg q]; simp
  | q :: fs, c, h, s => by
    match c, h with
    | c0 :: c, h =>
    have hc : OkW p fs.length c := ⟨by simpa using h.1, fun x hx => h.2 x (List.mem_cons_of_mem _ hx)⟩
    have h0 := h.2 c0 List.mem_cons_self
    by_cases hs : s % p = 0
    · rw [SS_zero _ _ hs]; unfold eN; rw [if_pos hs]; lia
    · have ih := SS_diff hp fs c hc
      rw [SS_cons, SS_cons, ← sm_sub]
      have step : sm (List.range p.toNat) (fun x => (if ((x : Nat) : Int) = 0 then q.1 else q.2) * SS p fs c (0 - c0 * (x : Nat)) - (if ((x : Nat) : Int) = 0 then q.1 else q.2) * SS p fs c (s - c0 * (x : Nat))) = sm (List.range p.toNat) (fun x => ((if ((x : Nat) : Int) = 0 then q.1 else q.2) * (eN p (s - c0 * (x : Nat)) - eN p (0 - c0 * (x : Nat)))) * ph (gT p fs) c) := by
        refine sm_congr fun x _ => ?_
        have i1 := ih (0 - c0 * (x : Nat))
        have i2 := ih (s - c0 * (x : Nat))
        generalize (if ((x : Nat) : Int) = 0 then q.1 else q.2) = f
        grind
      rw [step, sm_mulR, coef hp h0.1 h0.2 q.1 q.2 s hs]
      unfold eN
      rw [if_neg hs, Int.one_mul]
      rfl
theorem SS_total {p : Int} (hp : p = 2 ∨ p = 3 ∨ p = 5) (fs : List (Int × Int)) (c : List Int) : sm (List.range p.toNat) (fun r => SS p fs c ((r : Nat) : Int)) = sm (allV p fs.length) (ph fs) := by
  unfold SS
  rw [sm_swap]
  refine sm_congr fun v _ => ?_
  generalize dotS c v = d
  generalize ph fs v = t
  rcases hp with rfl | rfl | rfl
  · show sm [0, 1] _ = _
    simp only [sm_cons, sm_nil]
    have hd : d % 2 = 0 ∨ d % 2 = 1 := by lia
    rcases hd with hd | hd <;> simp [Int.sub_emod d, hd]
  · show sm [0, 1, 2] _ = _
    simp only [sm_cons, sm_nil]
    have hd : d % 3 = 0 ∨ d % 3 = 1 ∨ d % 3 = 2 := by lia
    rcases hd with hd | hd | hd <;> simp [Int.sub_emod d, hd]
  · show sm [0, 1, 2, 3, 4] _ = _
    simp only [sm_cons, sm_nil]
    have hd : d % 5 = 0 ∨ d % 5 = 1 ∨ d % 5 = 2 ∨ d % 5 = 3 ∨ d % 5 = 4 := by lia
    rcases hd with hd | hd | hd | hd | hd <;> simp [Int.sub_emod d, hd]
/-- the product lemma -/
theorem prodL {p : Int} (hp : p = 2 ∨ p = 3 ∨ p = 5) (fs : List (Int × Int)) (c : List Int) (hc : OkW p fs.length c) :
    sm (allV p fs.length) (fun v => ph fs v * (p * (if dotS c v % p = 0 then 1 else 0) - 1)) = (p - 1) * ph (gT p fs) c := by
  have h1 : sm (allV p fs.length) (fun v => ph fs v * (p * (if dotS c v % p = 0 then 1 else 0) - 1)) = p * SS p fs c 0 - sm (allV p fs.length) (ph fs) := by
    unfold SS
    rw [← sm_mul, ← sm_sub]
    refine sm_congr fun v _ => ?_
    rw [Int.sub_zero]
    split <;> grind
  have h2 := SS_total hp fs c
  have h3 := SS_diff hp fs c hc
  rw [h1, ← h2]
  generalize hS : SS p fs c = S at *
  generalize ph (gT p fs) c = D at *
  rcases hp with rfl | rfl | rfl
  · show 2 * S 0 - sm [0, 1] _ = _
    simp only [sm_cons, sm_nil]
    have a1 := h3 1
    simp [eN] at a1 ⊢
    lia
  · show 3 * S 0 - sm [0, 1, 2] _ = _
    simp only [sm_cons, sm_nil]
    have a1 := h3 1
    have a2 := h3 2
    simp [eN] at a1 a2 ⊢
    lia
  · show 5 * S 0 - sm [0, 1, 2, 3, 4] _ = _
    simp only [sm_cons, sm_nil]
    have a1 := h3 1
    have a2 := h3 2
    have a3 := h3 3
    have a4 := h3 4
    simp [eN] at a1 a2 a3 a4 ⊢
    lia
end Mine
end
section
set_option linter.unusedVariables false
namespace Mine
theorem sm_perm {α : Type} {l m : List α} (h : l.Perm m) (f : α → Int) : sm l f = sm m f := by
  induction h with
  | nil => rfl
  | cons x _ ih => rw [sm_cons, sm_cons, ih]
  | swap x y l => simp only [sm_cons]; lia
  | trans _ _ i1 i2 => exact i1.trans i2
theorem sm_subset : ∀ {l m : List (List Int)} {F : List Int → Int}, l.Nodup → (∀ x ∈ l, x ∈ m) → (∀ x ∈ m, 0 ≤ F x) → sm l F ≤ sm m F
  | [], m, F, _, _, h => sm_nonneg h
  | x :: l, m, F, nd, hs, h => by
    obtain ⟨n1, n2⟩ := List.nodup_cons.mp nd
    have hx := hs x List.mem_cons_self
    rw [sm_perm (List.perm_cons_erase hx) F, sm_cons, sm_cons]
    have := sm_subset (m := m.erase x) (F := F) n2 (fun y hy => (List.mem_erase_of_ne (fun e : y = x => n1 (e ▸ hy))).mpr (hs y (List.mem_cons_of_mem _ hy))) fun y hy => h y (List.mem_of_mem_erase hy)
    lia
theorem len_subset {l m : List (List Int)} (nd : l.Nodup) (hs : ∀ x ∈ l, x ∈ m) : l.length ≤ m.length := by
  have := sm_subset (F := fun _ => 1) nd hs fun _ _ => by lia
  rw [sm_const, sm_const] at this
  lia
theorem eq_subset : ∀ {l m : List (List Int)}, l.Nodup → m.Nodup → (∀ x ∈ l, x ∈ m) → m.length ≤ l.length → ∀ x ∈ m, x ∈ l
  | l, m, n1, n2, hs, hl => fun x hx => Classical.byContradiction fun q => by
    have := len_subset (l := x :: l) (m := m) (List.nodup_cons.mpr ⟨q, n1⟩) fun y hy => by
      rcases List.mem_cons.mp hy with rfl | hy
      · exact hx
      · exact hs y hy
    rw [List.length_cons] at this
    lia
theorem wordOf_inj {p : Int} (hp : 0 < p) (m : Int) : ∀ {n : Nat} {r a b : List Int}, r.length = n → OkW p n a → OkW p n b → wordOf p a r m = wordOf p b r m → a = b
  | 0, r, a, b, _, ha, hb, _ => by rw [List.length_eq_zero_iff.mp ha.1, List.length_eq_zero_iff.mp hb.1]
  | n + 1, r, a, b, hr, ha, hb, h => by
    match r, a, b, hr, ha, hb, h with
    | z :: r, x :: a, y :: b, hr, ha, hb, h =>
    rw [wordOf_cons, wordOf_cons] at h
    obtain ⟨h1, h2⟩ := List.cons.inj h
    have := wordOf_inj hp m (n := n) (by simpa using hr) ⟨by simpa using ha.1, fun w hw => ha.2 w (List.mem_cons_of_mem _ hw)⟩ ⟨by simpa using hb.1, fun w hw => hb.2 w (List.mem_cons_of_mem _ hw)⟩ h2
    rw [this]
    congr 1
    have hx := ha.2 x List.mem_cons_self
    have hy := hb.2 y List.mem_cons_self
    rw [Int.fmod_eq_emod_of_nonneg _ (by lia), Int.fmod_eq_emod_of_nonneg _ (by lia)] at h1
    have h3 : (x + m * z - (y + m * z)) % p = 0 := Int.emod_eq_emod_iff_emod_sub_eq_zero.mp h1
    have h4 : x + m * z - (y + m * z) = x - y := by lia
    rw [h4] at h3
    obtain ⟨k, hk⟩ := Int.dvd_of_emod_eq_zero h3
    have : k = 0 := by
      have a1 : p * k < p * 1 := by lia
      have a2 : p * (-1) < p * k := by lia
      have b1 := Int.lt_of_mul_lt_mul_left a1 (by lia)
      have b2 := Int.lt_of_mul_lt_mul_left a2 (by lia)
      lia
    rw [this] at hk
    lia
theorem nodup_map_on {l : List (List Int)} {f : List Int → List Int} (h : ∀ a ∈ l, ∀ b ∈ l, f a = f b → a = b) (nd : l.Nodup) : (l.map f).Nodup := by
  induction l with
  | nil => exact List.nodup_nil
  | cons x l ih =>
    obtain ⟨n1, n2⟩ := List.nodup_cons.mp nd
    rw [List.map_cons, List.nodup_cons]
    refine ⟨fun q => ?_, ih (fun a ha b hb => h a (List.mem_cons_of_mem _ ha) b (List.mem_cons_of_mem _ hb)) n2⟩
    obtain ⟨y, hy, e⟩ := List.mem_map.mp q
    have := h y (List.mem_cons_of_mem _ hy) x List.mem_cons_self e
    exact n1 (this ▸ hy)
noncomputable def cnt (p : Int) (G : List (List Int)) (u : List Int) (s : Int) : Int := sm G fun g => if (dotS g u - s) % p = 0 then 1 else 0
theorem cnt_mod {p : Int} (G : List (List Int)) (u : List Int) {s t : Int} (h : (s - t) % p = 0) : cnt p G u s = cnt p G u t := by
  unfold cnt
  refine sm_congr fun g _ => ?_
  have : (dotS g u - s) % p = (dotS g u - t) % p := by
    have e : dotS g u - s = (dotS g u - t) - (s - t) := by lia
    rw [e, Int.sub_emod, h]; simp
  rw [this]
theorem cnt_shift {p : Int} (hp : 0 < p) {n : Nat} {G : List (List Int)} (nd : G.Nodup) (ok : ∀ g ∈ G, OkW p n g) {r u : List Int} (hr : r.length = n) (hu : u.length = n) (closed : ∀ g ∈ G, wordOf p g r 1 ∈ G) (s : Int) :
    cnt p G u (s - dotS r u) ≤ cnt p G u s := by
  have h1 : cnt p G u (s - dotS r u) = sm (G.map fun g => wordOf p g r 1) fun g => if (dotS g u - s) % p = 0 then 1 else 0 := by
    rw [sm_map]
    unfold cnt
    refine sm_congr fun g hg => ?_
    have e := dot_wordOf hp 1 (w := g) (r := r) (u := u) (by rw [(ok g hg).1, hu]) (by rw [hr, hu])
    have : (dotS (wordOf p g r 1) u - s) % p = (dotS g u - (s - dotS r u)) % p := by
      rw [Int.sub_emod, e, ← Int.sub_emod]; congr 1; lia
    rw [this]
  rw [h1]
  refine sm_subset (nodup_map_on (fun a ha b hb e => wordOf_inj hp 1 hr (ok a ha) (ok b hb) e) nd) (fun x hx => ?_) (fun x _ => by split <;> lia)
  obtain ⟨g, hg, rfl⟩ := List.mem_map.mp hx
  exact closed g hg
theorem cnt_total {p : Int} (hp : p = 2 ∨ p = 3 ∨ p = 5) (G : List (List Int)) (u : List Int) : sm (List.range p.toNat) (fun r => cnt p G u ((r : Nat) : Int)) = (G.length : Int) := by
  have hc := sm_const G 1
  rw [Int.one_mul] at hc
  rw [← hc]
  unfold cnt
  rw [sm_swap]
  refine sm_congr fun v _ => ?_
  generalize dotS v u = d
  rcases hp with rfl | rfl | rfl
  · show sm [0, 1] _ = _
    simp only [sm_cons, sm_nil]
    have hd : d % 2 = 0 ∨ d % 2 = 1 := by lia
    rcases hd with hd | hd <;> simp [Int.sub_emod d, hd]
  · show sm [0, 1, 2] _ = _
    simp only [sm_cons, sm_nil]
    have hd : d % 3 = 0 ∨ d % 3 = 1 ∨ d % 3 = 2 := by lia
    rcases hd with hd | hd | hd <;> simp [Int.sub_emod d, hd]
  · show sm [0, 1, 2, 3, 4] _ = _
    simp only [sm_cons, sm_nil]
    have hd : d % 5 = 0 ∨ d % 5 = 1 ∨ d % 5 = 2 ∨ d % 5 = 3 ∨ d % 5 = 4 := by lia
    rcases hd with hd | hd | hd | hd | hd <;> simp [Int.sub_emod d, hd]
/-- a p-th part of a closed list is orthogonal to u -/
theorem countL {p : Int} (hp : p = 2 ∨ p = 3 ∨ p = 5) {n : Nat} {G : List (List Int)} (nd : G.Nodup) (ok : ∀ g ∈ G, OkW p n g) {r u : List Int} (hr : r.length = n) (hu : u.length = n) (closed : ∀ g ∈ G, wordOf p g r 1 ∈ G) (h0 : dotS r u % p ≠ 0) :
    p * sm G (fun g => if dotS g u % p = 0 then 1 else 0) = (G.length : Int) := by
  have hpp : 0 < p := by lia
  have hsh := cnt_shift hpp nd ok hr hu closed
  have htot := cnt_total hp G u
  have h00 : sm G (fun g => if dotS g u % p = 0 then 1 else 0) = cnt p G u 0 := by
    unfold cnt; refine sm_congr fun g _ => ?_; rw [Int.sub_zero]
  rw [h00]
  generalize dotS r u = d at *
  have hm := fun (s t : Int) (h : (s - t) % p = 0) => cnt_mod G u h
  generalize hF : cnt p G u = F at *
  rcases hp with rfl | rfl | rfl
  · have htot : sm [0, 1] (fun r => F ((r : Nat) : Int)) = _ := htot
    simp only [sm_cons, sm_nil] at htot
    have a0 := hsh 0; have a1 := hsh 1
    have hd : d % 2 = 1 := by lia
    rw [hm (0 - d) 1 (by lia)] at a0
    rw [hm (1 - d) 0 (by lia)] at a1
    simp at htot
    lia
  · have htot : sm [0, 1, 2] (fun r => F ((r : Nat) : Int)) = _ := htot
    simp only [sm_cons, sm_nil] at htot
    have a0 := hsh 0; have a1 := hsh 1; have a2 := hsh 2
    simp at htot
    have hd : d % 3 = 1 ∨ d % 3 = 2 := by lia
    rcases hd with hd | hd
    · rw [hm (0 - d) 2 (by lia)] at a0
      rw [hm (1 - d) 0 (by lia)] at a1
      rw [hm (2 - d) 1 (by lia)] at a2
      lia
    · rw [hm (0 - d) 1 (by lia)] at a0
      rw [hm (1 - d) 2 (by lia)] at a1
      rw [hm (2 - d) 0 (by lia)] at a2
      lia
  · have htot : sm [0, 1, 2, 3, 4] (fun r => F ((r : Nat) : Int)) = _ := htot
    simp only [sm_cons, sm_nil] at htot
    have a0 := hsh 0; have a1 := hsh 1; have a2 := hsh 2; have a3 := hsh 3; have a4 := hsh 4
    simp at htot
    have hd : d % 5 = 1 ∨ d % 5 = 2 ∨ d % 5 = 3 ∨ d % 5 = 4 := by lia
    rcases hd with hd | hd | hd | hd
    · rw [hm (0 - d) 4 (by lia)] at a0
      rw [hm (1 - d) 0 (by lia)] at a1
      rw [hm (2 - d) 1 (by lia)] at a2
      rw [hm (3 - d) 2 (by lia)] at a3
      rw [hm (4 - d) 3 (by lia)] at a4
      lia
    · rw [hm (0 - d) 3 (by lia)] at a0
      rw [hm (1 - d) 4 (by lia)] at a1
      rw [hm (2 - d) 0 (by lia)] at a2
      rw [hm (3 - d) 1 (by lia)] at a3
      rw [hm (4 - d) 2 (by lia)] at a4
      lia
    · rw [hm (0 - d) 2 (by lia)] at a0
      rw [hm (1 - d) 3 (by lia)] at a1
      rw [hm (2 - d) 4 (by lia)] at a2
      rw [hm (3 - d) 0 (by lia)] at a3
      rw [hm (4 - d) 1 (by lia)] at a4
      lia
    · rw [hm (0 - d) 1 (by lia)] at a0
      rw [hm (1 - d) 2 (by lia)] at a1
      rw [hm (2 - d) 3 (by lia)] at a2
      rw [hm (3 - d) 4 (by lia)] at a3
      rw [hm (4 - d) 0 (by lia)] at a4
      lia
end Mine
end
section
set_option linter.unusedVariables false
namespace Mine
theorem sm_single : ∀ {m : List (List Int)} (F : List Int → Int) {x : List Int}, m.Nodup → x ∈ m → sm m (fun v => if v = x then F v else 0) = F x
  | y :: m, F, x, nd, hx => by
    obtain ⟨n1, n2⟩ := List.nodup_cons.mp nd
    rw [sm_cons]
    by_cases h : y = x
    · subst h
      rw [if_pos rfl]
      have : sm m (fun v => if v = y then F v else 0) = sm m (fun _ => 0) := sm_congr fun v hv => if_neg fun e : v = y => n1 (e ▸ hv)
      rw [this, sm_zero]; lia
    · rw [if_neg h, sm_single F n2 ((List.mem_cons.mp hx).resolve_left fun e => h e.symm)]; lia
theorem sm_indic : ∀ {l m : List (List Int)} (F : List Int → Int), l.Nodup → m.Nodup → (∀ x ∈ l, x ∈ m) → sm m (fun v => if v ∈ l then F v else 0) = sm l F
  | [], m, F, _, _, _ => by
    have : sm m (fun v => if v ∈ ([] : List (List Int)) then F v else 0) = sm m (fun _ => 0) := sm_congr fun v _ => if_neg (fun h => nomatch h)
    rw [this, sm_zero, sm_nil]
  | x :: l, m, F, n1, n2, hs => by
    obtain ⟨a1, a2⟩ := List.nodup_cons.mp n1
    have ih := sm_indic F a2 n2 fun y hy => hs y (List.mem_cons_of_mem _ hy)
    rw [sm_cons, ← ih, ← sm_single F n2 (hs x List.mem_cons_self), ← sm_add]
    refine sm_congr fun v _ => ?_
    by_cases h : v = x
    · subst h
      rw [if_pos List.mem_cons_self, if_pos rfl, if_neg a1]; lia
    · by_cases q : v ∈ l
      · rw [if_pos (List.mem_cons_of_mem _ q), if_neg h, if_pos q]; lia
      · rw [if_neg (fun z => (List.mem_cons.mp z).elim h q), if_neg h, if_neg q]; lia

/-- a code and its dual -/
structure Pair (p : Int) (n : Nat) (C D : List (List Int)) : Prop where
  ndC : C.Nodup
  okC : ∀ c ∈ C, OkW p n c
  ndD : D.Nodup
  memD : ∀ v, v ∈ D ↔ OkW p n v ∧ ∀ c ∈ C, dotS c v % p = 0
  cnt : ∀ v, OkW p n v → v ∉ D → p * sm C (fun c => if dotS c v % p = 0 then 1 else 0) = (C.length : Int)
theorem Pair.mw {p : Int} (hp : p = 2 ∨ p = 3 ∨ p = 5) {n : Nat} {C D : List (List Int)} (P : Pair p n C D) (fs : List (Int × Int)) (hf : fs.length = n) :
    sm C (fun c => ph (gT p fs) c) = (C.length : Int) * sm D (ph fs) := by
  subst hf
  have h1 : sm C (fun c => sm (allV p fs.length) fun v => ph fs v * (p * (if dotS c v % p = 0 then 1 else 0) - 1)) = (p - 1) * sm C (fun c => ph (gT p fs) c) := by
    rw [← sm_mul]
    exact sm_congr fun c hc => prodL hp fs c (P.okC c hc)
  have h2 : sm C (fun c => sm (allV p fs.length) fun v => ph fs v * (p * (if dotS c v % p = 0 then 1 else 0) - 1)) = ((p - 1) * (C.length : Int)) * sm D (ph fs) := by
    rw [sm_swap, ← sm_indic (ph fs) P.ndD (nodup_allV p fs.length) fun x hx => mem_allV.mpr ((P.memD x).mp hx).1, ← sm_mul]
    refine sm_congr fun v hv => ?_
    rw [sm_mul, sm_sub, sm_mul, sm_const]
    by_cases h : v ∈ D
    · have : sm C (fun c => if dotS c v % p = 0 then (1 : Int) else 0) = sm C (fun _ => 1) := sm_congr fun c hc => if_pos (((P.memD v).mp h).2 c hc)
      rw [if_pos h, this, sm_const]
      grind
    · rw [if_neg h, P.cnt v (mem_allV.mp hv) h]
      grind
  rw [h1] at h2
  generalize sm C (fun c => ph (gT p fs) c) = X at *
  have h3 : (p - 1) * X = (p - 1) * ((C.length : Int) * sm D (ph fs)) := by rw [h2]; grind
  exact Int.eq_of_mul_eq_mul_left (by lia) h3
theorem ph_one : ∀ (n : Nat) (v : List Int), ph (List.replicate n (1, 1)) v = 1
  | 0, v => rfl
  | n + 1, [] => rfl
  | n + 1, x :: v => by
    rw [List.replicate_succ, ph, ph_one n v]; simp
/-- |C| |D| = p^n -/
theorem Pair.card {p : Int} (hp : p = 2 ∨ p = 3 ∨ p = 5) {n : Nat} {C D : List (List Int)} (P : Pair p n C D) (h0 : List.replicate n 0 ∈ C) : (C.length : Int) * (D.length : Int) = p ^ n := by
  have h := P.mw hp (List.replicate n (1, 1)) List.length_replicate
  have hD : sm D (ph (List.replicate n (1, 1))) = (D.length : Int) := by
    have : sm D (ph (List.replicate n (1, 1))) = sm D (fun _ => 1) := sm_congr fun v _ => ph_one n v
    rw [this, sm_const]; lia
  rw [hD] at h
  rw [← h]
  have key : ∀ (n : Nat) (c : List Int), c.length = n → ph (gT p (List.replicate n (1, 1))) c = if c = List.replicate n 0 then p ^ n else 0 := by
    intro n
    induction n with
    | zero => intro c hc; rw [List.length_eq_zero_iff.mp hc]; simp [gT, ph]
    | succ n ih =>
      intro c hc
      match c, hc with
      | x :: c, hc =>
        have i := ih c (by simpa using hc)
        have e : gT p (List.replicate (n + 1) (1, 1)) = (1 + (p - 1) * 1, 1 - 1) :: gT p (List.replicate n (1, 1)) := by simp [gT, List.replicate_succ]
        rw [e, ph, i, List.replicate_succ]
        by_cases hx : x = 0
        · subst hx
          by_cases hq : c = List.replicate n 0
          · subst hq; simp only [if_true]; rw [Int.pow_succ]; grind
          · rw [if_neg hq, if_neg (fun z => hq (List.cons.inj z).2)]; lia
        · rw [if_neg hx, if_neg (c := x :: c = _) (fun z => hx (List.cons.inj z).1)]; lia
  have h3 : sm C (fun c => ph (gT p (List.replicate n (1, 1))) c) = sm C (fun c => if c = List.replicate n 0 then p ^ n else 0) := sm_congr fun c hc => key n c (P.okC c hc).1
  rw [h3, sm_single (fun _ => p ^ n) P.ndC h0]
end Mine
end
section
set_option linter.unusedVariables false
namespace Mine
theorem insK_nodup {ks : List (List Int)} {k : List Int} (h : ks.Nodup) : (insK ks k).Nodup := by
  unfold insK
  split
  · exact h
  · rename_i q
    rw [List.nodup_append]
    refine ⟨h, by simp, fun a ha b hb e => ?_⟩
    rw [List.mem_singleton.mp hb] at e
    exact q (e ▸ ha)
theorem mem_insK {ks : List (List Int)} {k x : List Int} : x ∈ insK ks k ↔ x ∈ ks ∨ x = k := by
  unfold insK
  split
  · rename_i q
    exact ⟨.inl, fun h => h.elim id fun e => e ▸ q⟩
  · rw [List.mem_append, List.mem_singleton]
theorem wordNum_nodup {p : Int} {word row : List Int} {f : List (List Int)} (h : f.Nodup) : ∀ j, (wordNum p word row f j).Nodup
  | 0 => h
  | j + 1 => insK_nodup (wordNum_nodup h j)
theorem wordRow_nodup {p : Int} {row : List Int} {ws f : List (List Int)} (h : f.Nodup) : ∀ i, (wordRow p row ws f i).Nodup
  | 0 => h
  | i + 1 => wordNum_nodup (wordRow_nodup h i) _
theorem wordSeq_nodup {p : Int} {rows : List (List Int)} {n : Nat} : ∀ i, (wordSeq p rows n i).Nodup
  | 0 => by simp [wordSeq]
  | i + 1 => wordRow_nodup (wordSeq_nodup i) _
theorem mem_wordNum {p : Int} {word row x : List Int} {f : List (List Int)} : ∀ j, x ∈ wordNum p word row f j ↔ x ∈ f ∨ ∃ m : Nat, m < j ∧ x = wordOf p word row (1 + (m : Int))
  | 0 => ⟨.inl, fun h => h.elim id fun ⟨m, h, _⟩ => absurd h (Nat.not_lt_zero m)⟩
  | j + 1 => by
    rw [wordNum, mem_insK, mem_wordNum j]
    constructor
    · rintro ((h | ⟨m, h1, h2⟩) | h)
      · exact .inl h
      · exact .inr ⟨m, by lia, h2⟩
      · exact .inr ⟨j, by lia, h⟩
    · rintro (h | ⟨m, h1, h2⟩)
      · exact .inl (.inl h)
      · by_cases q : m = j
        · subst q; exact .inr h2
        · exact .inl (.inr ⟨m, by lia, h2⟩)
theorem mem_wordRow {p : Int} {row x : List Int} {ws f : List (List Int)} : ∀ i, i ≤ ws.length → (x ∈ wordRow p row ws f i ↔ x ∈ f ∨ ∃ t, t < i ∧ ∃ m : Nat, m < (p - 1).toNat ∧ x = wordOf p (ws.getD t []) row (1 + (m : Int)))
  | 0, _ => ⟨.inl, fun h => h.elim id fun ⟨m, h, _⟩ => absurd h (Nat.not_lt_zero m)⟩
  | i + 1, hi => by
    rw [wordRow, mem_wordNum, mem_wordRow i (by lia)]
    constructor
    · rintro ((h | ⟨t, h1, h2⟩) | h)
      · exact .inl h
      · exact .inr ⟨t, by lia, h2⟩
      · exact .inr ⟨i, by lia, h⟩
    · rintro (h | ⟨t, h1, h2⟩)
      · exact .inl (.inl h)
      · by_cases q : t = i
        · subst q; exact .inr h2
        · exact .inl (.inr ⟨t, by lia, h2⟩)
theorem wordOf_zero {p : Int} {n : Nat} {w r : List Int} (hw : OkW p n w) (hr : r.length = n) : wordOf p w r 0 = w := by
  unfold wordOf
  apply List.ext_getElem
  · rw [List.length_zipWith, hw.1, hr, Nat.min_self]
  · intro i h1 h2
    rw [List.getElem_zipWith]
    have := hw.2 _ (List.getElem_mem h2)
    rw [Int.zero_mul, Int.add_zero, Int.fmod_eq_emod_of_nonneg _ (by lia), Int.emod_eq_of_lt this.1 this.2]
theorem wordOf_len {p m : Int} {n : Nat} {w r : List Int} (hw : w.length = n) (hr : r.length = n) : (wordOf p w r m).length = n := by
  unfold wordOf; rw [List.length_zipWith, hw, hr, Nat.min_self]
theorem wordOf_get {p m : Int} {w r : List Int} {i : Nat} (h : i < (wordOf p w r m).length) (hw : i < w.length) (hr : i < r.length) : (wordOf p w r m)[i] = (w[i] + m * r[i]).fmod p := List.getElem_zipWith
theorem wordOf_comm {p : Int} (hp : 0 < p) {n : Nat} {w r t : List Int} (hw : w.length = n) (hr : r.length = n) (ht : t.length = n) (a b : Int) : wordOf p (wordOf p w r a) t b = wordOf p (wordOf p w t b) r a := by
  have l1 := wordOf_len (p := p) (m := a) hw hr
  have l2 := wordOf_len (p := p) (m := b) hw ht
  apply List.ext_getElem
  · rw [wordOf_len l1 ht, wordOf_len l2 hr]
  · intro i h1 h2
    have hi : i < n := by rwa [wordOf_len l1 ht] at h1
    rw [wordOf_get h1 (by lia) (by lia), wordOf_get h2 (by lia) (by lia), wordOf_get (by lia) (by lia) (by lia), wordOf_get (by lia) (by lia) (by lia)]
    rw [Int.fmod_eq_emod_of_nonneg _ (by lia), Int.fmod_eq_emod_of_nonneg _ (by lia), Int.fmod_eq_emod_of_nonneg _ (by lia), Int.fmod_eq_emod_of_nonneg _ (by lia), Int.emod_add_emod, Int.emod_add_emod]
    congr 1; lia
theorem wordOf_add {p : Int} (hp : 0 < p) {n : Nat} {w r : List Int} (hw : w.length = n) (hr : r.length = n) (a b : Int) : wordOf p (wordOf p w r a) r b = wordOf p w r ((a + b) % p) := by
  have l1 := wordOf_len (p := p) (m := a) hw hr
  apply List.ext_getElem
  · rw [wordOf_len l1 hr, wordOf_len hw hr]
  · intro i h1 h2
    have hi : i < n := by rwa [wordOf_len l1 hr] at h1
    rw [wordOf_get h1 (by lia) (by lia), wordOf_get h2 (by lia) (by lia), wordOf_get (by lia) (by lia) (by lia)]
    rw [Int.fmod_eq_emod_of_nonneg _ (by lia), Int.fmod_eq_emod_of_nonneg _ (by lia), Int.fmod_eq_emod_of_nonneg _ (by lia), Int.emod_add_emod]
    generalize w[i]'_ = x
    generalize r[i]'_ = y
    have e : (a + b) % p = a + b - p * ((a + b) / p) := by rw [Int.emod_def]
    rw [e]
    have : x + (a + b - p * ((a + b) / p)) * y = x + a * y + b * y + p * (-((a + b) / p) * y) := by grind
    rw [this, Int.add_mul_emod_self_left]
theorem dot_zero (v : List Int) : ∀ n, dotS (List.replicate n 0) v = 0 := by
  intro n
  induction n generalizing v with
  | zero => simp [dotS]
  | succ n ih =>
    match v with
    | [] => simp [dotS]
    | x :: v => rw [List.replicate_succ, dotS_cons, ih]; lia
section
variable {p : Int} (hp : p = 2 ∨ p = 3 ∨ p = 5) {n : Nat} {rows : List (List Int)} (hr : OkRows p n rows)
include hp hr
theorem mem_wordSeq {x : List Int} {i : Nat} (hi : i < rows.length) : x ∈ wordSeq p rows n (i + 1) ↔ ∃ w, w ∈ wordSeq p rows n i ∧ ∃ m : Nat, (m : Int) < p ∧ x = wordOf p w (rows.getD i []) (m : Int) := by
  have hok := wordSeq_ok (by lia : 0 < p) (fun r h => (hr r h).1) i (by lia)
  have hri := (hr.row hi).1
  rw [wordSeq, mem_wordRow _ (Nat.le_refl _)]
  constructor
  · rintro (h | ⟨t, h1, m, h2, h3⟩)
    · exact ⟨x, h, 0, by lia, (wordOf_zero (hok x h) hri).symm⟩
    · exact ⟨_, getD_memL h1, 1 + m, by lia, by rw [h3]; congr 1⟩
  · rintro ⟨w, h1, m, h2, h3⟩
    by_cases hm : m = 0
    · subst hm
      rw [h3]
      have : wordOf p w (rows.getD i []) ((0 : Nat) : Int) = w := wordOf_zero (hok w h1) hri
      rw [this]; exact .inl h1
    · obtain ⟨t, ht, e⟩ := List.mem_iff_getElem.mp h1
      refine .inr ⟨t, ht, m - 1, by lia, ?_⟩
      rw [h3, List.getD_eq_getElem?_getD (l := wordSeq p rows n i), List.getElem?_eq_getElem ht, Option.getD_some, e]
      congr 1; lia
theorem wordSeq_closed : ∀ i, i ≤ rows.length → ∀ j, j < i → ∀ w ∈ wordSeq p rows n i, wordOf p w (rows.getD j []) 1 ∈ wordSeq p rows n i
  | 0, _, j, hj, _, _ => absurd hj (Nat.not_lt_zero j)
  | i + 1, hi, j, hj, w, hw => by
    have hok := wordSeq_ok (by lia : 0 < p) (fun r h => (hr r h).1) i (by lia)
    obtain ⟨u, h1, m, h2, rfl⟩ := (mem_wordSeq hp hr (by lia)).mp hw
    have hu := hok u h1
    have hri := (hr.row (i := i) (by lia)).1
    have hrj := (hr.row (i := j) (by lia)).1
    by_cases q : j = i
    · subst q
      rw [wordOf_add (by lia : 0 < p) hu.1 hri]
      refine (mem_wordSeq hp hr (by lia)).mpr ⟨u, h1, (((m : Int) + 1) % p).toNat, ?_, ?_⟩
      · have := Int.emod_lt_of_pos ((m : Int) + 1) (by lia : 0 < p)
        have := Int.emod_nonneg ((m : Int) + 1) (by lia : p ≠ 0)
        lia
      · have := Int.emod_nonneg ((m : Int) + 1) (by lia : p ≠ 0)
        congr 1
    · rw [wordOf_comm (by lia : 0 < p) hu.1 hri hrj]
      exact (mem_wordSeq hp hr (by lia)).mpr ⟨_, wordSeq_closed i (by lia) j (by lia) u h1, m, h2, rfl⟩
theorem words_closed {w r : List Int} (hw : w ∈ wordsS p rows n) (hx : r ∈ rows) : wordOf p w r 1 ∈ wordsS p rows n := by
  obtain ⟨j, hj, rfl⟩ := List.mem_iff_getElem.mp hx
  have := wordSeq_closed hp hr rows.length (Nat.le_refl _) j hj w hw
  rwa [List.getD_eq_getElem?_getD, List.getElem?_eq_getElem hj] at this
theorem wordSeq_zero : ∀ i, i ≤ rows.length → List.replicate n 0 ∈ wordSeq p rows n i
  | 0, _ => by simp [wordSeq]
  | i + 1, hi => by
    have h := wordSeq_zero i (by lia)
    have hok := wordSeq_ok (by lia : 0 < p) (fun r h => (hr r h).1) i (by lia)
    exact (mem_wordSeq hp hr (by lia)).mpr ⟨_, h, 0, by lia, (wordOf_zero (hok _ h) (hr.row (by lia)).1).symm⟩
theorem words_zero : List.replicate n 0 ∈ wordsS p rows n := wordSeq_zero hp hr _ (Nat.le_refl _)
theorem words_all {Q : List Int → Prop} (h0 : Q (List.replicate n 0)) (hs : ∀ w, OkW p n w → Q w → ∀ r ∈ rows, ∀ m : Nat, Q (wordOf p w r m)) : ∀ w ∈ wordsS p rows n, Q w := by
  have : ∀ i, i ≤ rows.length → ∀ w ∈ wordSeq p rows n i, Q w := by
    intro i
    induction i with
    | zero => intro _ w hw; rw [wordSeq, List.mem_singleton] at hw; rw [hw]; exact h0
    | succ i ih =>
      intro hi w hw
      obtain ⟨u, h1, m, h2, rfl⟩ := (mem_wordSeq hp hr (by lia)).mp hw
      exact hs u (wordSeq_ok (by lia : 0 < p) (fun r h => (hr r h).1) i (by lia) u h1) (ih (by lia) u h1) _ (getD_memL (by lia)) m
  exact this _ (Nat.le_refl _)
theorem words_mul {w r : List Int} (hw : w ∈ wordsS p rows n) (hx : r ∈ rows) (m : Int) : wordOf p w r m ∈ wordsS p rows n := by
  have hok := wordsS_ok (by lia : 0 < p) (fun r h => (hr r h).1)
  have hrl := (hr r hx).1
  have key : ∀ k : Nat, wordOf p w r ((k : Int) % p) ∈ wordsS p rows n := by
    intro k
    induction k with
    | zero => simpa [wordOf_zero (hok w hw) hrl] using hw
    | succ k ih =>
      have := words_closed hp hr ih hx
      rw [wordOf_add (by lia : 0 < p) (hok w hw).1 hrl, Int.emod_add_emod] at this
      exact this
  have h1 := key (m % p).toNat
  have h2 := Int.emod_nonneg m (by lia : p ≠ 0)
  have h3 : (((m % p).toNat : Nat) : Int) = m % p := by lia
  rw [h3, Int.emod_emod] at h1
  have h4 := wordOf_add (by lia : 0 < p) (hok w hw).1 hrl 0 m
  rw [wordOf_zero (hok w hw) hrl, Int.zero_add] at h4
  rw [h4]; exact h1
theorem words_perp {v : List Int} (hv : v.length = n) (h : ∀ r ∈ rows, dotS r v % p = 0) : ∀ w ∈ wordsS p rows n, dotS w v % p = 0 := by
  refine words_all hp hr (by rw [dot_zero]; simp) fun w hw hq r hx m => ?_
  rw [dot_wordOf (by lia : 0 < p) _ (by rw [hw.1, hv]) (by rw [(hr r hx).1, hv]), Int.add_emod, hq, Int.mul_emod, h r hx]
  simp
theorem pair_of {D : List (List Int)} (nd : D.Nodup) (mem : ∀ v, v ∈ D ↔ OkW p n v ∧ ∀ r ∈ rows, dotS r v % p = 0) : Pair p n (wordsS p rows n) D where
  ndC := wordSeq_nodup _
  okC := wordsS_ok (by lia : 0 < p) (fun r h => (hr r h).1)
  ndD := nd
  memD := fun v => by
    rw [mem v]
    constructor
    · rintro ⟨h1, h2⟩
      exact ⟨h1, words_perp hp hr h1.1 h2⟩
    · rintro ⟨h1, h2⟩
      refine ⟨h1, fun r hx => ?_⟩
      have := h2 _ (words_closed hp hr (words_zero hp hr) hx)
      rw [dot_wordOf (by lia : 0 < p) _ (by rw [List.length_replicate, h1.1]) (by rw [(hr r hx).1, h1.1]), dot_zero] at this
      simpa using this
  cnt := fun v hv hn => by
    rw [mem v] at hn
    have : ∃ r ∈ rows, dotS r v % p ≠ 0 := Classical.byContradiction fun q => hn ⟨hv, fun r hx => Classical.byContradiction fun z => q ⟨r, hx, z⟩⟩
    obtain ⟨r, hx, h0⟩ := this
    exact countL hp (wordSeq_nodup _) (wordsS_ok (by lia : 0 < p) (fun r h => (hr r h).1)) (hr r hx).1 hv.1 (fun g hg => words_closed hp hr hg hx) h0
end
end Mine
end
section
set_option linter.unusedVariables false
namespace Mine
theorem getD_eqR {l : List (List Int)} {i : Nat} (h : i < l.length) : l.getD i [] = l[i] := by
  rw [List.getD_eq_getElem?_getD, List.getElem?_eq_getElem h]; rfl
theorem pivN_none (rows : List (List Int)) (c : Nat) : ∀ k at_, pivN rows c k at_ < 0 → ∀ i, at_ ≤ i → i < at_ + k → (rows.getD i []).getD c 0 = 0
  | 0, at_, _, i, h1, h2 => by lia
  | k + 1, at_, h, i, h1, h2 => by
    rw [pivN] at h
    split at h
    · lia
    · rename_i q
      by_cases e : i = at_
      · subst e; exact Classical.byContradiction fun z => q z
      · exact pivN_none rows c k (at_ + 1) h i (by lia) (by lia)
theorem clearN_get {p : Int} {rows : List (List Int)} {done c : Nat} (hd : done < rows.length) : ∀ i, done + 1 + i ≤ rows.length → ∀ x, (clearN p rows done c i).getD x [] = if done + 1 ≤ x ∧ x < done + 1 + i then clearRow p (turnOf p c (rows.getD done [])) c (rows.getD done []) (rows.getD x []) else rows.getD x []
  | 0, _, x => by rw [clearN, if_neg (by lia)]
  | i + 1, hi, x => by
    have ih := clearN_get (p := p) (c := c) hd i (by lia)
    have hl := clearN_len p rows done c i
    rw [clearN]
    have e1 := ih done
    rw [if_neg (by lia)] at e1
    have e2 := ih (done + 1 + i)
    rw [if_neg (by lia)] at e2
    rw [e1, e2]
    by_cases q : x = done + 1 + i
    · subst q
      rw [List.getD_eq_getElem?_getD, List.getElem?_set_self (by lia), Option.getD_some, if_pos (by lia)]
    · rw [List.getD_eq_getElem?_getD, List.getElem?_set_ne (fun z => q z.symm), ← List.getD_eq_getElem?_getD, ih x]
      by_cases z : done + 1 ≤ x ∧ x < done + 1 + i
      · rw [if_pos z, if_pos (by lia)]
      · rw [if_neg z, if_neg (by lia)]
theorem clearS_drop {p : Int} {rows : List (List Int)} {done c : Nat} (hd : done < rows.length) : (clearS p rows done c).drop (done + 1) = (rows.drop (done + 1)).map (clearRow p (turnOf p c (rows.getD done [])) c (rows.getD done [])) := by
  have hl : (clearS p rows done c).length = rows.length := clearN_len _ _ _ _ _
  apply List.ext_getElem
  · simp [hl]
  · intro i h1 h2
    rw [List.getElem_drop, List.getElem_map, List.getElem_drop]
    have hi : done + 1 + i < rows.length := by rw [List.length_drop] at h1; lia
    have := clearN_get (p := p) (c := c) hd (rows.length - (done + 1)) (by lia) (done + 1 + i)
    rw [if_pos (by lia), getD_eqR hi] at this
    rw [← getD_eqR (l := clearS p rows done c) (by lia)]
    exact this
theorem swapW_getD {w : List (List Int)} {i j : Nat} (hi : i < w.length) (hj : j < w.length) (x : Nat) : (swapW w i j).getD x [] = if x = j then w.getD i [] else if x = i then w.getD j [] else w.getD x [] := by
  unfold swapW
  by_cases q : x = j
  · subst q
    rw [List.getD_eq_getElem?_getD, List.getElem?_set_self (by rw [List.length_set]; exact hj), Option.getD_some, if_pos rfl]
  · rw [List.getD_eq_getElem?_getD, List.getElem?_set_ne (fun z => q z.symm), if_neg q]
    by_cases z : x = i
    · subst z
      rw [List.getElem?_set_self hi, Option.getD_some, if_pos rfl]
    · rw [List.getElem?_set_ne (fun y => z y.symm), if_neg z, ← List.getD_eq_getElem?_getD]
theorem mem_dropD {w : List (List Int)} {d : Nat} {x : List Int} : x ∈ w.drop d ↔ ∃ i, d ≤ i ∧ i < w.length ∧ x = w.getD i [] := by
  constructor
  · intro h
    obtain ⟨i, hi, rfl⟩ := List.mem_iff_getElem.mp h
    rw [List.length_drop] at hi
    exact ⟨d + i, by lia, by lia, by rw [List.getElem_drop, getD_eqR]⟩
  · rintro ⟨i, h1, h2, rfl⟩
    rw [getD_eqR h2]
    exact List.mem_iff_getElem.mpr ⟨i - d, by rw [List.length_drop]; lia, by rw [List.getElem_drop]; congr 1; lia⟩
theorem swapW_mem {w : List (List Int)} {d k : Nat} (hk : d ≤ k) (hkl : k < w.length) (x : List Int) : x ∈ w.drop d ↔ x = w.getD k [] ∨ x ∈ (swapW w d k).drop (d + 1) := by
  have hg := swapW_getD (w := w) (i := d) (j := k) (by lia) hkl
  have hl := swapW_len w d k
  rw [mem_dropD, mem_dropD]
  constructor
  · rintro ⟨i, h1, h2, rfl⟩
    by_cases q : i = k
    · subst q; exact .inl rfl
    · by_cases z : i = d
      · subst z
        exact .inr ⟨k, by lia, by lia, by rw [hg, if_pos rfl]⟩
      · exact .inr ⟨i, by lia, by lia, by rw [hg, if_neg q, if_neg z]⟩
  · rintro (h | ⟨i, h1, h2, h⟩)
    · exact ⟨k, hk, hkl, h⟩
    · rw [hg] at h
      by_cases q : i = k
      · rw [if_pos q] at h; exact ⟨d, by lia, by lia, h⟩
      · rw [if_neg q, if_neg (by lia)] at h; exact ⟨i, by lia, by lia, h⟩
end Mine
end
section
set_option linter.unusedVariables false
namespace Mine
inductive Span (p : Int) (n : Nat) (rows : List (List Int)) : List Int → Prop
  | zero : Span p n rows (List.replicate n 0)
  | add {v r : List Int} (m : Int) : Span p n rows v → r ∈ rows → Span p n rows (wordOf p v r m)
theorem wordOf_okW {p m : Int} (hp : 0 < p) {n : Nat} {w r : List Int} (h1 : w.length = n) (h2 : r.length = n) : OkW p n (wordOf p w r m) := wordOf_ok hp h1 h2
section
variable {p : Int} (hp : p = 2 ∨ p = 3 ∨ p = 5) {n : Nat}
include hp
theorem zero_ok : OkW p n (List.replicate n 0) := ⟨List.length_replicate, fun x hx => by rw [List.eq_of_mem_replicate hx]; lia⟩
theorem Span.ok {rows : List (List Int)} (hr : ∀ r ∈ rows, r.length = n) {v : List Int} (h : Span p n rows v) : OkW p n v := by
  induction h with
  | zero => exact zero_ok hp
  | add m _ hx ih => exact wordOf_okW (by lia) ih.1 (hr _ hx)
theorem Span.perp {rows : List (List Int)} (hr : ∀ r ∈ rows, r.length = n) {u : List Int} (hu : u.length = n) (h0 : ∀ r ∈ rows, dotS r u % p = 0) {v : List Int} (h : Span p n rows v) : dotS v u % p = 0 := by
  induction h with
  | zero => rw [dot_zero]; simp
  | add m hs hx ih =>
    rw [dot_wordOf (by lia : 0 < p) _ (by rw [(hs.ok hp hr).1, hu]) (by rw [hr _ hx, hu]), Int.add_emod, ih, Int.mul_emod, h0 _ hx]
    simp
theorem Span.words {rows : List (List Int)} (hr : OkRows p n rows) {v : List Int} (h : Span p n rows v) : v ∈ wordsS p rows n := by
  induction h with
  | zero => exact words_zero hp hr
  | add m _ hx ih => exact words_mul hp hr ih hx m
theorem wordOf_drop (p m : Int) (a b : List Int) (k : Nat) : (wordOf p a b m).drop k = wordOf p (a.drop k) (b.drop k) m := by
  unfold wordOf; rw [List.drop_zipWith]
theorem wordOf_getD {m : Int} {a b : List Int} {j : Nat} (h1 : j < a.length) (h2 : j < b.length) : (wordOf p a b m).getD j 0 = (a.getD j 0 + m * b.getD j 0) % p := by
  have hl : j < (wordOf p a b m).length := by unfold wordOf; rw [List.length_zipWith]; lia
  rw [List.getD_eq_getElem?_getD, List.getElem?_eq_getElem hl, Option.getD_some, wordOf_get hl h1 h2, Int.fmod_eq_emod_of_nonneg _ (by lia)]
  rw [List.getD_eq_getElem?_getD, List.getElem?_eq_getElem h1, List.getD_eq_getElem?_getD, List.getElem?_eq_getElem h2]
  rfl
theorem clearRow_eq {turn : Int} {c L : Nat} {top row : List Int} (h1 : top.length = L) (h2 : OkW p L row) : clearRow p turn c top row = wordOf p row top (-((row.getD c 0 * turn).fmod p)) := by
  unfold clearRow
  generalize (row.getD c 0 * turn).fmod p = N
  split
  · unfold wordOf
    congr 1
    funext x y
    have : x - N * y = x + -N * y := by grind
    rw [this]
  · rename_i q
    have : N = 0 := Classical.byContradiction fun z => q z
    rw [this]
    exact (wordOf_zero h2 h1).symm
theorem turn_inv {x : Int} (h0 : 0 < x) (h1 : x < p) : ((x ^ 3).fmod p * x) % p = 1 := by
  rcases hp with rfl | rfl | rfl
  · have : x = 1 := by lia
    subst this; decide
  · have : x = 1 ∨ x = 2 := by lia
    rcases this with rfl | rfl <;> decide
  · have : x = 1 ∨ x = 2 ∨ x = 3 ∨ x = 4 := by lia
    rcases this with rfl | rfl | rfl | rfl <;> decide
/-- a word over rows with r in it, over the rows with r taken from the others -/
theorem wordOf_move {u r t : List Int} (hu : u.length = n) (hr : r.length = n) (ht : t.length = n) (m k N : Int) : wordOf p (wordOf p u t m) r k = wordOf p (wordOf p u (wordOf p r t (-N)) k) t (m + k * N) := by
  have hpp : 0 < p := by lia
  have l1 := wordOf_len (p := p) (m := m) hu ht
  have l2 := wordOf_len (p := p) (m := -N) hr ht
  have l3 := wordOf_len (p := p) (m := k) hu l2
  apply List.ext_getElem
  · rw [wordOf_len l1 hr, wordOf_len l3 ht]
  · intro i h1 h2
    have hi : i < n := by rwa [wordOf_len l1 hr] at h1
    rw [wordOf_get h1 (by lia) (by lia), wordOf_get h2 (by lia) (by lia), wordOf_get (by lia) (by lia) (by lia), wordOf_get (by lia) (by lia) (by lia), wordOf_get (by lia) (by lia) (by lia)]
    simp only [Int.fmod_eq_emod_of_nonneg _ (Int.le_of_lt hpp), Int.emod_add_emod]
    generalize u[i]'_ = a
    generalize r[i]'_ = b
    generalize t[i]'_ = e
    have q : (b + -N * e) % p = b + -N * e - p * ((b + -N * e) / p) := by rw [Int.emod_def]
    rw [q]
    have : a + k * (b + -N * e - p * ((b + -N * e) / p)) + (m + k * N) * e = a + m * e + k * b + p * (-(k * ((b + -N * e) / p))) := by grind
    rw [this, Int.add_mul_emod_self_left]
noncomputable def perpB (p : Int) (made : List (List Int)) (c : Nat) (v : List Int) : Bool := (List.range c).all fun j => decide (dotS v (made.getD j []) % p = 0)
noncomputable def perpL (p : Int) (n : Nat) (made : List (List Int)) (c : Nat) : List (List Int) := (allV p n).filter (perpB p made c)
omit hp in
theorem perpB_iff {made : List (List Int)} {c : Nat} {v : List Int} : perpB p made c v = true ↔ ∀ j, j < c → dotS v (made.getD j []) % p = 0 := by
  unfold perpB
  rw [List.all_eq_true]
  constructor
  · intro h j hj; simpa using h j (List.mem_range.mpr hj)
  · intro h j hj; simpa using h j (List.mem_range.mp hj)
omit hp in
theorem mem_perpL {made : List (List Int)} {c : Nat} {v : List Int} : v ∈ perpL p n made c ↔ OkW p n v ∧ ∀ j, j < c → dotS v (made.getD j []) % p = 0 := by
  unfold perpL
  rw [List.mem_filter, mem_allV, perpB_iff]
omit hp in
theorem perpL_nodup (made : List (List Int)) (c : Nat) : (perpL p n made c).Nodup := (nodup_allV p n).filter _
structure Inv (p : Int) (n : Nat) (made : List (List Int)) (c : Nat) (T : List (List Int)) : Prop where
  ok : OkRows p (made.length + n) T
  dot : ∀ t ∈ T, ∀ j, j < made.length → t.getD j 0 % p = dotS (t.drop made.length) (made.getD j []) % p
  zero : ∀ t ∈ T, ∀ j, j < c → t.getD j 0 = 0
  span : ∀ v, OkW p n v → (∀ j, j < c → dotS v (made.getD j []) % p = 0) → Span p n (T.map (·.drop made.length)) v
  card : (perpL p n made c).length = p.toNat ^ T.length
omit hp in
theorem Inv.rlen {made T : List (List Int)} {c : Nat} (h : Inv p n made c T) : ∀ r ∈ T.map (·.drop made.length), r.length = n := fun r hr => by
  obtain ⟨t, ht, rfl⟩ := List.mem_map.mp hr
  rw [List.length_drop, (h.ok t ht).1]; lia
theorem inv_skip {made T : List (List Int)} {c : Nat} (hm : OkRows p n made) (h : Inv p n made c T) (hc : c < made.length) (hz : ∀ t ∈ T, t.getD c 0 = 0) : Inv p n made (c + 1) T where
  ok := h.ok
  dot := h.dot
  zero := fun t ht j hj => by
    by_cases q : j = c
    · subst q; exact hz t ht
    · exact h.zero t ht j (by lia)
  span := fun v hv hd => h.span v hv fun j hj => hd j (by lia)
  card := by
    rw [← h.card]
    unfold perpL
    congr 1
    refine List.filter_congr fun v hv => ?_
    rw [Bool.eq_iff_iff, perpB_iff, perpB_iff]
    constructor
    · intro q j hj; exact q j (by lia)
    · intro q j hj
      by_cases e : j = c
      · subst e
        refine (h.span v (mem_allV.mp hv) q).perp hp h.rlen (hm.row hc).1 fun r hr => ?_
        obtain ⟨t, ht, rfl⟩ := List.mem_map.mp hr
        rw [← h.dot t ht j hc, hz t ht]; simp
      · exact q j (by lia)
end
end Mine
end
section
set_option linter.unusedVariables false
set_option linter.unusedSectionVars false
namespace Mine
section
variable {p : Int} (hp : p = 2 ∨ p = 3 ∨ p = 5) {n : Nat}
include hp
theorem wordOf_mod0 {u t : List Int} (hu : OkW p n u) (ht : t.length = n) {m : Int} (hm : m % p = 0) : wordOf p u t m = u := by
  have h := wordOf_add (by lia : 0 < p) hu.1 ht 0 m
  rw [wordOf_zero hu ht, Int.zero_add, hm, wordOf_zero hu ht] at h
  exact h
/-- a span of all rows, over the cleared rows and the pivot's -/
theorem span_move {R R' : List (List Int)} {t : List Int} (ht : t.length = n) (hR : ∀ r ∈ R, r.length = n) (hR' : ∀ r ∈ R', r.length = n)
    (hmv : ∀ r ∈ R, r = t ∨ ∃ N, wordOf p r t (-N) ∈ R') {v : List Int} (h : Span p n R v) : ∃ u m, Span p n R' u ∧ v = wordOf p u t m := by
  have hpp : 0 < p := by lia
  induction h with
  | zero => exact ⟨_, 0, .zero, (wordOf_zero (zero_ok hp) ht).symm⟩
  | @add v r k hs hx ih =>
    obtain ⟨u, m, h1, rfl⟩ := ih
    have hu := h1.ok hp hR'
    rcases hmv r hx with rfl | ⟨N, hN⟩
    · exact ⟨u, _, h1, wordOf_add hpp hu.1 ht m k⟩
    · exact ⟨_, _, .add k h1 hN, wordOf_move hp hu.1 (hR r hx) ht m k N⟩
theorem inv_step {made T U : List (List Int)} {t0 : List Int} {c : Nat} (hm : OkRows p n made) (h : Inv p n made c T) (hc : c < made.length) (hT : ∀ x, x ∈ T ↔ x = t0 ∨ x ∈ U) (hlen : T.length = U.length + 1) (h0 : t0.getD c 0 ≠ 0) :
    Inv p n made (c + 1) (U.map (clearRow p (turnOf p c t0) c t0)) := by
  have hpp : 0 < p := by lia
  have ht0 : t0 ∈ T := (hT t0).mpr (.inl rfl)
  have hU : ∀ u ∈ U, u ∈ T := fun u hu => (hT u).mpr (.inr hu)
  obtain ⟨l0, e0⟩ := h.ok t0 ht0
  have hcr := (hm.row hc).1
  have hx0 := e0 _ (getD_mem (i := c) (by lia))
  have hR0 : (t0.drop made.length).length = n := by rw [List.length_drop, l0]; lia
  have hdot0 : dotS (t0.drop made.length) (made.getD c []) % p ≠ 0 := by
    rw [← h.dot t0 ht0 c hc, Int.emod_eq_of_lt hx0.1 hx0.2]; exact h0
  -- a cleared row
  have hcl : ∀ u ∈ U, clearRow p (turnOf p c t0) c t0 u = wordOf p u t0 (-((u.getD c 0 * turnOf p c t0).fmod p)) := fun u hu => clearRow_eq hp l0 (h.ok u (hU u hu))
  have hokT' : OkRows p (made.length + n) (U.map (clearRow p (turnOf p c t0) c t0)) := fun r hr => by
    obtain ⟨u, hu, rfl⟩ := List.mem_map.mp hr
    exact clearRow_ok hpp l0 (h.ok u (hU u hu))
  have hR'len : ∀ r ∈ (U.map (clearRow p (turnOf p c t0) c t0)).map (·.drop made.length), r.length = n := fun r hr => by
    obtain ⟨t, ht, rfl⟩ := List.mem_map.mp hr
    rw [List.length_drop, (hokT' t ht).1]; lia
  have hget : ∀ u ∈ U, ∀ j, j < made.length + n → (clearRow p (turnOf p c t0) c t0 u).getD j 0 = (u.getD j 0 + (-((u.getD c 0 * turnOf p c t0).fmod p)) * t0.getD j 0) % p := fun u hu j hj => by
    rw [hcl u hu]
    exact wordOf_getD hp (by rw [(h.ok u (hU u hu)).1]; exact hj) (by rw [l0]; exact hj)
  have hdot : ∀ t ∈ U.map (clearRow p (turnOf p c t0) c t0), ∀ j, j < made.length → t.getD j 0 % p = dotS (t.drop made.length) (made.getD j []) % p := fun t ht j hj => by
    obtain ⟨u, hu, rfl⟩ := List.mem_map.mp ht
    have hjl := (hm.row hj).1
    rw [hget u hu j (by lia), Int.emod_emod, hcl u hu, wordOf_drop hp]
    rw [dot_wordOf hpp _ (by rw [List.length_drop, (h.ok u (hU u hu)).1, hjl]; lia) (by rw [hR0, hjl])]
    generalize (-((u.getD c 0 * turnOf p c t0).fmod p)) = N
    rw [Int.add_emod, Int.mul_emod, h.dot u (hU u hu) j hj, h.dot t0 ht0 j hj, ← Int.mul_emod, ← Int.add_emod]
  have hzero : ∀ t ∈ U.map (clearRow p (turnOf p c t0) c t0), ∀ j, j < c + 1 → t.getD j 0 = 0 := fun t ht j hj => by
    obtain ⟨u, hu, rfl⟩ := List.mem_map.mp ht
    rw [hget u hu j (by lia)]
    by_cases q : j = c
    · subst q
      have hti := turn_inv hp (x := t0.getD j 0) (by lia) hx0.2
      unfold turnOf
      generalize (t0.getD j 0 ^ 3).fmod p = k at *
      generalize u.getD j 0 = a
      rw [Int.fmod_eq_emod_of_nonneg _ (by lia)]
      generalize t0.getD j 0 = b at *
      have e1 : (a * k) % p = a * k - p * ((a * k) / p) := by rw [Int.emod_def]
      have e2 : k * b = 1 + p * ((k * b) / p) := by have := Int.emod_add_mul_ediv (k * b) p; lia
      rw [e1]
      generalize (a * k) / p = q1 at *
      generalize (k * b) / p = q2 at *
      have : a + -(a * k - p * q1) * b = 0 + p * (q1 * b - a * q2) := by grind
      rw [this, Int.add_mul_emod_self_left]; simp
    · rw [h.zero u (hU u hu) j (by lia), h.zero t0 ht0 j (by lia)]; simp
  refine ⟨hokT', hdot, hzero, fun v hv hd => ?_, ?_⟩
  · obtain ⟨u, m, hu, e⟩ := span_move hp (R' := (U.map (clearRow p (turnOf p c t0) c t0)).map (·.drop made.length)) hR0 h.rlen hR'len (fun r hr => by
      obtain ⟨t, ht, rfl⟩ := List.mem_map.mp hr
      rcases (hT t).mp ht with rfl | hu
      · exact .inl rfl
      · refine .inr ⟨(t.getD c 0 * turnOf p c t0).fmod p, ?_⟩
        have e9 : wordOf p (t.drop made.length) (t0.drop made.length) (-((t.getD c 0 * turnOf p c t0).fmod p)) = (clearRow p (turnOf p c t0) c t0 t).drop made.length := by rw [hcl t hu, wordOf_drop hp]
        rw [e9]
        exact List.mem_map.mpr ⟨_, List.mem_map.mpr ⟨t, hu, rfl⟩, rfl⟩) (h.span v hv fun j hj => hd j (by lia))
    have huo := hu.ok hp hR'len
    have hup : dotS u (made.getD c []) % p = 0 := hu.perp hp hR'len hcr fun r hr => by
      obtain ⟨t, ht, rfl⟩ := List.mem_map.mp hr
      rw [← hdot t ht c hc, hzero t ht c (by lia)]; simp
    have hv0 := hd c (by lia)
    rw [e, dot_wordOf hpp _ (by rw [huo.1, hcr]) (by rw [hR0, hcr])] at hv0
    have hm0 : m % p = 0 := by
      generalize dotS (t0.drop made.length) (made.getD c []) = d at *
      generalize dotS u (made.getD c []) = x at *
      have hmd : (m * d) % p = 0 := by rw [Int.add_emod, hup] at hv0; simpa using hv0
      rw [Int.mul_emod] at hmd
      have a1 := Int.emod_nonneg m (by lia : p ≠ 0)
      have a2 := Int.emod_lt_of_pos m hpp
      have a3 := Int.emod_nonneg d (by lia : p ≠ 0)
      have a4 := Int.emod_lt_of_pos d hpp
      generalize m % p = x at *
      generalize d % p = y at *
      rcases hp with rfl | rfl | rfl
      · have : x = 0 ∨ x = 1 := by lia
        have : y = 1 := by lia
        subst this; lia
      · have hx : x = 0 ∨ x = 1 ∨ x = 2 := by lia
        have hy : y = 1 ∨ y = 2 := by lia
        rcases hx with rfl | rfl | rfl <;> rcases hy with rfl | rfl <;> lia
      · have hx : x = 0 ∨ x = 1 ∨ x = 2 ∨ x = 3 ∨ x = 4 := by lia
        have hy : y = 1 ∨ y = 2 ∨ y = 3 ∨ y = 4 := by lia
        rcases hx with rfl | rfl | rfl | rfl | rfl <;> rcases hy with rfl | rfl | rfl | rfl <;> lia
    rw [e, wordOf_mod0 hp huo hR0 hm0]
    exact hu
  · have hcount := countL hp (G := perpL p n made c) (perpL_nodup made c) (fun g hg => (mem_perpL.mp hg).1) hR0 hcr (fun g hg => by
      obtain ⟨g1, g2⟩ := mem_perpL.mp hg
      refine mem_perpL.mpr ⟨wordOf_okW hpp g1.1 hR0, fun j hj => ?_⟩
      have hjl := (hm.row (i := j) (by lia)).1
      rw [dot_wordOf hpp _ (by rw [g1.1, hjl]) (by rw [hR0, hjl]), Int.one_mul, Int.add_emod, g2 j hj, ← h.dot t0 ht0 j (by lia), h.zero t0 ht0 j hj]
      simp) hdot0
    have hsub : sm (perpL p n made c) (fun g => if dotS g (made.getD c []) % p = 0 then 1 else 0) = ((perpL p n made (c + 1)).length : Int) := by
      have h1 := sm_indic (l := perpL p n made (c + 1)) (m := perpL p n made c) (fun _ => 1) (perpL_nodup made _) (perpL_nodup made _) fun x hx => by
        obtain ⟨x1, x2⟩ := mem_perpL.mp hx
        exact mem_perpL.mpr ⟨x1, fun j hj => x2 j (by lia)⟩
      rw [sm_const, Int.one_mul] at h1
      rw [← h1]
      refine sm_congr fun g hg => ?_
      obtain ⟨g1, g2⟩ := mem_perpL.mp hg
      by_cases q : dotS g (made.getD c []) % p = 0
      · rw [if_pos q, if_pos (mem_perpL.mpr ⟨g1, fun j hj => ?_⟩)]
        by_cases e : j = c
        · subst e; exact q
        · exact g2 j (by lia)
      · rw [if_neg q, if_neg fun z => q ((mem_perpL.mp z).2 c (by lia))]
    rw [hsub, h.card, hlen] at hcount
    rw [List.length_map]
    have hpN : ((p.toNat : Nat) : Int) = p := by lia
    rw [Nat.pow_succ] at hcount
    have h2 : p * ((perpL p n made (c + 1)).length : Int) = p * ((p.toNat ^ U.length : Nat) : Int) := by
      rw [hcount]
      push_cast
      rw [Int.mul_comm, hpN]
    have h3 := Int.eq_of_mul_eq_mul_left (by lia : p ≠ 0) h2
    exact Int.ofNat_inj.mp h3
end
end Mine
end
section
set_option linter.unusedVariables false
set_option linter.unusedSectionVars false
namespace Mine
theorem unit_len (n a : Nat) : (unitRow n a).length = n := by simp [unitRow]
theorem unit_zero (n : Nat) : unitRow (n + 1) 0 = 1 :: List.replicate n 0 := by
  unfold unitRow
  rw [List.range_succ_eq_map, List.map_cons, List.map_map]
  congr 1
  apply List.ext_getElem
  · simp
  · intro i h1 h2; simp
theorem unit_succ (n a : Nat) : unitRow (n + 1) (a + 1) = 0 :: unitRow n a := by
  unfold unitRow
  rw [List.range_succ_eq_map, List.map_cons, List.map_map]
  congr 1
  apply List.map_congr_left
  intro i _
  show (if i + 1 = a + 1 then (1 : Int) else 0) = if i = a then 1 else 0
  by_cases h : i = a
  · rw [if_pos (by lia), if_pos h]
  · rw [if_neg (by lia), if_neg h]
theorem dot_unit : ∀ (n a : Nat) (r : List Int), r.length = n → a < n → dotS (unitRow n a) r = r.getD a 0
  | n + 1, 0, x :: r, h, _ => by rw [unit_zero, dotS_cons, dot_zero]; simp
  | n + 1, a + 1, x :: r, h, ha => by
    rw [unit_succ, dotS_cons, dot_unit n a r (by simpa using h) (by lia)]; simp
noncomputable def pv (v : List Int) (n k : Nat) : List Int := (List.range n).map fun i => if i < k then v.getD i 0 else 0
theorem pv_get {v : List Int} {n k i : Nat} (h : i < (pv v n k).length) : (pv v n k)[i] = if i < k then v.getD i 0 else 0 := by
  have : (pv v n k)[i]? = some (if i < k then v.getD i 0 else 0) := by
    unfold pv at h ⊢
    rw [List.getElem?_map, List.getElem?_range (by simpa using h)]; rfl
  rw [List.getElem?_eq_getElem h] at this
  exact Option.some.inj this
theorem unit_get {n k i : Nat} (h : i < (unitRow n k).length) : (unitRow n k)[i] = if i = k then 1 else 0 := by
  have : (unitRow n k)[i]? = some (if i = k then 1 else 0) := by
    rw [unit_len] at h
    unfold unitRow
    rw [List.getElem?_map, List.getElem?_range h]; rfl
  rw [List.getElem?_eq_getElem h] at this
  exact Option.some.inj this
section
variable {p : Int} (hp : p = 2 ∨ p = 3 ∨ p = 5) {n : Nat}
include hp
theorem pv_step {v : List Int} (hv : OkW p n v) {k : Nat} (hk : k < n) : wordOf p (pv v n k) (unitRow n k) (v.getD k 0) = pv v n (k + 1) := by
  have l1 : (pv v n k).length = n := by simp [pv]
  have l2 : (pv v n (k + 1)).length = n := by simp [pv]
  apply List.ext_getElem
  · rw [wordOf_len l1 (unit_len n k), l2]
  · intro i h1 h2
    have hi : i < n := by lia
    rw [wordOf_get h1 (by lia) (by rw [unit_len]; exact hi), Int.fmod_eq_emod_of_nonneg _ (by lia)]
    rw [pv_get, unit_get, pv_get]
    have hvi := hv.2 _ (getD_mem (l := v) (i := i) (by rw [hv.1]; exact hi))
    by_cases q : i = k
    · subst q
      rw [if_neg (by lia), if_pos rfl, if_pos (by lia), Int.zero_add, Int.mul_one, Int.emod_eq_of_lt hvi.1 hvi.2]
    · rw [if_neg q, Int.mul_zero, Int.add_zero]
      by_cases z : i < k
      · rw [if_pos z, if_pos (by lia), Int.emod_eq_of_lt hvi.1 hvi.2]
      · rw [if_neg z, if_neg (by lia)]; simp
theorem span_units {R : List (List Int)} (hR : ∀ a, a < n → unitRow n a ∈ R) {v : List Int} (hv : OkW p n v) : Span p n R v := by
  have key : ∀ k, k ≤ n → Span p n R (pv v n k) := by
    intro k
    induction k with
    | zero =>
      intro _
      have : pv v n 0 = List.replicate n 0 := by
        apply List.ext_getElem
        · simp [pv]
        · intro i h1 h2; simp [pv]
      rw [this]; exact .zero
    | succ k ih =>
      intro hk
      rw [← pv_step hp hv (by lia)]
      exact .add _ (ih (by lia)) (hR k (by lia))
  have : pv v n n = v := by
    apply List.ext_getElem
    · simp [pv, hv.1]
    · intro i h1 h2
      rw [pv_get, if_pos (by rw [hv.1] at h2; exact h2), List.getD_eq_getElem?_getD, List.getElem?_eq_getElem h2]; rfl
  rw [← this]; exact key n (Nat.le_refl _)
theorem colsS_len (made : List (List Int)) (n : Nat) : (colsS made n).length = n := by simp [colsS]
theorem colsS_get {made : List (List Int)} {n a : Nat} (ha : a < n) : (colsS made n).getD a [] = made.map fun r => r.getD a 0 := by
  unfold colsS
  rw [List.getD_eq_getElem?_getD, List.getElem?_map, List.getElem?_range ha]; rfl
theorem colsS_ok {made : List (List Int)} (hm : OkRows p n made) : OkRows p made.length (colsS made n) := fun r hr => by
  unfold colsS at hr
  obtain ⟨a, ha, rfl⟩ := List.mem_map.mp hr
  refine ⟨by simp, fun x hx => ?_⟩
  obtain ⟨m, hm', rfl⟩ := List.mem_map.mp hx
  obtain ⟨q1, q2⟩ := hm m hm'
  exact q2 _ (getD_mem (by rw [q1]; exact List.mem_range.mp ha))
theorem inv_init {made : List (List Int)} (hm : OkRows p n made) : Inv p n made 0 (initW (colsS made n)) := by
  have hl := colsS_len hp made n
  have hil : (initW (colsS made n)).length = n := by rw [initW_len, hl]
  have hig : ∀ a, a < n → (initW (colsS made n)).getD a [] = (made.map fun r => r.getD a 0) ++ unitRow n a := fun a ha => by
    rw [initW_get (by rw [hl]; exact ha), colsS_get hp ha, hl]
  have hmem : ∀ t ∈ initW (colsS made n), ∃ a, a < n ∧ t = (made.map fun r => r.getD a 0) ++ unitRow n a := fun t ht => by
    obtain ⟨a, ha, e⟩ := List.mem_iff_getElem.mp ht
    exact ⟨a, by lia, by rw [← e, ← getD_eqR ha, hig a (by lia)]⟩
  have hdrop : ∀ a, ((made.map fun r => r.getD a 0) ++ unitRow n a).drop made.length = unitRow n a := fun a => by
    rw [List.drop_append_of_le_length (by simp), List.drop_of_length_le (by simp)]; rfl
  refine ⟨?_, fun t ht j hj => ?_, fun t ht j hj => absurd hj (Nat.not_lt_zero j), fun v hv _ => ?_, ?_⟩
  · have := initW_ok (by lia : 2 ≤ p) (colsS_ok hp hm)
    rwa [hl] at this
  · obtain ⟨a, ha, rfl⟩ := hmem t ht
    rw [hdrop, dot_unit n a _ (hm.row hj).1 ha]
    congr 1
    rw [List.getD_eq_getElem?_getD, List.getElem?_append_left (by simpa using hj), List.getElem?_map, List.getElem?_eq_getElem hj, ← getD_eqR hj]
    rfl
  · refine span_units hp (fun a ha => ?_) hv
    refine List.mem_map.mpr ⟨(initW (colsS made n)).getD a [], getD_memL (by lia), ?_⟩
    rw [hig a ha, hdrop]
  · have : perpL p n made 0 = allV p n := by
      unfold perpL
      rw [List.filter_eq_self]
      intro v _; rfl
    rw [this, len_allV, hil]
theorem inv_null {made : List (List Int)} (hm : OkRows p n made) : ∀ c, c ≤ made.length → Inv p n made c ((nullSeq p (colsS made n) c).1.drop (nullSeq p (colsS made n) c).2)
  | 0, _ => by
    show Inv p n made 0 ((initW (colsS made n)).drop 0)
    rw [List.drop_zero]; exact inv_init hp hm
  | c + 1, hc => by
    have ih := inv_null hm c (by lia)
    have N := nullSeq_ok (by lia : 2 ≤ p) (colsS_ok hp hm) c
    show Inv p n made (c + 1) ((nullStep p c (nullSeq p (colsS made n) c)).1.drop (nullStep p c (nullSeq p (colsS made n) c)).2)
    generalize nullSeq p (colsS made n) c = q at *
    unfold nullStep
    split
    · rename_i h
      obtain ⟨k, h1, h2, h3, h4⟩ := pivS_spec h
      rw [h1, Int.toNat_natCast]
      show Inv p n made (c + 1) ((clearS p (swapW q.1 q.2 k) q.2 c).drop (q.2 + 1))
      have hlt : q.2 < q.1.length := by lia
      rw [clearS_drop (by rw [swapW_len]; exact hlt), swapW_get hlt h3]
      exact inv_step hp hm ih (by lia) (fun x => swapW_mem h2 h3 x) (by rw [List.length_drop, List.length_drop, swapW_len]; lia) h4
    · rename_i h
      refine inv_skip hp hm ih (by lia) fun t ht => ?_
      obtain ⟨i, h1, h2, rfl⟩ := mem_dropD.mp ht
      exact pivN_none q.1 c _ _ (by have : pivS q.1 q.2 c < 0 := by lia
                                    exact this) i h1 (by lia)
/-- what null_space gives back -/
theorem base_facts {made : List (List Int)} (hm : OkRows p n made) : OkRows p n (baseS p n made) ∧ (baseS p n made).length ≤ n ∧ (∀ r ∈ baseS p n made, ∀ m ∈ made, dotS r m % p = 0) ∧
    (∀ v, v ∈ wordsS p (baseS p n made) n ↔ OkW p n v ∧ ∀ m ∈ made, dotS v m % p = 0) ∧ (wordsS p (baseS p n made) n).length = p.toNat ^ (baseS p n made).length := by
  have I := inv_null hp hm made.length (Nat.le_refl _)
  have N := nullSeq_ok (by lia : 2 ≤ p) (colsS_ok hp hm) made.length
  have hb : baseS p n made = ((nullSeq p (colsS made n) made.length).1.drop (nullSeq p (colsS made n) made.length).2).map (·.drop made.length) := rfl
  have hl := N.len
  rw [colsS_len hp] at hl
  have hbl : (baseS p n made).length ≤ n := by rw [hb, List.length_map, List.length_drop]; lia
  have hTl : (baseS p n made).length = ((nullSeq p (colsS made n) made.length).1.drop (nullSeq p (colsS made n) made.length).2).length := by rw [hb, List.length_map]
  generalize (nullSeq p (colsS made n) made.length).1.drop (nullSeq p (colsS made n) made.length).2 = T at *
  have hok : OkRows p n (baseS p n made) := fun r hr => by
    rw [hb] at hr
    refine ⟨I.rlen r hr, fun x hx => ?_⟩
    obtain ⟨t, ht, rfl⟩ := List.mem_map.mp hr
    exact (I.ok t ht).2 x (List.mem_of_mem_drop hx)
  have horth : ∀ r ∈ baseS p n made, ∀ m ∈ made, dotS r m % p = 0 := fun r hr m hmm => by
    rw [hb] at hr
    obtain ⟨t, ht, rfl⟩ := List.mem_map.mp hr
    obtain ⟨j, hj, rfl⟩ := List.mem_iff_getElem.mp hmm
    rw [← getD_eqR hj, ← I.dot t ht j hj, I.zero t ht j hj]; simp
  have hmem : ∀ v, v ∈ wordsS p (baseS p n made) n ↔ OkW p n v ∧ ∀ m ∈ made, dotS v m % p = 0 := fun v => by
    constructor
    · intro h
      refine ⟨wordsS_ok (by lia : 0 < p) (fun r h => (hok r h).1) v h, fun m hmm => ?_⟩
      exact words_perp hp hok (hm m hmm).1 (fun r hr => horth r hr m hmm) v h
    · rintro ⟨h1, h2⟩
      have := I.span v h1 fun j hj => h2 _ (getD_memL hj)
      rw [← hb] at this
      exact this.words hp hok
  refine ⟨hok, hbl, horth, hmem, ?_⟩
  rw [hTl, ← I.card]
  have nd1 : (wordsS p (baseS p n made) n).Nodup := wordSeq_nodup _
  have nd2 := perpL_nodup (p := p) (n := n) made made.length
  refine Nat.le_antisymm (len_subset nd1 fun v hv => ?_) (len_subset nd2 fun v hv => ?_)
  · obtain ⟨h1, h2⟩ := (hmem v).mp hv
    exact mem_perpL.mpr ⟨h1, fun j hj => h2 _ (getD_memL hj)⟩
  · obtain ⟨h1, h2⟩ := mem_perpL.mp hv
    refine (hmem v).mpr ⟨h1, fun m hmm => ?_⟩
    obtain ⟨j, hj, rfl⟩ := List.mem_iff_getElem.mp hmm
    rw [← getD_eqR hj]; exact h2 j hj
end
end Mine
end
section
set_option linter.unusedVariables false
set_option linter.unusedSectionVars false
namespace Mine
section
variable {p : Int} (hp : p = 2 ∨ p = 3 ∨ p = 5) {n : Nat}
include hp
theorem pair_code {made : List (List Int)} (hm : OkRows p n made) : Pair p n (codeS p n made) (dualS p n made) := by
  obtain ⟨h1, h2, h3, h4, h5⟩ := base_facts hp hm
  refine pair_of hp hm (wordSeq_nodup _) fun v => ?_
  rw [show v ∈ dualS p n made ↔ _ from h4 v]
  constructor
  · rintro ⟨a, b⟩; exact ⟨a, fun r hr => by rw [dotS_comm]; exact b r hr⟩
  · rintro ⟨a, b⟩; exact ⟨a, fun r hr => by rw [dotS_comm]; exact b r hr⟩
theorem card_code {made : List (List Int)} (hm : OkRows p n made) : ((codeS p n made).length : Int) * ((dualS p n made).length : Int) = p ^ n := (pair_code hp hm).card hp (words_zero hp hm)
theorem pair_dual {made : List (List Int)} (hm : OkRows p n made) : Pair p n (dualS p n made) (codeS p n made) := by
  obtain ⟨h1, h2, h3, h4, h5⟩ := base_facts hp hm
  have P1 := pair_code hp hm
  have ndE := (nodup_allV p n).filter fun v => (baseS p n made).all fun r => decide (dotS r v % p = 0)
  have memE : ∀ v, v ∈ (allV p n).filter (fun v => (baseS p n made).all fun r => decide (dotS r v % p = 0)) ↔ OkW p n v ∧ ∀ r ∈ baseS p n made, dotS r v % p = 0 := fun v => by
    rw [List.mem_filter, mem_allV, List.all_eq_true]
    simp
  have P2 := pair_of hp h1 ndE memE
  have c1 := card_code hp hm
  have c2 := P2.card hp (words_zero hp h1)
  have hsub : ∀ c ∈ codeS p n made, c ∈ (allV p n).filter (fun v => (baseS p n made).all fun r => decide (dotS r v % p = 0)) := fun c hc => (memE c).mpr ⟨P1.okC c hc, fun r hr => by
    rw [dotS_comm]
    exact words_perp hp hm (h1 r hr).1 (fun m hmm => by rw [dotS_comm]; exact h3 r hr m hmm) c hc⟩
  have hdl : 0 < (dualS p n made).length := List.length_pos_of_mem (words_zero hp h1)
  have hlen : ((allV p n).filter (fun v => (baseS p n made).all fun r => decide (dotS r v % p = 0))).length = (codeS p n made).length := by
    have e : ((dualS p n made).length : Int) * (((allV p n).filter (fun v => (baseS p n made).all fun r => decide (dotS r v % p = 0))).length : Int) = ((dualS p n made).length : Int) * ((codeS p n made).length : Int) := by
      rw [Int.mul_comm ((dualS p n made).length : Int) ((codeS p n made).length : Int), c1]; exact c2
    have := Int.eq_of_mul_eq_mul_left (by lia) e
    lia
  have heq := eq_subset P1.ndC ndE hsub (by lia)
  refine pair_of hp h1 P1.ndC fun v => ⟨fun h => (memE v).mp (hsub v h), fun h => heq v ((memE v).mpr h)⟩
theorem dual_len {made : List (List Int)} (hm : OkRows p n made) : (dualS p n made).length = p.toNat ^ (baseS p n made).length := (base_facts hp hm).2.2.2.2
end
end Mine
end
section
set_option linter.unusedVariables false
set_option linter.unusedSectionVars false
namespace Mine
noncomputable def bit (l i : Nat) : Nat := l / 2 ^ i % 2
theorem bit_lt (l i : Nat) : bit l i < 2 := Nat.mod_lt _ (by decide)
theorem bit_succ (l i : Nat) : bit l (i + 1) = bit (l / 2) i := by
  unfold bit; rw [Nat.pow_succ, Nat.mul_comm, Nat.div_div_eq_div_mul]
/-- taking 2^a away leaves the lower bits -/
theorem bit_sub {l a i : Nat} (h : 2 ^ a ≤ l) (hi : i < a) : bit (l - 2 ^ a) i = bit l i := by
  unfold bit
  have e : 2 ^ a = 2 ^ i * (2 * 2 ^ (a - i - 1)) := by
    have : a = i + (1 + (a - i - 1)) := by lia
    calc 2 ^ a = 2 ^ (i + (1 + (a - i - 1))) := by rw [← this]
      _ = _ := by rw [Nat.pow_add, Nat.pow_add, Nat.pow_one]
  rw [e] at h ⊢
  rw [Nat.sub_mul_div]
  have : 2 * 2 ^ (a - i - 1) ≤ l / 2 ^ i := (Nat.le_div_iff_mul_le (Nat.pow_pos (by decide))).mpr (by rw [Nat.mul_comm]; exact h)
  lia
theorem div_step (l a : Nat) : l / 2 ^ a = 2 * (l / 2 ^ (a + 1)) + bit l a := by
  unfold bit
  rw [Nat.pow_succ, ← Nat.div_div_eq_div_mul]; lia
/-- s and l alike from bit a on, and s within l below -/
noncomputable def relB (a s l : Nat) : Prop := s / 2 ^ a = l / 2 ^ a ∧ ∀ i, i < a → bit s i ≤ bit l i
theorem relB_zero (s l : Nat) : relB 0 s l ↔ s = l := by
  unfold relB; simp
open Classical in
theorem relB_step (a s l : Nat) : (if relB (a + 1) s l then (1 : Int) else 0) = (if relB a s l then 1 else 0) + (if bit l a = 1 then (if relB a s (l - 2 ^ a) then 1 else 0) else 0) := by
  have ds := div_step s a
  have dl := div_step l a
  have bs := bit_lt s a
  have bl := bit_lt l a
  by_cases hb : bit l a = 1
  · rw [if_pos hb]
    have hge : 2 ^ a ≤ l := by
      have : 0 < l / 2 ^ a := by lia
      exact Nat.le_of_lt_succ (Nat.lt_succ_of_le (Nat.div_pos_iff.mp this).2)
    have hsub : (l - 2 ^ a) / 2 ^ a = l / 2 ^ a - 1 := by
      have := Nat.sub_mul_div l (2 ^ a) 1
      rwa [Nat.mul_one] at this
    have hlow : (∀ i, i < a → bit s i ≤ bit (l - 2 ^ a) i) ↔ ∀ i, i < a → bit s i ≤ bit l i :=
      ⟨fun h i hi => by rw [← bit_sub hge hi]; exact h i hi, fun h i hi => by rw [bit_sub hge hi]; exact h i hi⟩
    have r1 : relB (a + 1) s l ↔ s / 2 ^ (a + 1) = l / 2 ^ (a + 1) ∧ ∀ i, i < a → bit s i ≤ bit l i := by
      unfold relB
      constructor
      · rintro ⟨h1, h2⟩; exact ⟨h1, fun i hi => h2 i (by lia)⟩
      · rintro ⟨h1, h2⟩
        refine ⟨h1, fun i hi => ?_⟩
        by_cases q : i = a
        · subst q; lia
        · exact h2 i (by lia)
    have r2 : relB a s (l - 2 ^ a) ↔ s / 2 ^ a = l / 2 ^ a - 1 ∧ ∀ i, i < a → bit s i ≤ bit l i := by
      unfold relB; rw [hsub, hlow]
    by_cases hl : ∀ i, i < a → bit s i ≤ bit l i
    · by_cases e1 : s / 2 ^ (a + 1) = l / 2 ^ (a + 1)
      · rw [if_pos (r1.mpr ⟨e1, hl⟩)]
        by_cases b1 : bit s a = 1
        · rw [if_pos ⟨by lia, hl⟩, if_neg (fun z => by have := (r2.mp z).1; lia)]; rfl
        · rw [if_neg (fun z => by have := z.1; lia), if_pos (r2.mpr ⟨by lia, hl⟩)]; rfl
      · rw [if_neg (fun z => e1 (r1.mp z).1), if_neg (fun z => by have := z.1; lia), if_neg (fun z => by have := (r2.mp z).1; lia)]; rfl
    · rw [if_neg (fun z => hl (r1.mp z).2), if_neg (fun z => hl z.2), if_neg (fun z => hl (r2.mp z).2)]; rfl
  · rw [if_neg hb]
    have r1 : relB (a + 1) s l ↔ relB a s l := by
      unfold relB
      constructor
      · rintro ⟨h1, h2⟩
        have := h2 a (by lia)
        exact ⟨by lia, fun i hi => h2 i (by lia)⟩
      · rintro ⟨h1, h2⟩
        refine ⟨by lia, fun i hi => ?_⟩
        by_cases q : i = a
        · subst q; lia
        · exact h2 i (by lia)
    by_cases q : relB a s l
    · rw [if_pos q, if_pos (r1.mpr q)]; rfl
    · rw [if_neg q, if_neg (fun z => q (r1.mp z))]; rfl
end Mine
end
section
set_option linter.unusedVariables false
set_option linter.unusedSectionVars false
namespace Mine
theorem addAt_getD {f : List Int} {i : Nat} {x : Int} (hi : i < f.length) (l : Nat) : (addAt f i x).getD l 0 = if l = i then f.getD l 0 + x else f.getD l 0 := by
  unfold addAt
  by_cases h : l = i
  · subst h
    rw [if_pos rfl, List.getD_eq_getElem?_getD, List.getElem?_set_self hi]; rfl
  · rw [if_neg h, List.getD_eq_getElem?_getD, List.getElem?_set_ne (fun z => h z.symm), ← List.getD_eq_getElem?_getD]
theorem sm_take_succ {words : List (List Int)} {k : Nat} (hk : k < words.length) (F : List Int → Int) : sm (words.take (k + 1)) F = sm (words.take k) F + F (words.getD k []) := by
  rw [List.take_succ_eq_append_getElem hk, sm_append, sm_cons, sm_nil, getD_eqR hk]; lia
theorem withA_get (words : List (List Int)) (n : Nat) : ∀ k, k ≤ words.length → ∀ l, l < 2 ^ n → (withA words n k).getD l 0 = sm (words.take k) fun w => if supN w n = l then 1 else 0
  | 0, _, l, hl => by
    rw [withA, List.take_zero, sm_nil, List.getD_eq_getElem?_getD, List.getElem?_replicate, if_pos hl]; rfl
  | k + 1, hk, l, hl => by
    have hlt := supN_lt (words.getD k []) n
    rw [sm_take_succ (by lia), withA, addAt_getD (by rw [withA_len]; exact hlt), withA_get words n k (by lia) l hl]
    by_cases h : l = supN (words.getD k []) n
    · rw [if_pos h, if_pos h.symm]
    · rw [if_neg h, if_neg (fun z => h z.symm)]; lia
theorem sub_div {l a : Nat} : (l - 2 ^ a) / 2 ^ a = l / 2 ^ a - 1 := by
  have := Nat.sub_mul_div l (2 ^ a) 1
  rwa [Nat.mul_one] at this
theorem withL_get {f : List Int} {a N : Nat} (hf : f.length = N) : ∀ m, m ≤ N → ∀ l, (withL f a m).getD l 0 = if l < m ∧ bit l a = 1 then f.getD l 0 + f.getD (l - 2 ^ a) 0 else f.getD l 0
  | 0, _, l => by rw [withL, if_neg (by lia)]
  | m + 1, hm, l => by
    have ih := withL_get (a := a) hf m (by lia)
    rw [withL]
    by_cases hb : m / 2 ^ a % 2 = 1
    · rw [if_pos hb, addAt_getD (by rw [withL_len, hf]; lia), ih l, ih (m - 2 ^ a)]
      have hz : ¬ (m - 2 ^ a < m ∧ bit (m - 2 ^ a) a = 1) := by
        unfold bit; rw [sub_div]; lia
      rw [if_neg hz]
      by_cases q : l = m
      · subst q
        rw [if_pos rfl, if_neg (by lia), if_pos ⟨by lia, hb⟩]
      · rw [if_neg q]
        by_cases z : l < m ∧ bit l a = 1
        · rw [if_pos z, if_pos ⟨by lia, z.2⟩]
        · rw [if_neg z, if_neg (by lia)]
    · rw [if_neg hb, ih l]
      by_cases q : l = m
      · subst q
        rw [if_neg (by lia), if_neg (fun z => hb z.2)]
      · by_cases z : l < m ∧ bit l a = 1
        · rw [if_pos z, if_pos ⟨by lia, z.2⟩]
        · rw [if_neg z, if_neg (by lia)]
open Classical in
theorem withB_get (words : List (List Int)) (n : Nat) : ∀ a, a ≤ n → ∀ l, l < 2 ^ n → (withB (withA words n words.length) n a).getD l 0 = sm words fun w => if relB a (supN w n) l then 1 else 0
  | 0, _, l, hl => by
    rw [withB, withA_get words n _ (Nat.le_refl _) l hl, List.take_length]
    refine sm_congr fun w _ => ?_
    by_cases h : supN w n = l
    · rw [if_pos h, if_pos ((relB_zero _ _).mpr h)]
    · rw [if_neg h, if_neg (fun z => h ((relB_zero _ _).mp z))]
  | a + 1, ha, l, hl => by
    have ih := withB_get words n a (by lia)
    rw [withB, withL_get (by rw [withB_len, withA_len]) _ (Nat.le_refl _) l, ih l hl, ih (l - 2 ^ a) (Nat.lt_of_le_of_lt (Nat.sub_le _ _) hl)]
    have e : sm words (fun w => if relB (a + 1) (supN w n) l then (1 : Int) else 0) = sm words (fun w => (if relB a (supN w n) l then 1 else 0) + (if bit l a = 1 then (if relB a (supN w n) (l - 2 ^ a) then 1 else 0) else 0)) := sm_congr fun w _ => relB_step a (supN w n) l
    rw [e, sm_add]
    by_cases hb : bit l a = 1
    · rw [if_pos ⟨hl, hb⟩]
      congr 1
      exact sm_congr fun w _ => by rw [if_pos hb]
    · rw [if_neg (fun z => hb z.2)]
      have : sm words (fun w => if bit l a = 1 then (if relB a (supN w n) (l - 2 ^ a) then (1 : Int) else 0) else 0) = sm words (fun _ => 0) := sm_congr fun w _ => by rw [if_neg hb]
      rw [this, sm_zero]; lia
theorem bit_add_pow {x n i : Nat} (hi : i < n) : bit (x + 2 ^ n) i = bit x i := by
  have := bit_sub (l := x + 2 ^ n) (a := n) (by lia) hi
  rw [Nat.add_sub_cancel] at this
  exact this.symm
theorem bit_sup (w : List Int) : ∀ n i, i < n → bit (supN w n) i = if w.getD i 0 ≠ 0 then 1 else 0
  | n + 1, i, hi => by
    have hlt := supN_lt w n
    rw [supN]
    by_cases h : i = n
    · subst h
      by_cases q : w.getD i 0 ≠ 0
      · rw [if_pos q]; unfold bit
        rw [Nat.add_div_right _ (Nat.pow_pos (by decide)), Nat.div_eq_of_lt hlt, if_pos q]
      · rw [if_neg q, Nat.add_zero]; unfold bit
        rw [Nat.div_eq_of_lt hlt, if_neg q]
    · by_cases q : w.getD n 0 ≠ 0
      · rw [if_pos q, bit_add_pow (by lia), bit_sup w n i (by lia)]
      · rw [if_neg q, Nat.add_zero, bit_sup w n i (by lia)]
noncomputable def subP (w : List Int) (n l : Nat) : Prop := ∀ i, i < n → w.getD i 0 ≠ 0 → bit l i = 1
open Classical in
/-- found[l] counts the words within l -/
theorem within_get (words : List (List Int)) (n l : Nat) (hl : l < 2 ^ n) : (withinS words n).getD l 0 = sm words fun w => if subP w n l then 1 else 0 := by
  unfold withinS
  rw [withB_get words n n (Nat.le_refl _) l hl]
  refine sm_congr fun w _ => ?_
  have : relB n (supN w n) l ↔ subP w n l := by
    unfold relB subP
    rw [Nat.div_eq_of_lt (supN_lt w n), Nat.div_eq_of_lt hl]
    constructor
    · rintro ⟨_, h⟩ i hi q
      have := h i hi
      rw [bit_sup w n i hi, if_pos q] at this
      have := bit_lt l i
      lia
    · intro h
      refine ⟨rfl, fun i hi => ?_⟩
      rw [bit_sup w n i hi]
      by_cases q : w.getD i 0 ≠ 0
      · rw [if_pos q, h i hi q]; exact Nat.le_refl _
      · rw [if_neg q]; exact Nat.zero_le _
  by_cases q : subP w n l
  · rw [if_pos q, if_pos (this.mpr q)]
  · rw [if_neg q, if_neg (fun z => q (this.mp z))]
noncomputable def fl : Nat → Nat → List (Int × Int)
  | 0, _ => []
  | n + 1, l => (if l % 2 = 1 then (1, 0) else (1, 1)) :: fl n (l / 2)
theorem fl_len : ∀ n l, (fl n l).length = n
  | 0, _ => rfl
  | n + 1, l => by rw [fl, List.length_cons, fl_len]
theorem bit_zero (l : Nat) : bit l 0 = l % 2 := by unfold bit; simp
theorem bitsN_front : ∀ n l, bitsN l (n + 1) = l % 2 + bitsN (l / 2) n
  | 0, l => by simp [bitsN]
  | n + 1, l => by
    rw [bitsN, bitsN_front n l, bitsN]
    have := bit_succ l n
    unfold bit at this
    lia
theorem subP_cons {x : Int} {w : List Int} {n l : Nat} : subP (x :: w) (n + 1) l ↔ (x = 0 ∨ l % 2 = 1) ∧ subP w n (l / 2) := by
  unfold subP
  constructor
  · intro h
    refine ⟨?_, fun i hi q => ?_⟩
    · by_cases hx : x = 0
      · exact .inl hx
      · have := h 0 (by lia) (by simpa using hx)
        rw [bit_zero] at this; exact .inr this
    · have := h (i + 1) (by lia) (by simpa using q)
      rwa [bit_succ] at this
  · rintro ⟨h1, h2⟩ i hi q
    match i with
    | 0 => rw [bit_zero]; exact h1.resolve_left (by simpa using q)
    | i + 1 => rw [bit_succ]; exact h2 i (by lia) (by simpa using q)
open Classical in
theorem ph_gT (p : Int) : ∀ n l (c : List Int), c.length = n → ph (gT p (fl n l)) c = if subP c n l then p ^ (n - bitsN l n) else 0
  | 0, l, c, hc => by
    rw [List.length_eq_zero_iff.mp hc, if_pos (c := subP [] 0 l) (fun i hi => absurd hi (Nat.not_lt_zero i))]; simp [fl, gT, ph]
  | n + 1, l, x :: c, hc => by
    have ih := ph_gT p n (l / 2) c (by simpa using hc)
    have hb := bitsN_front n l
    have hle := bitsN_le (l / 2) n
    have e : gT p (fl (n + 1) l) = (if l % 2 = 1 then ((1 : Int), (1 : Int)) else (p, 0)) :: gT p (fl n (l / 2)) := by
      rw [fl]
      unfold gT
      rw [List.map_cons]
      congr 1
      by_cases h : l % 2 = 1
      · rw [if_pos h, if_pos h]; simp
      · rw [if_neg h, if_neg h]; simp; lia
    rw [e, ph, ih]
    by_cases h : l % 2 = 1
    · rw [if_pos h]
      have e2 : n + 1 - bitsN l (n + 1) = n - bitsN (l / 2) n := by lia
      rw [e2]
      have e3 : subP (x :: c) (n + 1) l ↔ subP c n (l / 2) := subP_cons.trans ⟨fun z => z.2, fun z => ⟨.inr h, z⟩⟩
      by_cases q : subP c n (l / 2)
      · rw [if_pos q, if_pos (e3.mpr q)]; simp
      · rw [if_neg q, if_neg (fun z => q (e3.mp z))]; simp
    · rw [if_neg h]
      have e2 : n + 1 - bitsN l (n + 1) = (n - bitsN (l / 2) n) + 1 := by lia
      rw [e2]
      by_cases hx : x = 0
      · subst hx
        have e3 : subP (0 :: c) (n + 1) l ↔ subP c n (l / 2) := subP_cons.trans ⟨fun z => z.2, fun z => ⟨.inl rfl, z⟩⟩
        by_cases q : subP c n (l / 2)
        · rw [if_pos q, if_pos (e3.mpr q), Int.pow_succ]; simp [Int.mul_comm]
        · rw [if_neg q, if_neg (fun z => q (e3.mp z))]; simp
      · rw [if_neg (c := subP (x :: c) (n + 1) l) (fun z => (subP_cons.mp z).1.elim hx h), if_neg hx]; simp
end Mine
end
section
set_option linter.unusedVariables false
set_option linter.unusedSectionVars false
namespace Mine
theorem bit_comp {n l i : Nat} (hl : l < 2 ^ n) (hi : i < n) : bit (2 ^ n - 1 - l) i = 1 - bit l i := by
  have h := Nat.testBit_two_pow_sub_succ hl i
  have e : 2 ^ n - (l + 1) = 2 ^ n - 1 - l := by lia
  rw [e, Nat.testBit_eq_decide_div_mod_eq, Nat.testBit_eq_decide_div_mod_eq] at h
  have b1 := bit_lt (2 ^ n - 1 - l) i
  have b2 := bit_lt l i
  unfold bit at *
  generalize (2 ^ n - 1 - l) / 2 ^ i % 2 = x at *
  generalize l / 2 ^ i % 2 = y at *
  have hx : x = 0 ∨ x = 1 := by lia
  have hy : y = 0 ∨ y = 1 := by lia
  rcases hx with rfl | rfl <;> rcases hy with rfl | rfl <;> simp [hi] at h ⊢
noncomputable def zeroP (d : List Int) (n l : Nat) : Prop := ∀ i, i < n → d.getD i 0 ≠ 0 → bit l i = 0
theorem zeroP_cons {x : Int} {w : List Int} {n l : Nat} : zeroP (x :: w) (n + 1) l ↔ (x = 0 ∨ l % 2 = 0) ∧ zeroP w n (l / 2) := by
  unfold zeroP
  constructor
  · intro h
    refine ⟨?_, fun i hi q => ?_⟩
    · by_cases hx : x = 0
      · exact .inl hx
      · have := h 0 (by lia) (by simpa using hx)
        rw [bit_zero] at this; exact .inr this
    · have := h (i + 1) (by lia) (by simpa using q)
      rwa [bit_succ] at this
  · rintro ⟨h1, h2⟩ i hi q
    match i with
    | 0 => rw [bit_zero]; exact h1.resolve_left (by simpa using q)
    | i + 1 => rw [bit_succ]; exact h2 i (by lia) (by simpa using q)
open Classical in
theorem ph_fl : ∀ n l (d : List Int), d.length = n → ph (fl n l) d = if zeroP d n l then 1 else 0
  | 0, l, d, hd => by
    rw [List.length_eq_zero_iff.mp hd, if_pos (c := zeroP [] 0 l) (fun i hi => absurd hi (Nat.not_lt_zero i))]; simp [fl, ph]
  | n + 1, l, x :: d, hd => by
    have ih := ph_fl n (l / 2) d (by simpa using hd)
    rw [fl, ph, ih]
    by_cases h : l % 2 = 1
    · rw [if_pos h]
      by_cases hx : x = 0
      · have e3 : zeroP (x :: d) (n + 1) l ↔ zeroP d n (l / 2) := zeroP_cons.trans ⟨fun z => z.2, fun z => ⟨.inl hx, z⟩⟩
        by_cases q : zeroP d n (l / 2)
        · rw [if_pos q, if_pos (e3.mpr q), if_pos hx]; simp
        · rw [if_neg q, if_neg (fun z => q (e3.mp z))]; simp
      · rw [if_neg (c := zeroP (x :: d) (n + 1) l) (fun z => (zeroP_cons.mp z).1.elim hx (by lia)), if_neg hx]; simp
    · rw [if_neg h]
      have e3 : zeroP (x :: d) (n + 1) l ↔ zeroP d n (l / 2) := zeroP_cons.trans ⟨fun z => z.2, fun z => ⟨.inr (by lia), z⟩⟩
      by_cases q : zeroP d n (l / 2)
      · rw [if_pos q, if_pos (e3.mpr q)]; simp
      · rw [if_neg q, if_neg (fun z => q (e3.mp z))]; simp
section
variable {p : Int} (hp : p = 2 ∨ p = 3 ∨ p = 5) {n : Nat}
include hp
open Classical in
theorem law_within {made : List (List Int)} (hm : OkRows p n made) (l : Nat) (hl : l < 2 ^ n) :
    (withinS (codeS p n made) n).getD l 0 * p ^ (n - bitsN l n) = ((codeS p n made).length : Int) * (withinS (dualS p n made) n).getD (2 ^ n - 1 - l) 0 := by
  have P := pair_code hp hm
  have P2 := pair_dual hp hm
  have h := P.mw hp (fl n l) (fl_len n l)
  rw [within_get _ _ _ hl, within_get _ _ _ (by lia)]
  have e1 : sm (codeS p n made) (fun c => ph (gT p (fl n l)) c) = sm (codeS p n made) (fun w => if subP w n l then 1 else 0) * p ^ (n - bitsN l n) := by
    rw [← sm_mulR]
    refine sm_congr fun c hc => ?_
    rw [ph_gT p n l c (P.okC c hc).1]
    by_cases q : subP c n l
    · rw [if_pos q, if_pos q, Int.one_mul]
    · rw [if_neg q, if_neg q, Int.zero_mul]
  have e2 : sm (dualS p n made) (ph (fl n l)) = sm (dualS p n made) (fun w => if subP w n (2 ^ n - 1 - l) then 1 else 0) := by
    refine sm_congr fun d hd => ?_
    rw [ph_fl n l d (P2.okC d hd).1]
    have : zeroP d n l ↔ subP d n (2 ^ n - 1 - l) := by
      unfold zeroP subP
      constructor
      · intro h i hi q; rw [bit_comp hl hi, h i hi q]
      · intro h i hi q
        have := h i hi q
        rw [bit_comp hl hi] at this
        have := bit_lt l i
        lia
    by_cases q : zeroP d n l
    · rw [if_pos q, if_pos (this.mp q)]
    · rw [if_neg q, if_neg (fun z => q (this.mpr z))]
  rw [← e1, ← e2]; exact h
end
end Mine
end
section
set_option linter.unusedVariables false
set_option linter.unusedSectionVars false
namespace Mine
noncomputable def wtOf (n : Nat) (w : List Int) : Nat := n - w.count 0
theorem wtOf_le (n : Nat) (w : List Int) : wtOf n w ≤ n := Nat.sub_le _ _
theorem wtA_get (words : List (List Int)) (n : Nat) : ∀ k, k ≤ words.length → ∀ j, j < n + 1 → (wtA words n k).getD j 0 = sm (words.take k) fun w => if wtOf n w = j then 1 else 0
  | 0, _, l, hl => by
    rw [wtA, List.take_zero, sm_nil, List.getD_eq_getElem?_getD, List.getElem?_replicate, if_pos hl]; rfl
  | k + 1, hk, l, hl => by
    have hlt := wtOf_le n (words.getD k [])
    rw [sm_take_succ (by lia), wtA, addAt_getD (by rw [wtA_len]; unfold wtOf at hlt; lia), wtA_get words n k (by lia) l hl]
    show (if l = wtOf n (words.getD k []) then _ else _) = _
    by_cases h : l = wtOf n (words.getD k [])
    · rw [if_pos h, if_pos h.symm]
    · rw [if_neg h, if_neg (fun z => h z.symm)]; lia
theorem weights_get (words : List (List Int)) (n j : Nat) (hj : j < n + 1) : (weightsS words n).getD j 0 = sm words fun w => if wtOf n w = j then 1 else 0 := by
  unfold weightsS
  rw [wtA_get words n _ (Nat.le_refl _) j hj, List.take_length]
theorem sm_pick (F : Nat → Int) (k : Nat) : ∀ N, k < N → sm (List.range N) (fun j => if k = j then F j else 0) = F k
  | N + 1, h => by
    rw [List.range_succ, sm_append, sm_cons, sm_nil]
    by_cases q : k = N
    · subst q
      have : sm (List.range k) (fun j => if k = j then F j else 0) = sm (List.range k) (fun _ => 0) := sm_congr fun j hj => if_neg (by have := List.mem_range.mp hj; lia)
      rw [this, sm_zero, if_pos rfl]; lia
    · rw [sm_pick F k N (by lia), if_neg q]; lia
/-- a sum over words by their weights -/
theorem weights_sum (words : List (List Int)) (n : Nat) (F : Nat → Int) : sm words (fun w => F (wtOf n w)) = sm (List.range (n + 1)) fun j => (weightsS words n).getD j 0 * F j := by
  have : sm words (fun w => F (wtOf n w)) = sm words (fun w => sm (List.range (n + 1)) fun j => if wtOf n w = j then F j else 0) := sm_congr fun w _ => (sm_pick F _ _ (by have := wtOf_le n w; lia)).symm
  rw [this, sm_swap]
  refine sm_congr fun j hj => ?_
  rw [weights_get _ _ _ (List.mem_range.mp hj), ← sm_mulR]
  refine sm_congr fun w _ => ?_
  split <;> simp
theorem ph_rep (a b : Int) : ∀ (n : Nat) (v : List Int), v.length = n → ph (List.replicate n (a, b)) v = b ^ wtOf n v * a ^ (n - wtOf n v)
  | 0, v, h => by rw [List.length_eq_zero_iff.mp h]; simp [ph, wtOf]
  | n + 1, x :: v, h => by
    have hc : v.count 0 ≤ n := by have := List.count_le_length (a := (0 : Int)) (l := v); simp at h; lia
    have ih := ph_rep a b n v (by simpa using h)
    rw [List.replicate_succ, ph, ih]
    unfold wtOf
    by_cases hx : x = 0
    · subst hx
      rw [if_pos rfl, List.count_cons_self]
      have e1 : n + 1 - (v.count 0 + 1) = n - v.count 0 := by lia
      have e2 : n + 1 - (n - v.count 0) = n - (n - v.count 0) + 1 := by lia
      rw [e1, e2, Int.pow_succ]; grind
    · rw [if_neg hx, List.count_cons_of_ne (by exact hx)]
      have e1 : n + 1 - v.count 0 = n - v.count 0 + 1 := by lia
      have e2 : n + 1 - (n - v.count 0 + 1) = n - (n - v.count 0) := by lia
      rw [e1, e2, Int.pow_succ]; grind
/-- MacWilliams, at every x -/
theorem mwx {p : Int} (hp : p = 2 ∨ p = 3 ∨ p = 5) {n : Nat} {C D : List (List Int)} (P : Pair p n C D) (x : Int) :
    sm (List.range (n + 1)) (fun j => (weightsS C n).getD j 0 * ((1 - x) ^ j * (1 + (p - 1) * x) ^ (n - j))) = (C.length : Int) * sm (List.range (n + 1)) (fun j => (weightsS D n).getD j 0 * x ^ j) := by
  have h := P.mw hp (List.replicate n (1, x)) List.length_replicate
  have e : gT p (List.replicate n (1, x)) = List.replicate n (1 + (p - 1) * x, 1 - x) := by simp [gT]
  rw [e] at h
  rw [← weights_sum C n (fun j => (1 - x) ^ j * (1 + (p - 1) * x) ^ (n - j)), ← weights_sum D n (fun j => x ^ j)]
  have a1 : sm C (fun c => ph (List.replicate n (1 + (p - 1) * x, 1 - x)) c) = sm C (fun w => (1 - x) ^ wtOf n w * (1 + (p - 1) * x) ^ (n - wtOf n w)) := sm_congr fun c hc => ph_rep _ _ n c (P.okC c hc).1
  have a2 : sm D (ph (List.replicate n (1, x))) = sm D (fun w => x ^ wtOf n w) := sm_congr fun d hd => by
    rw [ph_rep _ _ n d ((P.memD d).mp hd).1.1, Int.one_pow, Int.mul_one]
  rw [← a1, ← a2]; exact h
end Mine
end
section
set_option linter.unusedVariables false
set_option linter.unusedSectionVars false
namespace Mine
noncomputable def evP : List Int → Int → Int
  | [], _ => 0
  | a :: l, x => a + x * evP l x
theorem evP_head (l : List Int) (x : Int) : evP l x = l.getD 0 0 + x * evP l.tail x := by
  cases l with
  | nil => simp [evP]
  | cons a l => simp [evP]
theorem poly_eq : ∀ (N : Nat) (a b : List Int), a.length ≤ N → b.length ≤ N → ∀ M : Nat, (∀ x : Int, (M : Int) < x → evP a x = evP b x) → ∀ i, a.getD i 0 = b.getD i 0
  | 0, a, b, ha, hb, M, _, i => by
    rw [List.length_eq_zero_iff.mp (Nat.le_zero.mp ha), List.length_eq_zero_iff.mp (Nat.le_zero.mp hb)]
  | N + 1, a, b, ha, hb, M, h, i => by
    have h0 : a.getD 0 0 = b.getD 0 0 := by
      have hx := h ((M : Int) + (a.getD 0 0 - b.getD 0 0).natAbs + 1) (by lia)
      rw [evP_head a, evP_head b] at hx
      generalize evP a.tail _ = e1 at hx
      generalize evP b.tail _ = e2 at hx
      generalize a.getD 0 0 = u at *
      generalize b.getD 0 0 = v at *
      have hd : u - v = ((M : Int) + (u - v).natAbs + 1) * (e2 - e1) := by grind
      have hdv : ((M : Int) + (u - v).natAbs + 1) ∣ (u - v) := ⟨_, hd⟩
      have := Int.natAbs_dvd_natAbs.mpr hdv
      have : (u - v).natAbs = 0 := Nat.eq_zero_of_dvd_of_lt this (by lia)
      lia
    have ht : ∀ x : Int, (M : Int) < x → evP a.tail x = evP b.tail x := fun x hx => by
      have := h x hx
      rw [evP_head a, evP_head b, h0] at this
      have h2 : x * evP a.tail x = x * evP b.tail x := by lia
      exact Int.eq_of_mul_eq_mul_left (by lia) h2
    match i with
    | 0 => exact h0
    | i + 1 =>
      have := poly_eq N a.tail b.tail (by rw [List.length_tail]; lia) (by rw [List.length_tail]; lia) M ht i
      have e : ∀ l : List Int, l.getD (i + 1) 0 = l.tail.getD i 0 := fun l => by cases l <;> simp
      rw [e a, e b]; exact this
theorem evP_sum (x : Int) : ∀ (N : Nat) (l : List Int), l.length ≤ N → evP l x = sm (List.range N) fun i => l.getD i 0 * x ^ i
  | 0, l, h => by rw [List.length_eq_zero_iff.mp (Nat.le_zero.mp h)]; rfl
  | N + 1, l, h => by
    rw [evP_head, evP_sum x N l.tail (by rw [List.length_tail]; lia), List.range_succ_eq_map, sm_cons, sm_map, ← sm_mul]
    simp only [Int.pow_zero, Int.mul_one]
    congr 1
    refine sm_congr fun i _ => ?_
    have e : l.getD (i + 1) 0 = l.tail.getD i 0 := by cases l <;> simp
    show x * (l.tail.getD i 0 * x ^ i) = l.getD (i + 1) 0 * x ^ (i + 1)
    rw [e, Int.pow_succ]; grind
end Mine
end
section
set_option linter.unusedVariables false
set_option linter.unusedSectionVars false
namespace Mine
theorem evP_congr {a b : List Int} (h : ∀ i, a.getD i 0 = b.getD i 0) (x : Int) : evP a x = evP b x := by
  rw [evP_sum x (max a.length b.length) a (by lia), evP_sum x (max a.length b.length) b (by lia)]
  exact sm_congr fun i _ => by rw [h i]
theorem trimN_zeroM (row : List Int) : ∀ k i, trimN row k ≤ i → i < k → row.getD i 0 = 0
  | k + 1, i, h1, h2 => by
    rw [trimN] at h1
    split at h1
    · rename_i q
      by_cases e : i = k
      · rw [e]; exact q
      · exact trimN_zeroM row k i h1 (by lia)
    · lia
theorem trimN_lastM (row : List Int) : ∀ k, 0 < trimN row k → row.getD (trimN row k - 1) 0 ≠ 0
  | k + 1, h => by
    rw [trimN] at h ⊢
    split
    · rename_i q; rw [if_pos q] at h; exact trimN_lastM row k h
    · rename_i q; exact q
theorem trimS_get (l : List Int) (i : Nat) : (trimS l).getD i 0 = l.getD i 0 := by
  unfold trimS
  rw [List.getD_eq_getElem?_getD, List.getElem?_take]
  by_cases h : i < trimN l l.length
  · rw [if_pos h, ← List.getD_eq_getElem?_getD]
  · rw [if_neg h]
    by_cases q : i < l.length
    · rw [trimN_zeroM l _ i (by lia) q]; rfl
    · rw [getD_out (by lia)]; rfl
noncomputable def Trim (l : List Int) : Prop := 0 < l.length → l.getD (l.length - 1) 0 ≠ 0
theorem trimS_trim (l : List Int) : Trim (trimS l) := fun h => by
  have hle := trimN_le l l.length
  have hl : (trimS l).length = trimN l l.length := by unfold trimS; rw [List.length_take]; lia
  rw [trimS_get, hl]
  exact trimN_lastM l _ (by lia)
theorem trim_eq {a b : List Int} (ha : Trim a) (hb : Trim b) (h : ∀ i, a.getD i 0 = b.getD i 0) : a = b := by
  have key : ∀ {a b : List Int}, Trim a → (∀ i, a.getD i 0 = b.getD i 0) → a.length ≤ b.length := fun {a b} ha h => by
    by_cases q : a.length ≤ b.length
    · exact q
    · exact absurd (by rw [h, getD_out (by lia)]) (ha (by lia))
  have hl : a.length = b.length := Nat.le_antisymm (key ha h) (key hb fun i => (h i).symm)
  apply List.ext_getElem hl
  intro i h1 h2
  have := h i
  rw [List.getD_eq_getElem?_getD, List.getElem?_eq_getElem h1, List.getD_eq_getElem?_getD, List.getElem?_eq_getElem h2] at this
  exact this
theorem addL_get (a b : List Int) (i : Nat) : (addL a b).getD i 0 = a.getD i 0 + b.getD i 0 := by
  unfold addL
  by_cases h : i < max a.length b.length
  · rw [List.getD_eq_getElem?_getD, List.getElem?_map, List.getElem?_range h]; rfl
  · rw [getD_out (by simpa using Nat.le_of_not_lt h), getD_out (a := a) (by lia), getD_out (a := b) (by lia)]; rfl
theorem evP_addS (a b : List Int) (x : Int) : evP (addS a b) x = evP a x + evP b x := by
  have h1 : evP (addS a b) x = evP (addL a b) x := evP_congr (fun i => trimS_get _ i) x
  have hl : (addL a b).length = max a.length b.length := by simp [addL]
  rw [h1, evP_sum x (max a.length b.length) (addL a b) (by lia), evP_sum x (max a.length b.length) a (by lia), evP_sum x (max a.length b.length) b (by lia), ← sm_add]
  exact sm_congr fun i _ => by rw [addL_get]; grind
theorem evP_scaleS (l : List Int) (k x : Int) : evP (scaleS l k) x = evP l x * k := by
  unfold scaleS
  split
  · induction l with
    | nil => simp [evP]
    | cons a l ih => rw [List.map_cons, evP, evP, ih]; grind
  · rename_i h
    have : k = 0 := Classical.byContradiction fun z => h z
    rw [this]; simp [evP]
theorem evP_addAt : ∀ (f : List Int) (i : Nat) (y x : Int), i < f.length → evP (addAt f i y) x = evP f x + y * x ^ i
  | a :: f, 0, y, x, _ => by simp [addAt, evP]; lia
  | a :: f, i + 1, y, x, h => by
    have : addAt (a :: f) (i + 1) y = a :: addAt f i y := by simp [addAt]
    rw [this, evP, evP, evP_addAt f i y x (by simpa using h), Int.pow_succ]; grind
theorem evP_mulIn (f b : List Int) (one : Nat) (left x : Int) : ∀ j, one + j ≤ f.length → evP (mulIn f one left b j) x = evP f x + left * x ^ one * sm (List.range j) (fun t => b.getD t 0 * x ^ t)
  | 0, _ => by rw [mulIn]; simp [sm]
  | j + 1, h => by
    rw [mulIn, evP_addAt _ _ _ _ (by rw [mulIn_len]; lia), evP_mulIn f b one left x j (by lia), List.range_succ, sm_append, sm_cons, sm_nil, Int.pow_add]; grind
theorem evP_rep (n : Nat) (x : Int) : evP (List.replicate n 0) x = 0 := by
  induction n with
  | zero => rfl
  | succ n ih => rw [List.replicate_succ, evP, ih]; simp
theorem evP_mulOut (a b : List Int) (x : Int) (hb : 0 < b.length) : ∀ i, i ≤ a.length → evP (mulOut a b i) x = sm (List.range i) (fun t => a.getD t 0 * x ^ t) * evP b x
  | 0, _ => by rw [mulOut, evP_rep]; simp [sm]
  | i + 1, h => by
    have ih := evP_mulOut a b x hb i (by lia)
    rw [mulOut, List.range_succ, sm_append, sm_cons, sm_nil]
    split
    · rw [evP_mulIn _ _ _ _ _ _ (by rw [mulOut_len]; lia), ih, ← evP_sum x b.length b (Nat.le_refl _)]; grind
    · rename_i q
      have : a.getD i 0 = 0 := Classical.byContradiction fun z => q z
      rw [ih, this]; grind
theorem evP_mulS (a b : List Int) (x : Int) : evP (mulS a b) x = evP a x * evP b x := by
  unfold mulS
  split
  · rename_i h
    rcases h with h | h
    · rw [List.length_eq_zero_iff.mp h]; simp [evP]
    · rw [List.length_eq_zero_iff.mp h]; simp [evP]
  · rw [evP_mulOut a b x (by lia) _ (Nat.le_refl _), ← evP_sum x a.length a (Nat.le_refl _)]
end Mine
end
section
set_option linter.unusedVariables false
set_option linter.unusedSectionVars false
namespace Mine
theorem pow_step (q : List Int × List Int × Nat) (x : Int) (hk : 0 < q.2.2) : evP (powStep q).1 x * evP (powStep q).2.1 x ^ (powStep q).2.2 = evP q.1 x * evP q.2.1 x ^ q.2.2 := by
  obtain ⟨acc, base, k⟩ := q
  have hk : 0 < k := hk
  show evP (if k % 2 = 1 then mulS acc base else acc) x * evP (if k > 1 then mulS base base else base) x ^ (k / 2) = evP acc x * evP base x ^ k
  have hk2 : k = k / 2 + k / 2 + k % 2 := by omega
  by_cases h1 : k > 1
  · rw [if_pos h1, evP_mulS base base]
    by_cases ho : k % 2 = 1
    · rw [if_pos ho, evP_mulS]
      have e : evP base x ^ k = evP base x ^ (k / 2) * evP base x ^ (k / 2) * evP base x := by
        conv => lhs; rw [hk2, ho]
        rw [Int.pow_succ, Int.pow_add]
      rw [e, Int.mul_pow]; grind
    · rw [if_neg ho]
      have e : evP base x ^ k = evP base x ^ (k / 2) * evP base x ^ (k / 2) := by
        have : k % 2 = 0 := by omega
        conv => lhs; rw [hk2, this, Nat.add_zero]
        rw [Int.pow_add]
      rw [e, Int.mul_pow]
  · have : k = 1 := by omega
    subst this
    rw [if_pos (by decide), evP_mulS]; simp only [Nat.lt_irrefl, gt_iff_lt, if_false, Nat.reduceDiv, Int.pow_zero, Int.mul_one]; rw [Int.pow_succ, Int.pow_zero, Int.one_mul]
theorem pow_inv (q : List Int) (k : Nat) (x : Int) : ∀ i, (∀ j, j < i → 0 < (powSeq q k j).2.2) → evP (powSeq q k i).1 x * evP (powSeq q k i).2.1 x ^ (powSeq q k i).2.2 = evP q x ^ k
  | 0, _ => by
    show evP [1] x * evP q x ^ k = _
    simp [evP]
  | i + 1, h => by
    show evP (powStep (powSeq q k i)).1 x * evP (powStep (powSeq q k i)).2.1 x ^ (powStep (powSeq q k i)).2.2 = _
    rw [pow_step _ x (h i (by omega)), pow_inv q k x i fun j hj => h j (by omega)]
theorem evP_powS {q : List Int} {k : Nat} (h : powOk q k) (x : Int) : evP (powS q k) x = evP q x ^ k := by
  have := pow_inv q k x (fuelN k) fun j hj => (h.1 j hj).1
  rw [h.2.1, Int.pow_zero, Int.mul_one] at this
  exact this
theorem evP_basis {p : Int} {n a : Nat} (h : basisOk p n) (ha : a < n + 1) (x : Int) : evP (basisS p n a) x = (1 - x) ^ a * (1 + (p - 1) * x) ^ (n - a) := by
  obtain ⟨h1, h2, _⟩ := h a ha
  unfold basisS
  rw [evP_mulS, evP_powS h1, evP_powS h2]
  have e1 : evP [1, -1] x = 1 - x := by simp [evP]; omega
  have e2 : evP [1, p - 1] x = 1 + (p - 1) * x := by simp [evP]; grind
  rw [e1, e2]
theorem evP_moved {p : Int} {n : Nat} (h : basisOk p n) (w : List Int) (x : Int) : ∀ k, k ≤ n + 1 → evP (movedN w n p k) x = sm (List.range k) fun j => w.getD j 0 * ((1 - x) ^ j * (1 + (p - 1) * x) ^ (n - j))
  | 0, _ => rfl
  | k + 1, hk => by
    rw [movedN, evP_addS, evP_moved h w x k (by omega), evP_scaleS, evP_basis h (by omega), List.range_succ, sm_append, sm_cons, sm_nil]; grind
theorem scaleS_trim {l : List Int} {k : Int} (hl : Trim l) (hk : k ≠ 0) : Trim (scaleS l k) := fun h => by
  unfold scaleS at h ⊢
  rw [if_pos hk] at h ⊢
  rw [List.length_map] at h ⊢
  have := hl h
  rw [List.getD_eq_getElem?_getD, List.getElem?_map, List.getElem?_eq_getElem (by omega)]
  rw [List.getD_eq_getElem?_getD, List.getElem?_eq_getElem (by omega)] at this
  exact fun z => (Int.mul_eq_zero.mp z).elim this hk
/-- MacWilliams, as the law asks it -/
theorem law_mw {p : Int} {n : Nat} (hpn : (p, n) ∈ pairsL) {C D : List (List Int)} (P : Pair p n C D) (h0 : 0 < C.length) :
    movedS (weightsS C n) n p = scaleS (trimS (weightsS D n)) (C.length : Int) := by
  have hp := (pairs_cases hpn).1
  have hB : basisOk p n := basis_ok _ hpn
  have lc : (weightsS C n).length = n + 1 := wtA_len _ _ _
  have ld : (weightsS D n).length = n + 1 := wtA_len _ _ _
  have hev : ∀ x, evP (movedS (weightsS C n) n p) x = evP (scaleS (trimS (weightsS D n)) (C.length : Int)) x := fun x => by
    unfold movedS
    rw [lc, evP_moved hB _ x _ (Nat.le_refl _), mwx hp P x, evP_scaleS]
    have e : evP (trimS (weightsS D n)) x = evP (weightsS D n) x := evP_congr (fun i => trimS_get _ i) x
    rw [e, evP_sum x (n + 1) (weightsS D n) (by omega), Int.mul_comm]
  refine trim_eq ?_ (scaleS_trim (trimS_trim _) (by omega)) (poly_eq _ _ _ (Nat.le_max_left _ _) (Nat.le_max_right _ _) 0 fun x _ => hev x)
  unfold movedS
  rw [lc, movedN]
  exact trimS_trim _
end Mine
end
section
set_option linter.unusedVariables false
set_option linter.unusedSectionVars false
set_option linter.unusedSimpArgs false
namespace Mine
/-- MacWilliams with a - b = 1, at every b -/
noncomputable def mwE (p : Int) (n : Nat) (A B : Nat → Int) (K b : Int) : Prop := sm (List.range (n + 1)) (fun j => A j * (1 + p * b) ^ (n - j)) = K * sm (List.range (n + 1)) (fun j => B j * (b ^ j * (1 + b) ^ (n - j)))
theorem mwb {p : Int} (hp : p = 2 ∨ p = 3 ∨ p = 5) {n : Nat} {C D : List (List Int)} (P : Pair p n C D) (b : Int) : mwE p n (fun j => (weightsS C n).getD j 0) (fun j => (weightsS D n).getD j 0) (C.length : Int) b := by
  have h := P.mw hp (List.replicate n (1 + b, b)) List.length_replicate
  have e : gT p (List.replicate n (1 + b, b)) = List.replicate n (1 + p * b, 1) := by
    simp only [gT, List.map_replicate]
    congr 2
    · grind
    · lia
  rw [e] at h
  unfold mwE
  rw [← weights_sum C n (fun j => (1 + p * b) ^ (n - j)), ← weights_sum D n (fun j => b ^ j * (1 + b) ^ (n - j))]
  have a1 : sm C (fun c => ph (List.replicate n (1 + p * b, 1)) c) = sm C (fun w => (1 + p * b) ^ (n - wtOf n w)) := sm_congr fun c hc => by rw [ph_rep _ _ n c (P.okC c hc).1, Int.one_pow, Int.one_mul]
  have a2 : sm D (ph (List.replicate n (1 + b, b))) = sm D (fun w => b ^ wtOf n w * (1 + b) ^ (n - wtOf n w)) := sm_congr fun d hd => ph_rep _ _ n d ((P.memD d).mp hd).1.1
  rw [← a1, ← a2]; exact h
theorem cut0 {p L R : Int} (hp : 0 < p) (k : Nat) (h : p ^ k * L = p ^ k * R) : L = R := Int.eq_of_mul_eq_mul_left (Int.ne_of_gt (Int.pow_pos hp)) h
theorem cut1 {p L R : Int} (hp : 0 < p) (k : Nat) (h : p ^ k * L = p ^ (k + 1) * R) : L = p * R := cut0 hp k (by rw [h, Int.pow_succ, Int.mul_assoc])
theorem cut2 {p L R : Int} (hp : 0 < p) (k : Nat) (h : p ^ (k + 1) * L = p ^ k * R) : p * L = R := cut0 hp k (by rw [← h, Int.pow_succ, Int.mul_assoc])
/-- what stands behind the first, up to m, is nought -/
theorem zrow {u : List Int} {m : Nat} (hm : m < u.length) : (u.take (m + 1)).drop 1 = List.replicate m 0 ↔ ∀ i, i < m → u.getD (i + 1) 0 = 0 := by
  have hl : ((u.take (m + 1)).drop 1).length = m := by rw [List.length_drop, List.length_take]; lia
  rw [List.eq_replicate_iff]
  constructor
  · rintro ⟨_, h⟩ i hi
    have q : i < ((u.take (m + 1)).drop 1).length := by lia
    have := h _ (List.getElem_mem q)
    rw [List.getElem_drop, List.getElem_take] at this
    rw [List.getD_eq_getElem?_getD, List.getElem?_eq_getElem (by lia), Option.getD_some, ← this]
    congr 1; lia
  · intro h
    refine ⟨hl, fun b hb => ?_⟩
    obtain ⟨i, hi, rfl⟩ := List.getElem_of_mem hb
    have := h i (by lia)
    rw [List.getElem_drop, List.getElem_take]
    rw [List.getD_eq_getElem?_getD, List.getElem?_eq_getElem (by lia), Option.getD_some] at this
    rw [← this]; congr 1; lia
theorem least_of {u : List Int} {n m : Nat} {p c : Int} (hu : u.length = n + 1) (hm : m < n) (hz : ∀ i, i < m → u.getD (i + 1) 0 = 0) (hc : (binS n n).getD (m + 1) 0 = c) (h : u.getD (m + 1) 0 = (p - 1) * c) : leastS u n p (m + 1) = true := by
  unfold leastS
  have e : m + 1 - 1 = m := rfl
  rw [e, decide_eq_true ((zrow (by lia)).mpr hz), hc, decide_eq_true h]; rfl
theorem mom_3 {p K : Int} {A B : Nat → Int} (hx : ∀ x, mwE p 3 A B K x) : p ^ 0 * (1 * A 0 + 1 * A 1 + 1 * A 2 + 1 * A 3) = K * (1 * B 0) ∧ p ^ 1 * (3 * A 0 + 2 * A 1 + 1 * A 2) = K * (3 * B 0 + 1 * B 1) ∧ p ^ 2 * (3 * A 0 + 1 * A 1) = K * (3 * B 0 + 2 * B 1 + 1 * B 2) ∧ p ^ 3 * (1 * A 0) = K * (1 * B 0 + 1 * B 1 + 1 * B 2 + 1 * B 3) := by
  have h : ∀ x, evP [p ^ 0 * (1 * A 0 + 1 * A 1 + 1 * A 2 + 1 * A 3), p ^ 1 * (3 * A 0 + 2 * A 1 + 1 * A 2), p ^ 2 * (3 * A 0 + 1 * A 1), p ^ 3 * (1 * A 0)] x = evP [K * (1 * B 0), K * (3 * B 0 + 1 * B 1), K * (3 * B 0 + 2 * B 1 + 1 * B 2), K * (1 * B 0 + 1 * B 1 + 1 * B 2 + 1 * B 3)] x := fun x => by
    have := hx x
    simp only [mwE, show List.range (3 + 1) = [0, 1, 2, 3] from rfl, sm_cons, sm_nil] at this
    simp only [evP]
    generalize A 0 = a0 at *
    generalize B 0 = b0 at *
    generalize A 1 = a1 at *
    generalize B 1 = b1 at *
    generalize A 2 = a2 at *
    generalize B 2 = b2 at *
    generalize A 3 = a3 at *
    generalize B 3 = b3 at *
    clear hx
    grind
  have g := poly_eq 4 _ _ (Nat.le_refl _) (Nat.le_refl _) 0 fun x _ => h x
  exact ⟨g 0, g 1, g 2, g 3⟩
theorem mom_4 {p K : Int} {A B : Nat → Int} (hx : ∀ x, mwE p 4 A B K x) : p ^ 0 * (1 * A 0 + 1 * A 1 + 1 * A 2 + 1 * A 3 + 1 * A 4) = K * (1 * B 0) ∧ p ^ 1 * (4 * A 0 + 3 * A 1 + 2 * A 2 + 1 * A 3) = K * (4 * B 0 + 1 * B 1) ∧ p ^ 2 * (6 * A 0 + 3 * A 1 + 1 * A 2) = K * (6 * B 0 + 3 * B 1 + 1 * B 2) ∧ p ^ 3 * (4 * A 0 + 1 * A 1) = K * (4 * B 0 + 3 * B 1 + 2 * B 2 + 1 * B 3) ∧ p ^ 4 * (1 * A 0) = K * (1 * B 0 + 1 * B 1 + 1 * B 2 + 1 * B 3 + 1 * B 4) := by
  have h : ∀ x, evP [p ^ 0 * (1 * A 0 + 1 * A 1 + 1 * A 2 + 1 * A 3 + 1 * A 4), p ^ 1 * (4 * A 0 + 3 * A 1 + 2 * A 2 + 1 * A 3), p ^ 2 * (6 * A 0 + 3 * A 1 + 1 * A 2), p ^ 3 * (4 * A 0 + 1 * A 1), p ^ 4 * (1 * A 0)] x = evP [K * (1 * B 0), K * (4 * B 0 + 1 * B 1), K * (6 * B 0 + 3 * B 1 + 1 * B 2), K * (4 * B 0 + 3 * B 1 + 2 * B 2 + 1 * B 3), K * (1 * B 0 + 1 * B 1 + 1 * B 2 + 1 * B 3 + 1 * B 4)] x := fun x => by
    have := hx x
    simp only [mwE, show List.range (4 + 1) = [0, 1, 2, 3, 4] from rfl, sm_cons, sm_nil] at this
    simp only [evP]
    generalize A 0 = a0 at *
    generalize B 0 = b0 at *
    generalize A 1 = a1 at *
    generalize B 1 = b1 at *
    generalize A 2 = a2 at *
    generalize B 2 = b2 at *
    generalize A 3 = a3 at *
    generalize B 3 = b3 at *
    generalize A 4 = a4 at *
    generalize B 4 = b4 at *
    clear hx
    grind
  have g := poly_eq 5 _ _ (Nat.le_refl _) (Nat.le_refl _) 0 fun x _ => h x
  exact ⟨g 0, g 1, g 2, g 3, g 4⟩
theorem mom_5 {p K : Int} {A B : Nat → Int} (hx : ∀ x, mwE p 5 A B K x) : p ^ 0 * (1 * A 0 + 1 * A 1 + 1 * A 2 + 1 * A 3 + 1 * A 4 + 1 * A 5) = K * (1 * B 0) ∧ p ^ 1 * (5 * A 0 + 4 * A 1 + 3 * A 2 + 2 * A 3 + 1 * A 4) = K * (5 * B 0 + 1 * B 1) ∧ p ^ 2 * (10 * A 0 + 6 * A 1 + 3 * A 2 + 1 * A 3) = K * (10 * B 0 + 4 * B 1 + 1 * B 2) ∧ p ^ 3 * (10 * A 0 + 4 * A 1 + 1 * A 2) = K * (10 * B 0 + 6 * B 1 + 3 * B 2 + 1 * B 3) ∧ p ^ 4 * (5 * A 0 + 1 * A 1) = K * (5 * B 0 + 4 * B 1 + 3 * B 2 + 2 * B 3 + 1 * B 4) ∧ p ^ 5 * (1 * A 0) = K * (1 * B 0 + 1 * B 1 + 1 * B 2 + 1 * B 3 + 1 * B 4 + 1 * B 5) := by
  have h : ∀ x, evP [p ^ 0 * (1 * A 0 + 1 * A 1 + 1 * A 2 + 1 * A 3 + 1 * A 4 + 1 * A 5), p ^ 1 * (5 * A 0 + 4 * A 1 + 3 * A 2 + 2 * A 3 + 1 * A 4), p ^ 2 * (10 * A 0 + 6 * A 1 + 3 * A 2 + 1 * A 3), p ^ 3 * (10 * A 0 + 4 * A 1 + 1 * A 2), p ^ 4 * (5 * A 0 + 1 * A 1), p ^ 5 * (1 * A 0)] x = evP [K * (1 * B 0), K * (5 * B 0 + 1 * B 1), K * (10 * B 0 + 4 * B 1 + 1 * B 2), K * (10 * B 0 + 6 * B 1 + 3 * B 2 + 1 * B 3), K * (5 * B 0 + 4 * B 1 + 3 * B 2 + 2 * B 3 + 1 * B 4), K * (1 * B 0 + 1 * B 1 + 1 * B 2 + 1 * B 3 + 1 * B 4 + 1 * B 5)] x := fun x => by
    have := hx x
    simp only [mwE, show List.range (5 + 1) = [0, 1, 2, 3, 4, 5] from rfl, sm_cons, sm_nil] at this
    simp only [evP]
    generalize A 0 = a0 at *
    generalize B 0 = b0 at *
    generalize A 1 = a1 at *
    generalize B 1 = b1 at *
    generalize A 2 = a2 at *
    generalize B 2 = b2 at *
    generalize A 3 = a3 at *
    generalize B 3 = b3 at *
    generalize A 4 = a4 at *
    generalize B 4 = b4 at *
    generalize A 5 = a5 at *
    generalize B 5 = b5 at *
    clear hx
    grind
  have g := poly_eq 6 _ _ (Nat.le_refl _) (Nat.le_refl _) 0 fun x _ => h x
  exact ⟨g 0, g 1, g 2, g 3, g 4, g 5⟩
theorem mom_6 {p K : Int} {A B : Nat → Int} (hx : ∀ x, mwE p 6 A B K x) : p ^ 0 * (1 * A 0 + 1 * A 1 + 1 * A 2 + 1 * A 3 + 1 * A 4 + 1 * A 5 + 1 * A 6) = K * (1 * B 0) ∧ p ^ 1 * (6 * A 0 + 5 * A 1 + 4 * A 2 + 3 * A 3 + 2 * A 4 + 1 * A 5) = K * (6 * B 0 + 1 * B 1) ∧ p ^ 2 * (15 * A 0 + 10 * A 1 + 6 * A 2 + 3 * A 3 + 1 * A 4) = K * (15 * B 0 + 5 * B 1 + 1 * B 2) ∧ p ^ 3 * (20 * A 0 + 10 * A 1 + 4 * A 2 + 1 * A 3) = K * (20 * B 0 + 10 * B 1 + 4 * B 2 + 1 * B 3) ∧ p ^ 4 * (15 * A 0 + 5 * A 1 + 1 * A 2) = K * (15 * B 0 + 10 * B 1 + 6 * B 2 + 3 * B 3 + 1 * B 4) ∧ p ^ 5 * (6 * A 0 + 1 * A 1) = K * (6 * B 0 + 5 * B 1 + 4 * B 2 + 3 * B 3 + 2 * B 4 + 1 * B 5) ∧ p ^ 6 * (1 * A 0) = K * (1 * B 0 + 1 * B 1 + 1 * B 2 + 1 * B 3 + 1 * B 4 + 1 * B 5 + 1 * B 6) := by
  have h : ∀ x, evP [p ^ 0 * (1 * A 0 + 1 * A 1 + 1 * A 2 + 1 * A 3 + 1 * A 4 + 1 * A 5 + 1 * A 6), p ^ 1 * (6 * A 0 + 5 * A 1 + 4 * A 2 + 3 * A 3 + 2 * A 4 + 1 * A 5), p ^ 2 * (15 * A 0 + 10 * A 1 + 6 * A 2 + 3 * A 3 + 1 * A 4), p ^ 3 * (20 * A 0 + 10 * A 1 + 4 * A 2 + 1 * A 3), p ^ 4 * (15 * A 0 + 5 * A 1 + 1 * A 2), p ^ 5 * (6 * A 0 + 1 * A 1), p ^ 6 * (1 * A 0)] x = evP [K * (1 * B 0), K * (6 * B 0 + 1 * B 1), K * (15 * B 0 + 5 * B 1 + 1 * B 2), K * (20 * B 0 + 10 * B 1 + 4 * B 2 + 1 * B 3), K * (15 * B 0 + 10 * B 1 + 6 * B 2 + 3 * B 3 + 1 * B 4), K * (6 * B 0 + 5 * B 1 + 4 * B 2 + 3 * B 3 + 2 * B 4 + 1 * B 5), K * (1 * B 0 + 1 * B 1 + 1 * B 2 + 1 * B 3 + 1 * B 4 + 1 * B 5 + 1 * B 6)] x := fun x => by
    have := hx x
    simp only [mwE, show List.range (6 + 1) = [0, 1, 2, 3, 4, 5, 6] from rfl, sm_cons, sm_nil] at this
    simp only [evP]
    generalize A 0 = a0 at *
    generalize B 0 = b0 at *
    generalize A 1 = a1 at *
    generalize B 1 = b1 at *
    generalize A 2 = a2 at *
    generalize B 2 = b2 at *
    generalize A 3 = a3 at *
    generalize B 3 = b3 at *
    generalize A 4 = a4 at *
    generalize B 4 = b4 at *
    generalize A 5 = a5 at *
    generalize B 5 = b5 at *
    generalize A 6 = a6 at *
    generalize B 6 = b6 at *
    clear hx
    grind
  have g := poly_eq 7 _ _ (Nat.le_refl _) (Nat.le_refl _) 0 fun x _ => h x
  exact ⟨g 0, g 1, g 2, g 3, g 4, g 5, g 6⟩
theorem mds_3_1 {p : Int} (hp : 0 < p) {A B : Nat → Int} (hx : ∀ x, mwE p 3 A B (p ^ 1) x) (a0 : A 0 = 1) (b0 : B 0 = 1) (nB : ∀ i, 0 ≤ B i) (z : ∀ i, i < 2 → A (i + 1) = 0) :
    (∀ i, i < 1 → B (i + 1) = 0) ∧ A (2 + 1) = (p - 1) * 1 ∧ B (1 + 1) = (p - 1) * 3 := by
  obtain ⟨h0, h1, h2, _⟩ := mom_3 hx
  replace h0 := cut1 hp 0 h0
  replace h1 := cut0 hp 1 h1
  replace h2 := cut2 hp 1 h2
  have z1 : A 1 = 0 := z 0 (by decide)
  have z2 : A 2 = 0 := z 1 (by decide)
  have y1 := nB 1
  clear hx nB z hp
  simp only [a0, b0, z1, z2] at h0 h1 h2
  have x1 : B 1 = 0 := by lia
  simp only [x1] at h0 h2
  refine ⟨fun i hi => match i, hi with | 0, _ => x1, ?_, ?_⟩
  · show A 3 = _; lia
  · show B 2 = _; lia
theorem mds_3_2 {p : Int} (hp : 0 < p) {A B : Nat → Int} (hx : ∀ x, mwE p 3 A B (p ^ 2) x) (a0 : A 0 = 1) (b0 : B 0 = 1) (nB : ∀ i, 0 ≤ B i) (z : ∀ i, i < 1 → A (i + 1) = 0) :
    (∀ i, i < 2 → B (i + 1) = 0) ∧ A (1 + 1) = (p - 1) * 3 ∧ B (2 + 1) = (p - 1) * 1 := by
  obtain ⟨_, h1, h2, h3⟩ := mom_3 hx
  replace h1 := cut1 hp 1 h1
  replace h2 := cut0 hp 2 h2
  replace h3 := cut2 hp 2 h3
  have z1 : A 1 = 0 := z 0 (by decide)
  have y1 := nB 1
  have y2 := nB 2
  clear hx nB z hp
  simp only [a0, b0, z1] at h1 h2 h3
  have x1 : B 1 = 0 := by lia
  have x2 : B 2 = 0 := by lia
  simp only [x1, x2] at h1 h3
  refine ⟨fun i hi => match i, hi with | 0, _ => x1 | 1, _ => x2, ?_, ?_⟩
  · show A 2 = _; lia
  · show B 3 = _; lia
theorem mds_4_1 {p : Int} (hp : 0 < p) {A B : Nat → Int} (hx : ∀ x, mwE p 4 A B (p ^ 1) x) (a0 : A 0 = 1) (b0 : B 0 = 1) (nB : ∀ i, 0 ≤ B i) (z : ∀ i, i < 3 → A (i + 1) = 0) :
    (∀ i, i < 1 → B (i + 1) = 0) ∧ A (3 + 1) = (p - 1) * 1 ∧ B (1 + 1) = (p - 1) * 6 := by
  obtain ⟨h0, h1, h2, _, _⟩ := mom_4 hx
  replace h0 := cut1 hp 0 h0
  replace h1 := cut0 hp 1 h1
  replace h2 := cut2 hp 1 h2
  have z1 : A 1 = 0 := z 0 (by decide)
  have z2 : A 2 = 0 := z 1 (by decide)
  have z3 : A 3 = 0 := z 2 (by decide)
  have y1 := nB 1
  clear hx nB z hp
  simp only [a0, b0, z1, z2, z3] at h0 h1 h2
  have x1 : B 1 = 0 := by lia
  simp only [x1] at h0 h2
  refine ⟨fun i hi => match i, hi with | 0, _ => x1, ?_, ?_⟩
  · show A 4 = _; lia
  · show B 2 = _; lia
theorem mds_4_2 {p : Int} (hp : 0 < p) {A B : Nat → Int} (hx : ∀ x, mwE p 4 A B (p ^ 2) x) (a0 : A 0 = 1) (b0 : B 0 = 1) (nB : ∀ i, 0 ≤ B i) (z : ∀ i, i < 2 → A (i + 1) = 0) :
    (∀ i, i < 2 → B (i + 1) = 0) ∧ A (2 + 1) = (p - 1) * 4 ∧ B (2 + 1) = (p - 1) * 4 := by
  obtain ⟨_, h1, h2, h3, _⟩ := mom_4 hx
  replace h1 := cut1 hp 1 h1
  replace h2 := cut0 hp 2 h2
  replace h3 := cut2 hp 2 h3
  have z1 : A 1 = 0 := z 0 (by decide)
  have z2 : A 2 = 0 := z 1 (by decide)
  have y1 := nB 1
  have y2 := nB 2
  clear hx nB z hp
  simp only [a0, b0, z1, z2] at h1 h2 h3
  have x1 : B 1 = 0 := by lia
  have x2 : B 2 = 0 := by lia
  simp only [x1, x2] at h1 h3
  refine ⟨fun i hi => match i, hi with | 0, _ => x1 | 1, _ => x2, ?_, ?_⟩
  · show A 3 = _; lia
  · show B 3 = _; lia
theorem mds_4_3 {p : Int} (hp : 0 < p) {A B : Nat → Int} (hx : ∀ x, mwE p 4 A B (p ^ 3) x) (a0 : A 0 = 1) (b0 : B 0 = 1) (nB : ∀ i, 0 ≤ B i) (z : ∀ i, i < 1 → A (i + 1) = 0) :
    (∀ i, i < 3 → B (i + 1) = 0) ∧ A (1 + 1) = (p - 1) * 6 ∧ B (3 + 1) = (p - 1) * 1 := by
  obtain ⟨_, _, h2, h3, h4⟩ := mom_4 hx
  replace h2 := cut1 hp 2 h2
  replace h3 := cut0 hp 3 h3
  replace h4 := cut2 hp 3 h4
  have z1 : A 1 = 0 := z 0 (by decide)
  have y1 := nB 1
  have y2 := nB 2
  have y3 := nB 3
  clear hx nB z hp
  simp only [a0, b0, z1] at h2 h3 h4
  have x1 : B 1 = 0 := by lia
  have x2 : B 2 = 0 := by lia
  have x3 : B 3 = 0 := by lia
  simp only [x1, x2, x3] at h2 h4
  refine ⟨fun i hi => match i, hi with | 0, _ => x1 | 1, _ => x2 | 2, _ => x3, ?_, ?_⟩
  · show A 2 = _; lia
  · show B 4 = _; lia
theorem mds_5_1 {p : Int} (hp : 0 < p) {A B : Nat → Int} (hx : ∀ x, mwE p 5 A B (p ^ 1) x) (a0 : A 0 = 1) (b0 : B 0 = 1) (nB : ∀ i, 0 ≤ B i) (z : ∀ i, i < 4 → A (i + 1) = 0) :
    (∀ i, i < 1 → B (i + 1) = 0) ∧ A (4 + 1) = (p - 1) * 1 ∧ B (1 + 1) = (p - 1) * 10 := by
  obtain ⟨h0, h1, h2, _, _, _⟩ := mom_5 hx
  replace h0 := cut1 hp 0 h0
  replace h1 := cut0 hp 1 h1
  replace h2 := cut2 hp 1 h2
  have z1 : A 1 = 0 := z 0 (by decide)
  have z2 : A 2 = 0 := z 1 (by decide)
  have z3 : A 3 = 0 := z 2 (by decide)
  have z4 : A 4 = 0 := z 3 (by decide)
  have y1 := nB 1
  clear hx nB z hp
  simp only [a0, b0, z1, z2, z3, z4] at h0 h1 h2
  have x1 : B 1 = 0 := by lia
  simp only [x1] at h0 h2
  refine ⟨fun i hi => match i, hi with | 0, _ => x1, ?_, ?_⟩
  · show A 5 = _; lia
  · show B 2 = _; lia
theorem mds_5_2 {p : Int} (hp : 0 < p) {A B : Nat → Int} (hx : ∀ x, mwE p 5 A B (p ^ 2) x) (a0 : A 0 = 1) (b0 : B 0 = 1) (nB : ∀ i, 0 ≤ B i) (z : ∀ i, i < 3 → A (i + 1) = 0) :
    (∀ i, i < 2 → B (i + 1) = 0) ∧ A (3 + 1) = (p - 1) * 5 ∧ B (2 + 1) = (p - 1) * 10 := by
  obtain ⟨_, h1, h2, h3, _, _⟩ := mom_5 hx
  replace h1 := cut1 hp 1 h1
  replace h2 := cut0 hp 2 h2
  replace h3 := cut2 hp 2 h3
  have z1 : A 1 = 0 := z 0 (by decide)
  have z2 : A 2 = 0 := z 1 (by decide)
  have z3 : A 3 = 0 := z 2 (by decide)
  have y1 := nB 1
  have y2 := nB 2
  clear hx nB z hp
  simp only [a0, b0, z1, z2, z3] at h1 h2 h3
  have x1 : B 1 = 0 := by lia
  have x2 : B 2 = 0 := by lia
  simp only [x1, x2] at h1 h3
  refine ⟨fun i hi => match i, hi with | 0, _ => x1 | 1, _ => x2, ?_, ?_⟩
  · show A 4 = _; lia
  · show B 3 = _; lia
theorem mds_5_3 {p : Int} (hp : 0 < p) {A B : Nat → Int} (hx : ∀ x, mwE p 5 A B (p ^ 3) x) (a0 : A 0 = 1) (b0 : B 0 = 1) (nB : ∀ i, 0 ≤ B i) (z : ∀ i, i < 2 → A (i + 1) = 0) :
    (∀ i, i < 3 → B (i + 1) = 0) ∧ A (2 + 1) = (p - 1) * 10 ∧ B (3 + 1) = (p - 1) * 5 := by
  obtain ⟨_, _, h2, h3, h4, _⟩ := mom_5 hx
  replace h2 := cut1 hp 2 h2
  replace h3 := cut0 hp 3 h3
  replace h4 := cut2 hp 3 h4
  have z1 : A 1 = 0 := z 0 (by decide)
  have z2 : A 2 = 0 := z 1 (by decide)
  have y1 := nB 1
  have y2 := nB 2
  have y3 := nB 3
  clear hx nB z hp
  simp only [a0, b0, z1, z2] at h2 h3 h4
  have x1 : B 1 = 0 := by lia
  have x2 : B 2 = 0 := by lia
  have x3 : B 3 = 0 := by lia
  simp only [x1, x2, x3] at h2 h4
  refine ⟨fun i hi => match i, hi with | 0, _ => x1 | 1, _ => x2 | 2, _ => x3, ?_, ?_⟩
  · show A 3 = _; lia
  · show B 4 = _; lia
theorem mds_5_4 {p : Int} (hp : 0 < p) {A B : Nat → Int} (hx : ∀ x, mwE p 5 A B (p ^ 4) x) (a0 : A 0 = 1) (b0 : B 0 = 1) (nB : ∀ i, 0 ≤ B i) (z : ∀ i, i < 1 → A (i + 1) = 0) :
    (∀ i, i < 4 → B (i + 1) = 0) ∧ A (1 + 1) = (p - 1) * 10 ∧ B (4 + 1) = (p - 1) * 1 := by
  obtain ⟨_, _, _, h3, h4, h5⟩ := mom_5 hx
  replace h3 := cut1 hp 3 h3
  replace h4 := cut0 hp 4 h4
  replace h5 := cut2 hp 4 h5
  have z1 : A 1 = 0 := z 0 (by decide)
  have y1 := nB 1
  have y2 := nB 2
  have y3 := nB 3
  have y4 := nB 4
  clear hx nB z hp
  simp only [a0, b0, z1] at h3 h4 h5
  have x1 : B 1 = 0 := by lia
  have x2 : B 2 = 0 := by lia
  have x3 : B 3 = 0 := by lia
  have x4 : B 4 = 0 := by lia
  simp only [x1, x2, x3, x4] at h3 h5
  refine ⟨fun i hi => match i, hi with | 0, _ => x1 | 1, _ => x2 | 2, _ => x3 | 3, _ => x4, ?_, ?_⟩
  · show A 2 = _; lia
  · show B 5 = _; lia
theorem mds_6_1 {p : Int} (hp : 0 < p) {A B : Nat → Int} (hx : ∀ x, mwE p 6 A B (p ^ 1) x) (a0 : A 0 = 1) (b0 : B 0 = 1) (nB : ∀ i, 0 ≤ B i) (z : ∀ i, i < 5 → A (i + 1) = 0) :
    (∀ i, i < 1 → B (i + 1) = 0) ∧ A (5 + 1) = (p - 1) * 1 ∧ B (1 + 1) = (p - 1) * 15 := by
  obtain ⟨h0, h1, h2, _, _, _, _⟩ := mom_6 hx
  replace h0 := cut1 hp 0 h0
  replace h1 := cut0 hp 1 h1
  replace h2 := cut2 hp 1 h2
  have z1 : A 1 = 0 := z 0 (by decide)
  have z2 : A 2 = 0 := z 1 (by decide)
  have z3 : A 3 = 0 := z 2 (by decide)
  have z4 : A 4 = 0 := z 3 (by decide)
  have z5 : A 5 = 0 := z 4 (by decide)
  have y1 := nB 1
  clear hx nB z hp
  simp only [a0, b0, z1, z2, z3, z4, z5] at h0 h1 h2
  have x1 : B 1 = 0 := by lia
  simp only [x1] at h0 h2
  refine ⟨fun i hi => match i, hi with | 0, _ => x1, ?_, ?_⟩
  · show A 6 = _; lia
  · show B 2 = _; lia
theorem mds_6_2 {p : Int} (hp : 0 < p) {A B : Nat → Int} (hx : ∀ x, mwE p 6 A B (p ^ 2) x) (a0 : A 0 = 1) (b0 : B 0 = 1) (nB : ∀ i, 0 ≤ B i) (z : ∀ i, i < 4 → A (i + 1) = 0) :
    (∀ i, i < 2 → B (i + 1) = 0) ∧ A (4 + 1) = (p - 1) * 6 ∧ B (2 + 1) = (p - 1) * 20 := by
  obtain ⟨_, h1, h2, h3, _, _, _⟩ := mom_6 hx
  replace h1 := cut1 hp 1 h1
  replace h2 := cut0 hp 2 h2
  replace h3 := cut2 hp 2 h3
  have z1 : A 1 = 0 := z 0 (by decide)
  have z2 : A 2 = 0 := z 1 (by decide)
  have z3 : A 3 = 0 := z 2 (by decide)
  have z4 : A 4 = 0 := z 3 (by decide)
  have y1 := nB 1
  have y2 := nB 2
  clear hx nB z hp
  simp only [a0, b0, z1, z2, z3, z4] at h1 h2 h3
  have x1 : B 1 = 0 := by lia
  have x2 : B 2 = 0 := by lia
  simp only [x1, x2] at h1 h3
  refine ⟨fun i hi => match i, hi with | 0, _ => x1 | 1, _ => x2, ?_, ?_⟩
  · show A 5 = _; lia
  · show B 3 = _; lia
theorem mds_6_3 {p : Int} (hp : 0 < p) {A B : Nat → Int} (hx : ∀ x, mwE p 6 A B (p ^ 3) x) (a0 : A 0 = 1) (b0 : B 0 = 1) (nB : ∀ i, 0 ≤ B i) (z : ∀ i, i < 3 → A (i + 1) = 0) :
    (∀ i, i < 3 → B (i + 1) = 0) ∧ A (3 + 1) = (p - 1) * 15 ∧ B (3 + 1) = (p - 1) * 15 := by
  obtain ⟨_, _, h2, h3, h4, _, _⟩ := mom_6 hx
  replace h2 := cut1 hp 2 h2
  replace h3 := cut0 hp 3 h3
  replace h4 := cut2 hp 3 h4
  have z1 : A 1 = 0 := z 0 (by decide)
  have z2 : A 2 = 0 := z 1 (by decide)
  have z3 : A 3 = 0 := z 2 (by decide)
  have y1 := nB 1
  have y2 := nB 2
  have y3 := nB 3
  clear hx nB z hp
  simp only [a0, b0, z1, z2, z3] at h2 h3 h4
  have x1 : B 1 = 0 := by lia
  have x2 : B 2 = 0 := by lia
  have x3 : B 3 = 0 := by lia
  simp only [x1, x2, x3] at h2 h4
  refine ⟨fun i hi => match i, hi with | 0, _ => x1 | 1, _ => x2 | 2, _ => x3, ?_, ?_⟩
  · show A 4 = _; lia
  · show B 4 = _; lia
theorem mds_6_4 {p : Int} (hp : 0 < p) {A B : Nat → Int} (hx : ∀ x, mwE p 6 A B (p ^ 4) x) (a0 : A 0 = 1) (b0 : B 0 = 1) (nB : ∀ i, 0 ≤ B i) (z : ∀ i, i < 2 → A (i + 1) = 0) :
    (∀ i, i < 4 → B (i + 1) = 0) ∧ A (2 + 1) = (p - 1) * 20 ∧ B (4 + 1) = (p - 1) * 6 := by
  obtain ⟨_, _, _, h3, h4, h5, _⟩ := mom_6 hx
  replace h3 := cut1 hp 3 h3
  replace h4 := cut0 hp 4 h4
  replace h5 := cut2 hp 4 h5
  have z1 : A 1 = 0 := z 0 (by decide)
  have z2 : A 2 = 0 := z 1 (by decide)
  have y1 := nB 1
  have y2 := nB 2
  have y3 := nB 3
  have y4 := nB 4
  clear hx nB z hp
  simp only [a0, b0, z1, z2] at h3 h4 h5
  have x1 : B 1 = 0 := by lia
  have x2 : B 2 = 0 := by lia
  have x3 : B 3 = 0 := by lia
  have x4 : B 4 = 0 := by lia
  simp only [x1, x2, x3, x4] at h3 h5
  refine ⟨fun i hi => match i, hi with | 0, _ => x1 | 1, _ => x2 | 2, _ => x3 | 3, _ => x4, ?_, ?_⟩
  · show A 3 = _; lia
  · show B 5 = _; lia
theorem mds_6_5 {p : Int} (hp : 0 < p) {A B : Nat → Int} (hx : ∀ x, mwE p 6 A B (p ^ 5) x) (a0 : A 0 = 1) (b0 : B 0 = 1) (nB : ∀ i, 0 ≤ B i) (z : ∀ i, i < 1 → A (i + 1) = 0) :
    (∀ i, i < 5 → B (i + 1) = 0) ∧ A (1 + 1) = (p - 1) * 15 ∧ B (5 + 1) = (p - 1) * 1 := by
  obtain ⟨_, _, _, _, h4, h5, h6⟩ := mom_6 hx
  replace h4 := cut1 hp 4 h4
  replace h5 := cut0 hp 5 h5
  replace h6 := cut2 hp 5 h6
  have z1 : A 1 = 0 := z 0 (by decide)
  have y1 := nB 1
  have y2 := nB 2
  have y3 := nB 3
  have y4 := nB 4
  have y5 := nB 5
  clear hx nB z hp
  simp only [a0, b0, z1] at h4 h5 h6
  have x1 : B 1 = 0 := by lia
  have x2 : B 2 = 0 := by lia
  have x3 : B 3 = 0 := by lia
  have x4 : B 4 = 0 := by lia
  have x5 : B 5 = 0 := by lia
  simp only [x1, x2, x3, x4, x5] at h4 h6
  refine ⟨fun i hi => match i, hi with | 0, _ => x1 | 1, _ => x2 | 2, _ => x3 | 3, _ => x4 | 4, _ => x5, ?_, ?_⟩
  · show A 2 = _; lia
  · show B 6 = _; lia
end Mine
end
section
set_option linter.unusedVariables false
set_option linter.unusedSectionVars false
namespace Mine
theorem wt_zero {n : Nat} {w : List Int} (h : w.length = n) : wtOf n w = 0 ↔ w = List.replicate n 0 := by
  unfold wtOf
  have hc := List.count_le_length (a := (0 : Int)) (l := w)
  constructor
  · intro z
    have : w.count 0 = w.length := by lia
    rw [List.count_eq_length] at this
    exact List.eq_replicate_iff.mpr ⟨h, fun b hb => (this b hb).symm⟩
  · rintro rfl
    rw [List.count_replicate_self]; lia
/-- one word has no number that is not 0 -/
theorem weights_zero {n : Nat} {C : List (List Int)} (nd : C.Nodup) (hl : ∀ c ∈ C, c.length = n) (h0 : List.replicate n 0 ∈ C) : (weightsS C n).getD 0 0 = 1 := by
  rw [weights_get C n 0 (by lia)]
  refine (sm_congr fun w hw => ?_).trans (sm_single (fun _ => (1 : Int)) nd h0)
  show (if wtOf n w = 0 then (1 : Int) else 0) = if w = List.replicate n 0 then 1 else 0
  by_cases q : wtOf n w = 0
  · rw [if_pos q, if_pos ((wt_zero (hl w hw)).mp q)]
  · rw [if_neg q, if_neg (fun z => q ((wt_zero (hl w hw)).mpr z))]

theorem mds_all {p : Int} {n : Nat} (hpn : (p, n) ∈ pairsL) (size : Nat) (h0 : 0 < size) (h1 : size < n) (u v : List Int) (hu : u.length = n + 1) (hv : v.length = n + 1) (nv : ∀ i, 0 ≤ v.getD i 0) (u0 : u.getD 0 0 = 1) (v0 : v.getD 0 0 = 1) (hx : ∀ x, mwE p n (fun j => u.getD j 0) (fun j => v.getD j 0) (p ^ size) x) (hz : (u.take (n - size + 1)).drop 1 = List.replicate (n - size) 0) :
    leastS u n p (n - size + 1) = true ∧ leastS v n p (size + 1) = true := by
  have hp : 0 < p := by have := (pairs_cases hpn).1; lia
  have hz := (zrow (by lia)).mp hz
  have key : (∀ i, i < size → v.getD (i + 1) 0 = 0) ∧ u.getD (n - size + 1) 0 = (p - 1) * (binS n n).getD (n - size + 1) 0 ∧ v.getD (size + 1) 0 = (p - 1) * (binS n n).getD (size + 1) 0 := by
    have hn : n = 3 ∨ n = 4 ∨ n = 5 ∨ n = 6 := by
      have : ∀ q ∈ pairsL, q.2 = 3 ∨ q.2 = 4 ∨ q.2 = 5 ∨ q.2 = 6 := by decide
      exact this _ hpn
    clear hpn hu hv
    rcases hn with rfl | rfl | rfl | rfl
    · have hs : size = 1 ∨ size = 2 := by lia
      rcases hs with rfl | rfl
      · exact mds_3_1 hp hx u0 v0 nv hz
      · exact mds_3_2 hp hx u0 v0 nv hz
    · have hs : size = 1 ∨ size = 2 ∨ size = 3 := by lia
      rcases hs with rfl | rfl | rfl
      · exact mds_4_1 hp hx u0 v0 nv hz
      · exact mds_4_2 hp hx u0 v0 nv hz
      · exact mds_4_3 hp hx u0 v0 nv hz
    · have hs : size = 1 ∨ size = 2 ∨ size = 3 ∨ size = 4 := by lia
      rcases hs with rfl | rfl | rfl | rfl
      · exact mds_5_1 hp hx u0 v0 nv hz
      · exact mds_5_2 hp hx u0 v0 nv hz
      · exact mds_5_3 hp hx u0 v0 nv hz
      · exact mds_5_4 hp hx u0 v0 nv hz
    · have hs : size = 1 ∨ size = 2 ∨ size = 3 ∨ size = 4 ∨ size = 5 := by lia
      rcases hs with rfl | rfl | rfl | rfl | rfl
      · exact mds_6_1 hp hx u0 v0 nv hz
      · exact mds_6_2 hp hx u0 v0 nv hz
      · exact mds_6_3 hp hx u0 v0 nv hz
      · exact mds_6_4 hp hx u0 v0 nv hz
      · exact mds_6_5 hp hx u0 v0 nv hz
  exact ⟨least_of hu (by lia) hz rfl key.2.1, least_of hv (by lia) key.1 rfl key.2.2⟩
theorem law_mds {p : Int} {n : Nat} {made : List (List Int)} (hpn : (p, n) ∈ pairsL) (hm : OkRows p n made) (size : Nat) (hs : size = n - (baseS p n made).length) (h0 : 0 < size) (h1 : size < n) (hz : ((weightsS (codeS p n made) n).take (n - size + 1)).drop 1 = List.replicate (n - size) 0) :
    leastS (weightsS (codeS p n made) n) n p (n - size + 1) = true ∧ leastS (weightsS (dualS p n made) n) n p (size + 1) = true := by
  have hp := (pairs_cases hpn).1
  have P := pair_code hp hm
  have P2 := pair_dual hp hm
  obtain ⟨b1, b2, _, _, b5⟩ := base_facts hp hm
  have z1 : List.replicate n 0 ∈ codeS p n made := words_zero hp hm
  have z2 : List.replicate n 0 ∈ dualS p n made := words_zero hp b1
  have hK : ((codeS p n made).length : Int) = p ^ size := by
    have hc := card_code hp hm
    have hd : ((dualS p n made).length : Int) = p ^ (n - size) := by
      rw [dual_len hp hm, show n - size = (baseS p n made).length by lia]
      rcases hp with rfl | rfl | rfl <;> exact Int.natCast_pow _ _
    have hn : p ^ n = p ^ size * p ^ (n - size) := by
      rw [← Int.pow_add]; congr 1; lia
    rw [hd, hn] at hc
    refine Int.eq_of_mul_eq_mul_right ?_ hc
    have : 0 < p ^ (n - size) := Int.pow_pos (by lia)
    lia
  refine mds_all hpn size h0 h1 _ _ (wtA_len _ _ _) (wtA_len _ _ _) (fun i => ?_) (weights_zero P.ndC (fun c hc => (P.okC c hc).1) z1) (weights_zero P2.ndC (fun c hc => (P2.okC c hc).1) z2) (fun x => ?_) hz
  · by_cases hi : i < (weightsS (dualS p n made) n).length
    · exact (wtA_bound _ _ _ _ (getD_mem hi)).1
    · rw [getD_out (by lia)]; exact Int.le_refl 0
  · rw [← hK]; exact mwb hp P x
theorem all_plain : ∀ (p : Int) (n : Nat) (made : List (List Int)), (p, n) ∈ pairsL → OkRows p n made → 1 ≤ made.length → made.length ≤ 3 → LawP p n made := fun p n made hpn hm _ _ => by
  have hp := (pairs_cases hpn).1
  obtain ⟨b1, b2, b3, _, _⟩ := base_facts hp hm
  have z1 : List.replicate n 0 ∈ codeS p n made := words_zero hp hm
  have z2 : List.replicate n 0 ∈ dualS p n made := words_zero hp b1
  exact {
    ok := b1
    len := b2
    orth := fun r hr m hmm => by rw [Int.fmod_eq_emod_of_nonneg _ (by lia)]; exact b3 r hr m hmm
    within := fun lot hl => law_within hp hm lot hl
    mw1 := law_mw hpn (pair_code hp hm) (List.length_pos_of_mem z1)
    mw2 := law_mw hpn (pair_dual hp hm) (List.length_pos_of_mem z2)
    mds := fun size hs h0 h1 hz => law_mds hpn hm size hs h0 h1 hz }
end Mine
end
section
open PySem PySem.W PySem.Calls PyProof.Rows
set_option maxRecDepth 100000
namespace Mine
noncomputable def freeB (q : Program) (l : List Str) : Bool := bnames.all fun x => !startupNames.contains x && !l.contains x && !((recsOf q).map (·.name)).contains x && !((litsOf q).map (·.1)).contains x && !((clssOf q l).map (·.name)).contains x && x != "__name__"
theorem freeB_spec {q : Program} {l : List Str} (h : freeB q l = true) : ∀ x ∈ bnames, x ∉ startupNames ∧ x ∉ l ∧ x ∉ (recsOf q).map (·.name) ∧ x ∉ (litsOf q).map (·.1) ∧ x ∉ (clssOf q l).map (·.name) ∧ x ≠ "__name__" := fun x hx => by
  have := List.all_eq_true.mp h x hx
  simp only [Bool.and_eq_true, Bool.not_eq_true', bne_iff_ne, ne_eq] at this
  obtain ⟨⟨⟨⟨⟨h1, h2⟩, h3⟩, h4⟩, h5⟩, h6⟩ := this
  have z : ∀ {l : List Str}, l.contains x = false → x ∉ l := fun h q => by
    rw [List.contains_iff_mem.mpr q] at h; cases h
  exact ⟨z h1, z h2, z h3, z h4, z h5, h6⟩
theorem glb_of_top {q : Program} {l : List Str} {mean : ExcName → Option Value} {mg mb : Str → Option Value} {h : Heap} {p : Program} {w : World} (T : Top q l mean mg mb h) (hr : recsOf q = defsL) (hf : freeB q l = true) : GlbH ⟨p, w, mg, mb, defsL, h⟩ h :=
  ⟨T.g, T.b, T.nolimit, fun x hx => by
    obtain ⟨h1, h2, h3, h4, h5, h6⟩ := freeB_spec hf x hx
    exact ⟨T.free x h1 h2 h3 h4 h5, T.builtins x h6⟩, fun d hd => T.fn d (by rw [hr]; exact hd)⟩

theorem intsAre_reps {h : Heap} {X : List Addr} : ∀ {vs : List Value} {ns : List Int}, IntsAre vs ns → Reps h X vs (intsD ns)
  | _, _, .nil => .nil
  | _, _, .cons n t r => .cons (.int _ _) (intsAre_reps r)

theorem finish {w : World} {s₁ : Shared} {mg mb : Str → Option Value} {fa la : Addr} {vs : List Value} {ns : List Int} {P : Params} {c : ClaimW} {cl : Str → Option Addr} {mean : ExcName → Option Value} {args : List WData}
    (GH : GlbH ⟨PySem.Challenge.pw_xm0113_01, w, mg, mb, defsL, s₁.heap⟩ s₁.heap) (hg : s₁.gens = #[]) (hmg : mg ("law" : Str) = some (.ref fa)) (hL : s₁.heap.IsList la vs.toArray) (hI : IntsAre vs ns)
    (hW : Well P s₁.heap (.ref la) (ofPy (.list (ns.map .int)))) (hl : ns.length ≤ 63) (hn : ∀ cls, c.raises args cls = false) (hp : c.post args (.bool true) args = true) {E : Value → Shared → Prop} :
    wpAny (model PySem.Challenge.pw_xm0113_01 w) callerA (call (.ref fa) [.ref la]) (fun v s' => GoodWG c cl mean args s₁ (.ok (.ret v)) s') E s₁ := by
  have hrep : Rep s₁.heap [] (.ref la) (.list (intsD ns)) := by
    generalize hd : ofPy (.list (ns.map .int)) = d at hW
    have hd' : d = .list (ofPys (ns.map .int)) := by rw [← hd]; rfl
    rw [hd'] at hW
    cases hW with
    | @list a vs' xs hget hall =>
      obtain ⟨o, ho, _, n, hdat⟩ := hL
      rw [hget] at ho
      cases ho
      have : vs' = vs := by
        have := congrArg (fun d => match d with | Data.seq v _ => v.toList | _ => []) hdat
        simpa using this
      subst this
      exact .list la vs' _ _ (fun h => nomatch h) hget (intsAre_reps hI)
  have hGood : Good ⟨PySem.Challenge.pw_xm0113_01, w, mg, mb, defsL, s₁.heap⟩ := ⟨rfl⟩
  refine wpAny_mono (law_ok hGood (k := 0) ns (by omega) all_plain callerA [] s₁ E fa [.ref la] ⟨rfl, by decide, by decide⟩ ⟨GH, fun _ _ e => e⟩ (fun _ h => nomatch h) (fun _ h => nomatch h) hmg (.cons hrep .nil) (fun _ _ h => nomatch h)) (fun v s' x => ?_) fun _ _ x => x
  obtain ⟨hv, hm, _⟩ := x
  cases rep_bool hv
  obtain ⟨⟨h', tk, hs⟩, hk⟩ := hm
  refine GoodW.toG ⟨.inl ⟨.bool true, .bool true, [], rfl, hn, .bool true, hp, fun _ => ⟨List.nodup_nil, fun _ h => nomatch h⟩⟩, fun b o e => hk.2 b o (fun h => nomatch h) e, by rw [hs], by rw [hs]; exact hg⟩
end Mine
end
open PySem PySem.W PySem.Calls PyProof.Rows
namespace Mine
noncomputable def isDefS (s : Stmt) : Bool := match s with
  | .FunctionDef .. => true
  | _ => false
noncomputable def viewP : Program := { PySem.Challenge.pw_xm0113_01 with main := { PySem.Challenge.pw_xm0113_01.main with body := PySem.Challenge.pw_xm0113_01.main.body.filter isDefS } }
set_option maxRecDepth 100000 in
set_option maxHeartbeats 8000000 in
theorem left_ok : LeftO PySem.Challenge.rw_xm0113_01.row.prog viewP [] (fun s => xlAt viewP [] s && recOk (RowW.records PySem.Challenge.rw_xm0113_01.row.toRowW) s) (Hook.obs Hook.none) (Hook.val Hook.none) 1292 := fun w => by kernel_rfl
end Mine
set_option maxRecDepth 100000 in
set_option maxHeartbeats 8000000 in
theorem PySem.Challenge.cw_xm0113_01_holds : PySem.Challenge.rw_xm0113_01.Holds := by
  w_on; o_law
  refine holds_open (q := Mine.viewP) (loose := []) (Xt := fun s => xlAt Mine.viewP [] s && recOk (RowW.records PySem.Challenge.rw_xm0113_01.row.toRowW) s) (XP := XL Mine.viewP []) (Yf := Hook.obs Hook.none) (Ya := Hook.val Hook.none) (YP := Hook.says Hook.none) (N := 1292) Mine.left_ok (Hook.of Hook.none) (Hook.keeps Hook.none) (fun s e => xl_of s (Bool.and_eq_true_iff.mp e).1) XL.keeps (by rfl) (by rfl) (by rfl) (fun s e => recFacts_of (Bool.and_eq_true_iff.mp e).2) (by rfl) (by assumption) (by decide +kernel) ⟨rfl, rfl, rfl, rfl, rfl, by decide +kernel⟩ ?hw ?hc
  case hw => w_witness2
  intro w s₀ s₁ mg mb G Y fa o pm cd doc dV kV ho hd' hcd hD hmg hg args vals as hpre hlay hrd hwl hlo
  have T := G.T
  have GH := Mine.glb_of_top (p := PySem.Challenge.pw_xm0113_01) (w := w) T (by kernel_rfl) (by kernel_rfl)
  clear hd' hD G Y ho hcd T
  wrow_args hpre hlay hrd hwl hlo
  rename_i ns _ _ _ _ _ _ _ la vs _ hL _ hW _ hI _ hlen _
  refine Mine.finish GH hg hmg hL hI hW (by omega) ?_ ?_
  · intro cls; rfl
  · wrow_post

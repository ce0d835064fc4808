import PyProof.Rows.All
import Wide.All
import OpenK.AllK
import Wide.FinOn
import Lean
import PySem.Challenge.RW_oj0069_01
open PySem PySem.W PyProof.Rows PySem.Calls
set_option Elab.async false
set_option maxRecDepth 100000
set_option linter.all false
set_option bootstrap.genMatcherCode false
set_option genSizeOf false
set_option tactic.hygienic false
local macro_rules | `(tactic| omega) => `(tactic| first | rfl | assumption | lia | omega (config := {}))

set_option maxHeartbeats 200000
namespace Mine

noncomputable abbrev Txt := List Nat
noncomputable abbrev toS (x : Txt) : Str := ⟨x.toArray⟩

inductive V where
  | none
  | bool (b : Bool)
  | int (i : Int)
  | str (x : Txt)
  | tup (vs : List V)
  | ref (l : Nat)
  deriving Inhabited

inductive O where
  | ro (vs : List V)
  | list (vs : List V)
  | dict (es : List (Txt × V))
  | inst (fs : List V)
  deriving Inhabited

noncomputable abbrev Al := List (Addr × Addr)

mutual
inductive VRep (al : Al) (h : Heap) : Value → V → Prop
  | none : VRep al h .none .none
  | bool (b : Bool) : VRep al h (.bool b) (.bool b)
  | int (i : Int) (t : Tok) : VRep al h (.int i t) (.int i)
  | str (x : Txt) (t : Tok) : VRep al h (.str (toS x) t) (.str x)
  | tup {a : Addr} {items : Array Value} {vs : List V} : IsTup h a items → VReps al h items.toList vs → VRep al h (.ref a) (.tup vs)
  | ref {l : Nat} {p : Addr × Addr} : al[l]? = some p → VRep al h (.ref p.1) (.ref l)
inductive VReps (al : Al) (h : Heap) : List Value → List V → Prop
  | nil : VReps al h [] []
  | cons {v : Value} {vs : List Value} {d : V} {ds : List V} : VRep al h v d → VReps al h vs ds → VReps al h (v :: vs) (d :: ds)
end

theorem VRep.mono {al al' : Al} {h h' : Heap} (ha : ∀ (l : Nat) (p : Addr × Addr), al[l]? = some p → al'[l]? = some p) (hh : ∀ a items, IsTup h a items → IsTup h' a items) {v : Value} {d : V} (r : VRep al h v d) : VRep al' h' v d :=
  VRep.rec (motive_1 := fun v d _ => VRep al' h' v d) (motive_2 := fun vs ds _ => VReps al' h' vs ds) .none .bool .int .str (fun t _ ih => .tup (hh _ _ t) ih) (fun e => .ref (ha _ _ e)) .nil (fun _ _ a b => .cons a b) r
@[elab_as_elim] theorem VReps.ind {al : Al} {h : Heap} {P : List Value → List V → Prop} {vs : List Value} {ds : List V} (r : VReps al h vs ds) (nil : P [] []) (cons : ∀ {v vs d ds}, VRep al h v d → VReps al h vs ds → P vs ds → P (v :: vs) (d :: ds)) : P vs ds :=
  VReps.rec (motive_1 := fun _ _ _ => True) (motive_2 := fun vs ds _ => P vs ds) trivial (fun _ => trivial) (fun _ _ => trivial) (fun _ _ => trivial) (fun _ _ _ => trivial) (fun _ => trivial) nil (fun a b _ c => cons a b c) r
theorem VReps.mono {al al' : Al} {h h' : Heap} (ha : ∀ (l : Nat) (p : Addr × Addr), al[l]? = some p → al'[l]? = some p) (hh : ∀ a items, IsTup h a items → IsTup h' a items) {vs : List Value} {ds : List V} (r : VReps al h vs ds) : VReps al' h' vs ds :=
  r.ind .nil fun rv _ ih => .cons (rv.mono ha hh) ih
section
variable {al : Al} {h : Heap} {vs : List Value} {ds : List V}
theorem VReps.length (r : VReps al h vs ds) : vs.length = ds.length := r.ind rfl fun _ _ ih => congrArg Nat.succ ih
theorem VReps.get0 (r : VReps al h vs ds) : ∀ (i : Nat) (d : V), ds[i]? = some d → ∃ v, vs[i]? = some v ∧ VRep al h v d := by
  refine r.ind (fun _ _ e => nomatch e) fun rv _ ih i d e => ?_
  cases i with
  | zero => cases e; exact ⟨_, rfl, rv⟩
  | succ i => exact ih i d e
theorem VReps.get (r : VReps al h vs ds) {i : Nat} {d : V} (e : ds[i]? = some d) : ∃ v, vs[i]? = some v ∧ VRep al h v d := r.get0 i d e
theorem VReps.append {ws : List Value} {es : List V} (r : VReps al h vs ds) (y : VReps al h ws es) : VReps al h (vs ++ ws) (ds ++ es) := r.ind y fun rv _ ih => .cons rv ih
theorem VReps.drop (r : VReps al h vs ds) : ∀ n, VReps al h (vs.drop n) (ds.drop n) :=
  r.ind (fun n => by rw [List.drop_nil, List.drop_nil]; exact .nil) fun rv rs ih n => by
    cases n with
    | zero => exact .cons rv rs
    | succ n => exact ih n
theorem VReps.take (r : VReps al h vs ds) : ∀ n, VReps al h (vs.take n) (ds.take n) :=
  r.ind (fun n => by rw [List.take_nil, List.take_nil]; exact .nil) fun rv rs ih n => by
    cases n with
    | zero => exact .nil
    | succ n => exact .cons rv (ih n)
theorem VReps.reverse (r : VReps al h vs ds) : VReps al h vs.reverse ds.reverse := r.ind .nil fun rv _ ih => by rw [List.reverse_cons, List.reverse_cons]; exact ih.append (.cons rv .nil)
end

structure Cx where
  prog : Program
  w : World
  K : Frag
  base : Shared
  C : Addr
  names : List Str
  mg : Str → Option Value
  mb : Str → Option Value

structure Cx.Ok (X : Cx) : Prop where
  inK : X.K.In X.base.heap
  g : X.base.heap.Ns mainGlobals X.mg
  b : X.base.heap.Ns builtinsNs X.mb
  nolimit : X.base.heap.NoLimit
  builtins : ∀ x : Str, x ≠ "__name__" → X.mb x = bootBuiltins x

noncomputable def ORep (X : Cx) (al : Al) (h : Heap) (o : O) (p : Addr × Addr) : Prop := match o with
  | .ro vs => ∃ items, h.IsList p.1 items ∧ VReps al h items.toList vs ∧ p.2 = p.1
  | .list vs => ∃ items, h.PlainList p.1 items ∧ VReps al h items.toList vs ∧ p.2 = p.1
  | .dict es => p.2 = p.1 ∧ (p.1 == sysModules) = false ∧ ∃ (kvs : List (Str × Value)), h.DictOf (strKind X.prog X.w) p.1 kvs ∧ kvs.map (·.1) = es.map (fun q => toS q.1) ∧ VReps al h (kvs.map (·.2)) (es.map (·.2))
  | .inst fs => h.get? p.1 = some (instObj X.C p.2) ∧ ∃ (ws : List DictEntry) (n : Nat), h.get? p.2 = some (dictOf ws n) ∧ ws.length = fs.length ∧ fs.length ≤ X.names.length ∧
      ∀ (i : Nat) (d : V), fs[i]? = some d → ∃ (e : DictEntry) (x : Str) (t : Tok), ws[i]? = some e ∧ X.names[i]? = some x ∧ e.key = .str x t ∧ VRep al h e.val d

noncomputable def InA (al : Al) (b : Addr) : Prop := ∃ (i : Nat) (p : Addr × Addr), al[i]? = some p ∧ (b = p.1 ∨ b = p.2)

noncomputable def O.isRo : O → Bool
  | .ro _ => true
  | _ => false

structure Inv (X : Cx) (σ : List O) (al : Al) (s : Shared) : Prop where
  same : ∃ h tk, s = { X.base with heap := h, toks := tk }
  keep : ∀ b o, X.base.heap.get? b = some o → s.heap.get? b = some o
  len : al.length = σ.length
  objs : ∀ (i : Nat) (o : O) (p : Addr × Addr), σ[i]? = some o → al[i]? = some p → ORep X al s.heap o p
  apart : ∀ (i j : Nat) (p q : Addr × Addr), al[i]? = some p → al[j]? = some q → i ≠ j → p.1 ≠ q.1 ∧ p.1 ≠ q.2 ∧ p.2 ≠ q.1 ∧ p.2 ≠ q.2
  fresh : ∀ (i : Nat) (o : O) (p : Addr × Addr), σ[i]? = some o → al[i]? = some p → o.isRo = true ∨ (X.base.heap.get? p.1 = none ∧ X.base.heap.get? p.2 = none)

structure Step (al : Al) (s : Shared) (al' : Al) (s' : Shared) (own : Addr → Prop) : Prop where
  pre : ∀ (l : Nat) (p : Addr × Addr), al[l]? = some p → al'[l]? = some p
  new : ∀ (l : Nat) (p : Addr × Addr), al'[l]? = some p → al.length ≤ l → (s.heap.get? p.1 = none ∨ own p.1) ∧ (s.heap.get? p.2 = none ∨ own p.2)
  keep : ∀ b o, s.heap.get? b = some o → ¬ InA al b → ¬ own b → s'.heap.get? b = some o
  ex : ∀ b o, s.heap.get? b = some o → ¬ own b → ∃ o', s'.heap.get? b = some o'
  tup : ∀ a items, IsTup s.heap a items → IsTup s'.heap a items

noncomputable def NoOwn : Addr → Prop := fun _ => False

theorem Step.refl {al : Al} {s : Shared} {own : Addr → Prop} : Step al s al s own :=
  ⟨fun _ _ e => e, fun l p e hl => absurd (List.getElem?_eq_some_iff.mp e).1 (Nat.not_lt.mpr hl), fun _ _ e _ _ => e, fun _ o e _ => ⟨o, e⟩, fun _ _ x => x⟩
theorem Step.tok {al : Al} {s : Shared} {own : Addr → Prop} (t : Nat) : Step al s al { s with toks := t } own :=
  ⟨fun _ _ e => e, fun l p e hl => absurd (List.getElem?_eq_some_iff.mp e).1 (Nat.not_lt.mpr hl), fun _ _ e _ _ => e, fun _ o e _ => ⟨o, e⟩, fun _ _ x => x⟩

theorem Step.outA {al al' : Al} {s s' : Shared} {own : Addr → Prop} (x : Step al s al' s' own) {b : Addr} {o : Obj} (hb : s.heap.get? b = some o) (hn : ¬ InA al b) (ho : ¬ own b) : ¬ InA al' b := by
  rintro ⟨i, p, e, hp⟩
  by_cases hi : i < al.length
  · have e1 : al[i]? = some al[i] := List.getElem?_eq_getElem hi
    have e2 := x.pre _ _ e1
    rw [e] at e2
    cases e2
    exact hn ⟨i, _, e1, hp⟩
  · have := x.new i p e (Nat.not_lt.mp hi)
    rcases hp with rfl | rfl
    · rcases this.1 with h | h
      · rw [h] at hb; cases hb
      · exact ho h
    · rcases this.2 with h | h
      · rw [h] at hb; cases hb
      · exact ho h
theorem Step.old {al al' : Al} {s s' : Shared} {own : Addr → Prop} (x : Step al s al' s' own) {b : Addr} (h : s'.heap.get? b = none ∨ own b) : s.heap.get? b = none ∨ own b := by
  rcases h with h | h
  · by_cases ho : own b
    · exact .inr ho
    · cases e : s.heap.get? b with
      | none => exact .inl rfl
      | some o =>
        obtain ⟨o', e'⟩ := x.ex b o e ho
        rw [h] at e'; cases e'
  · exact .inr h

theorem Step.trans {al al' al'' : Al} {s s' s'' : Shared} {own : Addr → Prop} (x : Step al s al' s' own) (y : Step al' s' al'' s'' own) : Step al s al'' s'' own where
  pre l p e := y.pre l p (x.pre l p e)
  new l p e hl := by
    by_cases h : al'.length ≤ l
    · have := y.new l p e h
      exact ⟨x.old this.1, x.old this.2⟩
    · have e1 : al'[l]? = some al'[l] := List.getElem?_eq_getElem (Nat.not_le.mp h)
      have e2 := y.pre _ _ e1
      rw [e] at e2
      cases e2
      exact x.new l _ e1 hl
  keep b o e hn ho := y.keep b o (x.keep b o e hn ho) (x.outA e hn ho) ho
  ex b o e ho := by
    obtain ⟨o', e'⟩ := x.ex b o e ho
    exact y.ex b o' e' ho
  tup a items z := y.tup a items (x.tup a items z)

theorem Step.weak {al al' : Al} {s s' : Shared} {own : Addr → Prop} (x : Step al s al' s' NoOwn) : Step al s al' s' own :=
  ⟨x.pre, fun l p e hl => ⟨(x.new l p e hl).1.imp (fun z => z) fun z => z.elim, (x.new l p e hl).2.imp (fun z => z) fun z => z.elim⟩, fun b o e hn _ => x.keep b o e hn (fun z => z), fun b o e _ => x.ex b o e fun z => z, x.tup⟩

theorem VRep.step {al al' : Al} {s s' : Shared} {own : Addr → Prop} {v : Value} {d : V} (r : VRep al s.heap v d) (x : Step al s al' s' own) : VRep al' s'.heap v d := r.mono x.pre x.tup
theorem VReps.step {al al' : Al} {s s' : Shared} {own : Addr → Prop} {v : List Value} {d : List V} (r : VReps al s.heap v d) (x : Step al s al' s' own) : VReps al' s'.heap v d := r.mono x.pre x.tup

theorem ORep.notTup {X : Cx} {al : Al} {h : Heap} {o : O} {p : Addr × Addr} (r : ORep X al h o p) {a : Addr} {items : Array Value} (t : IsTup h a items) : a ≠ p.1 ∧ a ≠ p.2 := by
  obtain ⟨ob, ho, hc, n, hd⟩ := t
  have two {q : Addr} {o' : Obj} (e : h.get? q = some o') (hne : o'.cls ≠ .type "tuple") : a ≠ q := by
    rintro rfl
    rw [ho] at e
    cases e
    exact hne hc
  cases o with
  | ro vs =>
    obtain ⟨its, ⟨o', e, hc', _⟩, _, h2⟩ := r
    have := two e (by rw [hc']; intro z; simp at z)
    exact ⟨this, by rw [h2]; exact this⟩
  | list vs =>
    obtain ⟨its, ⟨n', e⟩, _, h2⟩ := r
    have := two e (by intro z; simp at z)
    exact ⟨this, by rw [h2]; exact this⟩
  | dict es =>
    obtain ⟨h2, _, kvs, ⟨o', _, _, e, hx, _⟩, _⟩ := r
    have := two e (by rw [hx.1]; intro z; simp at z)
    exact ⟨this, by rw [h2]; exact this⟩
  | inst fs =>
    obtain ⟨e1, ws, n', e, _⟩ := r
    exact ⟨two e1 (by intro z; simp [instObj] at z), two e (by intro z; simp [dictOf] at z)⟩

theorem Inv.outTup {X : Cx} {σ : List O} {al : Al} {s : Shared} (I : Inv X σ al s) {a : Addr} {items : Array Value} (t : IsTup s.heap a items) : ¬ InA al a := by
  rintro ⟨i, p, e, hp⟩
  have hi : i < σ.length := by rw [← I.len]; exact (List.getElem?_eq_some_iff.mp e).1
  have := (I.objs i _ p (List.getElem?_eq_getElem hi) e).notTup t
  rcases hp with h | h
  · exact this.1 h
  · exact this.2 h

theorem ORep.has {X : Cx} {al : Al} {h : Heap} {o : O} {p : Addr × Addr} (r : ORep X al h o p) : (∃ ob, h.get? p.1 = some ob) ∧ ∃ ob, h.get? p.2 = some ob := by
  cases o with
  | ro vs => obtain ⟨its, ⟨o', e, _⟩, _, h2⟩ := r; exact ⟨⟨_, e⟩, _, by rw [h2]; exact e⟩
  | list vs => obtain ⟨its, ⟨o', e⟩, _, h2⟩ := r; exact ⟨⟨_, e⟩, _, by rw [h2]; exact e⟩
  | dict es => obtain ⟨h2, _, kvs, ⟨o', _, _, e, _⟩, _⟩ := r; exact ⟨⟨_, e⟩, _, by rw [h2]; exact e⟩
  | inst fs => obtain ⟨e1, ws, n', e, _⟩ := r; exact ⟨⟨_, e1⟩, _, e⟩

theorem Inv.has {X : Cx} {σ : List O} {al : Al} {s : Shared} (I : Inv X σ al s) {b : Addr} (hb : InA al b) : ∃ ob, s.heap.get? b = some ob := by
  obtain ⟨i, p, e, hp⟩ := hb
  have hi : i < σ.length := by rw [← I.len]; exact (List.getElem?_eq_some_iff.mp e).1
  have := (I.objs i _ p (List.getElem?_eq_getElem hi) e).has
  rcases hp with rfl | rfl
  · exact this.1
  · exact this.2
theorem Inv.baseNone {X : Cx} {σ : List O} {al : Al} {s : Shared} (I : Inv X σ al s) {b : Addr} (h : s.heap.get? b = none) : X.base.heap.get? b = none := by
  cases e : X.base.heap.get? b with
  | none => rfl
  | some o => rw [I.keep b o e] at h; cases h
theorem get?_size (h : Heap) : h.get? h.objs.size = none := by
  cases e : h.get? h.objs.size with
  | none => rfl
  | some o => exact absurd (Heap.lt_size e) (Nat.lt_irrefl _)

theorem ORep.keeps {X : Cx} {al al' : Al} {h h' : Heap} {o : O} {p : Addr × Addr} (r : ORep X al h o p) (ha : ∀ (l : Nat) (q : Addr × Addr), al[l]? = some q → al'[l]? = some q) (ht : ∀ a items, IsTup h a items → IsTup h' a items)
    (h1 : ∀ ob, h.get? p.1 = some ob → h'.get? p.1 = some ob) (h2 : ∀ ob, h.get? p.2 = some ob → h'.get? p.2 = some ob) : ORep X al' h' o p := by
  cases o with
  | ro vs => obtain ⟨its, ⟨o', e, r'⟩, rs, e2⟩ := r; exact ⟨its, ⟨o', h1 _ e, r'⟩, rs.mono ha ht, e2⟩
  | list vs => obtain ⟨its, ⟨o', e⟩, rs, e2⟩ := r; exact ⟨its, ⟨o', h1 _ e⟩, rs.mono ha ht, e2⟩
  | dict es =>
    obtain ⟨e2, lo, kvs, ⟨o', a, b, e, hr⟩, hk, hv⟩ := r
    exact ⟨e2, lo, kvs, ⟨o', a, b, h1 _ e, hr⟩, hk, hv.mono ha ht⟩
  | inst fs =>
    obtain ⟨e1, ws, n', e, hl, hn, hall⟩ := r
    refine ⟨h1 _ e1, ws, n', h2 _ e, hl, hn, fun i d hd => ?_⟩
    obtain ⟨en, x, t, a1, a2, a3, a4⟩ := hall i d hd
    exact ⟨en, x, t, a1, a2, a3, a4.mono ha ht⟩

section
variable {X : Cx} {σ : List O} {al : Al} {s : Shared}

theorem Inv.tok (I : Inv X σ al s) (t : Nat) : Inv X σ al { s with toks := t } where
  same := by obtain ⟨h, tk, rfl⟩ := I.same; exact ⟨h, t, rfl⟩
  keep := I.keep
  len := I.len
  objs := I.objs
  apart := I.apart
  fresh := I.fresh

theorem IsTup.pushed {h : Heap} (o : Obj) (a : Addr) (items : Array Value) (t : IsTup h a items) : IsTup (h.push o) a items := t.push o

theorem Inv.push (I : Inv X σ al s) (o : Obj) (t : Nat) : Inv X σ al { s with heap := s.heap.push o, toks := t } where
  same := by obtain ⟨h, tk, rfl⟩ := I.same; exact ⟨_, t, rfl⟩
  keep b o' e := Heap.get?_push_of_some _ (I.keep b o' e)
  len := I.len
  objs i ob p e1 e2 := (I.objs i ob p e1 e2).keeps (fun _ _ e => e) (IsTup.pushed o) (fun _ e => Heap.get?_push_of_some _ e) (fun _ e => Heap.get?_push_of_some _ e)
  apart := I.apart
  fresh := I.fresh
theorem Step.push {own : Addr → Prop} (o : Obj) (t : Nat) : Step al s al { s with heap := s.heap.push o, toks := t } own :=
  ⟨fun _ _ e => e, fun l p e hl => absurd (List.getElem?_eq_some_iff.mp e).1 (Nat.not_lt.mpr hl), fun _ _ e _ _ => Heap.get?_push_of_some _ e, fun _ ob e _ => ⟨ob, Heap.get?_push_of_some _ e⟩, IsTup.pushed o⟩

theorem get?_push_lt {h : Heap} {o : Obj} {b : Addr} (hb : b < h.objs.size) : (h.push o).get? b = h.get? b := by
  cases e : h.get? b with
  | some o' => exact Heap.get?_push_of_some _ e
  | none =>
    cases e' : (h.push o).get? b with
    | none => rfl
    | some o' =>
      exfalso
      obtain ⟨e1, e2⟩ := Heap.get?_some_iff.mp e'
      have : h.get? b = some o' := Heap.get?_some_iff.mpr ⟨by
        cases h
        simp only [Heap.push, Array.getElem?_push] at e1
        rw [if_neg (Nat.ne_of_lt hb)] at e1
        exact e1, e2⟩
      rw [this] at e; cases e

theorem Inv.other (I : Inv X σ al s) {b : Addr} {h' : Heap} (hs : Heap.SameBut b s.heap h') (hA : ¬ InA al b) (hb : X.base.heap.get? b = none) (hT : ∀ items, ¬ IsTup s.heap b items) (t : Nat) : Inv X σ al { s with heap := h', toks := t } where
  same := by obtain ⟨h, tk, rfl⟩ := I.same; exact ⟨_, t, rfl⟩
  keep c o e := (hs.2 c (by rintro rfl; rw [hb] at e; cases e)).trans (I.keep c o e)
  len := I.len
  objs i ob p e1 e2 := (I.objs i ob p e1 e2).keeps (fun _ _ e => e)
    (fun a items z => z.extBut hs.extBut (by rintro rfl; exact hT _ z))
    (fun _ e => (hs.2 _ (by rintro rfl; exact hA ⟨i, p, e2, .inl rfl⟩)).trans e) (fun _ e => (hs.2 _ (by rintro rfl; exact hA ⟨i, p, e2, .inr rfl⟩)).trans e)
  apart := I.apart
  fresh := I.fresh
theorem sameBut_ex {b : Addr} {h h' : Heap} (hs : Heap.SameBut b h h') {ob : Obj} (hb : h'.get? b = some ob) : ∀ c o, h.get? c = some o → ∃ o', h'.get? c = some o' := by
  intro c o e
  by_cases hc : c = b
  · subst hc; exact ⟨_, hb⟩
  · exact ⟨o, (hs.2 c hc).trans e⟩
theorem Step.other {own : Addr → Prop} {b : Addr} {h' : Heap} (hs : Heap.SameBut b s.heap h') (ho : own b) (hT : ∀ items, ¬ IsTup s.heap b items) {ob : Obj} (hb : h'.get? b = some ob) (t : Nat) : Step al s al { s with heap := h', toks := t } own :=
  ⟨fun _ _ e => e, fun l p e hl => absurd (List.getElem?_eq_some_iff.mp e).1 (Nat.not_lt.mpr hl), fun c _ e _ hn => (hs.2 c (by rintro rfl; exact hn ho)).trans e, fun c o e _ => sameBut_ex hs hb c o e,
   fun a items z => z.extBut hs.extBut (by rintro rfl; exact hT _ z)⟩

theorem Inv.extOther (I : Inv X σ al s) {b : Addr} {h' : Heap} (hs : Heap.ExtBut b s.heap h') (hA : ¬ InA al b) (hb : X.base.heap.get? b = none) (hT : ∀ items, ¬ IsTup s.heap b items) (t : Nat) : Inv X σ al { s with heap := h', toks := t } where
  same := by obtain ⟨h, tk, rfl⟩ := I.same; exact ⟨_, t, rfl⟩
  keep c o e := hs c o (by rintro rfl; rw [hb] at e; cases e) (I.keep c o e)
  len := I.len
  objs i ob p e1 e2 := (I.objs i ob p e1 e2).keeps (fun _ _ e => e)
    (fun a items z => z.extBut hs (by rintro rfl; exact hT _ z))
    (fun _ e => hs _ _ (by rintro rfl; exact hA ⟨i, p, e2, .inl rfl⟩) e) (fun _ e => hs _ _ (by rintro rfl; exact hA ⟨i, p, e2, .inr rfl⟩) e)
  apart := I.apart
  fresh := I.fresh
theorem Step.extOther {own : Addr → Prop} {b : Addr} {h' : Heap} (hs : Heap.ExtBut b s.heap h') (ho : own b) (hT : ∀ items, ¬ IsTup s.heap b items) (t : Nat) : Step al s al { s with heap := h', toks := t } own :=
  ⟨fun _ _ e => e, fun l p e hl => absurd (List.getElem?_eq_some_iff.mp e).1 (Nat.not_lt.mpr hl), fun c o e _ hn => hs c o (by rintro rfl; exact hn ho) e, fun c o e hn => ⟨o, hs c o (by rintro rfl; exact hn ho) e⟩,
   fun a items z => z.extBut hs (by rintro rfl; exact hT _ z)⟩

set_option tactic.hygienic true in
theorem getElem?_concat {α : Type} (l : List α) (x : α) (i : Nat) : (l ++ [x])[i]? = if i = l.length then some x else l[i]? := by
  rw [List.getElem?_append]
  split
  · rename_i h; rw [if_neg (Nat.ne_of_lt h)]
  · rename_i h
    split
    · rename_i e; subst e; simp
    · rename_i e
      rw [List.getElem?_eq_none (by simp; omega), List.getElem?_eq_none (by omega)]

set_option tactic.hygienic true in
theorem Inv.join (I : Inv X σ al s) {o : O} {p : Addr × Addr} (r : ORep X al s.heap o p) (h1 : ¬ InA al p.1) (h2 : ¬ InA al p.2) (f1 : X.base.heap.get? p.1 = none) (f2 : X.base.heap.get? p.2 = none) : Inv X (σ ++ [o]) (al ++ [p]) s where
  same := I.same
  keep := I.keep
  len := by simp [I.len]
  objs i ob q e1 e2 := by
    have pre : ∀ (l : Nat) (q : Addr × Addr), al[l]? = some q → (al ++ [p])[l]? = some q := fun l q e => by
      rw [List.getElem?_append_left (List.getElem?_eq_some_iff.mp e).1]; exact e
    rw [getElem?_concat] at e1 e2
    rw [I.len] at e2
    split at e1
    · rename_i hi
      rw [if_pos hi] at e2
      cases e1; cases e2
      exact r.keeps pre (fun _ _ z => z) (fun _ e => e) (fun _ e => e)
    · rename_i hi
      rw [if_neg hi] at e2
      exact (I.objs i ob q e1 e2).keeps pre (fun _ _ z => z) (fun _ e => e) (fun _ e => e)
  apart i j q r' e1 e2 hij := by
    rw [getElem?_concat] at e1 e2
    split at e1
    · split at e2
      · omega
      · cases e1
        refine ⟨?_, ?_, ?_, ?_⟩ <;> intro z
        · exact h1 ⟨j, r', e2, .inl z⟩
        · exact h1 ⟨j, r', e2, .inr z⟩
        · exact h2 ⟨j, r', e2, .inl z⟩
        · exact h2 ⟨j, r', e2, .inr z⟩
    · split at e2
      · cases e2
        refine ⟨?_, ?_, ?_, ?_⟩ <;> intro z
        · exact h1 ⟨i, q, e1, .inl z.symm⟩
        · exact h2 ⟨i, q, e1, .inl z.symm⟩
        · exact h1 ⟨i, q, e1, .inr z.symm⟩
        · exact h2 ⟨i, q, e1, .inr z.symm⟩
      · exact I.apart i j q r' e1 e2 hij
  fresh i ob q e1 e2 := by
    rw [getElem?_concat] at e1 e2
    rw [I.len] at e2
    split at e1
    · rename_i hi; rw [if_pos hi] at e2; cases e2; exact .inr ⟨f1, f2⟩
    · rename_i hi; rw [if_neg hi] at e2; exact I.fresh i ob q e1 e2

theorem Step.join {own : Addr → Prop} {s₀ : Shared} {al₀ : Al} {p : Addr × Addr} (x : Step al₀ s₀ al s own) (f1 : s₀.heap.get? p.1 = none) (f2 : s₀.heap.get? p.2 = none) : Step al₀ s₀ (al ++ [p]) s own where
  pre l q e := by rw [List.getElem?_append_left (List.getElem?_eq_some_iff.mp (x.pre l q e)).1]; exact x.pre l q e
  new l q e hl := by
    rw [getElem?_concat] at e
    split at e
    · cases e; exact ⟨.inl f1, .inl f2⟩
    · exact x.new l q e hl
  keep := x.keep
  ex := x.ex
  tup := x.tup

theorem join_ref {p : Addr × Addr} {h : Heap} (hl : al.length = σ.length) : VRep (al ++ [p]) h (.ref p.1) (.ref σ.length) :=
  .ref (by rw [← hl, getElem?_concat, if_pos rfl])

theorem Inv.change (I : Inv X σ al s) {i : Nat} {o o' : O} {p : Addr × Addr} {b : Addr} {h' : Heap} (e : σ[i]? = some o) (ep : al[i]? = some p) (hb : b = p.1 ∨ b = p.2) (hro : o.isRo = false)
    (hs : Heap.SameBut b s.heap h') (r : ORep X al h' o' p) (t : Nat) : Inv X (σ.set i o') al { s with heap := h', toks := t } where
  same := by obtain ⟨h, tk, rfl⟩ := I.same; exact ⟨_, t, rfl⟩
  keep c ob e' := by
    refine (hs.2 c ?_).trans (I.keep c ob e')
    rintro rfl
    rcases I.fresh i o p e ep with z | z
    · rw [hro] at z; cases z
    · rcases hb with rfl | rfl
      · rw [z.1] at e'; cases e'
      · rw [z.2] at e'; cases e'
  len := by simp [I.len]
  objs j ob q e1 e2 := by
    by_cases hij : i = j
    · subst hij
      rw [List.getElem?_set_self (List.getElem?_eq_some_iff.mp e).1] at e1
      cases e1
      rw [ep] at e2; cases e2
      exact r
    · rw [List.getElem?_set_ne hij] at e1
      have ap := I.apart i j p q ep e2 hij
      have hb1 : q.1 ≠ b := by rcases hb with rfl | rfl; exact ap.1.symm; exact ap.2.2.1.symm
      have hb2 : q.2 ≠ b := by rcases hb with rfl | rfl; exact ap.2.1.symm; exact ap.2.2.2.symm
      exact (I.objs j ob q e1 e2).keeps (fun _ _ e => e) (fun a items z => z.extBut hs.extBut (by
        rintro rfl
        have := (I.objs i o p e ep).notTup z
        rcases hb with h | h
        · exact this.1 h
        · exact this.2 h)) (fun _ e => (hs.2 _ hb1).trans e) (fun _ e => (hs.2 _ hb2).trans e)
  apart := I.apart
  fresh j ob q e1 e2 := by
    by_cases hij : i = j
    · subst hij
      rw [ep] at e2; cases e2
      rcases I.fresh i o p e ep with z | z
      · rw [hro] at z; cases z
      · exact .inr z
    · rw [List.getElem?_set_ne hij] at e1
      exact I.fresh j ob q e1 e2
theorem Inv.changeStep (I : Inv X σ al s) {i : Nat} {o : O} {p : Addr × Addr} {b : Addr} {h' : Heap} (e : σ[i]? = some o) (ep : al[i]? = some p) (hb : b = p.1 ∨ b = p.2) (hs : Heap.SameBut b s.heap h') {ob : Obj} (hbo : h'.get? b = some ob) (t : Nat) (own : Addr → Prop) :
    Step al s al { s with heap := h', toks := t } own :=
  ⟨fun _ _ e => e, fun l p e hl => absurd (List.getElem?_eq_some_iff.mp e).1 (Nat.not_lt.mpr hl),
   fun c _ e' hA _ => (hs.2 c (by rintro rfl; exact hA ⟨i, p, ep, hb⟩)).trans e', fun c o e _ => sameBut_ex hs hbo c o e,
   fun a items z => z.extBut hs.extBut (by
    rintro rfl
    have := (I.objs i o p e ep).notTup z
    rcases hb with h | h
    · exact this.1 h
    · exact this.2 h)⟩
theorem Inv.at (I : Inv X σ al s) {i : Nat} {o : O} (e : σ[i]? = some o) : ∃ p, al[i]? = some p ∧ ORep X al s.heap o p := by
  have hi : i < al.length := by rw [I.len]; exact (List.getElem?_eq_some_iff.mp e).1
  exact ⟨_, List.getElem?_eq_getElem hi, I.objs i o _ e (List.getElem?_eq_getElem hi)⟩
theorem Inv.inK (ok : X.Ok) (I : Inv X σ al s) : X.K.In s.heap := fun a o e => I.keep a o (ok.inK a o e)
theorem Inv.globals (ok : X.Ok) (I : Inv X σ al s) : s.heap.Ns mainGlobals X.mg := ok.g.keeps I.keep
theorem Inv.builtinsNs (ok : X.Ok) (I : Inv X σ al s) : s.heap.Ns builtinsNs X.mb := ok.b.keeps I.keep
theorem Inv.nolimit (ok : X.Ok) (I : Inv X σ al s) : s.heap.NoLimit := ok.nolimit.keeps I.keep
end

end Mine
set_option maxHeartbeats 200000
namespace Mine

noncomputable def Gets {α : Type} (o : Option α) (Q : α → Prop) : Prop := match o with | some a => Q a | none => False
section
variable {α β : Type} {o : Option α} {Q : α → Prop}
theorem Gets.of {a : α} (h : o = some a) (q : Q a) : Gets o Q := by rw [h]; exact q
theorem Gets.bind {k : α → Option β} {Q : β → Prop} (g : Gets (o.bind k) Q) : Gets o (fun a => Gets (k a) Q) := by cases o; exact g; exact g
theorem Gets.mono {Q' : α → Prop} (g : Gets o Q) (h : ∀ a, Q a → Q' a) : Gets o Q' := by cases o; exact g; exact h _ g
theorem Gets.at (g : Gets o Q) : ∃ a, o = some a ∧ Q a := by cases o; exact g.elim; exact ⟨_, rfl, g⟩
theorem Gets.ite {c : Prop} [d : Decidable c] {a : Option β} {Q : β → Prop} (g : Gets (if c then a else none) Q) {G : Prop} (k : c → Gets a Q → G) : G := by cases d with | isTrue h => exact k h g | isFalse h => exact g.elim
theorem Gets.ifte {c : Prop} [d : Decidable c] {a b : Option β} {Q : β → Prop} (g : Gets (if c then a else b) Q) {G : Prop} (k : c → Gets a Q → G) (k2 : ¬ c → Gets b Q → G) : G := by cases d with | isTrue h => exact k h g | isFalse h => exact k2 h g
end

noncomputable def V.asInt : V → Option Int
  | .int i => Option.some i
  | _ => Option.none
noncomputable def V.asStr : V → Option Txt
  | .str i => Option.some i
  | _ => Option.none
noncomputable def V.asTup : V → Option (List V)
  | .tup i => Option.some i
  | _ => Option.none
noncomputable def V.asRef : V → Option Nat
  | .ref i => Option.some i
  | _ => Option.none
noncomputable def V.asBool : V → Option Bool
  | .bool i => Option.some i
  | _ => Option.none
noncomputable def O.asList : O → Option (List V)
  | .list vs => some vs
  | _ => Option.none
noncomputable def O.asInst : O → Option (List V)
  | .inst fs => some fs
  | _ => none
noncomputable def ins (σ : List O) (l : Nat) : Option (List V) := σ[l]?.bind O.asInst
noncomputable def O.asDict : O → Option (List (Txt × V))
  | .dict es => some es
  | _ => none
noncomputable def dct (σ : List O) (l : Nat) : Option (List (Txt × V)) := σ[l]?.bind O.asDict
noncomputable def lst (σ : List O) (l : Nat) : Option (List V) := σ[l]?.bind O.asList

section
variable {X : Cx} {σ : List O} {al : Al} {s : Shared} {h0 : Heap} {β : Type} {Q : β → Prop} {v : Value} {x : V} {P : Value → Prop}
@[elab_as_elim] theorem VRep.asInt {k : Int → Option β} (r : VRep al h0 v x) (g : Gets (x.asInt.bind k) Q) (p : ∀ i t, Gets (k i) Q → P (.int i t)) : P v := by
  cases r with
  | int i t => exact p i t g
  | _ => exact False.elim g
@[elab_as_elim] theorem VRep.asStr {k : Txt → Option β} (r : VRep al h0 v x) (g : Gets (x.asStr.bind k) Q) (p : ∀ i t, Gets (k i) Q → P (.str (toS i) t)) : P v := by
  cases r with
  | str i t => exact p i t g
  | _ => exact False.elim g
@[elab_as_elim] theorem VRep.asBool {k : Bool → Option β} (r : VRep al h0 v x) (g : Gets (x.asBool.bind k) Q) (p : ∀ i, Gets (k i) Q → P (.bool i)) : P v := by
  cases r with
  | bool i => exact p i g
  | _ => exact False.elim g
@[elab_as_elim] theorem VRep.asTup {k : List V → Option β} (r : VRep al h0 v x) (g : Gets (x.asTup.bind k) Q) (p : ∀ a items vs, IsTup h0 a items → VReps al h0 items.toList vs → items.size = vs.length → Gets (k vs) Q → P (.ref a)) : P v := by
  cases r with
  | tup h rs => exact p _ _ _ h rs rs.length g
  | _ => exact False.elim g
@[elab_as_elim] theorem VRep.asRef {k : Nat → Option β} (r : VRep al h0 v x) (g : Gets (x.asRef.bind k) Q) (p : ∀ (l : Nat) (q : Addr × Addr), al[l]? = some q → Gets (k l) Q → P (.ref q.1)) : P v := by
  cases r with
  | ref e => exact p _ _ e g
  | _ => exact False.elim g
theorem Inv.obj (I : Inv X σ al s) {l : Nat} {p : Addr × Addr} (e : al[l]? = some p) {k : O → Option β} (g : Gets (σ[l]?.bind k) Q) {G : Prop} (c : ∀ o, σ[l]? = some o → ORep X al s.heap o p → Gets (k o) Q → G) : G := by
  obtain ⟨o, h, g⟩ := g.bind.at
  exact c o h (I.objs l o p h e) g
theorem Inv.lst (I : Inv X σ al s) {l : Nat} {p : Addr × Addr} (e : al[l]? = some p) {k : List V → Option β} (g : Gets ((lst σ l).bind k) Q) {G : Prop}
    (c : ∀ items vs, σ[l]? = some (.list vs) → s.heap.PlainList p.1 items → VReps al s.heap items.toList vs → items.size = vs.length → Gets (k vs) Q → G) : G := by
  obtain ⟨vs, h, g⟩ := g.bind.at
  unfold Mine.lst at h
  rw [Option.bind_eq_some_iff] at h
  obtain ⟨o, h, h2⟩ := h
  cases o with
  | list ws =>
    cases h2
    obtain ⟨items, pl, rs, _⟩ := I.objs l _ p h e
    exact c _ _ h pl rs rs.length g
  | _ => cases h2
theorem Inv.dct (I : Inv X σ al s) {l : Nat} {p : Addr × Addr} (e : al[l]? = some p) {k : List (Txt × V) → Option β} (g : Gets ((dct σ l).bind k) Q) {G : Prop}
    (c : ∀ es kvs, σ[l]? = some (.dict es) → p.2 = p.1 → (p.1 == sysModules) = false → s.heap.DictOf (strKind X.prog X.w) p.1 kvs → kvs.map (·.1) = es.map (fun q => toS q.1) → VReps al s.heap (kvs.map (·.2)) (es.map (·.2)) → Gets (k es) Q → G) : G := by
  obtain ⟨vs, h, g⟩ := g.bind.at
  unfold Mine.dct at h
  rw [Option.bind_eq_some_iff] at h
  obtain ⟨o, h, h2⟩ := h
  cases o with
  | dict ws =>
    cases h2
    obtain ⟨h1, h2, kvs, h3, h4, h5⟩ := I.objs l _ p h e
    exact c _ _ h h1 h2 h3 h4 h5 g
  | _ => cases h2
theorem Inv.ins (I : Inv X σ al s) {l : Nat} {p : Addr × Addr} (e : al[l]? = some p) {k : List V → Option β} (g : Gets ((ins σ l).bind k) Q) {G : Prop}
    (c : ∀ fs, σ[l]? = some (.inst fs) → ORep X al s.heap (.inst fs) p → Gets (k fs) Q → G) : G := by
  obtain ⟨vs, h, g⟩ := g.bind.at
  unfold Mine.ins at h
  rw [Option.bind_eq_some_iff] at h
  obtain ⟨o, h, h2⟩ := h
  cases o with
  | inst ws =>
    cases h2
    exact c _ h (I.objs l _ p h e) g
  | _ => cases h2
end

noncomputable def arg1 : List V → Option V
  | [a] => some a
  | _ => none
noncomputable def arg2 : List V → Option (V × V)
  | [a, b] => some (a, b)
  | _ => none
noncomputable def arg3 : List V → Option (V × V × V)
  | [a, b, c] => some (a, b, c)
  | _ => none
section
variable {al : Al} {h0 : Heap} {β : Type} {Q : β → Prop} {vs : List Value} {ds : List V} {P : List Value → Prop}
@[elab_as_elim] theorem VReps.nil_e {β : Prop} (r : VReps al h0 vs []) (p : P []) : P vs := by cases r; exact p
@[elab_as_elim] theorem VReps.cons_e {d : V} (r : VReps al h0 vs (d :: ds)) (p : ∀ v vs, VRep al h0 v d → VReps al h0 vs ds → P (v :: vs)) : P vs := by cases r with | cons a b => exact p _ _ a b
@[elab_as_elim] theorem VReps.arg1 {k : V → Option β} (r : VReps al h0 vs ds) (g : Gets ((arg1 ds).bind k) Q) (p : ∀ v a, VRep al h0 v a → Gets (k a) Q → P [v]) : P vs := by
  match ds, g with
  | [], g => exact False.elim g
  | [a], g => exact r.cons_e fun v vs r1 r2 => r2.nil_e (β := True) (p v a r1 g)
  | _ :: _ :: _, g => exact False.elim g
@[elab_as_elim] theorem VReps.arg2 {k : V × V → Option β} (r : VReps al h0 vs ds) (g : Gets ((arg2 ds).bind k) Q) (p : ∀ v w a b, VRep al h0 v a → VRep al h0 w b → Gets (k (a, b)) Q → P [v, w]) : P vs := by
  match ds, g with
  | [], g => exact False.elim g
  | [a], g => exact False.elim g
  | [a, b], g => exact r.cons_e fun v vs r1 r2 => r2.cons_e fun w vs r2 r3 => r3.nil_e (β := True) (p v w a b r1 r2 g)
  | _ :: _ :: _ :: _, g => exact False.elim g
@[elab_as_elim] theorem VReps.arg3 {k : V × V × V → Option β} (r : VReps al h0 vs ds) (g : Gets ((arg3 ds).bind k) Q) (p : ∀ v w u a b c, VRep al h0 v a → VRep al h0 w b → VRep al h0 u c → Gets (k (a, b, c)) Q → P [v, w, u]) : P vs := by
  match ds, g with
  | [], g => exact False.elim g
  | [a], g => exact False.elim g
  | [a, b], g => exact False.elim g
  | [a, b, c], g => exact r.cons_e fun v vs r1 r2 => r2.cons_e fun w vs r2 r3 => r3.cons_e fun u vs r3 r4 => r4.nil_e (β := True) (p v w u a b c r1 r2 r3 g)
  | _ :: _ :: _ :: _ :: _, g => exact False.elim g
end
section
variable (a b c : V) (i : Int) (x : Txt) (vs : List V) (l : Nat) (q : Bool) (σ : List O) (es : List (Txt × V))
@[simp] theorem arg1_e : arg1 [a] = some a := rfl
@[simp] theorem arg2_e : arg2 [a, b] = some (a, b) := rfl
@[simp] theorem arg3_e : arg3 [a, b, c] = some (a, b, c) := rfl
@[simp] theorem asInt_e : (V.int i).asInt = some i := rfl
@[simp] theorem asStr_e : (V.str x).asStr = some x := rfl
@[simp] theorem asTup_e : (V.tup vs).asTup = some vs := rfl
@[simp] theorem asRef_e : (V.ref l).asRef = some l := rfl
@[simp] theorem asBool_e : (V.bool q).asBool = some q := rfl
@[simp] theorem asList_e : (O.list vs).asList = some vs := rfl
@[simp] theorem asDict_e : (O.dict es).asDict = some es := rfl
@[simp] theorem asInst_e : (O.inst vs).asInst = some vs := rfl
@[simp] theorem lst_e : lst σ l = σ[l]?.bind O.asList := rfl
@[simp] theorem dct_e : dct σ l = σ[l]?.bind O.asDict := rfl
@[simp] theorem ins_e : ins σ l = σ[l]?.bind O.asInst := rfl
end
end Mine
set_option maxHeartbeats 200000
namespace Mine

noncomputable abbrev Rho := List (Option V)
noncomputable abbrev St := List O
noncomputable abbrev DE := Rho → St → Option (V × St)
noncomputable abbrev DT := Rho → St → Option (Bool × St)

noncomputable def Own (env : Env) (b : Addr) : Prop := b = env.locals ∨ ∃ n, env.cells.lookup n = some b

structure FrameOk (X : Cx) (sc : Scope) (env : Env) (vars : List Str) (ρ : Rho) (al : Al) (h : Heap) : Prop where
  scope : env.scope = sc
  kind : sc.kind = .function
  glob : env.globals = mainGlobals
  blt : env.builtins = builtinsNs
  mc : ∃ (m cm : Str → Option Value), h.Ns env.locals m ∧ (∀ n c, env.cells.lookup n = some c → h.IsCell c (cm n)) ∧
    (∀ (i : Nat) (x : Str) (d : V), vars[i]? = some x → ρ[i]? = some (some d) → ∃ v, VRep al h v d ∧
      ((env.kindOf x = some .local ∧ m x = some v) ∨ (env.kindOf x = some .cell ∧ (env.cells.lookup x).isSome = true ∧ cm x = some v)))
  own : ∀ b, Own env b → ¬ InA al b ∧ X.base.heap.get? b = none
  kinds : ∀ (i : Nat) (x : Str), vars[i]? = some x → sc.names.lookup x = some .local ∨ (sc.names.lookup x = some .cell ∧ (env.cells.lookup x).isSome = true)
  sep : ∀ n c, env.cells.lookup n = some c → c ≠ env.locals ∧ ∀ n', env.cells.lookup n' = some c → n = n'
  nd : vars.Nodup

noncomputable def Room (d : Nat) (A : Around) : Prop := A.handled = none ∧ A.depth + d < 1000 ∧ A.units + 8 * d + 200 < 9900

noncomputable def PostE (X : Cx) (al : Al) (s : Shared) (r : V × St) (v : Value) (s' : Shared) : Prop := ∃ al', Inv X r.2 al' s' ∧ Step al s al' s' NoOwn ∧ VRep al' s'.heap v r.1
noncomputable def PostT (X : Cx) (al : Al) (s : Shared) (r : Bool × St) (b : Bool) (s' : Shared) : Prop := ∃ al', Inv X r.2 al' s' ∧ Step al s al' s' NoOwn ∧ b = r.1

noncomputable def SndE (X : Cx) (d : Nat) (sc : Scope) (vars : List Str) (e : Expr) (D : DE) : Prop :=
  ∀ (A : Around) (env : Env) (ρ : Rho) (σ : St) (al : Al) (s : Shared) (r : V × St) (E : Value → Shared → Prop), Room d A → FrameOk X sc env vars ρ al s.heap → Inv X σ al s → D ρ σ = some r →
    wpAny (model X.prog X.w) A (eval e env) (PostE X al s r) E s
noncomputable def SndT (X : Cx) (d : Nat) (sc : Scope) (vars : List Str) (e : Expr) (D : DT) : Prop :=
  ∀ (A : Around) (env : Env) (ρ : Rho) (σ : St) (al : Al) (s : Shared) (r : Bool × St) (E : Value → Shared → Prop), Room d A → FrameOk X sc env vars ρ al s.heap → Inv X σ al s → D ρ σ = some r →
    wpAny (model X.prog X.w) A (isTrue e env (eval e env)) (PostT X al s r) E s

section
variable {X : Cx} {d : Nat} {sc : Scope} {vars : List Str} {env : Env} {ρ : Rho} {σ : St} {al al' : Al} {s s' : Shared} {A : Around} {E : Value → Shared → Prop}

theorem FrameOk.stepO {own : Addr → Prop} (F : FrameOk X sc env vars ρ al s.heap) (St : Step al s al' s' own) (hd : ∀ b, Own env b → ¬ own b) : FrameOk X sc env vars ρ al' s'.heap where
  scope := F.scope
  kind := F.kind
  glob := F.glob
  blt := F.blt
  mc := by
    obtain ⟨m, cm, hn, hc, hv⟩ := F.mc
    refine ⟨m, cm, ?_, fun n c e => ?_, fun i x dd hx hr => ?_⟩
    · obtain ⟨o, es, ep, ho, r⟩ := hn
      exact ⟨o, es, ep, St.keep _ _ ho (F.own _ (.inl rfl)).1 (hd _ (.inl rfl)), r⟩
    · obtain ⟨o, ho, r⟩ := hc n c e
      exact ⟨o, St.keep _ _ ho (F.own _ (.inr ⟨n, e⟩)).1 (hd _ (.inr ⟨n, e⟩)), r⟩
    · obtain ⟨v, h1, h2⟩ := hv i x dd hx hr
      exact ⟨v, h1.step St, h2⟩
  own b hb := by
    obtain ⟨m, cm, hn, hc, hv⟩ := F.mc
    have := F.own b hb
    have hd' := hd b hb
    rcases hb with rfl | ⟨n, e⟩
    · obtain ⟨o, _, _, ho, _⟩ := hn
      exact ⟨St.outA ho this.1 hd', this.2⟩
    · obtain ⟨o, ho, _⟩ := hc n b e
      exact ⟨St.outA ho this.1 hd', this.2⟩
  kinds := F.kinds
  sep := F.sep
  nd := F.nd
theorem FrameOk.step (F : FrameOk X sc env vars ρ al s.heap) (St : Step al s al' s' NoOwn) : FrameOk X sc env vars ρ al' s'.heap := F.stepO St fun _ _ z => z
theorem FrameOk.has (F : FrameOk X sc env vars ρ al s.heap) {b : Addr} (hb : Own env b) : ∃ o, s.heap.get? b = some o := by
  obtain ⟨m, cm, hn, hc, hv⟩ := F.mc
  rcases hb with rfl | ⟨n, e⟩
  · obtain ⟨o, _, _, ho, _⟩ := hn; exact ⟨o, ho⟩
  · obtain ⟨o, ho, _⟩ := hc n b e; exact ⟨o, ho⟩

theorem PostE.pre {al₀ : Al} {s₀ : Shared} {r : V × St} {v : Value} (x : Step al₀ s₀ al s NoOwn) (p : PostE X al s r v s') : PostE X al₀ s₀ r v s' := by
  obtain ⟨al', I, st, rv⟩ := p; exact ⟨al', I, x.trans st, rv⟩
theorem PostT.pre {al₀ : Al} {s₀ : Shared} {r : Bool × St} {v : Bool} (x : Step al₀ s₀ al s NoOwn) (p : PostT X al s r v s') : PostT X al₀ s₀ r v s' := by
  obtain ⟨al', I, st, rv⟩ := p; exact ⟨al', I, x.trans st, rv⟩

theorem SndE.run {e : Expr} {D : DE} {r : V × St} {Q : Value → Shared → Prop} (S : SndE X d sc vars e D) (R : Room d A) (F : FrameOk X sc env vars ρ al s.heap) (I : Inv X σ al s) (hD : D ρ σ = some r)
    (k : ∀ v s' al', FrameOk X sc env vars ρ al' s'.heap → Inv X r.2 al' s' → Step al s al' s' NoOwn → VRep al' s'.heap v r.1 → Q v s') : wpAny (model X.prog X.w) A (eval e env) Q E s :=
  wpAny_mono (S A env ρ σ al s r E R F I hD) (fun v s' h => by obtain ⟨al', I', st, rv⟩ := h; exact k v s' al' (F.step st) I' st rv) fun _ _ x => x
theorem SndE.get {e : Expr} {D : DE} {Q : Value → Shared → Prop} (S : SndE X d sc vars e D) (R : Room d A) (F : FrameOk X sc env vars ρ al s.heap) (I : Inv X σ al s)
    (g : Gets (D ρ σ) fun r => ∀ v s' al', FrameOk X sc env vars ρ al' s'.heap → Inv X r.2 al' s' → Step al s al' s' NoOwn → VRep al' s'.heap v r.1 → Q v s') : wpAny (model X.prog X.w) A (eval e env) Q E s := by
  obtain ⟨r, h, g⟩ := g.at
  exact S.run R F I h g
theorem SndE.mk {e : Expr} {D : DE} (h : ∀ (A : Around) (env : Env) (ρ : Rho) (σ : St) (al : Al) (s : Shared) (Q E : Value → Shared → Prop), Room d A → FrameOk X sc env vars ρ al s.heap → Inv X σ al s → Gets (D ρ σ) (fun r => ∀ v s', PostE X al s r v s' → Q v s') →
    wpAny (model X.prog X.w) A (eval e env) Q E s) : SndE X d sc vars e D := fun A env ρ σ al s _ E R F I hD => h A env ρ σ al s _ E R F I (.of hD fun _ _ p => p)
theorem SndT.mk {e : Expr} {D : DT} (h : ∀ (A : Around) (env : Env) (ρ : Rho) (σ : St) (al : Al) (s : Shared) (Q : Bool → Shared → Prop) (E : Value → Shared → Prop), Room d A → FrameOk X sc env vars ρ al s.heap → Inv X σ al s → Gets (D ρ σ) (fun r => ∀ v s', PostT X al s r v s' → Q v s') →
    wpAny (model X.prog X.w) A (isTrue e env (eval e env)) Q E s) : SndT X d sc vars e D := fun A env ρ σ al s _ E R F I hD => h A env ρ σ al s _ E R F I (.of hD fun _ _ p => p)
theorem SndT.get {e : Expr} {D : DT} {Q : Bool → Shared → Prop} (S : SndT X d sc vars e D) (R : Room d A) (F : FrameOk X sc env vars ρ al s.heap) (I : Inv X σ al s)
    (g : Gets (D ρ σ) fun r => ∀ s' al', FrameOk X sc env vars ρ al' s'.heap → Inv X r.2 al' s' → Step al s al' s' NoOwn → Q r.1 s') : wpAny (model X.prog X.w) A (isTrue e env (eval e env)) Q E s := by
  obtain ⟨r, h, g⟩ := g.at
  exact wpAny_mono (S A env ρ σ al s r E R F I h) (fun v s' h => by obtain ⟨al', I', st, rfl⟩ := h; exact g s' al' (F.step st) I' st) fun _ _ x => x
theorem SndT.run {e : Expr} {D : DT} {r : Bool × St} {Q : Bool → Shared → Prop} (S : SndT X d sc vars e D) (R : Room d A) (F : FrameOk X sc env vars ρ al s.heap) (I : Inv X σ al s) (hD : D ρ σ = some r)
    (k : ∀ s' al', FrameOk X sc env vars ρ al' s'.heap → Inv X r.2 al' s' → Step al s al' s' NoOwn → Q r.1 s') : wpAny (model X.prog X.w) A (isTrue e env (eval e env)) Q E s :=
  wpAny_mono (S A env ρ σ al s r E R F I hD) (fun v s' h => by obtain ⟨al', I', st, rfl⟩ := h; exact k s' al' (F.step st) I' st) fun _ _ x => x
end

noncomputable def dLit (v : V) : DE := fun _ σ => some (v, σ)
noncomputable def dVar (i : Nat) : DE := fun ρ σ => ρ[i]?.bind fun o => o.bind fun v => some (v, σ)

section
variable {X : Cx} {d : Nat} {sc : Scope} {vars : List Str}
theorem SndE.int {i : Int} {k : Nat} {pos : Pos} : SndE X d sc vars (.Constant (.int i) k pos) (dLit (.int i)) := by
  intro A env ρ σ al s r E R F I hD
  cases hD
  exact wpAny_Constant_int ⟨al, I.tok _, Step.tok _, .int _ _⟩
theorem SndE.str {x : Str} {t : Txt} {k : Nat} {pos : Pos} (h : x = toS t) : SndE X d sc vars (.Constant (.str x) k pos) (dLit (.str t)) := by
  subst h
  intro A env ρ σ al s r E R F I hD
  cases hD
  exact Constant_str ⟨al, I.tok _, Step.tok _, .str _ _⟩
theorem SndE.bool {b : Bool} {k : Nat} {pos : Pos} : SndE X d sc vars (.Constant (.bool b) k pos) (dLit (.bool b)) := by
  intro A env ρ σ al s r E R F I hD
  cases hD
  exact fun _ _ _ => ⟨al, I, Step.refl, .bool _⟩
theorem SndE.none {k : Nat} {pos : Pos} : SndE X d sc vars (.Constant .none k pos) (dLit .none) := by
  intro A env ρ σ al s r E R F I hD
  cases hD
  exact fun _ _ _ => ⟨al, I, Step.refl, .none⟩
theorem load_sound {A : Around} {env : Env} {ρ : Rho} {σ : St} {al : Al} {s : Shared} {Q E : Value → Shared → Prop} {x : Str} {i : Nat} (F : FrameOk X sc env vars ρ al s.heap) (hx : vars[i]? = some x) (h : Gets (dVar i ρ σ) fun r => r.2 = σ → ∀ w, VRep al s.heap w r.1 → Q w s) : wpAny (model X.prog X.w) A (loadName env x) Q E s := by
  obtain ⟨m, cm, hn, hc, hvs⟩ := F.mc
  obtain ⟨o, h0, h⟩ := h.bind.at
  cases o with
  | none => exact False.elim h
  | some v =>
    obtain ⟨w, rw', e⟩ := hvs i x v hx h0
    rcases e with ⟨hl, hm⟩ | ⟨hl, hs, hm⟩
    · exact wpAny_loadName_local (by rw [F.scope]; exact F.kind) hl hn hm (h rfl w rw')
    · obtain ⟨c, hcc⟩ := Option.isSome_iff_exists.mp hs
      have := hc x c hcc
      rw [hm] at this
      exact wpAny_loadName_cell (by rw [F.scope]; exact F.kind) hl hcc this (h rfl w rw')
theorem SndE.var {x : Str} {pos : Pos} {i : Nat} (hx : vars[i]? = some x) (hd : (x == ("__debug__" : Str)) = false) : SndE X d sc vars (.Name x pos) (dVar i) := .mk fun A env ρ σ al s Q E R F I h =>
  wpAny_Name (load_sound F hx (h.mono fun r h e w rv => h _ _ ⟨al, by rw [e]; exact I, Step.refl, rv⟩)) hd
end

end Mine
set_option maxHeartbeats 200000
namespace Mine

noncomputable def vbin (op : Operator) (a b : V) (σ : St) : Option (V × St) := match op with
  | .Add => (match a with
    | .int i => b.asInt.bind fun j => some (.int (i + j), σ)
    | .str x => b.asStr.bind fun y => if x.length + y.length ≤ 16777216 then some (.str (x ++ y), σ) else none
    | .tup x => b.asTup.bind fun y => if x.length + y.length ≤ 16777216 then some (.tup (x ++ y), σ) else none
    | .ref l => (lst σ l).bind fun x => b.asRef.bind fun k => (lst σ k).bind fun y => if x.length + y.length ≤ 16777216 then some (.ref σ.length, σ ++ [.list (x ++ y)]) else none
    | _ => none)
  | .Sub => a.asInt.bind fun i => b.asInt.bind fun j => some (.int (i - j), σ)
  | .Mult => b.asInt.bind fun j => (match a with
    | .int i => if j.natAbs ≤ 1000 then some (.int (i * j), σ) else none
    | .str x => if x.length ≤ 64 ∧ 0 ≤ j ∧ j ≤ 64 then some (.str (List.replicate j.toNat x).flatten, σ) else none
    | .ref l => (lst σ l).bind fun x => if x.length ≤ 64 ∧ 0 ≤ j ∧ j ≤ 64 then some (.ref σ.length, σ ++ [.list (List.replicate j.toNat x).flatten]) else none
    | _ => none)
  | .FloorDiv => a.asInt.bind fun i => b.asInt.bind fun j => if 0 < j ∧ j < 1073741824 then some (.int (i / j), σ) else none
  | .Mod => a.asInt.bind fun i => b.asInt.bind fun j => if 0 < j then some (.int (i % j), σ) else none
  | .Pow => a.asInt.bind fun i => b.asInt.bind fun j => if 0 ≤ i ∧ i ≤ 64 ∧ 0 ≤ j ∧ j ≤ 64 then some (.int (i ^ j.toNat), σ) else none
  | _ => none

theorem toS_append (x y : Txt) : toS x ++ toS y = toS (x ++ y) := by
  show Str.append _ _ = _
  simp [Str.append]
theorem toS_inj {a b : Txt} (h : toS a = toS b) : a = b := congrArg (fun z : Str => z.cps.toList) h
theorem toS_length (x : Txt) : (toS x).length = x.length := by simp [Str.length]
theorem sizeLine_val : sizeLine = 16777216 := rfl

section
variable {X : Cx} {d : Nat} {sc : Scope} {vars : List Str} {env : Env} {ρ : Rho} {σ : St} {al al' : Al} {s s' : Shared} {A : Around} {E : Value → Shared → Prop}

set_option tactic.hygienic true in
theorem intBits_small {j : Int} (h : j.natAbs ≤ 1000) : Builtin.Int.intBits j ≤ 64 := by
  unfold Builtin.Int.intBits
  split
  · exact Nat.zero_le _
  · rename_i h0
    have hj : j.natAbs ≠ 0 := by
      intro z
      have : j = 0 := by omega
      subst this
      exact h0 rfl
    have := (Nat.log2_lt hj (k := 10)).mpr (by omega)
    omega

theorem Inv.newTup (I : Inv X σ al s) {items : Array Value} {vs : List V} (rs : VReps al s.heap items.toList vs) (t : Nat) (n : Nat := 0) :
    PostE X al s (.tup vs, σ) (.ref s.heap.objs.size) { s with heap := s.heap.push { cls := .type "tuple", data := .seq items n }, toks := t } :=
  ⟨al, I.push _ t, Step.push _ t, .tup ⟨_, Heap.get?_push_size _ rfl, rfl, n, rfl⟩ (rs.mono (fun _ _ e => e) (IsTup.pushed _))⟩
theorem Inv.newList (I : Inv X σ al s) {items : Array Value} {vs : List V} (rs : VReps al s.heap items.toList vs) (t : Nat) (n : Nat := 0) :
    PostE X al s (.ref σ.length, σ ++ [.list vs]) (.ref s.heap.objs.size) { s with heap := s.heap.push { cls := .type "list", data := .seq items n }, toks := t } := by
  have I' := I.push { cls := .type "list", data := .seq items n } t
  have hA : ¬ InA al s.heap.objs.size := fun z => by
    obtain ⟨o, e⟩ := I.has z
    rw [get?_size] at e; cases e
  refine ⟨al ++ [(s.heap.objs.size, s.heap.objs.size)], I'.join (o := .list vs) ⟨items, ⟨n, Heap.get?_push_size _ rfl⟩, rs.mono (fun _ _ e => e) (IsTup.pushed _), rfl⟩ hA hA (I.baseNone (get?_size _)) (I.baseNone (get?_size _)),
    (Step.push _ t).join (get?_size _) (get?_size _), ?_⟩
  rw [← I.len]
  exact .ref (p := (s.heap.objs.size, s.heap.objs.size)) (by rw [getElem?_concat, if_pos rfl])

theorem PostE.here {v : Value} {a : V} (I : Inv X σ al s) (r : VRep al s.heap v a) (t : Nat) : PostE X al s (a, σ) v { s with toks := t } := ⟨al, I.tok t, Step.tok t, r⟩
theorem PostE.here0 {v : Value} {a : V} (I : Inv X σ al s) (r : VRep al s.heap v a) : PostE X al s (a, σ) v s := ⟨al, I, Step.refl, r⟩

theorem isTup_list {h : Heap} {a : Addr} {items : Array Value} (t : IsTup h a items) : IsTup h a items.toList.toArray := by simpa using t

theorem flatten_foldl (x : Array Value) : ∀ (n : Nat) (acc : Array Value), (List.foldl (fun a b => a ++ b) acc (List.replicate n x)).toList = acc.toList ++ (List.replicate n x.toList).flatten
  | 0, acc => by simp
  | n + 1, acc => by rw [List.replicate_succ, List.foldl_cons, flatten_foldl x n]; simp [List.replicate_succ]
theorem flatten_foldlN (x : Array Nat) : ∀ (n : Nat) (acc : Array Nat), (List.foldl (fun a b => a ++ b) acc (List.replicate n x)).toList = acc.toList ++ (List.replicate n x.toList).flatten
  | 0, acc => by simp
  | n + 1, acc => by rw [List.replicate_succ, List.foldl_cons, flatten_foldlN x n]; simp [List.replicate_succ]
theorem VReps.rep {h : Heap} {vs : List Value} {ds : List V} (r : VReps al h vs ds) : ∀ n : Nat, VReps al h (List.replicate n vs).flatten (List.replicate n ds).flatten
  | 0 => by simpa using VReps.nil
  | n + 1 => by simp only [List.replicate_succ, List.flatten_cons]; exact r.append (VReps.rep r n)

set_option tactic.hygienic true in
theorem mul_toS (x : Txt) {n : Int} (h0 : 0 ≤ n) : Txt.mul (toS x) n = toS (List.replicate n.toNat x).flatten := by
  unfold PySem.Txt.mul
  split
  · have : n = 0 := by omega
    subst this
    rfl
  · split
    · rename_i h1 h2
      rw [Bool.or_eq_true, beq_iff_eq, beq_iff_eq] at h2
      rcases h2 with rfl | h2
      · simp
      · rw [toS_length] at h2
        have : x = [] := List.eq_nil_of_length_eq_zero h2
        subst this
        simp
    · show Str.mk _ = Str.mk _
      congr 1
      apply Array.ext'
      rw [flatten_foldlN]
      simp

theorem listAdd {l b : Addr} {its its2 : Array Value} {Q : Value → Shared → Prop} (hl : s.heap.PlainList l its) (hb : s.heap.PlainList b its2)
    (h : Q (.ref s.heap.objs.size) { s with heap := s.heap.push { cls := .type "list", data := .seq (its ++ its2) } }) (hsz : its.size + its2.size ≤ sizeLine) :
    wpAny (model X.prog X.w) A (binaryOp .Add (.ref l) (.ref b)) Q E s := by
  obtain ⟨n, ho⟩ := hl
  obtain ⟨n2, ho2⟩ := hb
  exact concat_meets ⟨_, ho, rfl⟩ ⟨_, ho2, rfl⟩ noFill_list_add seq_list_add PySem.F.slot_list_add PySem.F.entry_list_add (PySem.F.args_list_add_2 _ _) (list_addW l b its its2 n n2 none none #[] #[] hsz) ⟨ho, ho2, h⟩

theorem tupAdd {l b : Addr} {its its2 : Array Value} {xs ys : List V} (I : Inv X σ al s) (hl : IsTup s.heap l its) (hb : IsTup s.heap b its2) (rx : VReps al s.heap its.toList xs) (ry : VReps al s.heap its2.toList ys) (hsz : its.size + its2.size ≤ sizeLine) :
    wpAny (model X.prog X.w) A (binaryOp .Add (.ref l) (.ref b)) (PostE X al s (.tup (xs ++ ys), σ)) E s := by
  obtain ⟨⟨cls, dd, data, sl⟩, ho, hc, n, hd⟩ := id hl
  obtain ⟨⟨cls2, dd2, data2, sl2⟩, ho2, hc2, n2, hd2⟩ := id hb
  simp only at hc hd hc2 hd2
  subst hc hd hc2 hd2
  by_cases hv : its.isEmpty = true
  · have e : its = #[] := by simpa using hv
    subst e
    cases rx
    exact concat_meets ⟨_, ho, rfl⟩ ⟨_, ho2, rfl⟩ noFill_tuple_add seq_tuple_add PySem.F.slot_tuple_add PySem.F.entry_tuple_add (PySem.F.args_tuple_add_2 _ _)
      (tuple_addW0 l b #[] its2 n n2 dd dd2 sl sl2 rfl) ⟨ho, ho2, PostE.here0 I (.tup hb ry)⟩
  · by_cases hw : its2.isEmpty = true
    · have e : its2 = #[] := by simpa using hw
      subst e
      cases ry
      rw [List.append_nil]
      exact concat_meets ⟨_, ho, rfl⟩ ⟨_, ho2, rfl⟩ noFill_tuple_add seq_tuple_add PySem.F.slot_tuple_add PySem.F.entry_tuple_add (PySem.F.args_tuple_add_2 _ _)
        (tuple_addW1 l b its #[] n n2 dd dd2 sl sl2 hv rfl) ⟨ho, ho2, PostE.here0 I (.tup hl rx)⟩
    · exact concat_meets ⟨_, ho, rfl⟩ ⟨_, ho2, rfl⟩ noFill_tuple_add seq_tuple_add PySem.F.slot_tuple_add PySem.F.entry_tuple_add (PySem.F.args_tuple_add_2 _ _)
        (tuple_addW2 l b its its2 n n2 dd dd2 sl sl2 hv hw hsz) ⟨ho, ho2, I.newTup (by rw [Array.toList_append]; exact rx.append ry) _⟩

theorem listMul {l : Addr} {items : Array Value} {x : Int} {u : Tok} {Q : Value → Shared → Prop} (hl : s.heap.PlainList l items) (hlo : 0 ≤ x) (hhi : x ≤ 64) (hsz : items.size ≤ 64)
    (h : Q (.ref s.heap.objs.size) { s with heap := s.heap.push { cls := .type "list", data := .seq (List.foldl (fun x1 x2 => x1 ++ x2) #[] (List.replicate (if items.isEmpty = true then 0 else x.toNat) items)) } }) :
    wpAny (model X.prog X.w) A (binaryOp .Mult (.ref l) (.int x u)) Q E s := by
  obtain ⟨k, hl⟩ := hl
  have hp : items.size * x.toNat ≤ 64 * 64 := Nat.mul_le_mul hsz (by omega)
  exact wpAny_binaryOp_repeat_ref (T := "list") (U := "int") (by decide) ⟨_, hl, rfl⟩ (fun s' => typeIs_int s' x u) noFill_list_mul F.fills_int_mul F.slot_int_rmul repeat_list F.slot_int_index.lookup
    (call_meets F.slot_int_rmul (typeIs_int s x u) F.entry_int_rmul (F.args_int_rmul_2 _ _) (int___rmul___int_list x u l items k)
      ⟨hl, rfl, ⟨_, hl, rfl⟩, call_meets F.slot_list_mul ⟨_, hl, rfl⟩ F.entry_list_mul (F.args_list_mul_2 _ _)
        (AutoListH.list___mul___list_int_3 l items k x u (by simp [Builtin.List.listFitsIndex]; omega) (by omega) (by simp [Builtin.List.listTooLong, sizeLine]; omega))
        ⟨hl, h⟩⟩)

theorem mulList {l : Nat} {p : Addr × Addr} {items : Array Value} {xs : List V} {j : Int} {u : Tok} (I : Inv X σ al s) (hl : s.heap.PlainList p.1 items) (rs : VReps al s.heap items.toList xs) (hn : items.size = xs.length) (hj : xs.length ≤ 64 ∧ 0 ≤ j ∧ j ≤ 64) :
    wpAny (model X.prog X.w) A (binaryOp .Mult (.ref p.1) (.int j u)) (PostE X al s (.ref σ.length, σ ++ [.list (List.replicate j.toNat xs).flatten])) E s := by
  refine listMul hl hj.2.1 hj.2.2 (by rw [hn]; exact hj.1) (I.newList ?_ _)
  rw [flatten_foldl]
  cases he : items.isEmpty with
  | true =>
    have : items = #[] := by simpa using he
    subst this
    have := List.eq_nil_of_length_eq_zero hn.symm
    subst this
    rw [show (List.replicate j.toNat ([] : List V)).flatten = [] by simp]
    exact .nil
  | false => exact rs.rep _

theorem vbin_get {op : Operator} {a b : Value} {x y : V} {Q : Value → Shared → Prop} (I : Inv X σ al s) (ra : VRep al s.heap a x) (rb : VRep al s.heap b y) (h : Gets (vbin op x y σ) fun r => ∀ v s', PostE X al s r v s' → Q v s') :
    wpAny (model X.prog X.w) A (binaryOp op a b) Q E s := by
  cases op with
  | Add =>
    cases ra with
    | int i t => exact rb.asInt h fun j u h => PyProof.Rows.add_int (h _ _ (PostE.here I (.int _ _) _))
    | str x t => exact rb.asStr h fun y u h => h.ite fun c h => PyProof.Rows.add_str (fun t' tk => by rw [toS_append]; exact h _ _ (PostE.here I (.str _ _) _)) (by rw [toS_length, toS_length, sizeLine_val]; exact c)
    | @tup a items xs h1 r1 => exact rb.asTup h fun b its2 ys h2 r2 e2 h => h.ite fun c h => wpAny_mono (tupAdd I h1 h2 r1 r2 (by rw [show items.size = _ from r1.length, e2]; exact c)) h fun _ _ z => z
    | ref e => exact I.lst e h fun i1 xs _ l1 r1 e1 h => rb.asRef h fun k q e h => I.lst e h fun i2 ys _ l2 r2 e2 h => h.ite fun c h => listAdd l1 l2 (h _ _ (I.newList (by rw [Array.toList_append]; exact r1.append r2) _)) (by rw [e1, e2]; exact c)
    | _ => exact False.elim h
  | Sub => exact ra.asInt h fun i t h => rb.asInt h fun j u h => PyProof.Rows.sub_int (h _ _ (PostE.here I (.int _ _) _))
  | Mult =>
    refine rb.asInt h fun j u h => ?_
    cases ra with
    | int i t => exact h.ite fun c h => PyProof.Rows.mul_int (h _ _ (PostE.here I (.int _ _) _)) (IntMulOk.of_right (intBits_small c))
    | str x t => exact h.ite fun c h => SB.mul (PyProof.Rows.mulOk_of 64 64 (by rw [toS_length]; exact c.1) c.2.2 (Int.le_trans (by decide : (-2^63 : Int) ≤ 0) c.2.1) (by decide) (by decide)) fun t' k => by rw [mul_toS _ c.2.1]; exact h _ _ (PostE.here I (.str _ _) _)
    | ref e => exact I.lst e h fun i1 xs _ l1 r1 e1 h => h.ite fun c h => wpAny_mono (mulList (l := 0) I l1 r1 e1 c) h fun _ _ z => z
    | _ => exact False.elim h
  | FloorDiv => exact ra.asInt h fun i t h => rb.asInt h fun j u h => h.ite fun c h => PyProof.Rows.floordiv_int (Int.ne_of_gt c.1) (by rw [Int.fdiv_eq_ediv_of_nonneg _ (Int.le_of_lt c.1)]; exact h _ _ (PostE.here I (.int _ _) _)) (Or.inl (PyProof.noPylong_small (by omega)))
  | Mod => exact ra.asInt h fun i t h => rb.asInt h fun j u h => h.ite fun c h => PyProof.Rows.mod_int (Int.ne_of_gt c) (by rw [Int.fmod_eq_emod_of_nonneg _ (Int.le_of_lt c)]; exact h _ _ (PostE.here I (.int _ _) _))
  | Pow =>
    refine ra.asInt h fun i t h => rb.asInt h fun j u h => h.ite fun c h => PyProof.Rows.pow_int c.2.2.1 ?_ (h _ _ (PostE.here I (.int _ _) _))
    have h1 : Builtin.Int.intBits i ≤ 64 := intBits_small (by omega)
    exact Int.le_trans (Int.mul_le_mul (Int.ofNat_le.mpr h1) c.2.2.2 c.2.2.1 (by decide)) (by decide)
  | _ => exact False.elim h
theorem vbin_sound {op : Operator} {a b : Value} {x y : V} {r : V × St} (I : Inv X σ al s) (ra : VRep al s.heap a x) (rb : VRep al s.heap b y) (h : vbin op x y σ = some r) :
    wpAny (model X.prog X.w) A (binaryOp op a b) (PostE X al s r) E s := vbin_get I ra rb (.of h fun _ _ p => p)

noncomputable def vaug (op : Operator) (a b : V) (σ : St) : Option (V × St) := match op with
  | .Add => (match a with
    | .int i => b.asInt.bind fun j => some (.int (i + j), σ)
    | .str x => b.asStr.bind fun y => if x.length + y.length ≤ 16777216 then some (.str (x ++ y), σ) else none
    | _ => none)
  | .Sub => a.asInt.bind fun i => b.asInt.bind fun j => some (.int (i - j), σ)
  | _ => none
theorem vaug_sound {op : Operator} {a b : Value} {x y : V} {r : V × St} (I : Inv X σ al s) (ra : VRep al s.heap a x) (rb : VRep al s.heap b y) (h : vaug op x y σ = some r) :
    wpAny (model X.prog X.w) A (inplaceOp op a b) (PostE X al s r) E s := by
  have h : Gets (vaug op x y σ) fun r => ∀ v s', PostE X al s r v s' → PostE X al s _ v s' := .of h fun _ _ p => p
  cases op with
  | Add =>
    cases ra with
    | int i t => exact rb.asInt h fun j u h => wpAny_iadd_int (h _ _ (PostE.here I (.int _ _) _))
    | str x t => exact rb.asStr h fun y u h => h.ite fun c h => PyProof.Rows.iadd_str (fun t' tk => by rw [toS_append]; exact h _ _ (PostE.here I (.str _ _) _)) (by rw [toS_length, toS_length, sizeLine_val]; exact c)
    | _ => exact False.elim h
  | Sub => exact ra.asInt h fun i t h => rb.asInt h fun j u h => AutoIntOps.isub_0 (h _ _ (PostE.here I (.int _ _) _))
  | _ => exact False.elim h
end
end Mine
set_option maxHeartbeats 200000
namespace Mine

noncomputable def V.isNone0 : V → Bool
  | .none => true
  | _ => false

mutual
noncomputable def V.beq : V → V → Bool
  | .none, b => b.isNone0
  | .bool a, b => b.asBool.any (a == ·)
  | .int a, b => b.asInt.any (a == ·)
  | .str a, b => b.asStr.any (a == ·)
  | .tup a, b => (match b with | .tup b => V.beqs a b | _ => false)
  | .ref a, b => b.asRef.any (a == ·)
noncomputable def V.beqs : List V → List V → Bool
  | [], ys => ys.isEmpty
  | x :: xs, ys => (match ys with | y :: ys => V.beq x y && V.beqs xs ys | [] => false)
end
mutual
theorem V.beq_iff : ∀ {a b : V}, V.beq a b = true ↔ a = b
  | .none, b => by cases b <;> simp [V.beq, V.isNone0]
  | .bool a, b => by cases b <;> simp [V.beq, V.asBool]
  | .int a, b => by cases b <;> simp [V.beq, V.asInt]
  | .str a, b => by cases b <;> simp [V.beq, V.asStr]
  | .tup a, b => by cases b <;> simp [V.beq, V.beqs_iff (xs := a)]
  | .ref a, b => by cases b <;> simp [V.beq, V.asRef]
theorem V.beqs_iff : ∀ {xs ys : List V}, V.beqs xs ys = true ↔ xs = ys
  | [], ys => by cases ys <;> simp [V.beqs]
  | x :: xs, ys => by cases ys <;> simp [V.beqs, V.beq_iff (a := x), V.beqs_iff (xs := xs)]
end

-- data without places and truth values, its texts of codes
mutual
noncomputable def V.pure : V → Bool
  | .none => true
  | .bool _ => false
  | .int _ => true
  | .str x => x.all (· < 1114112)
  | .tup vs => V.pures vs
  | .ref _ => false
noncomputable def V.pures : List V → Bool
  | [] => true
  | x :: xs => V.pure x && V.pures xs
end
mutual
noncomputable def V.deep : V → Nat
  | .tup vs => V.deeps vs + 1
  | _ => 0
noncomputable def V.deeps : List V → Nat
  | [] => 0
  | x :: xs => max (V.deep x) (V.deeps xs)
end
mutual
noncomputable def V.toPy : V → PyData
  | .none => .none
  | .bool b => .bool b
  | .int i => .int i
  | .str x => .str (toS x)
  | .tup vs => .tuple (V.toPys vs)
  | .ref _ => .none
noncomputable def V.toPys : List V → List PyData
  | [] => []
  | x :: xs => V.toPy x :: V.toPys xs
end
theorem V.reads {al : Al} {h : Heap} {v : Value} {x : V} (r : VRep al h v x) : x.pure = true → ∃ as, Reads h v x.toPy as := by
  refine VRep.rec (motive_1 := fun v x _ => x.pure = true → ∃ as, Reads h v x.toPy as) (motive_2 := fun v x _ => V.pures x = true → ∃ as, ReadsAll h v (V.toPys x) as) (fun _ => ⟨_, .none⟩) (fun b _ => ⟨_, .bool b⟩) (fun i t _ => ⟨_, .int i t⟩) (fun x t _ => ⟨_, .str _ t⟩) ?_ (fun _ hp => nomatch hp) (fun _ => ⟨_, .nil⟩) ?_ r
  · intro _ _ vs ⟨o, ho, hc, n, hd⟩ _ ih hp
    obtain ⟨as, r⟩ := ih hp
    exact ⟨as, .tuple ho hc hd r⟩
  · intro _ _ _ _ _ _ i1 i2 hp
    obtain ⟨h1, h2⟩ := (Bool.and_eq_true _ _).mp hp
    obtain ⟨as, a⟩ := i1 h1
    obtain ⟨bs, b⟩ := i2 h2
    exact ⟨as ++ bs, .cons a b⟩
mutual
theorem V.canLay : ∀ {x : V}, x.pure = true → x.toPy.canLay0 = true
  | .none, _ => by simp [V.toPy, PyData.canLay0]
  | .bool _, _ => by simp [V.toPy, PyData.canLay0]
  | .int _, _ => by simp [V.toPy, PyData.canLay0]
  | .str x, hp => by
    simp only [V.pure] at hp
    simp only [V.toPy, PyData.canLay0]
    simpa [PyData.strOk] using hp
  | .tup vs, hp => by
    simp only [V.pure] at hp
    simp only [V.toPy, PyData.canLay0]
    exact V.canLays hp
  | .ref _, hp => by simp [V.pure] at hp
theorem V.canLays : ∀ {x : List V}, V.pures x = true → PyData.canLayAll0 (V.toPys x) = true
  | [], _ => by simp [V.toPys, PyData.canLayAll0]
  | x :: xs, hp => by
    simp only [V.pures, Bool.and_eq_true] at hp
    simp [V.toPys, PyData.canLayAll0, V.canLay hp.1, V.canLays hp.2]
end
mutual
theorem V.depth_py : ∀ (x : V), x.toPy.depth = x.deep
  | .none => by simp [V.toPy, PyData.depth, V.deep]
  | .bool _ => by simp [V.toPy, PyData.depth, V.deep]
  | .int _ => by simp [V.toPy, PyData.depth, V.deep]
  | .str x => by simp [V.toPy, PyData.depth, V.deep]
  | .tup vs => by simp [V.toPy, PyData.depth, V.deep, V.depths_py vs]
  | .ref _ => by simp [V.toPy, PyData.depth, V.deep]
theorem V.depths_py : ∀ (x : List V), PyData.depthAll (V.toPys x) = V.deeps x
  | [] => by simp [V.toPys, PyData.depthAll, V.deeps]
  | x :: xs => by simp [V.toPys, PyData.depthAll, V.deeps, V.depth_py x, V.depths_py xs]
end
theorem toS_beq (a b : Txt) : (toS a == toS b) = (a == b) := by
  rw [Bool.eq_iff_iff]; simp
mutual
theorem V.eqv_py : ∀ {a b : V}, a.pure = true → b.pure = true → PyData.eqv a.toPy b.toPy = V.beq a b
  | .none, b, _, hb => by cases b <;> simp_all [V.toPy, PyData.eqv, V.beq, V.pure, V.isNone0]
  | .bool _, b, ha, hb => by simp [V.pure] at ha
  | .int a, b, _, hb => by cases b with
    | int c => simp only [V.toPy, PyData.eqv, V.beq, V.asInt, Option.any_some]
    | _ => simp_all [V.toPy, PyData.eqv, V.beq, V.pure, V.asInt]
  | .str a, b, _, hb => by cases b with
    | str c => simp only [V.toPy, PyData.eqv, V.beq, V.asStr, Option.any_some, toS_beq]
    | _ => simp_all [V.toPy, PyData.eqv, V.beq, V.pure, V.asStr]
  | .tup xs, b, ha, hb => by
    cases b with
    | tup ys =>
      simp only [V.pure] at ha hb
      simp only [V.toPy, PyData.eqv, V.beq]
      exact V.eqvs_py ha hb
    | _ => simp_all [V.toPy, PyData.eqv, V.beq, V.pure]
  | .ref _, b, ha, hb => by simp [V.pure] at ha
theorem V.eqvs_py : ∀ {a b : List V}, V.pures a = true → V.pures b = true → PyData.eqvAll (V.toPys a) (V.toPys b) = V.beqs a b
  | [], b, _, hb => by cases b <;> simp [V.toPys, PyData.eqvAll, V.beqs]
  | x :: xs, b, ha, hb => by
    cases b with
    | nil => simp [V.toPys, PyData.eqvAll, V.beqs]
    | cons y ys =>
      simp only [V.pures, Bool.and_eq_true] at ha hb
      simp [V.toPys, PyData.eqvAll, V.beqs, V.eqv_py ha.1 hb.1, V.eqvs_py ha.2 hb.2]
end

noncomputable def strsOf : List V → Option (List Txt)
  | [] => some []
  | .str x :: r => (strsOf r).map (x :: ·)
  | _ :: _ => none
noncomputable def intsOf : List V → Option (List Int)
  | [] => some []
  | .int x :: r => (intsOf r).map (x :: ·)
  | _ :: _ => none

noncomputable def cEq (f : Bool → Bool) (a b : V) (σ : St) : Option Bool := match a with
  | .int i => b.asInt.bind fun j => some (f (i == j))
  | .str x => b.asStr.bind fun y => some (f (x == y))
  | .tup x => b.asTup.bind fun y => if (V.pures x && V.pures y && decide (V.deeps y ≤ 90)) = true then some (f (V.beqs x y)) else none
  | .ref l => (lst σ l).bind fun x => b.asRef.bind fun k => (lst σ k).bind fun y => if y.isEmpty = true then some (f x.isEmpty) else none
  | _ => none
noncomputable def cIn (f : Bool → Bool) (a b : V) : Option Bool := b.asTup.bind fun ys => match a with
  | .str x => (strsOf ys).bind fun t => some (f (t.any (· == x)))
  | .int x => (intsOf ys).bind fun t => some (f (t.any (· == x)))
  | _ => none
noncomputable def vcmp (op : CmpOp) (a b : V) (σ : St) : Option Bool := match op with
  | .Lt => a.asInt.bind fun i => b.asInt.bind fun j => some (decide (i < j))
  | .LtE => a.asInt.bind fun i => b.asInt.bind fun j => some (decide (i ≤ j))
  | .Gt => a.asInt.bind fun i => b.asInt.bind fun j => some (decide (j < i))
  | .GtE => a.asInt.bind fun i => b.asInt.bind fun j => some (decide (j ≤ i))
  | .Eq => (match a with
    | .bool x => b.asBool.bind fun y => some (x == y)
    | a => cEq id a b σ)
  | .NotEq => cEq not a b σ
  | .In => cIn id a b
  | .NotIn => (match b with
    | .str y => a.asStr.bind fun x => (match x with | [c] => some (!decide (c ∈ y)) | _ => none)
    | b => cIn not a b)
  | .Is => if b.isNone0 = true then some a.isNone0 else none
  | .IsNot => if b.isNone0 = true then some (!a.isNone0) else none

section
variable {X : Cx} {d : Nat} {sc : Scope} {vars : List Str} {env : Env} {ρ : Rho} {σ : St} {al al' : Al} {s s' : Shared} {A : Around} {E : Value → Shared → Prop}

theorem strs_rep {h : Heap} {vs : List Value} {ds : List V} (r : VReps al h vs ds) : ∀ (ts : List Txt), strsOf ds = some ts → ∃ l : List (Txt × Tok), vs = l.map (fun p => Value.str (toS p.1) p.2) ∧ ts = l.map (·.1) := by
  refine r.ind (fun ts e => by cases e; exact ⟨[], rfl, rfl⟩) fun {v vs d ds} rv _ ih ts e => ?_
  have e : Gets ((d.asStr).bind fun x => (strsOf ds).bind fun t => some (x :: t)) (· = ts) := by
    cases d with
    | str x => exact .of (Option.map_eq_bind.symm.trans e) rfl
    | _ => cases e
  refine rv.asStr e fun x t g => ?_
  obtain ⟨ts', e1, rfl⟩ := g.bind.at
  obtain ⟨l, e2, e3⟩ := ih _ e1
  exact ⟨(x, t) :: l, by rw [e2]; rfl, by rw [e3]; rfl⟩
theorem ints_rep {h : Heap} {vs : List Value} {ds : List V} (r : VReps al h vs ds) : ∀ (ts : List Int), intsOf ds = some ts → ∃ l : List (Int × Tok), vs = l.map (fun p => Value.int p.1 p.2) ∧ ts = l.map (·.1) := by
  refine r.ind (fun ts e => by cases e; exact ⟨[], rfl, rfl⟩) fun {v vs d ds} rv _ ih ts e => ?_
  have e : Gets ((d.asInt).bind fun x => (intsOf ds).bind fun t => some (x :: t)) (· = ts) := by
    cases d with
    | int x => exact .of (Option.map_eq_bind.symm.trans e) rfl
    | _ => cases e
  refine rv.asInt e fun x t g => ?_
  obtain ⟨ts', e1, rfl⟩ := g.bind.at
  obtain ⟨l, e2, e3⟩ := ih _ e1
  exact ⟨(x, t) :: l, by rw [e2]; rfl, by rw [e3]; rfl⟩

noncomputable def eqS (x : Txt) (v : Value) : Bool := match v with | .str y _ => y == toS x | _ => false
noncomputable def eqI (x : Int) (v : Value) : Bool := match v with | .int y _ => y == x | _ => false

theorem room_units (R : Room d A) : A.units < cLine := by have := R.2.2; show A.units < 9900; omega

theorem any_strs (l : List (Txt × Tok)) (x : Txt) : ((l.map (fun p => Value.str (toS p.1) p.2)).any (eqS x)) = (l.map (·.1)).any (· == x) := by
  rw [List.any_map, List.any_map]
  congr 1
  funext p
  simp [eqS, toS_beq]
theorem any_ints (l : List (Int × Tok)) (x : Int) : ((l.map (fun p => Value.int p.1 p.2)).any (eqI x)) = (l.map (·.1)).any (· == x) := by
  rw [List.any_map, List.any_map]
  rfl
theorem isTuple_of {h : Heap} {a : Addr} {items : Array Value} (t : IsTup h a items) : h.IsTuple a items := t

noncomputable def InAt (X : Cx) (A : Around) (s : Shared) (o : CmpOp) (f : Bool → Bool) : Prop := ∀ {l : Addr} {items : Array Value} {x : Value} {Q E : Value → Shared → Prop} (e : Value → Bool), s.heap.IsTuple l items → (∀ (y : Value), y ∈ items → SeqAt.EqAt A.in1 s y x (e y)) → Q (Value.bool (f (items.any e))) s →
    wpAny (model X.prog X.w) A (compareOp o x (Value.ref l)) Q E s
theorem cIn_get {o : CmpOp} {f : Bool → Bool} {a b : Value} {x y : V} {Q : Value → Shared → Prop} (ra : VRep al s.heap a x) (rb : VRep al s.heap b y) (h : Gets (cIn f x y) fun r => Q (.bool r) s) (k : InAt X A s o f) :
    wpAny (model X.prog X.w) A (compareOp o a b) Q E s := by
  refine rb.asTup h fun c items ys ht rs _ h => ?_
  cases ra with
  | str x t =>
    obtain ⟨ts, e, g⟩ := h.bind.at
    obtain ⟨l, e1, rfl⟩ := strs_rep rs _ e
    refine k (eqS x) (isTuple_of ht) (fun y hy => ?_) (by rw [← Array.any_toList, e1, any_strs]; exact g)
    have hy' := Array.mem_toList_iff.mpr hy
    rw [e1, List.mem_map] at hy'
    obtain ⟨p, _, rfl⟩ := hy'
    exact SeqAt.EqAt.str_str _ _ _ _
  | int x t =>
    obtain ⟨ts, e, g⟩ := h.bind.at
    obtain ⟨l, e1, rfl⟩ := ints_rep rs _ e
    refine k (eqI x) (isTuple_of ht) (fun y hy => ?_) (by rw [← Array.any_toList, e1, any_ints]; exact g)
    have hy' := Array.mem_toList_iff.mpr hy
    rw [e1, List.mem_map] at hy'
    obtain ⟨p, _, rfl⟩ := hy'
    exact SeqAt.EqAt.int_int _ _ _ _
  | _ => exact False.elim h

theorem eqLists {l b : Addr} {items : Array Value} {Q : Value → Shared → Prop} (hl : s.heap.IsList l items) (hb : s.heap.IsList b #[]) (hu : A.units < cLine) (h : Q (.bool items.isEmpty) s) : wpAny (model X.prog X.w) A (compareOp .Eq (.ref l) (.ref b)) Q E s := by
  cases he : items.isEmpty with
  | true =>
    cases Array.isEmpty_iff.mp he
    exact SeqAt.eq_listAt (e := fun _ => true) hl hb rfl hu (fun j h1 _ => absurd h1 (Nat.not_lt_zero _)) h
  | false =>
    rw [he] at h
    exact SeqAt.eq_list_lengthsAt hl hb (by rw [bne_iff_ne]; intro z; cases Array.eq_empty_of_size_eq_zero z; exact nomatch he) hu h
theorem neLists {l b : Addr} {items : Array Value} {Q : Value → Shared → Prop} (hl : s.heap.IsList l items) (hb : s.heap.IsList b #[]) (hu : A.units < cLine) (h : Q (.bool (!items.isEmpty)) s) : wpAny (model X.prog X.w) A (compareOp .NotEq (.ref l) (.ref b)) Q E s := by
  cases he : items.isEmpty with
  | true =>
    cases Array.isEmpty_iff.mp he
    exact SeqAt.RcNeAt.lists (e := fun _ => true) hl hb rfl hu (fun j h1 _ => absurd h1 (Nat.not_lt_zero _)) X.prog X.w E Q h
  | false =>
    rw [he] at h
    exact SeqAt.RcNeAt.lists_lengths hl hb (by rw [bne_iff_ne]; intro z; cases Array.eq_empty_of_size_eq_zero z; exact nomatch he) hu X.prog X.w E Q h

theorem reps_empty {h : Heap} {items : Array Value} {xs : List V} (r : VReps al h items.toList xs) : items.isEmpty = xs.isEmpty := by
  have e := r.length
  rw [Bool.eq_iff_iff, Array.isEmpty_iff, List.isEmpty_iff]
  constructor
  · intro z; subst z; exact List.eq_nil_of_length_eq_zero (by simpa using e.symm)
  · intro z; rw [z] at e; exact Array.eq_empty_of_size_eq_zero (by simpa using e)
theorem rep_isNone {h : Heap} {v : Value} {x : V} (r : VRep al h v x) : (v == Value.none) = x.isNone0 := by
  cases r <;> rfl
theorem cEq_get {o : CmpOp} {f : Bool → Bool} {a b : Value} {x y : V} {Q : Value → Shared → Prop} (R : Room d A) (I : Inv X σ al s) (ra : VRep al s.heap a x) (rb : VRep al s.heap b y) (h : Gets (cEq f x y σ) fun r => Q (.bool r) s)
    (ki : ∀ {i t j u}, Q (.bool (f (i == j))) s → wpAny (model X.prog X.w) A (compareOp o (.int i t) (.int j u)) Q E s) (ks : ∀ {x y : Str} {t u}, Q (.bool (f (x == y))) s → wpAny (model X.prog X.w) A (compareOp o (.str x t) (.str y u)) Q E s)
    (kt : ∀ {a b : Value} {da db : PyData} {as bs : List Addr}, Reads s.heap a da as → Reads s.heap b db bs → da.canLay0 = true → db.canLay0 = true → A.units + min da.depth db.depth < cLine → Q (Value.bool (f (da.eqv db))) s → wpAny (model X.prog X.w) A (compareOp o a b) Q E s)
    (kl : ∀ {l b : Addr} {items : Array Value}, s.heap.IsList l items → s.heap.IsList b #[] → A.units < cLine → Q (.bool (f items.isEmpty)) s → wpAny (model X.prog X.w) A (compareOp o (.ref l) (.ref b)) Q E s) :
    wpAny (model X.prog X.w) A (compareOp o a b) Q E s := by
  cases ra with
  | int i t => exact rb.asInt h fun j u h => ki h
  | str x t => exact rb.asStr h fun y u h => ks (by rw [toS_beq]; exact h)
  | @tup a items xs h1 r1 =>
    refine rb.asTup h fun b its2 ys h2 r2 e2 h => h.ite fun c h => ?_
    obtain ⟨c, c3⟩ := (Bool.and_eq_true _ _).mp c
    obtain ⟨c1, c2⟩ := (Bool.and_eq_true _ _).mp c
    have px : V.pure (.tup xs) = true := c1
    have py : V.pure (.tup ys) = true := c2
    obtain ⟨as, p1⟩ := V.reads (.tup h1 r1) px
    obtain ⟨bs, p2⟩ := V.reads (.tup h2 r2) py
    refine kt p1 p2 (V.canLay px) (V.canLay py) ?_ (by rw [V.eqv_py px py]; exact h)
    have h3 := Nat.min_le_right (PyData.depth (V.toPy (.tup xs))) (PyData.depth (V.toPy (.tup ys)))
    rw [V.depth_py (.tup ys), V.deep] at h3
    rw [V.depth_py (.tup ys), V.deep]
    have := R.2.2
    have := of_decide_eq_true c3
    clear h p1 p2 h1 h2 r1 r2
    show _ < 9900
    omega
  | ref e =>
    refine I.lst e h fun i1 xs _ l1 r1 e1 h => rb.asRef h fun k q e h => I.lst e h fun i2 ys _ l2 r2 e2 h => h.ite fun c h => ?_
    cases List.isEmpty_iff.mp c
    cases Array.eq_empty_of_size_eq_zero e2
    exact kl l1.isList l2.isList (room_units R) (by rw [reps_empty r1]; exact h)
  | _ => exact False.elim h
theorem vcmp_get {op : CmpOp} {a b : Value} {x y : V} {Q : Value → Shared → Prop} (R : Room d A) (I : Inv X σ al s) (ra : VRep al s.heap a x) (rb : VRep al s.heap b y) (h : Gets (vcmp op x y σ) fun c => Q (.bool c) s) :
    wpAny (model X.prog X.w) A (compareOp op a b) Q E s := by
  cases op with
  | Lt => exact ra.asInt h fun i t h => rb.asInt h fun j u h => PyProof.Rows.lt_int h
  | LtE => exact ra.asInt h fun i t h => rb.asInt h fun j u h => PyProof.Rows.le_int h
  | Gt => exact ra.asInt h fun i t h => rb.asInt h fun j u h => PyProof.Rows.gt_int h
  | GtE => exact ra.asInt h fun i t h => rb.asInt h fun j u h => PyProof.Rows.ge_int h
  | Eq =>
    have k (h : Gets (cEq id x y σ) fun c => Q (.bool c) s) : wpAny (model X.prog X.w) A (compareOp .Eq a b) Q E s := cEq_get R I ra rb h PyProof.Rows.eq_int PyProof.Rows.eq_str SeqAt.compareEq_reads eqLists
    cases ra with
    | bool p => exact rb.asBool h fun q h => SeqAt.RcAt.bool_bool _ _ X.prog X.w E Q h
    | _ => exact k h
  | NotEq => exact cEq_get R I ra rb h PyProof.Rows.ne_int PyProof.Rows.ne_str SeqAt.compareNe_reads neLists
  | In => exact cIn_get ra rb h SeqAt.in_tupleAt
  | NotIn =>
    have k (h : Gets (cIn not x y) fun c => Q (.bool c) s) : wpAny (model X.prog X.w) A (compareOp .NotIn a b) Q E s := cIn_get ra rb h SeqAt.notIn_tupleAt
    cases rb with
    | str q t =>
      refine ra.asStr h fun p u h => ?_
      match p, h with
      | [c], h => exact PyProof.Rows.notIn_str (by rw [show (toS [c] : Str) = ⟨#[c]⟩ from rfl, StrLaws.found_one]; exact h)
      | [], h => exact False.elim h
      | _ :: _ :: _, h => exact False.elim h
    | _ => exact k h
  | Is =>
    refine h.ite fun c h => ?_
    cases rb with
    | none => exact PyProof.Rows.is_none_gen (by rw [rep_isNone ra]; exact h)
    | _ => exact nomatch c
  | IsNot =>
    refine h.ite fun c h => ?_
    cases rb with
    | none => exact PyProof.Rows.isnot_none_gen (by rw [rep_isNone ra]; exact h)
    | _ => exact nomatch c
theorem vcmp_sound {op : CmpOp} {a b : Value} {x y : V} {c : Bool} {Q : Value → Shared → Prop} (R : Room d A) (I : Inv X σ al s) (ra : VRep al s.heap a x) (rb : VRep al s.heap b y) (h : vcmp op x y σ = some c) (hQ : Q (.bool c) s) :
    wpAny (model X.prog X.w) A (compareOp op a b) Q E s := vcmp_get R I ra rb (.of h hQ)

noncomputable def vtruth (v : V) (σ : St) : Option Bool := match v with
  | .bool b => some b
  | .ref l => (lst σ l).bind fun xs => if xs.length ≤ 16777216 then some (!xs.isEmpty) else none
  | _ => none
theorem vtruth_get {v : Value} {x : V} {Q : Bool → Shared → Prop} (I : Inv X σ al s) (rv : VRep al s.heap v x) (h : Gets (vtruth x σ) fun c => ∀ t, Q c { s with toks := t }) : wpAny (model X.prog X.w) A (truthy v) Q E s := by
  cases rv with
  | bool b => exact wpAny_truthy_bool (h s.toks)
  | ref e => exact I.lst e h fun items vs _ l r e h => h.ite fun c h => wpAny_truthy_list l.isList (by rw [e]; exact Int.lt_of_le_of_lt (Int.ofNat_le.mpr c) (by decide)) (by rw [reps_empty r]; exact h _)
  | _ => exact False.elim h
end
end Mine
set_option maxHeartbeats 200000
namespace Mine

noncomputable def dBin (op : Operator) (a b : DE) : DE := fun ρ σ => (a ρ σ).bind fun r => (b ρ r.2).bind fun q => vbin op r.1 q.1 q.2
noncomputable def dNeg (a : DE) : DE := fun ρ σ => (a ρ σ).bind fun r => r.1.asInt.bind fun i => some (.int (-i), r.2)
noncomputable def tCmp (op : CmpOp) (a b : DE) : DT := fun ρ σ => (a ρ σ).bind fun r => (b ρ r.2).bind fun q => (vcmp op r.1 q.1 q.2).bind fun c => some (c, q.2)
noncomputable def dTest (t : DT) : DE := fun ρ σ => (t ρ σ).bind fun r => some (.bool r.1, r.2)
noncomputable def tChain (op op' : CmpOp) (a b c : DE) : DT := fun ρ σ => (a ρ σ).bind fun r => (b ρ r.2).bind fun q => (vcmp op r.1 q.1 q.2).bind fun t => match t with
  | true => (c ρ q.2).bind fun p => (vcmp op' q.1 p.1 p.2).bind fun c => some (c, p.2)
  | false => some (false, q.2)
noncomputable def dIf (t : DT) (a b : DE) : DE := fun ρ σ => (t ρ σ).bind fun r => match r.1 with
  | true => a ρ r.2
  | false => b ρ r.2
noncomputable def dAnd (a b : DE) : DE := fun ρ σ => (a ρ σ).bind fun r => r.1.asBool.bind fun c => match c with
  | true => b ρ r.2
  | false => some (.bool false, r.2)
noncomputable def dOr (a b : DE) : DE := fun ρ σ => (a ρ σ).bind fun r => r.1.asBool.bind fun c => match c with
  | true => some (.bool true, r.2)
  | false => b ρ r.2
noncomputable def tNot (t : DT) : DT := fun ρ σ => (t ρ σ).bind fun r => some (!r.1, r.2)
noncomputable def tVal (a : DE) : DT := fun ρ σ => (a ρ σ).bind fun r => (vtruth r.1 r.2).bind fun c => some (c, r.2)
noncomputable def tAnds : List DT → DT
  | [] => fun _ σ => some (true, σ)
  | t :: r => fun ρ σ => (t ρ σ).bind fun q => match q.1 with
    | true => tAnds r ρ q.2
    | false => some (false, q.2)
noncomputable def tOrs : List DT → DT
  | [] => fun _ σ => some (false, σ)
  | t :: r => fun ρ σ => (t ρ σ).bind fun q => match q.1 with
    | true => some (true, q.2)
    | false => tOrs r ρ q.2

inductive SndTs (X : Cx) (d : Nat) (sc : Scope) (vars : List Str) : List Expr → List DT → Prop
  | nil : SndTs X d sc vars [] []
  | cons {e : Expr} {es : List Expr} {D : DT} {Ds : List DT} : SndT X d sc vars e D → SndTs X d sc vars es Ds → SndTs X d sc vars (e :: es) (D :: Ds)

section
variable {X : Cx} {d : Nat} {sc : Scope} {vars : List Str}

theorem SndE.then {e : Expr} {D : DE} {A : Around} {env : Env} {ρ : Rho} {σ : St} {al₀ al : Al} {s₀ s : Shared} {Q E : Value → Shared → Prop} (S : SndE X d sc vars e D) (R : Room d A) (F : FrameOk X sc env vars ρ al s.heap) (I : Inv X σ al s) (st : Step al₀ s₀ al s NoOwn)
    (g : Gets (D ρ σ) fun r => ∀ v s', PostE X al₀ s₀ r v s' → Q v s') : wpAny (model X.prog X.w) A (eval e env) Q E s :=
  S.get R F I (g.mono fun _ g v s' al' _ I' st' rv => g v s' ⟨al', I', st.trans st', rv⟩)
theorem SndE.bin {l r : Expr} {op : Operator} {pos : Pos} {a b : DE} (ha : SndE X d sc vars l a) (hb : SndE X d sc vars r b) : SndE X d sc vars (.BinOp l op r pos) (dBin op a b) := .mk fun A env ρ σ al s Q E R F I g =>
  wpAny_BinOp (ha.get R F I (g.bind.mono fun r g v s₁ al₁ F₁ I₁ st₁ r₁ => hb.get R F₁ I₁ (g.bind.mono fun q g v₂ s₂ al₂ F₂ I₂ st₂ r₂ => vbin_get I₂ (r₁.step st₂) r₂ (g.mono fun w g v s' p => g v s' (p.pre (st₁.trans st₂))))))

theorem SndE.neg {e : Expr} {pos : Pos} {a : DE} (ha : SndE X d sc vars e a) : SndE X d sc vars (.UnaryOp .USub e pos) (dNeg a) := .mk fun A env ρ σ al s Q E R F I g =>
  wpAny_UnaryOp (ha.get R F I (g.bind.mono fun r g v s₁ al₁ F₁ I₁ st₁ r₁ => r₁.asInt g fun i t g => PyProof.Rows.neg_int (g _ _ (PostE.pre st₁ (PostE.here I₁ (.int _ _) _)))))

theorem SndE.cmp {l r : Expr} {op : CmpOp} {pos : Pos} {a b : DE} (ha : SndE X d sc vars l a) (hb : SndE X d sc vars r b) (hm : behindInMarks op r = false) : SndE X d sc vars (.Compare l [op] [r] pos) (dTest (tCmp op a b)) := .mk fun A env ρ σ al s Q E R F I g =>
  wpAny_Compare1 (ha.get R F I (g.bind.bind.mono fun r g v s₁ al₁ F₁ I₁ st₁ r₁ => hb.get R F₁ I₁ (g.bind.mono fun q g v₂ s₂ al₂ F₂ I₂ st₂ r₂ => vcmp_get R I₂ (r₁.step st₂) r₂ (g.bind.mono fun c g => g _ _ (PostE.pre (st₁.trans st₂) (PostE.here0 I₂ (.bool _))))))) hm

theorem SndT.cmp {l r : Expr} {op : CmpOp} {pos : Pos} {a b : DE} (ha : SndE X d sc vars l a) (hb : SndE X d sc vars r b) (hm : behindInMarks op r = false) : SndT X d sc vars (.Compare l [op] [r] pos) (tCmp op a b) := .mk fun A env ρ σ al s Q E R F I g =>
  wpAny_isTrue_Compare1 (ha.get R F I (g.bind.mono fun r g v s₁ al₁ F₁ I₁ st₁ r₁ => hb.get R F₁ I₁ (g.bind.mono fun q g v₂ s₂ al₂ F₂ I₂ st₂ r₂ => vcmp_get R I₂ (r₁.step st₂) r₂ (g.bind.mono fun c g => wpAny_truthy_bool (g _ _ ⟨al₂, I₂, st₁.trans st₂, rfl⟩))))) hm

theorem SndE.ite {t a b : Expr} {pos : Pos} {T : DT} {x y : DE} (ht : SndT X d sc vars t T) (ha : SndE X d sc vars a x) (hb : SndE X d sc vars b y) : SndE X d sc vars (.IfExp t a b pos) (dIf T x y) := .mk fun A env ρ σ al s Q E R F I g => by
  refine wpAny_IfExp (ht.get R F I (g.bind.mono fun r g s₁ al₁ F₁ I₁ st₁ => ?_))
  obtain ⟨c, σ₁⟩ := r
  cases c with
  | true => exact ha.then R F₁ I₁ st₁ g
  | false => exact hb.then R F₁ I₁ st₁ g

theorem SndE.and {x y : Expr} {pos : Pos} {a b : DE} (ha : SndE X d sc vars x a) (hb : SndE X d sc vars y b) : SndE X d sc vars (.BoolOp .And [x, y] pos) (dAnd a b) := .mk fun A env ρ σ al s Q E R F I g =>
  wpAny_And2 (ha.get R F I (g.bind.mono fun r g v s₁ al₁ F₁ I₁ st₁ r₁ => r₁.asBool g fun c g => wpAny_truthy_bool (by
    cases c with
    | true => exact hb.then R F₁ I₁ st₁ g
    | false => exact g _ _ (PostE.pre st₁ (PostE.here0 I₁ (.bool _))))))
theorem SndE.or {x y : Expr} {pos : Pos} {a b : DE} (ha : SndE X d sc vars x a) (hb : SndE X d sc vars y b) : SndE X d sc vars (.BoolOp .Or [x, y] pos) (dOr a b) := .mk fun A env ρ σ al s Q E R F I g =>
  wpAny_Or2 (ha.get R F I (g.bind.mono fun r g v s₁ al₁ F₁ I₁ st₁ r₁ => r₁.asBool g fun c g => wpAny_truthy_bool (by
    cases c with
    | true => exact g _ _ (PostE.pre st₁ (PostE.here0 I₁ (.bool _)))
    | false => exact hb.then R F₁ I₁ st₁ g)))

theorem SndT.not {e : Expr} {pos : Pos} {T : DT} (ht : SndT X d sc vars e T) : SndT X d sc vars (.UnaryOp .Not e pos) (tNot T) := .mk fun A env ρ σ al s Q E R F I g =>
  wpAny_isTrue_Not (ht.get R F I (g.bind.mono fun r g s₁ al₁ F₁ I₁ st₁ => g _ _ ⟨al₁, I₁, st₁, rfl⟩))
theorem SndT.val {e : Expr} {a : DE} (ha : SndE X d sc vars e a) (he : ∀ env whole, isTrue e env whole = (do let v ← whole; standAt e.pos; holding [v] (truthy v))) : SndT X d sc vars e (tVal a) := .mk fun A env ρ σ al s Q E R F I g =>
  wpAny_isTrue_value (ha.get R F I (g.bind.mono fun r g v s₁ al₁ F₁ I₁ st₁ r₁ => vtruth_get I₁ r₁ (g.bind.mono fun b g t => g _ _ ⟨al₁, I₁.tok t, st₁.trans (Step.tok t), rfl⟩))) (he _ _)
theorem allAnd {es : List Expr} {Ds : List DT} (h : SndTs X d sc vars es Ds) : ∀ (A : Around) (env : Env) (ρ : Rho) (σ : St) (al : Al) (s : Shared) (Q : Bool → Shared → Prop) (E : Value → Shared → Prop), Room d A → FrameOk X sc env vars ρ al s.heap → Inv X σ al s → Gets (tAnds Ds ρ σ) (fun r => ∀ v s', PostT X al s r v s' → Q v s') →
    wpAny (model X.prog X.w) A (allTrue .And es env) Q E s := by
  induction h with
  | nil =>
    intro A env ρ σ al s Q E R F I g
    exact wpAny_allTrue_And_nil (g _ _ ⟨al, I, Step.refl, rfl⟩)
  | cons h1 h2 ih =>
    intro A env ρ σ al s Q E R F I g
    refine wpAny_allTrue_And_cons (h1.get R F I (g.bind.mono fun r g s₁ al₁ F₁ I₁ st₁ => ?_))
    obtain ⟨c, σ₁⟩ := r
    cases c with
    | true => exact ih _ _ _ _ _ _ _ E R F₁ I₁ (g.mono fun r g v s' p => g v s' (p.pre st₁))
    | false => exact g _ _ ⟨al₁, I₁, st₁, rfl⟩
theorem allOr {es : List Expr} {Ds : List DT} (h : SndTs X d sc vars es Ds) : ∀ (A : Around) (env : Env) (ρ : Rho) (σ : St) (al : Al) (s : Shared) (Q : Bool → Shared → Prop) (E : Value → Shared → Prop), Room d A → FrameOk X sc env vars ρ al s.heap → Inv X σ al s → Gets (tOrs Ds ρ σ) (fun r => ∀ v s', PostT X al s r v s' → Q v s') →
    wpAny (model X.prog X.w) A (allTrue .Or es env) Q E s := by
  induction h with
  | nil =>
    intro A env ρ σ al s Q E R F I g
    exact wpAny_allTrue_Or_nil (g _ _ ⟨al, I, Step.refl, rfl⟩)
  | cons h1 h2 ih =>
    intro A env ρ σ al s Q E R F I g
    refine wpAny_allTrue_Or_cons (h1.get R F I (g.bind.mono fun r g s₁ al₁ F₁ I₁ st₁ => ?_))
    obtain ⟨c, σ₁⟩ := r
    cases c with
    | true => exact g _ _ ⟨al₁, I₁, st₁, rfl⟩
    | false => exact ih _ _ _ _ _ _ _ E R F₁ I₁ (g.mono fun r g v s' p => g v s' (p.pre st₁))
theorem SndT.ands {es : List Expr} {pos : Pos} {Ds : List DT} (h : SndTs X d sc vars es Ds) : SndT X d sc vars (.BoolOp .And es pos) (tAnds Ds) := .mk fun A env ρ σ al s Q E R F I g =>
  wpAny_isTrue_BoolOp (allAnd h A env ρ σ al s Q E R F I g)
theorem SndT.ors {es : List Expr} {pos : Pos} {Ds : List DT} (h : SndTs X d sc vars es Ds) : SndT X d sc vars (.BoolOp .Or es pos) (tOrs Ds) := .mk fun A env ρ σ al s Q E R F I g =>
  wpAny_isTrue_BoolOp (allOr h A env ρ σ al s Q E R F I g)
end
end Mine
set_option maxHeartbeats 200000
namespace Mine

noncomputable def dEs : List DE → Rho → St → Option (List V × St)
  | [] => fun _ σ => some ([], σ)
  | a :: r => fun ρ σ => (a ρ σ).bind fun x => (dEs r ρ x.2).bind fun xs => some (x.1 :: xs.1, xs.2)
noncomputable def dTup (as : List DE) : DE := fun ρ σ => (dEs as ρ σ).bind fun r => some (.tup r.1, r.2)
noncomputable def dList (as : List DE) : DE := fun ρ σ => (dEs as ρ σ).bind fun r => some (.ref r.2.length, r.2 ++ [.list r.1])

inductive SndEs (X : Cx) (d : Nat) (sc : Scope) (vars : List Str) : List Expr → List DE → Prop
  | nil : SndEs X d sc vars [] []
  | cons {e : Expr} {es : List Expr} {D : DE} {Ds : List DE} : SndE X d sc vars e D → (∀ env, starEach (e :: es) env = (false, eval e env) :: starEach es env) → SndEs X d sc vars es Ds → SndEs X d sc vars (e :: es) (D :: Ds)

noncomputable def PostL (X : Cx) (al : Al) (s : Shared) (r : List V × St) (vs : List Value) (s' : Shared) : Prop := ∃ al', Inv X r.2 al' s' ∧ Step al s al' s' NoOwn ∧ VReps al' s'.heap vs r.1

noncomputable def vindex (a i : V) (σ : St) : Option V := match i with
  | .int k => (match a with
    | .str x => if 0 ≤ k ∧ k.toNat < 16777216 then x[k.toNat]?.bind fun c => some (.str [c]) else none
    | .tup x => if 0 ≤ k ∧ k.toNat < 16777216 then x[k.toNat]? else if k < 0 ∧ -16777216 ≤ k ∧ 0 ≤ k + x.length then x[(k + x.length).toNat]? else none
    | .ref l => if 0 ≤ k ∧ k.toNat < 16777216 then (lst σ l).bind fun x => x[k.toNat]? else none
    | _ => none)
  | .str x => a.asRef.bind fun l => (dct σ l).bind fun es => es.lookup x
  | _ => none
noncomputable def dIndex (a i : DE) : DE := fun ρ σ => (a ρ σ).bind fun r => (i ρ r.2).bind fun q => (vindex r.1 q.1 q.2).bind fun y => some (y, q.2)

section
variable {X : Cx} {d : Nat} {sc : Scope} {vars : List Str}

theorem backTo_plain (pos : Pos) (t : Sem Value) (r : List (Bool × Sem Value)) : backTo pos ((false, t) :: r) = (false, t) :: backTo pos r := rfl

theorem spliced_get {es : List Expr} {Ds : List DE} (h : SndEs X d sc vars es Ds) : ∀ (pos : Pos) (A : Around) (env : Env) (ρ : Rho) (σ : St) (al : Al) (s : Shared) (Q : List Value → Shared → Prop) (E : Value → Shared → Prop), Room d A → FrameOk X sc env vars ρ al s.heap → Inv X σ al s →
    Gets (dEs Ds ρ σ) (fun r => r.1.length = Ds.length → ∀ vs s', PostL X al s r vs s' → Q vs s') → wpAny (model X.prog X.w) A (spliced (backTo pos (starEach es env))) Q E s := by
  induction h with
  | nil =>
    intro pos A env ρ σ al s Q E R F I g
    exact spliced_nil (g rfl _ _ ⟨al, I, Step.refl, .nil⟩)
  | cons h1 hs h2 ih =>
    intro pos A env ρ σ al s Q E R F I g
    rw [hs env, backTo_plain]
    exact spliced_cons (h1.get R F I (g.bind.mono fun r g v s₁ al₁ F₁ I₁ st₁ r₁ => ih pos _ _ _ _ _ _ _ E R F₁ I₁ (g.bind.mono fun q g hl vs s₂ p => by
      obtain ⟨al₂, I₂, st₂, r₂⟩ := p
      exact g (congrArg Nat.succ hl) _ _ ⟨al₂, I₂, st₁.trans st₂, .cons (r₁.step st₂) r₂⟩)))

theorem SndE.tuple {es : List Expr} {k : Nat} {pos : Pos} {Ds : List DE} (h : SndEs X d sc vars es Ds) (hl : Ds.length ≤ 1000) : SndE X d sc vars (.Tuple es k pos) (dTup Ds) := .mk fun A env ρ σ al s Q E R F I g =>
  Tuple_ (spliced_get h pos A env ρ σ al s _ E R F I (g.bind.mono fun r g e vs s₁ p => by
    obtain ⟨al₁, I₁, st₁, r₁⟩ := p
    exact wpAny_newTuple (g _ _ (PostE.pre st₁ (I₁.newTup (by simpa using r₁) _))) (by rw [r₁.length, e]; exact Nat.le_trans hl (by decide))))
theorem SndE.list {es : List Expr} {pos : Pos} {Ds : List DE} (h : SndEs X d sc vars es Ds) (hl : Ds.length ≤ 1000) : SndE X d sc vars (.List es pos) (dList Ds) := .mk fun A env ρ σ al s Q E R F I g =>
  List_ (spliced_get h pos A env ρ σ al s _ E R F I (g.bind.mono fun r g e vs s₁ p => by
    obtain ⟨al₁, I₁, st₁, r₁⟩ := p
    exact wpAny_newList (g _ _ (PostE.pre st₁ (I₁.newList (by simpa using r₁) _))) (by rw [r₁.length, e]; exact Nat.le_trans hl (by decide))))

theorem SndE.chain {l b c : Expr} {op op' : CmpOp} {pos : Pos} {x y z : DE} (ha : SndE X d sc vars l x) (hb : SndE X d sc vars b y) (hc : SndE X d sc vars c z) (hm : lastMarks [op, op'] [b, c] = false) :
    SndE X d sc vars (.Compare l [op, op'] [b, c] pos) (dTest (tChain op op' x y z)) := .mk fun A env ρ σ al s Q E R F I g =>
  Compare_chain (ha.get R F I (g.bind.bind.mono fun r g v s₁ al₁ F₁ I₁ st₁ r₁ => chain_link (hb.get R F₁ I₁ (g.bind.mono fun q g v₂ s₂ al₂ F₂ I₂ st₂ r₂ => vcmp_get R I₂ (r₁.step st₂) r₂ (g.bind.mono fun t g => wpAny_truthy_bool (by
    cases t with
    | true => exact chain_last (hc.get R F₂ I₂ (g.bind.mono fun p g v₃ s₃ al₃ F₃ I₃ st₃ r₃ => vcmp_get R I₃ (r₂.step st₃) r₃ (g.bind.mono fun c g => g _ _ (PostE.pre ((st₁.trans st₂).trans st₃) (PostE.here0 I₃ (.bool _))))))
    | false => exact g _ _ (PostE.pre (st₁.trans st₂) (PostE.here0 I₂ (.bool _))))))))) hm
theorem SndT.chain {l b c : Expr} {op op' : CmpOp} {pos : Pos} {x y z : DE} (ha : SndE X d sc vars l x) (hb : SndE X d sc vars b y) (hc : SndE X d sc vars c z) (hm : lastMarks [op, op'] [b, c] = false) :
    SndT X d sc vars (.Compare l [op, op'] [b, c] pos) (tChain op op' x y z) := .mk fun A env ρ σ al s Q E R F I g =>
  isTrue_chain (ha.get R F I (g.bind.mono fun r g v s₁ al₁ F₁ I₁ st₁ r₁ => test_link (hb.get R F₁ I₁ (g.bind.mono fun q g v₂ s₂ al₂ F₂ I₂ st₂ r₂ => vcmp_get R I₂ (r₁.step st₂) r₂ (g.bind.mono fun t g => wpAny_truthy_bool (by
    cases t with
    | true => exact test_last (hc.get R F₂ I₂ (g.bind.mono fun p g v₃ s₃ al₃ F₃ I₃ st₃ r₃ => vcmp_get R I₃ (r₂.step st₃) r₃ (g.bind.mono fun c g => wpAny_truthy_bool (g _ _ ⟨al₃, I₃, (st₁.trans st₂).trans st₃, rfl⟩))))
    | false => exact g _ _ ⟨al₂, I₂, st₁.trans st₂, rfl⟩)))))) hm

end

theorem find_rep {al : Al} {h : Heap} {x : Txt} (kvs : List (Str × Value)) : ∀ {es : List (Txt × V)}, kvs.map (·.1) = es.map (fun q => toS q.1) → VReps al h (kvs.map (·.2)) (es.map (·.2)) →
    (∀ y, es.lookup x = some y → ∃ v, valueAt kvs (toS x) = some v ∧ VRep al h v y) ∧ (es.lookup x = Option.none → valueAt kvs (toS x) = Option.none) := by
  induction kvs with
  | nil =>
    intro es h1 _
    cases es with
    | nil => exact ⟨fun _ e => (nomatch e), fun _ => rfl⟩
    | cons _ _ => cases h1
  | cons a r ih =>
    intro es h1 h2
    cases es with
    | nil => cases h1
    | cons b r' =>
      have h0 : a.1 = toS b.1 := (List.cons.inj h1).1
      cases h2 with
      | cons h3 h4 =>
        rw [List.lookup_cons]
        unfold valueAt
        rw [List.find?_cons, h0]
        by_cases hk : x = b.1
        · subst hk
          rw [beq_self_eq_true, decide_eq_true rfl]
          exact ⟨fun y e => by cases e; exact ⟨_, rfl, h3⟩, fun e => nomatch e⟩
        · rw [beq_false_of_ne hk, decide_eq_false fun z => hk (toS_inj z).symm]
          exact ih (List.cons.inj h1).2 h4
theorem findBy_of_rep {al : Al} {h : Heap} {kvs : List (Str × Value)} {es : List (Txt × V)} {x : Txt} {y : V} (h1 : kvs.map (·.1) = es.map (fun q => toS q.1)) (h2 : VReps al h (kvs.map (·.2)) (es.map (·.2))) (e : es.lookup x = some y) :
    ∃ v, valueAt kvs (toS x) = some v ∧ VRep al h v y := (find_rep kvs h1 h2).1 y e
theorem findBy_none {al : Al} {h : Heap} {kvs : List (Str × Value)} {es : List (Txt × V)} {x : Txt} (h1 : kvs.map (·.1) = es.map (fun q => toS q.1)) (h2 : VReps al h (kvs.map (·.2)) (es.map (·.2))) (e : es.lookup x = none) :
    valueAt kvs (toS x) = none := (find_rep kvs h1 h2).2 e

section
variable {X : Cx} {d : Nat} {sc : Scope} {vars : List Str} {env : Env} {ρ : Rho} {σ : St} {al al' : Al} {s s' : Shared} {A : Around} {E : Value → Shared → Prop}

theorem seqIndex_pos {k : Int} {n : Nat} (h0 : 0 ≤ k) (h1 : k.toNat < n) : seqIndex? k n = some k.toNat := by
  unfold seqIndex?
  have e : ¬ k < 0 := by omega
  have e2 : k < (n : Int) := by omega
  simp [e, h0, e2]
theorem seqIndex_neg {k : Int} {n : Nat} (h0 : k < 0) (h1 : 0 ≤ k + n) : seqIndex? k n = some (k + n).toNat := by
  unfold seqIndex?
  have e2 : k + (n : Int) < (n : Int) := by omega
  simp [h0, h1, e2]

noncomputable def Taken (X : Cx) (A : Around) (E : Value → Shared → Prop) (s : Shared) (Q : Value → Shared → Prop) (a i : Value) : Prop :=
  (∃ T id, s.TypeIs a T ∧ typeLookup (.type T) "__getitem__" = pure (some (.builtin id))) ∧ wpAny (model X.prog X.w) A (getItem a i) Q E s
theorem item_str {x : Txt} {t u : Tok} {k : Int} {c : Nat} {Q : Value → Shared → Prop} (hk : 0 ≤ k ∧ k.toNat < 16777216) (hc : x[k.toNat]? = some c) (h : ∀ t' n, Q (.str (toS [c]) t') { s with toks := n }) : Taken X A E s Q (.str (toS x) t) (.int k u) := by
  have hlt : k.toNat < x.length := (List.getElem?_eq_some_iff.mp hc).1
  refine ⟨⟨"str", _, typeIs_str _ _ _, slot_str_getitem.lookup⟩, PyProof.Rows.getItem_str ?_ ?_ (h _ _)⟩
  · clear hc h hlt; rw [decide_eq_false (by omega), decide_eq_false (by omega)]; rfl
  · rw [toS_length, seqIndex_pos hk.1 hlt]
    show x.toArray[k.toNat]? = some c
    rw [List.getElem?_toArray]; exact hc
theorem item_tup {a : Addr} {items : Array Value} {vs : List V} {k : Int} {u : Tok} {y : V} {n : Nat} {Q : Value → Shared → Prop} (ht : IsTup s.heap a items) (rs : VReps al s.heap items.toList vs) (h1 : -16777216 ≤ k) (h2 : k < 16777216) (hk : seqIndex? k items.size = some n) (h : vs[n]? = some y)
    (hQ : ∀ v, VRep al s.heap v y → Q v s) : Taken X A E s Q (.ref a) (.int k u) := by
  obtain ⟨v, hv, rv⟩ := rs.get h
  exact ⟨⟨"tuple", _, ht.typeIs, slot_tuple_getitem.lookup⟩, getItem_tuple ht (by omega) (by omega) hk (Array.getElem?_toList.symm.trans hv) (hQ _ rv)⟩
theorem vindex_get {a i : Value} {x k : V} {Q : Value → Shared → Prop} (I : Inv X σ al s) (ra : VRep al s.heap a x) (ri : VRep al s.heap i k) (h : Gets (vindex x k σ) fun y => ∀ v s', PostE X al s (y, σ) v s' → Q v s') : Taken X A E s Q a i := by
  cases ri with
  | int k u =>
    cases ra with
    | str x t =>
      refine h.ite fun hk h => ?_
      obtain ⟨c, hc, h⟩ := h.bind.at
      exact item_str hk hc fun t' n => h _ _ (PostE.here I (VRep.str [c] _) _)
    | @tup a items x ht rs =>
      have e1 : items.size = x.length := rs.length
      refine h.ifte (fun hk h => ?_) fun _ h => h.ite fun hk h => ?_
      · obtain ⟨y, e, h⟩ := h.at
        have := (List.getElem?_eq_some_iff.mp e).1
        refine item_tup ht rs (by omega) (by omega) (seqIndex_pos hk.1 (by rw [e1]; exact this)) e fun v rv => h _ _ (PostE.here0 I rv)
      · obtain ⟨y, e, h⟩ := h.at
        exact item_tup ht rs hk.2.1 (by omega) (seqIndex_neg hk.1 (by rw [e1]; exact hk.2.2)) (by rw [e1]; exact e) fun v rv => h _ _ (PostE.here0 I rv)
    | ref e =>
      refine h.ite fun hk h => I.lst e h fun items vs _ l r e h => ?_
      obtain ⟨y, e, h⟩ := h.at
      obtain ⟨v, hv, rv⟩ := r.get e
      exact ⟨⟨"list", _, l.isList.typeIs, list_getitem_lookup⟩, wpAny_getItem_list l.isList hk.1 (by omega) (Array.getElem?_toList.symm.trans hv) (h _ _ (PostE.here0 I rv))⟩
    | _ => exact False.elim h
  | str z t =>
    refine ra.asRef h fun l p e h => I.dct e h fun es kvs _ h2 lo hd hk hv h => ?_
    obtain ⟨y, e, h⟩ := h.at
    obtain ⟨v, e1, rv⟩ := findBy_of_rep hk hv e
    exact ⟨⟨"dict", _, hd.typeIs, slot_dict_getitem.lookup⟩, wpAny_getItem_of (strKind_is _ _ _ _) hd.mapOf e1 (h _ _ (PostE.here I rv _))⟩
  | _ => exact False.elim h
theorem SndE.index {a i : Expr} {pos : Pos} {x k : DE} (ha : SndE X d sc vars a x) (hi : SndE X d sc vars i k)
    (hs : ∀ o v, subscripted i false o v = operate [o, v] (getItem o v)) : SndE X d sc vars (.Subscript a i pos) (dIndex x k) := .mk fun A env ρ σ al s Q E R F I g =>
  Subscript_ (ha.get R F I (g.bind.mono fun r g v s₁ al₁ F₁ I₁ st₁ r₁ => hi.get R F₁ I₁ (g.bind.mono fun q g v₂ s₂ al₂ F₂ I₂ st₂ r₂ => by
    obtain ⟨⟨T, id, hT, hl⟩, hg⟩ := vindex_get (A := A) (E := E) I₂ (r₁.step st₂) r₂ (g.bind.mono fun y g v s' p => g v s' (p.pre (st₁.trans st₂)))
    exact tail_any hT hl hg (hs _ _))))
end
end Mine
set_option maxHeartbeats 200000
namespace Mine

noncomputable def O.asRo : O → Option (List V)
  | .ro vs => some vs
  | _ => none
noncomputable def vslice (x : V) (lo hi : Option Int) (σ : St) : Option (V × St) := match x with
  | .str x => lo.bind fun i => (match hi with
    | some j => if x.length ≤ 16777216 ∧ 0 ≤ i ∧ 0 ≤ j then some (.str ((x.drop i.toNat).take (j.toNat - i.toNat)), σ) else none
    | none => if x.length ≤ 16777216 ∧ i = -1 then some (.str (x.drop (x.length - 1)), σ) else none)
  | .tup x => (match lo with
    | some i => (match hi with
      | none => if x.length ≤ 16777216 ∧ 1 ≤ i ∧ i ≤ x.length then some (.tup (x.drop i.toNat), σ) else none
      | some _ => none)
    | none => hi.bind fun j => if x.length ≤ 16777216 ∧ 1 ≤ j ∧ j < x.length then some (.tup (x.take j.toNat), σ) else none)
  | .ref l => (match lo with
    | some i => (match hi with
      | none => (lst σ l).bind fun x => if x.length ≤ 16777216 ∧ 0 ≤ i then some (.ref σ.length, σ ++ [.list (x.drop i.toNat)]) else none
      | some _ => none)
    | none => hi.bind fun j => σ[l]?.bind fun o => o.asRo.bind fun x => if x.length ≤ 16777216 ∧ 0 ≤ j then some (.ref σ.length, σ ++ [.list (x.take j.toNat)]) else none)
  | _ => none

noncomputable def dOpt (a : Option DE) : Rho → St → Option (Option Int × St) := match a with
  | none => fun _ σ => some (none, σ)
  | some a => fun ρ σ => (a ρ σ).bind fun r => r.1.asInt.bind fun i => some (some i, r.2)
noncomputable def dSlice (a : DE) (lo hi : Option DE) : DE := fun ρ σ => (a ρ σ).bind fun r => (dOpt lo ρ r.2).bind fun i => (dOpt hi ρ i.2).bind fun j => vslice r.1 i.1 j.1 j.2
noncomputable def dRev (a : DE) : DE := fun ρ σ => (a ρ σ).bind fun r => r.1.asRef.bind fun l => (lst r.2 l).bind fun x => if x.length ≤ 16777216 then some (.ref r.2.length, r.2 ++ [.list x.reverse]) else none

theorem max_min (i n : Nat) : max 0 (min (i : Int) (n : Int)) = ((min i n : Nat) : Int) := by
  rcases Nat.le_total i n with h | h
  · rw [Nat.min_eq_left h, Int.min_eq_left (Int.ofNat_le.mpr h)]; exact Int.max_eq_right (Int.natCast_nonneg _)
  · rw [Nat.min_eq_right h, Int.min_eq_right (Int.ofNat_le.mpr h)]; exact Int.max_eq_right (Int.natCast_nonneg _)
theorem strIdx_nat (n i j : Nat) : Builtin.Str.strSliceIndices (some (i : Int)) (some (j : Int)) 1 n = (List.range (min j n - min i n)).map (min i n + ·) := by
  unfold Builtin.Str.strSliceIndices
  simp only [show (1 : Int) > 0 from by decide, if_true, Int.not_lt.mpr (Int.natCast_nonneg i), Int.not_lt.mpr (Int.natCast_nonneg j), if_false]
  rw [max_min, max_min, sliceRange_one]
theorem strIdx_last (n : Nat) : Builtin.Str.strSliceIndices (some (-1)) none 1 n = (List.range (n - (n - 1))).map ((n - 1) + ·) := by
  unfold Builtin.Str.strSliceIndices
  simp only [show (1 : Int) > 0 from by decide, if_true, show ((-1 : Int) < 0) from by decide]
  have e1 : max 0 (min (-1 + (n : Int)) (n : Int)) = ((n - 1 : Nat) : Int) := by
    cases n with
    | zero => rfl
    | succ n => rw [show (-1 : Int) + ((n + 1 : Nat) : Int) = (n : Nat) by omega, max_min, Nat.min_eq_left (Nat.le_succ n)]; rfl
  rw [e1, sliceRange_one]
theorem cut_eq (x : Txt) (i j : Nat) : ((x.drop (min i x.length)).take (min j x.length - min i x.length)) = (x.drop i).take (j - i) := by
  rcases Nat.le_total i x.length with h | h
  · rw [Nat.min_eq_left h, List.take_eq_take_iff, List.length_drop, Nat.sub_min_sub_right, Nat.sub_min_sub_right, Nat.min_assoc, Nat.min_self]
  · rw [Nat.min_eq_right h, List.drop_length, List.drop_eq_nil_of_le h, List.take_nil, List.take_nil]

section
variable {X : Cx} {d : Nat} {sc : Scope} {vars : List Str} {env : Env} {ρ : Rho} {σ : St} {al al' : Al} {s s' : Shared} {A : Around} {E : Value → Shared → Prop}

set_option tactic.hygienic true in
theorem str_cut {x : Txt} {t : Tok} {a : Addr} {l u : Option (Int × Tok)} {p q : Nat} (I : Inv X σ al s) (hs : s.heap.IsSlice a l u none) (hx : x.length ≤ 16777216) (hpq : p + q ≤ x.length)
    (e : Builtin.Str.strSliceIndices (l.map (·.1)) (u.map (·.1)) 1 x.length = (List.range q).map (p + ·)) :
    wpAny (model X.prog X.w) A (getItem (.str (toS x) t) (.ref a)) (PostE X al s (.str ((x.drop p).take q), σ)) E s := by
  refine wpAny_getItem_str_slice hs rfl ?_
  have e' : slicePicked (toS x) l u none = (List.range q).map (p + ·) := by
    unfold slicePicked
    rw [toS_length]
    exact e
  have pr : ((slicePicked (toS x) l u none).filterMap ((toS x).cps[·]?)) = (x.drop p).take q := by
    rw [e', pick_run]
  unfold sliceMade
  split
  · rename_i h
    simp only [Bool.and_eq_true, beq_iff_eq] at h
    have h2 := h.2
    rw [toS_length, e'] at h2
    simp only [List.length_map, List.length_range] at h2
    have hp : p = 0 := by omega
    subst hp
    rw [List.drop_zero, List.take_of_length_le (by omega)]
    exact PostE.here0 I (.str _ _)
  · rw [pr]
    refine ⟨?_, PostE.here I (.str _ _) _⟩
    show (Str.length _) ≤ _
    rw [show (Str.length ⟨((x.drop p).take q).toArray⟩) = ((x.drop p).take q).length from toS_length _, sizeLine_val]
    simp only [List.length_take, List.length_drop]
    omega

theorem tuple_upto {t sl : Addr} {items : Array Value} {b : Nat} {u : Tok} {Q : Value → Shared → Prop} (ht : IsTup s.heap t items) (hs : s.heap.IsSliceOf sl .none (.int b u) .none) (h1 : 1 ≤ b) (hb : b < items.size)
    (h : Q (.ref s.heap.objs.size) { s with heap := s.heap.push { cls := .type "tuple", data := .seq (items.toList.take b).toArray } })
    (hsz : items.size ≤ sizeLine) : wpAny (model X.prog X.w) A (getItem (.ref t) (.ref sl)) Q E s := by
  have htake : sizeOk (.seq (items.toList.take b).toArray) := by
    show (items.toList.take b).toArray.size ≤ sizeLine
    rw [List.size_toArray, List.length_take, Array.length_toList]
    omega
  obtain ⟨os, hos, hcs, hds⟩ := id hs
  have hTs : s.TypeIs (.ref sl) "slice" := ⟨os, hos, hcs⟩
  unfold getItem
  try with_reducible refine wpAny_holding ?_
  first | refine wpAny_bind (wpAny_pure ?_) | skip
  refine wpAny_bind (wpAny_sequenceKey ht.typeIs (by decide) ?_)
  refine wpAny_bind (wpAny_callSpecial?_slot (name := Str.ofString "__getitem__") ht.typeIs slot_tuple_getitem
    (wpAny_call_entry slot_tuple_getitem ht.typeIs entry_tuple_getitem ?_ (args_tuple_getitem _ _)))
  show wpAny _ _ (Builtin.Tuple.tupleItemsOf (.ref t) >>= _) _ _ s
  refine wpAny_bind (tupleItemsOf_ ht ?_)
  refine wpAny_bind (wpAny_typeOf hTs ?_)
  rw [if_pos (by decide)]
  have applied : ∀ Q' : Int × Int × Nat → Shared → Prop, Q' ((0 : Int), 1, b) s → ∀ A' E', wpAny (model X.prog X.w) A' (Builtin.Slice.sliceApplied (.ref sl) (pure (items.size : Int))) Q' E' s := by
    intro Q' hq A' E'
    unfold Builtin.Slice.sliceApplied Builtin.Slice.sliceFields
    refine wpAny_bind (wpAny_bind (wpAny_field hos hds (x := .none) rfl (wpAny_bind (wpAny_field hos hds (x := .int b u) rfl (wpAny_bind (wpAny_field hos hds (x := .none) rfl (wpAny_pure ?_)))))))
    refine wpAny_bind (slicePart_none ?_)
    show wpAny _ _ (if ((1 : Int) == 0) = true then _ else _) _ _ s
    rw [if_neg (by decide)]
    refine wpAny_bind (slicePart_none (wpAny_bind (slicePart_int (wpAny_bind (wpAny_pure ?_)))))
    show wpAny _ _ (match Builtin.Slice.sliceAdjust none (some (b : Int)) 1 (items.size : Int) with | (lo, hi) => pure (lo, (1 : Int), Builtin.Slice.slicePlaces lo hi 1)) _ _ s
    have e1 : Builtin.Slice.sliceAdjust none (some (b : Int)) 1 (items.size : Int) = ((0 : Int), (b : Int)) := by
      unfold Builtin.Slice.sliceAdjust
      have h1 : ¬ ((1 : Int) < 0) := by omega
      have h2 : ¬ ((b : Int) < 0) := by omega
      simp only [h1, h2, if_false]
      congr 1
      omega
    rw [e1]
    have e2 : Builtin.Slice.slicePlaces (0 : Int) (b : Int) 1 = b := by
      unfold Builtin.Slice.slicePlaces
      have h1 : (1 : Int) > 0 := by omega
      simp only [h1, if_true, Int.ediv_one]
      split <;> omega
    show wpAny _ _ (pure ((0 : Int), (1 : Int), Builtin.Slice.slicePlaces (0 : Int) (b : Int) 1)) _ _ s
    rw [e2]
    exact wpAny_pure hq
  refine wpAny_bind (applied _ ?_ _ _)
  have hno : ¬ (((0 : Int) == 0 && (1 : Int) == 1 && b == items.size) = true) := by
    have : (b == items.size) = false := by rw [beq_eq_false_iff_ne]; omega
    rw [this]; simp
  have pk : ((List.range b).filterMap fun (k : Nat) => items[((0 : Int) + (k : Int) * 1).toNat]?).toArray = (items.toList.take b).toArray := by
    have e : (fun (k : Nat) => items[((0 : Int) + (k : Int) * 1).toNat]?) = fun k => items[0 + k]? := by
      funext k
      have : ((0 : Int) + (k : Int) * 1).toNat = 0 + k := by omega
      rw [this]
    rw [e]
    have := pick_run items 0 b
    rw [List.filterMap_map] at this
    have e2 : ((fun x => items[x]?) ∘ fun x => 0 + x) = fun k => items[0 + k]? := rfl
    rw [e2] at this
    rw [this, List.drop_zero]
  show wpAny _ _ (if ((0 : Int) == 0 && (1 : Int) == 1 && b == items.size) = true then _ else _) _ _ s
  rw [if_neg hno, pk]
  first
    | exact wpAny_bind (m := Builtin.Tuple.tupleExact _) (wpAny_newObj_type (wpAny_pure ⟨_, rfl, wpAny_pure h⟩) htake)
    | exact wpAny_bind (m := Builtin.Tuple.tupleExact _) (wpAny_newObj_type (wpAny_bind (wpAny_pure (wpAny_pure ⟨_, rfl, wpAny_pure h⟩))) htake)
    | exact wpAny_bind (wpAny_bind (m := Builtin.Tuple.tupleExact _) (wpAny_newObj_type (wpAny_pure (wpAny_pure ⟨_, rfl, wpAny_pure h⟩)) htake))
    | exact wpAny_bind (wpAny_bind (m := Builtin.Tuple.tupleExact _) (wpAny_newObj_type (wpAny_pure ⟨_, rfl, wpAny_pure h⟩) htake))

inductive PartRep : Value → Option Int → Prop
  | none : PartRep .none none
  | int (i : Int) (t : Tok) : PartRep (.int i t) (some i)
theorem PartRep.part {v : Value} {k : Option Int} (p : PartRep v k) : IsPart v k := by cases p; exact .none; exact .int _ _
theorem cut_le (n m l : Nat) : min n l + (min m l - min n l) ≤ l := by
  rcases Nat.le_total (min n l) (min m l) with h | h
  · rw [Nat.add_sub_cancel' h]; exact Nat.min_le_right _ _
  · rw [Nat.sub_eq_zero_of_le h]; exact Nat.min_le_right _ _
theorem vslice_get {o : Value} {x : V} {vl vu : Value} {i j : Option Int} {sl : Addr} {Q : Value → Shared → Prop} (I : Inv X σ al s) (ro : VRep al s.heap o x) (pl : PartRep vl i) (pu : PartRep vu j)
    (hs : s.heap.IsSliceOf sl vl vu .none) (h : Gets (vslice x i j σ) fun r => ∀ v s', PostE X al s r v s' → Q v s') : Taken X A E s Q o (.ref sl) := by
  cases ro with
  | str x t =>
    cases pl with
    | none => exact False.elim h
    | int i t =>
      cases pu with
      | int j u =>
        refine h.ite fun hc h => ⟨⟨"str", _, typeIs_str _ _ _, slot_str_getitem.lookup⟩, wpAny_mono ?_ h fun _ _ z => z⟩
        obtain ⟨n, rfl⟩ := Int.eq_ofNat_of_zero_le hc.2.1
        obtain ⟨m, rfl⟩ := Int.eq_ofNat_of_zero_le hc.2.2
        rw [← cut_eq]
        exact str_cut (l := some ((n : Int), _)) (u := some ((m : Int), _)) I hs hc.1 (cut_le n m _) (strIdx_nat _ _ _)
      | none =>
        refine h.ite fun hc h => ⟨⟨"str", _, typeIs_str _ _ _, slot_str_getitem.lookup⟩, wpAny_mono ?_ h fun _ _ z => z⟩
        obtain ⟨hx, rfl⟩ := hc
        have e : x.drop (x.length - 1) = (x.drop (x.length - 1)).take (x.length - (x.length - 1)) := by
          rw [List.take_of_length_le (by simp)]
        rw [e]
        exact str_cut (l := some (-1, _)) (u := none) I hs hx (Nat.le_of_eq (Nat.add_sub_cancel' (Nat.sub_le _ _))) (strIdx_last _)
  | @tup a items x ht rs =>
    have e1 : items.size = x.length := rs.length
    cases pl with
    | int i t =>
      cases pu with
      | none =>
        refine h.ite fun hc h => ⟨⟨"tuple", _, ht.typeIs, slot_tuple_getitem.lookup⟩, ?_⟩
        obtain ⟨n, rfl⟩ := Int.eq_ofNat_of_zero_le (Int.le_trans (by decide) hc.2.1)
        exact getItem_tuple_from ht hs (by omega) (by omega) (h _ _ (I.newTup (rs.drop _) _)) (by rw [e1, sizeLine_val]; exact hc.1)
      | _ => exact False.elim h
    | none =>
      cases pu with
      | int j u =>
        refine h.ite fun hc h => ⟨⟨"tuple", _, ht.typeIs, slot_tuple_getitem.lookup⟩, ?_⟩
        obtain ⟨n, rfl⟩ := Int.eq_ofNat_of_zero_le (Int.le_trans (by decide) hc.2.1)
        exact tuple_upto ht hs (by omega) (by omega) (h _ _ (I.newTup (rs.take _) _)) (by rw [e1, sizeLine_val]; exact hc.1)
      | _ => exact False.elim h
  | ref e =>
    cases pl with
    | int i t =>
      cases pu with
      | none =>
        refine I.lst e h fun items x _ l1 r1 e1 h => h.ite fun hc h => ⟨⟨"list", _, l1.isList.typeIs, list_getitem_lookup⟩, ?_⟩
        obtain ⟨n, rfl⟩ := Int.eq_ofNat_of_zero_le hc.2
        refine wpAny_getItem_list_slice l1.isList hs (.int _ _) .none .none (by simp) ?_ (by rw [e1, sizeLine_val]; exact hc.1)
        rw [slicePick_from']
        exact h _ _ (I.newList (r1.drop _) _)
      | _ => exact False.elim h
    | none =>
      cases pu with
      | int j u =>
        refine I.obj e h fun o _ oo h => ?_
        cases o with
        | ro x =>
          obtain ⟨i1, l1, r1, _⟩ := oo
          refine h.ite fun hc h => ⟨⟨"list", _, l1.typeIs, list_getitem_lookup⟩, ?_⟩
          obtain ⟨n, rfl⟩ := Int.eq_ofNat_of_zero_le hc.2
          refine wpAny_getItem_list_slice l1 hs .none (.int _ _) .none (by simp) ?_ (by rw [show i1.size = _ from r1.length, sizeLine_val]; exact hc.1)
          rw [slicePick_upto']
          exact h _ _ (I.newList (r1.take _) _)
        | _ => exact False.elim h
      | _ => exact False.elim h
  | _ => exact False.elim h
inductive SndO (X : Cx) (d : Nat) (sc : Scope) (vars : List Str) : Option Expr → Option DE → Prop
  | none : SndO X d sc vars none none
  | some {e : Expr} {D : DE} : SndE X d sc vars e D → SndO X d sc vars (some e) (some D)
theorem SndO.get {e : Option Expr} {D : Option DE} {Q : Value → Shared → Prop} (S : SndO X d sc vars e D) (R : Room d A) (F : FrameOk X sc env vars ρ al s.heap) (I : Inv X σ al s)
    (g : Gets (dOpt D ρ σ) fun r => ∀ v s' al', FrameOk X sc env vars ρ al' s'.heap → Inv X r.2 al' s' → Step al s al' s' NoOwn → PartRep v r.1 → Q v s') : wpAny (model X.prog X.w) A (evalPart e env) Q E s := by
  cases S with
  | none =>
    rw [evalPart_none]
    exact wpAny_pure (g _ _ _ F I Step.refl .none)
  | some S =>
    rw [evalPart_some]
    exact S.get R F I (g.bind.mono fun r g v s₁ al₁ F₁ I₁ st₁ r₁ => r₁.asInt g fun i t g => g _ _ _ F₁ I₁ st₁ (.int _ _))

theorem SndE.slice {a : Expr} {lo hi : Option Expr} {p pos : Pos} {x : DE} {i j : Option DE} (ha : SndE X d sc vars a x) (hl : SndO X d sc vars lo i) (hh : SndO X d sc vars hi j) :
    SndE X d sc vars (.Subscript a (.Slice lo hi Option.none p) pos) (dSlice x i j) := .mk fun A env ρ σ al s Q E R F I g => by
  refine Subscript_ (ha.get R F I (g.bind.mono fun r g v s₁ al₁ F₁ I₁ st₁ r₁ => wpAny_Slice (hl.get R F₁ I₁ (g.bind.mono fun i g v₂ s₂ al₂ F₂ I₂ st₂ p₂ => hh.get R F₂ I₂ (g.bind.mono fun j g v₃ s₃ al₃ F₃ I₃ st₃ p₃ => ?_)))))
  rw [evalPart_none]
  refine wpAny_pure ?_
  have st₄ : Step al₃ s₃ al₃ _ NoOwn := Step.push ({ cls := .type "slice", data := .fields #[v₂, v₃, .none] } : Obj) s₃.toks
  obtain ⟨⟨T, id, hT, hlk⟩, hg⟩ := vslice_get (A := A) (E := E) (I₃.push ({ cls := .type "slice", data := .fields #[v₂, v₃, .none] } : Obj) s₃.toks) (((r₁.step st₂).step st₃).step st₄) p₂ p₃ (Heap.IsSliceOf.new _ _ _ _) (g.mono fun w g v s' p => g v s' (p.pre (((st₁.trans st₂).trans st₃).trans st₄)))
  exact tail_any (ops := [.ref s₃.heap.objs.size, v]) hT hlk hg rfl

theorem SndE.rev {a st : Expr} {p pos : Pos} {x : DE} (ha : SndE X d sc vars a x) (hst : SndE X d sc vars st (dNeg (dLit (.int 1)))) :
    SndE X d sc vars (.Subscript a (.Slice Option.none Option.none (Option.some st) p) pos) (dRev x) := .mk fun A env ρ σ al s Q E R F I h => by
  refine Subscript_ (ha.get R F I (h.bind.mono fun r h v s₁ al₁ F₁ I₁ st₁ r₁ => wpAny_Slice ?_))
  rw [evalPart_none, evalPart_some]
  refine wpAny_pure (wpAny_pure (hst.run (r := (.int (-1), r.2)) R F₁ I₁ rfl fun v₂ s₂ al₂ F₂ I₂ st₂ r₂ => ?_))
  refine VRep.asInt (k := some) (Q := fun i => i = -1) r₂ rfl fun i t e => ?_
  cases e
  have I₄ := I₂.push ({ cls := .type "slice", data := .fields #[.none, .none, .int (-1) t] } : Obj) s₂.toks
  have st₄ : Step al₂ s₂ al₂ _ NoOwn := Step.push ({ cls := .type "slice", data := .fields #[.none, .none, .int (-1) t] } : Obj) s₂.toks
  refine ((r₁.step st₂).step st₄).asRef h fun l p e h => I₄.lst e h fun items x _ l1 rs e1 h => h.ite fun c h => ?_
  refine tail_any (ops := [.ref p.1, .ref s₂.heap.objs.size]) l1.isList.typeIs list_getitem_lookup ?_ rfl
  refine wpAny_getItem_list_slice l1.isList (Heap.IsSliceOf.new _ _ _ _) .none .none (.int _ _) (by simp) ?_ (by rw [e1, sizeLine_val]; exact c)
  rw [PySem.W.krv_pick]
  exact h _ _ (PostE.pre ((st₁.trans st₂).trans st₄) (I₄.newList (by simpa using rs.reverse) _))
end
end Mine
set_option maxHeartbeats 200000
namespace Mine

structure ClsOk (X : Cx) : Prop where
  ga : findIn X.K (.ref X.C) "__getattribute__" = some (some (.builtin "object.__getattribute__"))
  gattr : findIn X.K (.ref X.C) "__getattr__" = some none
  hd : hasDictIn X.K X.C = true
  sa : findIn X.K (.ref X.C) "__setattr__" = some (some (.builtin "object.__setattr__"))
  po : plainOver X.K X.C = true
  fields : ∀ x ∈ X.names, findIn X.K (.ref X.C) x = some none
  nd : X.names.Nodup
  few : X.names.length ≤ 8

theorem isStr_str (x y : Str) (t : Tok) : (Value.str x t).isStr y = decide (x = y) := by
  rw [Bool.eq_iff_iff]; simp [Value.isStr]

section
variable {X : Cx} {d : Nat} {sc : Scope} {vars : List Str} {env : Env} {ρ : Rho} {σ : St} {al al' : Al} {s s' : Shared} {A : Around} {E : Value → Shared → Prop}

theorem rep_handed {h : Heap} {v : Value} {x : V} (r : VRep al h v x) : handedIn v = true := by cases r <;> rfl

noncomputable def Keyed (names : List Str) (ws : List DictEntry) : Prop := ∀ (i : Nat) (e : DictEntry), ws[i]? = some e → ∃ x t, names[i]? = some x ∧ e.key = .str x t

theorem keyed_find {names : List Str} {ws : List DictEntry} (nd : names.Nodup) (hk : Keyed names ws) {i : Nat} {e : DictEntry} {x : Str} (he : ws[i]? = some e) (hx : names[i]? = some x) : ws.find? (·.key.isStr x) = some e := by
  rw [List.find?_eq_some_iff_getElem]
  have hi := (List.getElem?_eq_some_iff.mp he)
  obtain ⟨x', t, h1, h2⟩ := hk i e he
  rw [hx] at h1
  cases h1
  refine ⟨by rw [h2, isStr_str]; simp, i, hi.1, hi.2, fun j hj => ?_⟩
  have hj' : j < ws.length := Nat.lt_trans hj hi.1
  obtain ⟨y, u, h3, h4⟩ := hk j _ (List.getElem?_eq_getElem hj')
  rw [h4, isStr_str]
  have : y ≠ x := by
    intro z
    subst z
    have e1 := List.getElem?_eq_some_iff.mp h3
    have e2 := List.getElem?_eq_some_iff.mp hx
    have := (List.getElem_inj (h₀ := e1.1) (h₁ := e2.1) nd).mp (e1.2.trans e2.2.symm)
    omega
  simp [this]
theorem keyed_miss {names : List Str} {ws : List DictEntry} (hk : Keyed names ws) {x : Str} (hx : x ∉ names) : ∀ e ∈ ws, e.key.isStr x = false := by
  intro e he
  obtain ⟨i, hi, rfl⟩ := List.getElem_of_mem he
  obtain ⟨y, u, h3, h4⟩ := hk i _ (List.getElem?_eq_getElem hi)
  rw [h4, isStr_str]
  simp only [decide_eq_false_iff_not]
  rintro rfl
  exact hx (List.mem_of_getElem? h3)
theorem keyed_miss_at {names : List Str} {ws : List DictEntry} (nd : names.Nodup) (hk : Keyed names ws) {x : Str} (hx : names[ws.length]? = some x) : ∀ e ∈ ws, e.key.isStr x = false := by
  intro e he
  obtain ⟨i, hi, rfl⟩ := List.getElem_of_mem he
  obtain ⟨y, u, h3, h4⟩ := hk i _ (List.getElem?_eq_getElem hi)
  rw [h4, isStr_str]
  simp only [decide_eq_false_iff_not]
  rintro rfl
  have e1 := List.getElem?_eq_some_iff.mp h3
  have e2 := List.getElem?_eq_some_iff.mp hx
  have := (List.getElem_inj (h₀ := e1.1) (h₁ := e2.1) nd).mp (e1.2.trans e2.2.symm)
  omega
theorem keyed_norefs {names : List Str} {ws : List DictEntry} (hk : Keyed names ws) : ws.any (·.refKey) = false := by
  rw [List.any_eq_false]
  intro e he
  obtain ⟨i, hi, rfl⟩ := List.getElem_of_mem he
  obtain ⟨y, u, h3, h4⟩ := hk i _ (List.getElem?_eq_getElem hi)
  simp [DictEntry.refKey, h4]
theorem getL_at {names : List Str} {ws : List DictEntry} (nd : names.Nodup) (hk : Keyed names ws) {i : Nat} {e : DictEntry} {x : Str} (he : ws[i]? = some e) (hx : names[i]? = some x) : getL x ws = some (some e.val) := by
  unfold getL; rw [keyed_find nd hk he hx]
theorem getL_miss {ws : List DictEntry} {x : Str} (h : ∀ e ∈ ws, e.key.isStr x = false) (hr : ws.any (·.refKey) = false) : getL x ws = some none := by
  unfold getL
  have : ws.find? (·.key.isStr x) = none := by
    rw [List.find?_eq_none]
    intro e he
    rw [h e he]; simp
  rw [this, hr]; rfl

theorem putL_new (name : Str) (hsh : Int) (key v : Value) : ∀ {ws : List DictEntry}, (∀ e ∈ ws, e.key.isStr name = false) → putL name hsh key v ws = ws ++ [⟨hsh, key, v⟩]
  | [], _ => rfl
  | e :: r, h => by
    unfold putL
    rw [if_neg (by rw [h e (.head _)]; simp), putL_new name hsh key v fun e he => h e (.tail _ he)]
    rfl
theorem putL_set (name : Str) (hsh : Int) (key v : Value) : ∀ {ws : List DictEntry} {i : Nat} {e : DictEntry}, ws[i]? = some e → e.key.isStr name = true → (∀ (j : Nat) (q : DictEntry), j < i → ws[j]? = some q → q.key.isStr name = false) →
    putL name hsh key v ws = ws.set i ⟨e.hash, e.key, v⟩ :=
  by
  intro ws
  induction ws with
  | nil => intro i e h; exact nomatch h
  | cons e' r ih =>
    intro i e h hs hn
    unfold putL
    cases i with
    | zero => cases h; exact if_pos hs
    | succ i =>
      rw [if_neg (by rw [hn 0 e' (Nat.zero_lt_succ _) rfl]; exact Bool.false_ne_true), ih h hs fun j q hj hq => hn (j + 1) q (Nat.succ_lt_succ hj) hq]
      rfl

theorem inst_keyed {h : Heap} {fs : List V} {ws : List DictEntry} (hl : ws.length = fs.length) (hall : ∀ (i : Nat) (d : V), fs[i]? = some d → ∃ (e : DictEntry) (x : Str) (t : Tok), ws[i]? = some e ∧ X.names[i]? = some x ∧ e.key = .str x t ∧ VRep al h e.val d) : Keyed X.names ws := by
  intro i e he
  have hi := (List.getElem?_eq_some_iff.mp he).1
  rw [hl] at hi
  obtain ⟨e', x, t, a1, a2, a3, _⟩ := hall i _ (List.getElem?_eq_getElem hi)
  rw [he] at a1
  cases a1
  exact ⟨x, t, a2, a3⟩

theorem attr_sound (ok : X.Ok) (C : ClsOk X) (I : Inv X σ al s) {l i : Nat} {p : Addr × Addr} {fs : List V} {y : V} {nm : Str} (h0 : σ[l]? = some (.inst fs)) (hp : al[l]? = some p) (hy : fs[i]? = some y) (hx : X.names[i]? = some nm) {ex : Bool} :
    wpAny (model X.prog X.w) A (getAttr (.ref p.1) nm ex) (PostE X al s (y, σ)) E s := by
  obtain ⟨p1, g1, o1⟩ := I.at h0
  rw [hp] at g1; cases g1
  obtain ⟨e1, ws, n, e2, hl, hn, hall⟩ := o1
  have hk := inst_keyed hl hall
  obtain ⟨e, x, t, a1, a2, a3, a4⟩ := hall i y hy
  refine get_value (I.inK ok) (od := some (dictOf ws n)) (C := X.C) (ox := instObj X.C p.2) ⟨e1, rfl, rfl, e2⟩ C.ga (findObj_own C.hd (C.fields nm (List.mem_of_getElem? hx)) rfl ?_) (rep_handed a4) (PostE.here I a4 _)
  rw [lookIn_dict]
  exact getL_at C.nd hk a1 hx
end

noncomputable def dAttr (i : Nat) (a : DE) : DE := fun ρ σ => (a ρ σ).bind fun r => r.1.asRef.bind fun l => (ins r.2 l).bind fun fs => fs[i]?.bind fun y => some (y, r.2)

section
variable {X : Cx} {d : Nat} {sc : Scope} {vars : List Str}
theorem SndE.attr (ok : X.Ok) (C : ClsOk X) {e : Expr} {a : DE} {nm : Str} {i : Nat} {pos : Pos} (ha : SndE X d sc vars e a) (hx : X.names[i]? = some nm)
    (he : ∀ env, eval (.Attribute e nm pos) env = (do
      let o ← eval e env
      standAt pos.atName
      let r ← holding [o] (getAttr o nm true)
      letTemporaryGo e o r
      pure r)) : SndE X d sc vars (.Attribute e nm pos) (dAttr i a) := .mk fun A env ρ σ al s Q E R F I g => by
  rw [he env]
  refine wpAny_bind (ha.get R F I (g.bind.mono fun r g v s₁ al₁ F₁ I₁ st₁ r₁ => wpAny_bind (wpAny_standAt (wpAny_bind (wpAny_holding (r₁.asRef g fun l p hp g => I₁.ins hp g fun fs e0 _ g => ?_))))))
  obtain ⟨y, hy, g⟩ := g.bind.at
  exact wpAny_mono (attr_sound ok C I₁ e0 hp hy hx) (fun r s₂ h₂ => wpAny_bind (wpAny_letTemporaryGo (wpAny_pure (g _ _ (h₂.pre st₁))))) fun _ _ z => z
end
end Mine
set_option maxHeartbeats 200000
namespace Mine

noncomputable abbrev DF := List V → St → Option (V × St)
noncomputable def SndFn (X : Cx) (d : Nat) (f : Addr) (F : DF) : Prop :=
  ∀ (A : Around) (vs : List Value) (ds : List V) (σ : St) (al : Al) (s : Shared) (r : V × St) (E : Value → Shared → Prop), Room d A → Inv X σ al s → VReps al s.heap vs ds → F ds σ = some r →
    wpAny (model X.prog X.w) A (call (.ref f) vs) (PostE X al s r) E s

noncomputable def dCall (F : DF) (as : List DE) : DE := fun ρ σ => (dEs as ρ σ).bind fun r => F r.1 r.2

section
variable {X : Cx} {d : Nat} {sc : Scope} {vars : List Str} {env : Env} {ρ : Rho} {σ : St} {al al' : Al} {s s' : Shared} {A : Around} {E : Value → Shared → Prop}

theorem sndEs_plain {es : List Expr} {Ds : List DE} (h : SndEs X d sc vars es Ds) (pos : Pos) (env : Env) : (backTo pos (starEach es env)).any (·.1) = false := by
  induction h with
  | nil => rfl
  | cons h1 hs h2 ih => rw [hs env, backTo_plain, List.any_cons, ih]; rfl

theorem SndFn.get {f : Addr} {F : DF} {vs : List Value} {ds : List V} {Q : Value → Shared → Prop} (h : SndFn X d f F) (R : Room d A) (I : Inv X σ al s) (rv : VReps al s.heap vs ds) (g : Gets (F ds σ) fun r => ∀ v s', PostE X al s r v s' → Q v s') : wpAny (model X.prog X.w) A (call (.ref f) vs) Q E s := by
  obtain ⟨r, e, g⟩ := g.at
  exact wpAny_mono (h _ _ _ _ _ _ _ E R I rv e) g fun _ _ z => z
theorem evalArgs_get {es : List Expr} {Ds : List DE} {f : Value} {pos : Pos} {Q : Args → Shared → Prop} (h : SndEs X d sc vars es Ds) (R : Room d A) (F : FrameOk X sc env vars ρ al s.heap) (I : Inv X σ al s)
    (g : Gets (dEs Ds ρ σ) fun r => ∀ vs s' al', Inv X r.2 al' s' → Step al s al' s' NoOwn → VReps al' s'.heap vs r.1 → Q ⟨vs, []⟩ s') : wpAny (model X.prog X.w) A (evalArgs f true (backTo pos (starEach es env)) []) Q E s := by
  have key := spliced_get h pos A env ρ σ al s (fun vs s' => Q ⟨vs, []⟩ s') E R F I (g.mono fun r g _ vs s' p => by
    obtain ⟨al', I', st, rv⟩ := p
    exact g vs s' al' I' st rv)
  cases h with
  | nil => exact evalArgs_nil3 (g _ _ _ I Step.refl .nil)
  | cons h1 hs h2 =>
    rw [hs env, backTo_plain] at key ⊢
    exact evalArgs_plain key

theorem name_global (ok : X.Ok) {nm : Str} {p : Pos} {v : Value} {Q : Value → Shared → Prop} (F : FrameOk X sc env vars ρ al s.heap) (I : Inv X σ al s) (hx : sc.names.lookup nm = some .globalImplicit) (hd : (nm == ("__debug__" : Str)) = false)
    (e : nsIn X.K mainGlobals nm = some (some v)) (h : Q v s) : wpAny (model X.prog X.w) A (eval (.Name nm p) env) Q E s :=
  Name_function_global (by rw [F.scope]; exact F.kind) (by show env.scope.names.lookup nm = _; rw [F.scope]; exact hx) (loadGlobal_global (by rw [F.glob]; exact I.globals ok) (mg_of ok.inK ok.g e) h) hd
theorem name_builtin (ok : X.Ok) {nm : Str} {p : Pos} {v : Value} {Q : Value → Shared → Prop} (F : FrameOk X sc env vars ρ al s.heap) (I : Inv X σ al s) (hx : sc.names.lookup nm = some .globalImplicit) (hd : (nm == ("__debug__" : Str)) = false)
    (e : nsIn X.K mainGlobals nm = some Option.none) (hv : bootBuiltins nm = some v) (hn : nm ≠ "__name__") (h : Q v s) : wpAny (model X.prog X.w) A (eval (.Name nm p) env) Q E s :=
  Name_function_global (by rw [F.scope]; exact F.kind) (by show env.scope.names.lookup nm = _; rw [F.scope]; exact hx)
    (loadGlobal_builtin (by rw [F.glob]; exact I.globals ok) (mg_none_of ok.inK ok.g e) (by rw [F.blt]; exact I.builtinsNs ok) ((ok.builtins nm hn).trans hv) h) hd

theorem SndE.call (ok : X.Ok) {nm : Str} {p pos : Pos} {es : List Expr} {Ds : List DE} {f : Addr} {F : DF} (hx : sc.names.lookup nm = some .globalImplicit) (hd : (nm == ("__debug__" : Str)) = false)
    (e : nsIn X.K mainGlobals nm = some (some (.ref f))) (hk : keepIn X.K (.ref f) = true) (hf : SndFn X d f F) (h : SndEs X d sc vars es Ds) : SndE X d sc vars (.Call (.Name nm p) es [] pos) (dCall F Ds) := .mk fun A env ρ σ al s Q E R Fr I g =>
  Call_Name rfl (name_global ok Fr I hx hd e (callWith_of (P := X.K.In) (by rw [sndEs_plain h]; rfl) (keeps_K hk) (evalArgs_get h R Fr I (g.bind.mono fun r g vs s₁ al₁ I₁ st₁ r₁ => ⟨I₁.inK ok, hf.get R I₁ r₁ (g.mono fun q g v s' p => g v s' (p.pre st₁))⟩))))

noncomputable def vlen (a : V) (σ : St) : Option V := match a with
  | .str x => if x.length ≤ 16777216 then some (.int x.length) else none
  | .tup x => if x.length ≤ 16777216 then some (.int x.length) else none
  | .ref l => (lst σ l).bind fun x => if x.length ≤ 16777216 then some (.int x.length) else none
  | _ => none
noncomputable def bLen : DF := fun xs σ => (arg1 xs).bind fun a => (vlen a σ).bind fun v => some (v, σ)
noncomputable def ord1 : Txt → Option Nat
  | [c] => some c
  | _ => none
noncomputable def bOrd : DF := fun xs σ => (arg1 xs).bind fun a => a.asStr.bind fun x => (ord1 x).bind fun c => some (.int c, σ)
noncomputable def SndB (X : Cx) (d : Nat) (b : Value) (F : DF) : Prop :=
  ∀ (A : Around) (vs : List Value) (ds : List V) (σ : St) (al : Al) (s : Shared) (Q : Value → Shared → Prop) (E : Value → Shared → Prop), Room d A → Inv X σ al s → VReps al s.heap vs ds → Gets (F ds σ) (fun r => ∀ v s', PostE X al s r v s' → Q v s') →
    wpAny (model X.prog X.w) A (call b vs) Q E s

theorem len_lt {n : Nat} (h : n ≤ 16777216) : (n : Int) < 2 ^ 63 := Int.lt_of_le_of_lt (Int.ofNat_le.mpr h) (by decide)
theorem bLen_sound : SndB X d (.builtin "len") bLen := by
  intro A vs ds σ al s Q E R I rv g
  refine rv.arg1 g fun v a r g => ?_
  cases r with
  | str x t => exact g.bind.ite fun hl g => PyProof.Rows.len_str (by rw [toS_length]; exact Int.not_le.mpr (len_lt hl)) (by rw [toS_length]; exact g _ _ (PostE.here I (.int _ _) _))
  | @tup _ items xs ht rs =>
    have e : items.size = xs.length := rs.length
    exact g.bind.ite fun hl g => len_tuple ht (by rw [e]; exact len_lt hl) (by rw [e]; exact g _ _ (PostE.here I (.int _ _) _))
  | ref e => exact I.lst e g.bind fun items vs _ l rs hs g => g.ite fun hl g => call_len_list l.isList (by rw [hs]; exact len_lt hl) (by rw [hs]; exact g _ _ (PostE.here I (.int _ _) _))
  | _ => exact False.elim g
theorem bOrd_sound : SndB X d (.builtin "ord") bOrd := by
  intro A vs ds σ al s Q E R I rv g
  refine rv.arg1 g fun v a r g => r.asStr g fun x t g => ?_
  match x, g with
  | [], g => exact False.elim g
  | [c], g => exact P.ord_of_char (g _ _ (PostE.here I (.int _ _) _))
  | _ :: _ :: _, g => exact False.elim g

theorem SndE.callB (ok : X.Ok) {nm : Str} {p pos : Pos} {es : List Expr} {Ds : List DE} {id : String} {F : DF} (hx : sc.names.lookup nm = some .globalImplicit) (hd : (nm == ("__debug__" : Str)) = false)
    (e : nsIn X.K mainGlobals nm = some Option.none) (hv : bootBuiltins nm = some (.builtin id)) (hn : nm ≠ "__name__") (hf : SndB X d (.builtin id) F) (h : SndEs X d sc vars es Ds) : SndE X d sc vars (.Call (.Name nm p) es [] pos) (dCall F Ds) := .mk fun A env ρ σ al s Q E R Fr I g =>
  Call_Name rfl (name_builtin ok Fr I hx hd e hv hn (callWith_builtin (sndEs_plain h _ _) (evalArgs_get h R Fr I (g.bind.mono fun r g vs s₁ al₁ I₁ st₁ r₁ => hf _ _ _ _ _ _ _ E R I₁ r₁ (g.mono fun q g v s' p => g v s' (p.pre st₁))))))
theorem SndE.callT (ok : X.Ok) {nm : Str} {p pos : Pos} {es : List Expr} {Ds : List DE} {T : String} {F : DF} (hx : sc.names.lookup nm = some .globalImplicit) (hd : (nm == ("__debug__" : Str)) = false)
    (e : nsIn X.K mainGlobals nm = some Option.none) (hv : bootBuiltins nm = some (.type T)) (hn : nm ≠ "__name__") (hf : SndB X d (.type T) F) (h : SndEs X d sc vars es Ds) : SndE X d sc vars (.Call (.Name nm p) es [] pos) (dCall F Ds) := .mk fun A env ρ σ al s Q E R Fr I g =>
  Call_Name rfl (name_builtin ok Fr I hx hd e hv hn (PyProof.Rows.callWith_type (sndEs_plain h _ _) (evalArgs_get h R Fr I (g.bind.mono fun r g vs s₁ al₁ I₁ st₁ r₁ => hf _ _ _ _ _ _ _ E R I₁ r₁ (g.mono fun q g v s' p => g v s' (p.pre st₁))))))

noncomputable def bTuple : DF := fun xs σ => (arg1 xs).bind fun a => a.asRef.bind fun l => (lst σ l).bind fun x => if x.length ≤ 16777216 then some (.tup x, σ) else none
theorem keepAll_inv (I : Inv X σ al s) {h' : Heap} (hk : ∀ b o, s.heap.get? b = some o → h'.get? b = some o) (t : Nat) : Inv X σ al { s with heap := h', toks := t } where
  same := by obtain ⟨h, tk, rfl⟩ := I.same; exact ⟨_, t, rfl⟩
  keep b o' e := hk _ _ (I.keep b o' e)
  len := I.len
  objs i ob p e1 e2 := (I.objs i ob p e1 e2).keeps (fun _ _ e => e) (fun a items z => z.keeps hk) (fun _ e => hk _ _ e) (fun _ e => hk _ _ e)
  apart := I.apart
  fresh := I.fresh
theorem keepAll_step {own : Addr → Prop} {h' : Heap} (hk : ∀ b o, s.heap.get? b = some o → h'.get? b = some o) (t : Nat) : Step al s al { s with heap := h', toks := t } own :=
  ⟨fun _ _ e => e, fun l p e hl => absurd (List.getElem?_eq_some_iff.mp e).1 (Nat.not_lt.mpr hl), fun _ _ e _ _ => hk _ _ e, fun _ ob e _ => ⟨ob, hk _ _ e⟩, fun a items z => z.keeps hk⟩

theorem bTuple_sound : SndB X d (.type "tuple") bTuple := by
  intro A vs ds σ al s Q E R I rv g
  exact rv.arg1 g fun v a r g => r.asRef g fun l p e g => I.lst e g fun items vs _ l1 rs hs g => g.ite fun hl g => call_tuple_list l1.isList (fun h' hk =>
    g _ _ (PostE.pre (keepAll_step hk s.toks) ((keepAll_inv I hk s.toks).newTup (rs.mono (fun _ _ e => e) (fun a items z => z.keeps hk)) _))) (by rw [hs, sizeLine_val]; exact hl)

noncomputable def isStr : V → Option Bool
  | .str _ => some true
  | .tup _ => some false
  | _ => none
noncomputable def dIsStr (a : DE) : DE := fun ρ σ => (a ρ σ).bind fun r => (isStr r.1).bind fun c => some (.bool c, r.2)
theorem SndE.isStr (ok : X.Ok) {nm nm' : Str} {p p' pos : Pos} {a : Expr} {D : DE} (hx : sc.names.lookup nm = some .globalImplicit) (hd : (nm == ("__debug__" : Str)) = false)
    (e : nsIn X.K mainGlobals nm = some Option.none) (hv : bootBuiltins nm = some (.builtin "isinstance")) (hn : nm ≠ "__name__") (hx' : sc.names.lookup nm' = some .globalImplicit) (hd' : (nm' == ("__debug__" : Str)) = false)
    (e' : nsIn X.K mainGlobals nm' = some Option.none) (hv' : bootBuiltins nm' = some (.type "str")) (hn' : nm' ≠ "__name__") (ha : SndE X d sc vars a D)
    (hs : ∀ env, starEach [a, .Name nm' p'] env = [(false, eval a env), (false, eval (.Name nm' p') env)]) :
    SndE X d sc vars (.Call (.Name nm p) [a, .Name nm' p'] [] pos) (dIsStr D) := .mk fun A env ρ σ al s Q E R Fr I g => by
  refine Call_Name rfl (name_builtin ok Fr I hx hd e hv hn ?_)
  rw [hs env]
  refine callWith_builtin rfl (evalArgs_plain (spliced_cons (ha.get R Fr I (g.bind.mono fun r g v s₁ al₁ F₁ I₁ st₁ r₁ => spliced_cons (name_builtin ok F₁ I₁ hx' hd' e' hv' hn' (spliced_nil ?_))))))
  obtain ⟨x, σ₁⟩ := r
  dsimp only at r₁
  cases r₁ with
  | str x t => exact IsiPair.str_str (g _ _ (PostE.pre st₁ (PostE.here0 I₁ (.bool _))))
  | tup ht rs =>
    obtain ⟨o, ho, hc, _⟩ := ht
    exact IsiPair.tuple_str ho hc (g _ _ (PostE.pre st₁ (PostE.here I₁ (.bool _) _)))
  | _ => exact False.elim g
end
end Mine
set_option maxHeartbeats 200000
namespace Mine

noncomputable def kStr (x : V) (_ : St) : Bool := match x with | .str _ => true | _ => false
noncomputable def O.isList : O → Bool
  | .list _ => true
  | _ => false
noncomputable def O.isDict : O → Bool
  | .dict _ => true
  | _ => false
noncomputable def O.isInst : O → Bool
  | .inst _ => true
  | _ => false
noncomputable def kObj (p : O → Bool) (x : V) (σ : St) : Bool := match x with
  | .ref l => σ[l]?.any p
  | _ => false
section
variable (l : Nat) (σ : St) (p : O → Bool) (vs : List V) (es : List (Txt × V))
@[simp] theorem kObj_r : kObj p (.ref l) σ = σ[l]?.any p := rfl
@[simp] theorem isList_l : O.isList (.list vs) = true := rfl
@[simp] theorem isDict_d : O.isDict (.dict es) = true := rfl
@[simp] theorem isInst_i : O.isInst (.inst vs) = true := rfl
end
noncomputable abbrev kList := kObj O.isList
noncomputable abbrev kDict := kObj O.isDict
noncomputable abbrev kInst := kObj O.isInst

noncomputable def dMeth (k : V → St → Bool) (F : DF) (o : DE) (as : List DE) : DE := fun ρ σ => (o ρ σ).bind fun r => if k r.1 r.2 = true then (dEs as ρ r.2).bind fun q => F (r.1 :: q.1) q.2 else none

noncomputable def Finds (X : Cx) (k : V → St → Bool) (nm : Str) (f : Value) : Prop :=
  ∀ (A : Around) (pl : Sem Bool) (v : Value) (x : V) (σ : St) (al : Al) (s : Shared) (Q : Value × List Value → Shared → Prop) (E : Value → Shared → Prop), Inv X σ al s → VRep al s.heap v x → k x σ = true → Q (f, [v]) s →
    wpAny (model X.prog X.w) A (getMethod v nm pl) Q E s

section
variable {X : Cx} {d : Nat} {sc : Scope} {vars : List Str} {env : Env} {ρ : Rho} {σ : St} {al al' : Al} {s s' : Shared} {A : Around} {E : Value → Shared → Prop}

theorem SndE.methB {o : Expr} {nm : Str} {p pos : Pos} {es : List Expr} {Ds : List DE} {id : String} {k : V → St → Bool} {F : DF} {O' : DE} (ho : SndE X d sc vars o O') (hf : Finds X k nm (.builtin id)) (hF : SndB X d (.builtin id) F) (h : SndEs X d sc vars es Ds)
    (he : ∀ env, ∃ pl, eval (.Call (.Attribute o nm p) es [] pos) env = (do
      let ov ← eval o env
      standAt p.atName
      let (f, first) ← holding [ov] (getMethod ov nm pl)
      callWith pos f first (backTo pos (starEach es env)) (backToKw pos (keywordEach [] env)))) : SndE X d sc vars (.Call (.Attribute o nm p) es [] pos) (dMeth k F O' Ds) := .mk fun A env ρ σ al s Q E R Fr I g => by
  obtain ⟨pl, he⟩ := he env
  refine methodCall_KW (pl := pl) (ho.get R Fr I (g.bind.mono fun r g v s₁ al₁ F₁ I₁ st₁ r₁ => g.ite fun hk g => hf _ _ _ _ _ _ _ _ _ I₁ r₁ hk ?_)) he
  exact Calls.callWith_builtin (sndEs_plain h _ _) (evalArgs_get h R F₁ I₁ (g.bind.mono fun q g vs s₂ al₂ I₂ st₂ r₂ => hF _ _ _ _ _ _ _ E R I₂ (.cons (r₁.step st₂) r₂) (g.mono fun w g v s' p => g v s' (p.pre (st₁.trans st₂)))))

theorem SndE.methF (ok : X.Ok) {o : Expr} {nm : Str} {p pos : Pos} {es : List Expr} {Ds : List DE} {f : Addr} {k : V → St → Bool} {F : DF} {O' : DE} (ho : SndE X d sc vars o O') (hf : Finds X k nm (.ref f)) (hk' : keepIn X.K (.ref f) = true) (hF : SndFn X d f F) (h : SndEs X d sc vars es Ds)
    (he : ∀ env, ∃ pl, eval (.Call (.Attribute o nm p) es [] pos) env = (do
      let ov ← eval o env
      standAt p.atName
      let (f, first) ← holding [ov] (getMethod ov nm pl)
      callWith pos f first (backTo pos (starEach es env)) (backToKw pos (keywordEach [] env)))) : SndE X d sc vars (.Call (.Attribute o nm p) es [] pos) (dMeth k F O' Ds) := .mk fun A env ρ σ al s Q E R Fr I g => by
  obtain ⟨pl, he⟩ := he env
  refine methodCall_KW (pl := pl) (ho.get R Fr I (g.bind.mono fun r g v s₁ al₁ F₁ I₁ st₁ r₁ => g.ite fun hk g => hf _ _ _ _ _ _ _ _ _ I₁ r₁ hk ?_)) he
  exact callWith_of (P := X.K.In) (by rw [sndEs_plain h]; rfl) (keeps_K hk') (evalArgs_get h R F₁ I₁ (g.bind.mono fun q g vs s₂ al₂ I₂ st₂ r₂ => ⟨I₂.inK ok, hF.get R I₂ (.cons (r₁.step st₂) r₂) (g.mono fun w g v s' p => g v s' (p.pre (st₁.trans st₂)))⟩))

theorem finds_str {nm : Str} {id : String} (slot : Slot "str" nm id) (ty : typeOf (.builtin id) = pure (.type "method_descriptor")) : Finds X kStr nm (.builtin id) := by
  intro A pl v x σ al s Q E I r hk h
  cases r <;> first | cases hk | skip
  exact getMethod_builtin (typeIs_str _ _ _) F.plainAttrs_str slot ty GM.noRef h
set_option tactic.hygienic true in
theorem kObj_e {k : O → Bool} {v : Value} {x : V} {P : Value → Prop} (I : Inv X σ al s) (r : VRep al s.heap v x) (hk : kObj k x σ = true) (p : ∀ q o, k o = true → ORep X al s.heap o q → P (.ref q.1)) : P v := by
  cases r with
  | ref e =>
    rename_i l q
    have hk : σ[l]?.any k = true := hk
    cases h1 : σ[l]? with
    | none => rw [h1] at hk; exact nomatch hk
    | some o => rw [h1] at hk; exact p _ o hk (I.objs _ o _ h1 e)
  | _ => exact nomatch hk
theorem finds_list {nm : Str} {id : String} (slot : Slot "list" nm id) (ty : typeOf (.builtin id) = pure (.type "method_descriptor")) : Finds X kList nm (.builtin id) := by
  intro A pl v x σ al s Q E I r hk h
  refine kObj_e (P := fun v => Q (.builtin id, [v]) s → wpAny (model X.prog X.w) A (getMethod v nm pl) Q E s) I r hk (fun q o hk r h => ?_) h
  cases o with
  | list vs =>
    obtain ⟨i1, ⟨n, e⟩, rs, _⟩ := r
    exact getMethod_builtin ⟨_, e, rfl⟩ PySem.F.plainAttrs_list slot ty (fun a z => by cases z; exact ⟨_, e, rfl⟩) h
  | _ => exact nomatch hk
theorem finds_dict {nm : Str} {id : String} (slot : Slot "dict" nm id) (ty : typeOf (.builtin id) = pure (.type "method_descriptor")) : Finds X kDict nm (.builtin id) := by
  intro A pl v x σ al s Q E I r hk h
  refine kObj_e (P := fun v => Q (.builtin id, [v]) s → wpAny (model X.prog X.w) A (getMethod v nm pl) Q E s) I r hk (fun q o hk r h => ?_) h
  cases o with
  | dict es =>
    obtain ⟨_, _, kvs, hd, _⟩ := r
    exact getMethod_builtin hd.typeIs PySem.F.plainAttrs_dict slot ty hd.mapOf.noDict h
  | _ => exact nomatch hk
theorem finds_inst (ok : X.Ok) (C : ClsOk X) {nm : Str} {f : Addr} (hn : nm ∉ X.names) (hf : findIn X.K (.ref X.C) nm = some (some (.ref f))) (ht : typeIn X.K (.ref f) = some (.type "function")) : Finds X kInst nm (.ref f) := by
  intro A pl v x σ al s Q E I r hk h
  refine kObj_e (P := fun v => Q (.ref f, [v]) s → wpAny (model X.prog X.w) A (getMethod v nm pl) Q E s) I r hk (fun p o hk r h => ?_) h
  cases o with
  | inst fs =>
    obtain ⟨e1, ws, n, e2, hl, hn', hall⟩ := r
    have hky := inst_keyed hl hall
    refine method_fn (I.inK ok) (od := some (dictOf ws n)) (C := X.C) (ox := instObj X.C p.2) ⟨e1, rfl, rfl, e2⟩ C.ga C.gattr hf ht ?_ h
    unfold shadowIn
    dsimp only
    rw [lookIn_dict, getL_miss (keyed_miss hky hn) (keyed_norefs hky)]
    rfl
  | _ => exact nomatch hk

noncomputable def bLower : DF := fun xs σ => (arg1 xs).bind fun a => a.asStr.bind fun x => if x.length ≤ 16777216 ∧ (∀ c ∈ x, c < 128) then some (.str (x.map lo1), σ) else none
noncomputable def bUpper : DF := fun xs σ => (arg1 xs).bind fun a => a.asStr.bind fun x => if x.length ≤ 16777216 ∧ (∀ c ∈ x, c < 128) then some (.str (x.map up1), σ) else none
noncomputable def isAln (c : Nat) : Bool := (decide (48 ≤ c) && decide (c ≤ 57)) || (decide (65 ≤ c) && decide (c ≤ 90)) || (decide (97 ≤ c) && decide (c ≤ 122))
noncomputable def bIsalnum : DF := fun xs σ => (arg1 xs).bind fun a => a.asStr.bind fun x => if ∀ c ∈ x, c < 128 then some (.bool (!x.isEmpty && x.all isAln), σ) else none
noncomputable def bStarts : DF := fun xs σ => (arg2 xs).bind fun a => a.1.asStr.bind fun x => a.2.asStr.bind fun y => some (.bool (y.isPrefixOf x), σ)
noncomputable def bFind : DF := fun xs σ => (arg3 xs).bind fun a => a.1.asStr.bind fun x => a.2.1.asStr.bind fun y => a.2.2.asInt.bind fun i => some (.int (Txt.find3 (toS x) (toS y) i), σ)
noncomputable def bDictGet : DF := fun xs σ => (arg3 xs).bind fun a => a.1.asRef.bind fun l => a.2.1.asStr.bind fun k => (dct σ l).bind fun es => some ((es.lookup k).getD a.2.2, σ)
noncomputable def bPop : DF := fun xs σ => (arg1 xs).bind fun a => a.asRef.bind fun l => (lst σ l).bind fun vs => if vs.length ≤ 16777216 then vs.getLast?.bind fun y => some (y, σ.set l (.list vs.dropLast)) else none
noncomputable def bAppend : DF := fun xs σ => (arg2 xs).bind fun a => a.1.asRef.bind fun l => (lst σ l).bind fun vs => if vs.length < 16777216 then some (.none, σ.set l (.list (vs ++ [a.2]))) else none
noncomputable def bExtend : DF := fun xs σ => (arg2 xs).bind fun a => a.1.asRef.bind fun l => a.2.asRef.bind fun k => if l ≠ k then (lst σ l).bind fun vs => (lst σ k).bind fun us => if vs.length + us.length ≤ 16777216 then some (.none, σ.set l (.list (vs ++ us))) else none else none
noncomputable def boolsOf : List V → Option (List Bool)
  | [] => some []
  | x :: r => x.asBool.bind fun b => (boolsOf r).bind fun bs => some (b :: bs)
noncomputable def bIndexTrue : DF := fun xs σ => (arg2 xs).bind fun a => a.1.asRef.bind fun l => a.2.asBool.bind fun t => if t = true then (lst σ l).bind fun vs => (boolsOf vs).bind fun bs => if bs.idxOf true < bs.length ∧ bs.length ≤ 16777216 then some (.int (bs.idxOf true), σ) else none else none

theorem tooLong_no {n : Nat} (h : n ≤ 16777216) : Builtin.Str.tooLong n = false := decide_eq_false (by rw [sizeLine_val]; exact Nat.not_lt.mpr h)
theorem isAln_ok : ∀ c, c < 128 → Unicode.isAlnum c = isAln c := by decide +kernel

theorem bLower_sound : SndB X d (.builtin "str.lower") bLower := fun A vs ds σ al s Q E R I rv g =>
  rv.arg1 g fun v a r g => r.asStr g fun x t g => g.ite fun hx g => by
    have e : Txt.lower (toS x) = toS (x.map lo1) := by rw [lower_ascii (x := toS x) hx.2]; exact congrArg Str.mk (List.map_toArray ..)
    exact SC.lower (by rw [e, toS_length, List.length_map]; exact tooLong_no hx.1) (by rw [e]; exact g _ _ (PostE.here I (.str _ _) _))
theorem bUpper_sound : SndB X d (.builtin "str.upper") bUpper := fun A vs ds σ al s Q E R I rv g =>
  rv.arg1 g fun v a r g => r.asStr g fun x t g => g.ite fun hx g => by
    have e : Txt.upper (toS x) = toS (x.map up1) := by rw [upper_ascii (x := toS x) hx.2]; exact congrArg Str.mk (List.map_toArray ..)
    exact SC.upper (by rw [e, toS_length, List.length_map]; exact tooLong_no hx.1) (by rw [e]; exact g _ _ (PostE.here I (.str _ _) _))
theorem isalnum_e {x : Txt} (hx : ∀ c ∈ x, c < 128) : Txt.isalnum (toS x) = (!x.isEmpty && x.all isAln) := by
  unfold Txt.isalnum
  rw [toS_length]
  have e1 : (decide (x.length > 0)) = !x.isEmpty := by cases x <;> rfl
  have e2 : (toS x).cps.all Unicode.isAlnum = x.all isAln := by
    rw [List.all_toArray, Bool.eq_iff_iff, List.all_eq_true, List.all_eq_true]
    exact ⟨fun h c hc => by rw [← isAln_ok c (hx c hc)]; exact h c hc, fun h c hc => by rw [isAln_ok c (hx c hc)]; exact h c hc⟩
  rw [e1, e2]
theorem bIsalnum_sound : SndB X d (.builtin "str.isalnum") bIsalnum := fun A vs ds σ al s Q E R I rv g =>
  rv.arg1 g fun v a r g => r.asStr g fun x t g => g.ite fun hx g => SC.isalnum (by rw [isalnum_e hx]; exact g _ _ (PostE.here0 I (.bool _)))
theorem starts_e (x y : Txt) : Txt.startswith (toS x) (toS y) = y.isPrefixOf x := by
  unfold Txt.startswith Builtin.Str.subAt
  rw [toS_length, toS_length, Bool.eq_iff_iff, List.isPrefixOf_iff_prefix, List.prefix_iff_eq_take]
  simp only [toS, Nat.zero_add, Bool.and_eq_true, decide_eq_true_eq, beq_iff_eq]
  constructor
  · rintro ⟨_, h⟩
    have := congrArg Array.toList h
    simpa using this.symm
  · intro h
    refine ⟨by rw [h, List.length_take]; exact Nat.min_le_right .., ?_⟩
    apply Array.toList_inj.mp
    simpa using h.symm
theorem bStarts_sound : SndB X d (.builtin "str.startswith") bStarts := fun A vs ds σ al s Q E R I rv g =>
  rv.arg2 g fun v w a b r r2 g => r.asStr g fun x t g => r2.asStr g fun y u g => SC.startswith (by rw [starts_e]; exact g _ _ (PostE.here0 I (.bool _)))
theorem bFind_sound : SndB X d (.builtin "str.find") bFind := fun A vs ds σ al s Q E R I rv g =>
  rv.arg3 g fun v w u a b c r r2 r3 g => r.asStr g fun x t g => r2.asStr g fun y u g => r3.asInt g fun i n g => SC.find3 (g _ _ (PostE.here I (.int _ _) _))
theorem bDictGet_sound : SndB X d (.builtin "dict.get") bDictGet := fun A vs ds σ al s Q E R I rv g =>
  rv.arg3 g fun v w u a b c r r2 r3 g => r.asRef g fun l p e g => r2.asStr g fun k t g => I.dct e g fun es kvs _ _ lo hd hk hv g => by
    refine call_meetsIn PySem.F.slot_dict_get hd.typeIs PySem.F.entry_dict_get (PySem.F.args_dict_get_3 _ _ _) (meets_dict_get_default (PySem.strKind X.prog X.w) p.1 (strKind_is X.prog X.w (toS k) _) lo _) ⟨_, hd.mapOf, g _ _ ?_⟩
    cases e1 : es.lookup k with
    | none => rw [findBy_none hk hv e1]; exact PostE.here I r3 _
    | some y =>
      obtain ⟨v, e2, rv⟩ := findBy_of_rep hk hv e1
      rw [e2]; exact PostE.here I rv _
theorem Inv.put (I : Inv X σ al s) {l : Nat} {p : Addr × Addr} {us ws : List V} {items its : Array Value} {n : Nat} {h' : Heap} {v : Value} {y : V} (h1 : al[l]? = some p) (h0 : σ[l]? = some (.list us)) (hs : Heap.SameBut p.1 s.heap h') (hg : h'.PlainList p.1 its)
    (hr : ∀ {al' s'}, Step al s al' s' NoOwn → VReps al' s'.heap its.toList ws) (hv : VRep al s.heap v y) : PostE X al s (y, σ.set l (.list ws)) v { s with heap := h', toks := s.toks } := by
  obtain ⟨_, _, _, hp⟩ := I.objs l _ p h0 h1
  obtain ⟨n', hg'⟩ := id hg
  have st := I.changeStep h0 h1 (.inl rfl) hs hg' s.toks NoOwn
  exact ⟨al, I.change (o' := .list ws) h0 h1 (.inl rfl) rfl hs ⟨its, hg, hr st, hp⟩ s.toks, st, hv.step st⟩
theorem bPop_sound : SndB X d (.builtin "list.pop") bPop := fun A vs ds σ al s Q E R I rv g =>
  rv.arg1 g fun v a r g => r.asRef g fun l p e g => I.lst e g fun items us e0 pl rs hl g => g.ite fun hlen g => by
    obtain ⟨y, hy, g⟩ := g.bind.at
    obtain ⟨n, hn⟩ := pl
    rw [List.getLast?_eq_getElem?] at hy
    obtain ⟨y', hy', ry⟩ := rs.get hy
    refine Copied.pop_at hn (y := y') (by rw [hl, ← Array.getElem?_toList]; exact hy') (fun h' hs hg => g _ _ (I.put (us := us) (items := items) (n := n) e e0 hs ⟨_, hg⟩ (fun st => ?_) ry)) (by rw [hl, sizeLine_val]; exact hlen)
    rw [List.dropLast_eq_take, Array.toList_pop, List.dropLast_eq_take, Array.length_toList, hl]
    exact (rs.take (us.length - 1)).step st
theorem bAppend_sound : SndB X d (.builtin "list.append") bAppend := fun A vs ds σ al s Q E R I rv g =>
  rv.arg2 g fun v w a b r r2 g => r.asRef g fun l p e g => I.lst e g fun items us e0 pl rs hl g => g.ite fun hlen g =>
    wpAny_list_append_plain pl (fun h' hg hs => g _ _ (I.put (us := us) (items := items) (n := 0) e e0 hs hg (fun st => by rw [Array.toList_push]; exact (rs.step st).append (.cons (r2.step st) .nil)) .none)) (by rw [hl, sizeLine_val]; exact Nat.le_of_lt hlen)
theorem bExtend_sound : SndB X d (.builtin "list.extend") bExtend := fun A vs ds σ al s Q E R I rv g =>
  rv.arg2 g fun v w a b r r2 g => r.asRef g fun l p e g => r2.asRef g fun k q e' g => g.ite fun hne g => I.lst e g fun items us e0 pl rs hl g => I.lst e' g fun items2 ws e5 pl2 rs2 hl2 g => g.ite fun hlen g => by
    obtain ⟨n, hn⟩ := pl
    obtain ⟨n2, hn2⟩ := pl2
    have hg := Heap.get?_update_self (h := s.heap) (f := Obj.mapSeq fun x => x ++ items2) (a := p.1) hn rfl
    have hs := Heap.SameBut.update s.heap p.1 (Obj.mapSeq fun x => x ++ items2)
    refine call_meets PySem.F.slot_list_extend ⟨_, hn, rfl⟩ PySem.F.entry_list_extend (PySem.F.args_list_extend_2 _ _) (PySem.AutoSeq1.list_extend_list_list_0 p.1 items n q.1 items2 n2 ?_ (by rw [hl, sizeLine_val]; exact Nat.le_trans (Nat.le_add_right _ _) hlen) (by rw [hl, hl2, sizeLine_val]; exact Nat.le_succ_of_le hlen)) ⟨hn, hn2, g _ _ (I.put (us := us) (items := items) (n := n) e e0 hs ⟨_, hg⟩ (fun st => by rw [Array.toList_append]; exact (rs.step st).append (rs2.step st)) .none)⟩
    clear g hs hg
    simp only [Builtin.List.listTooLong, hl, hl2, sizeLine_val, Bool.and_eq_true, decide_eq_true_eq]; omega
theorem bools_rep {al : Al} {h : Heap} {vs : List Value} {ds : List V} (r : VReps al h vs ds) : ∀ ts, boolsOf ds = some ts → vs = ts.map Value.bool := by
  refine r.ind (fun ts e => by cases e; rfl) fun {v vs d ds} rv _ ih ts e => ?_
  have e : Gets (boolsOf (d :: ds)) (· = ts) := .of e rfl
  refine rv.asBool e fun b e => ?_
  obtain ⟨bs, e1, e⟩ := e.bind.at
  cases e
  rw [ih bs e1]; rfl
theorem bIndexTrue_sound : SndB X d (.builtin "list.index") bIndexTrue := fun A vs ds σ al s Q E R I rv g =>
  rv.arg2 g fun v w a b r r2 g => r.asRef g fun l p e g => r2.asBool g fun t g => g.ite fun ht g1 => by
    subst ht
    refine I.lst e g1 fun items us e0 pl rs hl g => ?_
    obtain ⟨bs, hb, g⟩ := g.bind.at
    refine g.ite fun hlt g => ?_
    obtain ⟨n, hn⟩ := pl
    have hv := bools_rep rs bs hb
    have hsz : items.size = bs.length := by rw [← Array.length_toList, hv, List.length_map]
    have hget (m : Nat) (hm : m < items.size) : items[m] = .bool (bs[m]'(by rw [← hsz]; exact hm)) := by
      have : items.toList[m]'(by rw [Array.length_toList]; exact hm) = .bool (bs[m]'(by rw [← hsz]; exact hm)) := by
        simp [hv]
      rw [← this]; exact (Array.getElem_toList ..).symm
    refine call_meets PySem.F.slot_list_index ⟨_, hn, rfl⟩ PySem.F.entry_list_index (PySem.F.args_list_index_2 _ _)
      (PySem.SeqAt.list_indexAt p.1 items n none #[] (.bool true) (fun v => v == .bool true) (bs.idxOf true) (by rw [hsz]; exact hlt.1) (by clear g; have := hlt.2; have := hlt.1; omega) ?_ ?_) ⟨hn, ?_, g _ _ (PostE.here I (.int _ _) _)⟩
    · rw [hget]
      simp
    · intro m hm hj
      rw [hget]
      have := List.not_of_lt_findIdx (p := (· == true)) (xs := bs) (i := m) hj
      simpa using this
    · intro y hy
      obtain ⟨i, hi, rfl⟩ := Array.getElem_of_mem hy
      rw [hget]
      have e9 : ∀ b : Bool, (Value.bool b == Value.bool true) = (b == true) := by intro b; cases b <;> rfl
      rw [e9]
      exact SeqAt.EqAt.bool_bool _ _
end
end Mine
set_option maxHeartbeats 200000
namespace Mine

inductive Ctl where
  | next
  | brk
  | ret (v : V)
noncomputable abbrev DS := Rho → St → Option (Ctl × Rho × St)

inductive FlowRep (al : Al) (h : Heap) : Flow → Ctl → Prop
  | next : FlowRep al h .next .next
  | brk : FlowRep al h .brk .brk
  | ret {v : Value} {d : V} : VRep al h v d → FlowRep al h (.ret v) (.ret d)

noncomputable def PostS (X : Cx) (sc : Scope) (env : Env) (vars : List Str) (al : Al) (s : Shared) (r : Ctl × Rho × St) (f : Flow) (s' : Shared) : Prop :=
  ∃ al', Inv X r.2.2 al' s' ∧ Step al s al' s' (Own env) ∧ FrameOk X sc env vars r.2.1 al' s'.heap ∧ FlowRep al' s'.heap f r.1

noncomputable def SndS (X : Cx) (d : Nat) (sc : Scope) (vars : List Str) (ss : List Stmt) (D : DS) : Prop :=
  ∀ (A : Around) (env : Env) (ρ : Rho) (σ : St) (al : Al) (s : Shared) (r : Ctl × Rho × St) (E : Value → Shared → Prop), Room d A → FrameOk X sc env vars ρ al s.heap → Inv X σ al s → D ρ σ = some r →
    wpAny (model X.prog X.w) A (execs ss env) (PostS X sc env vars al s r) E s
noncomputable def SndS1 (X : Cx) (d : Nat) (sc : Scope) (vars : List Str) (st : Stmt) (D : DS) : Prop :=
  ∀ (A : Around) (env : Env) (ρ : Rho) (σ : St) (al : Al) (s : Shared) (r : Ctl × Rho × St) (E : Value → Shared → Prop), Room d A → FrameOk X sc env vars ρ al s.heap → Inv X σ al s → D ρ σ = some r →
    wpAny (model X.prog X.w) A (exec st env) (PostS X sc env vars al s r) E s

noncomputable def sNil : DS := fun ρ σ => some (.next, ρ, σ)
noncomputable def sStuck : DS := fun _ _ => none
noncomputable def sSeq (a b : DS) : DS := fun ρ σ => (a ρ σ).bind fun r => match r.1 with
  | .next => b r.2.1 r.2.2
  | .brk => some (.brk, r.2.1, r.2.2)
  | .ret v => some (.ret v, r.2.1, r.2.2)
noncomputable def sSet (i : Nat) (e : DE) : DS := fun ρ σ => (e ρ σ).bind fun r => some (.next, ρ.set i (some r.1), r.2)
noncomputable def setMany : List Nat → List V → Rho → Rho
  | i :: is, v :: vs, ρ => setMany is vs (ρ.set i (some v))
  | _, _, ρ => ρ
noncomputable def sSetT (is : List Nat) (e : DE) : DS := fun ρ σ => match e ρ σ with
  | some (.tup vs, σ) => if vs.length = is.length then some (.next, setMany is vs ρ, σ) else none
  | _ => none
noncomputable def sAug (op : Operator) (i : Nat) (e : DE) : DS := fun ρ σ => (dVar i ρ σ).bind fun a => (e ρ σ).bind fun r => (vaug op a.1 r.1 r.2).bind fun q => some (.next, ρ.set i (some q.1), q.2)
noncomputable def sRet (e : DE) : DS := fun ρ σ => (e ρ σ).bind fun r => some (.ret r.1, ρ, r.2)
noncomputable def sExpr (e : DE) : DS := fun ρ σ => (e ρ σ).bind fun r => some (.next, ρ, r.2)
noncomputable def sBrk : DS := fun ρ σ => some (.brk, ρ, σ)
noncomputable def sIf (t : DT) (a b : DS) : DS := fun ρ σ => (t ρ σ).bind fun r => match r.1 with
  | true => a ρ r.2
  | false => b ρ r.2

section
variable {X : Cx} {d : Nat} {sc : Scope} {vars : List Str} {env : Env} {ρ : Rho} {σ : St} {al al' al'' : Al} {s s' s'' : Shared} {A : Around} {E : Value → Shared → Prop}

theorem Step.mono {own own' : Addr → Prop} (x : Step al s al' s' own) (h : ∀ b, own b → own' b) : Step al s al' s' own' :=
  ⟨x.pre, fun l p e hl => ⟨(x.new l p e hl).1.imp (fun z => z) (h _), (x.new l p e hl).2.imp (fun z => z) (h _)⟩, fun b o e hn ho => x.keep b o e hn (fun z => ho (h b z)), fun b o e ho => x.ex b o e fun z => ho (h b z), x.tup⟩
theorem Step.drop {own own' : Addr → Prop} (x : Step al s al' s' own) (h : ∀ b, own b → own' b ∨ s.heap.get? b = none) : Step al s al' s' own' :=
  ⟨x.pre, fun l p e hl => ⟨(x.new l p e hl).1.elim .inl fun z => (h _ z).symm, (x.new l p e hl).2.elim .inl fun z => (h _ z).symm⟩,
    fun b o e hn ho => x.keep b o e hn (fun z => (h b z).elim ho fun z' => by rw [z'] at e; cases e), fun b o e ho => x.ex b o e (fun z => (h b z).elim ho fun z' => by rw [z'] at e; cases e), x.tup⟩

theorem PostS.pre {al₀ : Al} {s₀ : Shared} {r : Ctl × Rho × St} {f : Flow} (x : Step al₀ s₀ al s (Own env)) (p : PostS X sc env vars al s r f s') : PostS X sc env vars al₀ s₀ r f s' := by
  obtain ⟨al', I, st, F, fr⟩ := p; exact ⟨al', I, x.trans st, F, fr⟩

noncomputable def Then (X : Cx) (sc : Scope) (vars : List Str) (env : Env) (al : Al) (s : Shared) (Q : Flow → Shared → Prop) (r : Ctl × Rho × St) : Prop := ∀ f s', PostS X sc env vars al s r f s' → Q f s'
theorem Then.pre {al₀ : Al} {s₀ : Shared} {Q : Flow → Shared → Prop} {r : Ctl × Rho × St} (h : Then X sc vars env al₀ s₀ Q r) (x : Step al₀ s₀ al s (Own env)) : Then X sc vars env al s Q r := fun f s' p => h f s' (p.pre x)
theorem SndS.mk {ss : List Stmt} {D : DS} (h : ∀ (A : Around) (env : Env) (ρ : Rho) (σ : St) (al : Al) (s : Shared) (Q : Flow → Shared → Prop) (E : Value → Shared → Prop), Room d A → FrameOk X sc env vars ρ al s.heap → Inv X σ al s → Gets (D ρ σ) (Then X sc vars env al s Q) →
    wpAny (model X.prog X.w) A (execs ss env) Q E s) : SndS X d sc vars ss D := fun A env ρ σ al s _ E R F I hD => h A env ρ σ al s _ E R F I (.of hD fun _ _ p => p)
theorem SndS1.mk {ss : Stmt} {D : DS} (h : ∀ (A : Around) (env : Env) (ρ : Rho) (σ : St) (al : Al) (s : Shared) (Q : Flow → Shared → Prop) (E : Value → Shared → Prop), Room d A → FrameOk X sc env vars ρ al s.heap → Inv X σ al s → Gets (D ρ σ) (Then X sc vars env al s Q) →
    wpAny (model X.prog X.w) A (exec ss env) Q E s) : SndS1 X d sc vars ss D := fun A env ρ σ al s _ E R F I hD => h A env ρ σ al s _ E R F I (.of hD fun _ _ p => p)
theorem SndS.get {ss : List Stmt} {D : DS} {Q : Flow → Shared → Prop} (S : SndS X d sc vars ss D) (R : Room d A) (F : FrameOk X sc env vars ρ al s.heap) (I : Inv X σ al s) (g : Gets (D ρ σ) (Then X sc vars env al s Q)) : wpAny (model X.prog X.w) A (execs ss env) Q E s := by
  obtain ⟨r, h, g⟩ := g.at
  exact wpAny_mono (S A env ρ σ al s r E R F I h) g fun _ _ z => z
theorem SndS1.get {ss : Stmt} {D : DS} {Q : Flow → Shared → Prop} (S : SndS1 X d sc vars ss D) (R : Room d A) (F : FrameOk X sc env vars ρ al s.heap) (I : Inv X σ al s) (g : Gets (D ρ σ) (Then X sc vars env al s Q)) : wpAny (model X.prog X.w) A (exec ss env) Q E s := by
  obtain ⟨r, h, g⟩ := g.at
  exact wpAny_mono (S A env ρ σ al s r E R F I h) g fun _ _ z => z

theorem not_tup_of_ns {h : Heap} {a : Addr} {m : Str → Option Value} (hn : h.Ns a m) : ∀ items, ¬ IsTup h a items := by
  rintro items ⟨o, ho, _, n, hd⟩
  obtain ⟨o', es, ep, ho', hd', _⟩ := hn
  rw [ho] at ho'; cases ho'
  rw [hd] at hd'; cases hd'
theorem not_tup_of_cell {h : Heap} {a : Addr} {v : Option Value} (hn : h.IsCell a v) : ∀ items, ¬ IsTup h a items := by
  rintro items ⟨o, ho, _, n, hd⟩
  obtain ⟨o', ho', hd'⟩ := hn
  rw [ho] at ho'; cases ho'
  rw [hd] at hd'; cases hd'

theorem nodup_get {vars : List Str} (nd : vars.Nodup) {i j : Nat} {x : Str} (hi : vars[i]? = some x) (hj : vars[j]? = some x) : i = j := by
  have e1 := List.getElem?_eq_some_iff.mp hi
  have e2 := List.getElem?_eq_some_iff.mp hj
  exact (List.getElem_inj (h₀ := e1.1) (h₁ := e2.1) nd).mp (e1.2.trans e2.2.symm)

theorem get_set {ρ : Rho} {i j : Nat} {v : V} {e : V} (h : (ρ.set i (some v))[j]? = some (some e)) : (i = j ∧ e = v) ∨ (i ≠ j ∧ ρ[j]? = some (some e)) := by
  by_cases hij : i = j
  · subst hij
    rw [List.getElem?_set] at h
    simp only [if_true] at h
    split at h
    · cases h; exact .inl ⟨rfl, rfl⟩
    · cases h
  · rw [List.getElem?_set_ne hij] at h; exact .inr ⟨hij, h⟩

theorem store_sound {x : Str} {i : Nat} {v : Value} {dv : V} {Q : Unit → Shared → Prop} (F : FrameOk X sc env vars ρ al s.heap) (I : Inv X σ al s) (hx : vars[i]? = some x) (rv : VRep al s.heap v dv)
    (k : ∀ s', FrameOk X sc env vars (ρ.set i (some dv)) al s'.heap → Inv X σ al s' → Step al s al s' (Own env) → Q () s') : wpAny (model X.prog X.w) A (storeName env x v) Q E s := by
  obtain ⟨m, cm, hn, hc, hv⟩ := F.mc
  have hkind : env.kindOf x = sc.names.lookup x := by show env.scope.names.lookup x = _; rw [F.scope]
  rcases F.kinds i x hx with hl | ⟨hl, hs⟩
  · refine wpAny_storeName_local (by rw [hkind]; exact hl) hn ?_ (by rw [F.scope, F.kind]; rfl)
    intro h' hn' hsb
    have own : Own env env.locals := .inl rfl
    obtain ⟨ob, es, ep, hob, _⟩ := id hn'
    have st : Step al s al { s with heap := h', toks := s.toks + 1 } (Own env) := Step.other hsb own (not_tup_of_ns hn) hob _
    have inv : Inv X σ al { s with heap := h', toks := s.toks + 1 } := I.other hsb (F.own _ own).1 (F.own _ own).2 (not_tup_of_ns hn) _
    refine k _ ⟨F.scope, F.kind, F.glob, F.blt, ⟨_, cm, hn', fun n c e => (hc n c e).sameBut hsb (F.sep n c e).1, ?_⟩, F.own, F.kinds, F.sep, F.nd⟩ inv st
    intro j y dd hy hr
    rcases get_set hr with ⟨rfl, rfl⟩ | ⟨hij, hr⟩
    · rw [hx] at hy; cases hy
      exact ⟨v, rv.step st, .inl ⟨by rw [hkind]; exact hl, if_pos rfl⟩⟩
    · have hne : y ≠ x := by
        rintro rfl
        exact hij (nodup_get F.nd hx hy)
      obtain ⟨w', h1, h2⟩ := hv j y dd hy hr
      refine ⟨w', h1.step st, ?_⟩
      rcases h2 with ⟨h2, h3⟩ | h2
      · exact .inl ⟨h2, by rw [if_neg hne]; exact h3⟩
      · exact .inr h2
  · obtain ⟨c, hcc⟩ := Option.isSome_iff_exists.mp hs
    refine wpAny_storeName_cell (by rw [F.scope]; exact F.kind) (by rw [hkind]; exact hl) hcc (hc x c hcc) ?_
    intro h' hc' hsb
    have own : Own env c := .inr ⟨x, hcc⟩
    obtain ⟨ob, hob, _⟩ := id hc'
    have st : Step al s al { s with heap := h', toks := s.toks } (Own env) := Step.other hsb own (not_tup_of_cell (hc x c hcc)) hob _
    have inv : Inv X σ al { s with heap := h', toks := s.toks } := I.other hsb (F.own _ own).1 (F.own _ own).2 (not_tup_of_cell (hc x c hcc)) _
    refine k _ ⟨F.scope, F.kind, F.glob, F.blt, ⟨m, fun y => if y = x then some v else cm y, hn.sameBut hsb (F.sep x c hcc).1.symm, fun n c' e => ?_, ?_⟩, F.own, F.kinds, F.sep, F.nd⟩ inv st
    · by_cases hnx : n = x
      · subst hnx
        rw [hcc] at e; cases e
        dsimp only; rw [if_pos rfl]; exact hc'
      · dsimp only; rw [if_neg hnx]
        exact (hc n c' e).sameBut hsb (fun z => by subst z; exact hnx ((F.sep n c' e).2 x hcc))
    · intro j y dd hy hr
      rcases get_set hr with ⟨rfl, rfl⟩ | ⟨hij, hr⟩
      · rw [hx] at hy; cases hy
        exact ⟨v, rv.step st, .inr ⟨by rw [hkind]; exact hl, hs, if_pos rfl⟩⟩
      · have hne : y ≠ x := by
          rintro rfl
          exact hij (nodup_get F.nd hx hy)
        obtain ⟨w', h1, h2⟩ := hv j y dd hy hr
        refine ⟨w', h1.step st, ?_⟩
        rcases h2 with h2 | ⟨h2, h3, h4⟩
        · exact .inl h2
        · exact .inr ⟨h2, h3, by dsimp only; rw [if_neg hne]; exact h4⟩

theorem SndS.nil : SndS X d sc vars [] sNil := by
  intro A env ρ σ al s r E R F I hD
  cases hD
  exact wpAny_pure ⟨al, I, Step.refl, F, .next⟩
theorem SndS.stuck {ss : List Stmt} : SndS X d sc vars ss sStuck := by
  intro A env ρ σ al s r E R F I hD
  cases hD
theorem SndE.stuck {e : Expr} : SndE X d sc vars e (fun _ _ => Option.none) := by
  intro A env ρ σ al s r E R F I hD
  cases hD
theorem SndT.stuck {e : Expr} : SndT X d sc vars e (fun _ _ => none) := by
  intro A env ρ σ al s r E R F I hD
  cases hD
theorem SndS.cons {st : Stmt} {ss : List Stmt} {a b : DS} (ha : SndS1 X d sc vars st a) (hb : SndS X d sc vars ss b) : SndS X d sc vars (st :: ss) (sSeq a b) := .mk fun A env ρ σ al s Q E R F I h => by
  rw [execs_cons]
  refine wpAny_bind (ha.get R F I (h.bind.mono fun r h f s₁ p => ?_))
  obtain ⟨c, ρ₁, σ₁⟩ := r
  obtain ⟨al₁, I₁, st₁, F₁, fr⟩ := p
  cases fr with
  | next => exact hb.get R F₁ I₁ (h.mono fun r h => h.pre st₁)
  | brk => exact wpAny_pure (h _ _ ⟨al₁, I₁, st₁, F₁, .brk⟩)
  | ret rv => exact wpAny_pure (h _ _ ⟨al₁, I₁, st₁, F₁, .ret rv⟩)
theorem SndS.one {st : Stmt} {a : DS} (ha : SndS1 X d sc vars st a) : SndS X d sc vars [st] a := by
  intro A env ρ σ al s r E R F I hD
  rw [execs_cons]
  refine wpAny_bind (wpAny_mono (ha A env ρ σ al s _ E R F I hD) (fun f s₁ p => ?_) fun _ _ z => z)
  cases f <;> exact wpAny_pure p

theorem SndS1.set {x : Str} {i : Nat} {value : Expr} {p pos : Pos} {a : DE} (hx : vars[i]? = some x) (ha : SndE X d sc vars value a)
    (hs : ∀ env : Env, env.scope = sc → swapsWith value (some (.Name x p)) pos.line env = pure false) : SndS1 X d sc vars (.Assign [.Name x p] value pos) (sSet i a) := .mk fun A env ρ σ al s Q E R F I h =>
  wpAny_Assign_Name (ha.get R F I (h.bind.mono fun r h v' s₁ al₁ F₁ I₁ st₁ rv => store_sound F₁ I₁ hx rv fun s₂ F₂ I₂ st₂ => h _ _ ⟨al₁, I₂, st₁.weak.trans st₂, F₂, .next⟩)) (hs env F.scope)
theorem SndS1.aug {x : Str} {op : Operator} {i : Nat} {value : Expr} {p pos : Pos} {a : DE} (hx : vars[i]? = some x) (ha : SndE X d sc vars value a) : SndS1 X d sc vars (.AugAssign (.Name x p) op value pos) (sAug op i a) := .mk fun A env ρ σ al s Q E R F I h =>
  wpAny_AugAssign_Name (load_sound F hx (h.bind.mono fun a h _ w rw' => ha.get R F I (h.bind.mono fun r h v' s₁ al₁ F₁ I₁ st₁ rv => by
    obtain ⟨q, e, h⟩ := h.bind.at
    refine wpAny_mono (vaug_sound I₁ (rw'.step st₁) rv e) (fun v'' s₂ p => ?_) fun _ _ z => z
    obtain ⟨al₂, I₂, st₂, rv₂⟩ := p
    exact store_sound (F₁.step st₂) I₂ hx rv₂ fun s₃ F₃ I₃ st₃ => h _ _ ⟨al₂, I₃, (st₁.trans st₂).weak.trans st₃, F₃, .next⟩)))
theorem SndS1.ret {e : Expr} {pos : Pos} {a : DE} (ha : SndE X d sc vars e a) : SndS1 X d sc vars (.Return (some e) pos) (sRet a) := .mk fun A env ρ σ al s Q E R F I h =>
  wpAny_Return_some (ha.get R F I (h.bind.mono fun r h v' s₁ al₁ F₁ I₁ st₁ rv => h _ _ ⟨al₁, I₁, st₁.weak, F₁, .ret rv⟩))
theorem SndS1.expr {e : Expr} {pos : Pos} {a : DE} (ha : SndE X d sc vars e a) (hs : ∀ env : Env, env.scope = sc → swapsWith e none pos.line env = pure false) (hi : ∀ env : Env, env.scope = sc → interactive env = false) : SndS1 X d sc vars (.Expr e pos) (sExpr a) := .mk fun A env ρ σ al s Q E R F I h =>
  wpAny_Expr_any (ha.get R F I (h.bind.mono fun r h v' s₁ al₁ F₁ I₁ st₁ rv => h _ _ ⟨al₁, I₁, st₁.weak, F₁, .next⟩)) (hi env F.scope) (hs env F.scope)
theorem SndS1.brk {pos : Pos} : SndS1 X d sc vars (.Break pos) sBrk := by
  intro A env ρ σ al s r E R F I hD
  cases hD
  exact wpAny_Break ⟨al, I, Step.refl, F, .brk⟩
theorem SndS1.ite {t : Expr} {body orelse : List Stmt} {pos : Pos} {T : DT} {a b : DS} (ht : SndT X d sc vars t T) (ha : SndS X d sc vars body a) (hb : SndS X d sc vars orelse b) : SndS1 X d sc vars (.If t body orelse pos) (sIf T a b) := .mk fun A env ρ σ al s Q E R F I h => by
  refine wpAny_If (ht.get R F I (h.bind.mono fun r h s₁ al₁ F₁ I₁ st₁ => ?_))
  obtain ⟨c, σ₁⟩ := r
  cases c with
  | true => exact ha.get R F₁ I₁ (h.mono fun r h => h.pre st₁.weak)
  | false => exact hb.get R F₁ I₁ (h.mono fun r h => h.pre st₁.weak)
end
end Mine
set_option maxHeartbeats 200000
namespace Mine

noncomputable def putF (fs : List V) (i : Nat) (v : V) : Option (List V) := if i < fs.length then some (fs.set i v) else if i = fs.length then some (fs ++ [v]) else none

noncomputable def setAttrD (i : Nat) (o v : V) (σ : St) : Option St := o.asRef.bind fun l => (ins σ l).bind fun fs => (putF fs i v).bind fun fs' => some (σ.set l (.inst fs'))
noncomputable def putD (es : List (Txt × V)) (k : Txt) (v : V) : List (Txt × V) :=
  if es.any (fun e => e.1 == k) = true then es.map (fun e => if e.1 = k then (e.1, v) else e) else es ++ [(k, v)]
noncomputable def setItemD (o i v : V) (σ : St) : Option St := i.asStr.bind fun k => o.asRef.bind fun l => (dct σ l).bind fun es => if es.length ≤ 1000 then some (σ.set l (.dict (putD es k v))) else none

noncomputable def sSetA (i : Nat) (o e : DE) : DS := fun ρ σ => (e ρ σ).bind fun r => (o ρ r.2).bind fun q => (setAttrD i q.1 r.1 q.2).bind fun σ => some (.next, ρ, σ)
noncomputable def sSetI (o i e : DE) : DS := fun ρ σ => (e ρ σ).bind fun r => (o ρ r.2).bind fun q => (i ρ q.2).bind fun p => (setItemD q.1 p.1 r.1 p.2).bind fun σ => some (.next, ρ, σ)
noncomputable def getF (x : V) (i : Nat) (σ : St) : Option V := x.asRef.bind fun l => (ins σ l).bind fun fs => fs[i]?
noncomputable def sAugA (op : Operator) (i : Nat) (o e : DE) : DS := fun ρ σ => (o ρ σ).bind fun r => (getF r.1 i r.2).bind fun a => (e ρ r.2).bind fun q => (vaug op a q.1 q.2).bind fun p => (setAttrD i r.1 p.1 p.2).bind fun σ => some (.next, ρ, σ)

section
variable {X : Cx} {d : Nat} {sc : Scope} {vars : List Str} {env : Env} {ρ : Rho} {σ : St} {al al' al'' : Al} {s s' s'' : Shared} {A : Around} {E : Value → Shared → Prop}

theorem getF_get (ok : X.Ok) (C : ClsOk X) (I : Inv X σ al s) {v : Value} {x : V} {i : Nat} {nm : Str} {Q : Value → Shared → Prop} (rv : VRep al s.heap v x) (hx : X.names[i]? = some nm) {ex : Bool} (h : Gets (getF x i σ) fun y => ∀ v s', PostE X al s (y, σ) v s' → Q v s') :
    wpAny (model X.prog X.w) A (getAttr v nm ex) Q E s :=
  rv.asRef h fun l p e h => I.ins e h fun fs e0 _ h => by
    obtain ⟨y, hy, h⟩ := h.at
    exact wpAny_mono (attr_sound ok C I e0 e hy hx) h fun _ _ z => z

set_option tactic.hygienic true in
theorem osa_base {K : Frag} {x C : Addr} {ox od od' : Obj} {dx : Addr} {name : Str} {tk : Tok} {v : Value} {es : List DictEntry} {n : Nat} {prog : Program} {w : World} {R : Result → Shared → Prop} (X : K.In s.heap)
    (I : InstAt s.heap x ox C (some od)) (hd : ox.dict = some dx) (hp : plainOver K C = true) (ht : takerIn K C name = some none) (hh : (clsIn K C).any (·.hasDict) = true)
    (hl : (lookIn name od).isSome = true)
    (e : Obj.putName name (PyData.keyHash w.params name) (.str name s.toks) v od = od') (e' : od'.data = .dict es.toArray n) (hz : es.length ≤ 1000)
    (h : ∀ h', Heap.SameBut dx s.heap h' → h'.get? dx = some od' → R (.ok (.ret .none)) { s with heap := h', toks := s.toks + 1 }) :
    codeAny (model prog w) A (.call (.builtin "object.__setattr__") ⟨[.ref x, .str name tk, v], []⟩) R s := by
  refine osa_open X I hp ht fun b => ?_
  obtain ⟨cd, hc, hd'⟩ := any_some hh
  obtain ⟨hx, hcl, hn, hdd⟩ := I
  obtain ⟨oc, odi, oda, osl⟩ := ox
  dsimp only at hcl hd hdd
  subst hcl hd
  have D : s.heap.get? dx = some od := hdd
  have hg := Heap.get?_update_self (h := s.heap) (f := Obj.putName name (PyData.keyHash w.params name) (.str name s.toks) v) (a := dx) D (by rw [e]; obtain ⟨_, _, dd, _⟩ := od'; cases e'; rfl)
  rw [e] at hg
  have hs := Heap.SameBut.update s.heap dx (Obj.putName name (PyData.keyHash w.params name) (.str name s.toks) v)
  refine wpAny_bind (wpAny_pure (wpAny_bind (wpAny_bind (wpAny_loadPart hx (wpAny_bind ((looks_clsIn X hc).here ?_))))))
  rw [hd']
  refine wpAny_pure (a := some dx) (wpAny_bind (wpAny_pure (wpAny_bind ?_)))
  unfold nsSet
  refine wpAny_bind (wpAny_bind (wpAny_askSetting (wpAny_pure (wpAny_bind (wpAny_mkText (wpAny_bind (wpAny_loadPart D ?_)))))))
  unfold lookIn at hl
  split at hl
  · rename_i es₀ n₀ q
    rw [q]
    dsimp only
    have c : (!es₀.any (·.key.isStr name) && es₀.any (·.refKey)) = false := by
      rw [← Array.any_toList, ← Array.any_toList]
      split at hl
      · rename_i en he
        rw [List.any_eq_true.mpr ⟨en, List.mem_of_find?_eq_some he, List.find?_some he⟩]; rfl
      · split at hl
        · cases hl
        · rename_i z; rw [Bool.not_eq_true] at z; rw [z, Bool.and_false]
    rw [aRefKeyMayBeTheName_at, c]
    refine wpAny_updatePart D ?_
    refine wpAny_bind (wpAny_lookBehind hg (by rw [e']; exact pastItsLine_dict (by rw [List.size_toArray, sizeLine_eq]; omega)) ?_)
    exact wpAny_pure (h _ hs hg)
  · cases hl

theorem putL_len (name : Str) (hsh : Int) (key v : Value) (ws : List DictEntry) : (putL name hsh key v ws).length ≤ ws.length + 1 := by
  induction ws with
  | nil => exact Nat.le_refl _
  | cons e r ih =>
    unfold putL
    split
    · exact Nat.le_succ _
    · exact Nat.succ_le_succ ih
noncomputable def Fields (X : Cx) (al : Al) (h : Heap) (fs : List V) (ws : List DictEntry) : Prop := ∀ (i : Nat) (d : V), fs[i]? = some d → ∃ (e : DictEntry) (x : Str) (t : Tok), ws[i]? = some e ∧ X.names[i]? = some x ∧ e.key = .str x t ∧ VRep al h e.val d
set_option tactic.hygienic true in
theorem putF_is {fs fs' : List V} {i : Nat} {y : V} (e : putF fs i y = some fs') : (i < fs.length ∧ fs' = fs.set i y) ∨ (i = fs.length ∧ fs' = fs ++ [y]) := by
  unfold putF at e
  split at e
  · cases e; exact .inl ⟨‹_›, rfl⟩
  · split at e
    · cases e; exact .inr ⟨‹_›, rfl⟩
    · cases e
set_option tactic.hygienic true in
theorem put_rep {al' : Al} {h h' : Heap} (nd : X.names.Nodup) (mono : ∀ {v d}, VRep al h v d → VRep al' h' v d) {fs fs' : List V} {ws : List DictEntry} (hl : ws.length = fs.length) (hn : fs.length ≤ X.names.length) (hall : Fields X al h fs ws) {i : Nat} {nm : Str} (hx : X.names[i]? = some nm)
    {v : Value} {y : V} (rv : VRep al' h' v y) (ep : putF fs i y = some fs') (hsh : Int) (tk : Tok) : (putL nm hsh (.str nm tk) v ws).length = fs'.length ∧ fs'.length ≤ X.names.length ∧ Fields X al' h' fs' (putL nm hsh (.str nm tk) v ws) := by
  have hky := inst_keyed hl hall
  rcases putF_is ep with ⟨hlt, rfl⟩ | ⟨rfl, rfl⟩
  · obtain ⟨ei, xi, ti, a1, a2, a3, a4⟩ := hall i _ (List.getElem?_eq_getElem hlt)
    rw [hx] at a2; cases a2
    rw [putL_set nm _ _ _ a1 (by rw [a3, isStr_str]; exact decide_eq_true rfl) ?_]
    · refine ⟨by rw [List.length_set, List.length_set]; exact hl, by rw [List.length_set]; exact hn, fun j dd hj => ?_⟩
      by_cases hij : i = j
      · subst hij
        rw [List.getElem?_set_self hlt] at hj
        cases hj
        exact ⟨_, nm, ti, List.getElem?_set_self (hl.symm ▸ hlt), hx, a3, rv⟩
      · rw [List.getElem?_set_ne hij] at hj
        obtain ⟨e', x', t', b1, b2, b3, b4⟩ := hall j dd hj
        exact ⟨e', x', t', by rw [List.getElem?_set_ne hij]; exact b1, b2, b3, mono b4⟩
    · intro j q hj hq
      obtain ⟨x', t', b2, b3⟩ := hky j q hq
      rw [b3, isStr_str]
      refine decide_eq_false fun z => ?_
      subst z
      exact Nat.ne_of_lt hj (nodup_get nd b2 hx)
  · rw [putL_new nm _ _ _ (keyed_miss_at nd hky (by rw [hl]; exact hx))]
    refine ⟨by rw [List.length_append, List.length_append, hl]; rfl, by rw [List.length_append]; exact (List.getElem?_eq_some_iff.mp hx).1, fun j dd hj => ?_⟩
    rw [getElem?_concat] at hj
    split at hj
    · rename_i hjl
      cases hj
      subst hjl
      exact ⟨_, nm, _, by rw [getElem?_concat, if_pos hl.symm], hx, rfl, rv⟩
    · rename_i hjl
      obtain ⟨e', x', t', b1, b2, b3, b4⟩ := hall j dd hj
      exact ⟨e', x', t', by rw [getElem?_concat, if_neg (by rw [hl]; exact hjl)]; exact b1, b2, b3, mono b4⟩
theorem put_here (nd : X.names.Nodup) {h : Heap} {fs fs' : List V} {ws : List DictEntry} (hl : ws.length = fs.length) (hall : Fields X al h fs ws) {i : Nat} {nm : Str} (hx : X.names[i]? = some nm) {y : V} (ep : putF fs i y = some fs') : (getL nm ws).isSome = true := by
  have hky := inst_keyed hl hall
  rcases putF_is ep with ⟨hlt, rfl⟩ | ⟨rfl, rfl⟩
  · rw [getL_at nd hky (List.getElem?_eq_getElem (hl.symm ▸ hlt)) hx]; rfl
  · rw [getL_miss (keyed_miss_at nd hky (by rw [hl]; exact hx)) (keyed_norefs hky)]; rfl
theorem setAttr_get (ok : X.Ok) (C : ClsOk X) (I : Inv X σ al s) {ov v : Value} {x y : V} {i : Nat} {nm : Str} {Q : Unit → Shared → Prop} (ro : VRep al s.heap ov x) (rv : VRep al s.heap v y) (hx : X.names[i]? = some nm)
    (h : Gets (setAttrD i x y σ) fun σ' => ∀ s', Inv X σ' al s' → Step al s al s' NoOwn → Q () s') : wpAny (model X.prog X.w) A (setAttr ov nm v) Q E s := by
  refine ro.asRef h fun l p h1 h => I.ins h1 h fun fs e0 o1 h => ?_
  obtain ⟨fs', ep, h⟩ := h.bind.at
  obtain ⟨e1, ws, n, e2, hl, hn, hall⟩ := o1
  have hle : ws.length ≤ 8 := by rw [hl]; exact Nat.le_trans hn C.few
  refine set_plain (I.inK ok) (od := some (dictOf ws n)) (C := X.C) (ox := instObj X.C p.2) ⟨e1, rfl, rfl, e2⟩ C.sa ?_
  refine osa_base (od := dictOf ws n) (dx := p.2) (ox := instObj X.C p.2) (s := { s with toks := s.toks + 1 }) ((I.tok _).inK ok) ⟨e1, rfl, rfl, e2⟩ rfl C.po
    (by unfold takerIn; rw [C.fields nm (List.mem_of_getElem? hx)]; rfl) C.hd (by rw [lookIn_dict]; exact put_here C.nd hl hall hx ep) (putName_dict ..) rfl (Nat.le_trans (putL_len ..) (Nat.le_trans (Nat.succ_le_succ hle) (by decide))) ?_
  intro h' hs hg
  have st : Step al s al { s with heap := h', toks := s.toks + 1 + 1 } NoOwn := I.changeStep e0 h1 (.inr rfl) hs hg _ _
  refine h _ (I.change (o' := .inst fs') e0 h1 (.inr rfl) rfl hs ⟨(hs.2 _ fun z => ?_).trans e1, _, _, hg, put_rep C.nd (fun r => r.step st) hl hn hall hx (rv.step st) ep _ _⟩ _) st
  rw [z, e2] at e1
  cases e1
theorem any_rep (kx : Txt) (kvs : List (Str × Value)) (es : List (Txt × V)) (h : kvs.map (·.1) = es.map (fun q => toS q.1)) : (kvs.any fun kv => decide (kv.1 = toS kx)) = es.any (fun e => e.1 == kx) := by
  have e := congrArg (fun l : List Str => l.any fun z => decide (z = toS kx)) h
  rw [List.any_map, List.any_map] at e
  refine e.trans (congrArg es.any (funext fun q => ?_))
  show decide (toS q.1 = toS kx) = (q.1 == kx)
  by_cases hq : q.1 = kx
  · rw [hq]; rw [decide_eq_true rfl, beq_self_eq_true]
  · rw [decide_eq_false fun z => hq (toS_inj z), beq_false_of_ne hq]
theorem map_rep {h : Heap} (kx : Txt) {v : Value} {y : V} (rv : VRep al h v y) (kvs : List (Str × Value)) : ∀ (es : List (Txt × V)), kvs.map (·.1) = es.map (fun q => toS q.1) → VReps al h (kvs.map (·.2)) (es.map (·.2)) →
      VReps al h ((kvs.map (fun kv => if kv.1 = toS kx then (kv.1, v) else kv)).map (·.2)) ((es.map (fun e => if e.1 = kx then (e.1, y) else e)).map (·.2)) := by
  induction kvs with
  | nil =>
    intro es h hv
    cases es with
    | nil => exact .nil
    | cons _ _ => cases h
  | cons a r ih =>
    intro es h hv
    cases es with
    | nil => cases h
    | cons b r' =>
      have h1 : a.1 = toS b.1 := (List.cons.inj h).1
      cases hv with
      | cons h3 h4 =>
        refine .cons ?_ (ih r' (List.cons.inj h).2 h4)
        show VRep al _ (if a.1 = toS kx then (a.1, v) else a).2 (if b.1 = kx then (b.1, y) else b).2
        by_cases hk : b.1 = kx
        · rw [if_pos hk, if_pos (by rw [h1, hk])]; exact rv
        · rw [if_neg hk, if_neg (by rw [h1]; exact fun z => hk (toS_inj z))]; exact h3
theorem stored_rep {h : Heap} {kx : Txt} {v : Value} {y : V} (kvs : List (Str × Value)) (es : List (Txt × V)) (hk : kvs.map (·.1) = es.map (fun q => toS q.1)) (hv : VReps al h (kvs.map (·.2)) (es.map (·.2))) (rv : VRep al h v y) :
      (stored kvs (toS kx) v).map (·.1) = (putD es kx y).map (fun q => toS q.1) ∧ VReps al h ((stored kvs (toS kx) v).map (·.2)) ((putD es kx y).map (·.2)) := by
  unfold stored putD
  rw [any_rep kx kvs es hk]
  cases es.any (fun e => e.1 == kx) with
  | true =>
    refine ⟨?_, map_rep kx rv kvs es hk hv⟩
    rw [if_pos rfl, if_pos rfl, List.map_map, List.map_map]
    rw [show ((fun x => x.1) ∘ fun (kv : Str × Value) => if kv.1 = toS kx then (kv.1, v) else kv) = (fun kv => kv.1) from by funext kv; dsimp only [Function.comp]; split <;> rfl]
    rw [show ((fun (q : Txt × V) => toS q.1) ∘ fun (e : Txt × V) => if e.1 = kx then (e.1, y) else e) = (fun q => toS q.1) from by funext q; dsimp only [Function.comp]; split <;> rfl]
    exact hk
  | false =>
    rw [if_neg Bool.false_ne_true, if_neg Bool.false_ne_true, List.map_append, List.map_append, List.map_append, List.map_append, hk]
    exact ⟨rfl, hv.append (.cons rv .nil)⟩
theorem setItem_get (I : Inv X σ al s) {ov iv v : Value} {x k y : V} {Q : Unit → Shared → Prop} (ro : VRep al s.heap ov x) (ri : VRep al s.heap iv k) (rv : VRep al s.heap v y)
    (h : Gets (setItemD x k y σ) fun σ' => ∀ s', Inv X σ' al s' → Step al s al s' NoOwn → Q () s') : wpAny (model X.prog X.w) A (setItem ov iv v) Q E s := by
  refine ri.asStr h fun kx t h => ro.asRef h fun l p h1 h => I.dct h1 h fun es kvs e0 hp lo hd hk hv h => h.ite fun hlen h => ?_
  have hle : kvs.length = es.length := by rw [← List.length_map (f := (·.1)), hk, List.length_map]
  refine wpAny_setItem_pairs (strKind_is X.prog X.w (toS kx) t) hd ?_ (by rw [hle, sizeLine_val]; clear h hk hle; omega)
  intro h' hd' hs
  obtain ⟨ob, _, _, hob, _⟩ := id hd'
  have st : Step al s al { s with heap := h', toks := s.toks + 1 } NoOwn := I.changeStep e0 h1 (.inl rfl) hs hob _ _
  have sr := stored_rep (kx := kx) kvs es hk (hv.step st) (rv.step st)
  exact h _ (I.change (o' := .dict (putD es kx y)) e0 h1 (.inl rfl) rfl hs ⟨hp, lo, _, hd', sr.1, sr.2⟩ _) st

theorem SndS1.setA (ok : X.Ok) (C : ClsOk X) {o value : Expr} {nm : Str} {i : Nat} {p pos : Pos} {a b : DE} (hx : X.names[i]? = some nm) (ha : SndE X d sc vars value a) (hb : SndE X d sc vars o b)
    (hs : ∀ env : Env, env.scope = sc → swapsWith value (some (.Attribute o nm p)) pos.line env = pure false) : SndS1 X d sc vars (.Assign [.Attribute o nm p] value pos) (sSetA i b a) := .mk fun A env ρ σ al s Q E R F I h =>
  plainObj_wpAny_Assign_Attribute (ha.get R F I (h.bind.mono fun r h v' s₁ al₁ F₁ I₁ st₁ rv => hb.get R F₁ I₁ (h.bind.mono fun q h v'' s₂ al₂ F₂ I₂ st₂ ro =>
    setAttr_get ok C I₂ ro (rv.step st₂) hx (h.bind.mono fun σ₃ h s₃ I₃ st₃ => h _ _ ⟨al₂, I₃, ((st₁.trans st₂).trans st₃).weak, F₂.step st₃, .next⟩)))) (hs env F.scope)
theorem SndS1.setI {o i value : Expr} {p pos : Pos} {a b c : DE} (ha : SndE X d sc vars value a) (hb : SndE X d sc vars o b) (hc : SndE X d sc vars i c)
    (hs : ∀ env : Env, env.scope = sc → swapsWith value (some (.Subscript o i p)) pos.line env = pure false) : SndS1 X d sc vars (.Assign [.Subscript o i p] value pos) (sSetI b c a) := .mk fun A env ρ σ al s Q E R F I h =>
  wpAny_Assign_Subscript (ha.get R F I (h.bind.mono fun r h v' s₁ al₁ F₁ I₁ st₁ rv => hb.get R F₁ I₁ (h.bind.mono fun q h v'' s₂ al₂ F₂ I₂ st₂ ro => hc.get R F₂ I₂ (h.bind.mono fun p h w₃ s₃ al₃ F₃ I₃ st₃ ri =>
    setItem_get I₃ (ro.step st₃) ri (rv.step (st₂.trans st₃)) (h.bind.mono fun σ₄ h s₄ I₄ st₄ => h _ _ ⟨al₃, I₄, (((st₁.trans st₂).trans st₃).trans st₄).weak, F₃.step st₄, .next⟩))))) (hs env F.scope)
theorem SndS1.augA (ok : X.Ok) (C : ClsOk X) {o value : Expr} {nm : Str} {op : Operator} {i : Nat} {p pos : Pos} {a b : DE} (hx : X.names[i]? = some nm) (hb : SndE X d sc vars o b) (ha : SndE X d sc vars value a) :
    SndS1 X d sc vars (.AugAssign (.Attribute o nm p) op value pos) (sAugA op i b a) := .mk fun A env ρ σ al s Q E R F I h => by
  refine wpAny_AugAssign_AttributeAny (hb.get R F I (h.bind.mono fun r h ov s₁ al₁ F₁ I₁ st₁ ro => getF_get ok C I₁ ro hx (h.bind.mono fun y h old s₂ p => ?_)))
  obtain ⟨al₂, I₂, st₂, r₂⟩ := p
  refine ha.get R (F₁.step st₂) I₂ (h.bind.mono fun q h v' s₃ al₃ F₃ I₃ st₃ r₃ => ?_)
  obtain ⟨w, e4, h⟩ := h.bind.at
  refine wpAny_mono (vaug_sound I₃ (r₂.step st₃) r₃ e4) (fun nv s₄ p => ?_) fun _ _ z => z
  obtain ⟨al₄, I₄, st₄, r₄⟩ := p
  exact setAttr_get ok C I₄ (ro.step ((st₂.trans st₃).trans st₄)) r₄ hx (h.bind.mono fun σ₅ h s₅ I₅ st₅ => h _ _ ⟨al₄, I₅, ((((st₁.trans st₂).trans st₃).trans st₄).trans st₅).weak, (F₃.step st₄).step st₅, .next⟩)

inductive Names (vars : List Str) : List Expr → List Nat → List Str → Prop
  | nil : Names vars [] [] []
  | cons {x : Str} {p : Pos} {i : Nat} {es : List Expr} {is : List Nat} {xs : List Str} : vars[i]? = some x → Names vars es is xs → Names vars (.Name x p :: es) (i :: is) (x :: xs)
theorem bind_sound {x : Str} {i : Nat} {v : Value} {dv : V} {Q : Unit → Shared → Prop} (F : FrameOk X sc env vars ρ al s.heap) (I : Inv X σ al s) (hx : vars[i]? = some x) (rv : VRep al s.heap v dv)
    (k : ∀ s', FrameOk X sc env vars (ρ.set i (some dv)) al s'.heap → Inv X σ al s' → Step al s al s' (Own env) → Q () s') : wpAny (model X.prog X.w) A (bindName env x v) Q E s :=
  wpAny_bindName (store_sound F I hx rv k)
theorem extEmpty_keeps (s : Shared) {h' : Heap} (h : Heap.ExtBut s.heap.objs.size s.heap h') : ∀ b o, s.heap.get? b = some o → h'.get? b = some o := fun b o e =>
  h b o (Nat.ne_of_lt (Heap.lt_size e)) e

theorem setMany_append : ∀ (is js : List Nat) (vs ws : List V) (ρ : Rho), is.length = vs.length → setMany (is ++ js) (vs ++ ws) ρ = setMany js ws (setMany is vs ρ)
  | [], _, [], _, _, _ => rfl
  | i :: is, js, v :: vs, ws, ρ, h => by
    simp only [List.cons_append, setMany]
    exact setMany_append is js vs ws _ (by simpa using h)
theorem setMany_set : ∀ (is : List Nat) (vs : List V) (ρ : Rho) (i : Nat) (v : V), i ∉ is → setMany is vs (ρ.set i (some v)) = (setMany is vs ρ).set i (some v)
  | [], _, _, _, _, _ => rfl
  | _ :: _, [], _, _, _, _ => rfl
  | j :: is, w :: vs, ρ, i, v, h => by
    simp only [List.mem_cons, not_or] at h
    simp only [setMany]
    rw [List.set_comm _ _ h.1, setMany_set is vs _ i v h.2]
theorem setMany_reverse : ∀ (is : List Nat) (vs : List V) (ρ : Rho), is.Nodup → is.length = vs.length → setMany is.reverse vs.reverse ρ = setMany is vs ρ
  | [], [], _, _, _ => rfl
  | i :: is, v :: vs, ρ, nd, h => by
    rw [List.reverse_cons, List.reverse_cons, setMany_append _ _ _ _ _ (by simpa using h)]
    have nd' := List.nodup_cons.mp nd
    rw [setMany_reverse is vs ρ nd'.2 (by simpa using h)]
    show (setMany is vs ρ).set i (some v) = setMany is vs (ρ.set i (some v))
    rw [setMany_set is vs ρ i v nd'.1]

theorem stores_sound {is : List Nat} : ∀ {fs : List (Value → Sem Unit)} {vals : List Value} {vs : List V} {ρ : Rho} {al : Al} {s : Shared} {Q : Unit → Shared → Prop} (hl : is.length = vs.length) (hf : fs.length = is.length)
    (hb : ∀ (j : Nat) (i : Nat) (f : Value → Sem Unit), is[j]? = some i → fs[j]? = some f → ∃ x, vars[i]? = some x ∧ ∀ v Q s, wpAny (model X.prog X.w) A (bindName env x v) Q E s → wpAny (model X.prog X.w) A (f v) Q E s)
    (F : FrameOk X sc env vars ρ al s.heap) (I : Inv X σ al s) (rs : VReps al s.heap vals vs)
    (k : ∀ s', FrameOk X sc env vars (setMany is vs ρ) al s'.heap → Inv X σ al s' → Step al s al s' (Own env) → Q () s'), wpAny (model X.prog X.w) A (assignInOrder fs vals) Q E s := by
  induction is with
  | nil =>
    intro fs vals vs ρ al s Q hl hf hb F I rs k
    cases vs with
    | cons _ _ => simp at hl
    | nil =>
      cases fs with
      | cons _ _ => simp at hf
      | nil => cases rs; exact wpAny_pure (k _ F I Step.refl)
  | cons i is ih =>
    intro fs vals vs ρ al s Q hl hf hb F I rs k
    cases fs with
    | nil => simp at hf
    | cons f fs =>
      cases rs with
      | nil => simp at hl
      | cons r1 r2 =>
        obtain ⟨x, hx, hfx⟩ := hb 0 i f rfl rfl
        refine wpAny_bind (wpAny_holding (hfx _ _ _ (bind_sound F I hx r1 fun s₁ F₁ I₁ st₁ => ?_)))
        refine ih (by simpa using hl) (by simpa using hf) (fun j i f h1 h2 => hb (j + 1) i f h1 h2) F₁ I₁ (r2.step st₁) fun s₂ F₂ I₂ st₂ => k s₂ F₂ I₂ (st₁.trans st₂)

theorem Names.get {es : List Expr} {is : List Nat} {xs : List Str} (h : Names vars es is xs) : is.length = xs.length ∧ es.length = is.length ∧ ∀ (j i : Nat), is[j]? = some i → ∃ x p, xs[j]? = some x ∧ es[j]? = some (.Name x p) ∧ vars[i]? = some x := by
  induction h with
  | nil => exact ⟨rfl, rfl, fun j i e => by cases e⟩
  | cons h1 h2 ih =>
    refine ⟨by simp [ih.1], by simp [ih.2.1], fun j i e => ?_⟩
    cases j with
    | zero => cases e; exact ⟨_, _, rfl, rfl, h1⟩
    | succ j => exact ih.2.2 j i e

set_option tactic.hygienic true in
theorem SndS1.tupS {es : List Expr} {is : List Nat} {xs : List Str} {value : Expr} {k : Nat} {p pos : Pos} {a : DE} (hn : Names vars es is xs) (nd : is.Nodup) (ha : SndE X d sc vars value a)
    (hs : ∀ env : Env, env.scope = sc → swapsWithSole [.Tuple es k p] value pos.line env = pure false) (hw : ∀ env : Env, env.scope = sc → swappedStores [.Tuple es k p] value env = pure (some xs)) :
    SndS1 X d sc vars (.Assign [.Tuple es k p] value pos) (sSetT is a) := by
  intro A env ρ σ al s r E R F I hD
  unfold sSetT at hD
  split at hD
  · rename_i vs σ₁ e1
    split at hD
    · rename_i hlen
      cases hD
      obtain ⟨n1, n2, n3⟩ := hn.get
      rw [exec_Assign_arm]
      refine wpAny_bind (wpAny_standAt ?_)
      rw [hs env F.scope]
      refine wpAny_bind (wpAny_pure ?_)
      rw [if_neg (by decide)]
      refine wpAny_bind (ha.run R F I e1 fun v' s₁ al₁ F₁ I₁ st₁ rv => ?_)
      rw [hw env F.scope]
      refine wpAny_bind (wpAny_pure ?_)
      unfold assignStores
      dsimp only
      refine wpAny_bind (wpAny_rule (wpAny_bind ?_))
      cases rv
      rename_i t items ht rs
      have hsz : items.size = xs.length := by have := rs.length; rw [Array.length_toList] at this; rw [this, hlen, n1]
      rw [← hsz]
      refine wpAny_unpackItems_tuple R.1 ht fun h' he => ?_
      have keep := extEmpty_keeps s₁ he
      have I₂ := keepAll_inv I₁ keep s₁.toks
      have st₂ : Step al₁ s₁ al₁ { s₁ with heap := h', toks := s₁.toks } NoOwn := keepAll_step keep _
      refine wpAny_bind (stores_sound (is := is.reverse) (vs := vs.reverse) (env := env) (vars := vars) (ρ := ρ) (by simp [hlen]) (by simp [n1]) ?_ (F₁.step st₂) I₂ (rs.step st₂).reverse fun s₃ F₃ I₃ st₃ => wpAny_pure ⟨al₁, I₃, (st₁.trans st₂).weak.trans st₃, ?_, .next⟩)
      · intro j i f h1 h2
        rw [List.getElem?_map] at h2
        obtain ⟨x, hx1, rfl⟩ := Option.map_eq_some_iff.mp h2
        have hj : j < is.length := by have := (List.getElem?_eq_some_iff.mp h1).1; simpa using this
        rw [List.getElem?_reverse hj] at h1
        rw [List.getElem?_reverse (by rw [← n1]; exact hj)] at hx1
        obtain ⟨x', p', a1, a2, a3⟩ := n3 _ _ h1
        rw [← n1, a1] at hx1
        cases hx1
        exact ⟨_, a3, fun v Q s z => z⟩
      · rw [setMany_reverse is vs ρ nd hlen.symm] at F₃
        exact F₃
    · cases hD
  · cases hD

set_option tactic.hygienic true in
theorem SndS1.tupN {es : List Expr} {is : List Nat} {xs : List Str} {value : Expr} {k : Nat} {p pos : Pos} {a : DE} (hn : Names vars es is xs) (ha : SndE X d sc vars value a)
    (hs : ∀ env : Env, env.scope = sc → swapsWithSole [.Tuple es k p] value pos.line env = pure false) (hw : ∀ env : Env, env.scope = sc → swappedStores [.Tuple es k p] value env = pure none) :
    SndS1 X d sc vars (.Assign [.Tuple es k p] value pos) (sSetT is a) := by
  intro A env ρ σ al s r E R F I hD
  unfold sSetT at hD
  split at hD
  · rename_i vs σ₁ e1
    split at hD
    · rename_i hlen
      cases hD
      obtain ⟨n1, n2, n3⟩ := hn.get
      have hae : assignEach es env = es.map (fun e => (false, assign e env)) := by
        clear n1 n2 n3 hs hw hlen
        induction hn with
        | nil => rfl
        | cons h1 h2 ih => rw [List.map_cons, ← ih]; rfl
      refine wpAny_Assign_stores (ha.run R F I e1 fun v' s₁ al₁ F₁ I₁ st₁ rv => ?_) (hs env F.scope) (hw env F.scope)
      show wpAny _ A (assign (.Tuple es k p) env v') _ _ s₁
      cases rv
      rename_i t items ht rs
      have hsz : items.size = is.length := by have := rs.length; rw [Array.length_toList] at this; rw [this, hlen]
      refine wpAny_assign_Tuple R.1 ht (by rw [hae, List.length_map, n2, hsz]) (by rw [hae, List.findIdx?_eq_none_iff]; intro q hq; obtain ⟨e, _, rfl⟩ := List.mem_map.mp hq; rfl) fun h' he => ?_
      have keep := extEmpty_keeps s₁ he
      have I₂ := keepAll_inv I₁ keep s₁.toks
      have st₂ : Step al₁ s₁ al₁ { s₁ with heap := h', toks := s₁.toks } NoOwn := keepAll_step keep _
      refine stores_sound (is := is) (vs := vs) (env := env) (vars := vars) (ρ := ρ) hlen.symm (by rw [hae]; simp [n2]) ?_ (F₁.step st₂) I₂ (rs.step st₂) fun s₃ F₃ I₃ st₃ => ⟨al₁, I₃, (st₁.trans st₂).weak.trans st₃, F₃, .next⟩
      intro j i f h1 h2
      obtain ⟨x', p', a1, a2, a3⟩ := n3 _ _ h1
      rw [hae, List.map_map, List.getElem?_map, a2] at h2
      cases h2
      exact ⟨x', a3, fun v Q s z => by
        show wpAny _ A (assign (.Name x' p') env v) Q E s
        rw [PySem.assign_Name]; exact wpAny_bind (wpAny_standAt z)⟩
    · cases hD
  · cases hD
end
end Mine
set_option maxHeartbeats 200000
namespace Mine

noncomputable def sWhile (t : DT) (b : DS) (ρ : Rho) (σ : St) : Option (Ctl × Rho × St) := match t ρ σ with
  | none => none
  | some (c, σ) => if c = true then (match b ρ σ with
      | none => none
      | some (c', ρ, σ) => (match c' with
        | .next => sWhile t b ρ σ
        | .brk => some (.next, ρ, σ)
        | .ret v => some (.ret v, ρ, σ)))
    else some (.next, ρ, σ)
partial_fixpoint

noncomputable def after (k : Rho → St → Option (Ctl × Rho × St)) (r : Ctl × Rho × St) : Option (Ctl × Rho × St) := match r.1 with
  | .next => k r.2.1 r.2.2
  | .brk => some (.next, r.2.1, r.2.2)
  | .ret v => some (.ret v, r.2.1, r.2.2)
noncomputable def whileN (t : DT) (b : DS) : Nat → Rho → St → Option (Ctl × Rho × St)
  | 0, _, _ => none
  | n + 1, ρ, σ => (t ρ σ).bind fun r => if r.1 = true then (b ρ r.2).bind (after (whileN t b n)) else some (.next, ρ, r.2)

theorem whileN_of {t : DT} {b : DS} {ρ : Rho} {σ : St} {r : Ctl × Rho × St} (h : sWhile t b ρ σ = some r) : ∃ n, whileN t b n ρ σ = some r := by
  refine sWhile.partial_correctness t b (fun ρ σ r => ∃ n, whileN t b n ρ σ = some r) (fun f ih ρ σ r h => ?_) ρ σ r h
  cases e1 : t ρ σ with
  | none => rw [e1] at h; cases h
  | some c =>
    rw [e1] at h
    obtain ⟨c, σ₁⟩ := c
    cases c with
    | false => exact ⟨1, by rw [whileN, e1]; exact h⟩
    | true =>
      cases e2 : b ρ σ₁ with
      | none => simp only [e2] at h; cases h
      | some q =>
        simp only [e2] at h
        obtain ⟨c', ρ₂, σ₂⟩ := q
        have k (n : Nat) : whileN t b (n + 1) ρ σ = after (whileN t b n) (c', ρ₂, σ₂) := by rw [whileN, e1]; show (b ρ σ₁).bind _ = _; rw [e2]; rfl
        cases c' with
        | next =>
          obtain ⟨n, hn⟩ := ih _ _ _ h
          exact ⟨n + 1, (k n).trans hn⟩
        | brk => exact ⟨1, (k 0).trans h⟩
        | ret v => exact ⟨1, (k 0).trans h⟩

inductive Src where
  | list (l : Nat)
  | tup (vs : List V)
  | str (x : Txt)
  | range (n : Nat)

noncomputable def O.items : O → Option (List V)
  | .list vs => some vs
  | .ro vs => some vs
  | _ => none
noncomputable def dNext (c : Src) (i : Nat) (σ : St) : Option (Option V) := match c with
  | .list l => σ[l]?.bind fun o => o.items.bind fun x => some x[i]?
  | .tup vs => some vs[i]?
  | .str x => some (x[i]?.map fun c => .str [c])
  | .range n => some (if i < n then some (.int i) else none)

noncomputable def srcOf (v : V) (σ : St) : Option Src := match v with
  | .ref l => σ[l]?.bind fun o => o.items.bind fun _ => some (.list l)
  | .tup vs => some (.tup vs)
  | .str x => some (.str x)
  | _ => none

noncomputable abbrev DI := Rho → St → Option (Src × St)
noncomputable def iVal (e : DE) : DI := fun ρ σ => (e ρ σ).bind fun r => (srcOf r.1 r.2).bind fun c => some (c, r.2)
noncomputable def iRange (e : DE) : DI := fun ρ σ => (e ρ σ).bind fun r => r.1.asInt.bind fun n => if n.natAbs ≤ 16777216 then some (.range n.toNat, r.2) else none

noncomputable def sForGo (c : Src) (k : Nat) (b : DS) (i : Nat) (ρ : Rho) (σ : St) : Option (Ctl × Rho × St) := match dNext c i σ with
  | none => none
  | some o => (match o with
    | none => some (.next, ρ, σ)
    | some v => (match b (ρ.set k (some v)) σ with
      | none => none
      | some (c', ρ, σ) => (match c' with
        | .next => sForGo c k b (i + 1) ρ σ
        | .brk => some (.next, ρ, σ)
        | .ret v => some (.ret v, ρ, σ))))
partial_fixpoint
noncomputable def forN (c : Src) (k : Nat) (b : DS) : Nat → Nat → Rho → St → Option (Ctl × Rho × St)
  | 0, _, _, _ => none
  | n + 1, i, ρ, σ => (dNext c i σ).bind fun o => match o with
    | none => some (.next, ρ, σ)
    | some v => (b (ρ.set k (some v)) σ).bind (after (forN c k b n (i + 1)))
theorem forN_of {c : Src} {k : Nat} {b : DS} {i : Nat} {ρ : Rho} {σ : St} {r : Ctl × Rho × St} (h : sForGo c k b i ρ σ = some r) : ∃ n, forN c k b n i ρ σ = some r := by
  refine sForGo.partial_correctness c k b (fun i ρ σ r => ∃ n, forN c k b n i ρ σ = some r) (fun f ih i ρ σ r h => ?_) i ρ σ r h
  cases e1 : dNext c i σ with
  | none => rw [e1] at h; cases h
  | some o =>
    rw [e1] at h
    cases o with
    | none => exact ⟨1, by rw [forN, e1]; exact h⟩
    | some v =>
      cases e2 : b (ρ.set k (some v)) σ with
      | none => simp only [e2] at h; cases h
      | some q =>
        simp only [e2] at h
        obtain ⟨c', ρ₂, σ₂⟩ := q
        have kk (n : Nat) : forN c k b (n + 1) i ρ σ = after (forN c k b n (i + 1)) (c', ρ₂, σ₂) := by rw [forN, e1]; show (b _ σ).bind _ = _; rw [e2]; rfl
        cases c' with
        | next =>
          obtain ⟨n, hn⟩ := ih _ _ _ _ h
          exact ⟨n + 1, (kk n).trans hn⟩
        | brk => exact ⟨1, (kk 0).trans h⟩
        | ret v => exact ⟨1, (kk 0).trans h⟩

noncomputable def sFor (c : DI) (k : Nat) (b : DS) : DS := fun ρ σ => (c ρ σ).bind fun r => sForGo r.1 k b 0 ρ r.2

noncomputable def ItOk (al : Al) (h : Heap) (I : Addr) (i : Nat) : Src → Prop
  | .list l => ∃ p, al[l]? = some p ∧ h.IsListIter I p.1 i
  | .tup vs => ∃ a items, IsTup h a items ∧ VReps al h items.toList vs ∧ IsTupIter h I a i
  | .str x => (x.all (· < 128) = true ∧ ∃ t, h.IsStrIter I "str_ascii_iterator" (toS x) t i)
            ∨ (x.all (· < 128) = false ∧ ∃ t, h.IsStrIter I "str_iterator" (toS x) t i)
  | .range n => i ≤ n ∧ IsRangeIter h I i ((n : Int) - i) 1

section
variable {X : Cx} {d : Nat} {sc : Scope} {vars : List Str} {env : Env} {ρ : Rho} {σ : St} {al al' al'' : Al} {s s' s'' : Shared} {A : Around} {E : Value → Shared → Prop}

theorem ItOk.step {own : Addr → Prop} {I : Addr} {i : Nat} {c : Src} (x : ItOk al s.heap I i c) (st : Step al s al' s' own) (hI : ∀ o, s.heap.get? I = some o → s'.heap.get? I = some o) : ItOk al' s'.heap I i c := by
  cases c with
  | list l => obtain ⟨p, e, o, ho, r⟩ := x; exact ⟨p, st.pre _ _ e, o, hI _ ho, r⟩
  | tup vs => obtain ⟨a, items, ht, rs, o, ho, r⟩ := x; exact ⟨a, items, st.tup _ _ ht, rs.step st, o, hI _ ho, r⟩
  | str x =>
    rcases x with ⟨h, t, o, ho, r⟩ | ⟨h, t, o, ho, r⟩
    · exact .inl ⟨h, t, o, hI _ ho, r⟩
    · exact .inr ⟨h, t, o, hI _ ho, r⟩
  | range n => exact ⟨x.1, hI _ x.2⟩
theorem ItOk.notTup {h : Heap} {I : Addr} {i : Nat} {c : Src} (x : ItOk al h I i c) : (∃ o, h.get? I = some o) ∧ ∀ items, ¬ IsTup h I items := by
  have two {o' : Obj} (e : h.get? I = some o') (hne : o'.cls ≠ .type "tuple") : (∃ o, h.get? I = some o) ∧ ∀ items, ¬ IsTup h I items := by
    refine ⟨⟨_, e⟩, ?_⟩
    rintro items ⟨ob, ho, hc, _⟩
    rw [ho] at e; cases e
    exact hne hc
  cases c with
  | list l => obtain ⟨p, e, o, ho, hc, r⟩ := x; exact two ho (by rw [hc]; simp)
  | tup vs => obtain ⟨a, items, ht, rs, o, ho, hc, r⟩ := x; exact two ho (by rw [hc]; simp)
  | str x =>
    rcases x with ⟨h, t, o, ho, hc, r⟩ | ⟨h, t, o, ho, hc, r⟩
    · exact two ho (by rw [hc]; simp)
    · exact two ho (by rw [hc]; simp)
  | range n => exact two x.2 (by simp)

noncomputable def PostN (X : Cx) (σ : St) (al : Al) (s : Shared) (I : Addr) (i : Nat) (c : Src) (r : Option V) (o : Option Value) (s' : Shared) : Prop :=
  Inv X σ al s' ∧ Step al s al s' (fun b => b = I) ∧ match r with
    | none => o = none
    | some v => ∃ v', o = some v' ∧ VRep al s'.heap v' v ∧ ItOk al s'.heap I (i + 1) c

theorem rep_items {o : O} {p : Addr × Addr} {β : Type} {k : List V → Option β} {Q : β → Prop} (r : ORep X al s.heap o p) (g : Gets (o.items.bind k) Q) {G : Prop} (c : ∀ items vs, s.heap.IsList p.1 items → VReps al s.heap items.toList vs → Gets (k vs) Q → G) : G := by
  cases o with
  | list vs => obtain ⟨items, hl, rs, _⟩ := r; exact c items vs hl.isList rs g
  | ro vs => obtain ⟨items, hl, rs, _⟩ := r; exact c items vs hl rs g
  | _ => exact False.elim g
theorem reps_none {h : Heap} {items : Array Value} {vs : List V} (rs : VReps al h items.toList vs) {i : Nat} (hx : vs[i]? = none) : items[i]? = none := by
  rw [← Array.getElem?_toList, List.getElem?_eq_none_iff, rs.length]
  exact List.getElem?_eq_none_iff.mp hx
theorem reps_some {h : Heap} {items : Array Value} {vs : List V} (rs : VReps al h items.toList vs) {i : Nat} {v : V} (hx : vs[i]? = some v) : ∃ v', items[i]? = some v' ∧ VRep al h v' v := by
  obtain ⟨v', e, r⟩ := rs.get hx
  exact ⟨v', Array.getElem?_toList.symm.trans e, r⟩

theorem next_sound {I : Addr} {i : Nat} {c : Src} {Q : Option Value → Shared → Prop} (hh : A.handled = none) (Iv : Inv X σ al s) (hI : ¬ InA al I) (hb : X.base.heap.get? I = none) (it : ItOk al s.heap I i c) (h : Gets (dNext c i σ) fun r => ∀ o s', PostN X σ al s I i c r o s' → Q o s') :
    wpAny (model X.prog X.w) A (pyNext (.ref I)) Q E s := by
  obtain ⟨_, hT⟩ := it.notTup
  have done {h' : Heap} (hs : Heap.ExtBut I s.heap h') (t : Nat) : PostN X σ al s I i c none none { s with heap := h', toks := t } :=
    ⟨Iv.extOther hs hI hb hT t, Step.extOther (own := fun b => b = I) hs rfl hT t, rfl⟩
  have item {h' : Heap} {ob : Obj} (hob : h'.get? I = some ob) (hs : Heap.SameBut I s.heap h') (t : Nat) {v' : Value} {v : V} (rv : VRep al s.heap v' v) (g : Step al s al { s with heap := h', toks := t } (fun b => b = I) → ItOk al h' I (i + 1) c) : PostN X σ al s I i c (some v) (some v') { s with heap := h', toks := t } :=
    have st : Step al s al { s with heap := h', toks := t } (fun b => b = I) := Step.other (own := fun b => b = I) hs rfl hT hob _
    ⟨Iv.other hs hI hb hT _, st, v', rfl, rv.step st, g st⟩
  cases c with
  | list l =>
    obtain ⟨p, e, hit⟩ := it
    refine Iv.obj e h fun o _ ro h => rep_items ro h fun items x hl rs h => ?_
    cases hx : x[i]? with
    | none => exact wpAny_pyNext_list_end hh hit hl (reps_none rs hx) fun h' hs => h _ _ (by rw [hx]; exact done hs _)
    | some v =>
      obtain ⟨v', e', r'⟩ := reps_some rs hx
      refine wpAny_pyNext_list_item hit hl e' fun h' hit' hs => h _ _ ?_
      obtain ⟨ob, hob, _⟩ := id hit'
      rw [hx]
      exact item hob hs _ r' fun _ => ⟨p, e, hit'⟩
  | tup vs =>
    obtain ⟨a, items, ht, rs, hit⟩ := it
    cases hx : vs[i]? with
    | none => exact next_tuple_end hh hit ht (reps_none rs hx) fun h' hs => h _ _ (by rw [hx]; exact done hs _)
    | some v =>
      obtain ⟨v', e', r'⟩ := reps_some rs hx
      refine next_tuple_item hit ht e' fun h' hit' hs => h _ _ ?_
      obtain ⟨ob, hob, _⟩ := id hit'
      rw [hx]
      exact item hob hs _ r' fun st => ⟨a, items, st.tup _ _ ht, rs.step st, hit'⟩
  | str x =>
    have ex : (toS x).cps[i]? = x[i]? := List.getElem?_toArray ..
    rcases it with ⟨hall, t, hit⟩ | ⟨hall, t, hit⟩
    · cases hx : x[i]? with
      | none => exact wpAny_pyNext_ascii_end hh hit (ex.trans hx) fun h' hs => h _ _ (by rw [hx]; exact done hs _)
      | some c =>
        refine wpAny_pyNext_ascii_item hit (ex.trans hx) fun h' hit' hs => h _ _ ?_
        obtain ⟨ob, hob, _⟩ := id hit'
        rw [hx]
        exact item hob hs _ (.str [c] _) fun _ => .inl ⟨hall, t, hit'⟩
    · cases hx : x[i]? with
      | none => exact wpAny_pyNext_wide_end hh hit (ex.trans hx) fun h' hs => h _ _ (by rw [hx]; exact done hs _)
      | some c =>
        refine wpAny_pyNext_wide_item hit (ex.trans hx) fun h' hit' hs => h _ _ ?_
        obtain ⟨ob, hob, _⟩ := id hit'
        rw [hx]
        exact item hob hs _ (.str [c] _) fun _ => .inr ⟨hall, t, hit'⟩
  | range n =>
    obtain ⟨hin, hit⟩ := it
    by_cases hlt : i < n
    · refine wpAny_pyNext_range_item hit (by clear h done item; omega) fun h' hit' hs => h _ _ ?_
      rw [if_pos hlt]
      refine item hit' hs _ (.int _ _) fun _ => ⟨hlt, ?_⟩
      rw [show (n : Int) - ((i + 1 : Nat) : Int) = (n : Int) - i - 1 by rw [Int.natCast_add]; exact (Int.sub_sub ..).symm]
      exact hit'
    · exact wpAny_pyNext_range_end hh hit (by clear h done item; omega) fun h' hs => h _ _ (by rw [if_neg hlt]; exact done hs _)

noncomputable def PostI (X : Cx) (al : Al) (s : Shared) (r : Src × St) (it : Value) (s' : Shared) : Prop :=
  ∃ al' I, it = .ref I ∧ Inv X r.2 al' s' ∧ Step al s al' s' NoOwn ∧ ItOk al' s'.heap I 0 r.1 ∧ ¬ InA al' I ∧ s.heap.get? I = none ∧ X.base.heap.get? I = none
noncomputable def SndI (X : Cx) (d : Nat) (sc : Scope) (vars : List Str) (e : Expr) (D : DI) : Prop :=
  ∀ (A : Around) (env : Env) (ρ : Rho) (σ : St) (al : Al) (s : Shared) (Q : Value → Shared → Prop) (E : Value → Shared → Prop), Room d A → FrameOk X sc env vars ρ al s.heap → Inv X σ al s → Gets (D ρ σ) (fun r => ∀ it s', PostI X al s r it s' → Q it s') →
    wpAny (model X.prog X.w) A (eval e env) (fun x s₁ => wpAny (model X.prog X.w) A (pyIter x) Q E s₁) E s

theorem new_it (Iv : Inv X σ al' s') (st : Step al s al' s' NoOwn) (o : Obj) (t : Nat) {c : Src} (h : ItOk al' (s'.heap.push o) s'.heap.objs.size 0 c) : PostI X al s (c, σ) (.ref s'.heap.objs.size) { s' with heap := s'.heap.push o, toks := t } := by
  refine ⟨al', _, rfl, Iv.push o t, st.trans (Step.push o t), h, ?_, ?_, Iv.baseNone (get?_size _)⟩
  · intro z
    obtain ⟨ob, e⟩ := Iv.has z
    rw [get?_size] at e; cases e
  · cases e : s.heap.get? s'.heap.objs.size with
    | none => rfl
    | some o' =>
      obtain ⟨o'', e'⟩ := st.ex _ _ e (fun z => z)
      rw [get?_size] at e'; cases e'

theorem SndI.val {e : Expr} {D : DE} (h : SndE X d sc vars e D) : SndI X d sc vars e (iVal D) := by
  intro A env ρ σ al s Q E R F I g
  refine h.get R F I (g.bind.mono fun r g v' s₁ al₁ F₁ I₁ st₁ rv => ?_)
  obtain ⟨v, σ₁⟩ := r
  dsimp only at I₁ rv
  cases rv with
  | ref hp =>
    refine I₁.obj hp g.bind fun o _ ro g => rep_items ro g fun items x hl rs g => ?_
    exact wpAny_pyIter_list hl (g _ _ (new_it I₁ st₁ _ _ ⟨_, hp, _, Heap.get?_push_size _ rfl, rfl, rfl⟩))
  | tup ht rs => exact iter_tuple ht (g _ _ (new_it I₁ st₁ _ _ ⟨_, _, ht.push _, rs.mono (fun _ _ e => e) (IsTup.pushed _), _, Heap.get?_push_size _ rfl, rfl, rfl⟩))
  | str x t =>
    have ex : (toS x).cps.all (· < 128) = x.all (· < 128) := by simp
    cases ha : x.all (· < 128) with
    | true => exact wpAny_pyIter_ascii (ex.trans ha) (g _ _ (new_it I₁ st₁ _ _ (.inl ⟨ha, _, _, Heap.get?_push_size _ rfl, rfl, rfl⟩)))
    | false => exact wpAny_pyIter_wide (ex.trans ha) (g _ _ (new_it I₁ st₁ _ _ (.inr ⟨ha, _, _, Heap.get?_push_size _ rfl, rfl, rfl⟩)))
  | _ => exact False.elim g
theorem SndI.range (ok : X.Ok) {nm : Str} {p pos : Pos} {e : Expr} {D : DE} (hx : sc.names.lookup nm = some .globalImplicit) (hd : (nm == ("__debug__" : Str)) = false)
    (e0 : nsIn X.K mainGlobals nm = some Option.none) (hv : bootBuiltins nm = some (.type "range")) (hn : nm ≠ "__name__") (h : SndE X d sc vars e D) (hs : ∀ env, starEach [e] env = [(false, eval e env)]) :
    SndI X d sc vars (.Call (.Name nm p) [e] [] pos) (iRange D) := by
  intro A env ρ σ al s Q E R F I g
  refine Call_Name rfl (name_builtin ok F I hx hd e0 hv hn ?_)
  rw [hs env]
  refine PyProof.Rows.callWith_type rfl (evalArgs_plain (spliced_cons (h.get R F I (g.bind.mono fun r g v' s₁ al₁ F₁ I₁ st₁ rv => spliced_nil (rv.asInt g fun n t g => g.ite fun hn' g => call_range_1 ?_)))))
  refine wpAny_pyIter_range (IsRange.new ..) (by clear g; exact small_one (by omega) (by omega) (by omega) (by omega)) (g _ _ ?_)
  have I₂ := I₁.push { cls := .type "range", data := .fields #[.int 0 s₁.toks, .int n t, .int 1 (s₁.toks + 1)] } (s₁.toks + 1 + 1)
  refine new_it I₂ (st₁.trans (Step.push _ _)) _ _ ⟨Nat.zero_le _, ?_⟩
  have : Builtin.Range.rangeSize 0 n 1 = ((n.toNat : Nat) : Int) - ((0 : Nat) : Int) := by clear g I₂; rw [rangeSize_one]; split <;> omega
  rw [this]
  exact Heap.get?_push_size _ rfl

noncomputable def Turn (X : Cx) (sc : Scope) (vars : List Str) (env : Env) (al : Al) (s : Shared) (Q : Flow → Shared → Prop) (D : Rho → St → Option (Ctl × Rho × St)) (s' : Shared) : Prop :=
  ∃ al' ρ σ, Inv X σ al' s' ∧ Step al s al' s' (Own env) ∧ FrameOk X sc env vars ρ al' s'.heap ∧ Gets (D ρ σ) (Then X sc vars env al s Q)
theorem turn_end {D : Rho → St → Option (Ctl × Rho × St)} {Q : Flow → Shared → Prop} {r : Ctl × Rho × St} {f : Flow} (p : PostS X sc env vars al s r f s') (g : Gets (after D r) (Then X sc vars env al s Q)) {G : Prop}
    (kn : Turn X sc vars env al s Q D s' → f = .next → G) (kb : f = .brk → Q .next s' → G) (kr : ∀ v, f = .ret v → Q (.ret v) s' → G) : G := by
  obtain ⟨c, ρ₁, σ₁⟩ := r
  obtain ⟨al₁, I₁, st₁, F₁, fr⟩ := p
  cases fr with
  | next => exact kn ⟨al₁, _, _, I₁, st₁, F₁, g⟩ rfl
  | brk => exact kb rfl (g _ _ ⟨al₁, I₁, st₁, F₁, .next⟩)
  | ret rv => exact kr _ rfl (g _ _ ⟨al₁, I₁, st₁, F₁, .ret rv⟩)

theorem SndS1.while {test : Expr} {body : List Stmt} {pos : Pos} {T : DT} {b : DS} (ht : SndT X d sc vars test T) (hb : SndS X d sc vars body b) : SndS1 X d sc vars (.While test body [] pos) (sWhile T b) := .mk fun A env ρ σ al s Q E R F I h => by
  obtain ⟨r, hD, h⟩ := h.at
  obtain ⟨n, hn⟩ := whileN_of hD
  refine wpAny_While (codeAny_whileLoop (fun n s' => Turn X sc vars env al s Q (whileN T b n) s') (fun n s' w => ?_) n ⟨al, ρ, σ, I, Step.refl, F, .of hn h⟩)
  obtain ⟨al', ρ', σ', I', st', F', g⟩ := w
  cases n with
  | zero => exact False.elim g
  | succ n =>
    refine ht.get R F' I' (g.bind.mono fun r g s₁ al₁ F₁ I₁ st₁ => ?_)
    have st₁' := st'.trans st₁.weak
    obtain ⟨c, σ₁⟩ := r
    cases c with
    | false => exact wpAny_execs_nil (g _ _ ⟨al₁, I₁, st₁', F₁, .next⟩)
    | true =>
      refine hb.get R F₁ I₁ (g.bind.mono fun r g f s₂ p => turn_end (p.pre st₁') g (fun w e => ?_) (fun e q => ?_) fun v e q => ?_)
      · subst e; exact ⟨n, Nat.lt_succ_self n, w⟩
      · subst e; exact q
      · subst e; exact q

inductive TurnF (X : Cx) (sc : Scope) (vars : List Str) (env : Env) (al : Al) (s : Shared) (Q : Flow → Shared → Prop) (J : Addr) (c : Src) (D : Nat → Rho → St → Option (Ctl × Rho × St)) (s' : Shared) : Prop
  | mk (al' : Al) (ρ : Rho) (σ : St) (i : Nat) : Inv X σ al' s' → Step al s al' s' (fun b => Own env b ∨ b = J) → FrameOk X sc env vars ρ al' s'.heap → ItOk al' s'.heap J i c → ¬ InA al' J → Gets (D i ρ σ) (Then X sc vars env al s Q) → TurnF X sc vars env al s Q J c D s'
theorem SndS1.for {x : Str} {k : Nat} {p pos : Pos} {iter : Expr} {body : List Stmt} {c : DI} {b : DS} (hx : vars[k]? = some x) (hc : SndI X d sc vars iter c) (hb : SndS X d sc vars body b)
    (hs : ∀ env x, foldedSetIterable iter env x = pure x) : SndS1 X d sc vars (.For (.Name x p) iter body [] pos) (sFor c k b) := .mk fun A env ρ σ al s Q E R F I h => by
  refine wpAny_For (hc A env ρ σ al s _ E R F I (h.bind.mono fun r h it s₂ q => ?_)) (hs env)
  obtain ⟨cc, σ₁⟩ := r
  obtain ⟨al₂, J, rfl, I₂, st₂, itok, hJ, hJs, hJb⟩ := q
  obtain ⟨r, hD, h⟩ := h.at
  obtain ⟨n, hn⟩ := forN_of hD
  have hJo : ¬ Own env J := by
    intro z
    obtain ⟨o, e⟩ := F.has z
    rw [hJs] at e; cases e
  have fin {al' : Al} {s' : Shared} (x : Step al s al' s' (fun b => Own env b ∨ b = J)) : Step al s al' s' (Own env) := x.drop fun b hb => hb.elim .inl fun z => .inr (by rw [z]; exact hJs)
  refine codeAny_forLoop (fun n s' => TurnF X sc vars env al s Q J cc (forN cc k b n) s') (fun n s' w => ?_) n ⟨al₂, ρ, σ₁, 0, I₂, st₂.weak, F.step st₂, itok, hJ, .of hn h⟩
  clear hD hn h
  obtain ⟨al', ρ', σ', i, I', st', F', it', hJ', g⟩ := w
  cases n with
  | zero => exact False.elim g
  | succ n =>
    refine next_sound R.1 I' hJ' hJb it' (g.bind.mono fun o g o' s₃ p => ?_)
    obtain ⟨I₃, st₃, hr⟩ := p
    have F₃ := F'.stepO st₃ (fun b hb z => hJo (by rw [← z]; exact hb))
    have st₃' := st'.trans (st₃.mono (own' := fun b => Own env b ∨ b = J) fun b z => .inr z)
    cases o with
    | none => subst hr; exact wpAny_execs_nil (g _ _ ⟨al', I₃, fin st₃', F₃, .next⟩)
    | some v =>
      obtain ⟨v', rfl, rv, it₃⟩ := hr
      refine wpAny_assign_Name (store_sound F₃ I₃ hx rv fun s₄ F₄ I₄ st₄ => hb.get R F₄ I₄ (g.bind.mono fun r g f s₅ p => ?_))
      obtain ⟨c, ρ₅, σ₅⟩ := r
      obtain ⟨al₅, I₅, st₅, F₅, fr⟩ := p
      have st₄₅ : Step al' s₃ al₅ s₅ (Own env) := st₄.trans st₅
      have all := st₃'.trans (st₄₅.mono (own' := fun b => Own env b ∨ b = J) fun b z => .inl z)
      cases fr with
      | next =>
        obtain ⟨⟨oJ₃, hoJ₃⟩, _⟩ := it₃.notTup
        exact ⟨n, Nat.lt_succ_self n, al₅, ρ₅, σ₅, i + 1, I₅, all, F₅, it₃.step st₄₅ (fun o e => st₄₅.keep _ _ e hJ' hJo), st₄₅.outA hoJ₃ hJ' hJo, g⟩
      | brk => exact g _ _ ⟨al₅, I₅, fin all, F₅, .next⟩
      | ret rv => exact g _ _ ⟨al₅, I₅, fin all, F₅, .ret rv⟩

set_option tactic.hygienic true in
theorem SndS1.try {body : List Stmt} {h₀ : ExceptHandler} {hs : List ExceptHandler} {pos : Pos} {b : DS} (hb : SndS X d sc vars body b) : SndS1 X d sc vars (.Try body (h₀ :: hs) [] [] pos) b := by
  intro A env ρ σ al s r E R F I hD
  refine wpAny_Try_except (wpAny_mono (hb A env ρ σ al s r _ R F I hD) (fun f s₁ p => ?_) fun _ _ z => z)
  obtain ⟨al₁, I₁, st₁, F₁, fr⟩ := p
  obtain ⟨c, ρ₁, σ₁⟩ := r
  cases fr
  · exact wpAny_execs_nil ⟨al₁, I₁, st₁, F₁, .next⟩
  · exact ⟨al₁, I₁, st₁, F₁, .brk⟩
  · exact ⟨al₁, I₁, st₁, F₁, .ret ‹_›⟩
end
end Mine
set_option maxHeartbeats 200000
namespace Mine

noncomputable def retOf : Ctl → Option V
  | .ret v => some v
  | .next => some .none
  | .brk => none
noncomputable def dFn (n k : Nat) (b : DS) : DF := fun ds σ => if ds.length = n then (b (ds.map some ++ List.replicate k none) σ).bind fun r => (retOf r.1).bind fun v => some (v, r.2.2) else none

noncomputable def okKind (names : List (Str × NameKind)) (x : Str) : Bool := match names.lookup x with
  | some .local => true
  | some .cell => true
  | _ => false
theorem okKind_e {names : List (Str × NameKind)} {x : Str} (h : okKind names x = true) : names.lookup x = some .local ∨ names.lookup x = some .cell := by
  unfold okKind at h
  cases e : names.lookup x with
  | none => rw [e] at h; exact nomatch h
  | some k =>
    rw [e] at h
    cases k with
    | «local» => exact .inl rfl
    | cell => exact .inr rfl
    | _ => exact nomatch h

theorem cells_mem {x : Str} (names : List (Str × NameKind)) : ∀ (n : Nat) (acc : List (Str × Addr)), ((x, NameKind.cell) ∈ names ∨ (acc.lookup x).isSome = true) → ((cellsFrom n names acc).lookup x).isSome = true := by
  induction names with
  | nil => exact fun n acc h => h.elim (fun h => nomatch h) id
  | cons q r ih =>
    intro n acc h
    obtain ⟨y, k⟩ := q
    unfold cellsFrom
    by_cases hk : k = .cell
    · rw [if_pos (beq_iff_eq.mpr hk)]
      refine ih _ _ ?_
      by_cases e : x = y
      · subst e; exact .inr (by rw [List.lookup_cons, beq_self_eq_true]; rfl)
      · refine h.imp (fun h => (List.mem_cons.mp h).resolve_left fun z => e (Prod.mk.inj z).1) fun h => ?_
        rw [List.lookup_cons, beq_false_of_ne e]; exact h
    · rw [if_neg (mt beq_iff_eq.mp hk)]
      exact ih _ _ (h.imp_left fun h => (List.mem_cons.mp h).resolve_left fun z => hk (Prod.mk.inj z).2.symm)

theorem bindL_other {kindOf : Str → Option NameKind} {x : Str} (binds : List (Str × Value)) : ∀ (m : Str → Option Value), x ∉ binds.map (·.1) → bindL kindOf binds m x = m x := by
  induction binds with
  | nil => exact fun _ _ => rfl
  | cons q r ih =>
    intro m h
    have h1 := not_or.mp (mt List.mem_cons.mpr h)
    unfold bindL
    rw [ih _ h1.2]
    split
    · exact if_neg h1.1
    · rfl
theorem bindC_other {kindOf : Str → Option NameKind} {x : Str} (binds : List (Str × Value)) : ∀ (m : Str → Option Value), x ∉ binds.map (·.1) → bindC kindOf binds m x = m x := by
  induction binds with
  | nil => exact fun _ _ => rfl
  | cons q r ih =>
    intro m h
    have h1 := not_or.mp (mt List.mem_cons.mpr h)
    unfold bindC
    rw [ih _ h1.2]
    split
    · rfl
    · exact if_neg h1.1
theorem zip_names (ps : List Str) (vs : List Value) (h : vs.length = ps.length) : (ps.zip vs).map (·.1) = ps := List.map_fst_zip (Nat.le_of_eq h.symm)
theorem binds_at {kindOf : Str → Option NameKind} {x : Str} {v : Value} (ps : List Str) : ∀ (vs : List Value) (m m' : Str → Option Value) (i : Nat), vs.length = ps.length → ps.Nodup → ps[i]? = some x → vs[i]? = some v →
    (kindOf x = some .local → bindL kindOf (ps.zip vs) m x = some v) ∧ (kindOf x = some .cell → bindC kindOf (ps.zip vs) m' x = some v) := by
  induction ps with
  | nil => intro _ _ _ _ _ _ h; exact nomatch h
  | cons p ps ih =>
    intro vs m m' i hl nd h1 h2
    cases vs with
    | nil => exact nomatch hl
    | cons w vs =>
      have hl2 : vs.length = ps.length := Nat.succ.inj hl
      have nd' := List.nodup_cons.mp nd
      cases i with
      | succ i => exact ih vs _ _ i hl2 nd'.2 h1 h2
      | zero =>
        cases h1; cases h2
        have ho : x ∉ (ps.zip vs).map (·.1) := by rw [zip_names ps vs hl2]; exact nd'.1
        refine ⟨fun hk => ?_, fun hk => ?_⟩
        · show bindL kindOf (ps.zip vs) _ x = _
          rw [bindL_other _ _ ho, if_pos hk]; exact if_pos rfl
        · show bindC kindOf (ps.zip vs) _ x = _
          rw [bindC_other _ _ ho, if_neg (by rw [hk]; decide)]; exact if_pos rfl

section
variable {X : Cx} {d : Nat} {sc : Scope} {vars : List Str} {env : Env} {ρ : Rho} {σ : St} {al al' al'' : Al} {s s' s'' : Shared} {A : Around} {E : Value → Shared → Prop}

theorem Room.deeper (R : Room (d + 1) A) (env : Env) : Room d (A.deeper env) := ⟨R.1, by have := R.2.1; show A.depth + 1 + d < 1000; omega, by have := R.2.2; show A.units + 3 + 8 * d + 200 < 9900; omega⟩

theorem entry_frame {fd : FuncData} {f : Addr} {ps extra : List Str} {vs : List Value} {ds : List V} {s₁ : Shared}
    (hk : fd.scope.kind = .function) (hclo : fd.closure = []) (hglob : fd.globals = mainGlobals) (hblt : fd.builtins = builtinsNs)
    (hkinds : (ps ++ extra).all (okKind fd.scope.names) = true) (nd : (ps ++ extra).Nodup) (I : Inv X σ al s) (rs : VReps al s.heap vs ds) (hlen : ds.length = ps.length)
    (hc : InCallC s (callEnvC fd s.heap.objs.size f).locals (bindL (callEnvC fd s.heap.objs.size f).kindOf (ps.zip vs) fun _ => none) (callEnvC fd s.heap.objs.size f).cells
        (bindC (callEnvC fd s.heap.objs.size f).kindOf (ps.zip vs) fun _ => none) s₁) :
    FrameOk X fd.scope (callEnvC fd s.heap.objs.size f) (ps ++ extra) (ds.map some ++ List.replicate extra.length none) al s₁.heap ∧ Inv X σ al s₁ ∧ Step al s al s₁ NoOwn ∧ ∀ b, Own (callEnvC fd s.heap.objs.size f) b → s.heap.get? b = none := by
  obtain ⟨h', tk, hs⟩ := hc.toInCall.same
  have I₁ : Inv X σ al s₁ := by
    have := keepAll_inv I (h' := h') (fun b o e => by have := hc.toInCall.keep b o e; rw [hs] at this; exact this) tk
    rw [hs]; exact this
  have st₁ : Step al s al s₁ NoOwn := by
    have := keepAll_step (own := NoOwn) (al := al) (s := s) (h' := h') (fun b o e => by have := hc.toInCall.keep b o e; rw [hs] at this; exact this) tk
    rw [hs]; exact this
  have new : ∀ b, Own (callEnvC fd s.heap.objs.size f) b → s.heap.objs.size ≤ b := by
    rintro b (rfl | ⟨n, e⟩)
    · exact Nat.le_refl _
    · exact Nat.le_of_lt (hc.above n b (mem_of_lookup e))
  have hnone : ∀ b, Own (callEnvC fd s.heap.objs.size f) b → s.heap.get? b = none := fun b hb => by
    cases e : s.heap.get? b with
    | none => rfl
    | some o => exact absurd (Heap.lt_size e) (Nat.not_lt.mpr (new b hb))
  have hlv := rs.length
  have kd {x : Str} (hx : x ∈ ps ++ extra) : fd.scope.names.lookup x = some .local ∨ (fd.scope.names.lookup x = some .cell ∧ ((callEnvC fd s.heap.objs.size f).cells.lookup x).isSome = true) :=
    (okKind_e (List.all_eq_true.mp hkinds x hx)).imp_right fun hl => ⟨hl, cells_mem _ _ _ (.inl (mem_of_lookup hl))⟩
  refine ⟨⟨rfl, hk, hglob, hblt, ⟨_, _, hc.toInCall.ns, hc.cell, fun i x dd hx hr => ?_⟩, fun b hb => ⟨?_, I.baseNone (hnone b hb)⟩, fun i x hx => kd (List.mem_of_getElem? hx),
    fun n c e => ⟨Nat.ne_of_gt (hc.above n c (mem_of_lookup e)), fun n' e' => name_of_addr hc.apart (mem_of_lookup e) (mem_of_lookup e')⟩, nd⟩, I₁, st₁, hnone⟩
  · by_cases hi : i < ds.length
    · rw [List.getElem?_append_left (by rw [List.length_map]; exact hi), List.getElem?_map, Option.map_eq_some_iff] at hr
      obtain ⟨d', hd', hr⟩ := hr
      cases hr
      obtain ⟨v, hv, rv⟩ := rs.get hd'
      rw [List.getElem?_append_left (by rw [← hlen]; exact hi)] at hx
      have at_ := binds_at (kindOf := (callEnvC fd s.heap.objs.size f).kindOf) (x := x) (v := v) ps vs (fun _ => none) (fun _ => none) i (hlv.trans hlen) (List.nodup_append.mp nd).1 hx hv
      exact ⟨v, rv.step st₁, (kd (List.mem_append_left _ (List.mem_of_getElem? hx))).imp (fun hl => ⟨hl, at_.1 hl⟩) fun hl => ⟨hl.1, hl.2, at_.2 hl.1⟩⟩
    · rw [List.getElem?_append_right (by rw [List.length_map]; exact Nat.not_lt.mp hi), List.getElem?_replicate] at hr
      split at hr <;> cases hr
  · intro z
    obtain ⟨o, e⟩ := I.has z
    rw [hnone b hb] at e; cases e

noncomputable def SndFnC (X : Cx) (d : Nat) (f : Addr) (F : DF) : Prop :=
  ∀ (A : Around) (vs : List Value) (ds : List V) (σ : St) (al : Al) (s : Shared) (R : Result → Shared → Prop), Room d A → Inv X σ al s → VReps al s.heap vs ds → Gets (F ds σ) (fun r => ∀ v s', PostE X al s r v s' → R (.ok (.ret v)) s') →
    codeAny (model X.prog X.w) A (.call (.ref f) ⟨vs, []⟩) R s
theorem SndFnC.snd {f : Addr} {F : DF} (h : SndFnC X d f F) : SndFn X d f F := fun A vs ds σ al s r E R I rs hD => wpAny_call (h A vs ds σ al s _ R I rs (.of hD fun _ _ p => p))

theorem SndFnC.of (ok : X.Ok) {f : Addr} {oc : Value} {od : Option Addr} {osl : Array (Option Value)} {fd : FuncData} {body : List Stmt} {ps extra : List Str} {b : DS}
    (hK : X.K.lookup f = some ⟨oc, od, .func fd, osl⟩) (hcd : codeIn X.K fd.code fd.qualname = true) (hbody : fd.body = .stmts body)
    (hbind : ∀ (s : Shared) (vals : List Value), X.K.In s.heap → vals.length = ps.length → BindsTo s fd ⟨vals, []⟩ (ps.zip vals))
    (hclo : fd.closure = []) (hglob : fd.globals = mainGlobals) (hblt : fd.builtins = builtinsNs)
    (hkinds : (ps ++ extra).all (okKind fd.scope.names) = true) (nd : (ps ++ extra).Nodup)
    (hb : SndS X d fd.scope (ps ++ extra) body b)
    (hco : fd.scope.isCoroutine = false := by rfl) (hgen : fd.scope.isGenerator = false := by rfl) (hk : fd.scope.kind = .function := by rfl) : SndFnC X (d + 1) f (dFn ps.length extra.length b) := by
  intro A vs ds σ al s RR R I rs g
  refine g.ite fun hlen g => ?_
  have hlv := rs.length.trans hlen
  have IK := I.inK ok
  have kinds (x : Str × Value) (hx : x ∈ ps.zip vs) : fd.scope.names.lookup x.1 = some .local ∨ (fd.scope.names.lookup x.1 = some .cell ∧ ((cellsFrom (s.heap.objs.size + 1) fd.scope.names []).lookup x.1).isSome = true) := by
    have hm : x.1 ∈ ps := by rw [← zip_names ps vs hlv]; exact List.mem_map_of_mem hx
    exact (okKind_e (List.all_eq_true.mp hkinds x.1 (List.mem_append_left _ hm))).imp_right fun hl => ⟨hl, cells_mem _ _ _ (.inl (mem_of_lookup hl))⟩
  refine codeAny_call_function (by have := R.2.1; show _ < 1000; clear g; omega) (IK _ _ hK) rfl hco hgen hbody (codeRec_of IK hcd) (hbind s vs IK hlv _ _ _ _ ?_)
  rw [hclo]
  refine wpAny_newFunctionEnv_cells hk kinds fun env he s₁ hc => ?_
  subst he
  refine ⟨(I.nolimit ok).keeps hc.toInCall.keep, codeAny_func ?_⟩
  obtain ⟨F₁, I₁, st₁, hnone⟩ := entry_frame (X := X) (σ := σ) (al := al) (f := f) (ps := ps) (extra := extra) hk hclo hglob hblt hkinds nd I rs hlen hc
  refine hb.get (R.deeper _) F₁ I₁ (g.bind.mono fun r g fl s₂ p => ?_)
  obtain ⟨c, ρ', σ'⟩ := r
  obtain ⟨al₂, I₂, st₂, F₂, fr⟩ := p
  have fin := (st₁.weak.trans st₂).drop (own' := NoOwn) fun b hb => .inr (hnone b hb)
  cases fr with
  | ret rv => exact g _ _ ⟨al₂, I₂, fin, rv⟩
  | next => exact g _ _ ⟨al₂, I₂, fin, .none⟩
  | brk => exact False.elim g

noncomputable def mkInst (F : DF) : DF := fun xs σ => (F (.ref σ.length :: xs) (σ ++ [.inst []])).bind fun r => if r.1.isNone0 = true then some (.ref σ.length, r.2) else none
theorem SndFn.make (ok : X.Ok) (hm : makesIn X.K X.C = true) {fI : Addr} {F : DF} (hi : findIn X.K (.ref X.C) "__init__" = some (some (.ref fI))) (hf : typeIn X.K (.ref fI) = some (.type "function")) (hF : SndFnC X d fI F) :
    SndFn X (d + 1) X.C (mkInst F) := by
  intro A vs ds σ al s r E R I rs hD
  have g : Gets (mkInst F ds σ) fun r' => ∀ v s', PostE X al s r' v s' → PostE X al s r v s' := .of hD fun _ _ p => p
  have g := g.bind
  clear hD
  obtain ⟨hh, gg, dr, t, os⟩ := s
  refine wpAny_call (make_core (makes_of (I.inK ok) hm) (looks_findIn (I.inK ok) hi) (fun self => bind_fn (I.inK ok) self hf) (.inl rfl) ?_)
  have I₂ : Inv X σ al ⟨(hh.push emptyDict).push (instObj X.C hh.objs.size), gg, dr, t, os⟩ := (I.push emptyDict t).push _ t
  have st₁ : Step al ⟨hh, gg, dr, t, os⟩ al ⟨hh.push emptyDict, gg, dr, t, os⟩ NoOwn := Step.push _ t
  have st₂ : Step al ⟨hh.push emptyDict, gg, dr, t, os⟩ al ⟨(hh.push emptyDict).push (instObj X.C hh.objs.size), gg, dr, t, os⟩ NoOwn := Step.push _ t
  have n0 : hh.get? hh.objs.size = none := get?_size hh
  have n1 : hh.get? (hh.objs.size + 1) = none := by
    cases e : hh.get? (hh.objs.size + 1) with
    | none => rfl
    | some o => exact absurd (Heap.lt_size e) (Nat.not_lt.mpr (Nat.le_succ _))
  have hA {a : Addr} (n : hh.get? a = none) : ¬ InA al a := fun z => by obtain ⟨o, e⟩ := I.has z; dsimp only at e; rw [n] at e; cases e
  have g1 : ((hh.push emptyDict).push (instObj X.C hh.objs.size)).get? (hh.objs.size + 1) = some (instObj X.C hh.objs.size) := by
    have := Heap.get?_push_size (hh.push emptyDict) (o := instObj X.C hh.objs.size) rfl
    rwa [Heap.size_push] at this
  have g0 : ((hh.push emptyDict).push (instObj X.C hh.objs.size)).get? hh.objs.size = some emptyDict := Heap.get?_push_of_some _ (Heap.get?_push_size _ rfl)
  have j := I₂.join (o := .inst []) (p := (hh.objs.size + 1, hh.objs.size)) ⟨g1, [], 0, g0, rfl, Nat.zero_le _, fun i d h => nomatch h⟩ (hA n1) (hA n0) (I.baseNone n1) (I.baseNone n0)
  have stj := (st₁.trans st₂).join (p := (hh.objs.size + 1, hh.objs.size)) n1 n0
  have rj : VRep (al ++ [(hh.objs.size + 1, hh.objs.size)]) ((hh.push emptyDict).push (instObj X.C hh.objs.size)) (.ref (hh.objs.size + 1)) (.ref σ.length) := join_ref (p := (hh.objs.size + 1, hh.objs.size)) I.len
  have Ru : Room d (A.under (.builtin "type.__call__" ⟨.ref X.C :: vs, []⟩)) := by
    have w1 : (Code.builtin "type.__call__" ⟨.ref X.C :: vs, []⟩).weight ≤ 1 := by first | exact Nat.le_refl 1 | exact Nat.zero_le 1
    have w2 : (Code.builtin "type.__call__" ⟨.ref X.C :: vs, []⟩).cUnits ≤ 4 := by
      show 1 + 3 * _ ≤ 4
      have : (Code.builtin "type.__call__" ⟨.ref X.C :: vs, []⟩).frames ≤ 1 := by unfold Code.weight at w1; omega
      omega
    refine ⟨R.1, ?_, ?_⟩
    · have := R.2.1; show A.depth + _ + d < 1000; omega
    · have := R.2.2; show A.units + _ + 8 * d + 200 < 9900; omega
  refine hF _ _ _ _ _ _ _ Ru j (.cons rj (rs.step stj)) (g.mono fun q g v s' p => g.ite fun hn g => ?_)
  obtain ⟨al', I', st', rv⟩ := p
  obtain ⟨y, σ'⟩ := q
  dsimp only at rv hn
  cases rv with
  | none => exact ⟨rfl, g _ _ ⟨al', I', stj.trans st', rj.step st'⟩⟩
  | _ => exact nomatch hn
end
end Mine
set_option maxHeartbeats 200000
namespace Mine

noncomputable def dDict (ks : List Txt) (as : List DE) : DE := fun ρ σ => (dEs as ρ σ).bind fun r => some (.ref r.2.length, r.2 ++ [.dict (ks.zip r.1)])
noncomputable def dTable (es : List (Txt × Int)) : DE := fun _ σ => some (.ref σ.length, σ ++ [.dict (es.map fun p => (p.1, .int p.2))])

inductive SndDs (X : Cx) (d : Nat) (sc : Scope) (vars : List Str) : List (Option Expr) → List Expr → List Txt → List DE → Prop
  | nil : SndDs X d sc vars [] [] [] []
  | cons {x : Str} {n : Nat} {p : Pos} {t : Txt} {v : Expr} {ks : List (Option Expr)} {vs : List Expr} {ts : List Txt} {D : DE} {Ds : List DE} : x = toS t → SndE X d sc vars v D → SndDs X d sc vars ks vs ts Ds →
      SndDs X d sc vars (some (.Constant (.str x) n p) :: ks) (v :: vs) (t :: ts) (D :: Ds)

section
variable {X : Cx} {d : Nat} {sc : Scope} {vars : List Str} {env : Env} {ρ : Rho} {σ : St} {al al' al'' : Al} {s s' s'' : Shared} {A : Around} {E : Value → Shared → Prop}

theorem SndDs.len {ks : List (Option Expr)} {vs : List Expr} {ts : List Txt} {Ds : List DE} (h : SndDs X d sc vars ks vs ts Ds) : ks.all (·.isSome) = true ∧ ks.length = vs.length ∧ ts.length = ks.length ∧ Ds.length = ks.length := by
  induction h with
  | nil => exact ⟨rfl, rfl, rfl, rfl⟩
  | cons _ _ _ ih => obtain ⟨a, b, c, e⟩ := ih; exact ⟨by simpa using a, by simp [b], by simp [c], by simp [e]⟩

noncomputable def PostD (X : Cx) (al : Al) (s : Shared) (ts : List Txt) (r : List V × St) (vs : List (Value × Value)) (s' : Shared) : Prop :=
  ∃ al', Inv X r.2 al' s' ∧ Step al s al' s' NoOwn ∧ VReps al' s'.heap (vs.map (·.2)) r.1 ∧ Carries (strKind X.prog X.w) vs ((ts.map toS).zip (vs.map (·.2)))

theorem evalPairs_get {ks : List (Option Expr)} {vs : List Expr} {ts : List Txt} {Ds : List DE} (h : SndDs X d sc vars ks vs ts Ds) : ∀ (pos : Pos) (A : Around) (env : Env) (ρ : Rho) (σ : St) (al : Al) (s : Shared) (Q : List (Value × Value) → Shared → Prop) (E : Value → Shared → Prop), Room d A → FrameOk X sc env vars ρ al s.heap → Inv X σ al s →
    Gets (dEs Ds ρ σ) (fun r => r.1.length = Ds.length → ∀ v s', PostD X al s ts r v s' → Q v s') → wpAny (model X.prog X.w) A (evalPairs (pairTrees ks vs env pos)) Q E s := by
  induction h with
  | nil =>
    intro pos A env ρ σ al s Q E R F I g
    exact pairTrees_nil_walk (g rfl _ _ ⟨al, I, Step.refl, .nil, trivial⟩)
  | cons hx h1 h2 ih =>
    intro pos A env ρ σ al s Q E R F I g
    subst hx
    refine pairTrees_cons_walk (Constant_str (h1.get R (F.step (Step.tok (al := al) (s := s) (own := NoOwn) (s.toks + 1))) (I.tok _) (g.bind.mono fun r g v s₁ al₁ F₁ I₁ st₁ r₁ => ih pos _ _ _ _ _ _ _ E R F₁ I₁ (g.bind.mono fun q g hl vs s₂ p => ?_))))
    obtain ⟨al₂, I₂, st₂, r₂, c₂⟩ := p
    exact g (congrArg Nat.succ hl) _ _ ⟨al₂, I₂, ((Step.tok _).trans st₁).trans st₂, .cons (r₁.step st₂) r₂, strKind_is .., rfl, c₂⟩

theorem zip_fst {α β : Type} (xs : List α) (ys : List β) (h : xs.length = ys.length) : (xs.zip ys).map (·.1) = xs := List.map_fst_zip (Nat.le_of_eq h)
theorem zip_snd {α β : Type} (xs : List α) (ys : List β) (h : xs.length = ys.length) : (xs.zip ys).map (·.2) = ys := List.map_snd_zip (Nat.le_of_eq h.symm)

theorem size_ne_sys (ok : X.Ok) (I : Inv X σ al s) : (s.heap.objs.size == sysModules) = false := by
  obtain ⟨o, es, ep, ho, _⟩ := I.globals ok
  have := Heap.lt_size ho
  have h3 : (3 : Nat) < s.heap.objs.size := this
  show (s.heap.objs.size == 1) = false
  rw [beq_eq_false_iff_ne]
  omega

theorem dict_joins (ok : X.Ok) {a : Addr} {s₁ : Shared} {h' : Heap} {t : Nat} {kvs : List (Str × Value)} {es : List (Txt × V)} {σ₀ : St} (I : Inv X σ₀ al s) (I₁ : Inv X σ al' s₁) (st : Step al s al' s₁ NoOwn) (ha : s.heap.get? a = none) (hA : ¬ InA al' a) (hsys : (a == sysModules) = false)
    (hT : ∀ items, ¬ IsTup s₁.heap a items) (hs : Heap.SameBut a s₁.heap h') (hd : h'.DictOf (strKind X.prog X.w) a kvs) (hk : kvs.map (·.1) = es.map (fun q => toS q.1)) (hv : VReps al' s₁.heap (kvs.map (·.2)) (es.map (·.2))) :
    PostE X al s (.ref σ.length, σ ++ [.dict es]) (.ref a) { s₁ with heap := h', toks := t } := by
  have hb := I.baseNone ha
  obtain ⟨ob, _, _, hob, _⟩ := id hd
  have I₂ : Inv X σ al' { s₁ with heap := h', toks := t } := I₁.other hs hA hb hT t
  have st₂ : Step al' s₁ al' { s₁ with heap := h', toks := t } (fun b => b = a) := Step.other (own := fun b => b = a) hs rfl hT hob t
  have st₃ : Step al s al' { s₁ with heap := h', toks := t } NoOwn := (st.weak.trans st₂).drop fun b hb => .inr (by rw [hb]; exact ha)
  have j := I₂.join (o := .dict es) (p := (a, a)) ⟨rfl, hsys, kvs, hd, hk, hv.step st₂⟩ hA hA hb hb
  refine ⟨al' ++ [(a, a)], j, st₃.join ha ha, ?_⟩
  have := join_ref (al := al') (σ := σ) (p := (a, a)) (h := h') I₁.len
  exact this

theorem dict_notTup {h : Heap} {a : Addr} {kvs : List (Str × Value)} (hd : h.DictOf (strKind X.prog X.w) a kvs) : ∀ items, ¬ IsTup h a items := by
  rintro items ⟨ob, ho, hc, _⟩
  obtain ⟨o', _, _, e, hx, _⟩ := hd
  rw [ho] at e; cases e
  rw [hx.1] at hc; simp at hc

theorem SndE.dict (ok : X.Ok) {ks : List (Option Expr)} {vs : List Expr} {ts : List Txt} {Ds : List DE} {pos : Pos} (h : SndDs X d sc vars ks vs ts Ds) (h0 : ks ≠ []) (hl : ks.length ≤ 15) (nd : (ts.map toS).Nodup) :
    SndE X d sc vars (.Dict ks vs pos) (dDict ts Ds) := .mk fun A env ρ σ al s Q E R F I g => by
  obtain ⟨l1, l2, l3, l4⟩ := h.len
  refine wpAny_Dict_walk (knd := strKind X.prog X.w) l1 l2 h0 hl ?_
  have I₀ : Inv X σ al { s with heap := s.heap.push { cls := .type "dict", data := .dict #[] } } := I.push _ s.toks
  have st₀ : Step al s al { s with heap := s.heap.push { cls := .type "dict", data := .dict #[] } } NoOwn := Step.push _ s.toks
  refine evalPairs_get h pos A env ρ σ al _ _ E R (F.step st₀) I₀ (g.bind.mono fun r g hx vs' s₁ p => ?_)
  obtain ⟨al₁, I₁, st₁, rv, ca⟩ := p
  have hxl : ts.length = r.1.length := by rw [hx, l3, l4]
  have hvl : (ts.map toS).length = (vs'.map (·.2)).length := by rw [rv.length, List.length_map]; exact hxl
  have hA₀ : ¬ InA al s.heap.objs.size := fun z => by
    obtain ⟨o, e⟩ := I.has z
    rw [get?_size] at e; cases e
  have hnew : (s.heap.push { cls := .type "dict", data := .dict #[] }).get? s.heap.objs.size = some { cls := .type "dict", data := .dict #[] } := Heap.get?_push_size _ rfl
  have hk₁ := st₁.keep _ _ hnew hA₀ (fun z => z)
  obtain ⟨o', es', ep', ho', hr'⟩ := Heap.DictOf.new (knd := strKind X.prog X.w) s.heap
  rw [hnew] at ho'; cases ho'
  refine ⟨_, ca, ⟨_, es', ep', hk₁, hr'⟩, fun h' hd hs => g _ _ ?_⟩
  rw [merged_nil_of_nodup _ (by rw [zip_fst _ _ hvl]; exact nd)] at hd
  refine dict_joins ok I I₁ (st₀.trans st₁) (get?_size _) (st₁.outA hnew hA₀ (fun z => z)) (size_ne_sys ok I) (dict_notTup (X := X) ⟨_, es', ep', hk₁, hr'⟩) hs hd ?_ ?_
  · rw [zip_fst _ _ hvl, show (ts.zip r.1).map (fun q => toS q.1) = ((ts.zip r.1).map (·.1)).map toS from (List.map_map (g := toS) (f := Prod.fst)).symm, zip_fst _ _ hxl]
  · rw [zip_snd _ _ hvl, zip_snd _ _ hxl]; exact rv

inductive IntPairs : List (Option Expr) → List Expr → List (Txt × Int) → Prop
  | nil : IntPairs [] [] []
  | cons {x : Str} {n m : Nat} {p q : Pos} {t : Txt} {i : Int} {ks : List (Option Expr)} {vs : List Expr} {es : List (Txt × Int)} : x = toS t → IntPairs ks vs es →
      IntPairs (some (.Constant (.str x) n p) :: ks) (.Constant (.int i) m q :: vs) ((t, i) :: es)

inductive IntKvs : List (Str × Value) → List (Txt × Int) → Prop
  | nil : IntKvs [] []
  | cons {t : Txt} {i : Int} {k : Tok} {kvs : List (Str × Value)} {es : List (Txt × Int)} : IntKvs kvs es → IntKvs ((toS t, .int i k) :: kvs) ((t, i) :: es)
theorem IntKvs.fst {kvs : List (Str × Value)} {es : List (Txt × Int)} (h : IntKvs kvs es) : kvs.map (·.1) = es.map (fun e => toS e.1) := by
  induction h with
  | nil => rfl
  | cons _ ih => exact congrArg (_ :: ·) ih
theorem IntKvs.snd {h : Heap} {kvs : List (Str × Value)} {es : List (Txt × Int)} (r : IntKvs kvs es) : VReps al h (kvs.map (·.2)) (es.map fun e => V.int e.2) := by
  induction r with
  | nil => exact .nil
  | cons _ ih => exact .cons (.int _ _) ih
theorem IntKvs.app {kvs more : List (Str × Value)} {es fs : List (Txt × Int)} (h : IntKvs kvs es) (h' : IntKvs more fs) : IntKvs (kvs ++ more) (es ++ fs) := by
  induction h with
  | nil => exact h'
  | cons _ ih => exact .cons ih

theorem evalPairs_int {ks : List (Option Expr)} {vs : List Expr} {es : List (Txt × Int)} (h : IntPairs ks vs es) : ∀ (pos : Pos) (s : Shared) (Q : List (Value × Value) → Shared → Prop), (∀ vs kvs tk, Carries (strKind X.prog X.w) vs kvs → IntKvs kvs es → Q vs { s with toks := tk }) →
    wpAny (model X.prog X.w) A (evalPairs (pairTrees ks vs env pos)) Q E s := by
  induction h with
  | nil => intro pos s Q k; exact pairTrees_nil_walk (k [] [] s.toks trivial .nil)
  | cons hx h ih =>
    intro pos s Q k
    refine pairTrees_cons_walk (Constant_str (wpAny_Constant_int ?_))
    refine ih pos _ _ fun vs kvs tk c r => ?_
    subst hx
    exact k _ ((_, _) :: kvs) tk ⟨strKind_is .., rfl, c⟩ (.cons r)

theorem subDict_short {ks : List (Option Expr)} {vs : List Expr} {es : List (Txt × Int)} {pos : Pos} {Q : Addr → Shared → Prop} (h : IntPairs ks vs es) (hlen : (pairTrees ks vs env pos).length ≤ 15) (nd : (es.map fun e => toS e.1).Nodup)
    (k : ∀ h' tk kvs, IntKvs kvs es → h'.DictOf (strKind X.prog X.w) s.heap.objs.size kvs → (∀ b o, s.heap.get? b = some o → h'.get? b = some o) → Q s.heap.objs.size { s with heap := h', toks := tk }) :
    wpAny (model X.prog X.w) A (subDict (pairTrees ks vs env pos)) Q E s := by
  refine wpAny_subDict (knd := strKind X.prog X.w) hlen (evalPairs_int h pos _ _ fun vs' kvs tk c r => ?_)
  refine ⟨kvs, c, Heap.DictOf.new _, fun h' hd hs => ?_⟩
  rw [merged_nil_of_nodup _ (by rw [r.fst]; exact nd)] at hd
  exact k h' _ kvs r hd fun b o e => (hs.2 b (Nat.ne_of_lt (Heap.lt_size e))).trans (Heap.get?_push_of_some _ e)

set_option tactic.hygienic true in
theorem loop_int {ks : List (Option Expr)} {vs : List Expr} {es : List (Txt × Int)} (h : IntPairs ks vs es) {dd : Addr} {pos : Pos} (f : Sem Value × Sem Value → PUnit → Sem (ForInStep PUnit))
    (hf : ∀ p u, f p u = (do let kv ← p.1; let vv ← holding [kv] p.2; holding [kv, vv] (dictSet dd kv vv); pure (.yield ⟨⟩))) : ∀ (s : Shared) (acc : List (Str × Value)) (Q : PUnit → Shared → Prop), s.heap.DictOf (strKind X.prog X.w) dd acc → (acc.map (·.1) ++ es.map fun e => toS e.1).Nodup → acc.length + es.length ≤ 100 →
      (∀ h' tk kvs, IntKvs kvs es → h'.DictOf (strKind X.prog X.w) dd (acc ++ kvs) → Heap.SameBut dd s.heap h' → Q ⟨⟩ { s with heap := h', toks := tk }) →
    wpAny (model X.prog X.w) A (forIn (pairTrees ks vs env pos) ⟨⟩ f) Q E s := by
  induction h with
  | nil =>
    intro s acc Q hd nd hl k
    show wpAny _ _ (forIn ([] : List (Sem Value × Sem Value)) _ f) Q E s
    rw [List.forIn_nil]
    exact wpAny_pure (k s.heap s.toks [] .nil (by rw [List.append_nil]; exact hd) (Heap.SameBut.refl _ _))
  | cons hx h ih =>
    intro s acc Q hd nd hl k
    rename_i x n m p q t i ks' vs' es'
    subst hx
    show wpAny _ _ (forIn ((_, _) :: pairTrees ks' vs' env pos) _ f) Q E s
    rw [List.forIn_cons, hf]
    refine wpAny_bind (wpAny_bind (Constant_str (env := env) (k := n) (pos := p) (wpAny_bind (wpAny_holding (wpAny_bind (wpAny_Constant_int (env := env) (k := m) (pos := q) (wpAny_bind (wpAny_standAt (wpAny_pure (wpAny_bind (wpAny_holding ?_))))))))))) 
    have hl' : acc.length ≤ 100 := by omega
    refine wpAny_dictSet_pairs (k := toS t) (hsz := by rw [sizeLine_val]; omega) (strKind_is ..) hd fun h₁ hd₁ hs₁ => wpAny_pure ?_
    have hfresh : stored acc (toS t) (Value.int i (s.toks + 1)) = acc ++ [(toS t, Value.int i (s.toks + 1))] := by
      unfold stored
      rw [if_neg]
      rw [List.any_eq_true]
      rintro ⟨y, hy, e⟩
      rw [List.nodup_append] at nd
      exact nd.2.2 y.1 (List.mem_map.mpr ⟨y, hy, rfl⟩) (toS t) (by simp) (of_decide_eq_true e)
    have hd₂ : h₁.DictOf (strKind X.prog X.w) dd (acc ++ [(toS t, Value.int i (s.toks + 1))]) := by rw [← hfresh]; exact hd₁
    refine ih _ (acc ++ [(toS t, Value.int i (s.toks + 1))]) Q hd₂ (by simpa using nd) (by simp at hl ⊢; omega) fun h' tk kvs r hd' hs' => ?_
    exact k h' tk ((toS t, Value.int i (s.toks + 1)) :: kvs) (.cons r) (by simpa using hd') (hs₁.trans hs')

theorem subDict_long {ks : List (Option Expr)} {vs : List Expr} {es : List (Txt × Int)} {pos : Pos} {Q : Addr → Shared → Prop} (h : IntPairs ks vs es) (hlen : 15 < (pairTrees ks vs env pos).length) (hl : es.length ≤ 100) (nd : (es.map fun e => toS e.1).Nodup)
    (k : ∀ h' tk kvs, IntKvs kvs es → h'.DictOf (strKind X.prog X.w) s.heap.objs.size kvs → (∀ b o, s.heap.get? b = some o → h'.get? b = some o) → Q s.heap.objs.size { s with heap := h', toks := tk }) :
    wpAny (model X.prog X.w) A (subDict (pairTrees ks vs env pos)) Q E s := by
  unfold subDict
  refine wpAny_bind (wpAny_alloc ?_)
  refine wpAny_bind (wpAny_holding ?_)
  rw [if_neg (by omega)]
  refine wpAny_bind (wpAny_rule (wpAny_bind ?_))
  refine loop_int (X := X) h (dd := s.heap.objs.size) _ (fun p u => ?_) _ [] _ (Heap.DictOf.new _) (by simpa using nd) (by simpa using hl) fun h' tk kvs r hd hs => ?_
  · first | rfl | simp
  · refine wpAny_pure (wpAny_pure (k h' tk kvs r (by simpa using hd) fun b o e => (hs.2 b (Nat.ne_of_lt (Heap.lt_size e))).trans (Heap.get?_push_of_some _ e)))

theorem dictPut_pairs {dd : Addr} {kvs : List (Str × Value)} {k : Str} {key v : Value} {Q : Unit → Shared → Prop} (hkey : (strKind X.prog X.w).is k key = true) (hm : s.heap.DictOf (strKind X.prog X.w) dd kvs) (hsz : kvs.length ≤ 1000)
    (hnew : k ∉ kvs.map (·.1))
    (hQ : ∀ h', h'.DictOf (strKind X.prog X.w) dd (kvs ++ [(k, v)]) → Heap.SameBut dd s.heap h' → Q () { s with heap := h' }) :
    wpAny (model X.prog X.w) A (dictPut dd ((strKind X.prog X.w).hash k) key v) Q E s := by
  obtain ⟨o, es, ep, ho, hc, hd, hk, hp, hn⟩ := hm
  have hes : es.size ≤ sizeLine := by
    have e1 := hp.length
    have e2 : es.toList.length = es.size := by simp
    rw [sizeLine_val]; omega
  unfold dictPut
  refine wpAny_bind (wpAny_dictFind_of hkey ho hd hk ?_)
  have hidx : (es.findIdx? fun e => (strKind X.prog X.w).is k e.key) = kvs.findIdx? fun kv => decide (kv.1 = k) := by
    rw [← hp.findIdx k]; obtain ⟨l⟩ := es; simp
  have hno : (es.findIdx? fun e => (strKind X.prog X.w).is k e.key) = Option.none := by
    rw [hidx, List.findIdx?_eq_none_iff]
    intro kv hkv
    rw [decide_eq_false_iff_not]
    rintro rfl
    exact hnew (List.mem_map_of_mem hkv)
  rw [hno]
  refine wpAny_updateDictKeys (hz := hes) ho hd (hQ _ ⟨_, _, ep + 1, Heap.get?_update_self _ ho (Obj.isFreed_of_dict (Obj.data_mapDictKeys hd _)),
      hc.mapDictKeys _, Obj.data_mapDictKeys hd _, hk.push hkey _, ?_, ?_⟩ (Heap.SameBut.update ..))
  · have := hp.append hkey ((strKind X.prog X.w).hash k) v
    obtain ⟨l⟩ := es
    simpa using this
  · rw [List.map_append, List.nodup_append]
    refine ⟨hn, by simp, ?_⟩
    intro a ha b hb
    simp only [List.map_cons, List.map_nil, List.mem_singleton] at hb
    subst hb
    exact fun e => hnew (e ▸ ha)
end
end Mine
set_option maxHeartbeats 200000
namespace Mine
section
variable {X : Cx} {d : Nat} {sc : Scope} {vars : List Str} {env : Env} {ρ : Rho} {σ : St} {al al' al'' : Al} {s s' s'' : Shared} {A : Around} {E : Value → Shared → Prop}

theorem range_cons {x i n : Nat} {rest : List Nat} (h : x :: rest = List.range' i (n - i)) : x = i ∧ i < n ∧ rest = List.range' (i + 1) (n - (i + 1)) := by
  have hlt : i < n := by
    refine Nat.lt_of_not_le fun z => ?_
    rw [Nat.sub_eq_zero_of_le z] at h; cases h
  rw [← Nat.sub_add_cancel (Nat.sub_pos_of_lt hlt), List.range'_succ] at h
  cases h
  exact ⟨rfl, hlt, by rw [Nat.sub_sub]⟩
noncomputable def MTurn (X : Cx) (s : Shared) (dd o : Addr) (oo : Obj) (kvs more : List (Str × Value)) (n i : Nat) (s' : Shared) : Prop :=
  ∃ h', s' = { s with heap := h' } ∧ h'.DictOf (strKind X.prog X.w) dd (kvs ++ more.take i) ∧ h'.get? o = some oo ∧ Heap.SameBut dd s.heap h'
theorem take_next {more kvs : List (Str × Value)} {x : Nat} {k : Str} {v : Value} (hn : ((kvs ++ more).map (·.1)).Nodup) (hkv : more[x]? = some (k, v)) : more.take (x + 1) = more.take x ++ [(k, v)] ∧ k ∉ (kvs ++ more.take x).map (·.1) := by
  have htk : more.take (x + 1) = more.take x ++ [(k, v)] := by rw [List.take_add_one, hkv]; rfl
  refine ⟨htk, fun hm => ?_⟩
  have h1 : ((kvs ++ more.take (x + 1)).map (·.1)).Nodup := List.Nodup.sublist ((List.Sublist.append_left (List.take_sublist _ _) _).map _) hn
  rw [htk, ← List.append_assoc, List.map_append, List.nodup_append] at h1
  exact h1.2.2 _ hm k (List.mem_singleton.mpr rfl) rfl
theorem merge_turn {dd o : Addr} {kvs more : List (Str × Value)} {oo : Obj} {eso : Array DictEntry} {epo : Nat} {x : Nat} {Q : Unit → Shared → Prop} (hdo : dd ≠ o) (hdo' : oo.data = .dict eso epo) (hko : KeysOf (strKind X.prog X.w) eso)
    (hpo : Pairs (strKind X.prog X.w) eso.toList more) (hlt : x < eso.size) (hlen : more.length = eso.size) (hn : ((kvs ++ more).map (·.1)).Nodup) (hsz : kvs.length + more.length ≤ 1000) (w : MTurn X s dd o oo kvs more eso.size x s')
    (k : ∀ s'', (∃ h'', s'' = { s with heap := h'' } ∧ h''.get? o = some oo) → MTurn X s dd o oo kvs more eso.size (x + 1) s'' → Q () s'') : wpAny (model X.prog X.w) A (dictPut dd eso[x].hash eso[x].key eso[x].val) Q E s' := by
  obtain ⟨h', rfl, hd', hoo', hs'⟩ := w
  obtain ⟨⟨k', v⟩, hkv⟩ : ∃ kv, more[x]? = some kv := ⟨more[x]'(by rw [hlen]; exact hlt), List.getElem?_eq_getElem _⟩
  obtain ⟨hkey, hval⟩ := hpo.get? (e := eso[x]) (by simp [hlt]) hkv
  obtain ⟨k2, hkey', hhash⟩ := hko eso[x] (Array.getElem_mem hlt)
  obtain rfl : k2 = k' := (strKind X.prog X.w).inj _ _ _ hkey' hkey
  obtain ⟨htk, hsub⟩ := take_next hn hkv
  rw [hhash, hval]
  exact dictPut_pairs hkey hd' (by rw [List.length_append, List.length_take]; omega) hsub fun h'' hd'' hs'' => k _ ⟨_, rfl, (hs''.2 o (Ne.symm hdo)).trans hoo'⟩ ⟨h'', rfl, by rw [htk, ← List.append_assoc]; exact hd'', (hs''.2 o (Ne.symm hdo)).trans hoo', hs'.trans hs''⟩
theorem merge_sound {dd o : Addr} {kvs more : List (Str × Value)} {Q : Unit → Shared → Prop} (hdo : dd ≠ o) (hoS : (o == sysModules) = false)
    (hd : s.heap.DictOf (strKind X.prog X.w) dd kvs) (ho : s.heap.DictOf (strKind X.prog X.w) o more) (h0 : kvs ≠ []) (hn : ((kvs ++ more).map (·.1)).Nodup) (hsz : kvs.length + more.length ≤ 1000)
    (hQ : ∀ h', h'.DictOf (strKind X.prog X.w) dd (kvs ++ more) → Heap.SameBut dd s.heap h' → Q () { s with heap := h' }) :
    wpAny (model X.prog X.w) A (mergeMapping dd (.ref o) false) Q E s := by
  obtain ⟨od, esd, epd, hod, hcd, hdd, hkd, hpd, hnd⟩ := id hd
  obtain ⟨oo, eso, epo, hoo, hco, hdo', hko, hpo, hno⟩ := id ho
  have hne : esd.isEmpty = false := by
    cases he : esd.isEmpty with
    | false => rfl
    | true =>
      cases Array.isEmpty_iff.mp he
      exact absurd (List.length_eq_zero_iff.mp hpd.length.symm) h0
  have hlen : more.length = eso.size := by rw [← hpo.length]; rfl
  have st0 : MTurn X s dd o oo kvs more eso.size 0 s := ⟨s.heap, rfl, by rw [List.take_zero, List.append_nil]; exact hd, hoo, Heap.SameBut.refl _ _⟩
  unfold mergeMapping
  refine wpAny_bind (wpAny_isInstance ho.typeIs isSubtype_dict_dict ?_)
  rw [if_pos rfl]
  refine wpAny_bind (wpAny_specialOf ho.typeIs F.slot_dict_iter.lookup (wpAny_bind (wpAny_pure ?_)))
  clear hd ho hcd hkd hpd hnd hco hno h0
  rw [beq_self_eq_true]
  dsimp only
  rw [hoS, if_neg Bool.false_ne_true]
  refine wpAny_bind (wpAny_dictEntries hod hdd ?_)
  rw [hne, if_neg Bool.false_ne_true]
  refine wpAny_bind (wpAny_dictEntries hoo hdo' (wpAny_bind (wpAny_dictEpoch hoo hdo' (wpAny_bind ?_))))
  rw [List.range_eq_range']
  refine wpAny_forIn_list _ (fun rest _ s' => ∃ i, rest = List.range' i (eso.size - i) ∧ i ≤ eso.size ∧ MTurn X s dd o oo kvs more eso.size i s') _ (fun x rest b s' w => ?_) (fun b s' w => ?_) _ _ ⟨0, rfl, Nat.zero_le _, st0⟩
  · obtain ⟨i, hr, hi, w⟩ := w
    obtain ⟨rfl, hlt, hrest⟩ := range_cons hr
    obtain ⟨h', rfl, _, hoo', _⟩ := id w
    refine wpAny_bind (wpAny_dictEntries hoo' hdo' ?_)
    rw [Array.getElem?_eq_getElem hlt]
    refine wpAny_bind (wpAny_holding (merge_turn hdo hdo' hko hpo hlt hlen hn hsz w fun s'' q w => ?_))
    obtain ⟨h'', rfl, hoo''⟩ := q
    refine wpAny_bind (wpAny_dictEpoch hoo'' hdo' ?_)
    rw [if_neg (by simp)]
    exact wpAny_pure ⟨_, hrest, hlt, w⟩
  · obtain ⟨i, hr, hi, h', rfl, hd', hoo', hs'⟩ := w
    have hin : i = eso.size := by
      refine Nat.le_antisymm hi (Nat.le_of_not_lt fun z => ?_)
      rw [← Nat.sub_add_cancel (Nat.sub_pos_of_lt z), List.range'_succ] at hr; cases hr
    refine wpAny_pure (hQ h' ?_ hs')
    rw [hin, ← hlen, List.take_length] at hd'; exact hd'

noncomputable abbrev PP := Sem Value × Sem Value
theorem gather (f : (Option (Sem Value) × Sem Value) → (Option Addr × List PP) → Sem (ForInStep (Option Addr × List PP))) (m : Option Addr)
    (hf : ∀ (p : PP) (run : List PP), run.length + 1 < 17 → f (some p.1, p.2) (m, run) = pure (.yield (m, run ++ [p]))) :
    ∀ (items : List PP) (more : List (Option (Sem Value) × Sem Value)) (run : List PP), run.length + items.length < 17 → forIn ((items.map fun p => (some p.1, p.2)) ++ more) (m, run) f = forIn more (m, run ++ items) f
  | [], _, run, _ => by simp
  | p :: rest, more, run, h => by
    rw [List.map_cons, List.cons_append, List.forIn_cons, hf p run (by simp at h; omega), pure_bind]
    have := gather f m hf rest more (run ++ [p]) (by simp at h ⊢; omega)
    simpa using this

theorem display_long (a b : List PP) (p : PP) (ha : a.length = 16) (hb : b.length < 17) (hb0 : b ≠ []) {Q : Value → Shared → Prop}
    (h : wpAny (model X.prog X.w) A (subDict (a ++ [p])) (fun dd s₁ => wpAny (model X.prog X.w) A (subDict b) (fun sub s₂ => wpAny (model X.prog X.w) A (mergeMapping dd (.ref sub) false) (fun _ s₃ => Q (.ref dd) s₃) (fun _ _ => False) s₂) E s₁) E s) :
    wpAny (model X.prog X.w) A (dictDisplay ((a ++ p :: b).map fun p => (some p.1, p.2))) Q E s := by
  unfold dictDisplay
  dsimp only
  rw [List.map_append]
  rw [gather _ none (fun p run h => by
    have hne : ((run ++ [(p.1, p.2)]).length == 17) = false := by simp; omega
    simp only [hne, Bool.false_eq_true, if_false]) a _ [] (by simp; omega)]
  rw [List.map_cons, List.forIn_cons]
  have h17 : (([] ++ a ++ [(p.1, p.2)]).length == 17) = true := by simp [ha]
  have hne17 : ([] ++ a ++ [(p.1, p.2)]).isEmpty = false := by simp
  dsimp only
  rw [h17]
  simp only [if_true]
  rw [hne17]
  simp only [Bool.false_eq_true, if_false]
  refine wpAny_bind (wpAny_bind (wpAny_bind (wpAny_bind ?_)))
  have h' : wpAny (model X.prog X.w) A (subDict ([] ++ a ++ [(p.1, p.2)])) (fun dd s₁ => wpAny (model X.prog X.w) A (subDict b) (fun sub s₂ => wpAny (model X.prog X.w) A (mergeMapping dd (.ref sub) false) (fun _ s₃ => Q (.ref dd) s₃) (fun _ _ => False) s₂) E s₁) E s := by simpa using h
  refine wpAny_mono h' (fun dd s₁ h₁ => ?_) fun _ _ z => z
  refine wpAny_pure (wpAny_pure ?_)
  dsimp only
  rw [← List.append_nil (List.map (fun p => (some p.fst, p.snd)) b)]
  rw [gather _ (some dd) (fun p run h => by
    have hne : ((run ++ [(p.1, p.2)]).length == 17) = false := by simp; omega
    simp only [hne, Bool.false_eq_true, if_false]) b _ [] (by simp; omega)]
  rw [List.forIn_nil]
  refine wpAny_pure ?_
  dsimp only
  have hbe : ([] ++ b).isEmpty = false := by
    cases b with
    | nil => exact absurd rfl hb0
    | cons _ _ => rfl
  rw [hbe]
  simp only [Bool.false_eq_true, if_false]
  have h₁' : wpAny (model X.prog X.w) A (subDict ([] ++ b)) (fun sub s₂ => wpAny (model X.prog X.w) A (mergeMapping dd (.ref sub) false) (fun _ s₃ => Q (.ref dd) s₃) (fun _ _ => False) s₂) E s₁ := by simpa using h₁
  refine wpAny_bind (wpAny_bind (wpAny_holding (wpAny_mono h₁' (fun sub s₂ h₂ => ?_) fun _ _ z => z)))
  refine wpAny_bind (wpAny_onRaise (wpAny_holding (wpAny_mono h₂ (fun _ s₃ h₃ => ?_) fun _ _ z => z.elim)))
  exact wpAny_pure (wpAny_pure h₃)

theorem SndE.table (ok : X.Ok) {k1 k2 : List (Option Expr)} {v1 v2 : List Expr} {es fs : List (Txt × Int)} {k : Option Expr} {v : Expr} {e : Txt × Int} {pos : Pos} (h1 : IntPairs k1 v1 es) (hm : IntPairs [k] [v] [e]) (h2 : IntPairs k2 v2 fs)
    (hl1 : k1.length = 16) (hl2 : k2.length ≤ 15) (hz : k2 ≠ []) (nd : ((es ++ e :: fs).map fun e => toS e.1).Nodup) :
    SndE X d sc vars (.Dict (k1 ++ k :: k2) (v1 ++ v :: v2) pos) (dTable (es ++ e :: fs)) := by
  intro A env ρ σ al s q E R F I hD
  cases hD
  have len : ∀ {ks : List (Option Expr)} {vs : List Expr} {es : List (Txt × Int)}, IntPairs ks vs es → ks.all (·.isSome) = true ∧ ks.length = vs.length ∧ es.length = ks.length := by
    intro ks vs es h
    induction h with
    | nil => exact ⟨rfl, rfl, rfl⟩
    | cons _ _ ih => obtain ⟨a, b, c⟩ := ih; exact ⟨by simpa using a, by simp [b], by simp [c]⟩
  have app : ∀ {ks ls : List (Option Expr)} {vs ws : List Expr} {es fs : List (Txt × Int)}, IntPairs ks vs es → IntPairs ls ws fs → IntPairs (ks ++ ls) (vs ++ ws) (es ++ fs) := by
    intro ks ls vs ws es fs h h'
    induction h with
    | nil => exact h'
    | cons a _ ih => exact .cons a ih
  have happ : ∀ (ks ls : List (Option Expr)) (vs ws : List Expr), ks.all (·.isSome) = true → ks.length = vs.length → pairTrees (ks ++ ls) (vs ++ ws) env pos = pairTrees ks vs env pos ++ pairTrees ls ws env pos := by
    intro ks
    induction ks with
    | nil => intro ls vs ws _ hl; cases vs with
      | nil => rfl
      | cons _ _ => simp at hl
    | cons k ks ih =>
      intro ls vs ws ha hl
      cases vs with
      | nil => simp at hl
      | cons v vs =>
        cases k with
        | none => simp at ha
        | some k =>
          show _ :: pairTrees (ks ++ ls) (vs ++ ws) env pos = _ :: (pairTrees ks vs env pos ++ _)
          rw [ih ls vs ws (by simpa using ha) (by simpa using hl)]
  obtain ⟨a1, b1, c1⟩ := len h1
  obtain ⟨a2, b2, c2⟩ := len h2
  obtain ⟨am, bm, cm⟩ := len hm
  have hall : (k1 ++ k :: k2).all (·.isSome) = true := by
    rw [List.all_append, a1, List.all_cons, a2]
    simpa using am
  have e1 : pairTrees (k1 ++ k :: k2) (v1 ++ v :: v2) env pos = pairTrees k1 v1 env pos ++ (pairTrees [k] [v] env pos ++ pairTrees k2 v2 env pos) := by
    rw [happ k1 (k :: k2) v1 (v :: v2) a1 b1, ← happ [k] k2 [v] v2 am bm]
    rfl
  obtain ⟨pm, epm⟩ : ∃ pm, pairTrees [k] [v] env pos = [pm] := by
    have := pairTrees_length [k] [v] env pos am bm
    match h : pairTrees [k] [v] env pos, this with
    | [pm], _ => exact ⟨pm, rfl⟩
  have l1 : (pairTrees k1 v1 env pos).length = 16 := (pairTrees_length k1 v1 env pos a1 b1).trans hl1
  have l2 : (pairTrees k2 v2 env pos).length = k2.length := pairTrees_length k2 v2 env pos a2 b2
  rw [arm_eval_Dict, zip_pairTrees _ _ env pos hall (by simp [b1, b2]), e1, epm, List.cons_append, List.nil_append]
  refine wpAny_bind (wpAny_standAt ?_)
  refine display_long _ _ pm l1 (by omega) (by intro z; rw [z] at l2; exact hz (List.length_eq_zero_iff.mp l2.symm)) ?_
  have e2 : pairTrees k1 v1 env pos ++ [pm] = pairTrees (k1 ++ [k]) (v1 ++ [v]) env pos := by rw [happ k1 [k] v1 [v] a1 b1, epm]
  rw [e2]
  have h1m := app h1 hm
  have ndl : ((es ++ [e]).map fun e => toS e.1).Nodup := by
    refine List.Nodup.sublist (List.Sublist.map _ ?_) nd
    exact List.Sublist.append_left (List.Sublist.cons_cons _ (List.nil_sublist _)) _
  have ndr : (fs.map fun e => toS e.1).Nodup := by
    refine List.Nodup.sublist (List.Sublist.map _ ?_) nd
    exact (List.sublist_cons_self _ _).trans (List.sublist_append_right _ _)
  refine subDict_long h1m (by rw [← e2]; simp [l1]) (by simp; omega) ndl fun h₁ tk₁ kvs₁ r₁ hd₁ hk₁ => ?_
  have I₁ : Inv X σ al { s with heap := h₁, toks := tk₁ } := keepAll_inv I hk₁ tk₁
  have st₁ : Step al s al { s with heap := h₁, toks := tk₁ } NoOwn := keepAll_step hk₁ tk₁
  refine subDict_short h2 (by omega) ndr fun h₂ tk₂ kvs₂ r₂ hd₂ hk₂ => ?_
  have I₂ := keepAll_inv I₁ hk₂ tk₂
  have st₂ : Step al _ al _ NoOwn := keepAll_step (al := al) (own := NoOwn) (s := { s with heap := h₁, toks := tk₁ }) hk₂ tk₂
  have hd₁' : h₂.DictOf (strKind X.prog X.w) s.heap.objs.size kvs₁ := by
    obtain ⟨o, es', ep', ho, r⟩ := hd₁
    exact ⟨o, es', ep', hk₂ _ _ ho, r⟩
  have hlt : s.heap.objs.size < h₁.objs.size := by obtain ⟨o, _, _, ho, _⟩ := hd₁; exact Heap.lt_size ho
  have hf1 := r₁.fst
  have hf2 := r₂.fst
  have hlen1 : kvs₁.length = es.length + 1 := by have := congrArg List.length hf1; simpa using this
  have hlen2 : kvs₂.length = fs.length := by have := congrArg List.length hf2; simpa using this
  refine merge_sound (s := { s with heap := h₂, toks := tk₂ }) (Nat.ne_of_lt hlt) (size_ne_sys ok I₁) hd₁' hd₂ (by intro z; rw [z] at hlen1; simp at hlen1) ?_ (by omega) fun h' hd' hs' => ?_
  · rw [List.map_append, hf1, hf2, ← List.map_append]; simpa using nd
  · have r := r₁.app r₂
    have hA₂ : ¬ InA al s.heap.objs.size := fun z => by
      obtain ⟨o, e⟩ := I.has z
      rw [get?_size] at e; cases e
    have := dict_joins (t := tk₂) (es := (es ++ e :: fs).map fun p => (p.1, V.int p.2)) (kvs := kvs₁ ++ kvs₂) ok I I₂ (st₁.trans st₂) (get?_size _) hA₂ (size_ne_sys ok I) (dict_notTup (X := X) hd₁') hs' hd' (by rw [r.fst]; simp [List.map_map, Function.comp_def]) (by
      have := r.snd (al := al) (h := h₂)
      simpa [Function.comp_def] using this)
    exact this

theorem IntPairs.split : ∀ {es : List (Txt × Int)} {ks : List (Option Expr)} {vs : List Expr} {e : Txt × Int} {fs : List (Txt × Int)}, IntPairs ks vs (es ++ e :: fs) →
    ∃ k1 k k2 v1 v v2, ks = k1 ++ k :: k2 ∧ vs = v1 ++ v :: v2 ∧ IntPairs k1 v1 es ∧ IntPairs [k] [v] [e] ∧ IntPairs k2 v2 fs
  | [], _, _, _, _, .cons hx h => ⟨[], _, _, [], _, _, rfl, rfl, .nil, .cons hx .nil, h⟩
  | _ :: _, _, _, _, _, .cons hx h => by
    obtain ⟨k1, k, k2, v1, v, v2, rfl, rfl, h1, h2, h3⟩ := IntPairs.split h
    exact ⟨_ :: k1, k, k2, _ :: v1, v, v2, rfl, rfl, .cons hx h1, h2, h3⟩
theorem IntPairs.len {ks : List (Option Expr)} {vs : List Expr} {es : List (Txt × Int)} (h : IntPairs ks vs es) : ks.length = es.length := by
  induction h with
  | nil => rfl
  | cons _ _ ih => simp [ih]
noncomputable def distinctT : List (Txt × Int) → Bool
  | [] => true
  | e :: r => r.all (fun f => !(f.1 == e.1)) && distinctT r
theorem distinctT_nodup : ∀ {es : List (Txt × Int)}, distinctT es = true → (es.map fun e => toS e.1).Nodup
  | [], _ => List.nodup_nil
  | e :: r, h => by
    unfold distinctT at h
    rw [Bool.and_eq_true] at h
    rw [List.map_cons, List.nodup_cons]
    refine ⟨?_, distinctT_nodup h.2⟩
    intro hm
    obtain ⟨f, hf, e'⟩ := List.mem_map.mp hm
    have h2 := List.all_eq_true.mp h.1 f hf
    have h3 : f.1 = e.1 := by
      have : f.1.toArray = e.1.toArray := by injection e'
      simpa using this
    rw [h3] at h2
    simp at h2
theorem SndE.tableT (ok : X.Ok) {ks : List (Option Expr)} {vs : List Expr} {es : List (Txt × Int)} {pos : Pos} (h : IntPairs ks vs es) (hl' : (Nat.blt 17 es.length && Nat.ble es.length 32) = true) (nd' : distinctT es = true) :
    SndE X d sc vars (.Dict ks vs pos) (dTable es) := by
  have hl : 17 < es.length ∧ es.length ≤ 32 := by
    rw [Bool.and_eq_true] at hl'
    exact ⟨Nat.le_of_ble_eq_true hl'.1, Nat.le_of_ble_eq_true hl'.2⟩
  have nd := distinctT_nodup nd'
  have split : ∃ e, es = es.take 16 ++ e :: es.drop 17 := by
    have h16 : 16 < es.length := by omega
    refine ⟨es[16], ?_⟩
    have e := List.drop_eq_getElem_cons h16
    conv => lhs; rw [← List.take_append_drop 16 es, e]
  obtain ⟨e, he⟩ := split
  rw [he] at h nd ⊢
  obtain ⟨k1, k, k2, v1, v, v2, rfl, rfl, h1, h2, h3⟩ := h.split
  have l1 := h1.len
  have l3 := h3.len
  rw [List.length_take] at l1
  rw [List.length_drop] at l3
  exact SndE.table ok h1 h2 h3 (by omega) (by omega) (by intro z; rw [z] at l3; simp at l3; omega) nd
end
end Mine
set_option maxHeartbeats 200000
namespace Mine

noncomputable def compGo (c : Src) (elt : V → St → Option (V × St)) (i : Nat) (acc : List V) (σ : St) : Option (List V × St) := match dNext c i σ with
  | none => none
  | some o => (match o with
    | none => some (acc, σ)
    | some v => (match elt v σ with
      | none => none
      | some (y, σ) => if acc.length ≤ 1000000 then compGo c elt (i + 1) (acc ++ [y]) σ else none))
partial_fixpoint
noncomputable def compN (c : Src) (elt : V → St → Option (V × St)) : Nat → Nat → List V → St → Option (List V × St)
  | 0, _, _, _ => none
  | n + 1, i, acc, σ => (dNext c i σ).bind fun o => match o with
    | none => some (acc, σ)
    | some v => (elt v σ).bind fun r => if acc.length ≤ 1000000 then compN c elt n (i + 1) (acc ++ [r.1]) r.2 else none
theorem compN_of {c : Src} {elt : V → St → Option (V × St)} {i : Nat} {acc : List V} {σ : St} {r : List V × St} (h : compGo c elt i acc σ = some r) : ∃ n, compN c elt n i acc σ = some r := by
  refine compGo.partial_correctness c elt (fun i acc σ r => ∃ n, compN c elt n i acc σ = some r) (fun f ih i acc σ r h => ?_) i acc σ r h
  cases e1 : dNext c i σ with
  | none => rw [e1] at h; cases h
  | some o =>
    rw [e1] at h
    cases o with
    | none => exact ⟨1, by rw [compN, e1]; exact h⟩
    | some v =>
      cases e2 : elt v σ with
      | none => simp only [e2] at h; cases h
      | some q =>
        simp only [e2] at h
        have kk (n : Nat) : compN c elt (n + 1) i acc σ = if acc.length ≤ 1000000 then compN c elt n (i + 1) (acc ++ [q.1]) q.2 else none := by rw [compN, e1]; show (elt v σ).bind _ = _; rw [e2]; rfl
        by_cases hl : acc.length ≤ 1000000
        · rw [if_pos hl] at h
          obtain ⟨n, hn⟩ := ih _ _ _ _ h
          exact ⟨n + 1, by rw [kk, if_pos hl]; exact hn⟩
        · rw [if_neg hl] at h; cases h

noncomputable def capsOf (caps : List Nat) (ρ : Rho) : Rho := caps.map fun j => (ρ[j]?).join
noncomputable def notStr : Src → Bool
  | .str _ => false
  | _ => true
noncomputable def dComp (c : DI) (caps : List Nat) (D : DE) : DE := fun ρ σ => (c ρ σ).bind fun r => if notStr r.1 = true then (compGo r.1 (fun v σ => D (capsOf caps ρ ++ [some v]) σ) 0 [] r.2).bind fun q => some (.ref q.2.length, q.2 ++ [.list q.1]) else none

noncomputable def relabelS (scope sc : Scope) : Scope :=
  { scope with names := scope.names.map fun (n, k) => if (k == .free && sc.kind == .function && sc.names.lookup n == some .cell) then (n, .cell) else (n, k) }

theorem relabel_free {sc : Scope} (hk : sc.kind = .function) {x : Str} (hx : sc.names.lookup x = some .cell) : ∀ {names : List (Str × NameKind)}, names.lookup x = some .free →
    (names.map fun (n, k) => if (k == NameKind.free && sc.kind == .function && sc.names.lookup n == some .cell) then (n, NameKind.cell) else (n, k)).lookup x = some .cell
  | [], h => by simp at h
  | (n, k) :: r, h => by
    have ih := @relabel_free sc hk x hx r
    show List.lookup x ((if (k == NameKind.free && sc.kind == .function && sc.names.lookup n == some .cell) = true then (n, NameKind.cell) else (n, k)) :: _) = _
    cases hxn : x == n with
    | true =>
      simp only [List.lookup_cons, hxn] at h
      cases h
      have e : x = n := beq_iff_eq.mp hxn
      subst e
      rw [hx, hk]
      simp [List.lookup_cons]
    | false =>
      simp only [List.lookup_cons, hxn] at h
      by_cases hc : (k == NameKind.free && sc.kind == .function && sc.names.lookup n == some .cell) = true
      · rw [if_pos hc]; simp only [List.lookup_cons, hxn]; exact ih h
      · rw [if_neg hc]; simp only [List.lookup_cons, hxn]; exact ih h

set_option tactic.hygienic true in
theorem closure_ok {env : Env} : ∀ (names : List (Str × NameKind)) (acc : List (Str × Addr)) (f : Str × NameKind → List (Str × Addr) → Sem (ForInStep (List (Str × Addr))))
    (hf : ∀ n k cs, f (n, k) cs = if k == .free then (do let a ← cellOf env n; pure (.yield ((n, a) :: cs))) else pure (.yield cs)),
    (∀ y ∈ names, y.2 = .free → ∃ c, env.cells.lookup y.1 = some c) → ∃ cl, forIn names acc f = pure cl ∧ (∀ n c, cl.lookup n = some c → acc.lookup n = some c ∨ env.cells.lookup n = some c) ∧ (∀ n, (n, NameKind.free) ∈ names ∨ (acc.lookup n).isSome = true → (cl.lookup n).isSome = true)
  | [], acc, f, hf, _ => ⟨acc, by rw [List.forIn_nil], fun n c h => .inl h, fun n h => h.elim (fun z => by cases z) id⟩
  | (n, k) :: r, acc, f, hf, h => by
    rw [List.forIn_cons, hf]
    by_cases hk : k = .free
    · subst hk
      obtain ⟨c, hc⟩ := h (n, .free) List.mem_cons_self rfl
      obtain ⟨cl, e, h1, h2⟩ := closure_ok (env := env) r ((n, c) :: acc) f hf fun y hy => h y (List.mem_cons_of_mem _ hy)
      refine ⟨cl, ?_, fun m c' hm => ?_, fun m hm => ?_⟩
      · rw [if_pos (beq_self_eq_true _)]
        unfold cellOf
        rw [hc]
        simpa using e
      · rcases h1 m c' hm with z | z
        · rw [List.lookup_cons] at z
          split at z
          · rename_i hmn
            cases z; rw [beq_iff_eq.mp hmn]; exact .inr hc
          · exact .inl z
        · exact .inr z
      · refine h2 m ?_
        rcases hm with z | z
        · rcases List.mem_cons.mp z with e | z
          · cases e; exact .inr (by simp)
          · exact .inl z
        · refine .inr ?_
          rw [List.lookup_cons]
          split
          · rfl
          · exact z
    · obtain ⟨cl, e, h1, h2⟩ := closure_ok (env := env) r acc f hf fun y hy => h y (List.mem_cons_of_mem _ hy)
      have hkb : (k == NameKind.free) = false := by simpa using hk
      refine ⟨cl, ?_, h1, fun m hm => h2 m ?_⟩
      · rw [hkb]
        simpa using e
      · rcases hm with z | z
        · rcases List.mem_cons.mp z with e | z
          · cases e; exact absurd rfl hk
          · exact .inl z
        · exact .inr z

section
variable {X : Cx} {d : Nat} {sc : Scope} {vars : List Str} {env : Env} {ρ : Rho} {σ : St} {al al' al'' : Al} {s s' s'' : Shared} {A : Around} {E : Value → Shared → Prop}

theorem closure_for {scope : Scope} (h : ∀ y ∈ scope.names, y.2 = .free → ∃ c, env.cells.lookup y.1 = some c) :
    ∃ cl, closureFor scope env = pure cl ∧ (∀ n c, cl.lookup n = some c → env.cells.lookup n = some c) ∧ (∀ n, scope.names.lookup n = some .free → (cl.lookup n).isSome = true) := by
  obtain ⟨cl, e, h1, h2⟩ := closure_ok (env := env) scope.names [] (fun x cs => match x with
    | (name, kind) => if (kind == NameKind.free) = true then (do let l ← cellOf env name; pure (.yield ((name, l) :: cs))) else pure (.yield cs)) (fun _ _ _ => rfl) h
  refine ⟨cl, ?_, fun n c z => (h1 n c z).elim (fun z => by simp at z) id, fun n z => h2 n (.inl (mem_of_lookup z))⟩
  exact (congrArg (fun t => t >>= fun s => pure s) e).trans (pure_bind _ _)

theorem store_local {x : Str} {i : Nat} {v : Value} {dv : V} {Q : Unit → Shared → Prop} (F : FrameOk X sc env vars ρ al s.heap) (I : Inv X σ al s) (hx : vars[i]? = some x) (hl : sc.names.lookup x = some .local) (rv : VRep al s.heap v dv)
    (k : ∀ s', FrameOk X sc env vars (ρ.set i (some dv)) al s'.heap → Inv X σ al s' → Step al s al s' (fun b => b = env.locals) → Q () s') : wpAny (model X.prog X.w) A (storeName env x v) Q E s := by
  obtain ⟨m, cm, hn, hc, hv⟩ := F.mc
  have hkind : env.kindOf x = sc.names.lookup x := by show env.scope.names.lookup x = _; rw [F.scope]
  refine wpAny_storeName_local (by rw [hkind]; exact hl) hn ?_ (by rw [F.scope, F.kind]; rfl)
  intro h' hn' hsb
  have own : Own env env.locals := .inl rfl
  obtain ⟨ob, es, ep, hob, _⟩ := id hn'
  have st : Step al s al { s with heap := h', toks := s.toks + 1 } (fun b => b = env.locals) := Step.other (own := fun b => b = env.locals) hsb rfl (not_tup_of_ns hn) hob _
  have inv : Inv X σ al { s with heap := h', toks := s.toks + 1 } := I.other hsb (F.own _ own).1 (F.own _ own).2 (not_tup_of_ns hn) _
  refine k _ ⟨F.scope, F.kind, F.glob, F.blt, ⟨_, cm, hn', fun n c e => (hc n c e).sameBut hsb (F.sep n c e).1, ?_⟩, F.own, F.kinds, F.sep, F.nd⟩ inv st
  intro j y dd hy hr
  rcases get_set hr with ⟨rfl, rfl⟩ | ⟨hij, hr⟩
  · rw [hx] at hy; cases hy
    exact ⟨v, rv.step st, .inl ⟨by rw [hkind]; exact hl, if_pos rfl⟩⟩
  · have hne : y ≠ x := by
      rintro rfl
      exact hij (nodup_get F.nd hx hy)
    obtain ⟨w', h1, h2⟩ := hv j y dd hy hr
    refine ⟨w', h1.step st, ?_⟩
    rcases h2 with ⟨h2, h3⟩ | h2
    · exact .inl ⟨h2, by rw [if_neg hne]; exact h3⟩
    · exact .inr h2

theorem itit_sound {c : Src} {I : Addr} {i : Nat} {Q : Value → Shared → Prop} (hs : notStr c = true) (it : ItOk al s.heap I i c) (h : Q (.ref I) s) : wpAny (model X.prog X.w) A (pyIter (.ref I)) Q E s := by
  cases c with
  | list l => obtain ⟨p, e, hit⟩ := it; exact wpAny_pyIter_listiter hit h
  | tup vs =>
    obtain ⟨a, items, ht, rs, hit⟩ := it
    refine wpAny_pyIter_slot hit.typeIs F.slot_tuple_iterator_iter (wpAny_call_entry F.slot_tuple_iterator_iter hit.typeIs F.entry_tuple_iterator_iter ?_ (F.args_tuple_iterator_iter_1 _))
    show wpAny _ _ (ret (.ref I)) _ _ s
    exact wpAny_pure ⟨_, rfl, "tuple_iterator", _, hit.typeIs, F.slot_tuple_iterator_next.lookup, h⟩
  | str x => cases hs
  | range n => obtain ⟨_, hit⟩ := it; exact wpAny_pyIter_rangeiter hit h

structure CompOk (scope sc : Scope) (vars : List Str) (x : Str) (caps : List Nat) (cn : List Str) : Prop where
  hcell : ∀ y ∈ scope.names, y.2 ≠ .cell
  hkind : scope.kind = .function
  hnames : ∀ y ∈ scope.names, y.2 = .local → scope.names.lookup y.1 = some .local
  hx : scope.names.lookup x = some .local
  hcaps : caps.map (fun j => vars[j]?) = cn.map some
  hcn : ∀ y ∈ cn, scope.names.lookup y = some .free ∧ sc.names.lookup y = some .cell
  hfree : ∀ y ∈ scope.names, y.2 = .free → y.1 ∈ cn
  nd : (cn ++ [x]).Nodup

theorem FrameOk.cellOf (F : FrameOk X sc env vars ρ al s.heap) {y : Str} {j : Nat} (hj : vars[j]? = some y) (hy : sc.names.lookup y = some .cell) : ∃ c, env.cells.lookup y = some c := by
  rcases F.kinds j y hj with h | ⟨_, h⟩
  · rw [hy] at h; cases h
  · exact Option.isSome_iff_exists.mp h

theorem caps_get {scope : Scope} {x y : Str} {caps : List Nat} {cn : List Str} (ok : CompOk scope sc vars x caps cn) {i : Nat} {dd : V} (hy : (cn ++ [x])[i]? = some y) (hr : (capsOf caps ρ ++ [Option.none])[i]? = some (some dd)) : y ∈ cn ∧ ∃ j : Nat, vars[j]? = some y ∧ ρ[j]? = some (some dd) := by
  have hcl2 : (capsOf caps ρ).length = cn.length := by
    have := congrArg List.length ok.hcaps
    rw [List.length_map, List.length_map] at this
    rw [capsOf, List.length_map]; exact this
  by_cases hi : i < cn.length
  · rw [List.getElem?_append_left hi] at hy
    rw [List.getElem?_append_left (by rw [hcl2]; exact hi), capsOf, List.getElem?_map] at hr
    refine ⟨List.mem_of_getElem? hy, ?_⟩
    cases hj : caps[i]? with
    | none => rw [hj] at hr; cases hr
    | some j =>
      rw [hj] at hr
      have e1 := congrArg (fun l => l[i]?) ok.hcaps
      rw [List.getElem?_map, List.getElem?_map, hj, hy] at e1
      exact ⟨j, Option.some.inj e1, Option.join_eq_some_iff.mp (Option.some.inj hr)⟩
  · rw [List.getElem?_append_right (by rw [hcl2]; exact Nat.not_lt.mp hi)] at hr
    cases List.mem_singleton.mp (List.mem_of_getElem? hr)
theorem kind_free {env : Env} {scope : Scope} {x : Str} {caps : List Nat} {cn : List Str} (F : FrameOk X sc env vars ρ al s.heap) (ok : CompOk scope sc vars x caps cn) {y : Str} (hy : y ∈ cn) : (relabelS scope sc).names.lookup y = some .cell := relabel_free F.kind (ok.hcn y hy).2 (ok.hcn y hy).1
theorem relabel_is (F : FrameOk X sc env vars ρ al s.heap) (scope : Scope) : relabel scope env = relabelS scope sc := by
  unfold relabel relabelS Env.kindOf
  rw [F.scope]
theorem comp_frame {scope : Scope} {x : Str} {caps : List Nat} {cn : List Str} {cl : List (Str × Addr)} {C : Addr} (ok : CompOk scope sc vars x caps cn) (F : FrameOk X sc env vars ρ al s.heap)
    (hcl : ∀ n c, cl.lookup n = some c → env.cells.lookup n = some c) (hcl' : ∀ n, scope.names.lookup n = some .free → (cl.lookup n).isSome = true) (nCA : ¬ InA al C) (bC : X.base.heap.get? C = none) {m0 : Str → Option Value} (hns : s.heap.Ns C m0) (hCo : ¬ Own env C) :
    FrameOk X (relabelS scope sc) (compEnvC scope cl C env) (cn ++ [x]) (capsOf caps ρ ++ [Option.none]) al s.heap := by
  have hrel := relabel_is F scope
  obtain ⟨m, cm, hnm, hcm, hvs⟩ := F.mc
  refine ⟨hrel, ok.hkind, F.glob, F.blt, ⟨_, cm, hns, fun n' c' e => hcm n' c' (hcl n' c' e), fun i y dd hy hr => ?_⟩, ?_, fun i y hy => ?_, fun n' c' e => ⟨?_, fun n'' e' => (F.sep n' c' (hcl n' c' e)).2 n'' (hcl n'' c' e')⟩, ok.nd⟩
  · obtain ⟨hm, j, e1, e2⟩ := caps_get ok hy hr
    obtain ⟨v, rv, hh⟩ := hvs j y dd e1 e2
    refine ⟨v, rv, .inr ⟨(congrArg (fun z : Scope => z.names.lookup y) hrel).trans (kind_free F ok hm), hcl' y (ok.hcn y hm).1, ?_⟩⟩
    rcases hh with ⟨z, _⟩ | ⟨_, _, z⟩
    · have : env.kindOf y = sc.names.lookup y := by show env.scope.names.lookup y = _; rw [F.scope]
      rw [this, (ok.hcn y hm).2] at z; cases z
    · exact z
  · rintro b (rfl | ⟨n', e⟩)
    · exact ⟨nCA, bC⟩
    · exact F.own b (.inr ⟨n', hcl n' b e⟩)
  · rcases List.mem_append.mp (List.mem_of_getElem? hy) with h | h
    · exact .inr ⟨kind_free F ok h, hcl' y (ok.hcn y h).1⟩
    · cases List.mem_singleton.mp h
      exact .inl (by rw [← hrel]; exact lookup_relabel_local ok.hx)
  · rintro rfl
    exact hCo (.inr ⟨n', hcl n' _ e⟩)

inductive CTurn (X : Cx) (sc' : Scope) (cenv : Env) (cv : List Str) (cρ : Rho) (al : Al) (s : Shared) (J L : Addr) (c : Src) (elt : V → St → Option (V × St)) (Q : Shared → List V × St → Prop) (n : Nat) (s' : Shared) : Prop
  | mk (al' : Al) (σ : St) (i : Nat) (acc : List V) (items : Array Value) (o : Option V) : Inv X σ al' s' → Step al s al' s' (fun b => b = J ∨ b = cenv.locals ∨ b = L) → FrameOk X sc' cenv cv (cρ ++ [o]) al' s'.heap → ItOk al' s'.heap J i c → ¬ InA al' J → ¬ InA al' L → s'.heap.PlainList L items → VReps al' s'.heap items.toList acc →
    (Gets (compN c elt n i acc σ) fun r => ∀ al' s' m items, ¬ InA al' L → ¬ InA al' cenv.locals → Inv X r.2 al' s' → Step al s al' s' (fun b => b = J ∨ b = cenv.locals ∨ b = L) → s'.heap.Ns cenv.locals m → s'.heap.PlainList L items → VReps al' s'.heap items.toList r.1 → Q s' r) → CTurn X sc' cenv cv cρ al s J L c elt Q n s'
theorem comp_turn {sc' : Scope} {cenv : Env} {cn : List Str} {x : Str} {cρ : Rho} {J L : Addr} {c : Src} {elt : Expr} {D : DE} {n : Nat} {Q : Shared → List V × St → Prop} {P : Option Value → Shared → Prop}
    (he : SndE X d sc' (cn ++ [x]) elt D) (R : Room d A) (hk : sc'.names.lookup x = some .local) (hlen : cρ.length = cn.length) (hJb : X.base.heap.get? J = none) (hL : X.base.heap.get? L = none) (hJL : J ≠ L) (hJo : ¬ Own cenv J) (hLo : ¬ Own cenv L)
    (w : CTurn X sc' cenv (cn ++ [x]) cρ al s J L c (fun v σ => D (cρ ++ [some v]) σ) Q (n + 1) s')
    (pe : ∀ s' r, Q s' r → P none s')
    (pi : ∀ v s₃, wpAny (model X.prog X.w) A (storeName cenv x v) (fun _ s₄ => wpAny (model X.prog X.w) A (eval elt cenv) (fun yv s₅ => ∃ items : Array Value, items.size ≤ sizeLine ∧ s₅.heap.PlainList L items ∧ ∀ h', h'.PlainList L (items.push yv) → Heap.SameBut L s₅.heap h' → CTurn X sc' cenv (cn ++ [x]) cρ al s J L c (fun v σ => D (cρ ++ [some v]) σ) Q n { s₅ with heap := h', toks := s₅.toks }) E s₄) E s₃ → P (some v) s₃) :
    wpAny (model X.prog X.w) A (pyNext (.ref J)) P E s' := by
  obtain ⟨al', σ', i, acc, items, o, I', st', F', it', hJ', hL', hpl, hrs, g⟩ := w
  refine next_sound R.1 I' hJ' hJb it' (g.bind.mono fun o' g v' s₃ p => ?_)
  obtain ⟨I₃, st₃, hr⟩ := p
  have F₃ := F'.stepO st₃ (fun b hb z => hJo (z ▸ hb))
  have st₃' := st'.trans (st₃.mono (own' := fun b => b = J ∨ b = cenv.locals ∨ b = L) fun b z => .inl z)
  obtain ⟨k₀, hk₀⟩ := hpl
  have hk₃ := st₃.keep _ _ hk₀ hL' (fun z => hJL z.symm)
  cases o' with
  | none =>
    subst hr
    obtain ⟨m₃, _, hns₃, _⟩ := F₃.mc
    exact pe _ _ (g _ _ m₃ items hL' (F₃.own _ (.inl rfl)).1 I₃ st₃' hns₃ ⟨k₀, hk₃⟩ (hrs.step st₃))
  | some v =>
    obtain ⟨v', rfl, rv, it₃⟩ := hr
    refine pi _ _ (store_local F₃ I₃ (by rw [List.getElem?_append_right (Nat.le_refl _), Nat.sub_self]; rfl) hk rv fun s₄ F₄ I₄ st₄ => ?_)
    have eset : (cρ ++ [o]).set cn.length (some v) = cρ ++ [some v] := by
      rw [← hlen, List.set_append_right _ _ (Nat.le_refl _), Nat.sub_self]; rfl
    rw [eset] at F₄
    refine he.get R F₄ I₄ (g.bind.mono fun r g yv s₅ al₅ F₅ I₅ st₅ ry => g.ite fun hacl g => ?_)
    have g₄ := st₄.keep _ _ hk₃ hL' (fun z => hLo (.inl z))
    have g₅ := st₅.keep _ _ g₄ hL' (fun z => z)
    have hL₅ : ¬ InA al₅ L := st₅.outA g₄ hL' (fun z => z)
    obtain ⟨⟨oJ₃, hoJ₃⟩, _⟩ := it₃.notTup
    have gJ₄ := st₄.keep _ _ hoJ₃ hJ' (fun z => hJo (.inl z))
    have hJ₅ : ¬ InA al₅ J := st₅.outA gJ₄ hJ' (fun z => z)
    have rs₅ := ((hrs.step st₃).step st₄).step st₅
    refine ⟨items, by rw [show items.size = _ from rs₅.length]; exact Nat.le_trans hacl (by decide), ⟨_, g₅⟩, fun h' hg hsb => ?_⟩
    obtain ⟨n', hg'⟩ := id hg
    have hT : ∀ items, ¬ IsTup s₅.heap L items := by
      rintro items ⟨ob, ho, hc, _⟩
      rw [g₅] at ho; cases ho
      simp at hc
    have st₆ : Step al₅ s₅ al₅ { s₅ with heap := h', toks := s₅.toks } (fun b => b = L) := Step.other (own := fun b => b = L) hsb rfl hT hg' _
    refine ⟨al₅, r.2, i + 1, acc ++ [r.1], items.push yv, some v, I₅.other hsb hL₅ hL hT _, ?_, F₅.stepO st₆ fun b hb z => hLo (z ▸ hb), ?_, hJ₅, hL₅, hg, ?_, g⟩
    · exact ((st₃'.trans (st₄.mono (own' := fun b => b = J ∨ b = cenv.locals ∨ b = L) fun b z => .inr (.inl z))).trans st₅.weak).trans (st₆.mono (own' := fun b => b = J ∨ b = cenv.locals ∨ b = L) fun b z => .inr (.inr z))
    · exact ((it₃.step st₄ (fun o e => st₄.keep _ _ e hJ' (fun z => hJo (.inl z)))).step st₅ (fun o e => st₅.keep _ _ e hJ' (fun z => z))).step st₆ (fun o e => st₆.keep _ _ e hJ₅ hJL)
    · rw [Array.toList_push]
      exact (rs₅.step st₆).append (.cons (ry.step st₆) .nil)

theorem comp_core2 {elt iter : Expr} {x : Str} {px : Pos} {scope : Scope} {pos : Pos} {caps : List Nat} {cn : List Str} {D : DE} {c : Src} {J L C : Addr} {h₁ : Heap} {tk : Nat} {cl : List (Str × Addr)} {RR : Value → Addr → Result → Shared → Prop}
    (ok : CompOk scope sc vars x caps cn) (he : SndE X d (relabelS scope sc) (cn ++ [x]) elt D) (R : Room d A) (F : FrameOk X sc env vars ρ al s.heap) (I : Inv X σ al s) (it : ItOk al s.heap J 0 c) (hs : notStr c = true)
    (hJ : ¬ InA al J) (hJb : X.base.heap.get? J = none) (hJo : ¬ Own env J)
    (hcl : ∀ n c, cl.lookup n = some c → env.cells.lookup n = some c) (hcl' : ∀ n, scope.names.lookup n = some .free → (cl.lookup n).isSome = true)
    (hLn : s.heap.get? L = none) (hCn : s.heap.get? C = none) (hDC : L ≠ C) (old : ∀ b o, s.heap.get? b = some o → h₁.get? b = some o) (hacc : h₁.PlainList L #[]) (hns₁ : h₁.Ns C fun _ => none)
    (g : Gets (compGo c (fun v σ => D (capsOf caps ρ ++ [some v]) σ) 0 [] σ) fun r => ∀ al' s' m items, ¬ InA al' L → ¬ InA al' C → Inv X r.2 al' s' → Step al s al' s' (fun b => b = J ∨ b = C ∨ b = L) → s'.heap.Ns C m → s'.heap.PlainList L items → VReps al' s'.heap items.toList r.1 → RR (.ref L) C (.ok .next) s') :
    codeAny (model X.prog X.w) A (.compStart (.ListComp elt [⟨.Name x px, iter, [], 0⟩] scope pos) 0 (.ref J) (.ref L) (compEnvC scope cl C env)) (RR (.ref L) C) { s with heap := h₁, toks := tk } := by
  obtain ⟨r, hD, g⟩ := g.at
  obtain ⟨n, hn⟩ := compN_of hD
  have out {a : Addr} (e : s.heap.get? a = none) : ¬ InA al a := fun z => by obtain ⟨o, e'⟩ := I.has z; rw [e] at e'; cases e'
  have outO {a : Addr} (e : s.heap.get? a = none) : ¬ Own env a := fun z => by obtain ⟨o, e'⟩ := F.has z; rw [e] at e'; cases e'
  have st₁ : Step al s al { s with heap := h₁, toks := tk } (fun b => b = J ∨ b = C ∨ b = L) := keepAll_step old _
  have F₁ := F.stepO (st₁ : Step al s al _ (fun b => b = J ∨ b = C ∨ b = L)) fun b hb z => z.elim (fun e => hJo (e ▸ hb)) fun z => z.elim (fun e => outO hCn (e ▸ hb)) fun e => outO hLn (e ▸ hb)
  obtain ⟨⟨oJ, hoJ⟩, _⟩ := it.notTup
  have it₁ := it.step st₁ (fun o e => old _ o e)
  have hJC : J ≠ C := fun e => nomatch (e ▸ hoJ).symm.trans hCn
  have hJL : J ≠ L := fun e => nomatch (e ▸ hoJ).symm.trans hLn
  have key : codeAny (model X.prog X.w) A (.compLoop (.ListComp elt [⟨.Name x px, iter, [], 0⟩] scope pos) 0 (.ref J) (.ref L) (compEnvC scope cl C env)) (RR (.ref L) C) { s with heap := h₁, toks := tk } := by
    refine codeAny_compLoop_list (CTurn X (relabelS scope sc) (compEnvC scope cl C env) (cn ++ [x]) (capsOf caps ρ) al s J L c (fun v σ => D (capsOf caps ρ ++ [some v]) σ) (fun s' _ => RR (.ref L) C (.ok .next) s')) (fun n s' w => ?_) n
      ⟨al, σ, 0, [], #[], Option.none, keepAll_inv I old _, st₁, comp_frame (s := { s with heap := h₁, toks := tk }) ok F₁ hcl hcl' (out hCn) (I.baseNone hCn) hns₁ (outO hCn), it₁, hJ, out hLn, hacc, .nil, .of hn g⟩
    cases n with
    | zero => obtain ⟨_, _, _, _, _, _, _, _, _, _, _, _, _, _, g⟩ := w; exact False.elim g
    | succ n =>
      refine comp_turn he R (by rw [← relabel_is F scope]; exact lookup_relabel_local ok.hx) (by have := congrArg List.length ok.hcaps; rw [List.length_map, List.length_map] at this; rw [capsOf, List.length_map]; exact this) hJb (I.baseNone hLn) hJL
        (fun z => z.elim hJC fun ⟨n', z⟩ => hJo (.inr ⟨n', hcl n' _ z⟩)) (fun z => z.elim hDC fun ⟨n', z⟩ => outO hLn (.inr ⟨n', hcl n' _ z⟩)) w (fun _ _ h => h) fun v s₃ p => wpAny_assign_Name (wpAny_mono p (fun _ s₄ p => wpAny_mono p (fun yv s₅ p => ?_) fun _ _ z => z) fun _ _ z => z)
      obtain ⟨items, hsz, hpl, p⟩ := p
      exact wpAny_list_append_plain hpl (fun h' hg hsb => ⟨n, Nat.lt_succ_self n, p h' hg hsb⟩) hsz
  exact codeAny_compStart_list key (itit_sound (X := X) hs it₁ key)
theorem comp_core {elt iter : Expr} {x : Str} {px : Pos} {scope : Scope} {pos : Pos} {caps : List Nat} {cn : List Str} {D : DE} {c : Src} {J : Addr} {cl : List (Str × Addr)} {RR : Value → Addr → Result → Shared → Prop}
    (ok : CompOk scope sc vars x caps cn) (he : SndE X d (relabelS scope sc) (cn ++ [x]) elt D) (R : Room d A) (F : FrameOk X sc env vars ρ al s.heap) (I : Inv X σ al s) (it : ItOk al s.heap J 0 c) (hs : notStr c = true)
    (hJ : ¬ InA al J) (hJb : X.base.heap.get? J = none) (hJo : ¬ Own env J)
    (hcl : ∀ n c, cl.lookup n = some c → env.cells.lookup n = some c) (hcl' : ∀ n, scope.names.lookup n = some .free → (cl.lookup n).isSome = true)
    (g : Gets (compGo c (fun v σ => D (capsOf caps ρ ++ [some v]) σ) 0 [] σ) fun r => ∀ L C al' s' m items, s.heap.get? L = none → s.heap.get? C = none → L ≠ C → ¬ InA al' L → ¬ InA al' C → Inv X r.2 al' s' → Step al s al' s' (fun b => b = J ∨ b = C ∨ b = L) → s'.heap.Ns C m → s'.heap.PlainList L items → VReps al' s'.heap items.toList r.1 →
      RR (.ref L) C (.ok .next) s') :
    wpAny (model X.prog X.w) A (newList []) (fun acc s₃ => wpAny (model X.prog X.w) A (newFunctionEnv scope env.globals cl [] env.qual none .none (some env)) (fun cenv s₄ =>
      codeAny (model X.prog X.w) A (.compStart (.ListComp elt [⟨.Name x px, iter, [], 0⟩] scope pos) 0 (.ref J) acc { cenv with scope := relabel scope env }) (RR acc cenv.locals) s₄) E s₃) E s := by
  refine wpAny_newObj_type (wpAny_newFunctionEnv ok.hcell (by intro y hy; cases hy) (fun h₁ hns₁ hsb₁ => ?_) ok.hkind)
  have fresh (a : Addr) (ha : s.heap.objs.size ≤ a) : s.heap.get? a = none := by
    cases e : s.heap.get? a with
    | none => rfl
    | some o' => exact absurd (Heap.lt_size e) (Nat.not_lt.mpr ha)
  have hC := Heap.size_push s.heap { cls := .type "list", data := .seq #[] }
  have hDC : s.heap.objs.size ≠ (s.heap.push { cls := .type "list", data := .seq #[] }).objs.size := by rw [hC]; exact Nat.ne_of_lt (Nat.lt_succ_self _)
  have hLn := fresh _ (Nat.le_refl _)
  have hCn : s.heap.get? (s.heap.push { cls := .type "list", data := .seq #[] }).objs.size = none := fresh _ (by rw [hC]; exact Nat.le_succ _)
  exact comp_core2 (s := s) (h₁ := h₁) (L := s.heap.objs.size) (C := (s.heap.push { cls := .type "list", data := .seq #[] }).objs.size) ok he R F I it hs hJ hJb hJo hcl hcl' hLn hCn hDC
    (fun b o e => hsb₁.extBut b o (by rw [hC]; exact Nat.ne_of_lt (Nat.lt_succ_of_lt (Heap.lt_size e))) (Heap.get?_push_of_some _ (Heap.get?_push_of_some _ e)))
    ⟨_, hsb₁.extBut _ _ hDC (Heap.get?_push_of_some _ (Heap.get?_push_size _ rfl))⟩ hns₁
    (g.mono fun r g al' s' m items => g _ _ al' s' m items hLn hCn hDC)

theorem Step.was (st : Step al s al' s' NoOwn) {b : Addr} (h : s'.heap.get? b = none) : s.heap.get? b = none := by
  cases e : s.heap.get? b with
  | none => rfl
  | some o => obtain ⟨o', e'⟩ := st.ex _ _ e (fun z => z); rw [h] at e'; cases e'
theorem inA_join {L C : Addr} (h : ¬ InA al C) (hn : L ≠ C) : ¬ InA (al ++ [(L, L)]) C := by
  rintro ⟨i, p, e, hp⟩
  rw [getElem?_concat] at e
  split at e
  · cases e; exact hn (hp.elim Eq.symm Eq.symm)
  · exact h ⟨i, p, e, hp⟩
theorem FrameOk.join {h : Heap} {L : Addr} (F : FrameOk X sc env vars ρ al h) (hL : ¬ Own env L) : FrameOk X sc env vars ρ (al ++ [(L, L)]) h := by
  refine ⟨F.scope, F.kind, F.glob, F.blt, ?_, fun b hb => ⟨inA_join (F.own b hb).1 fun z => hL (z ▸ hb), (F.own b hb).2⟩, F.kinds, F.sep, F.nd⟩
  obtain ⟨m, cm, a, b, hv⟩ := F.mc
  refine ⟨m, cm, a, b, fun i x d hx hr => ?_⟩
  obtain ⟨v, rv, h⟩ := hv i x d hx hr
  exact ⟨v, rv.mono (fun l q e => by rw [List.getElem?_append_left (List.getElem?_eq_some_iff.mp e).1]; exact e) (fun _ _ z => z), h⟩
theorem comp_closure {scope : Scope} {x : Str} {caps : List Nat} {cn : List Str} (ok : CompOk scope sc vars x caps cn) (F : FrameOk X sc env vars ρ al s.heap) :
    ∃ cl, closureFor scope env = pure cl ∧ (∀ n c, cl.lookup n = some c → env.cells.lookup n = some c) ∧ (∀ n, scope.names.lookup n = some .free → (cl.lookup n).isSome = true) :=
  closure_for (env := env) (scope := scope) fun y hy hk => by
    have hmem := ok.hfree y hy hk
    have : some y.1 ∈ caps.map (fun j => vars[j]?) := by rw [ok.hcaps]; exact List.mem_map_of_mem hmem
    obtain ⟨j, _, h⟩ := List.mem_map.mp this
    exact F.cellOf h (ok.hcn _ hmem).2
structure CEnd (X : Cx) (al : Al) (s : Shared) (L C J : Addr) (σ₂ : St) (xs : List V) (al' : Al) (s' : Shared) : Prop where
  nJ : s.heap.get? J = none
  nL : s.heap.get? L = none
  nC : s.heap.get? C = none
  ne : L ≠ C
  LA : ¬ InA al' L
  CA : ¬ InA al' C
  bL : X.base.heap.get? L = none
  bC : X.base.heap.get? C = none
  inv : Inv X σ₂ al' s'
  st : Step al s al' s' (fun b => b = J ∨ b = C ∨ b = L)
  list : ∃ items, s'.heap.PlainList L items ∧ VReps al' s'.heap items.toList xs
theorem comp_run {elt iter : Expr} {x : Str} {px : Pos} {scope : Scope} {pos : Pos} {caps : List Nat} {cn : List Str} {c : DI} {D : DE} {RR : Value → Addr → Result → Shared → Prop} {Q : V × St → Prop} {cl : List (Str × Addr)}
    (ok : CompOk scope sc vars x caps cn) (hc : SndI X d sc vars iter c) (he : SndE X d (relabelS scope sc) (cn ++ [x]) elt D) (R : Room d A) (F : FrameOk X sc env vars ρ al s.heap) (I : Inv X σ al s)
    (hcl : ∀ n c, cl.lookup n = some c → env.cells.lookup n = some c) (hcl' : ∀ n, scope.names.lookup n = some .free → (cl.lookup n).isSome = true)
    (g : Gets (dComp c caps D ρ σ) Q) (k : ∀ σ₂ xs L C J al' s' m, Q (V.ref (List.length σ₂), σ₂ ++ [O.list xs]) → s'.heap.Ns C m → CEnd X al s L C J σ₂ xs al' s' → RR (.ref L) C (.ok .next) s') : wpAny (model X.prog X.w) A (eval iter env) (fun xv s₁ => wpAny (model X.prog X.w) A (pyIter xv) (fun it s₂ => wpAny (model X.prog X.w) A (newList []) (fun acc s₃ => wpAny (model X.prog X.w) A (newFunctionEnv scope env.globals cl [] env.qual none .none (some env)) (fun cenv s₄ =>
      codeAny (model X.prog X.w) A (.compStart (.ListComp elt [⟨.Name x px, iter, [], 0⟩] scope pos) 0 it acc { cenv with scope := relabel scope env }) (RR acc cenv.locals) s₄) E s₃) E s₂) E s₁) E s := by
  refine hc A env ρ σ al s _ E R F I (g.bind.mono fun r g it s₂ q => g.ite fun hns g => ?_)
  obtain ⟨al₂, J, rfl, I₂, st₂, itok, hJ, hJs, hJb⟩ := q
  have hJo : ¬ Own env J := fun z => by
    obtain ⟨o, e⟩ := F.has z
    rw [hJs] at e; cases e
  exact comp_core ok he R (F.step st₂) I₂ itok hns hJ hJb hJo hcl hcl' (g.bind.mono fun q g L C al' s' m items hL hC hLC hLA hCA I' st' hnsC hpl hrs => k _ _ L C J al' s' m g hnsC
    ⟨hJs, st₂.was hL, st₂.was hC, hLC, hLA, hCA, I₂.baseNone hL, I₂.baseNone hC, I', st₂.weak.trans st', items, hpl, hrs⟩)

theorem SndE.comp {elt iter : Expr} {x : Str} {px : Pos} {scope : Scope} {pos : Pos} {caps : List Nat} {cn : List Str} {c : DI} {D : DE}
    (ok : CompOk scope sc vars x caps cn) (hc : SndI X d sc vars iter c) (he : SndE X d (relabelS scope sc) (cn ++ [x]) elt D) (hs : ∀ env x, foldedSetIterable iter env x = pure x) :
    SndE X d sc vars (.ListComp elt [⟨.Name x px, iter, [], 0⟩] scope pos) (dComp c caps D) := .mk fun A env ρ σ al s Q E R F I g => by
  obtain ⟨cl, hclos, hcl, hcl'⟩ := comp_closure ok F
  rw [eval_ListComp]
  refine wpAny_comprehension_free (use := Option.none) rfl (hs env) hclos ok.hkind ok.hnames (comp_run ok hc he R F I hcl hcl' g fun σ₂ xs L C J al' s' m q hnsC w => ⟨m, hnsC, fun h'' hs'' => q _ _ ?_⟩)
  have hT := not_tup_of_ns hnsC
  have I₃ : Inv X σ₂ al' { s' with heap := h'', toks := s'.toks } := w.inv.extOther hs''.extBut w.CA w.bC hT _
  have st₃ : Step al' s' al' { s' with heap := h'', toks := s'.toks } (fun b => b = J ∨ b = C ∨ b = L) := Step.extOther (own := fun b => b = J ∨ b = C ∨ b = L) hs''.extBut (.inr (.inl rfl)) hT _
  have stA : Step al s al' { s' with heap := h'', toks := s'.toks } NoOwn := (w.st.trans st₃).drop fun b hb => .inr (by
    rcases hb with rfl | rfl | rfl
    · exact w.nJ
    · exact w.nC
    · exact w.nL)
  obtain ⟨items, ⟨k, hk⟩, hrs⟩ := w.list
  exact ⟨_, I₃.join (o := .list xs) (p := (L, L)) ⟨items, ⟨k, (hs''.2 L w.ne).trans hk⟩, hrs.step st₃, rfl⟩ w.LA w.LA w.bL w.bL, stA.join w.nL w.nL, join_ref (p := (L, L)) I₃.len⟩

theorem SndS1.setComp {elt iter : Expr} {x y : Str} {px py : Pos} {scope : Scope} {pos spos : Pos} {caps : List Nat} {cn : List Str} {c : DI} {D : DE} {i : Nat}
    (ok : CompOk scope sc vars x caps cn) (hc : SndI X d sc vars iter c) (he : SndE X d (relabelS scope sc) (cn ++ [x]) elt D) (hs : ∀ env x, foldedSetIterable iter env x = pure x) (hy : vars[i]? = some y)
    (hsw : ∀ env : Env, env.scope = sc → swapsWith (.ListComp elt [⟨.Name x px, iter, [], 0⟩] scope pos) (some (.Name y py)) spos.line env = pure true) :
    SndS1 X d sc vars (.Assign [.Name y py] (.ListComp elt [⟨.Name x px, iter, [], 0⟩] scope pos) spos) (sSet i (dComp c caps D)) := .mk fun A env ρ σ al s Q E R F I g => by
  obtain ⟨cl, hclos, hcl, hcl'⟩ := comp_closure ok F
  rw [exec_Assign_Name_used _ _ _ _ (hsw env F.scope)]
  refine wpAny_bind (wpAny_standAt (wpAny_bind ?_))
  show wpAny _ A (do let _ ← comprehension (.ListComp elt [⟨.Name x px, iter, [], 0⟩] scope pos) scope env _ (newList []) false (eval iter env) (some (assign (.Name y py) env))) _ _ s
  refine wpAny_bind (wpAny_mono (wpAny_comprehension_free (use := some (assign (.Name y py) env)) (Q := fun _ s' => Q .next s') rfl (hs env) hclos ok.hkind ok.hnames
    (comp_run ok hc he R F I hcl hcl' g.bind fun σ₂ xs L C J al' s' m q hnsC w => ?_)) (fun _ s' hq => wpAny_pure (wpAny_pure hq)) fun _ _ z => z)
  have out {b : Addr} (e : s.heap.get? b = none) : ¬ Own env b := fun hb => by
    obtain ⟨o, e'⟩ := F.has hb
    rw [e] at e'; cases e'
  have own3 (b : Addr) (hb : Own env b) : ¬ (b = J ∨ b = C ∨ b = L) := by
    rintro (rfl | rfl | rfl)
    · exact out w.nJ hb
    · exact out w.nC hb
    · exact out w.nL hb
  obtain ⟨items, ⟨k, hk⟩, hrs⟩ := w.list
  -- the list joins the store, then the name is bound
  have j := w.inv.join (o := .list xs) (p := (L, L)) ⟨items, ⟨k, hk⟩, hrs, rfl⟩ w.LA w.LA w.bL w.bL
  show wpAny _ A (assign (.Name y py) env (.ref L)) _ _ _
  have hCA' := inA_join w.CA w.ne
  refine wpAny_assign_Name (store_sound ((F.stepO w.st own3).join (out w.nL)) j hy (join_ref (p := (L, L)) w.inv.len) fun s₃ F₃ I₃ st₃ => ?_)
  have hnsC₃ : s₃.heap.Ns C m := by
    obtain ⟨o, es, ep, ho, hr⟩ := hnsC
    exact ⟨o, es, ep, st₃.keep _ _ ho hCA' (out w.nC), hr⟩
  have hT := not_tup_of_ns hnsC₃
  refine ⟨m, hnsC₃, fun h'' hs'' => q _ _ ⟨_, I₃.extOther hs''.extBut hCA' w.bC hT s₃.toks, ?_, F₃.stepO (Step.extOther (own := fun b => b = C) hs''.extBut rfl hT s₃.toks) (fun b hb z => own3 b hb (.inr (.inl z))), .next⟩⟩
  refine Step.drop (((Step.mono (w.st.join w.nL w.nL) fun b z => .inr z).trans (st₃.mono fun b z => .inl z)).trans ((Step.extOther (own := fun b => b = C) hs''.extBut rfl hT s₃.toks).mono fun b z => .inr (.inr (.inl z)))) (own := fun b => Own env b ∨ (b = J ∨ b = C ∨ b = L)) fun b hb => ?_
  rcases hb with z | rfl | rfl | rfl
  · exact .inl z
  · exact .inr w.nJ
  · exact .inr w.nC
  · exact .inr w.nL
end
noncomputable def noStar : Expr → Bool
  | .Starred .. => false
  | _ => true
theorem star_plain {e : Expr} (h : noStar e = true) (es : List Expr) (env : Env) : starEach (e :: es) env = (false, eval e env) :: starEach es env := by
  cases e <;> first | rfl | cases h
end Mine
set_option maxHeartbeats 4000000
namespace Mine

noncomputable def Fn := Nat
noncomputable def Fn.n (g : Fn) : Nat := g
noncomputable def Fn.f_is_blank : Fn := (0 : Nat)
noncomputable def Fn.f_digit : Fn := (1 : Nat)
noncomputable def Fn.f_digits_value : Fn := (2 : Nat)
noncomputable def Fn.f_base_of : Fn := (3 : Nat)
noncomputable def Fn.f_whole_of : Fn := (4 : Nat)
noncomputable def Fn.f_bool_of : Fn := (5 : Nat)
noncomputable def Fn.f_is_gap : Fn := (6 : Nat)
noncomputable def Fn.f_skip_gaps : Fn := (7 : Nat)
noncomputable def Fn.f_skip_to_command : Fn := (8 : Nat)
noncomputable def Fn.f_read_name : Fn := (9 : Nat)
noncomputable def Fn.f_variable : Fn := (10 : Nat)
noncomputable def Fn.f_brackets : Fn := (11 : Nat)
noncomputable def Fn.f_braces : Fn := (12 : Nat)
noncomputable def Fn.f_parts_until : Fn := (13 : Nat)
noncomputable def Fn.f_bare_stops : Fn := (14 : Nat)
noncomputable def Fn.f_is_expanded : Fn := (15 : Nat)
noncomputable def Fn.f_word : Fn := (16 : Nat)
noncomputable def Fn.f_command_at : Fn := (17 : Nat)
noncomputable def Fn.f_skip_space : Fn := (18 : Nat)
noncomputable def Fn.f_is_digit : Fn := (19 : Nat)
noncomputable def Fn.f_run_end : Fn := (20 : Nat)
noncomputable def Fn.f_is_word_op : Fn := (21 : Nat)
noncomputable def Fn.f_is_float_at : Fn := (22 : Nat)
noncomputable def Fn.f_number_token : Fn := (23 : Nat)
noncomputable def Fn.f_op_at : Fn := (24 : Nat)
noncomputable def Fn.f_sign_token : Fn := (25 : Nat)
noncomputable def Fn.f_token_at : Fn := (26 : Nat)
noncomputable def Fn.f_lex : Fn := (27 : Nat)
noncomputable def Fn.f_levels : Fn := (28 : Nat)
noncomputable def Fn.f_is_bare : Fn := (29 : Nat)
noncomputable def Fn.f_is_colon : Fn := (30 : Nat)
noncomputable def Fn.f_close : Fn := (31 : Nat)
noncomputable def Fn.f_call_tree : Fn := (32 : Nat)
noncomputable def Fn.f_parts_tree : Fn := (33 : Nat)
noncomputable def Fn.f_operand : Fn := (34 : Nat)
noncomputable def Fn.f_prefixed : Fn := (35 : Nat)
noncomputable def Fn.f_choice : Fn := (36 : Nat)
noncomputable def Fn.f_joined : Fn := (37 : Nat)
noncomputable def Fn.f_climb : Fn := (38 : Nat)
noncomputable def Fn.f_parse_expr : Fn := (39 : Nat)
noncomputable def Fn.f_law_draws : Fn := (40 : Nat)
noncomputable def Fn.f_law_between : Fn := (41 : Nat)
noncomputable def Fn.f_law_hold : Fn := (42 : Nat)
noncomputable def Fn.f_law_number : Fn := (43 : Nat)
noncomputable def Fn.f_law_text : Fn := (44 : Nat)
noncomputable def Fn.f_law_parts : Fn := (45 : Nat)
noncomputable def Fn.f_law_node : Fn := (46 : Nat)
noncomputable def Fn.f_law_tree : Fn := (47 : Nat)
noncomputable def Fn.f_law_pieces : Fn := (48 : Nat)
noncomputable def Fn.f_law_put : Fn := (49 : Nat)
noncomputable def Fn.f_law_is_wordlike : Fn := (50 : Nat)
noncomputable def Fn.f_law_joined : Fn := (51 : Nat)
noncomputable def Fn.f_law_told : Fn := (52 : Nat)
noncomputable def Fn.m_init : Fn := (53 : Nat)
noncomputable def Fn.m_sort : Fn := (54 : Nat)
noncomputable def Fn.m_value : Fn := (55 : Nat)
noncomputable def Fn.m_take : Fn := (56 : Nat)
noncomputable def Fn.m_level : Fn := (57 : Nat)
noncomputable def Fn.cls : Fn := (58 : Nat)
noncomputable def addrs : List Nat := [52, 59, 66, 73, 80, 87, 115, 122, 136, 143, 150, 157, 164, 171, 178, 185, 192, 200, 221, 228, 235, 242, 249, 256, 263, 270, 277, 284, 291, 361, 382, 396, 403, 410, 417, 424, 431, 438, 445, 452, 457, 464, 469, 476, 483, 490, 495, 500, 507, 514, 521, 528, 535, 305, 312, 319, 326, 333, 350]
noncomputable def addr (g : Fn) : Nat := addrs.getD g.n 0
noncomputable def b_f_is_blank (fns : Fn → DF) : DS := sRet (dTest (tCmp .In (dVar 0) (dTup [dLit (.str [32]), dLit (.str [9]), dLit (.str [10]), dLit (.str [11]), dLit (.str [12]), dLit (.str [13])])))
noncomputable def b_f_digit (fns : Fn → DF) : DS := sSeq (sIf (tCmp .NotEq (dCall bLen [dVar 0]) (dLit (.int 1))) (sRet (dNeg (dLit (.int 1)))) (sNil)) (sSeq (sSet 1 (dCall bOrd [dVar 0])) (sSeq (sIf (tChain .LtE .LtE (dLit (.int 48)) (dVar 1) (dLit (.int 57))) (sRet (dBin .Sub (dVar 1) (dLit (.int 48)))) (sNil)) (sSeq (sIf (tChain .LtE .LtE (dLit (.int 97)) (dVar 1) (dLit (.int 122))) (sRet (dBin .Sub (dVar 1) (dLit (.int 87)))) (sNil)) (sSeq (sIf (tChain .LtE .LtE (dLit (.int 65)) (dVar 1) (dLit (.int 90))) (sRet (dBin .Sub (dVar 1) (dLit (.int 55)))) (sNil)) (sRet (dNeg (dLit (.int 1))))))))
noncomputable def b_f_digits_value (fns : Fn → DF) : DS := sSeq (sIf (tCmp .Eq (dVar 0) (dLit (.str []))) (sRet (dLit .none)) (sNil)) (sSeq (sSet 2 (dLit (.int 0))) (sSeq (sFor (iVal (dVar 0)) 3 (sSeq (sSet 4 (dCall (fns .f_digit) [dVar 3])) (sSeq (sIf (tOrs [tCmp .Lt (dVar 4) (dLit (.int 0)), tCmp .GtE (dVar 4) (dVar 1)]) (sRet (dLit .none)) (sNil)) (sSet 2 (dBin .Add (dBin .Mult (dVar 2) (dVar 1)) (dVar 4)))))) (sRet (dVar 2))))
noncomputable def b_f_base_of (fns : Fn → DF) : DS := sSeq (sIf (tCmp .In (dVar 0) (dTup [dLit (.str [120]), dLit (.str [88])])) (sRet (dLit (.int 16))) (sNil)) (sSeq (sIf (tCmp .In (dVar 0) (dTup [dLit (.str [111]), dLit (.str [79])])) (sRet (dLit (.int 8))) (sNil)) (sSeq (sIf (tCmp .In (dVar 0) (dTup [dLit (.str [98]), dLit (.str [66])])) (sRet (dLit (.int 2))) (sNil)) (sSeq (sIf (tCmp .In (dVar 0) (dTup [dLit (.str [100]), dLit (.str [68])])) (sRet (dLit (.int 10))) (sNil)) (sRet (dLit (.int 0))))))
noncomputable def b_f_whole_of (fns : Fn → DF) : DS := sSeq (sSetT [1, 2] (dTup [dLit (.int 0), dCall bLen [dVar 0]])) (sSeq (sWhile (tAnds [tCmp .Lt (dVar 1) (dVar 2), tVal (dCall (fns .f_is_blank) [dIndex (dVar 0) (dVar 1)])]) (sAug .Add 1 (dLit (.int 1)))) (sSeq (sWhile (tAnds [tCmp .Lt (dVar 1) (dVar 2), tVal (dCall (fns .f_is_blank) [dIndex (dVar 0) (dBin .Sub (dVar 2) (dLit (.int 1)))])]) (sAug .Sub 2 (dLit (.int 1)))) (sSeq (sSet 3 (dLit (.bool false))) (sSeq (sIf (tAnds [tCmp .Lt (dVar 1) (dVar 2), tCmp .In (dIndex (dVar 0) (dVar 1)) (dTup [dLit (.str [43]), dLit (.str [45])])]) (sSeq (sSet 3 (dTest (tCmp .Eq (dIndex (dVar 0) (dVar 1)) (dLit (.str [45]))))) (sAug .Add 1 (dLit (.int 1)))) (sNil)) (sSeq (sSet 4 (dLit (.int 0))) (sSeq (sIf (tAnds [tCmp .Gt (dBin .Sub (dVar 2) (dVar 1)) (dLit (.int 2)), tCmp .Eq (dIndex (dVar 0) (dVar 1)) (dLit (.str [48]))]) (sSet 4 (dCall (fns .f_base_of) [dIndex (dVar 0) (dBin .Add (dVar 1) (dLit (.int 1)))])) (sNil)) (sSeq (sIf (tCmp .Gt (dVar 4) (dLit (.int 0))) (sSet 5 (dCall (fns .f_digits_value) [dSlice (dVar 0) (some (dBin .Add (dVar 1) (dLit (.int 2)))) (some (dVar 2)), dVar 4])) (sSet 5 (dCall (fns .f_digits_value) [dSlice (dVar 0) (some (dVar 1)) (some (dVar 2)), dLit (.int 10)]))) (sSeq (sIf (tCmp .Is (dVar 5) (dLit .none)) (sRet (dLit .none)) (sNil)) (sRet (dIf (tVal (dVar 3)) (dNeg (dVar 5)) (dVar 5)))))))))))
noncomputable def b_f_bool_of (fns : Fn → DF) : DS := sSeq (sSet 1 (dCall (fns .f_whole_of) [dVar 0])) (sSeq (sIf (tCmp .IsNot (dVar 1) (dLit .none)) (sRet (dTest (tCmp .NotEq (dVar 1) (dLit (.int 0))))) (sNil)) (sSeq (sSet 2 (dMeth kStr bLower (dVar 0) [])) (sSeq (sIf (tCmp .In (dVar 2) (dTup [dLit (.str []), dLit (.str [111])])) (sRet (dLit .none)) (sNil)) (sSeq (sFor (iVal (dTup [dLit (.str [116, 114, 117, 101]), dLit (.str [121, 101, 115]), dLit (.str [111, 110])])) 3 (sIf (tVal (dMeth kStr bStarts (dVar 3) [dVar 2])) (sRet (dLit (.bool true))) (sNil))) (sSeq (sFor (iVal (dTup [dLit (.str [102, 97, 108, 115, 101]), dLit (.str [110, 111]), dLit (.str [111, 102, 102])])) 3 (sIf (tVal (dMeth kStr bStarts (dVar 3) [dVar 2])) (sRet (dLit (.bool false))) (sNil))) (sRet (dLit .none)))))))
noncomputable def b_f_is_gap (fns : Fn → DF) : DS := sRet (dTest (tCmp .In (dVar 0) (dTup [dLit (.str [32]), dLit (.str [9]), dLit (.str [11]), dLit (.str [12]), dLit (.str [13])])))
noncomputable def b_f_skip_gaps (fns : Fn → DF) : DS := sSeq (sWhile (tCmp .Lt (dVar 1) (dCall bLen [dVar 0])) (sIf (tVal (dCall (fns .f_is_gap) [dIndex (dVar 0) (dVar 1)])) (sAug .Add 1 (dLit (.int 1))) (sIf (tCmp .Eq (dSlice (dVar 0) (some (dVar 1)) (some (dBin .Add (dVar 1) (dLit (.int 2))))) (dLit (.str [92, 10]))) (sAug .Add 1 (dLit (.int 2))) (sRet (dVar 1))))) (sRet (dVar 1))
noncomputable def b_f_skip_to_command (fns : Fn → DF) : DS := sSeq (sSet 1 (dCall (fns .f_skip_gaps) [dVar 0, dVar 1])) (sSeq (sWhile (tCmp .In (dSlice (dVar 0) (some (dVar 1)) (some (dBin .Add (dVar 1) (dLit (.int 1))))) (dTup [dLit (.str [10]), dLit (.str [59]), dLit (.str [35])])) (sSeq (sIf (tCmp .Eq (dIndex (dVar 0) (dVar 1)) (dLit (.str [35]))) (sStuck) (sAug .Add 1 (dLit (.int 1)))) (sSet 1 (dCall (fns .f_skip_gaps) [dVar 0, dVar 1])))) (sRet (dVar 1)))
noncomputable def b_f_read_name (fns : Fn → DF) : DS := sSeq (sWhile (tCmp .Lt (dVar 1) (dCall bLen [dVar 0])) (sIf (tOrs [tCmp .Eq (dIndex (dVar 0) (dVar 1)) (dLit (.str [95])), tCmp .GtE (dCall (fns .f_digit) [dIndex (dVar 0) (dVar 1)]) (dLit (.int 0))]) (sAug .Add 1 (dLit (.int 1))) (sIf (tCmp .Eq (dSlice (dVar 0) (some (dVar 1)) (some (dBin .Add (dVar 1) (dLit (.int 2))))) (dLit (.str [58, 58]))) (sSeq (sAug .Add 1 (dLit (.int 2))) (sWhile (tCmp .Eq (dSlice (dVar 0) (some (dVar 1)) (some (dBin .Add (dVar 1) (dLit (.int 1))))) (dLit (.str [58]))) (sAug .Add 1 (dLit (.int 1))))) (sRet (dVar 1))))) (sRet (dVar 1))
noncomputable def b_f_variable (fns : Fn → DF) : DS := sSeq (sSet 2 (dBin .Add (dVar 1) (dLit (.int 1)))) (sSeq (sIf (tCmp .Eq (dSlice (dVar 0) (some (dVar 2)) (some (dBin .Add (dVar 2) (dLit (.int 1))))) (dLit (.str [123]))) (sSeq (sSet 3 (dMeth kStr bFind (dVar 0) [dLit (.str [125]), dVar 2])) (sSeq (sIf (tCmp .Lt (dVar 3) (dLit (.int 0))) (sStuck) (sNil)) (sRet (dTup [dTup [dLit (.str [118, 97, 114]), dSlice (dVar 0) (some (dBin .Add (dVar 2) (dLit (.int 1)))) (some (dVar 3)), dLit .none], dBin .Add (dVar 3) (dLit (.int 1))])))) (sNil)) (sSeq (sSet 4 (dCall (fns .f_read_name) [dVar 0, dVar 2])) (sSeq (sIf (tCmp .Eq (dSlice (dVar 0) (some (dVar 4)) (some (dBin .Add (dVar 4) (dLit (.int 1))))) (dLit (.str [40]))) (sSeq (sSetT [5, 3] (dCall (fns .f_parts_until) [dVar 0, dBin .Add (dVar 4) (dLit (.int 1)), dTup [dLit (.str [41])]])) (sSeq (sIf (tCmp .GtE (dVar 3) (dCall bLen [dVar 0])) (sStuck) (sNil)) (sRet (dTup [dTup [dLit (.str [118, 97, 114]), dSlice (dVar 0) (some (dVar 2)) (some (dVar 4)), dVar 5], dBin .Add (dVar 3) (dLit (.int 1))])))) (sNil)) (sSeq (sIf (tCmp .Eq (dVar 4) (dVar 2)) (sRet (dTup [dTup [dLit (.str [116, 101, 120, 116]), dLit (.str [36])], dVar 2])) (sNil)) (sRet (dTup [dTup [dLit (.str [118, 97, 114]), dSlice (dVar 0) (some (dVar 2)) (some (dVar 4)), dLit .none], dVar 4]))))))
noncomputable def b_f_brackets (fns : Fn → DF) : DS := sSeq (sSet 2 (dBin .Add (dVar 1) (dLit (.int 1)))) (sSeq (sSet 3 (dCall (fns .f_skip_to_command) [dVar 0, dVar 2])) (sSeq (sWhile (tAnds [tCmp .Lt (dVar 3) (dCall bLen [dVar 0]), tCmp .NotEq (dIndex (dVar 0) (dVar 3)) (dLit (.str [93]))]) (sSeq (sSet 4 (dCall (fns .f_command_at) [dVar 0, dVar 3, dLit (.bool true)])) (sSet 3 (dCall (fns .f_skip_to_command) [dVar 0, dIndex (dVar 4) (dLit (.int 3))])))) (sSeq (sIf (tCmp .GtE (dVar 3) (dCall bLen [dVar 0])) (sStuck) (sNil)) (sRet (dTup [dSlice (dVar 0) (some (dVar 2)) (some (dVar 3)), dBin .Add (dVar 3) (dLit (.int 1))])))))
noncomputable def b_f_braces (fns : Fn → DF) : DS := sSeq (sSet 2 (dCall bLen [dVar 0])) (sSeq (sSet 3 (dBin .Add (dVar 1) (dLit (.int 1)))) (sSeq (sSet 4 (dVar 3)) (sSeq (sSet 5 (dLit (.str []))) (sSeq (sSet 6 (dLit (.int 1))) (sSeq (sWhile (tCmp .Lt (dVar 4) (dVar 2)) (sIf (tCmp .Eq (dIndex (dVar 0) (dVar 4)) (dLit (.str [123]))) (sSeq (sAug .Add 6 (dLit (.int 1))) (sAug .Add 4 (dLit (.int 1)))) (sIf (tCmp .Eq (dIndex (dVar 0) (dVar 4)) (dLit (.str [125]))) (sSeq (sAug .Sub 6 (dLit (.int 1))) (sSeq (sAug .Add 4 (dLit (.int 1))) (sIf (tCmp .Eq (dVar 6) (dLit (.int 0))) (sRet (dTup [dBin .Add (dVar 5) (dSlice (dVar 0) (some (dVar 3)) (some (dBin .Sub (dVar 4) (dLit (.int 1))))), dVar 4])) (sNil)))) (sIf (tCmp .Eq (dSlice (dVar 0) (some (dVar 4)) (some (dBin .Add (dVar 4) (dLit (.int 2))))) (dLit (.str [92, 10]))) (sStuck) (sIf (tCmp .Eq (dIndex (dVar 0) (dVar 4)) (dLit (.str [92]))) (sAug .Add 4 (dLit (.int 2))) (sWhile (tAnds [tCmp .Lt (dVar 4) (dVar 2), tCmp .NotIn (dIndex (dVar 0) (dVar 4)) (dLit (.str [123, 125, 92]))]) (sAug .Add 4 (dLit (.int 1))))))))) (sStuck))))))
noncomputable def b_f_parts_until (fns : Fn → DF) : DS := sSeq (sSet 3 (dList [])) (sSeq (sSet 4 (dLit (.str []))) (sSeq (sSet 5 (dCall bLen [dVar 0])) (sSeq (sWhile (tAnds [tCmp .Lt (dVar 1) (dVar 5), tCmp .NotIn (dIndex (dVar 0) (dVar 1)) (dVar 2)]) (sSeq (sIf (tCmp .Eq (dIndex (dVar 0) (dVar 1)) (dLit (.str [36]))) (sSetT [6, 1] (dCall (fns .f_variable) [dVar 0, dVar 1])) (sIf (tCmp .Eq (dIndex (dVar 0) (dVar 1)) (dLit (.str [91]))) (sSeq (sSetT [7, 1] (dCall (fns .f_brackets) [dVar 0, dVar 1])) (sSet 6 (dTup [dLit (.str [99, 109, 100]), dVar 7]))) (sIf (tCmp .Eq (dIndex (dVar 0) (dVar 1)) (dLit (.str [92]))) (sSeq (sIf (tAnds [tCmp .In (dLit (.str [32])) (dVar 2), tCmp .Eq (dSlice (dVar 0) (some (dBin .Add (dVar 1) (dLit (.int 1)))) (some (dBin .Add (dVar 1) (dLit (.int 2))))) (dLit (.str [10]))]) (sBrk) (sNil)) (sStuck)) (sSeq (sSet 9 (dVar 1)) (sSeq (sWhile (tAnds [tCmp .Lt (dVar 1) (dVar 5), tCmp .NotIn (dIndex (dVar 0) (dVar 1)) (dLit (.str [36, 91, 92])), tCmp .NotIn (dIndex (dVar 0) (dVar 1)) (dVar 2)]) (sAug .Add 1 (dLit (.int 1)))) (sSet 6 (dTup [dLit (.str [116, 101, 120, 116]), dSlice (dVar 0) (some (dVar 9)) (some (dVar 1))]))))))) (sIf (tCmp .Eq (dIndex (dVar 6) (dLit (.int 0))) (dLit (.str [116, 101, 120, 116]))) (sAug .Add 4 (dIndex (dVar 6) (dLit (.int 1)))) (sSeq (sIf (tCmp .NotEq (dVar 4) (dLit (.str []))) (sSeq (sExpr (dMeth kList bAppend (dVar 3) [dTup [dLit (.str [116, 101, 120, 116]), dVar 4]])) (sSet 4 (dLit (.str [])))) (sNil)) (sExpr (dMeth kList bAppend (dVar 3) [dVar 6])))))) (sSeq (sIf (tCmp .NotEq (dVar 4) (dLit (.str []))) (sExpr (dMeth kList bAppend (dVar 3) [dTup [dLit (.str [116, 101, 120, 116]), dVar 4]])) (sNil)) (sRet (dTup [dCall bTuple [dVar 3], dVar 1]))))))
noncomputable def b_f_bare_stops (fns : Fn → DF) : DS := sSeq (sIf (tVal (dVar 0)) (sRet (dTup [dLit (.str [32]), dLit (.str [9]), dLit (.str [11]), dLit (.str [12]), dLit (.str [13]), dLit (.str [10]), dLit (.str [59]), dLit (.str [93])])) (sNil)) (sRet (dTup [dLit (.str [32]), dLit (.str [9]), dLit (.str [11]), dLit (.str [12]), dLit (.str [13]), dLit (.str [10]), dLit (.str [59])]))
noncomputable def b_f_is_expanded (fns : Fn → DF) : DS := sSeq (sIf (tCmp .NotEq (dSlice (dVar 0) (some (dVar 1)) (some (dBin .Add (dVar 1) (dLit (.int 3))))) (dLit (.str [123, 42, 125]))) (sRet (dLit (.bool false))) (sNil)) (sSeq (sSet 2 (dBin .Add (dVar 1) (dLit (.int 3)))) (sSeq (sIf (tCmp .In (dSlice (dVar 0) (some (dVar 2)) (some (dBin .Add (dVar 2) (dLit (.int 1))))) (dTup [dLit (.str []), dLit (.str [10]), dLit (.str [59])])) (sRet (dLit (.bool false))) (sNil)) (sRet (dTest (tCmp .Eq (dCall (fns .f_skip_gaps) [dVar 0, dVar 2]) (dVar 2))))))
noncomputable def b_f_word (fns : Fn → DF) : DS := sSeq (sSet 3 (dCall (fns .f_is_expanded) [dVar 0, dVar 1])) (sSeq (sIf (tVal (dVar 3)) (sAug .Add 1 (dLit (.int 3))) (sNil)) (sSeq (sSet 4 (dSlice (dVar 0) (some (dVar 1)) (some (dBin .Add (dVar 1) (dLit (.int 1)))))) (sSeq (sIf (tCmp .Eq (dVar 4) (dLit (.str [123]))) (sSeq (sSetT [5, 6] (dCall (fns .f_braces) [dVar 0, dVar 1])) (sSeq (sIf (tCmp .Eq (dVar 5) (dLit (.str []))) (sRet (dTup [dTup [dVar 3, dTup []], dVar 6])) (sNil)) (sRet (dTup [dTup [dVar 3, dTup [dTup [dLit (.str [116, 101, 120, 116]), dVar 5]]], dVar 6])))) (sNil)) (sSeq (sIf (tCmp .Eq (dVar 4) (dLit (.str [34]))) (sSeq (sSetT [7, 8] (dCall (fns .f_parts_until) [dVar 0, dBin .Add (dVar 1) (dLit (.int 1)), dTup [dLit (.str [34])]])) (sSeq (sIf (tCmp .GtE (dVar 8) (dCall bLen [dVar 0])) (sStuck) (sNil)) (sRet (dTup [dTup [dVar 3, dVar 7], dBin .Add (dVar 8) (dLit (.int 1))])))) (sNil)) (sSeq (sSetT [7, 6] (dCall (fns .f_parts_until) [dVar 0, dVar 1, dCall (fns .f_bare_stops) [dVar 2]])) (sRet (dTup [dTup [dVar 3, dVar 7], dVar 6])))))))
noncomputable def b_f_command_at (fns : Fn → DF) : DS := sSeq (sSet 3 (dCall (fns .f_skip_to_command) [dVar 0, dVar 1])) (sSeq (sSet 4 (dCall bLen [dVar 0])) (sSeq (sIf (tOrs [tCmp .GtE (dVar 3) (dVar 4), tAnds [tVal (dVar 2), tCmp .Eq (dIndex (dVar 0) (dVar 3)) (dLit (.str [93]))]]) (sRet (dLit .none)) (sNil)) (sSeq (sSet 5 (dList [])) (sSeq (sSet 6 (dVar 3)) (sWhile (tVal (dLit (.bool true))) (sSeq (sSetT [7, 8] (dCall (fns .f_word) [dVar 0, dVar 6, dVar 2])) (sSeq (sExpr (dMeth kList bAppend (dVar 5) [dVar 7])) (sSeq (sSet 6 (dCall (fns .f_skip_gaps) [dVar 0, dVar 8])) (sSeq (sIf (tCmp .GtE (dVar 6) (dVar 4)) (sRet (dTup [dCall bTuple [dVar 5], dVar 3, dVar 8, dVar 4])) (sNil)) (sSeq (sIf (tCmp .In (dIndex (dVar 0) (dVar 6)) (dTup [dLit (.str [10]), dLit (.str [59])])) (sRet (dTup [dCall bTuple [dVar 5], dVar 3, dVar 8, dBin .Add (dVar 6) (dLit (.int 1))])) (sNil)) (sSeq (sIf (tAnds [tVal (dVar 2), tCmp .Eq (dIndex (dVar 0) (dVar 6)) (dLit (.str [93]))]) (sRet (dTup [dCall bTuple [dVar 5], dVar 3, dVar 8, dVar 6])) (sNil)) (sIf (tCmp .Eq (dVar 6) (dVar 8)) (sSeq (sIf (tCmp .Eq (dIndex (dVar 0) (dBin .Sub (dVar 8) (dLit (.int 1)))) (dLit (.str [34]))) (sStuck) (sNil)) (sStuck)) (sNil)))))))))))))
noncomputable def b_f_skip_space (fns : Fn → DF) : DS := sSeq (sSet 2 (dCall bLen [dVar 0])) (sSeq (sWhile (tCmp .Lt (dVar 1) (dVar 2)) (sSeq (sSet 3 (dIndex (dVar 0) (dVar 1))) (sIf (tVal (dCall (fns .f_is_blank) [dVar 3])) (sAug .Add 1 (dLit (.int 1))) (sIf (tAnds [tCmp .Eq (dVar 3) (dLit (.str [92])), tCmp .Eq (dSlice (dVar 0) (some (dBin .Add (dVar 1) (dLit (.int 1)))) (some (dBin .Add (dVar 1) (dLit (.int 2))))) (dLit (.str [10]))]) (sAug .Add 1 (dLit (.int 2))) (sIf (tCmp .Eq (dVar 3) (dLit (.str [35]))) (sWhile (tAnds [tCmp .Lt (dVar 1) (dVar 2), tCmp .NotEq (dIndex (dVar 0) (dVar 1)) (dLit (.str [10]))]) (sAug .Add 1 (dLit (.int 1)))) (sBrk)))))) (sRet (dVar 1)))
noncomputable def b_f_is_digit (fns : Fn → DF) : DS := sRet (dAnd (dTest (tCmp .Lt (dVar 1) (dCall bLen [dVar 0]))) (dTest (tChain .LtE .Lt (dLit (.int 0)) (dCall (fns .f_digit) [dIndex (dVar 0) (dVar 1)]) (dVar 2))))
noncomputable def b_f_run_end (fns : Fn → DF) : DS := sSeq (sWhile (tCmp .Lt (dVar 1) (dCall bLen [dVar 0])) (sIf (tOrs [tCmp .Eq (dIndex (dVar 0) (dVar 1)) (dLit (.str [95])), tVal (dCall (fns .f_is_digit) [dVar 0, dVar 1, dLit (.int 36)])]) (sAug .Add 1 (dLit (.int 1))) (sIf (tCmp .Eq (dSlice (dVar 0) (some (dVar 1)) (some (dBin .Add (dVar 1) (dLit (.int 2))))) (dLit (.str [58, 58]))) (sAug .Add 1 (dLit (.int 2))) (sBrk)))) (sRet (dVar 1))
noncomputable def b_f_is_word_op (fns : Fn → DF) : DS := sRet (dTest (tCmp .In (dVar 0) (dTup [dLit (.str [101, 113]), dLit (.str [110, 101]), dLit (.str [105, 110]), dLit (.str [110, 105]), dLit (.str [108, 116]), dLit (.str [108, 101]), dLit (.str [103, 116]), dLit (.str [103, 101])])))
noncomputable def b_f_is_float_at (fns : Fn → DF) : DS := sSeq (sSet 2 (dSlice (dVar 0) (some (dVar 1)) (some (dBin .Add (dVar 1) (dLit (.int 1)))))) (sSeq (sIf (tCmp .Eq (dVar 2) (dLit (.str [46]))) (sRet (dLit (.bool true))) (sNil)) (sSeq (sIf (tAnds [tCmp .NotEq (dVar 2) (dLit (.str [101])), tCmp .NotEq (dVar 2) (dLit (.str [69]))]) (sRet (dLit (.bool false))) (sNil)) (sSeq (sIf (tCmp .In (dSlice (dVar 0) (some (dBin .Add (dVar 1) (dLit (.int 1)))) (some (dBin .Add (dVar 1) (dLit (.int 2))))) (dTup [dLit (.str [43]), dLit (.str [45])])) (sAug .Add 1 (dLit (.int 1))) (sNil)) (sRet (dCall (fns .f_is_digit) [dVar 0, dBin .Add (dVar 1) (dLit (.int 1)), dLit (.int 10)])))))
noncomputable def b_f_number_token (fns : Fn → DF) : DS := sSeq (sSetT [2, 3] (dTup [dLit (.int 10), dVar 1])) (sSeq (sIf (tCmp .Eq (dIndex (dVar 0) (dVar 1)) (dLit (.str [48]))) (sSeq (sSet 4 (dCall (fns .f_base_of) [dSlice (dVar 0) (some (dBin .Add (dVar 1) (dLit (.int 1)))) (some (dBin .Add (dVar 1) (dLit (.int 2))))])) (sIf (tAnds [tCmp .Gt (dVar 4) (dLit (.int 0)), tVal (dCall (fns .f_is_digit) [dVar 0, dBin .Add (dVar 1) (dLit (.int 2)), dVar 4])]) (sSetT [2, 3] (dTup [dVar 4, dBin .Add (dVar 1) (dLit (.int 2))])) (sNil))) (sNil)) (sSeq (sSet 5 (dVar 3)) (sSeq (sWhile (tVal (dCall (fns .f_is_digit) [dVar 0, dVar 5, dVar 2])) (sAug .Add 5 (dLit (.int 1)))) (sSeq (sIf (tAnds [tCmp .Eq (dVar 3) (dVar 1), tVal (dCall (fns .f_is_float_at) [dVar 0, dVar 5])]) (sStuck) (sNil)) (sSeq (sSet 6 (dCall (fns .f_run_end) [dVar 0, dVar 5])) (sSeq (sIf (tAnds [tCmp .Gt (dVar 6) (dVar 5), tCmp .NotEq (dIndex (dVar 0) (dVar 5)) (dLit (.str [58])), tNot (tVal (dCall (fns .f_is_word_op) [dSlice (dVar 0) (some (dVar 5)) (some (dVar 6))]))]) (sRet (dTup [dLit (.str [119, 111, 114, 100]), dSlice (dVar 0) (some (dVar 1)) (some (dVar 6)), dVar 1, dVar 6])) (sNil)) (sRet (dTup [dLit (.str [110, 117, 109, 98, 101, 114]), dCall (fns .f_digits_value) [dSlice (dVar 0) (some (dVar 3)) (some (dVar 5)), dVar 2], dVar 1, dVar 5]))))))))
noncomputable def b_f_op_at (fns : Fn → DF) : DS := sSeq (sSet 2 (dSlice (dVar 0) (some (dVar 1)) (some (dBin .Add (dVar 1) (dLit (.int 2)))))) (sSeq (sIf (tCmp .In (dVar 2) (dTup [dLit (.str [42, 42]), dLit (.str [60, 60]), dLit (.str [62, 62]), dLit (.str [60, 61]), dLit (.str [62, 61]), dLit (.str [61, 61]), dLit (.str [33, 61]), dLit (.str [38, 38]), dLit (.str [124, 124])])) (sRet (dVar 2)) (sNil)) (sSeq (sIf (tCmp .In (dIndex (dVar 0) (dVar 1)) (dTup [dLit (.str [43]), dLit (.str [45]), dLit (.str [42]), dLit (.str [47]), dLit (.str [37]), dLit (.str [126]), dLit (.str [33]), dLit (.str [60]), dLit (.str [62]), dLit (.str [38]), dLit (.str [94]), dLit (.str [124]), dLit (.str [63]), dLit (.str [58])])) (sRet (dIndex (dVar 0) (dVar 1))) (sNil)) (sRet (dLit (.str [])))))
noncomputable def b_f_sign_token (fns : Fn → DF) : DS := sSeq (sSet 2 (dCall (fns .f_op_at) [dVar 0, dVar 1])) (sSeq (sIf (tCmp .NotEq (dVar 2) (dLit (.str []))) (sRet (dTup [dLit (.str [111, 112]), dVar 2, dVar 1, dBin .Add (dVar 1) (dCall bLen [dVar 2])])) (sNil)) (sSeq (sIf (tVal (dCall (fns .f_is_digit) [dVar 0, dVar 1, dLit (.int 10)])) (sRet (dCall (fns .f_number_token) [dVar 0, dVar 1])) (sNil)) (sSeq (sSet 3 (dIndex (dVar 0) (dVar 1))) (sSeq (sIf (tOrs [tCmp .Eq (dVar 3) (dLit (.str [95])), tVal (dCall (fns .f_is_digit) [dVar 0, dVar 1, dLit (.int 36)])]) (sSeq (sSet 4 (dCall (fns .f_run_end) [dVar 0, dVar 1])) (sSeq (sSet 5 (dSlice (dVar 0) (some (dVar 1)) (some (dVar 4)))) (sRet (dTup [dIf (tVal (dCall (fns .f_is_word_op) [dVar 5])) (dLit (.str [111, 112])) (dLit (.str [119, 111, 114, 100])), dVar 5, dVar 1, dVar 4])))) (sNil)) (sSeq (sIf (tAnds [tCmp .Eq (dVar 3) (dLit (.str [46])), tVal (dCall (fns .f_is_digit) [dVar 0, dBin .Add (dVar 1) (dLit (.int 1)), dLit (.int 10)])]) (sStuck) (sNil)) (sSeq (sIf (tCmp .Eq (dVar 3) (dLit (.str [61]))) (sStuck) (sNil)) (sStuck)))))))
noncomputable def b_f_token_at (fns : Fn → DF) : DS := sSeq (sSet 2 (dIndex (dVar 0) (dVar 1))) (sSeq (sIf (tCmp .Eq (dVar 2) (dLit (.str [36]))) (sSeq (sSetT [3, 4] (dCall (fns .f_variable) [dVar 0, dVar 1])) (sSeq (sIf (tCmp .Eq (dIndex (dVar 3) (dLit (.int 0))) (dLit (.str [116, 101, 120, 116]))) (sStuck) (sNil)) (sRet (dTup [dLit (.str [112, 97, 114, 116, 115]), dTup [dVar 3], dVar 1, dVar 4])))) (sNil)) (sSeq (sIf (tCmp .Eq (dVar 2) (dLit (.str [91]))) (sSeq (sSetT [5, 4] (dCall (fns .f_brackets) [dVar 0, dVar 1])) (sRet (dTup [dLit (.str [112, 97, 114, 116, 115]), dTup [dTup [dLit (.str [99, 109, 100]), dVar 5]], dVar 1, dVar 4]))) (sNil)) (sSeq (sIf (tCmp .Eq (dVar 2) (dLit (.str [34]))) (sSeq (sSetT [6, 4] (dCall (fns .f_parts_until) [dVar 0, dBin .Add (dVar 1) (dLit (.int 1)), dTup [dLit (.str [34])]])) (sSeq (sIf (tCmp .GtE (dVar 4) (dCall bLen [dVar 0])) (sStuck) (sNil)) (sRet (dTup [dLit (.str [112, 97, 114, 116, 115]), dVar 6, dVar 1, dBin .Add (dVar 4) (dLit (.int 1))])))) (sNil)) (sSeq (sIf (tCmp .Eq (dVar 2) (dLit (.str [123]))) (sSeq (sSetT [7, 4] (dCall (fns .f_braces) [dVar 0, dVar 1])) (sRet (dTup [dLit (.str [116, 101, 120, 116]), dVar 7, dVar 1, dVar 4]))) (sNil)) (sSeq (sIf (tCmp .In (dVar 2) (dTup [dLit (.str [40]), dLit (.str [41]), dLit (.str [44])])) (sRet (dTup [dVar 2, dVar 2, dVar 1, dBin .Add (dVar 1) (dLit (.int 1))])) (sNil)) (sRet (dCall (fns .f_sign_token) [dVar 0, dVar 1])))))))
noncomputable def b_f_lex (fns : Fn → DF) : DS := sSeq (sSet 1 (dList [])) (sSeq (sSet 2 (dCall (fns .f_skip_space) [dVar 0, dLit (.int 0)])) (sSeq (sWhile (tCmp .Lt (dVar 2) (dCall bLen [dVar 0])) (sSeq (sSet 3 (dCall (fns .f_token_at) [dVar 0, dVar 2])) (sSeq (sExpr (dMeth kList bAppend (dVar 1) [dVar 3])) (sSet 2 (dCall (fns .f_skip_space) [dVar 0, dIndex (dVar 3) (dLit (.int 3))]))))) (sSeq (sExpr (dMeth kList bAppend (dVar 1) [dTup [dLit (.str [101, 110, 100]), dLit (.str []), dVar 2, dVar 2]])) (sRet (dVar 1)))))
noncomputable def b_f_levels (fns : Fn → DF) : DS := sRet (dTable [([63], 1), ([124, 124], 2), ([38, 38], 3), ([124], 4), ([94], 5), ([38], 6), ([61, 61], 7), ([33, 61], 7), ([101, 113], 7), ([110, 101], 7), ([105, 110], 7), ([110, 105], 7), ([60], 8), ([62], 8), ([60, 61], 8), ([62, 61], 8), ([108, 116], 8), ([108, 101], 8), ([103, 116], 8), ([103, 101], 8), ([60, 60], 9), ([62, 62], 9), ([43], 10), ([45], 10), ([42], 11), ([47], 11), ([37], 11), ([42, 42], 12)])
noncomputable def b_f_is_bare (fns : Fn → DF) : DS := sSeq (sIf (tOrs [tCmp .NotEq (dMeth kInst (fns .m_sort) (dVar 0) []) (dLit (.str [119, 111, 114, 100])), tCmp .Eq (dIndex (dIndex (dAttr 1 (dVar 0)) (dBin .Add (dAttr 3 (dVar 0)) (dLit (.int 1)))) (dLit (.int 0))) (dLit (.str [40]))]) (sRet (dLit (.bool false))) (sNil)) (sRet (dTest (tCmp .Is (dCall (fns .f_bool_of) [dMeth kInst (fns .m_value) (dVar 0) []]) (dLit .none))))
noncomputable def b_f_is_colon (fns : Fn → DF) : DS := sRet (dAnd (dTest (tCmp .Eq (dMeth kInst (fns .m_sort) (dVar 0) []) (dLit (.str [111, 112])))) (dTest (tCmp .Eq (dMeth kInst (fns .m_value) (dVar 0) []) (dLit (.str [58])))))
noncomputable def b_f_close (fns : Fn → DF) : DS := sSeq (sIf (tCmp .NotEq (dMeth kInst (fns .m_sort) (dVar 0) []) (dLit (.str [41]))) (sStuck) (sNil)) (sExpr (dMeth kInst (fns .m_take) (dVar 0) []))
noncomputable def b_f_call_tree (fns : Fn → DF) : DS := sSeq (sExpr (dMeth kInst (fns .m_take) (dVar 0) [])) (sSeq (sSet 2 (dList [])) (sSeq (sIf (tCmp .NotEq (dMeth kInst (fns .m_sort) (dVar 0) []) (dLit (.str [41]))) (sSeq (sExpr (dMeth kList bAppend (dVar 2) [dCall (fns .f_climb) [dVar 0, dLit (.int 1)]])) (sWhile (tCmp .Eq (dMeth kInst (fns .m_sort) (dVar 0) []) (dLit (.str [44]))) (sSeq (sExpr (dMeth kInst (fns .m_take) (dVar 0) [])) (sExpr (dMeth kList bAppend (dVar 2) [dCall (fns .f_climb) [dVar 0, dLit (.int 1)]]))))) (sNil)) (sSeq (sExpr (dCall (fns .f_close) [dVar 0, dTup [dLit (.str [41]), dLit (.str [44])]])) (sRet (dTup [dLit (.str [99, 97, 108, 108]), dVar 1, dCall bTuple [dVar 2]])))))
noncomputable def b_f_parts_tree (fns : Fn → DF) : DS := sSeq (sIf (tCmp .Eq (dCall bLen [dVar 0]) (dLit (.int 0))) (sRet (dTup [dLit (.str [116, 101, 120, 116]), dLit (.str [])])) (sNil)) (sSeq (sIf (tAnds [tCmp .Eq (dCall bLen [dVar 0]) (dLit (.int 1)), tCmp .Eq (dIndex (dIndex (dVar 0) (dLit (.int 0))) (dLit (.int 0))) (dLit (.str [116, 101, 120, 116]))]) (sRet (dTup [dLit (.str [116, 101, 120, 116]), dIndex (dIndex (dVar 0) (dLit (.int 0))) (dLit (.int 1))])) (sNil)) (sRet (dTup [dLit (.str [112, 97, 114, 116, 115]), dVar 0])))
noncomputable def b_f_operand (fns : Fn → DF) : DS := sSeq (sSet 1 (dMeth kInst (fns .m_sort) (dVar 0) [])) (sSeq (sIf (tCmp .In (dVar 1) (dTup [dLit (.str [111, 112]), dLit (.str [41]), dLit (.str [44]), dLit (.str [101, 110, 100])])) (sStuck) (sNil)) (sSeq (sIf (tVal (dCall (fns .f_is_bare) [dVar 0])) (sStuck) (sNil)) (sSeq (sSet 2 (dMeth kInst (fns .m_take) (dVar 0) [])) (sSeq (sIf (tCmp .Eq (dVar 1) (dLit (.str [110, 117, 109, 98, 101, 114]))) (sRet (dTup [dLit (.str [110, 117, 109]), dVar 2])) (sNil)) (sSeq (sIf (tCmp .Eq (dVar 1) (dLit (.str [112, 97, 114, 116, 115]))) (sRet (dCall (fns .f_parts_tree) [dVar 2])) (sNil)) (sSeq (sIf (tCmp .Eq (dVar 1) (dLit (.str [40]))) (sSeq (sSet 3 (dCall (fns .f_climb) [dVar 0, dLit (.int 1)])) (sSeq (sExpr (dCall (fns .f_close) [dVar 0, dTup [dLit (.str [41])]])) (sRet (dVar 3)))) (sNil)) (sSeq (sIf (tAnds [tCmp .Eq (dVar 1) (dLit (.str [119, 111, 114, 100])), tCmp .Eq (dMeth kInst (fns .m_sort) (dVar 0) []) (dLit (.str [40]))]) (sRet (dCall (fns .f_call_tree) [dVar 0, dVar 2])) (sNil)) (sRet (dTup [dLit (.str [116, 101, 120, 116]), dVar 2])))))))))
noncomputable def b_f_prefixed (fns : Fn → DF) : DS := sSeq (sSet 1 (dList [])) (sSeq (sWhile (tAnds [tCmp .Eq (dMeth kInst (fns .m_sort) (dVar 0) []) (dLit (.str [111, 112])), tCmp .In (dMeth kInst (fns .m_value) (dVar 0) []) (dTup [dLit (.str [45]), dLit (.str [43]), dLit (.str [126]), dLit (.str [33])])]) (sExpr (dMeth kList bAppend (dVar 1) [dMeth kInst (fns .m_take) (dVar 0) []]))) (sSeq (sSet 2 (dCall (fns .f_operand) [dVar 0])) (sSeq (sWhile (tVal (dVar 1)) (sSet 2 (dTup [dLit (.str [117, 110]), dMeth kList bPop (dVar 1) [], dVar 2]))) (sRet (dVar 2)))))
noncomputable def b_f_choice (fns : Fn → DF) : DS := sSeq (sSet 2 (dCall (fns .f_climb) [dVar 0, dLit (.int 1)])) (sSeq (sIf (tCmp .In (dMeth kInst (fns .m_sort) (dVar 0) []) (dTup [dLit (.str [101, 110, 100]), dLit (.str [41]), dLit (.str [44])])) (sStuck) (sNil)) (sSeq (sIf (tNot (tVal (dCall (fns .f_is_colon) [dVar 0]))) (sStuck) (sNil)) (sSeq (sExpr (dMeth kInst (fns .m_take) (dVar 0) [])) (sRet (dTup [dLit (.str [105, 102]), dVar 1, dVar 2, dCall (fns .f_climb) [dVar 0, dLit (.int 1)]])))))
noncomputable def b_f_joined (fns : Fn → DF) : DS := sSeq (sIf (tCmp .Eq (dVar 1) (dLit (.str [42, 42]))) (sRet (dTup [dLit (.str [98, 105, 110]), dVar 1, dVar 3, dCall (fns .f_climb) [dVar 0, dVar 2]])) (sNil)) (sSeq (sSet 4 (dCall (fns .f_climb) [dVar 0, dBin .Add (dVar 2) (dLit (.int 1))])) (sSeq (sIf (tCmp .Eq (dVar 1) (dLit (.str [38, 38]))) (sRet (dTup [dLit (.str [97, 110, 100]), dVar 3, dVar 4])) (sNil)) (sSeq (sIf (tCmp .Eq (dVar 1) (dLit (.str [124, 124]))) (sRet (dTup [dLit (.str [111, 114]), dVar 3, dVar 4])) (sNil)) (sRet (dTup [dLit (.str [98, 105, 110]), dVar 1, dVar 3, dVar 4])))))
noncomputable def b_f_climb (fns : Fn → DF) : DS := sSeq (sSet 2 (dCall (fns .f_prefixed) [dVar 0])) (sSeq (sSet 3 (dMeth kInst (fns .m_level) (dVar 0) [])) (sSeq (sWhile (tCmp .GtE (dVar 3) (dVar 1)) (sSeq (sSet 4 (dMeth kInst (fns .m_take) (dVar 0) [])) (sSeq (sIf (tCmp .Eq (dVar 4) (dLit (.str [63]))) (sSet 2 (dCall (fns .f_choice) [dVar 0, dVar 2])) (sSet 2 (dCall (fns .f_joined) [dVar 0, dVar 4, dVar 3, dVar 2]))) (sSet 3 (dMeth kInst (fns .m_level) (dVar 0) []))))) (sRet (dVar 2))))
noncomputable def b_f_parse_expr (fns : Fn → DF) : DS := sSeq (sSet 1 (dCall (fns .cls) [dVar 0])) (sSeq (sSet 2 (dCall (fns .f_climb) [dVar 1, dLit (.int 1)])) (sSeq (sIf (tCmp .NotEq (dMeth kInst (fns .m_sort) (dVar 1) []) (dLit (.str [101, 110, 100]))) (sStuck) (sNil)) (sRet (dVar 2))))
noncomputable def b_f_law_draws (fns : Fn → DF) : DS := sSeq (sSet 1 (dList [dLit (.int 9), dLit (.int 173), dLit (.int 2)])) (sSeq (sSet 1 (dBin .Add (dVar 1) (dList [dLit (.int 8), dLit (.int 7), dLit (.int 124), dLit (.int 55), dLit (.int 3), dLit (.int 2100), dLit (.int 55), dLit (.int 2), dLit (.int 9310), dLit (.int 15), dLit (.int 1), dLit (.int 15), dLit (.int 2420), dLit (.int 0), dLit (.int 33), dLit (.int 196), dLit (.int 21), dLit (.int 11)]))) (sSeq (sSet 1 (dBin .Add (dVar 1) (dList [dLit (.int 26), dLit (.int 4), dLit (.int 12), dLit (.int 8), dLit (.int 300), dLit (.int 600), dLit (.int 0), dLit (.int 89), dLit (.int 17), dLit (.int 22), dLit (.int 31), dLit (.int 900), dLit (.int 32)]))) (sRet (dRev (dComp (iRange (dCall bLen [dVar 1])) [1, 0] (dBin .Add (dIndex (dVar 0) (dVar 2)) (dIf (tCmp .Lt (dVar 2) (dCall bLen [dVar 1])) (dIndex (dVar 1) (dVar 2)) (dLit (.int 0)))))))))
noncomputable def b_f_law_between (fns : Fn → DF) : DS := sRet (dIndex (dTup [dLit (.str [43]), dLit (.str [45]), dLit (.str [42]), dLit (.str [47]), dLit (.str [37]), dLit (.str [42, 42]), dLit (.str [60, 60]), dLit (.str [62, 62]), dLit (.str [60]), dLit (.str [62]), dLit (.str [60, 61]), dLit (.str [62, 61]), dLit (.str [61, 61]), dLit (.str [33, 61]), dLit (.str [38]), dLit (.str [94]), dLit (.str [124]), dLit (.str [101, 113]), dLit (.str [110, 101]), dLit (.str [105, 110]), dLit (.str [110, 105]), dLit (.str [108, 116]), dLit (.str [108, 101]), dLit (.str [103, 116]), dLit (.str [103, 101])]) (dBin .Mod (dVar 0) (dLit (.int 25))))
noncomputable def b_f_law_hold (fns : Fn → DF) : DS := sSeq (sIf (tCmp .In (dIndex (dVar 0) (dLit (.int 0))) (dTup [dLit (.str [108, 101, 97, 102]), dLit (.str [117, 110]), dLit (.str [99, 97, 108, 108])])) (sRet (dLit (.int 13))) (sNil)) (sSeq (sIf (tCmp .NotEq (dIndex (dVar 0) (dLit (.int 0))) (dLit (.str [98, 105, 110]))) (sRet (dIndex (dDict [[105, 102], [111, 114], [97, 110, 100]] [dLit (.int 1), dLit (.int 2), dLit (.int 3)]) (dIndex (dVar 0) (dLit (.int 0))))) (sNil)) (sSeq (sSet 1 (dTup [dTup [dLit (.str [124])], dTup [dLit (.str [94])], dTup [dLit (.str [38])], dTup [dLit (.str [61, 61]), dLit (.str [33, 61]), dLit (.str [101, 113]), dLit (.str [110, 101]), dLit (.str [105, 110]), dLit (.str [110, 105])], dTup [dLit (.str [60]), dLit (.str [62]), dLit (.str [60, 61]), dLit (.str [62, 61]), dLit (.str [108, 116]), dLit (.str [103, 116]), dLit (.str [108, 101]), dLit (.str [103, 101])], dTup [dLit (.str [60, 60]), dLit (.str [62, 62])], dTup [dLit (.str [43]), dLit (.str [45])], dTup [dLit (.str [42]), dLit (.str [47]), dLit (.str [37])], dTup [dLit (.str [42, 42])]])) (sRet (dBin .Add (dLit (.int 4)) (dMeth kList bIndexTrue (dComp (iVal (dVar 1)) [0] (dTest (tCmp .In (dIndex (dVar 0) (dLit (.int 1))) (dVar 1)))) [dLit (.bool true)])))))
noncomputable def b_f_law_number (fns : Fn → DF) : DS := sSeq (sSetT [1, 2] (dIndex (dTup [dTup [dLit (.int 10), dLit (.str [])], dTup [dLit (.int 16), dLit (.str [120])], dTup [dLit (.int 8), dLit (.str [111])], dTup [dLit (.int 2), dLit (.str [98])], dTup [dLit (.int 10), dLit (.str [100])]]) (dBin .Mod (dVar 0) (dLit (.int 5))))) (sSeq (sSet 3 (dBin .Mod (dBin .FloorDiv (dVar 0) (dLit (.int 30))) (dBin .Pow (dLit (.int 10)) (dLit (.int 12))))) (sSeq (sSetT [4, 5] (dTup [dVar 3, dLit (.str [])])) (sSeq (sWhile (tOrs [tCmp .Gt (dVar 4) (dLit (.int 0)), tCmp .Eq (dVar 5) (dLit (.str []))]) (sSeq (sSet 5 (dBin .Add (dIndex (dLit (.str [48, 49, 50, 51, 52, 53, 54, 55, 56, 57, 97, 98, 99, 100, 101, 102])) (dBin .Mod (dVar 4) (dVar 1))) (dVar 5))) (sSet 4 (dBin .FloorDiv (dVar 4) (dVar 1))))) (sSeq (sSet 6 (dBin .Add (dBin .Add (dIf (tCmp .NotEq (dVar 2) (dLit (.str []))) (dBin .Add (dLit (.str [48])) (dVar 2)) (dLit (.str []))) (dBin .Mult (dLit (.str [48])) (dBin .Mod (dBin .FloorDiv (dVar 0) (dLit (.int 5))) (dLit (.int 3))))) (dVar 5))) (sRet (dTup [dLit (.str [108, 101, 97, 102]), dTup [dLit (.str [110, 117, 109]), dVar 3], dIf (tCmp .Eq (dBin .Mod (dBin .FloorDiv (dVar 0) (dLit (.int 15))) (dLit (.int 2))) (dLit (.int 1))) (dMeth kStr bUpper (dVar 6) []) (dVar 6)]))))))
noncomputable def b_f_law_text (fns : Fn → DF) : DS := sSeq (sSet 1 (dBin .FloorDiv (dVar 0) (dLit (.int 3)))) (sSeq (sIf (tCmp .Eq (dBin .Mod (dVar 0) (dLit (.int 3))) (dLit (.int 0))) (sSeq (sSet 2 (dIndex (dTup [dLit (.str [120, 32, 121]), dLit (.str []), dLit (.str [97, 123, 98, 125, 99]), dLit (.str [36, 118, 32, 91, 113, 93]), dLit (.str [35, 41]), dLit (.str [49, 32, 50])]) (dBin .Mod (dVar 1) (dLit (.int 6))))) (sRet (dTup [dLit (.str [108, 101, 97, 102]), dTup [dLit (.str [116, 101, 120, 116]), dVar 2], dBin .Add (dBin .Add (dLit (.str [123])) (dVar 2)) (dLit (.str [125]))]))) (sNil)) (sSeq (sIf (tCmp .Eq (dBin .Mod (dVar 0) (dLit (.int 3))) (dLit (.int 1))) (sSeq (sSet 2 (dIndex (dTup [dLit (.str [120, 32, 121]), dLit (.str []), dLit (.str [97, 59, 41]), dLit (.str [123]), dLit (.str [55]), dLit (.str [35])]) (dBin .Mod (dVar 1) (dLit (.int 6))))) (sRet (dTup [dLit (.str [108, 101, 97, 102]), dTup [dLit (.str [116, 101, 120, 116]), dVar 2], dBin .Add (dBin .Add (dLit (.str [34])) (dVar 2)) (dLit (.str [34]))]))) (sNil)) (sSeq (sSet 2 (dIndex (dTup [dLit (.str [116, 114, 117, 101]), dLit (.str [116, 82, 117]), dLit (.str [116]), dLit (.str [121, 101, 115]), dLit (.str [89]), dLit (.str [111, 110]), dLit (.str [79, 78]), dLit (.str [102, 97, 108, 115, 101]), dLit (.str [70]), dLit (.str [110, 111]), dLit (.str [110]), dLit (.str [111, 102, 102]), dLit (.str [111, 102]), dLit (.str [111, 70, 70])]) (dBin .Mod (dVar 1) (dLit (.int 14))))) (sRet (dTup [dLit (.str [108, 101, 97, 102]), dTup [dLit (.str [116, 101, 120, 116]), dVar 2], dVar 2])))))
noncomputable def b_f_law_parts (fns : Fn → DF) : DS := sSeq (sSetT [1, 2] (dIndex (dTup [dTup [dLit (.str [36, 118]), dTup [dTup [dLit (.str [118, 97, 114]), dLit (.str [118]), dLit .none]]], dTup [dLit (.str [36, 123, 97, 32, 98, 125]), dTup [dTup [dLit (.str [118, 97, 114]), dLit (.str [97, 32, 98]), dLit .none]]], dTup [dLit (.str [36, 97, 40, 49, 41]), dTup [dTup [dLit (.str [118, 97, 114]), dLit (.str [97]), dTup [dTup [dLit (.str [116, 101, 120, 116]), dLit (.str [49])]]]]], dTup [dLit (.str [36, 97, 40, 36, 98, 41]), dTup [dTup [dLit (.str [118, 97, 114]), dLit (.str [97]), dTup [dTup [dLit (.str [118, 97, 114]), dLit (.str [98]), dLit .none]]]]], dTup [dLit (.str [36, 58, 58, 120]), dTup [dTup [dLit (.str [118, 97, 114]), dLit (.str [58, 58, 120]), dLit .none]]], dTup [dLit (.str [91, 102, 32, 49, 93]), dTup [dTup [dLit (.str [99, 109, 100]), dLit (.str [102, 32, 49])]]], dTup [dLit (.str [91, 103, 32, 91, 104, 93, 93]), dTup [dTup [dLit (.str [99, 109, 100]), dLit (.str [103, 32, 91, 104, 93])]]], dTup [dLit (.str [34, 97, 36, 118, 34]), dTup [dTup [dLit (.str [116, 101, 120, 116]), dLit (.str [97])], dTup [dLit (.str [118, 97, 114]), dLit (.str [118]), dLit .none]]], dTup [dLit (.str [34, 36, 118, 36, 118, 34]), dTup [dTup [dLit (.str [118, 97, 114]), dLit (.str [118]), dLit .none], dTup [dLit (.str [118, 97, 114]), dLit (.str [118]), dLit .none]]], dTup [dLit (.str [36, 97, 40, 41]), dTup [dTup [dLit (.str [118, 97, 114]), dLit (.str [97]), dTup []]]]]) (dBin .Mod (dVar 0) (dLit (.int 10))))) (sRet (dTup [dLit (.str [108, 101, 97, 102]), dTup [dLit (.str [112, 97, 114, 116, 115]), dVar 2], dVar 1]))
noncomputable def b_f_law_node (fns : Fn → DF) : DS := sSeq (sSet 2 (dIf (tCmp .NotEq (dVar 0) (dList [])) (dMeth kList bPop (dVar 0) []) (dLit (.int 0)))) (sSeq (sSetT [3, 4, 5] (dTup [dBin .Mod (dVar 2) (dLit (.int 10)), dBin .FloorDiv (dVar 2) (dLit (.int 10)), dBin .Sub (dVar 1) (dLit (.int 1))])) (sSeq (sIf (tOrs [tCmp .Eq (dVar 1) (dLit (.int 0)), tCmp .Lt (dVar 3) (dLit (.int 3))]) (sRet (dIf (tCmp .Eq (dBin .Mod (dVar 3) (dLit (.int 3))) (dLit (.int 0))) (dCall (fns .f_law_number) [dVar 4]) (dIf (tCmp .Eq (dBin .Mod (dVar 3) (dLit (.int 3))) (dLit (.int 1))) (dCall (fns .f_law_text) [dVar 4]) (dCall (fns .f_law_parts) [dVar 4])))) (sNil)) (sSeq (sIf (tCmp .Eq (dVar 3) (dLit (.int 3))) (sRet (dTup [dLit (.str [117, 110]), dIndex (dTup [dLit (.str [45]), dLit (.str [43]), dLit (.str [126]), dLit (.str [33])]) (dBin .Mod (dVar 4) (dLit (.int 4))), dCall (fns .f_law_node) [dVar 0, dVar 5]])) (sNil)) (sSeq (sIf (tCmp .Eq (dVar 3) (dLit (.int 9))) (sSeq (sSet 6 (dIndex (dTup [dLit (.str [109, 97, 120]), dLit (.str [102, 58, 58, 103]), dLit (.str [110]), dLit (.str [116, 114, 117, 101])]) (dBin .Mod (dVar 4) (dLit (.int 4))))) (sRet (dTup [dLit (.str [99, 97, 108, 108]), dVar 6, dComp (iRange (dBin .Mod (dBin .FloorDiv (dVar 4) (dLit (.int 4))) (dLit (.int 4)))) [0, 5] (dCall (fns .f_law_node) [dVar 0, dVar 1])]))) (sNil)) (sSeq (sSet 7 (dCall (fns .f_law_node) [dVar 0, dVar 5])) (sSeq (sSet 8 (dCall (fns .f_law_node) [dVar 0, dVar 5])) (sSeq (sIf (tCmp .Lt (dVar 3) (dLit (.int 7))) (sRet (dTup [dLit (.str [98, 105, 110]), dCall (fns .f_law_between) [dVar 4], dVar 7, dVar 8])) (sNil)) (sSeq (sIf (tCmp .Eq (dVar 3) (dLit (.int 7))) (sRet (dTup [dIndex (dTup [dLit (.str [97, 110, 100]), dLit (.str [111, 114])]) (dBin .Mod (dVar 4) (dLit (.int 2))), dVar 7, dVar 8])) (sNil)) (sRet (dTup [dLit (.str [105, 102]), dVar 7, dVar 8, dCall (fns .f_law_node) [dVar 0, dVar 5]]))))))))))
noncomputable def b_f_law_tree (fns : Fn → DF) : DS := sSeq (sSet 1 (dIndex (dVar 0) (dLit (.int 0)))) (sSeq (sIf (tCmp .Eq (dVar 1) (dLit (.str [108, 101, 97, 102]))) (sRet (dIndex (dVar 0) (dLit (.int 1)))) (sNil)) (sSeq (sIf (tCmp .Eq (dVar 1) (dLit (.str [99, 97, 108, 108]))) (sRet (dTup [dLit (.str [99, 97, 108, 108]), dIndex (dVar 0) (dLit (.int 1)), dCall bTuple [dComp (iVal (dIndex (dVar 0) (dLit (.int 2)))) [] (dCall (fns .f_law_tree) [dVar 0])]])) (sNil)) (sSeq (sIf (tCmp .In (dVar 1) (dTup [dLit (.str [117, 110]), dLit (.str [98, 105, 110])])) (sRet (dBin .Add (dSlice (dVar 0) none (some (dLit (.int 2)))) (dCall bTuple [dComp (iVal (dSlice (dVar 0) (some (dLit (.int 2))) none)) [] (dCall (fns .f_law_tree) [dVar 0])]))) (sNil)) (sRet (dBin .Add (dTup [dVar 1]) (dCall bTuple [dComp (iVal (dSlice (dVar 0) (some (dLit (.int 1))) none)) [] (dCall (fns .f_law_tree) [dVar 0])]))))))
noncomputable def b_f_law_pieces (fns : Fn → DF) : DS := sSeq (sSetT [1, 2] (dTup [dIndex (dVar 0) (dLit (.int 0)), dCall (fns .f_law_hold) [dVar 0]])) (sSeq (sIf (tCmp .Eq (dVar 1) (dLit (.str [108, 101, 97, 102]))) (sRet (dList [dIndex (dVar 0) (dLit (.int 2))])) (sNil)) (sSeq (sIf (tCmp .Eq (dVar 1) (dLit (.str [117, 110]))) (sRet (dList [dIndex (dVar 0) (dLit (.int 1)), dTup [dIndex (dVar 0) (dLit (.int 2)), dLit (.int 13)]])) (sNil)) (sSeq (sIf (tCmp .Eq (dVar 1) (dLit (.str [99, 97, 108, 108]))) (sSeq (sSet 3 (dList [])) (sSeq (sFor (iVal (dIndex (dVar 0) (dLit (.int 2)))) 4 (sSet 3 (dBin .Add (dVar 3) (dList [dLit (.str [44]), dTup [dVar 4, dLit (.int 1)]])))) (sRet (dBin .Add (dBin .Add (dList [dIndex (dVar 0) (dLit (.int 1)), dLit (.str [40])]) (dSlice (dVar 3) (some (dLit (.int 1))) none)) (dList [dLit (.str [41])]))))) (sNil)) (sSeq (sIf (tCmp .Eq (dVar 1) (dLit (.str [105, 102]))) (sRet (dList [dTup [dIndex (dVar 0) (dLit (.int 1)), dLit (.int 2)], dLit (.str [63]), dTup [dIndex (dVar 0) (dLit (.int 2)), dLit (.int 1)], dLit (.str [58]), dTup [dIndex (dVar 0) (dLit (.int 3)), dLit (.int 1)]])) (sNil)) (sSeq (sIf (tAnds [tCmp .Eq (dVar 1) (dLit (.str [98, 105, 110])), tCmp .Eq (dIndex (dVar 0) (dLit (.int 1))) (dLit (.str [42, 42]))]) (sRet (dList [dTup [dIndex (dVar 0) (dLit (.int 2)), dLit (.int 13)], dLit (.str [42, 42]), dTup [dIndex (dVar 0) (dLit (.int 3)), dLit (.int 12)]])) (sNil)) (sSeq (sSet 5 (dIf (tCmp .Eq (dVar 1) (dLit (.str [98, 105, 110]))) (dIndex (dVar 0) (dLit (.int 1))) (dIf (tCmp .Eq (dVar 1) (dLit (.str [97, 110, 100]))) (dLit (.str [38, 38])) (dLit (.str [124, 124]))))) (sRet (dList [dTup [dIndex (dVar 0) (dNeg (dLit (.int 2))), dVar 2], dVar 5, dTup [dIndex (dVar 0) (dNeg (dLit (.int 1))), dBin .Add (dVar 2) (dLit (.int 1))]]))))))))
noncomputable def b_f_law_put (fns : Fn → DF) : DS := sSeq (sSet 3 (dTest (tCmp .Lt (dCall (fns .f_law_hold) [dVar 1]) (dVar 2)))) (sSeq (sSet 4 (dBin .Add (dIf (tVal (dVar 3)) (dLit (.int 1)) (dLit (.int 0))) (dBin .Mod (dIndex (dVar 0) (dLit (.str [101, 120, 116, 114, 97, 115]))) (dLit (.int 2))))) (sSeq (sSetI (dVar 0) (dLit (.str [101, 120, 116, 114, 97, 115])) (dBin .FloorDiv (dIndex (dVar 0) (dLit (.str [101, 120, 116, 114, 97, 115]))) (dLit (.int 2)))) (sSeq (sSet 5 (dCall bLen [dIndex (dVar 0) (dLit (.str [116, 111, 107, 101, 110, 115]))])) (sSeq (sExpr (dMeth kList bExtend (dIndex (dVar 0) (dLit (.str [116, 111, 107, 101, 110, 115]))) [dBin .Mult (dList [dLit (.str [40])]) (dVar 4)])) (sSeq (sFor (iVal (dCall (fns .f_law_pieces) [dVar 1])) 6 (sIf (tVal (dIsStr (dVar 6))) (sExpr (dMeth kList bAppend (dIndex (dVar 0) (dLit (.str [116, 111, 107, 101, 110, 115]))) [dVar 6])) (sExpr (dCall (fns .f_law_put) [dVar 0, dIndex (dVar 6) (dLit (.int 0)), dIndex (dVar 6) (dLit (.int 1))])))) (sSeq (sIf (tVal (dVar 3)) (sExpr (dMeth kList bAppend (dIndex (dVar 0) (dLit (.str [112, 97, 105, 114, 115]))) [dTup [dVar 5, dCall bLen [dIndex (dVar 0) (dLit (.str [116, 111, 107, 101, 110, 115]))]]])) (sNil)) (sExpr (dMeth kList bExtend (dIndex (dVar 0) (dLit (.str [116, 111, 107, 101, 110, 115]))) [dBin .Mult (dList [dLit (.str [41])]) (dVar 4)]))))))))
noncomputable def b_f_law_is_wordlike (fns : Fn → DF) : DS := sRet (dOr (dMeth kStr bIsalnum (dVar 0) []) (dTest (tCmp .Eq (dVar 0) (dLit (.str [95])))))
noncomputable def b_f_law_joined (fns : Fn → DF) : DS := sSeq (sSet 2 (dLit (.str []))) (sSeq (sFor (iRange (dCall bLen [dVar 0])) 3 (sSeq (sSet 4 (dIndex (dTup [dLit (.str []), dLit (.str [32]), dLit (.str []), dLit (.str [10]), dLit (.str [9, 32]), dLit (.str [92, 10]), dLit (.str [35, 32, 41, 32, 91, 10]), dLit (.str []), dLit (.str [11, 12, 13])]) (dBin .Mod (dBin .Add (dBin .FloorDiv (dVar 1) (dBin .Pow (dLit (.int 9)) (dBin .Mod (dVar 3) (dLit (.int 8))))) (dVar 3)) (dLit (.int 9))))) (sSeq (sIf (tAnds [tCmp .Eq (dVar 4) (dLit (.str [])), tVal (dCall (fns .f_law_is_wordlike) [dSlice (dVar 2) (some (dNeg (dLit (.int 1)))) none]), tVal (dCall (fns .f_law_is_wordlike) [dIndex (dIndex (dVar 0) (dVar 3)) (dLit (.int 0))])]) (sSet 4 (dLit (.str [32]))) (sNil)) (sSet 2 (dBin .Add (dBin .Add (dVar 2) (dVar 4)) (dIndex (dVar 0) (dVar 3))))))) (sRet (dVar 2)))
noncomputable def b_f_law_told (fns : Fn → DF) : DS := sRet (dCall (fns .f_parse_expr) [dVar 0])
noncomputable def b_m_init (fns : Fn → DF) : DS := sSeq (sSetA 0 (dVar 0) (dVar 1)) (sSeq (sSetA 1 (dVar 0) (dCall (fns .f_lex) [dVar 1])) (sSeq (sSetA 2 (dVar 0) (dCall (fns .f_levels) [])) (sSetA 3 (dVar 0) (dLit (.int 0)))))
noncomputable def b_m_sort (fns : Fn → DF) : DS := sRet (dIndex (dIndex (dAttr 1 (dVar 0)) (dAttr 3 (dVar 0))) (dLit (.int 0)))
noncomputable def b_m_value (fns : Fn → DF) : DS := sRet (dIndex (dIndex (dAttr 1 (dVar 0)) (dAttr 3 (dVar 0))) (dLit (.int 1)))
noncomputable def b_m_take (fns : Fn → DF) : DS := sSeq (sAugA .Add 3 (dVar 0) (dLit (.int 1))) (sRet (dIndex (dIndex (dAttr 1 (dVar 0)) (dBin .Sub (dAttr 3 (dVar 0)) (dLit (.int 1)))) (dLit (.int 1))))
noncomputable def b_m_level (fns : Fn → DF) : DS := sSeq (sIf (tCmp .NotEq (dMeth kInst (fns .m_sort) (dVar 0) []) (dLit (.str [111, 112]))) (sRet (dLit (.int 0))) (sNil)) (sRet (dMeth kDict bDictGet (dAttr 2 (dVar 0)) [dMeth kInst (fns .m_value) (dVar 0) [], dLit (.int 0)]))
noncomputable def b_law (fns : Fn → DF) : DS := sSeq (sSet 0 (dSlice (dVar 0) none (some (dLit (.int 63))))) (sSeq (sSet 1 (dCall (fns .f_law_draws) [dVar 0])) (sSeq (sSetT [2, 3, 4] (dTup [dBin .Mod (dMeth kList bPop (dVar 1) []) (dBin .Pow (dLit (.int 2)) (dLit (.int 31))), dBin .Mod (dMeth kList bPop (dVar 1) []) (dBin .Pow (dLit (.int 9)) (dLit (.int 8))), dMeth kList bPop (dVar 1) []])) (sSeq (sSet 5 (dCall (fns .f_law_node) [dVar 1, dLit (.int 5)])) (sSeq (sSet 6 (dCall (fns .f_law_tree) [dVar 5])) (sSeq (sSet 7 (dDict [[116, 111, 107, 101, 110, 115], [112, 97, 105, 114, 115], [101, 120, 116, 114, 97, 115]] [dList [], dList [], dVar 2])) (sSeq (sExpr (dCall (fns .f_law_put) [dVar 7, dVar 5, dLit (.int 1)])) (sSeq (sSet 8 (dDict [[116, 111, 107, 101, 110, 115], [112, 97, 105, 114, 115], [101, 120, 116, 114, 97, 115]] [dList [], dList [], dLit (.int 0)])) (sSeq (sExpr (dCall (fns .f_law_put) [dVar 8, dVar 5, dLit (.int 1)])) (sSeq (sIf (tOrs [tCmp .NotEq (dCall (fns .f_law_told) [dCall (fns .f_law_joined) [dIndex (dVar 7) (dLit (.str [116, 111, 107, 101, 110, 115])), dVar 3]]) (dVar 6), tCmp .NotEq (dCall (fns .f_law_told) [dCall (fns .f_law_joined) [dIndex (dVar 8) (dLit (.str [116, 111, 107, 101, 110, 115])), dBin .FloorDiv (dVar 3) (dLit (.int 9))]]) (dVar 6)]) (sRet (dLit (.bool false))) (sNil)) (sSeq (sIf (tCmp .Eq (dIndex (dVar 8) (dLit (.str [112, 97, 105, 114, 115]))) (dList [])) (sRet (dLit (.bool true))) (sNil)) (sSeq (sSet 9 (dIndex (dIndex (dVar 8) (dLit (.str [112, 97, 105, 114, 115]))) (dBin .Mod (dVar 4) (dCall bLen [dIndex (dVar 8) (dLit (.str [112, 97, 105, 114, 115]))])))) (sSeq (sSet 10 (dComp (iRange (dCall bLen [dIndex (dVar 8) (dLit (.str [116, 111, 107, 101, 110, 115]))])) [9, 8] (dIf (tCmp .In (dVar 2) (dVar 0)) (dLit (.str [32])) (dIndex (dIndex (dVar 1) (dLit (.str [116, 111, 107, 101, 110, 115]))) (dVar 2))))) (sSeq (sSet 11 (dCall (fns .f_law_told) [dCall (fns .f_law_joined) [dVar 10, dVar 3]])) (sRet (dAnd (dTest (tCmp .NotEq (dIndex (dVar 11) (dLit (.int 0))) (dLit (.str [102, 97, 117, 108, 116])))) (dTest (tCmp .NotEq (dVar 11) (dVar 6))))))))))))))))))
section
variable (F : Fn → DF)
noncomputable def bodies : List DF := [dFn 1 0 (b_f_is_blank F), dFn 1 1 (b_f_digit F), dFn 2 3 (b_f_digits_value F), dFn 1 0 (b_f_base_of F), dFn 1 5 (b_f_whole_of F), dFn 1 3 (b_f_bool_of F), dFn 1 0 (b_f_is_gap F), dFn 2 0 (b_f_skip_gaps F), dFn 2 0 (b_f_skip_to_command F), dFn 2 0 (b_f_read_name F), dFn 2 4 (b_f_variable F), dFn 2 3 (b_f_brackets F), dFn 2 7 (b_f_braces F), dFn 3 7 (b_f_parts_until F), dFn 1 0 (b_f_bare_stops F), dFn 2 1 (b_f_is_expanded F), dFn 3 6 (b_f_word F), dFn 3 6 (b_f_command_at F), dFn 2 2 (b_f_skip_space F), dFn 3 0 (b_f_is_digit F), dFn 2 0 (b_f_run_end F), dFn 1 0 (b_f_is_word_op F), dFn 2 1 (b_f_is_float_at F), dFn 2 5 (b_f_number_token F), dFn 2 1 (b_f_op_at F), dFn 2 4 (b_f_sign_token F), dFn 2 6 (b_f_token_at F), dFn 1 3 (b_f_lex F), dFn 0 0 (b_f_levels F), dFn 1 0 (b_f_is_bare F), dFn 1 0 (b_f_is_colon F), dFn 2 0 (b_f_close F), dFn 2 1 (b_f_call_tree F), dFn 1 0 (b_f_parts_tree F), dFn 1 3 (b_f_operand F), dFn 1 2 (b_f_prefixed F), dFn 2 1 (b_f_choice F), dFn 4 1 (b_f_joined F), dFn 2 3 (b_f_climb F), dFn 1 2 (b_f_parse_expr F), dFn 1 1 (b_f_law_draws F), dFn 1 0 (b_f_law_between F), dFn 1 1 (b_f_law_hold F), dFn 1 6 (b_f_law_number F), dFn 1 2 (b_f_law_text F), dFn 1 2 (b_f_law_parts F), dFn 2 7 (b_f_law_node F), dFn 1 1 (b_f_law_tree F), dFn 1 5 (b_f_law_pieces F), dFn 3 4 (b_f_law_put F), dFn 1 0 (b_f_law_is_wordlike F), dFn 2 3 (b_f_law_joined F), dFn 1 0 (b_f_law_told F), dFn 2 0 (b_m_init F), dFn 1 0 (b_m_sort F), dFn 1 0 (b_m_value F), dFn 1 0 (b_m_take F), dFn 1 0 (b_m_level F), mkInst (F .m_init)]
noncomputable def bodyOf (g : Fn) : DF := (bodies F).getD g.n fun _ _ => none
@[simp] theorem bd_f_is_blank : bodyOf F .f_is_blank = dFn 1 0 (b_f_is_blank F) := rfl
@[simp] theorem bd_f_digit : bodyOf F .f_digit = dFn 1 1 (b_f_digit F) := rfl
@[simp] theorem bd_f_digits_value : bodyOf F .f_digits_value = dFn 2 3 (b_f_digits_value F) := rfl
@[simp] theorem bd_f_base_of : bodyOf F .f_base_of = dFn 1 0 (b_f_base_of F) := rfl
@[simp] theorem bd_f_whole_of : bodyOf F .f_whole_of = dFn 1 5 (b_f_whole_of F) := rfl
@[simp] theorem bd_f_bool_of : bodyOf F .f_bool_of = dFn 1 3 (b_f_bool_of F) := rfl
@[simp] theorem bd_f_is_gap : bodyOf F .f_is_gap = dFn 1 0 (b_f_is_gap F) := rfl
@[simp] theorem bd_f_skip_gaps : bodyOf F .f_skip_gaps = dFn 2 0 (b_f_skip_gaps F) := rfl
@[simp] theorem bd_f_skip_to_command : bodyOf F .f_skip_to_command = dFn 2 0 (b_f_skip_to_command F) := rfl
@[simp] theorem bd_f_read_name : bodyOf F .f_read_name = dFn 2 0 (b_f_read_name F) := rfl
@[simp] theorem bd_f_variable : bodyOf F .f_variable = dFn 2 4 (b_f_variable F) := rfl
@[simp] theorem bd_f_brackets : bodyOf F .f_brackets = dFn 2 3 (b_f_brackets F) := rfl
@[simp] theorem bd_f_braces : bodyOf F .f_braces = dFn 2 7 (b_f_braces F) := rfl
@[simp] theorem bd_f_parts_until : bodyOf F .f_parts_until = dFn 3 7 (b_f_parts_until F) := rfl
@[simp] theorem bd_f_bare_stops : bodyOf F .f_bare_stops = dFn 1 0 (b_f_bare_stops F) := rfl
@[simp] theorem bd_f_is_expanded : bodyOf F .f_is_expanded = dFn 2 1 (b_f_is_expanded F) := rfl
@[simp] theorem bd_f_word : bodyOf F .f_word = dFn 3 6 (b_f_word F) := rfl
@[simp] theorem bd_f_command_at : bodyOf F .f_command_at = dFn 3 6 (b_f_command_at F) := rfl
@[simp] theorem bd_f_skip_space : bodyOf F .f_skip_space = dFn 2 2 (b_f_skip_space F) := rfl
@[simp] theorem bd_f_is_digit : bodyOf F .f_is_digit = dFn 3 0 (b_f_is_digit F) := rfl
@[simp] theorem bd_f_run_end : bodyOf F .f_run_end = dFn 2 0 (b_f_run_end F) := rfl
@[simp] theorem bd_f_is_word_op : bodyOf F .f_is_word_op = dFn 1 0 (b_f_is_word_op F) := rfl
@[simp] theorem bd_f_is_float_at : bodyOf F .f_is_float_at = dFn 2 1 (b_f_is_float_at F) := rfl
@[simp] theorem bd_f_number_token : bodyOf F .f_number_token = dFn 2 5 (b_f_number_token F) := rfl
@[simp] theorem bd_f_op_at : bodyOf F .f_op_at = dFn 2 1 (b_f_op_at F) := rfl
@[simp] theorem bd_f_sign_token : bodyOf F .f_sign_token = dFn 2 4 (b_f_sign_token F) := rfl
@[simp] theorem bd_f_token_at : bodyOf F .f_token_at = dFn 2 6 (b_f_token_at F) := rfl
@[simp] theorem bd_f_lex : bodyOf F .f_lex = dFn 1 3 (b_f_lex F) := rfl
@[simp] theorem bd_f_levels : bodyOf F .f_levels = dFn 0 0 (b_f_levels F) := rfl
@[simp] theorem bd_f_is_bare : bodyOf F .f_is_bare = dFn 1 0 (b_f_is_bare F) := rfl
@[simp] theorem bd_f_is_colon : bodyOf F .f_is_colon = dFn 1 0 (b_f_is_colon F) := rfl
@[simp] theorem bd_f_close : bodyOf F .f_close = dFn 2 0 (b_f_close F) := rfl
@[simp] theorem bd_f_call_tree : bodyOf F .f_call_tree = dFn 2 1 (b_f_call_tree F) := rfl
@[simp] theorem bd_f_parts_tree : bodyOf F .f_parts_tree = dFn 1 0 (b_f_parts_tree F) := rfl
@[simp] theorem bd_f_operand : bodyOf F .f_operand = dFn 1 3 (b_f_operand F) := rfl
@[simp] theorem bd_f_prefixed : bodyOf F .f_prefixed = dFn 1 2 (b_f_prefixed F) := rfl
@[simp] theorem bd_f_choice : bodyOf F .f_choice = dFn 2 1 (b_f_choice F) := rfl
@[simp] theorem bd_f_joined : bodyOf F .f_joined = dFn 4 1 (b_f_joined F) := rfl
@[simp] theorem bd_f_climb : bodyOf F .f_climb = dFn 2 3 (b_f_climb F) := rfl
@[simp] theorem bd_f_parse_expr : bodyOf F .f_parse_expr = dFn 1 2 (b_f_parse_expr F) := rfl
@[simp] theorem bd_f_law_draws : bodyOf F .f_law_draws = dFn 1 1 (b_f_law_draws F) := rfl
@[simp] theorem bd_f_law_between : bodyOf F .f_law_between = dFn 1 0 (b_f_law_between F) := rfl
@[simp] theorem bd_f_law_hold : bodyOf F .f_law_hold = dFn 1 1 (b_f_law_hold F) := rfl
@[simp] theorem bd_f_law_number : bodyOf F .f_law_number = dFn 1 6 (b_f_law_number F) := rfl
@[simp] theorem bd_f_law_text : bodyOf F .f_law_text = dFn 1 2 (b_f_law_text F) := rfl
@[simp] theorem bd_f_law_parts : bodyOf F .f_law_parts = dFn 1 2 (b_f_law_parts F) := rfl
@[simp] theorem bd_f_law_node : bodyOf F .f_law_node = dFn 2 7 (b_f_law_node F) := rfl
@[simp] theorem bd_f_law_tree : bodyOf F .f_law_tree = dFn 1 1 (b_f_law_tree F) := rfl
@[simp] theorem bd_f_law_pieces : bodyOf F .f_law_pieces = dFn 1 5 (b_f_law_pieces F) := rfl
@[simp] theorem bd_f_law_put : bodyOf F .f_law_put = dFn 3 4 (b_f_law_put F) := rfl
@[simp] theorem bd_f_law_is_wordlike : bodyOf F .f_law_is_wordlike = dFn 1 0 (b_f_law_is_wordlike F) := rfl
@[simp] theorem bd_f_law_joined : bodyOf F .f_law_joined = dFn 2 3 (b_f_law_joined F) := rfl
@[simp] theorem bd_f_law_told : bodyOf F .f_law_told = dFn 1 0 (b_f_law_told F) := rfl
@[simp] theorem bd_m_init : bodyOf F .m_init = dFn 2 0 (b_m_init F) := rfl
@[simp] theorem bd_m_sort : bodyOf F .m_sort = dFn 1 0 (b_m_sort F) := rfl
@[simp] theorem bd_m_value : bodyOf F .m_value = dFn 1 0 (b_m_value F) := rfl
@[simp] theorem bd_m_take : bodyOf F .m_take = dFn 1 0 (b_m_take F) := rfl
@[simp] theorem bd_m_level : bodyOf F .m_level = dFn 1 0 (b_m_level F) := rfl
end
noncomputable def fn : Nat → Fn → DF
  | 0 => fun _ _ _ => none
  | n + 1 => bodyOf (fn n)
end Mine
set_option maxHeartbeats 8000000
namespace Mine
noncomputable def nms : List String := ["is_blank", "digit", "digits_value", "base_of", "whole_of", "bool_of", "is_gap", "skip_gaps", "skip_to_command", "read_name", "variable", "brackets", "braces", "parts_until", "bare_stops", "is_expanded", "word", "command_at", "skip_space", "is_digit", "run_end", "is_word_op", "is_float_at", "number_token", "op_at", "sign_token", "token_at", "lex", "levels", "is_bare", "is_colon", "close", "call_tree", "parts_tree", "operand", "prefixed", "choice", "joined", "climb", "parse_expr", "_law_draws", "_law_between", "_law_hold", "_law_number", "_law_text", "_law_parts", "_law_node", "_law_tree", "_law_pieces", "_law_put", "_law_is_wordlike", "_law_joined", "_law_told", "__init__", "sort", "value", "take", "level", "ExprReader"]
noncomputable def nm (g : Fn) : String := nms.getD g.n ""
noncomputable def glob (g : Fn) : Bool := Nat.ble g.n 52
noncomputable def ixs : List Nat := [4, 5, 6, 7, 8, 9, 14, 15, 17, 18, 19, 20, 21, 22, 23, 24, 25, 26, 30, 31, 32, 33, 34, 35, 36, 37, 38, 39, 41, 43, 46, 48, 49, 50, 51, 52, 53, 54, 55, 56, 58, 59, 60, 61, 62, 63, 64, 65, 66, 67, 68, 69, 70, 0, 1, 2, 3, 4, 0]
noncomputable def ix (g : Fn) : Nat := ixs.getD g.n 0
noncomputable def Gs : List Fn := List.range 53
noncomputable def Ms : List Fn := [.m_init, .m_sort, .m_value, .m_take, .m_level]
noncomputable def Fs : List Fn := List.range 58
noncomputable abbrev pr : Program := PySem.Challenge.rw_oj0069_01.row.prog
noncomputable def st (j : Nat) : Stmt := (pr.main.body[j]?).getD (.Pass default)
noncomputable def cm (j : Nat) : Stmt := match st 42 with
  | .ClassDef _ _ _ b .. => (b[j]?).getD (.Pass default)
  | s => s
noncomputable def pm (a : Nat) : Value := if a < 90 then .str "tclcore.numbers" 242 else if a < 205 then .str "tclcore.words" 299 else if a < 290 then .str "tclcore.exprlex" 475 else if a < 455 then .str "tclcore.exprparse" 596 else .str "law_oj0069_01" 805
noncomputable def fd (s : Stmt) (cl : Bool) (a : Nat) (df : Value) : FuncData := match s with
  | .FunctionDef n args b _ _ _ sc _ _ _ => { name := n, qualname := if cl then Str.ofString "ExprReader." ++ n else n, params := args, body := .stmts b, scope := sc, globals := mainGlobals, closure := [], defaults := df, kwdefaults := .none, pyModule := pm a, code := .ref (a - 1) }
  | _ => default
noncomputable def fdOf (g : Fn) : FuncData := bif Nat.beq g.n 17 then fd (st 26) false 200 (.ref 193) else bif glob g then fd (st (ix g)) false (addr g) .none else fd (cm (ix g)) true (addr g) .none
noncomputable def fdLaw : FuncData := fd (st 71) false 540 .none
noncomputable def vw : Program := { pr with main := { pr.main with body := pr.main.body.drop 71 } }
noncomputable def loo : List Str := List.map Str.ofString ("Raised" :: "error" :: "is_blank" :: "digit" :: "digits_value" :: "base_of" :: "whole_of" :: "bool_of" :: "hex_sign" :: "octal_sign" :: "backslash" :: "is_gap" :: "skip_gaps" :: "comment_behind" :: "skip_to_command" :: "read_name" :: "variable" :: "brackets" :: "braces" :: "parts_until" :: "bare_stops" :: "is_expanded" :: "word" :: "command_at" :: "expr_fault" :: "spot_fault" :: "skip_space" :: "is_digit" :: "run_end" :: "is_word_op" :: "is_float_at" :: "number_token" :: "op_at" :: "sign_token" :: "token_at" :: "lex" :: "levels" :: "ExprReader" :: "is_bare" :: "bareword" :: "missing" :: "is_colon" :: "surplus" :: "close" :: "call_tree" :: "parts_tree" :: "operand" :: "prefixed" :: "choice" :: "joined" :: "climb" :: "parse_expr" :: "_law_draws" :: "_law_between" :: "_law_hold" :: "_law_number" :: "_law_text" :: "_law_parts" :: "_law_node" :: "_law_tree" :: "_law_pieces" :: "_law_put" :: "_law_is_wordlike" :: "_law_joined" :: "_law_told" :: [])
noncomputable def xt : Shared → Bool := fun s => xlAt vw [] s && recOk PySem.Challenge.rw_oj0069_01.row.records s
noncomputable def ats : List Addr := mainGlobals :: 193 :: 349 :: 350 :: 539 :: 540 :: (Gs ++ Ms).flatMap fun g => [addr g - 1, addr g]
noncomputable def fr (h : Heap) : Frag := ats.filterMap fun a => (h.get? a).map fun o => (a, o)
set_option tactic.hygienic true in
theorem fr_in (h : Heap) : (fr h).In h := by
  intro a o e
  unfold fr at e
  generalize ats = l at e
  induction l with
  | nil => cases e
  | cons b l ih =>
    rw [List.filterMap_cons] at e
    cases hb : h.get? b with
    | none => rw [hb] at e; exact ih e
    | some o' =>
      rw [hb] at e
      simp only [Option.map_some, List.lookup_cons] at e
      split at e
      · rename_i q; cases e; rw [beq_iff_eq.mp q]; exact hb
      · exact ih e
noncomputable def bltn : List Str := ["len", "ord", "tuple", "range", "isinstance", "str"]
noncomputable def flds : List Str := ["text", "tokens", "levels", "at", "__getattr__"]
noncomputable def see (K : Frag) := (bltn.map (nsIn K mainGlobals), Gs.map (fun g => nsIn K mainGlobals (Str.ofString (nm g))), Fs.map (fun g => ((K.lookup (addr g)).map (·.data), keepIn K (.ref (addr g)), codeIn K (fdOf g).code (fdOf g).qualname)),
  Ms.map (fun g => (findIn K (.ref 350) (Str.ofString (nm g)), typeIn K (.ref (addr g)))), flds.map (findIn K (.ref 350)), findIn K (.ref 350) "__getattribute__", findIn K (.ref 350) "__setattr__",
  (K.lookup 540).map (·.data), codeIn K fdLaw.code fdLaw.qualname, nsIn K mainGlobals "law", (K.lookup 193).map (·.data), nsIn K mainGlobals "ExprReader", keepIn K (.ref 350), hasDictIn K 350, plainOver K 350, makesIn K 350)
noncomputable def lay {α β : Type} : List α → (α → β) → List β
  | [], _ => []
  | a :: l, f => f a :: lay l f
theorem of_lay {α β : Type} {f g : α → β} {a : α} : ∀ {l : List α} (i : Nat), l[i]? = some a → l.map f = lay l g → f a = g a
  | b :: l, 0, h, e => by
    cases h
    rw [List.map_cons] at e
    unfold lay at e
    injection e
  | b :: l, i + 1, h, e => by
    rw [List.map_cons] at e
    unfold lay at e
    injection e with _ e2
    exact of_lay i h e2
theorem inG {g : Fn} (h : glob g = true) : Gs[g.n]? = some g := List.getElem?_range (Nat.lt_succ_of_le (Nat.le_of_ble_eq_true h))
theorem inF {g : Fn} (h : Nat.ble g.n 57 = true) : Fs[g.n]? = some g := List.getElem?_range (Nat.lt_succ_of_le (Nat.le_of_ble_eq_true h))
theorem gF_le {g : Fn} (h : glob g = true) : Nat.ble g.n 57 = true := Nat.ble_eq_true_of_le (Nat.le_trans (Nat.le_of_ble_eq_true h) (by decide))
noncomputable def seen' := (lay bltn (fun _ => some (none : Option Value)), lay Gs (fun g => some (some (Value.ref (addr g)))), lay Fs (fun g => (some (Data.func (fdOf g)), true, true)),
  lay Ms (fun g => (some (some (Value.ref (addr g))), some (Value.type "function"))), lay flds (fun _ => some (none : Option Value)), some (some (Value.builtin "object.__getattribute__")), some (some (Value.builtin "object.__setattr__")),
  some (Data.func fdLaw), true, some (some (Value.ref 540)), some (Data.seq #[Value.bool false]), some (some (Value.ref 350)), true, true, true, true)
noncomputable def Viewed (K : Frag) : Prop := see K = seen'
theorem run0 (w : World) (os : OsState) : (topRun treeTable pr w 11 (some (.ref 6)) 5570 ⟨boot_heap w.params, #[], boot_drawn, boot_toks, os⟩ (topStub pr)).map (fun s => (staticsOk (importedModules pr.main.body) (boot_heap w.params) s.heap && namesBound pr s.heap && gensDone s && laidKept (boot_heap w.params) s.heap, openSeen vw loo (importedModules pr.main.body) xt true s, see (fr s.heap))) = some (true, openGood vw loo, seen') := by
  unfold namesBound
  rw [PySem.W.Fast.te14082659384304107361, PySem.W.Fast.te14364793385576792824, PySem.W.Fast.te4187177175401517315, PySem.W.Fast.te18344453789297297638]
  kernel_rfl
theorem of_run {p q : Program} {loose : List Str} {Xt : Shared → Bool} {α : Type} {Yf : Shared → α} {Ya : World → α} {N : Nat} {H₀ : Params → Heap} {gs₀ : Array GenState} {d₀ : Drawn} {k₀ m₀ : Nat} {ann : Option Value}
    (open_ : ∀ w : World, (fencedOpening treeTable p w N).map (fun s => (s.heap, s.gens, s.drawn, s.toks)) = some (H₀ w.params, gs₀, d₀, k₀))
    (size : ∀ w : World, ((H₀ w.params).isNs mainGlobals && gs₀.size == 0, (H₀ w.params).objs.size, (H₀ w.params).nsMap mainGlobals "__annotations__") = (true, m₀, ann))
    (run : ∀ (w : World) (os : OsState), (topRun treeTable p w m₀ ann N ⟨H₀ w.params, gs₀, d₀, k₀, os⟩ (topStub p)).map (fun s => (staticsOk (importedModules p.main.body) (H₀ w.params) s.heap && namesBound p s.heap && gensDone s && laidKept (H₀ w.params) s.heap,
      openSeen q loose (importedModules p.main.body) Xt true s, Yf s)) = some (true, openGood q loose, Ya w)) : LeftO p q loose Xt Yf Ya N := fun w => by
  obtain ⟨⟨h, gs, d, k, os⟩, e, e'⟩ := Option.map_eq_some_iff.mp (open_ w)
  obtain ⟨rfl, rfl, rfl, rfl⟩ : h = H₀ w.params ∧ gs = gs₀ ∧ d = d₀ ∧ k = k₀ := by
    have z := Prod.mk.inj e'
    have z2 := Prod.mk.inj z.2
    exact ⟨z.1, z2.1, (Prod.mk.inj z2.2).1, (Prod.mk.inj z2.2).2⟩
  obtain ⟨s₁, r, e2⟩ := Option.map_eq_some_iff.mp (run w os)
  have e3 := Prod.mk.inj e2
  have e4 := Prod.mk.inj e3.2
  have z := Prod.mk.inj (size w)
  have z2 := Prod.mk.inj z.2
  have t : topFrom treeTable p w N ⟨H₀ w.params, gs, d, k, os⟩ = some s₁ := by
    unfold topFrom
    dsimp only
    rw [z.1, z2.1, z2.2, r]
    show (match staticsOk (importedModules p.main.body) (H₀ w.params) s₁.heap && namesBound p s₁.heap && gensDone s₁ && laidKept (H₀ w.params) s₁.heap with | true => some s₁ | false => none) = _
    rw [e3.1]
  unfold openEnds
  rw [e]
  show (topFrom treeTable p w N _).map _ = _
  rw [t]
  exact congrArg some (Prod.ext e4.1 e4.2)
theorem opens : ∀ w : World, (fencedOpening treeTable pr w 5570).map (fun s => (s.heap, s.gens, s.drawn, s.toks)) = some (boot_heap w.params, Array.mk [], boot_drawn, boot_toks) :=
  boot_open (Eq.refl (opening pr)) (by decide) (fun s => Eq.refl (some s))
theorem size0 (w : World) : ((boot_heap w.params).isNs mainGlobals && (#[] : Array GenState).size == 0, (boot_heap w.params).objs.size, (boot_heap w.params).nsMap mainGlobals "__annotations__") = (true, 11, some (.ref 6)) := by kernel_rfl
theorem left0 : LeftO pr vw loo xt (fun s => see (fr s.heap)) (fun _ => seen') 5570 := of_run opens size0 run0
theorem said : PySem.Challenge.rw_oj0069_01.wellSaid = true := by
  rw [PySem.W.Fast.te9446332074065402090]
  kernel_rfl
noncomputable def Sees (h : Heap) : Prop := ∃ K : Frag, K.In h ∧ Viewed K
theorem head : (∀ d, defOf vw PySem.Challenge.rw_oj0069_01.row.name = some (d, []) → WalkO vw loo (XL vw []) (fun _ h => Sees h) PySem.Challenge.rw_oj0069_01.row.toRowW d [] (fun f vs => PySem.call f vs)) → PySem.Challenge.rw_oj0069_01.Holds := fun walk => by
  refine holds_law said fun k1 => ?_
  refine holds_open (q := vw) (loose := loo) (Xt := xt) (XP := XL vw []) (Yf := fun s => see (fr s.heap)) (Ya := fun _ => seen') (YP := fun _ h => Sees h) (N := 5570) left0 (fun w s e => ⟨fr s.heap, fr_in _, e⟩) (fun w h h' y k => let ⟨K, a, b⟩ := y; ⟨K, a.keeps k, b⟩) (fun s e => xl_of s (Bool.and_eq_true_iff.mp e).1) XL.keeps (by rfl) (by rfl) (by rfl) (fun s e => recFacts_of (Bool.and_eq_true_iff.mp e).2) (by rfl) k1 (by decide +kernel) ⟨rfl, rfl, rfl, rfl, rfl, by decide +kernel⟩ ?hw (walk _ (by rfl))
  w_witness2

end Mine
set_option maxHeartbeats 200000
namespace Mine
structure Ctxt (X : Cx) : Prop where
  ok : X.Ok
  good : Viewed X.K
  hC : X.C = 350
  names : X.names = [Str.ofString "text", Str.ofString "tokens", Str.ofString "levels", Str.ofString "at"]
section
variable {K : Frag} (G : Viewed K)
include G
theorem Viewed.b (i : Nat) {x : Str} (h : bltn[i]? = some x) : nsIn K mainGlobals x = some none := of_lay i h (Prod.mk.inj G).1
theorem Viewed.n {g : Fn} (h : glob g = true) : nsIn K mainGlobals (Str.ofString (nm g)) = some (some (.ref (addr g))) := of_lay _ (inG h) (Prod.mk.inj (Prod.mk.inj G).2).1
theorem Viewed.f {g : Fn} (h : Nat.ble g.n 57 = true) : ((K.lookup (addr g)).map (·.data), keepIn K (.ref (addr g)), codeIn K (fdOf g).code (fdOf g).qualname) = (some (Data.func (fdOf g)), true, true) := of_lay _ (inF h) (Prod.mk.inj (Prod.mk.inj (Prod.mk.inj G).2).2).1
theorem Viewed.m (i : Nat) {g : Fn} (h : Ms[i]? = some g) : (findIn K (.ref 350) (Str.ofString (nm g)), typeIn K (.ref (addr g))) = (some (some (.ref (addr g))), some (.type "function")) := of_lay i h (Prod.mk.inj (Prod.mk.inj (Prod.mk.inj (Prod.mk.inj G).2).2).2).1
theorem Viewed.fl (i : Nat) {x : Str} (h : flds[i]? = some x) : findIn K (.ref 350) x = some none := of_lay i h (Prod.mk.inj (Prod.mk.inj (Prod.mk.inj (Prod.mk.inj (Prod.mk.inj G).2).2).2).2).1
theorem Viewed.ga : findIn K (.ref 350) "__getattribute__" = some (some (.builtin "object.__getattribute__")) := (Prod.mk.inj (Prod.mk.inj (Prod.mk.inj (Prod.mk.inj (Prod.mk.inj (Prod.mk.inj G).2).2).2).2).2).1
theorem Viewed.sa : findIn K (.ref 350) "__setattr__" = some (some (.builtin "object.__setattr__")) := (Prod.mk.inj (Prod.mk.inj (Prod.mk.inj (Prod.mk.inj (Prod.mk.inj (Prod.mk.inj (Prod.mk.inj G).2).2).2).2).2).2).1
theorem Viewed.law : (K.lookup 540).map (·.data) = some (Data.func fdLaw) := (Prod.mk.inj (Prod.mk.inj (Prod.mk.inj (Prod.mk.inj (Prod.mk.inj (Prod.mk.inj (Prod.mk.inj (Prod.mk.inj G).2).2).2).2).2).2).2).1
theorem Viewed.lawc : codeIn K fdLaw.code fdLaw.qualname = true := (Prod.mk.inj (Prod.mk.inj (Prod.mk.inj (Prod.mk.inj (Prod.mk.inj (Prod.mk.inj (Prod.mk.inj (Prod.mk.inj (Prod.mk.inj G).2).2).2).2).2).2).2).2).1
theorem Viewed.lawn : nsIn K mainGlobals "law" = some (some (.ref 540)) := (Prod.mk.inj (Prod.mk.inj (Prod.mk.inj (Prod.mk.inj (Prod.mk.inj (Prod.mk.inj (Prod.mk.inj (Prod.mk.inj (Prod.mk.inj (Prod.mk.inj G).2).2).2).2).2).2).2).2).2).1
theorem Viewed.df : (K.lookup 193).map (·.data) = some (Data.seq #[Value.bool false]) := (Prod.mk.inj (Prod.mk.inj (Prod.mk.inj (Prod.mk.inj (Prod.mk.inj (Prod.mk.inj (Prod.mk.inj (Prod.mk.inj (Prod.mk.inj (Prod.mk.inj (Prod.mk.inj G).2).2).2).2).2).2).2).2).2).2).1
theorem Viewed.cn : nsIn K mainGlobals "ExprReader" = some (some (.ref 350)) := (Prod.mk.inj (Prod.mk.inj (Prod.mk.inj (Prod.mk.inj (Prod.mk.inj (Prod.mk.inj (Prod.mk.inj (Prod.mk.inj (Prod.mk.inj (Prod.mk.inj (Prod.mk.inj (Prod.mk.inj G).2).2).2).2).2).2).2).2).2).2).2).1
theorem Viewed.ck : keepIn K (.ref 350) = true := (Prod.mk.inj (Prod.mk.inj (Prod.mk.inj (Prod.mk.inj (Prod.mk.inj (Prod.mk.inj (Prod.mk.inj (Prod.mk.inj (Prod.mk.inj (Prod.mk.inj (Prod.mk.inj (Prod.mk.inj (Prod.mk.inj G).2).2).2).2).2).2).2).2).2).2).2).2).1
theorem Viewed.hd : hasDictIn K 350 = true := (Prod.mk.inj (Prod.mk.inj (Prod.mk.inj (Prod.mk.inj (Prod.mk.inj (Prod.mk.inj (Prod.mk.inj (Prod.mk.inj (Prod.mk.inj (Prod.mk.inj (Prod.mk.inj (Prod.mk.inj (Prod.mk.inj (Prod.mk.inj G).2).2).2).2).2).2).2).2).2).2).2).2).2).1
theorem Viewed.po : plainOver K 350 = true := (Prod.mk.inj (Prod.mk.inj (Prod.mk.inj (Prod.mk.inj (Prod.mk.inj (Prod.mk.inj (Prod.mk.inj (Prod.mk.inj (Prod.mk.inj (Prod.mk.inj (Prod.mk.inj (Prod.mk.inj (Prod.mk.inj (Prod.mk.inj (Prod.mk.inj G).2).2).2).2).2).2).2).2).2).2).2).2).2).2).1
theorem Viewed.mk : makesIn K 350 = true := (Prod.mk.inj (Prod.mk.inj (Prod.mk.inj (Prod.mk.inj (Prod.mk.inj (Prod.mk.inj (Prod.mk.inj (Prod.mk.inj (Prod.mk.inj (Prod.mk.inj (Prod.mk.inj (Prod.mk.inj (Prod.mk.inj (Prod.mk.inj (Prod.mk.inj G).2).2).2).2).2).2).2).2).2).2).2).2).2).2).2
end
section
variable {X : Cx} (Y : Ctxt X)
include Y
theorem Ctxt.n0 : X.names[0]? = some (Str.ofString "text") := by rw [Y.names]; rfl
theorem Ctxt.n1 : X.names[1]? = some (Str.ofString "tokens") := by rw [Y.names]; rfl
theorem Ctxt.n2 : X.names[2]? = some (Str.ofString "levels") := by rw [Y.names]; rfl
theorem Ctxt.n3 : X.names[3]? = some (Str.ofString "at") := by rw [Y.names]; rfl
theorem Ctxt.b_len : nsIn X.K mainGlobals (Str.ofString "len") = some Option.none := Y.good.b 0 rfl
theorem Ctxt.b_ord : nsIn X.K mainGlobals (Str.ofString "ord") = some Option.none := Y.good.b 1 rfl
theorem Ctxt.b_tuple : nsIn X.K mainGlobals (Str.ofString "tuple") = some Option.none := Y.good.b 2 rfl
theorem Ctxt.b_range : nsIn X.K mainGlobals (Str.ofString "range") = some Option.none := Y.good.b 3 rfl
theorem Ctxt.b_isinstance : nsIn X.K mainGlobals (Str.ofString "isinstance") = some Option.none := Y.good.b 4 rfl
theorem Ctxt.b_str : nsIn X.K mainGlobals (Str.ofString "str") = some Option.none := Y.good.b 5 rfl
theorem Ctxt.fn {g : Fn} (h : Nat.ble g.n 57 = true) : (X.K.lookup (addr g)).map (·.data) = some (Data.func (fdOf g)) := (Prod.mk.inj (Y.good.f h)).1
theorem Ctxt.cd {g : Fn} (h : Nat.ble g.n 57 = true) : codeIn X.K (fdOf g).code (fdOf g).qualname = true := (Prod.mk.inj (Prod.mk.inj (Y.good.f h)).2).2
theorem gK {g : Fn} (h : Nat.ble g.n 57 = true) : keepIn X.K (.ref (addr g)) = true := (Prod.mk.inj (Prod.mk.inj (Y.good.f h)).2).1
theorem gN {g : Fn} (h : glob g = true) : nsIn X.K mainGlobals (Str.ofString (nm g)) = some (some (.ref (addr g))) := Y.good.n h
theorem Ctxt.C : ClsOk X where
  ga := by rw [Y.hC]; exact Y.good.ga
  gattr := by rw [Y.hC]; exact Y.good.fl 4 rfl
  hd := by rw [Y.hC]; exact Y.good.hd
  sa := by rw [Y.hC]; exact Y.good.sa
  po := by rw [Y.hC]; exact Y.good.po
  fields := by
    rw [Y.hC, Y.names]
    intro x hx
    simp only [List.mem_cons, List.not_mem_nil, or_false] at hx
    rcases hx with rfl | rfl | rfl | rfl
    · exact Y.good.fl 0 rfl
    · exact Y.good.fl 1 rfl
    · exact Y.good.fl 2 rfl
    · exact Y.good.fl 3 rfl
  nd := by rw [Y.names]; decide +kernel
  few := by rw [Y.names]; decide
theorem gM : makesIn X.K X.C = true := by rw [Y.hC]; exact Y.good.mk
theorem gI (i : Nat) {g : Fn} (h : Ms[i]? = some g) : findIn X.K (.ref X.C) (Str.ofString (nm g)) = some (some (.ref (addr g))) := by rw [Y.hC]; exact (Prod.mk.inj (Y.good.m i h)).1
theorem gT (i : Nat) {g : Fn} (h : Ms[i]? = some g) : typeIn X.K (.ref (addr g)) = some (.type "function") := (Prod.mk.inj (Y.good.m i h)).2
theorem gF (i : Nat) {g : Fn} (h : Ms[i]? = some g) (hn : ([Str.ofString "text", Str.ofString "tokens", Str.ofString "levels", Str.ofString "at"].contains (Str.ofString (nm g))) = false) : Finds X kInst (Str.ofString (nm g)) (.ref (addr g)) := finds_inst Y.ok Y.C (by rw [Y.names]; intro z; rw [List.contains_iff_mem.mpr z] at hn; cases hn) (gI Y i h) (gT Y i h)
end
theorem SndFnC.ofK {X : Cx} {d : Nat} (ok : X.Ok) {f : Addr} {fd : FuncData} {body : List Stmt} {ps extra : List Str} {b : DS}
    (hK : (X.K.lookup f).map (·.data) = some (.func fd)) (hcd : codeIn X.K fd.code fd.qualname = true) (hbody : fd.body = .stmts body)
    (hbind : ∀ (s : Shared) (vals : List Value), X.K.In s.heap → vals.length = ps.length → BindsTo s fd ⟨vals, []⟩ (ps.zip vals))
    (hclo : fd.closure = []) (hglob : fd.globals = mainGlobals) (hblt : fd.builtins = builtinsNs)
    (hkinds : (ps ++ extra).all (okKind fd.scope.names) = true) (nd : (ps ++ extra).Nodup)
    (hb : SndS X d fd.scope (ps ++ extra) body b)
    (hco : fd.scope.isCoroutine = false) (hgen : fd.scope.isGenerator = false) (hk : fd.scope.kind = .function) : SndFnC X (d + 1) f (dFn ps.length extra.length b) := by
  obtain ⟨⟨oc, od, da, osl⟩, h1, h2⟩ := Option.map_eq_some_iff.mp hK
  cases h2
  exact SndFnC.of ok h1 hcd hbody hbind hclo hglob hblt hkinds nd hb hco hgen hk
theorem binds_D {K : Frag} {s : Shared} {fd : FuncData} {args : Args} {binds : List (Str × Value)} {T : Addr} {items : Array Value} {n : Nat} {k : Option (Array Value) → Sem (List (Str × Value))} (X : K.In s.heap) (hd : fd.defaults = .ref T) (ho : (K.lookup T).map (·.data) = some (.seq items n))
    (h₁ : bindArgs fd args = seqItems? fd.defaults >>= k) (h₂ : k (some items) = pure binds) : BindsTo s fd args binds := by
  obtain ⟨o, h3, h4⟩ := Option.map_eq_some_iff.mp ho
  exact binds_K X hd h3 h4 h₁ h₂
section
variable {X : Cx}
theorem binds0 {fd : FuncData} (h : bindArgs fd ⟨[], []⟩ = pure []) : ∀ (s : Shared) (vals : List Value), X.K.In s.heap → vals.length = ([] : List Str).length → BindsTo s fd ⟨vals, []⟩ (([] : List Str).zip vals) := fun s vals _ hl => by
  obtain rfl := List.length_eq_zero_iff.mp hl
  exact BindsTo.of_eq h
theorem binds1 {fd : FuncData} {p0 : Str} (h : ∀ v0, bindArgs fd ⟨[v0], []⟩ = pure [(p0, v0)]) : ∀ (s : Shared) (vals : List Value), X.K.In s.heap → vals.length = [p0].length → BindsTo s fd ⟨vals, []⟩ ([p0].zip vals) := fun s vals _ hl => by
  obtain ⟨v0, rfl⟩ : ∃ v0, vals = [v0] := by
    match vals, hl with
    | [v0], _ => exact ⟨v0, rfl⟩
  exact BindsTo.of_eq (h v0)
theorem binds2 {fd : FuncData} {p0 p1 : Str} (h : ∀ v0 v1, bindArgs fd ⟨[v0, v1], []⟩ = pure [(p0, v0), (p1, v1)]) : ∀ (s : Shared) (vals : List Value), X.K.In s.heap → vals.length = [p0, p1].length → BindsTo s fd ⟨vals, []⟩ ([p0, p1].zip vals) := fun s vals _ hl => by
  obtain ⟨v0, v1, rfl⟩ : ∃ v0 v1, vals = [v0, v1] := by
    match vals, hl with
    | [v0, v1], _ => exact ⟨v0, v1, rfl⟩
  exact BindsTo.of_eq (h v0 v1)
theorem binds3 {fd : FuncData} {p0 p1 p2 : Str} (h : ∀ v0 v1 v2, bindArgs fd ⟨[v0, v1, v2], []⟩ = pure [(p0, v0), (p1, v1), (p2, v2)]) : ∀ (s : Shared) (vals : List Value), X.K.In s.heap → vals.length = [p0, p1, p2].length → BindsTo s fd ⟨vals, []⟩ ([p0, p1, p2].zip vals) := fun s vals _ hl => by
  obtain ⟨v0, v1, v2, rfl⟩ : ∃ v0 v1 v2, vals = [v0, v1, v2] := by
    match vals, hl with
    | [v0, v1, v2], _ => exact ⟨v0, v1, v2, rfl⟩
  exact BindsTo.of_eq (h v0 v1 v2)
theorem binds4 {fd : FuncData} {p0 p1 p2 p3 : Str} (h : ∀ v0 v1 v2 v3, bindArgs fd ⟨[v0, v1, v2, v3], []⟩ = pure [(p0, v0), (p1, v1), (p2, v2), (p3, v3)]) : ∀ (s : Shared) (vals : List Value), X.K.In s.heap → vals.length = [p0, p1, p2, p3].length → BindsTo s fd ⟨vals, []⟩ ([p0, p1, p2, p3].zip vals) := fun s vals _ hl => by
  obtain ⟨v0, v1, v2, v3, rfl⟩ : ∃ v0 v1 v2 v3, vals = [v0, v1, v2, v3] := by
    match vals, hl with
    | [v0, v1, v2, v3], _ => exact ⟨v0, v1, v2, v3, rfl⟩
  exact BindsTo.of_eq (h v0 v1 v2 v3)
theorem bindsD3 {fd : FuncData} {p0 p1 p2 : Str} (h : ∀ (s : Shared) v0 v1 v2, X.K.In s.heap → BindsTo s fd ⟨[v0, v1, v2], []⟩ [(p0, v0), (p1, v1), (p2, v2)]) : ∀ (s : Shared) (vals : List Value), X.K.In s.heap → vals.length = [p0, p1, p2].length → BindsTo s fd ⟨vals, []⟩ ([p0, p1, p2].zip vals) := fun s vals hin hl => by
  obtain ⟨v0, v1, v2, rfl⟩ : ∃ v0 v1 v2, vals = [v0, v1, v2] := by
    match vals, hl with
    | [v0, v1, v2], _ => exact ⟨v0, v1, v2, rfl⟩
  exact h s v0 v1 v2 hin
end
end Mine
set_option maxHeartbeats 4000000
namespace Mine

noncomputable def Sd {α : Type} (o : Option α) (P : α → Prop) : Prop := match o with | none => True | some a => P a
section
variable {α β : Type} {o o' : Option α} {P : α → Prop} {Q : β → Prop}
theorem Sd.none : Sd (none : Option α) P := trivial
theorem Sd.bind {k : α → Option β} (h : Sd o P) (g : ∀ a, P a → Sd (k a) Q) : Sd (o.bind k) Q := by cases o with | none => trivial | some a => exact g a h
theorem Sd.cnd {b : Bool} (g : b = true → Sd o P) : Sd (cond b o .none) P := by cases b with | false => trivial | true => exact g rfl
theorem Sd.cnd2 {b : Bool} (g : b = true → Sd o P) (g' : b = false → Sd o' P) : Sd (cond b o o') P := by cases b with | false => exact g' rfl | true => exact g rfl
theorem Sd.or (h : Sd o P) (h' : Sd o' P) : Sd (o.or o') P := by cases o with | none => exact h' | some a => exact h
theorem Sd.at {a : α} (h : Sd o P) (e : o = some a) : P a := by subst e; exact h
theorem Sd.mono {P' : α → Prop} (h : Sd o P) (g : ∀ a, P a → P' a) : Sd o P' := by cases o with | none => trivial | some a => exact g a h
theorem Sd.self : Sd o fun a => o = some a := by cases o with | none => trivial | some a => rfl
theorem Sd.dite {c : Prop} [d : Decidable c] {t : c → Option α} (h : ∀ h, Sd (t h) P) : Sd (dite c t fun _ => .none) P := by cases d with | isTrue h' => exact h h' | isFalse h => trivial
end
section
variable {β : Type} {Q : β → Prop}
noncomputable def onName (e : Expr) (k : Str → Pos → Option β) : Option β := dite (e.ctorIdx = 23) (fun h => Expr.Name.elim e h k) fun _ => none
theorem onName_ok {e : Expr} {k : Str → Pos → Option β} (g : ∀ a b, e = .Name a b → Sd (k a b) Q) : Sd (onName e k) Q := Sd.dite fun h => Expr.Name.elim (motive_1 := fun t => ∀ h, (∀ a b, t = .Name a b → Sd (k a b) Q) → Sd (Expr.Name.elim t h k) Q) e h (fun a b h g => g a b rfl) h g
noncomputable def onConstant (e : Expr) (k : Const → Nat → Pos → Option β) : Option β := dite (e.ctorIdx = 19) (fun h => Expr.Constant.elim e h k) fun _ => none
theorem onConstant_ok {e : Expr} {k : Const → Nat → Pos → Option β} (g : ∀ a b c, e = .Constant a b c → Sd (k a b c) Q) : Sd (onConstant e k) Q := Sd.dite fun h => Expr.Constant.elim (motive_1 := fun t => ∀ h, (∀ a b c, t = .Constant a b c → Sd (k a b c) Q) → Sd (Expr.Constant.elim t h k) Q) e h (fun a b c h g => g a b c rfl) h g
noncomputable def onTuple (e : Expr) (k : List Expr → Nat → Pos → Option β) : Option β := dite (e.ctorIdx = 25) (fun h => Expr.Tuple.elim e h k) fun _ => none
theorem onTuple_ok {e : Expr} {k : List Expr → Nat → Pos → Option β} (g : ∀ a b c, e = .Tuple a b c → Sd (k a b c) Q) : Sd (onTuple e k) Q := Sd.dite fun h => Expr.Tuple.elim (motive_1 := fun t => ∀ h, (∀ a b c, t = .Tuple a b c → Sd (k a b c) Q) → Sd (Expr.Tuple.elim t h k) Q) e h (fun a b c h g => g a b c rfl) h g
noncomputable def onList (e : Expr) (k : List Expr → Pos → Option β) : Option β := dite (e.ctorIdx = 24) (fun h => Expr.List.elim e h k) fun _ => none
theorem onList_ok {e : Expr} {k : List Expr → Pos → Option β} (g : ∀ a b, e = .List a b → Sd (k a b) Q) : Sd (onList e k) Q := Sd.dite fun h => Expr.List.elim (motive_1 := fun t => ∀ h, (∀ a b, t = .List a b → Sd (k a b) Q) → Sd (Expr.List.elim t h k) Q) e h (fun a b h g => g a b rfl) h g
noncomputable def onBinOp (e : Expr) (k : Expr → Operator → Expr → Pos → Option β) : Option β := dite (e.ctorIdx = 2) (fun h => Expr.BinOp.elim e h k) fun _ => none
theorem onBinOp_ok {e : Expr} {k : Expr → Operator → Expr → Pos → Option β} (g : ∀ a b c d, e = .BinOp a b c d → Sd (k a b c d) Q) : Sd (onBinOp e k) Q := Sd.dite fun h => Expr.BinOp.elim (motive_1 := fun t => ∀ h, (∀ a b c d, t = .BinOp a b c d → Sd (k a b c d) Q) → Sd (Expr.BinOp.elim t h k) Q) e h (fun a b c d h g => g a b c d rfl) h g
noncomputable def onUnaryOp (e : Expr) (k : UnaryOp → Expr → Pos → Option β) : Option β := dite (e.ctorIdx = 3) (fun h => Expr.UnaryOp.elim e h k) fun _ => none
theorem onUnaryOp_ok {e : Expr} {k : UnaryOp → Expr → Pos → Option β} (g : ∀ a b c, e = .UnaryOp a b c → Sd (k a b c) Q) : Sd (onUnaryOp e k) Q := Sd.dite fun h => Expr.UnaryOp.elim (motive_1 := fun t => ∀ h, (∀ a b c, t = .UnaryOp a b c → Sd (k a b c) Q) → Sd (Expr.UnaryOp.elim t h k) Q) e h (fun a b c h g => g a b c rfl) h g
noncomputable def onCompare (e : Expr) (k : Expr → List CmpOp → List Expr → Pos → Option β) : Option β := dite (e.ctorIdx = 15) (fun h => Expr.Compare.elim e h k) fun _ => none
theorem onCompare_ok {e : Expr} {k : Expr → List CmpOp → List Expr → Pos → Option β} (g : ∀ a b c d, e = .Compare a b c d → Sd (k a b c d) Q) : Sd (onCompare e k) Q := Sd.dite fun h => Expr.Compare.elim (motive_1 := fun t => ∀ h, (∀ a b c d, t = .Compare a b c d → Sd (k a b c d) Q) → Sd (Expr.Compare.elim t h k) Q) e h (fun a b c d h g => g a b c d rfl) h g
noncomputable def onBoolOp (e : Expr) (k : BoolOp → List Expr → Pos → Option β) : Option β := dite (e.ctorIdx = 0) (fun h => Expr.BoolOp.elim e h k) fun _ => none
theorem onBoolOp_ok {e : Expr} {k : BoolOp → List Expr → Pos → Option β} (g : ∀ a b c, e = .BoolOp a b c → Sd (k a b c) Q) : Sd (onBoolOp e k) Q := Sd.dite fun h => Expr.BoolOp.elim (motive_1 := fun t => ∀ h, (∀ a b c, t = .BoolOp a b c → Sd (k a b c) Q) → Sd (Expr.BoolOp.elim t h k) Q) e h (fun a b c h g => g a b c rfl) h g
noncomputable def onIfExp (e : Expr) (k : Expr → Expr → Expr → Pos → Option β) : Option β := dite (e.ctorIdx = 5) (fun h => Expr.IfExp.elim e h k) fun _ => none
theorem onIfExp_ok {e : Expr} {k : Expr → Expr → Expr → Pos → Option β} (g : ∀ a b c d, e = .IfExp a b c d → Sd (k a b c d) Q) : Sd (onIfExp e k) Q := Sd.dite fun h => Expr.IfExp.elim (motive_1 := fun t => ∀ h, (∀ a b c d, t = .IfExp a b c d → Sd (k a b c d) Q) → Sd (Expr.IfExp.elim t h k) Q) e h (fun a b c d h g => g a b c d rfl) h g
noncomputable def onCall (e : Expr) (k : Expr → List Expr → List Keyword → Pos → Option β) : Option β := dite (e.ctorIdx = 16) (fun h => Expr.Call.elim e h k) fun _ => none
theorem onCall_ok {e : Expr} {k : Expr → List Expr → List Keyword → Pos → Option β} (g : ∀ a b c d, e = .Call a b c d → Sd (k a b c d) Q) : Sd (onCall e k) Q := Sd.dite fun h => Expr.Call.elim (motive_1 := fun t => ∀ h, (∀ a b c d, t = .Call a b c d → Sd (k a b c d) Q) → Sd (Expr.Call.elim t h k) Q) e h (fun a b c d h g => g a b c d rfl) h g
noncomputable def onAttribute (e : Expr) (k : Expr → Str → Pos → Option β) : Option β := dite (e.ctorIdx = 20) (fun h => Expr.Attribute.elim e h k) fun _ => none
theorem onAttribute_ok {e : Expr} {k : Expr → Str → Pos → Option β} (g : ∀ a b c, e = .Attribute a b c → Sd (k a b c) Q) : Sd (onAttribute e k) Q := Sd.dite fun h => Expr.Attribute.elim (motive_1 := fun t => ∀ h, (∀ a b c, t = .Attribute a b c → Sd (k a b c) Q) → Sd (Expr.Attribute.elim t h k) Q) e h (fun a b c h g => g a b c rfl) h g
noncomputable def onSubscript (e : Expr) (k : Expr → Expr → Pos → Option β) : Option β := dite (e.ctorIdx = 21) (fun h => Expr.Subscript.elim e h k) fun _ => none
theorem onSubscript_ok {e : Expr} {k : Expr → Expr → Pos → Option β} (g : ∀ a b c, e = .Subscript a b c → Sd (k a b c) Q) : Sd (onSubscript e k) Q := Sd.dite fun h => Expr.Subscript.elim (motive_1 := fun t => ∀ h, (∀ a b c, t = .Subscript a b c → Sd (k a b c) Q) → Sd (Expr.Subscript.elim t h k) Q) e h (fun a b c h g => g a b c rfl) h g
noncomputable def onSlice (e : Expr) (k : Option Expr → Option Expr → Option Expr → Pos → Option β) : Option β := dite (e.ctorIdx = 26) (fun h => Expr.Slice.elim e h k) fun _ => none
theorem onSlice_ok {e : Expr} {k : Option Expr → Option Expr → Option Expr → Pos → Option β} (g : ∀ a b c d, e = .Slice a b c d → Sd (k a b c d) Q) : Sd (onSlice e k) Q := Sd.dite fun h => Expr.Slice.elim (motive_1 := fun t => ∀ h, (∀ a b c d, t = .Slice a b c d → Sd (k a b c d) Q) → Sd (Expr.Slice.elim t h k) Q) e h (fun a b c d h g => g a b c d rfl) h g
noncomputable def onDict (e : Expr) (k : List (Option Expr) → List Expr → Pos → Option β) : Option β := dite (e.ctorIdx = 6) (fun h => Expr.Dict.elim e h k) fun _ => none
theorem onDict_ok {e : Expr} {k : List (Option Expr) → List Expr → Pos → Option β} (g : ∀ a b c, e = .Dict a b c → Sd (k a b c) Q) : Sd (onDict e k) Q := Sd.dite fun h => Expr.Dict.elim (motive_1 := fun t => ∀ h, (∀ a b c, t = .Dict a b c → Sd (k a b c) Q) → Sd (Expr.Dict.elim t h k) Q) e h (fun a b c h g => g a b c rfl) h g
noncomputable def onListComp (e : Expr) (k : Expr → List Comprehension → Scope → Pos → Option β) : Option β := dite (e.ctorIdx = 8) (fun h => Expr.ListComp.elim e h k) fun _ => none
theorem onListComp_ok {e : Expr} {k : Expr → List Comprehension → Scope → Pos → Option β} (g : ∀ a b c d, e = .ListComp a b c d → Sd (k a b c d) Q) : Sd (onListComp e k) Q := Sd.dite fun h => Expr.ListComp.elim (motive_1 := fun t => ∀ h, (∀ a b c d, t = .ListComp a b c d → Sd (k a b c d) Q) → Sd (Expr.ListComp.elim t h k) Q) e h (fun a b c d h g => g a b c d rfl) h g
noncomputable def stReturn (e : Stmt) (k : Option Expr → Pos → Option β) : Option β := dite (e.ctorIdx = 3) (fun h => Stmt.Return.elim e h k) fun _ => none
theorem stReturn_ok {e : Stmt} {k : Option Expr → Pos → Option β} (g : ∀ a b, e = .Return a b → Sd (k a b) Q) : Sd (stReturn e k) Q := Sd.dite fun h => Stmt.Return.elim (motive_2 := fun t => ∀ h, (∀ a b, t = .Return a b → Sd (k a b) Q) → Sd (Stmt.Return.elim t h k) Q) e h (fun a b h g => g a b rfl) h g
noncomputable def stAssign (e : Stmt) (k : List Expr → Expr → Pos → Option β) : Option β := dite (e.ctorIdx = 5) (fun h => Stmt.Assign.elim e h k) fun _ => none
theorem stAssign_ok {e : Stmt} {k : List Expr → Expr → Pos → Option β} (g : ∀ a b c, e = .Assign a b c → Sd (k a b c) Q) : Sd (stAssign e k) Q := Sd.dite fun h => Stmt.Assign.elim (motive_2 := fun t => ∀ h, (∀ a b c, t = .Assign a b c → Sd (k a b c) Q) → Sd (Stmt.Assign.elim t h k) Q) e h (fun a b c h g => g a b c rfl) h g
noncomputable def stAugAssign (e : Stmt) (k : Expr → Operator → Expr → Pos → Option β) : Option β := dite (e.ctorIdx = 7) (fun h => Stmt.AugAssign.elim e h k) fun _ => none
theorem stAugAssign_ok {e : Stmt} {k : Expr → Operator → Expr → Pos → Option β} (g : ∀ a b c d, e = .AugAssign a b c d → Sd (k a b c d) Q) : Sd (stAugAssign e k) Q := Sd.dite fun h => Stmt.AugAssign.elim (motive_2 := fun t => ∀ h, (∀ a b c d, t = .AugAssign a b c d → Sd (k a b c d) Q) → Sd (Stmt.AugAssign.elim t h k) Q) e h (fun a b c d h g => g a b c d rfl) h g
noncomputable def stFor (e : Stmt) (k : Expr → Expr → List Stmt → List Stmt → Pos → Option β) : Option β := dite (e.ctorIdx = 9) (fun h => Stmt.For.elim e h k) fun _ => none
theorem stFor_ok {e : Stmt} {k : Expr → Expr → List Stmt → List Stmt → Pos → Option β} (g : ∀ a b c d f, e = .For a b c d f → Sd (k a b c d f) Q) : Sd (stFor e k) Q := Sd.dite fun h => Stmt.For.elim (motive_2 := fun t => ∀ h, (∀ a b c d f, t = .For a b c d f → Sd (k a b c d f) Q) → Sd (Stmt.For.elim t h k) Q) e h (fun a b c d f h g => g a b c d f rfl) h g
noncomputable def stWhile (e : Stmt) (k : Expr → List Stmt → List Stmt → Pos → Option β) : Option β := dite (e.ctorIdx = 11) (fun h => Stmt.While.elim e h k) fun _ => none
theorem stWhile_ok {e : Stmt} {k : Expr → List Stmt → List Stmt → Pos → Option β} (g : ∀ a b c d, e = .While a b c d → Sd (k a b c d) Q) : Sd (stWhile e k) Q := Sd.dite fun h => Stmt.While.elim (motive_2 := fun t => ∀ h, (∀ a b c d, t = .While a b c d → Sd (k a b c d) Q) → Sd (Stmt.While.elim t h k) Q) e h (fun a b c d h g => g a b c d rfl) h g
noncomputable def stIf (e : Stmt) (k : Expr → List Stmt → List Stmt → Pos → Option β) : Option β := dite (e.ctorIdx = 12) (fun h => Stmt.If.elim e h k) fun _ => none
theorem stIf_ok {e : Stmt} {k : Expr → List Stmt → List Stmt → Pos → Option β} (g : ∀ a b c d, e = .If a b c d → Sd (k a b c d) Q) : Sd (stIf e k) Q := Sd.dite fun h => Stmt.If.elim (motive_2 := fun t => ∀ h, (∀ a b c d, t = .If a b c d → Sd (k a b c d) Q) → Sd (Stmt.If.elim t h k) Q) e h (fun a b c d h g => g a b c d rfl) h g
noncomputable def stTry (e : Stmt) (k : List Stmt → List ExceptHandler → List Stmt → List Stmt → Pos → Option β) : Option β := dite (e.ctorIdx = 17) (fun h => Stmt.Try.elim e h k) fun _ => none
theorem stTry_ok {e : Stmt} {k : List Stmt → List ExceptHandler → List Stmt → List Stmt → Pos → Option β} (g : ∀ a b c d f, e = .Try a b c d f → Sd (k a b c d f) Q) : Sd (stTry e k) Q := Sd.dite fun h => Stmt.Try.elim (motive_2 := fun t => ∀ h, (∀ a b c d f, t = .Try a b c d f → Sd (k a b c d f) Q) → Sd (Stmt.Try.elim t h k) Q) e h (fun a b c d f h g => g a b c d f rfl) h g
noncomputable def stExpr (e : Stmt) (k : Expr → Pos → Option β) : Option β := dite (e.ctorIdx = 24) (fun h => Stmt.Expr.elim e h k) fun _ => none
theorem stExpr_ok {e : Stmt} {k : Expr → Pos → Option β} (g : ∀ a b, e = .Expr a b → Sd (k a b) Q) : Sd (stExpr e k) Q := Sd.dite fun h => Stmt.Expr.elim (motive_2 := fun t => ∀ h, (∀ a b, t = .Expr a b → Sd (k a b) Q) → Sd (Stmt.Expr.elim t h k) Q) e h (fun a b h g => g a b rfl) h g
noncomputable def stBreak (e : Stmt) (k : Pos → Option β) : Option β := dite (e.ctorIdx = 26) (fun h => Stmt.Break.elim e h k) fun _ => none
theorem stBreak_ok {e : Stmt} {k : Pos → Option β} (g : ∀ a, e = .Break a → Sd (k a) Q) : Sd (stBreak e k) Q := Sd.dite fun h => Stmt.Break.elim (motive_2 := fun t => ∀ h, (∀ a, t = .Break a → Sd (k a) Q) → Sd (Stmt.Break.elim t h k) Q) e h (fun a h g => g a rfl) h g
end
theorem and2 {a b : Bool} (h : (a && b) = true) : a = true ∧ b = true := (Bool.and_eq_true a b).mp h

noncomputable def seqL : List Nat → List Nat → Bool
  | [], [] => true
  | a :: r, b :: s => Nat.beq a b && seqL r s
  | _, _ => false
theorem seqL_eq : ∀ {a b : List Nat}, seqL a b = true → a = b
  | [], [], _ => rfl
  | a :: r, b :: s, h => by rw [Nat.eq_of_beq_eq_true (and2 h).1, seqL_eq (and2 h).2]
noncomputable def seq (a b : Str) : Bool := seqL a.cps.toList b.cps.toList
theorem seq_eq {a b : Str} (h : seq a b = true) : a = b := by
  cases a; cases b; exact congrArg Str.mk (Array.toList_inj.mp (seqL_eq h))
noncomputable def posOf : List Str → Str → Option Nat
  | [], _ => none
  | y :: r, x => cond (seq y x) (some 0) ((posOf r x).bind fun i => some (i + 1))
theorem posOf_ok {x : Str} : ∀ {vs : List Str}, Sd (posOf vs x) fun i => vs[i]? = some x
  | [] => trivial
  | y :: r => Sd.cnd2 (fun h => show (y :: r)[0]? = some x from congrArg some (seq_eq h)) fun _ => posOf_ok.bind (k := fun i => some (i + 1)) (Q := fun i => (y :: r)[i]? = some x) fun i h => h

noncomputable def isIn (is : List Nat) (e : Expr) : Bool := is.any fun i => Nat.beq i e.ctorIdx
noncomputable abbrev plE := isIn [23, 19, 16, 20, 21, 2, 25]
noncomputable abbrev plS := isIn [23, 19, 16, 20, 21, 2, 25, 3]
noncomputable abbrev noCall := isIn [23, 20, 21, 6, 8]
theorem plE_ok {e : Expr} (h : plE e = true) : (∀ env w, isTrue e env w = (do let v ← w; standAt e.pos; holding [v] (truthy v))) ∧ ∀ env x, foldedSetIterable e env x = pure x := by
  cases e <;> first | exact ⟨fun _ _ => rfl, fun _ _ => rfl⟩ | exact nomatch h
theorem plS_ok {e : Expr} (h : plS e = true) (o v : Value) : subscripted e false o v = operate [o, v] (getItem o v) := by
  cases e <;> first | rfl | exact nomatch h
theorem noCall_ok {e : Expr} (h : noCall e = true) (x : Str) (env : Env) (w : Sem Value) : attributeBase e x env w = w := by
  cases e <;> first | rfl | exact nomatch h

structure Cm where
  E : Scope → List Str → Expr → Option DE
  T : Scope → List Str → Expr → Option DT
  S : Scope → List Str → List Stmt → DS

section
variable (fns : Fn → DF) (C : Cm) (sc : Scope) (vars : List Str)
noncomputable def okG (nm : Str) : Bool := decide (sc.names.lookup nm = some .globalImplicit) && !(nm == ("__debug__" : Str))
noncomputable def kEs : List Expr → Option (List DE)
  | [] => some []
  | e :: r => cond (noStar e) ((C.E sc vars e).bind fun D => (kEs r).bind fun Ds => some (D :: Ds)) none
noncomputable def kTs : List Expr → Option (List DT)
  | [] => some []
  | e :: r => (C.T sc vars e).bind fun D => (kTs r).bind fun Ds => some (D :: Ds)
noncomputable def kO : Option Expr → Option (Option DE)
  | none => some none
  | some e => (C.E sc vars e).bind fun D => some (some D)
noncomputable def kK : Const → Option DE
  | .int i => some (dLit (.int i))
  | .str x => some (dLit (.str x.cps.toList))
  | .none => some (dLit .none)
  | .bool b => some (dLit (.bool b))
  | _ => none
noncomputable def kCmp (l : Expr) : List CmpOp → List Expr → Option DT
  | [op], [r] => (C.E sc vars l).bind fun a => (C.E sc vars r).bind fun b => cond (!behindInMarks op r) (some (tCmp op a b)) none
  | [op, op'], [r, q] => (C.E sc vars l).bind fun a => (C.E sc vars r).bind fun b => (C.E sc vars q).bind fun c => cond (!lastMarks [op, op'] [r, q]) (some (tChain op op' a b c)) none
  | _, _ => none
noncomputable def strK (e : Expr) (k : Str → Option β) : Option β := onConstant e fun c _ _ => match c with
  | .str x => k x
  | _ => none
noncomputable def intK (e : Expr) (k : Int → Option β) : Option β := onConstant e fun c _ _ => match c with
  | .int x => k x
  | _ => none
noncomputable def kDs : List (Option Expr) → List Expr → Option (List Txt × List DE)
  | [], [] => some ([], [])
  | some q :: ks, v :: vs => strK q fun x => (C.E sc vars v).bind fun D => (kDs ks vs).bind fun r => some (x.cps.toList :: r.1, D :: r.2)
  | _, _ => none
noncomputable def kIP : List (Option Expr) → List Expr → Option (List (Txt × Int))
  | [], [] => some []
  | some q :: ks, v :: vs => strK q fun x => intK v fun i => (kIP ks vs).bind fun r => some ((x.cps.toList, i) :: r)
  | _, _ => none
noncomputable def kD (ks : List (Option Expr)) (vs : List Expr) : Option DE := cond (Nat.ble ks.length 15)
  ((kDs C sc vars ks vs).bind fun r => cond (!ks.isEmpty && decide ((r.1.map toS).Nodup)) (some (dDict r.1 r.2)) none)
  ((kIP ks vs).bind fun es => cond ((Nat.blt 17 es.length && Nat.ble es.length 32) && distinctT es) (some (dTable es)) none)
noncomputable def fnOf (x : Str) : Option Fn := Gs.find? fun g => glob g && seq x (Str.ofString (nm g))
noncomputable def kFn (x : Str) : Option DF := cond (seq x "len") (some bLen) <| cond (seq x "ord") (some bOrd) <| cond (seq x "tuple") (some bTuple) <| cond (seq x "ExprReader") (some (fns .cls)) <| (fnOf x).bind fun g => some (fns g)
noncomputable def bltM : List (Str × (V → St → Bool) × DF) := [("append", kList, bAppend), ("extend", kList, bExtend), ("index", kList, bIndexTrue), ("pop", kList, bPop), ("get", kDict, bDictGet),
  ("find", kStr, bFind), ("isalnum", kStr, bIsalnum), ("lower", kStr, bLower), ("upper", kStr, bUpper), ("startswith", kStr, bStarts),
  (Str.ofString (nm .m_sort), kInst, fns .m_sort), (Str.ofString (nm .m_value), kInst, fns .m_value), (Str.ofString (nm .m_take), kInst, fns .m_take), (Str.ofString (nm .m_level), kInst, fns .m_level)]
noncomputable def kIs (es : List Expr) : Option DE := match es with
  | [a, b] => onName b fun y _ => cond ((okG sc y && seq y "str") && (noStar a && noStar b)) ((C.E sc vars a).bind fun D => some (dIsStr D)) none
  | _ => none
noncomputable def kCall (f : Expr) (es : List Expr) (pos : Pos) : Option DE := (onName f fun x _ => cond (okG sc x) (cond (seq x "isinstance") (kIs C sc vars es) ((kEs C sc vars es).bind fun Ds => (kFn fns x).bind fun F => some (dCall F Ds))) none).or
  (onAttribute f fun o x p => cond (noCall o && (p.endLine == pos.line && Nat.blt es.length 30)) ((C.E sc vars o).bind fun a => (kEs C sc vars es).bind fun Ds => ((bltM fns).find? fun p => seq x p.1).bind fun p => some (dMeth p.2.1 p.2.2 a Ds)) none)
noncomputable def isNil {α : Type} : List α → Bool
  | [] => true
  | _ => false
noncomputable def kI (e : Expr) : Option DI := (onCall e fun f es ks _ => onName f fun x _ => match es with
  | [a] => cond (isNil ks && ((okG sc x && seq x "range") && noStar a)) ((C.E sc vars a).bind fun D => some (iRange D)) none
  | _ => none).or ((C.E sc vars e).bind fun D => some (iVal D))
noncomputable def cns : List (List Str) := [[], ["node"], ["rows", "script"], ["draws", "below"], ["pair", "least"]]
noncomputable def kCaps : List Str → Option (List Nat)
  | [] => some []
  | x :: r => (posOf vars x).bind fun i => (kCaps r).bind fun is => some (i :: is)
noncomputable def compB (scope : Scope) (x : Str) (cn : List Str) : Bool := decide ((∀ y ∈ scope.names, y.2 ≠ .cell) ∧ scope.kind = .function ∧ (∀ y ∈ scope.names, y.2 = .local → scope.names.lookup y.1 = some .local) ∧ scope.names.lookup x = some .local ∧
  (∀ y ∈ cn, scope.names.lookup y = some .free ∧ sc.names.lookup y = some .cell) ∧ (∀ y ∈ scope.names, y.2 = .free → y.1 ∈ cn) ∧ (cn ++ [x]).Nodup)
noncomputable def kComp (elt : Expr) (gs : List Comprehension) (scope : Scope) : Option DE := match gs with
  | [g] => onName g.target fun x _ => cond ((isNil g.ifs && decide (g.is_async = 0)) && plE g.iter) ((cns.find? fun cn => compB sc scope x cn).bind fun cn => (kCaps vars cn).bind fun caps => (kI C sc vars g.iter).bind fun c => (C.E (relabelS scope sc) (cn ++ [x]) elt).bind fun D => some (dComp c caps D)) none
  | _ => none
noncomputable def kSub (a s : Expr) : Option DE := (C.E sc vars a).bind fun x => (onSlice s fun lo hi st _ => match st with
  | none => (kO C sc vars lo).bind fun i => (kO C sc vars hi).bind fun j => some (dSlice x i j)
  | some t => cond (lo.isNone && hi.isNone) (onUnaryOp t fun op t _ => match op with
    | .USub => intK t fun i => cond (decide (i = 1)) (some (dRev x)) none
    | _ => none) none).or (cond (plS s) ((C.E sc vars s).bind fun k => some (dIndex x k)) none)
noncomputable def flN : List Str := ["text", "tokens", "levels", "at"]
noncomputable def kBo (op : BoolOp) (es : List Expr) : Option DE := match es with
  | [x, y] => (C.E sc vars x).bind fun a => (C.E sc vars y).bind fun b => match op with
    | .And => some (dAnd a b)
    | .Or => some (dOr a b)
  | _ => none
noncomputable def kE (e : Expr) : Option DE :=
  (onName e fun x _ => cond (!(x == ("__debug__" : Str))) ((posOf vars x).bind fun i => some (dVar i)) none).or <|
  (onConstant e fun c _ _ => kK c).or <|
  (onTuple e fun es _ _ => (kEs C sc vars es).bind fun Ds => cond (Nat.ble Ds.length 1000) (some (dTup Ds)) none).or <|
  (onList e fun es _ => (kEs C sc vars es).bind fun Ds => cond (Nat.ble Ds.length 1000) (some (dList Ds)) none).or <|
  (onBinOp e fun l op r _ => (C.E sc vars l).bind fun a => (C.E sc vars r).bind fun b => some (dBin op a b)).or <|
  (onUnaryOp e fun op e _ => match op with
    | .USub => (C.E sc vars e).bind fun a => some (dNeg a)
    | _ => none).or <|
  (onCompare e fun l ops rs _ => (kCmp C sc vars l ops rs).bind fun t => some (dTest t)).or <|
  (onBoolOp e fun op es _ => kBo C sc vars op es).or <|
  (onIfExp e fun t x y _ => (C.T sc vars t).bind fun T => (C.E sc vars x).bind fun a => (C.E sc vars y).bind fun b => some (dIf T a b)).or <|
  (onCall e fun f es ks pos => cond (isNil ks) (kCall fns C sc vars f es pos) none).or <|
  (onAttribute e fun o x _ => cond (noCall o) ((C.E sc vars o).bind fun a => (posOf flN x).bind fun i => some (dAttr i a)) none).or <|
  (onSubscript e fun a s _ => kSub C sc vars a s).or <|
  (onDict e fun ks vs _ => kD C sc vars ks vs).or <|
  (onListComp e fun elt gs scope _ => kComp C sc vars elt gs scope)
noncomputable def kT (e : Expr) : Option DT :=
  (onCompare e fun l ops rs _ => kCmp C sc vars l ops rs).or <|
  (onBoolOp e fun op es _ => (kTs C sc vars es).bind fun Ds => match op with
    | .And => some (tAnds Ds)
    | .Or => some (tOrs Ds)).or <|
  (onUnaryOp e fun op e _ => match op with
    | .Not => (C.T sc vars e).bind fun t => some (tNot t)
    | _ => none).or <|
  cond (plE e) ((C.E sc vars e).bind fun a => some (tVal a)) none
noncomputable def kNames : List Expr → Option (List Nat × List Str)
  | [] => some ([], [])
  | e :: r => onName e fun x _ => (posOf vars x).bind fun i => (kNames r).bind fun q => some (i :: q.1, x :: q.2)
noncomputable def pOf {α β : Type} (m : Sem α) (k : α → Option β) : Option β := dite (m.ctorIdx = 0) (fun h => Sem.pure.elim m h k) fun _ => none
theorem pOf_ok {α β : Type} {Q : β → Prop} {m : Sem α} {k : α → Option β} (g : ∀ a, m = .pure a → Sd (k a) Q) : Sd (pOf m k) Q := Sd.dite fun h => Sem.pure.elim (motive := fun t => ∀ h, (∀ a, t = .pure a → Sd (k a) Q) → Sd (Sem.pure.elim t h k) Q) m h (fun a h g => g a rfl) h g
noncomputable def E0 (sc : Scope) : Env := ⟨sc, 0, 0, [], Str.empty, none, .none, none, 0⟩
theorem swE {v : Expr} {t : Option Expr} {l : Nat} {b : Bool} {sc : Scope} (h : swapsWith v t l (E0 sc) = .pure b) (env : Env) (e : env.scope = sc) : swapsWith v t l env = pure b := by subst e; exact h
theorem stE {ts : List Expr} {v : Expr} {r : Option (List Str)} {sc : Scope} (h : swappedStores ts v (E0 sc) = .pure r) (env : Env) (e : env.scope = sc) : swappedStores ts v env = pure r := by subst e; exact h
noncomputable def noSw (v : Expr) (t : Option Expr) (l : Nat) (k : Option β) : Option β := pOf (swapsWith v t l (E0 sc)) fun b => cond b none k
noncomputable def kAssign (t v : Expr) (l : Nat) : Option DS :=
  (onName t fun y _ => (posOf vars y).bind fun i => pOf (swapsWith v (some t) l (E0 sc)) fun b => cond b (onListComp v fun elt gs scope _ => (kComp C sc vars elt gs scope).bind fun D => some (sSet i D)) ((C.E sc vars v).bind fun a => some (sSet i a))).or <|
  (onTuple t fun es _ _ => noSw sc v (some t) l ((kNames vars es).bind fun n => (C.E sc vars v).bind fun a => pOf (swappedStores [t] v (E0 sc)) fun r => match r with
    | none => some (sSetT n.1 a)
    | some xs => cond (decide (xs = n.2) && decide n.1.Nodup) (some (sSetT n.1 a)) none)).or <|
  (onAttribute t fun o x _ => noSw sc v (some t) l ((posOf flN x).bind fun i => (C.E sc vars v).bind fun a => (C.E sc vars o).bind fun b => some (sSetA i b a))).or <|
  (onSubscript t fun o i _ => noSw sc v (some t) l ((C.E sc vars v).bind fun a => (C.E sc vars o).bind fun b => (C.E sc vars i).bind fun c => some (sSetI b c a)))
noncomputable def kS1 (st : Stmt) : Option DS :=
  (stAssign st fun ts v pos => match ts with
    | [t] => kAssign C sc vars t v pos.line
    | _ => none).or <|
  (stAugAssign st fun t op v _ => (C.E sc vars v).bind fun a => (onName t fun x _ => (posOf vars x).bind fun i => some (sAug op i a)).or (onAttribute t fun o x _ => (posOf flN x).bind fun i => (C.E sc vars o).bind fun b => some (sAugA op i b a))).or <|
  (stReturn st fun e _ => e.bind fun e => (C.E sc vars e).bind fun a => some (sRet a)).or <|
  (stExpr st fun e pos => noSw sc e none pos.line ((C.E sc vars e).bind fun a => cond (!interactive (E0 sc)) (some (sExpr a)) none)).or <|
  (stBreak st fun _ => some sBrk).or <|
  (stIf st fun t a b _ => (C.T sc vars t).bind fun T => some (sIf T (C.S sc vars a) (C.S sc vars b))).or <|
  (stWhile st fun t b o _ => cond (isNil o) ((C.T sc vars t).bind fun T => some (sWhile T (C.S sc vars b))) none).or <|
  (stFor st fun t iter b o _ => cond (isNil o && plE iter) (onName t fun x _ => (posOf vars x).bind fun k => (kI C sc vars iter).bind fun c => some (sFor c k (C.S sc vars b))) none).or <|
  (stTry st fun b hs o f _ => cond ((isNil o && isNil f) && !isNil hs) (some (C.S sc vars b)) none)
noncomputable def kS : List Stmt → DS
  | [] => sNil
  | st :: r => match kS1 C sc vars st with
    | none => sStuck
    | some a => cond (isNil r) a (sSeq a (kS r))
noncomputable def cmN : Nat → Cm
  | 0 => ⟨fun _ _ _ => none, fun _ _ _ => none, fun _ _ _ => sStuck⟩
  | n + 1 => ⟨kE fns (cmN n), kT (cmN n), kS (cmN n)⟩
end

structure CmOk (X : Cx) (d : Nat) (C : Cm) : Prop where
  E : ∀ {sc vars} e, Sd (C.E sc vars e) (SndE X d sc vars e)
  T : ∀ {sc vars} e, Sd (C.T sc vars e) (SndT X d sc vars e)
  S : ∀ {sc vars} ss, SndS X d sc vars ss (C.S sc vars ss)
theorem isNil_eq {α : Type} {l : List α} (h : isNil l = true) : l = [] := by cases l with | nil => rfl | cons => exact nomatch h
theorem all_cons {α : Type} {P : α → Prop} {a : α} {l : List α} (h : P a) (t : ∀ x ∈ l, P x) : ∀ x ∈ a :: l, P x := by
  intro x hx
  cases hx with
  | head => exact h
  | tail _ hx => exact t x hx
theorem strK_ok {β : Type} {Q : β → Prop} {e : Expr} {k : Str → Option β} (g : ∀ x n p, e = .Constant (.str x) n p → Sd (k x) Q) : Sd (strK e k) Q := onConstant_ok fun c n p h => by
  cases c with
  | str x => exact g x n p h
  | _ => exact Sd.none
theorem intK_ok {β : Type} {Q : β → Prop} {e : Expr} {k : Int → Option β} (g : ∀ x n p, e = .Constant (.int x) n p → Sd (k x) Q) : Sd (intK e k) Q := onConstant_ok fun c n p h => by
  cases c with
  | int x => exact g x n p h
  | _ => exact Sd.none
section
variable {X : Cx} {d : Nat} {C : Cm} (hC : CmOk X d C) {sc : Scope} {vars : List Str}
include hC
theorem kEs_ok : ∀ {es : List Expr}, Sd (kEs C sc vars es) (SndEs X d sc vars es)
  | [] => SndEs.nil
  | e :: r => Sd.cnd fun hs => (hC.E e).bind fun D hD => kEs_ok.bind fun Ds hDs => SndEs.cons hD (star_plain hs r) hDs
theorem kTs_ok : ∀ {es : List Expr}, Sd (kTs C sc vars es) (SndTs X d sc vars es)
  | [] => SndTs.nil
  | e :: r => (hC.T e).bind fun D hD => kTs_ok.bind fun Ds hDs => SndTs.cons hD hDs
theorem kO_ok : ∀ {e : Option Expr}, Sd (kO C sc vars e) (SndO X d sc vars e)
  | none => SndO.none
  | some e => (hC.E e).bind fun D hD => SndO.some hD
theorem kCmp_ok {l : Expr} {ops : List CmpOp} {rs : List Expr} : Sd (kCmp C sc vars l ops rs) fun t => ∀ p, SndT X d sc vars (.Compare l ops rs p) t ∧ SndE X d sc vars (.Compare l ops rs p) (dTest t) := by
  cases ops with
  | nil => trivial
  | cons op ops => cases ops with
    | nil => cases rs with
      | nil => trivial
      | cons r rs => cases rs with
        | nil => exact (hC.E l).bind fun a ha => (hC.E r).bind fun b hb => Sd.cnd fun h => fun p => ⟨SndT.cmp ha hb (Bool.not_eq_true' _ ▸ h), SndE.cmp ha hb (Bool.not_eq_true' _ ▸ h)⟩
        | cons => trivial
    | cons op' ops => cases ops with
      | cons => trivial
      | nil => cases rs with
        | nil => trivial
        | cons r rs => cases rs with
          | nil => trivial
          | cons q rs => cases rs with
            | cons => trivial
            | nil => exact (hC.E l).bind fun a ha => (hC.E r).bind fun b hb => (hC.E q).bind fun c hc => Sd.cnd fun h => fun p => ⟨SndT.chain ha hb hc (Bool.not_eq_true' _ ▸ h), SndE.chain ha hb hc (Bool.not_eq_true' _ ▸ h)⟩
theorem kDs_ok : ∀ {ks : List (Option Expr)} {vs : List Expr}, Sd (kDs C sc vars ks vs) fun r => SndDs X d sc vars ks vs r.1 r.2
  | [], [] => SndDs.nil
  | [], _ :: _ => trivial
  | none :: _, _ => trivial
  | some q :: ks, [] => trivial
  | some q :: ks, v :: vs => strK_ok fun x n p e => by
    subst e
    exact (hC.E v).bind fun D hD => kDs_ok.bind fun r hr => SndDs.cons rfl hD hr
omit hC in
theorem kIP_ok : ∀ {ks : List (Option Expr)} {vs : List Expr}, Sd (kIP ks vs) fun es => IntPairs ks vs es
  | [], [] => IntPairs.nil
  | [], _ :: _ => trivial
  | none :: _, _ => trivial
  | some q :: ks, [] => trivial
  | some q :: ks, v :: vs => strK_ok fun x n p e => by
    subst e
    exact intK_ok fun i m p e => by
      subst e
      exact kIP_ok.bind fun r hr => IntPairs.cons rfl hr
omit hC in
theorem kCaps_ok : ∀ {cn : List Str}, Sd (kCaps vars cn) fun caps => caps.map (fun j => vars[j]?) = cn.map some
  | [] => rfl
  | x :: r => posOf_ok.bind fun i hi => kCaps_ok.bind fun is his => by show vars[i]? :: _ = some x :: _; rw [hi]; exact congrArg _ his
omit hC in
theorem kNames_ok : ∀ {es : List Expr}, Sd (kNames vars es) fun n => Names vars es n.1 n.2
  | [] => Names.nil
  | e :: r => onName_ok fun x p h => by
    subst h
    exact posOf_ok.bind fun i hi => kNames_ok.bind fun q hq => Names.cons hi hq
omit hC in
theorem okG_ok {x : Str} (h : okG sc x = true) : sc.names.lookup x = some .globalImplicit ∧ (x == ("__debug__" : Str)) = false := ⟨of_decide_eq_true (and2 h).1, (Bool.not_eq_true' _).mp (and2 h).2⟩

variable (Y : Ctxt X)
include Y
theorem kI_ok {e : Expr} : Sd (kI C sc vars e) (SndI X d sc vars e) := by
  refine Sd.or (onCall_ok fun f es ks pos h => onName_ok fun x p h2 => ?_) ((hC.E e).bind fun D hD => SndI.val hD)
  subst h h2
  cases es with
  | nil => trivial
  | cons a es => cases es with
    | cons => trivial
    | nil =>
        refine Sd.cnd fun q => (hC.E a).bind fun D hD => ?_
        obtain ⟨q1, q2, q3⟩ : isNil ks = true ∧ (okG sc x && seq x "range") = true ∧ noStar a = true := ⟨(and2 q).1, and2 (and2 q).2⟩
        obtain rfl := isNil_eq q1
        obtain rfl := seq_eq (and2 q2).2
        obtain ⟨g1, g2⟩ := okG_ok (and2 q2).1
        exact SndI.range Y.ok g1 g2 Y.b_range (by kernel_rfl) (by decide +kernel) hD fun env => star_plain q3 [] env
theorem kComp_ok {elt : Expr} {gs : List Comprehension} {scope : Scope} : Sd (kComp C sc vars elt gs scope) fun D => ∃ x px iter caps cn c D', gs = [⟨.Name x px, iter, [], 0⟩] ∧ CompOk scope sc vars x caps cn ∧ SndI X d sc vars iter c ∧ SndE X d (relabelS scope sc) (cn ++ [x]) elt D' ∧ (∀ env x, foldedSetIterable iter env x = pure x) ∧ D = dComp c caps D' := by
  cases gs with
  | nil => trivial
  | cons g gs => cases gs with
    | cons => trivial
    | nil =>
      obtain ⟨t, iter, ifs, a⟩ := g
      refine onName_ok fun x px h => Sd.cnd fun q => Sd.self.bind fun cn hcn => kCaps_ok.bind fun caps hcaps => (kI_ok hC Y).bind fun c hc => (hC.E elt).bind fun D hD => ?_
      have hq := List.find?_some hcn
      have hq := of_decide_eq_true hq
      obtain rfl : t = _ := h
      obtain rfl : ifs = [] := isNil_eq (and2 (and2 q).1).1
      obtain rfl : a = 0 := of_decide_eq_true (and2 (and2 q).1).2
      exact ⟨x, px, iter, caps, cn, c, D, rfl, ⟨hq.1, hq.2.1, hq.2.2.1, hq.2.2.2.1, hcaps, hq.2.2.2.2.1, hq.2.2.2.2.2.1, hq.2.2.2.2.2.2⟩, hc, hD, (plE_ok (and2 q).2).2, rfl⟩
theorem kIs_ok {es : List Expr} {x : Str} {p pos : Pos} (hx : okG sc x = true) (hn : seq x "isinstance" = true) : Sd (kIs C sc vars es) (SndE X d sc vars (.Call (.Name x p) es [] pos)) := by
  obtain rfl := seq_eq hn
  obtain ⟨g1, g2⟩ := okG_ok hx
  cases es with
  | nil => trivial
  | cons a es => cases es with
    | nil => trivial
    | cons b es => cases es with
      | cons => trivial
      | nil =>
          refine onName_ok fun y p' h => Sd.cnd fun q => (hC.E a).bind fun D hD => ?_
          subst h
          obtain rfl := seq_eq (and2 (and2 q).1).2
          obtain ⟨g3, g4⟩ := okG_ok (and2 (and2 q).1).1
          exact SndE.isStr Y.ok g1 g2 Y.b_isinstance (by kernel_rfl) (by decide +kernel) g3 g4 Y.b_str (by kernel_rfl) (by decide +kernel) hD fun env => (star_plain (and2 (and2 q).2).1 _ env).trans (congrArg _ (star_plain (and2 (and2 q).2).2 _ env))
variable {fns : Fn → DF} (H : ∀ g, SndFn X d (addr g) (fns g))
include H
omit hC in
theorem kFn_ok {x : Str} (hx : okG sc x = true) {es : List Expr} {Ds : List DE} {p pos : Pos} (h : SndEs X d sc vars es Ds) : Sd (kFn fns x) fun F => SndE X d sc vars (.Call (.Name x p) es [] pos) (dCall F Ds) := by
  obtain ⟨g1, g2⟩ := okG_ok hx
  refine Sd.cnd2 (fun q => ?_) fun _ => Sd.cnd2 (fun q => ?_) fun _ => Sd.cnd2 (fun q => ?_) fun _ => Sd.cnd2 (fun q => ?_) fun _ => Sd.self.bind fun g hg => ?_
  · obtain rfl := seq_eq q; exact SndE.callB Y.ok g1 g2 Y.b_len (by kernel_rfl) (by decide +kernel) bLen_sound h
  · obtain rfl := seq_eq q; exact SndE.callB Y.ok g1 g2 Y.b_ord (by kernel_rfl) (by decide +kernel) bOrd_sound h
  · obtain rfl := seq_eq q; exact SndE.callT Y.ok g1 g2 Y.b_tuple (by kernel_rfl) (by decide +kernel) bTuple_sound h
  · obtain rfl := seq_eq q; exact SndE.call Y.ok g1 g2 Y.good.cn Y.good.ck (H .cls) h
  · have q := List.find?_some hg
    have q := and2 q
    obtain rfl := seq_eq q.2
    exact SndE.call Y.ok g1 g2 (gN Y q.1) (gK Y (gF_le q.1)) (H g) h
noncomputable def Mth (X : Cx) (d : Nat) (q : Str × (V → St → Bool) × DF) : Prop := (∃ id, Finds X q.2.1 q.1 (.builtin id) ∧ SndB X d (.builtin id) q.2.2) ∨ ∃ f, Finds X q.2.1 q.1 (.ref f) ∧ keepIn X.K (.ref f) = true ∧ SndFn X d f q.2.2
omit hC in
theorem bltM_ok : ∀ q ∈ bltM fns, Mth X d q :=
  all_cons (.inl ⟨_, finds_list F.slot_list_append F.type_list_append, bAppend_sound⟩) <| all_cons (.inl ⟨_, finds_list F.slot_list_extend F.type_list_extend, bExtend_sound⟩) <|
  all_cons (.inl ⟨_, finds_list F.slot_list_index F.type_list_index, bIndexTrue_sound⟩) <| all_cons (.inl ⟨_, finds_list F.slot_list_pop F.type_list_pop, bPop_sound⟩) <|
  all_cons (.inl ⟨_, finds_dict F.slot_dict_get F.type_dict_get, bDictGet_sound⟩) <| all_cons (.inl ⟨_, finds_str F.slot_str_find F.type_str_find, bFind_sound⟩) <|
  all_cons (.inl ⟨_, finds_str F.slot_str_isalnum F.type_str_isalnum, bIsalnum_sound⟩) <| all_cons (.inl ⟨_, finds_str F.slot_str_lower F.type_str_lower, bLower_sound⟩) <|
  all_cons (.inl ⟨_, finds_str F.slot_str_upper F.type_str_upper, bUpper_sound⟩) <| all_cons (.inl ⟨_, finds_str F.slot_str_startswith F.type_str_startswith, bStarts_sound⟩) <|
  all_cons (.inr ⟨_, gF Y 1 rfl (by kernel_rfl), gK Y rfl, H .m_sort⟩) <| all_cons (.inr ⟨_, gF Y 2 rfl (by kernel_rfl), gK Y rfl, H .m_value⟩) <|
  all_cons (.inr ⟨_, gF Y 3 rfl (by kernel_rfl), gK Y rfl, H .m_take⟩) <| all_cons (.inr ⟨_, gF Y 4 rfl (by kernel_rfl), gK Y rfl, H .m_level⟩) nofun
omit hC Y H in
theorem meth_form {o : Expr} {x : Str} {p pos : Pos} {es : List Expr} {Ds : List DE} (h : SndEs X d sc vars es Ds) (ho : noCall o = true) (hp : (p.endLine == pos.line) = true) (hl : es.length < 30) (env : Env) : ∃ pl, eval (.Call (.Attribute o x p) es [] pos) env = (do
      let ov ← eval o env
      standAt p.atName
      let (f, first) ← holding [ov] (getMethod ov x pl)
      callWith pos f first (backTo pos (starEach es env)) (backToKw pos (keywordEach [] env))) := by
  have hf : methodCallForm (es.length + 0) (backTo pos (starEach es env)) (backToKw pos (keywordEach [] env)) = true := by
    have := sndEs_plain h pos env
    unfold methodCallForm
    rw [Bool.and_eq_true, Bool.and_eq_true]
    refine ⟨⟨?_, rfl⟩, decide_eq_true hl⟩
    rw [List.all_eq_not_any_not]
    simpa using this
  refine ⟨do return (← importBound o env).getD true, ?_⟩
  show (do
      let ov ← attributeBase o x env (eval o env)
      standAt p.atName
      methodCall o x p pos env ov (es.length + 0) (backTo pos (starEach es env)) (backToKw pos (keywordEach [] env))) = _
  rw [noCall_ok ho]
  unfold methodCall
  rw [hf]
  have : methodCallPos true o env p pos = pure pos := by unfold methodCallPos; rw [hp]; rfl
  rw [this]
  rfl
theorem kCall_ok {f : Expr} {es : List Expr} {pos : Pos} : Sd (kCall fns C sc vars f es pos) (SndE X d sc vars (.Call f es [] pos)) := by
  refine Sd.or (onName_ok fun x p h => ?_) (onAttribute_ok fun o x p h => ?_)
  · subst h
    exact Sd.cnd fun hx => Sd.cnd2 (fun q => kIs_ok hC Y hx q) fun _ => (kEs_ok hC).bind fun Ds hDs => (kFn_ok Y H hx hDs).bind fun F hF => hF
  · subst h
    refine Sd.cnd fun q => (hC.E o).bind fun a ha => (kEs_ok hC).bind fun Ds hDs => Sd.self.bind fun m hm => ?_
    obtain ⟨q1, q2, q3⟩ : noCall o = true ∧ (p.endLine == pos.line) = true ∧ Nat.blt es.length 30 = true := ⟨(and2 q).1, and2 (and2 q).2⟩
    have he := fun env => meth_form hDs q1 q2 (Nat.le_of_ble_eq_true q3) env (x := x)
    have hx := List.find?_some hm
    have hx := seq_eq hx
    rcases bltM_ok Y H m (List.mem_of_find?_eq_some hm) with ⟨id, h1, h2⟩ | ⟨f, h1, h2, h3⟩
    · rw [← hx] at h1; exact SndE.methB ha h1 h2 hDs he
    · rw [← hx] at h1; exact SndE.methF Y.ok ha h1 h2 h3 hDs he
omit Y H hC in
theorem kK_ok {c : Const} {k : Nat} {p : Pos} : Sd (kK c) (SndE X d sc vars (.Constant c k p)) := by
  cases c with
  | int i => exact SndE.int
  | str x => exact SndE.str rfl
  | none => exact SndE.none
  | bool b => exact SndE.bool
  | _ => exact Sd.none
omit H in
theorem kD_ok {ks : List (Option Expr)} {vs : List Expr} {p : Pos} : Sd (kD C sc vars ks vs) (SndE X d sc vars (.Dict ks vs p)) :=
  Sd.cnd2 (fun q => (kDs_ok hC).bind fun r hr => Sd.cnd fun q2 => SndE.dict Y.ok hr (fun h => by rw [h] at q2; exact nomatch q2) (Nat.le_of_ble_eq_true q) (of_decide_eq_true (and2 q2).2))
    fun _ => kIP_ok.bind fun es he => Sd.cnd fun q => SndE.tableT Y.ok he (and2 q).1 (and2 q).2
omit Y H in
theorem kSub_ok {a s : Expr} {p : Pos} : Sd (kSub C sc vars a s) (SndE X d sc vars (.Subscript a s p)) := (hC.E a).bind fun x hx => by
  refine Sd.or (onSlice_ok fun lo hi st q h => ?_) (Sd.cnd fun h => (hC.E s).bind fun k hk => SndE.index hx hk (plS_ok h))
  subst h
  cases st with
  | none => exact (kO_ok hC).bind fun i hi => (kO_ok hC).bind fun j hj => SndE.slice hx hi hj
  | some t =>
    refine Sd.cnd fun g => onUnaryOp_ok fun op t' q h => ?_
    subst h
    obtain rfl := Option.isNone_iff_eq_none.mp (and2 g).1
    obtain rfl := Option.isNone_iff_eq_none.mp (and2 g).2
    cases op with
    | USub =>
      refine intK_ok fun i n q h => Sd.cnd fun g => ?_
      subst h
      obtain rfl : i = 1 := of_decide_eq_true g
      exact SndE.rev hx (SndE.neg SndE.int)
    | _ => exact Sd.none
omit Y H in
theorem kBo_ok {op : BoolOp} {es : List Expr} {p : Pos} : Sd (kBo C sc vars op es) (SndE X d sc vars (.BoolOp op es p)) := by
  cases es with
  | nil => trivial
  | cons x es => cases es with
    | nil => trivial
    | cons y es => cases es with
      | cons => trivial
      | nil => exact (hC.E x).bind fun a ha => (hC.E y).bind fun b hb => match op with
        | .And => SndE.and ha hb
        | .Or => SndE.or ha hb
omit hC H in
theorem fl_ok {x : Str} : Sd (posOf flN x) fun i => X.names[i]? = some x := by rw [Y.names]; exact posOf_ok
theorem kE_ok {e : Expr} : Sd (kE fns C sc vars e) (SndE X d sc vars e) := by
  refine Sd.or (onName_ok fun x p h => ?_) <| Sd.or (onConstant_ok fun c k p h => h ▸ kK_ok) <| Sd.or (onTuple_ok fun es k p h => h ▸ (kEs_ok hC).bind fun Ds hDs => Sd.cnd fun q => SndE.tuple hDs (Nat.le_of_ble_eq_true q)) <|
    Sd.or (onList_ok fun es p h => h ▸ (kEs_ok hC).bind fun Ds hDs => Sd.cnd fun q => SndE.list hDs (Nat.le_of_ble_eq_true q)) <| Sd.or (onBinOp_ok fun l op r p h => h ▸ (hC.E l).bind fun a ha => (hC.E r).bind fun b hb => SndE.bin ha hb) <|
    Sd.or (onUnaryOp_ok fun op t p h => ?_) <| Sd.or (onCompare_ok fun l ops rs p h => h ▸ (kCmp_ok hC).bind fun t ht => (ht p).2) <| Sd.or (onBoolOp_ok fun op es p h => h ▸ kBo_ok hC) <|
    Sd.or (onIfExp_ok fun t x y p h => h ▸ (hC.T t).bind fun T hT => (hC.E x).bind fun a ha => (hC.E y).bind fun b hb => SndE.ite hT ha hb) <| Sd.or (onCall_ok fun f es ks p h => Sd.cnd fun q => ?_) <|
    Sd.or (onAttribute_ok fun o x p h => h ▸ Sd.cnd fun q => (hC.E o).bind fun a ha => (fl_ok Y).bind fun i hi => SndE.attr Y.ok Y.C ha hi fun env => ?_) <|
    Sd.or (onSubscript_ok fun a s p h => h ▸ kSub_ok hC) <| Sd.or (onDict_ok fun ks vs p h => h ▸ kD_ok hC Y) <| onListComp_ok fun elt gs scope p h => h ▸ Sd.mono (kComp_ok hC Y) fun D hD => ?_
  · subst h; exact Sd.cnd fun q => posOf_ok.bind fun i hi => SndE.var hi ((Bool.not_eq_true' _).mp q)
  · subst h
    cases op with
    | USub => exact (hC.E t).bind fun a ha => SndE.neg ha
    | _ => exact Sd.none
  · subst h; obtain rfl := isNil_eq q; exact kCall_ok hC Y H
  · show (do
      let o' ← attributeBase o x env (eval o env)
      standAt p.atName
      let r ← holding [o'] (getAttr o' x true)
      letTemporaryGo o o' r
      pure r) = _
    rw [noCall_ok q]
  · obtain ⟨x, px, iter, caps, cn, c, D', rfl, h1, h2, h3, h4, rfl⟩ := hD
    exact SndE.comp h1 h2 h3 h4
omit Y H in
theorem kT_ok {e : Expr} : Sd (kT C sc vars e) (SndT X d sc vars e) := by
  refine Sd.or (onCompare_ok fun l ops rs p h => h ▸ Sd.mono (kCmp_ok hC) fun t ht => (ht p).1) <| Sd.or (onBoolOp_ok fun op es p h => h ▸ (kTs_ok hC).bind fun Ds hDs => match op with
    | .And => SndT.ands hDs
    | .Or => SndT.ors hDs) <| Sd.or (onUnaryOp_ok fun op t p h => ?_) <| Sd.cnd fun q => (hC.E e).bind fun a ha => SndT.val ha (plE_ok q).1
  subst h
  cases op with
  | Not => exact (hC.T t).bind fun T hT => SndT.not hT
  | _ => exact Sd.none
omit Y H hC in
theorem noSw_ok {β : Type} {Q : β → Prop} {v : Expr} {t : Option Expr} {l : Nat} {k : Option β} (g : (∀ env : Env, env.scope = sc → swapsWith v t l env = pure false) → Sd k Q) : Sd (noSw sc v t l k) Q := pOf_ok fun b h => by
  cases b with
  | true => trivial
  | false => exact g (swE h)
omit H in
theorem kAssign_ok {t v : Expr} {pos : Pos} : Sd (kAssign C sc vars t v pos.line) (SndS1 X d sc vars (.Assign [t] v pos)) := by
  refine Sd.or (onName_ok fun y p h => posOf_ok.bind fun i hi => pOf_ok fun b hb => Sd.cnd2 (fun q => onListComp_ok fun elt gs scope p' h' => (kComp_ok hC Y).bind fun D hD => ?_) fun q => (hC.E v).bind fun a ha => ?_) <|
    Sd.or (onTuple_ok fun es k p h => noSw_ok fun hs => kNames_ok.bind fun n hn => (hC.E v).bind fun a ha => pOf_ok fun r hr => ?_) <|
    Sd.or (onAttribute_ok fun o x p h => noSw_ok fun hs => (fl_ok Y).bind fun i hi => (hC.E v).bind fun a ha => (hC.E o).bind fun b hb => ?_) <|
    onSubscript_ok fun o i p h => noSw_ok fun hs => (hC.E v).bind fun a ha => (hC.E o).bind fun b hb => (hC.E i).bind fun c hc => ?_
  · subst h h' q
    obtain ⟨x, px, iter, caps, cn, c, D', rfl, h1, h2, h3, h4, rfl⟩ := hD
    exact SndS1.setComp h1 h2 h3 h4 hi (swE hb)
  · subst h q; exact SndS1.set hi ha (swE hb)
  · subst h
    cases r with
    | none => exact SndS1.tupN hn ha hs (stE hr)
    | some xs =>
      refine Sd.cnd fun q => ?_
      obtain rfl : xs = n.2 := of_decide_eq_true (and2 q).1
      exact SndS1.tupS hn (of_decide_eq_true (and2 q).2) ha hs (stE hr)
  · subst h; exact SndS1.setA Y.ok Y.C hi ha hb hs
  · subst h; exact SndS1.setI ha hb hc hs
omit H in
theorem kS1_ok {st : Stmt} : Sd (kS1 C sc vars st) (SndS1 X d sc vars st) := by
  refine Sd.or (stAssign_ok fun ts v p h => ?_) <| Sd.or (stAugAssign_ok fun t op v p h => (hC.E v).bind fun a ha => Sd.or (onName_ok fun x q h2 => posOf_ok.bind fun i hi => ?_) <| onAttribute_ok fun o x q h2 => (fl_ok Y).bind fun i hi => (hC.E o).bind fun b hb => ?_) <|
    Sd.or (stReturn_ok fun e p h => Sd.self.bind fun e' he => (hC.E e').bind fun a ha => ?_) <| Sd.or (stExpr_ok fun e p h => noSw_ok fun hs => (hC.E e).bind fun a ha => Sd.cnd fun q => ?_) <| Sd.or (stBreak_ok fun p h => h ▸ SndS1.brk) <|
    Sd.or (stIf_ok fun t a b p h => h ▸ (hC.T t).bind fun T hT => SndS1.ite hT (hC.S a) (hC.S b)) <| Sd.or (stWhile_ok fun t b o p h => Sd.cnd fun q => (hC.T t).bind fun T hT => ?_) <|
    Sd.or (stFor_ok fun t iter b o p h => Sd.cnd fun q => onName_ok fun x px h2 => posOf_ok.bind fun k hk => (kI_ok hC Y).bind fun c hc => ?_) <| stTry_ok fun b hs o f p h => Sd.cnd fun q => ?_
  · subst h
    cases ts with
    | nil => trivial
    | cons t ts => cases ts with
      | cons => trivial
      | nil => exact kAssign_ok hC Y
  · subst h h2; exact SndS1.aug hi ha
  · subst h h2; exact SndS1.augA Y.ok Y.C hi hb ha
  · subst h he; exact SndS1.ret ha
  · subst h; exact SndS1.expr ha hs fun env e => by subst e; exact (Bool.not_eq_true' _).mp q
  · subst h; obtain rfl := isNil_eq q; exact SndS1.while hT (hC.S b)
  · subst h h2; obtain rfl := isNil_eq (and2 q).1; exact SndS1.for hk hc (hC.S b) (plE_ok (and2 q).2).2
  · subst h
    obtain rfl := isNil_eq (and2 (and2 q).1).1
    obtain rfl := isNil_eq (and2 (and2 q).1).2
    cases hs with
    | nil => exact nomatch (and2 q).2
    | cons h hs => exact SndS1.try (hC.S b)
omit H in
theorem kS_ok : ∀ {ss : List Stmt}, SndS X d sc vars ss (kS C sc vars ss)
  | [] => SndS.nil
  | st :: r => by
    have h := kS1_ok hC Y (sc := sc) (vars := vars) (st := st)
    unfold kS
    cases hk : kS1 C sc vars st with
    | none => exact SndS.stuck
    | some a =>
      have h := h.at hk
      cases r with
      | nil => exact SndS.one h
      | cons s r => exact SndS.cons h kS_ok
end
section
variable {X : Cx} {d : Nat} (Y : Ctxt X) {fns : Fn → DF} (H : ∀ g, SndFn X d (addr g) (fns g))
include Y H
theorem cmN_ok : ∀ n, CmOk X d (cmN fns n)
  | 0 => ⟨fun _ => trivial, fun _ => trivial, fun _ => SndS.stuck⟩
  | n + 1 => ⟨fun _ => kE_ok (cmN_ok n) Y H, fun _ => kT_ok (cmN_ok n), fun _ => kS_ok (cmN_ok n) Y⟩
noncomputable def bodyL (fd : FuncData) : List Stmt := match fd.body with
  | .stmts b => b
  | .expr _ => []
noncomputable def kF (fns : Fn → DF) (fd : FuncData) (vars : List Str) : DS := kS (cmN fns 40) fd.scope vars (bodyL fd)
noncomputable def okF (fd : FuncData) (vars : List Str) : Bool := ((match fd.body with | .stmts _ => true | .expr _ => false) && isNil fd.closure) && decide (fd.globals = mainGlobals ∧ fd.builtins = builtinsNs ∧ vars.all (okKind fd.scope.names) = true ∧ vars.Nodup ∧ fd.scope.isCoroutine = false ∧ fd.scope.isGenerator = false ∧ fd.scope.kind = .function)
theorem sndF {f : Addr} {fd : FuncData} {ps extra : List Str} {b : DS} (hK : (X.K.lookup f).map (·.data) = some (.func fd)) (hcd : codeIn X.K fd.code fd.qualname = true)
    (hbind : ∀ (s : Shared) (vals : List Value), X.K.In s.heap → vals.length = ps.length → BindsTo s fd ⟨vals, []⟩ (ps.zip vals)) (ho : okF fd (ps ++ extra) = true) (hb : kF fns fd (ps ++ extra) = b) : SndFnC X (d + 1) f (dFn ps.length extra.length b) := by
  obtain ⟨h1, h2, h3, h4, h5, h6, h7⟩ := of_decide_eq_true (and2 ho).2
  have e : fd.body = .stmts (bodyL fd) := by
    have := (and2 (and2 ho).1).1
    unfold bodyL
    cases hb : fd.body with
    | stmts => rfl
    | expr => rw [hb] at this; exact nomatch this
  exact SndFnC.ofK Y.ok hK hcd e hbind (isNil_eq (and2 (and2 ho).1).2) h1 h2 h3 h4 (hb ▸ kS_ok (cmN_ok Y H 40) Y) h5 h6 h7
end
end Mine
set_option maxHeartbeats 4000000
namespace Mine
section
variable {X : Cx} (Y : Ctxt X) {d : Nat} {fns : Fn → DF} (H : ∀ g, SndFn X d (addr g) (fns g))
include Y H
theorem s_f_is_blank : SndFnC X (d + 1) (addr .f_is_blank) (dFn 1 0 (b_f_is_blank fns)) := sndF Y H (fd := fdOf .f_is_blank) (ps := [Str.ofString "c"]) (extra := []) (Y.fn (g := .f_is_blank) rfl) (Y.cd (g := .f_is_blank) rfl) (binds1 (fun _ => rfl)) (by kernel_rfl) (by kernel_rfl)
theorem s_f_digit : SndFnC X (d + 1) (addr .f_digit) (dFn 1 1 (b_f_digit fns)) := sndF Y H (fd := fdOf .f_digit) (ps := [Str.ofString "c"]) (extra := [Str.ofString "n"]) (Y.fn (g := .f_digit) rfl) (Y.cd (g := .f_digit) rfl) (binds1 (fun _ => rfl)) (by kernel_rfl) (by kernel_rfl)
theorem s_f_digits_value : SndFnC X (d + 1) (addr .f_digits_value) (dFn 2 3 (b_f_digits_value fns)) := sndF Y H (fd := fdOf .f_digits_value) (ps := [Str.ofString "text", Str.ofString "base"]) (extra := [Str.ofString "value", Str.ofString "c", Str.ofString "n"]) (Y.fn (g := .f_digits_value) rfl) (Y.cd (g := .f_digits_value) rfl) (binds2 (fun _ _ => rfl)) (by kernel_rfl) (by kernel_rfl)
theorem s_f_base_of : SndFnC X (d + 1) (addr .f_base_of) (dFn 1 0 (b_f_base_of fns)) := sndF Y H (fd := fdOf .f_base_of) (ps := [Str.ofString "mark"]) (extra := []) (Y.fn (g := .f_base_of) rfl) (Y.cd (g := .f_base_of) rfl) (binds1 (fun _ => rfl)) (by kernel_rfl) (by kernel_rfl)
theorem s_f_whole_of : SndFnC X (d + 1) (addr .f_whole_of) (dFn 1 5 (b_f_whole_of fns)) := sndF Y H (fd := fdOf .f_whole_of) (ps := [Str.ofString "text"]) (extra := [Str.ofString "first", Str.ofString "behind", Str.ofString "is_minus", Str.ofString "base", Str.ofString "value"]) (Y.fn (g := .f_whole_of) rfl) (Y.cd (g := .f_whole_of) rfl) (binds1 (fun _ => rfl)) (by kernel_rfl) (by kernel_rfl)
theorem s_f_bool_of : SndFnC X (d + 1) (addr .f_bool_of) (dFn 1 3 (b_f_bool_of fns)) := sndF Y H (fd := fdOf .f_bool_of) (ps := [Str.ofString "text"]) (extra := [Str.ofString "value", Str.ofString "low", Str.ofString "word"]) (Y.fn (g := .f_bool_of) rfl) (Y.cd (g := .f_bool_of) rfl) (binds1 (fun _ => rfl)) (by kernel_rfl) (by kernel_rfl)
theorem s_f_is_gap : SndFnC X (d + 1) (addr .f_is_gap) (dFn 1 0 (b_f_is_gap fns)) := sndF Y H (fd := fdOf .f_is_gap) (ps := [Str.ofString "c"]) (extra := []) (Y.fn (g := .f_is_gap) rfl) (Y.cd (g := .f_is_gap) rfl) (binds1 (fun _ => rfl)) (by kernel_rfl) (by kernel_rfl)
theorem s_f_skip_gaps : SndFnC X (d + 1) (addr .f_skip_gaps) (dFn 2 0 (b_f_skip_gaps fns)) := sndF Y H (fd := fdOf .f_skip_gaps) (ps := [Str.ofString "text", Str.ofString "at"]) (extra := []) (Y.fn (g := .f_skip_gaps) rfl) (Y.cd (g := .f_skip_gaps) rfl) (binds2 (fun _ _ => rfl)) (by kernel_rfl) (by kernel_rfl)
theorem s_f_skip_to_command : SndFnC X (d + 1) (addr .f_skip_to_command) (dFn 2 0 (b_f_skip_to_command fns)) := sndF Y H (fd := fdOf .f_skip_to_command) (ps := [Str.ofString "text", Str.ofString "at"]) (extra := []) (Y.fn (g := .f_skip_to_command) rfl) (Y.cd (g := .f_skip_to_command) rfl) (binds2 (fun _ _ => rfl)) (by kernel_rfl) (by kernel_rfl)
theorem s_f_read_name : SndFnC X (d + 1) (addr .f_read_name) (dFn 2 0 (b_f_read_name fns)) := sndF Y H (fd := fdOf .f_read_name) (ps := [Str.ofString "text", Str.ofString "at"]) (extra := []) (Y.fn (g := .f_read_name) rfl) (Y.cd (g := .f_read_name) rfl) (binds2 (fun _ _ => rfl)) (by kernel_rfl) (by kernel_rfl)
theorem s_f_variable : SndFnC X (d + 1) (addr .f_variable) (dFn 2 4 (b_f_variable fns)) := sndF Y H (fd := fdOf .f_variable) (ps := [Str.ofString "text", Str.ofString "at"]) (extra := [Str.ofString "begin", Str.ofString "close", Str.ofString "behind", Str.ofString "index"]) (Y.fn (g := .f_variable) rfl) (Y.cd (g := .f_variable) rfl) (binds2 (fun _ _ => rfl)) (by kernel_rfl) (by kernel_rfl)
theorem s_f_brackets : SndFnC X (d + 1) (addr .f_brackets) (dFn 2 3 (b_f_brackets fns)) := sndF Y H (fd := fdOf .f_brackets) (ps := [Str.ofString "text", Str.ofString "at"]) (extra := [Str.ofString "begin", Str.ofString "place", Str.ofString "command"]) (Y.fn (g := .f_brackets) rfl) (Y.cd (g := .f_brackets) rfl) (binds2 (fun _ _ => rfl)) (by kernel_rfl) (by kernel_rfl)
theorem s_f_braces : SndFnC X (d + 1) (addr .f_braces) (dFn 2 7 (b_f_braces fns)) := sndF Y H (fd := fdOf .f_braces) (ps := [Str.ofString "text", Str.ofString "at"]) (extra := [Str.ofString "size", Str.ofString "begin", Str.ofString "place", Str.ofString "made", Str.ofString "depth", Str.ofString "blank", Str.ofString "behind"]) (Y.fn (g := .f_braces) rfl) (Y.cd (g := .f_braces) rfl) (binds2 (fun _ _ => rfl)) (by kernel_rfl) (by kernel_rfl)
theorem s_f_parts_until : SndFnC X (d + 1) (addr .f_parts_until) (dFn 3 7 (b_f_parts_until fns)) := sndF Y H (fd := fdOf .f_parts_until) (ps := [Str.ofString "text", Str.ofString "at", Str.ofString "stops"]) (extra := [Str.ofString "parts", Str.ofString "run", Str.ofString "size", Str.ofString "part", Str.ofString "script", Str.ofString "piece", Str.ofString "begin"]) (Y.fn (g := .f_parts_until) rfl) (Y.cd (g := .f_parts_until) rfl) (binds3 (fun _ _ _ => rfl)) (by kernel_rfl) (by kernel_rfl)
theorem s_f_bare_stops : SndFnC X (d + 1) (addr .f_bare_stops) (dFn 1 0 (b_f_bare_stops fns)) := sndF Y H (fd := fdOf .f_bare_stops) (ps := [Str.ofString "is_nested"]) (extra := []) (Y.fn (g := .f_bare_stops) rfl) (Y.cd (g := .f_bare_stops) rfl) (binds1 (fun _ => rfl)) (by kernel_rfl) (by kernel_rfl)
theorem s_f_is_expanded : SndFnC X (d + 1) (addr .f_is_expanded) (dFn 2 1 (b_f_is_expanded fns)) := sndF Y H (fd := fdOf .f_is_expanded) (ps := [Str.ofString "text", Str.ofString "at"]) (extra := [Str.ofString "behind"]) (Y.fn (g := .f_is_expanded) rfl) (Y.cd (g := .f_is_expanded) rfl) (binds2 (fun _ _ => rfl)) (by kernel_rfl) (by kernel_rfl)
theorem s_f_word : SndFnC X (d + 1) (addr .f_word) (dFn 3 6 (b_f_word fns)) := sndF Y H (fd := fdOf .f_word) (ps := [Str.ofString "text", Str.ofString "at", Str.ofString "is_nested"]) (extra := [Str.ofString "is_expand", Str.ofString "sign", Str.ofString "inner", Str.ofString "behind", Str.ofString "parts", Str.ofString "close"]) (Y.fn (g := .f_word) rfl) (Y.cd (g := .f_word) rfl) (binds3 (fun _ _ _ => rfl)) (by kernel_rfl) (by kernel_rfl)
theorem s_f_command_at : SndFnC X (d + 1) (addr .f_command_at) (dFn 3 6 (b_f_command_at fns)) := sndF Y H (fd := fdOf .f_command_at) (ps := [Str.ofString "text", Str.ofString "at", Str.ofString "is_nested"]) (extra := [Str.ofString "begin", Str.ofString "size", Str.ofString "words", Str.ofString "place", Str.ofString "found", Str.ofString "end"]) (Y.fn (g := .f_command_at) rfl) (Y.cd (g := .f_command_at) rfl) (bindsD3 (fun s _ _ _ hin => binds_D hin rfl Y.good.df rfl rfl)) (by kernel_rfl) (by kernel_rfl)
theorem s_f_skip_space : SndFnC X (d + 1) (addr .f_skip_space) (dFn 2 2 (b_f_skip_space fns)) := sndF Y H (fd := fdOf .f_skip_space) (ps := [Str.ofString "text", Str.ofString "at"]) (extra := [Str.ofString "size", Str.ofString "c"]) (Y.fn (g := .f_skip_space) rfl) (Y.cd (g := .f_skip_space) rfl) (binds2 (fun _ _ => rfl)) (by kernel_rfl) (by kernel_rfl)
theorem s_f_is_digit : SndFnC X (d + 1) (addr .f_is_digit) (dFn 3 0 (b_f_is_digit fns)) := sndF Y H (fd := fdOf .f_is_digit) (ps := [Str.ofString "text", Str.ofString "at", Str.ofString "base"]) (extra := []) (Y.fn (g := .f_is_digit) rfl) (Y.cd (g := .f_is_digit) rfl) (binds3 (fun _ _ _ => rfl)) (by kernel_rfl) (by kernel_rfl)
theorem s_f_run_end : SndFnC X (d + 1) (addr .f_run_end) (dFn 2 0 (b_f_run_end fns)) := sndF Y H (fd := fdOf .f_run_end) (ps := [Str.ofString "text", Str.ofString "at"]) (extra := []) (Y.fn (g := .f_run_end) rfl) (Y.cd (g := .f_run_end) rfl) (binds2 (fun _ _ => rfl)) (by kernel_rfl) (by kernel_rfl)
theorem s_f_is_word_op : SndFnC X (d + 1) (addr .f_is_word_op) (dFn 1 0 (b_f_is_word_op fns)) := sndF Y H (fd := fdOf .f_is_word_op) (ps := [Str.ofString "word"]) (extra := []) (Y.fn (g := .f_is_word_op) rfl) (Y.cd (g := .f_is_word_op) rfl) (binds1 (fun _ => rfl)) (by kernel_rfl) (by kernel_rfl)
theorem s_f_is_float_at : SndFnC X (d + 1) (addr .f_is_float_at) (dFn 2 1 (b_f_is_float_at fns)) := sndF Y H (fd := fdOf .f_is_float_at) (ps := [Str.ofString "text", Str.ofString "at"]) (extra := [Str.ofString "c"]) (Y.fn (g := .f_is_float_at) rfl) (Y.cd (g := .f_is_float_at) rfl) (binds2 (fun _ _ => rfl)) (by kernel_rfl) (by kernel_rfl)
theorem s_f_number_token : SndFnC X (d + 1) (addr .f_number_token) (dFn 2 5 (b_f_number_token fns)) := sndF Y H (fd := fdOf .f_number_token) (ps := [Str.ofString "text", Str.ofString "at"]) (extra := [Str.ofString "base", Str.ofString "first", Str.ofString "marked", Str.ofString "behind", Str.ofString "end"]) (Y.fn (g := .f_number_token) rfl) (Y.cd (g := .f_number_token) rfl) (binds2 (fun _ _ => rfl)) (by kernel_rfl) (by kernel_rfl)
theorem s_f_op_at : SndFnC X (d + 1) (addr .f_op_at) (dFn 2 1 (b_f_op_at fns)) := sndF Y H (fd := fdOf .f_op_at) (ps := [Str.ofString "text", Str.ofString "at"]) (extra := [Str.ofString "two"]) (Y.fn (g := .f_op_at) rfl) (Y.cd (g := .f_op_at) rfl) (binds2 (fun _ _ => rfl)) (by kernel_rfl) (by kernel_rfl)
theorem s_f_sign_token : SndFnC X (d + 1) (addr .f_sign_token) (dFn 2 4 (b_f_sign_token fns)) := sndF Y H (fd := fdOf .f_sign_token) (ps := [Str.ofString "text", Str.ofString "at"]) (extra := [Str.ofString "op", Str.ofString "c", Str.ofString "behind", Str.ofString "word"]) (Y.fn (g := .f_sign_token) rfl) (Y.cd (g := .f_sign_token) rfl) (binds2 (fun _ _ => rfl)) (by kernel_rfl) (by kernel_rfl)
theorem s_f_token_at : SndFnC X (d + 1) (addr .f_token_at) (dFn 2 6 (b_f_token_at fns)) := sndF Y H (fd := fdOf .f_token_at) (ps := [Str.ofString "text", Str.ofString "at"]) (extra := [Str.ofString "c", Str.ofString "part", Str.ofString "behind", Str.ofString "script", Str.ofString "parts", Str.ofString "inner"]) (Y.fn (g := .f_token_at) rfl) (Y.cd (g := .f_token_at) rfl) (binds2 (fun _ _ => rfl)) (by kernel_rfl) (by kernel_rfl)
theorem s_f_lex : SndFnC X (d + 1) (addr .f_lex) (dFn 1 3 (b_f_lex fns)) := sndF Y H (fd := fdOf .f_lex) (ps := [Str.ofString "text"]) (extra := [Str.ofString "tokens", Str.ofString "at", Str.ofString "token"]) (Y.fn (g := .f_lex) rfl) (Y.cd (g := .f_lex) rfl) (binds1 (fun _ => rfl)) (by kernel_rfl) (by kernel_rfl)
theorem s_f_levels : SndFnC X (d + 1) (addr .f_levels) (dFn 0 0 (b_f_levels fns)) := sndF Y H (fd := fdOf .f_levels) (ps := []) (extra := []) (Y.fn (g := .f_levels) rfl) (Y.cd (g := .f_levels) rfl) (binds0 (rfl)) (by kernel_rfl) (by kernel_rfl)
theorem s_f_is_bare : SndFnC X (d + 1) (addr .f_is_bare) (dFn 1 0 (b_f_is_bare fns)) := sndF Y H (fd := fdOf .f_is_bare) (ps := [Str.ofString "reader"]) (extra := []) (Y.fn (g := .f_is_bare) rfl) (Y.cd (g := .f_is_bare) rfl) (binds1 (fun _ => rfl)) (by kernel_rfl) (by kernel_rfl)
theorem s_f_is_colon : SndFnC X (d + 1) (addr .f_is_colon) (dFn 1 0 (b_f_is_colon fns)) := sndF Y H (fd := fdOf .f_is_colon) (ps := [Str.ofString "reader"]) (extra := []) (Y.fn (g := .f_is_colon) rfl) (Y.cd (g := .f_is_colon) rfl) (binds1 (fun _ => rfl)) (by kernel_rfl) (by kernel_rfl)
theorem s_f_close : SndFnC X (d + 1) (addr .f_close) (dFn 2 0 (b_f_close fns)) := sndF Y H (fd := fdOf .f_close) (ps := [Str.ofString "reader", Str.ofString "ends"]) (extra := []) (Y.fn (g := .f_close) rfl) (Y.cd (g := .f_close) rfl) (binds2 (fun _ _ => rfl)) (by kernel_rfl) (by kernel_rfl)
theorem s_f_call_tree : SndFnC X (d + 1) (addr .f_call_tree) (dFn 2 1 (b_f_call_tree fns)) := sndF Y H (fd := fdOf .f_call_tree) (ps := [Str.ofString "reader", Str.ofString "name"]) (extra := [Str.ofString "args"]) (Y.fn (g := .f_call_tree) rfl) (Y.cd (g := .f_call_tree) rfl) (binds2 (fun _ _ => rfl)) (by kernel_rfl) (by kernel_rfl)
theorem s_f_parts_tree : SndFnC X (d + 1) (addr .f_parts_tree) (dFn 1 0 (b_f_parts_tree fns)) := sndF Y H (fd := fdOf .f_parts_tree) (ps := [Str.ofString "parts"]) (extra := []) (Y.fn (g := .f_parts_tree) rfl) (Y.cd (g := .f_parts_tree) rfl) (binds1 (fun _ => rfl)) (by kernel_rfl) (by kernel_rfl)
theorem s_f_operand : SndFnC X (d + 1) (addr .f_operand) (dFn 1 3 (b_f_operand fns)) := sndF Y H (fd := fdOf .f_operand) (ps := [Str.ofString "reader"]) (extra := [Str.ofString "sort", Str.ofString "value", Str.ofString "tree"]) (Y.fn (g := .f_operand) rfl) (Y.cd (g := .f_operand) rfl) (binds1 (fun _ => rfl)) (by kernel_rfl) (by kernel_rfl)
theorem s_f_prefixed : SndFnC X (d + 1) (addr .f_prefixed) (dFn 1 2 (b_f_prefixed fns)) := sndF Y H (fd := fdOf .f_prefixed) (ps := [Str.ofString "reader"]) (extra := [Str.ofString "ops", Str.ofString "tree"]) (Y.fn (g := .f_prefixed) rfl) (Y.cd (g := .f_prefixed) rfl) (binds1 (fun _ => rfl)) (by kernel_rfl) (by kernel_rfl)
theorem s_f_choice : SndFnC X (d + 1) (addr .f_choice) (dFn 2 1 (b_f_choice fns)) := sndF Y H (fd := fdOf .f_choice) (ps := [Str.ofString "reader", Str.ofString "test"]) (extra := [Str.ofString "first"]) (Y.fn (g := .f_choice) rfl) (Y.cd (g := .f_choice) rfl) (binds2 (fun _ _ => rfl)) (by kernel_rfl) (by kernel_rfl)
theorem s_f_joined : SndFnC X (d + 1) (addr .f_joined) (dFn 4 1 (b_f_joined fns)) := sndF Y H (fd := fdOf .f_joined) (ps := [Str.ofString "reader", Str.ofString "op", Str.ofString "level", Str.ofString "left"]) (extra := [Str.ofString "right"]) (Y.fn (g := .f_joined) rfl) (Y.cd (g := .f_joined) rfl) (binds4 (fun _ _ _ _ => rfl)) (by kernel_rfl) (by kernel_rfl)
theorem s_f_climb : SndFnC X (d + 1) (addr .f_climb) (dFn 2 3 (b_f_climb fns)) := sndF Y H (fd := fdOf .f_climb) (ps := [Str.ofString "reader", Str.ofString "least"]) (extra := [Str.ofString "tree", Str.ofString "level", Str.ofString "op"]) (Y.fn (g := .f_climb) rfl) (Y.cd (g := .f_climb) rfl) (binds2 (fun _ _ => rfl)) (by kernel_rfl) (by kernel_rfl)
theorem s_f_parse_expr : SndFnC X (d + 1) (addr .f_parse_expr) (dFn 1 2 (b_f_parse_expr fns)) := sndF Y H (fd := fdOf .f_parse_expr) (ps := [Str.ofString "text"]) (extra := [Str.ofString "reader", Str.ofString "tree"]) (Y.fn (g := .f_parse_expr) rfl) (Y.cd (g := .f_parse_expr) rfl) (binds1 (fun _ => rfl)) (by kernel_rfl) (by kernel_rfl)
theorem s_f_law_draws : SndFnC X (d + 1) (addr .f_law_draws) (dFn 1 1 (b_f_law_draws fns)) := sndF Y H (fd := fdOf .f_law_draws) (ps := [Str.ofString "script"]) (extra := [Str.ofString "rows"]) (Y.fn (g := .f_law_draws) rfl) (Y.cd (g := .f_law_draws) rfl) (binds1 (fun _ => rfl)) (by kernel_rfl) (by kernel_rfl)
theorem s_f_law_between : SndFnC X (d + 1) (addr .f_law_between) (dFn 1 0 (b_f_law_between fns)) := sndF Y H (fd := fdOf .f_law_between) (ps := [Str.ofString "q"]) (extra := []) (Y.fn (g := .f_law_between) rfl) (Y.cd (g := .f_law_between) rfl) (binds1 (fun _ => rfl)) (by kernel_rfl) (by kernel_rfl)
theorem s_f_law_hold : SndFnC X (d + 1) (addr .f_law_hold) (dFn 1 1 (b_f_law_hold fns)) := sndF Y H (fd := fdOf .f_law_hold) (ps := [Str.ofString "node"]) (extra := [Str.ofString "rows"]) (Y.fn (g := .f_law_hold) rfl) (Y.cd (g := .f_law_hold) rfl) (binds1 (fun _ => rfl)) (by kernel_rfl) (by kernel_rfl)
theorem s_f_law_number : SndFnC X (d + 1) (addr .f_law_number) (dFn 1 6 (b_f_law_number fns)) := sndF Y H (fd := fdOf .f_law_number) (ps := [Str.ofString "q"]) (extra := [Str.ofString "base", Str.ofString "mark", Str.ofString "number", Str.ofString "rest", Str.ofString "digits", Str.ofString "token"]) (Y.fn (g := .f_law_number) rfl) (Y.cd (g := .f_law_number) rfl) (binds1 (fun _ => rfl)) (by kernel_rfl) (by kernel_rfl)
theorem s_f_law_text : SndFnC X (d + 1) (addr .f_law_text) (dFn 1 2 (b_f_law_text fns)) := sndF Y H (fd := fdOf .f_law_text) (ps := [Str.ofString "q"]) (extra := [Str.ofString "at", Str.ofString "inner"]) (Y.fn (g := .f_law_text) rfl) (Y.cd (g := .f_law_text) rfl) (binds1 (fun _ => rfl)) (by kernel_rfl) (by kernel_rfl)
theorem s_f_law_parts : SndFnC X (d + 1) (addr .f_law_parts) (dFn 1 2 (b_f_law_parts fns)) := sndF Y H (fd := fdOf .f_law_parts) (ps := [Str.ofString "q"]) (extra := [Str.ofString "token", Str.ofString "parts"]) (Y.fn (g := .f_law_parts) rfl) (Y.cd (g := .f_law_parts) rfl) (binds1 (fun _ => rfl)) (by kernel_rfl) (by kernel_rfl)
theorem s_f_law_node : SndFnC X (d + 1) (addr .f_law_node) (dFn 2 7 (b_f_law_node fns)) := sndF Y H (fd := fdOf .f_law_node) (ps := [Str.ofString "draws", Str.ofString "deep"]) (extra := [Str.ofString "draw", Str.ofString "kind", Str.ofString "q", Str.ofString "below", Str.ofString "name", Str.ofString "first", Str.ofString "second"]) (Y.fn (g := .f_law_node) rfl) (Y.cd (g := .f_law_node) rfl) (binds2 (fun _ _ => rfl)) (by kernel_rfl) (by kernel_rfl)
theorem s_f_law_tree : SndFnC X (d + 1) (addr .f_law_tree) (dFn 1 1 (b_f_law_tree fns)) := sndF Y H (fd := fdOf .f_law_tree) (ps := [Str.ofString "node"]) (extra := [Str.ofString "kind"]) (Y.fn (g := .f_law_tree) rfl) (Y.cd (g := .f_law_tree) rfl) (binds1 (fun _ => rfl)) (by kernel_rfl) (by kernel_rfl)
theorem s_f_law_pieces : SndFnC X (d + 1) (addr .f_law_pieces) (dFn 1 5 (b_f_law_pieces fns)) := sndF Y H (fd := fdOf .f_law_pieces) (ps := [Str.ofString "node"]) (extra := [Str.ofString "kind", Str.ofString "hold", Str.ofString "args", Str.ofString "arg", Str.ofString "op"]) (Y.fn (g := .f_law_pieces) rfl) (Y.cd (g := .f_law_pieces) rfl) (binds1 (fun _ => rfl)) (by kernel_rfl) (by kernel_rfl)
theorem s_f_law_put : SndFnC X (d + 1) (addr .f_law_put) (dFn 3 4 (b_f_law_put fns)) := sndF Y H (fd := fdOf .f_law_put) (ps := [Str.ofString "out", Str.ofString "node", Str.ofString "least"]) (extra := [Str.ofString "is_wanted", Str.ofString "many", Str.ofString "begin", Str.ofString "piece"]) (Y.fn (g := .f_law_put) rfl) (Y.cd (g := .f_law_put) rfl) (binds3 (fun _ _ _ => rfl)) (by kernel_rfl) (by kernel_rfl)
theorem s_f_law_is_wordlike : SndFnC X (d + 1) (addr .f_law_is_wordlike) (dFn 1 0 (b_f_law_is_wordlike fns)) := sndF Y H (fd := fdOf .f_law_is_wordlike) (ps := [Str.ofString "c"]) (extra := []) (Y.fn (g := .f_law_is_wordlike) rfl) (Y.cd (g := .f_law_is_wordlike) rfl) (binds1 (fun _ => rfl)) (by kernel_rfl) (by kernel_rfl)
theorem s_f_law_joined : SndFnC X (d + 1) (addr .f_law_joined) (dFn 2 3 (b_f_law_joined fns)) := sndF Y H (fd := fdOf .f_law_joined) (ps := [Str.ofString "tokens", Str.ofString "gaps"]) (extra := [Str.ofString "text", Str.ofString "k", Str.ofString "gap"]) (Y.fn (g := .f_law_joined) rfl) (Y.cd (g := .f_law_joined) rfl) (binds2 (fun _ _ => rfl)) (by kernel_rfl) (by kernel_rfl)
theorem s_f_law_told : SndFnC X (d + 1) (addr .f_law_told) (dFn 1 0 (b_f_law_told fns)) := sndF Y H (fd := fdOf .f_law_told) (ps := [Str.ofString "text"]) (extra := []) (Y.fn (g := .f_law_told) rfl) (Y.cd (g := .f_law_told) rfl) (binds1 (fun _ => rfl)) (by kernel_rfl) (by kernel_rfl)
theorem s_m_init : SndFnC X (d + 1) (addr .m_init) (dFn 2 0 (b_m_init fns)) := sndF Y H (fd := fdOf .m_init) (ps := [Str.ofString "self", Str.ofString "text"]) (extra := []) (Y.fn (g := .m_init) rfl) (Y.cd (g := .m_init) rfl) (binds2 (fun _ _ => rfl)) (by kernel_rfl) (by kernel_rfl)
theorem s_m_sort : SndFnC X (d + 1) (addr .m_sort) (dFn 1 0 (b_m_sort fns)) := sndF Y H (fd := fdOf .m_sort) (ps := [Str.ofString "self"]) (extra := []) (Y.fn (g := .m_sort) rfl) (Y.cd (g := .m_sort) rfl) (binds1 (fun _ => rfl)) (by kernel_rfl) (by kernel_rfl)
theorem s_m_value : SndFnC X (d + 1) (addr .m_value) (dFn 1 0 (b_m_value fns)) := sndF Y H (fd := fdOf .m_value) (ps := [Str.ofString "self"]) (extra := []) (Y.fn (g := .m_value) rfl) (Y.cd (g := .m_value) rfl) (binds1 (fun _ => rfl)) (by kernel_rfl) (by kernel_rfl)
theorem s_m_take : SndFnC X (d + 1) (addr .m_take) (dFn 1 0 (b_m_take fns)) := sndF Y H (fd := fdOf .m_take) (ps := [Str.ofString "self"]) (extra := []) (Y.fn (g := .m_take) rfl) (Y.cd (g := .m_take) rfl) (binds1 (fun _ => rfl)) (by kernel_rfl) (by kernel_rfl)
theorem s_m_level : SndFnC X (d + 1) (addr .m_level) (dFn 1 0 (b_m_level fns)) := sndF Y H (fd := fdOf .m_level) (ps := [Str.ofString "self"]) (extra := []) (Y.fn (g := .m_level) rfl) (Y.cd (g := .m_level) rfl) (binds1 (fun _ => rfl)) (by kernel_rfl) (by kernel_rfl)
theorem s_law : SndFnC X (d + 1) 540 (dFn 1 11 (b_law fns)) := sndF Y H (fd := fdLaw) (ps := [Str.ofString "script"]) (extra := [Str.ofString "draws", Str.ofString "extras", Str.ofString "gaps", Str.ofString "which", Str.ofString "node", Str.ofString "tree", Str.ofString "most", Str.ofString "least", Str.ofString "pair", Str.ofString "tokens", Str.ofString "other"]) Y.good.law Y.good.lawc (binds1 (fun _ => rfl)) (by kernel_rfl) (by kernel_rfl)
end
noncomputable def AllFn (X : Cx) (d : Nat) (g : Nat) : Prop := SndFn X (d + 1) (addr g) (fn (d + 1) g)
theorem AllFn.cons {X : Cx} {d k : Nat} (h : SndFn X (d + 1) (addr k) (fn (d + 1) k)) (t : ∀ n, AllFn X d (n + (k + 1))) : ∀ n, AllFn X d (n + k)
  | 0 => by rw [Nat.zero_add]; exact h
  | n + 1 => by rw [Nat.succ_add_eq_add_succ]; exact t n
theorem sound_all {X : Cx} (Y : Ctxt X) : ∀ n, (∀ g, SndFn X n (addr g) (fn n g)) ∧ SndFnC X n (addr .m_init) (fn n .m_init)
  | 0 => ⟨fun g A vs ds σ al s r E R I rs hD => (nomatch hD), fun A vs ds σ al s R RR I rs g => False.elim g⟩
  | n + 1 => by
    have H := (sound_all Y n).1
    refine ⟨?_, s_m_init Y H⟩
    show ∀ g, AllFn X n (g + 0)
    refine AllFn.cons (k := 0) (s_f_is_blank Y H).snd ?_
    refine AllFn.cons (k := 1) (s_f_digit Y H).snd ?_
    refine AllFn.cons (k := 2) (s_f_digits_value Y H).snd ?_
    refine AllFn.cons (k := 3) (s_f_base_of Y H).snd ?_
    refine AllFn.cons (k := 4) (s_f_whole_of Y H).snd ?_
    refine AllFn.cons (k := 5) (s_f_bool_of Y H).snd ?_
    refine AllFn.cons (k := 6) (s_f_is_gap Y H).snd ?_
    refine AllFn.cons (k := 7) (s_f_skip_gaps Y H).snd ?_
    refine AllFn.cons (k := 8) (s_f_skip_to_command Y H).snd ?_
    refine AllFn.cons (k := 9) (s_f_read_name Y H).snd ?_
    refine AllFn.cons (k := 10) (s_f_variable Y H).snd ?_
    refine AllFn.cons (k := 11) (s_f_brackets Y H).snd ?_
    refine AllFn.cons (k := 12) (s_f_braces Y H).snd ?_
    refine AllFn.cons (k := 13) (s_f_parts_until Y H).snd ?_
    refine AllFn.cons (k := 14) (s_f_bare_stops Y H).snd ?_
    refine AllFn.cons (k := 15) (s_f_is_expanded Y H).snd ?_
    refine AllFn.cons (k := 16) (s_f_word Y H).snd ?_
    refine AllFn.cons (k := 17) (s_f_command_at Y H).snd ?_
    refine AllFn.cons (k := 18) (s_f_skip_space Y H).snd ?_
    refine AllFn.cons (k := 19) (s_f_is_digit Y H).snd ?_
    refine AllFn.cons (k := 20) (s_f_run_end Y H).snd ?_
    refine AllFn.cons (k := 21) (s_f_is_word_op Y H).snd ?_
    refine AllFn.cons (k := 22) (s_f_is_float_at Y H).snd ?_
    refine AllFn.cons (k := 23) (s_f_number_token Y H).snd ?_
    refine AllFn.cons (k := 24) (s_f_op_at Y H).snd ?_
    refine AllFn.cons (k := 25) (s_f_sign_token Y H).snd ?_
    refine AllFn.cons (k := 26) (s_f_token_at Y H).snd ?_
    refine AllFn.cons (k := 27) (s_f_lex Y H).snd ?_
    refine AllFn.cons (k := 28) (s_f_levels Y H).snd ?_
    refine AllFn.cons (k := 29) (s_f_is_bare Y H).snd ?_
    refine AllFn.cons (k := 30) (s_f_is_colon Y H).snd ?_
    refine AllFn.cons (k := 31) (s_f_close Y H).snd ?_
    refine AllFn.cons (k := 32) (s_f_call_tree Y H).snd ?_
    refine AllFn.cons (k := 33) (s_f_parts_tree Y H).snd ?_
    refine AllFn.cons (k := 34) (s_f_operand Y H).snd ?_
    refine AllFn.cons (k := 35) (s_f_prefixed Y H).snd ?_
    refine AllFn.cons (k := 36) (s_f_choice Y H).snd ?_
    refine AllFn.cons (k := 37) (s_f_joined Y H).snd ?_
    refine AllFn.cons (k := 38) (s_f_climb Y H).snd ?_
    refine AllFn.cons (k := 39) (s_f_parse_expr Y H).snd ?_
    refine AllFn.cons (k := 40) (s_f_law_draws Y H).snd ?_
    refine AllFn.cons (k := 41) (s_f_law_between Y H).snd ?_
    refine AllFn.cons (k := 42) (s_f_law_hold Y H).snd ?_
    refine AllFn.cons (k := 43) (s_f_law_number Y H).snd ?_
    refine AllFn.cons (k := 44) (s_f_law_text Y H).snd ?_
    refine AllFn.cons (k := 45) (s_f_law_parts Y H).snd ?_
    refine AllFn.cons (k := 46) (s_f_law_node Y H).snd ?_
    refine AllFn.cons (k := 47) (s_f_law_tree Y H).snd ?_
    refine AllFn.cons (k := 48) (s_f_law_pieces Y H).snd ?_
    refine AllFn.cons (k := 49) (s_f_law_put Y H).snd ?_
    refine AllFn.cons (k := 50) (s_f_law_is_wordlike Y H).snd ?_
    refine AllFn.cons (k := 51) (s_f_law_joined Y H).snd ?_
    refine AllFn.cons (k := 52) (s_f_law_told Y H).snd ?_
    refine AllFn.cons (k := 53) (s_m_init Y H).snd ?_
    refine AllFn.cons (k := 54) (s_m_sort Y H).snd ?_
    refine AllFn.cons (k := 55) (s_m_value Y H).snd ?_
    refine AllFn.cons (k := 56) (s_m_take Y H).snd ?_
    refine AllFn.cons (k := 57) (s_m_level Y H).snd ?_
    refine AllFn.cons (k := 58) ?_ fun m A vs ds σ al s r E R I rs hD => ?_
    · have e : addr .cls = X.C := Y.hC.symm
      show SndFn X (n + 1) (addr .cls) _
      rw [e]
      exact SndFn.make Y.ok (gM Y) (gI Y 0 rfl) (gT Y 0 rfl) (sound_all Y n).2
    · exact nomatch (show (none : Option (V × St)) = some r from hD)
end Mine
set_option maxHeartbeats 200000
namespace Mine
section
variable (σ : St) (i j : Int) (x y : Txt) (a b : V) (vs ws ys : List V) (c : Nat)
@[simp] theorem c_lt : vcmp .Lt (.int i) (.int j) σ = some (decide (i < j)) := rfl
@[simp] theorem c_le : vcmp .LtE (.int i) (.int j) σ = some (decide (i ≤ j)) := rfl
@[simp] theorem c_gt : vcmp .Gt (.int i) (.int j) σ = some (decide (j < i)) := rfl
@[simp] theorem c_ge : vcmp .GtE (.int i) (.int j) σ = some (decide (j ≤ i)) := rfl
@[simp] theorem c_eqi : vcmp .Eq (.int i) (.int j) σ = some (decide (i = j)) := by
  first | rfl | (show some (i == j) = _; congr 1; rw [Bool.eq_iff_iff, beq_iff_eq, decide_eq_true_iff])
@[simp] theorem c_nei : vcmp .NotEq (.int i) (.int j) σ = some (decide (i ≠ j)) := by
  show some (!(i == j)) = _; congr 1; rw [Bool.eq_iff_iff]; simp
@[simp] theorem c_eqs : vcmp .Eq (.str x) (.str y) σ = some (decide (x = y)) := by
  show some (x == y) = _; congr 1; rw [Bool.eq_iff_iff, beq_iff_eq, decide_eq_true_iff]
@[simp] theorem c_nes : vcmp .NotEq (.str x) (.str y) σ = some (decide (x ≠ y)) := by
  show some (!(x == y)) = _; congr 1; rw [Bool.eq_iff_iff]; simp
theorem any_beq (t : List Txt) (x : Txt) : (t.any fun y => y == x) = decide (x ∈ t) := by
  rw [Bool.eq_iff_iff]
  simp only [List.any_eq_true, decide_eq_true_iff]
  exact ⟨fun ⟨y, h1, h2⟩ => beq_iff_eq.mp h2 ▸ h1, fun h => ⟨x, h, beq_self_eq_true x⟩⟩
@[simp] theorem c_in : vcmp .In (.str x) (.tup ys) σ = (strsOf ys).map fun t => decide (x ∈ t) := by
  show (strsOf ys).bind (fun t => some (t.any (· == x))) = _
  cases strsOf ys with | none => rfl | some t => exact congrArg some (any_beq t x)
@[simp] theorem c_nin : vcmp .NotIn (.str x) (.tup ys) σ = (strsOf ys).map fun t => decide (x ∉ t) := by
  show (strsOf ys).bind (fun t => some (!t.any (· == x))) = _
  cases strsOf ys with | none => rfl | some t => exact congrArg some (by rw [any_beq, ← decide_not])
@[simp] theorem c_nins : vcmp .NotIn (.str [c]) (.str y) σ = some (decide (c ∉ y)) := by
  show some (!decide (c ∈ y)) = _; rw [← decide_not]
@[simp] theorem c_is0 : vcmp .Is .none .none σ = some true := rfl
@[simp] theorem c_isS : vcmp .Is (.str x) .none σ = some false := rfl
@[simp] theorem c_isB (q : Bool) : vcmp .Is (.bool q) .none σ = some false := rfl
@[simp] theorem c_isI : vcmp .Is (.int i) .none σ = some false := rfl
@[simp] theorem c_isnot0 : vcmp .IsNot .none .none σ = some false := rfl
@[simp] theorem c_isnotI : vcmp .IsNot (.int i) .none σ = some true := rfl
@[simp] theorem b_add : vbin .Add (.int i) (.int j) σ = some (.int (i + j), σ) := rfl
@[simp] theorem b_sub : vbin .Sub (.int i) (.int j) σ = some (.int (i - j), σ) := rfl
@[simp] theorem b_adds (h : x.length + y.length ≤ 16777216) : vbin .Add (.str x) (.str y) σ = some (.str (x ++ y), σ) := if_pos h
@[simp] theorem b_mul (h : j.natAbs ≤ 1000) : vbin .Mult (.int i) (.int j) σ = some (.int (i * j), σ) := if_pos h
@[simp] theorem b_div (h : 0 < j ∧ j < 1073741824) : vbin .FloorDiv (.int i) (.int j) σ = some (.int (i / j), σ) := if_pos h
@[simp] theorem b_mod (h : 0 < j) : vbin .Mod (.int i) (.int j) σ = some (.int (i % j), σ) := if_pos h
@[simp] theorem a_add : vaug .Add (.int i) (.int j) σ = some (.int (i + j), σ) := rfl
@[simp] theorem a_sub : vaug .Sub (.int i) (.int j) σ = some (.int (i - j), σ) := rfl
@[simp] theorem a_adds (h : x.length + y.length ≤ 16777216) : vaug .Add (.str x) (.str y) σ = some (.str (x ++ y), σ) := if_pos h
theorem i_str {k : Nat} (hk : k < 16777216) (h : x[k]? = some c) : vindex (.str x) (.int k) σ = some (.str [c]) := by
  unfold vindex; simp only [Int.toNat_natCast, asInt_e, Option.bind_some]; rw [if_pos ⟨by omega, by omega⟩, h]; rfl
theorem s_str {k m : Nat} (h : x.length ≤ 16777216) : vslice (.str x) (some (k : Int)) (some (m : Int)) σ = some (.str ((x.drop k).take (m - k)), σ) := by
  unfold vslice; simp only [Int.toNat_natCast, Option.getD_some, Option.bind_some]; rw [if_pos ⟨h, by omega, by omega⟩]
@[simp] theorem s01 {p : Nat} (h : x.length ≤ 16777216) : vslice (.str x) (some (p : Int)) (some ((p : Int) + 1)) σ = some (.str ((x.drop p).take 1), σ) := by
  have := s_str σ x (k := p) (m := p + 1) h
  rw [show p + 1 - p = 1 by omega] at this; exact this
@[simp] theorem s02 {p : Nat} (h : x.length ≤ 16777216) : vslice (.str x) (some (p : Int)) (some ((p : Int) + 2)) σ = some (.str ((x.drop p).take 2), σ) := by
  have := s_str σ x (k := p) (m := p + 2) h
  rw [show p + 2 - p = 2 by omega] at this; exact this
@[simp] theorem s03 {p : Nat} (h : x.length ≤ 16777216) : vslice (.str x) (some (p : Int)) (some ((p : Int) + 3)) σ = some (.str ((x.drop p).take 3), σ) := by
  have := s_str σ x (k := p) (m := p + 3) h
  rw [show p + 3 - p = 3 by omega] at this; exact this
@[simp] theorem s12 {p : Nat} (h : x.length ≤ 16777216) : vslice (.str x) (some ((p : Int) + 1)) (some ((p : Int) + 2)) σ = some (.str ((x.drop (p + 1)).take 1), σ) := by
  have := s_str σ x (k := p + 1) (m := p + 2) h
  rw [show p + 2 - (p + 1) = 1 by omega] at this; exact this
@[simp] theorem len_s (h : x.length ≤ 16777216) : vlen (.str x) σ = some (.int x.length) := if_pos h
@[simp] theorem len_t (h : vs.length ≤ 16777216) : vlen (.tup vs) σ = some (.int vs.length) := if_pos h
end

section
variable {α : Type} (ρ : Rho) (σ : St) (t t' : DT) (ts : List DT) (a b c : DE) (as : List DE) (S T : DS) (r : Option (Ctl × Rho × St)) (n k i j l : Nat) (op op' : Operator) (cm cm' : CmpOp) (v w u x y z : V) (vs : List V) (F : DF) (q : Bool)
noncomputable def oSeq (T : DS) (o : Option (Ctl × Rho × St)) : Option (Ctl × Rho × St) := sSeq (fun _ _ => o) T [] []
@[simp] theorem sSeq_e : sSeq S T ρ σ = oSeq T (S ρ σ) := rfl
@[simp] theorem oSeq_n : oSeq T (some (.next, ρ, σ)) = T ρ σ := rfl
@[simp] theorem oSeq_b : oSeq T (some (.brk, ρ, σ)) = some (.brk, ρ, σ) := rfl
@[simp] theorem oSeq_r : oSeq T (some (.ret v, ρ, σ)) = some (.ret v, ρ, σ) := rfl
noncomputable def oFn (o : Option (Ctl × Rho × St)) : Option (V × St) := o.bind fun r => (retOf r.1).bind fun v => some (v, r.2.2)
@[simp] theorem dFn0 : dFn 0 k S [] σ = oFn (S (List.replicate k none) σ) := rfl
@[simp] theorem dFn1 : dFn 1 k S [x] σ = oFn (S (some x :: List.replicate k none) σ) := rfl
@[simp] theorem dFn2 : dFn 2 k S [x, y] σ = oFn (S (some x :: some y :: List.replicate k none) σ) := rfl
@[simp] theorem dFn3 : dFn 3 k S [x, y, z] σ = oFn (S (some x :: some y :: some z :: List.replicate k none) σ) := rfl
@[simp] theorem dFn4 : dFn 4 k S [x, y, z, w] σ = oFn (S (some x :: some y :: some z :: some w :: List.replicate k none) σ) := rfl
@[simp] theorem dFn5 : dFn 5 k S [x, y, z, w, u] σ = oFn (S (some x :: some y :: some z :: some w :: some u :: List.replicate k none) σ) := rfl
@[simp] theorem oFn_r : oFn (some (.ret v, ρ, σ)) = some (v, σ) := rfl
@[simp] theorem oFn_n : oFn (some (.next, ρ, σ)) = some (.none, σ) := rfl
noncomputable def oSet (i : Nat) (ρ : Rho) (o : Option (V × St)) : Option (Ctl × Rho × St) := sSet i (fun _ _ => o) ρ []
@[simp] theorem sSet_e : sSet i a ρ σ = oSet i ρ (a ρ σ) := rfl
@[simp] theorem oSet_s : oSet i ρ (some (v, σ)) = some (.next, ρ.set i (some v), σ) := rfl
noncomputable def oRet (ρ : Rho) (o : Option (V × St)) : Option (Ctl × Rho × St) := sRet (fun _ _ => o) ρ []
@[simp] theorem sRet_e : sRet a ρ σ = oRet ρ (a ρ σ) := rfl
@[simp] theorem oRet_s : oRet ρ (some (v, σ)) = some (.ret v, ρ, σ) := rfl
noncomputable def oExp (ρ : Rho) (o : Option (V × St)) : Option (Ctl × Rho × St) := sExpr (fun _ _ => o) ρ []
@[simp] theorem sExp_e : sExpr a ρ σ = oExp ρ (a ρ σ) := rfl
@[simp] theorem oExp_s : oExp ρ (some (v, σ)) = some (.next, ρ, σ) := rfl
noncomputable def oIf (A B : Rho → St → Option α) (ρ : Rho) (o : Option (Bool × St)) : Option α := o.bind fun r => match r.1 with | true => A ρ r.2 | false => B ρ r.2
@[simp] theorem sIf_e : sIf t S T ρ σ = oIf S T ρ (t ρ σ) := rfl
@[simp] theorem dIf_e : dIf t a b ρ σ = oIf a b ρ (t ρ σ) := rfl
@[simp] theorem oIf_t (A B : Rho → St → Option α) : oIf A B ρ (some (true, σ)) = A ρ σ := rfl
@[simp] theorem oIf_f (A B : Rho → St → Option α) : oIf A B ρ (some (false, σ)) = B ρ σ := rfl
@[simp] theorem sNil_e : sNil ρ σ = some (.next, ρ, σ) := rfl
@[simp] theorem sBrk_e : sBrk ρ σ = some (.brk, ρ, σ) := rfl
noncomputable def oSetT (is : List Nat) (ρ : Rho) (o : Option (V × St)) : Option (Ctl × Rho × St) := sSetT is (fun _ _ => o) ρ []
@[simp] theorem sSetT_e (is : List Nat) : sSetT is a ρ σ = oSetT is ρ (a ρ σ) := rfl
@[simp] theorem oSetT_2 : oSetT [i, j] ρ (some (.tup [v, w], σ)) = some (.next, (ρ.set i (some v)).set j (some w), σ) := rfl
@[simp] theorem oSetT_3 : oSetT [i, j, l] ρ (some (.tup [v, w, u], σ)) = some (.next, ((ρ.set i (some v)).set j (some w)).set l (some u), σ) := rfl
noncomputable def oAu2 (op : Operator) (i : Nat) (ρ : Rho) (v : V) (o : Option (V × St)) : Option (Ctl × Rho × St) := o.bind fun r => oSet i ρ (vaug op v r.1 r.2)
noncomputable def oAu1 (op : Operator) (i : Nat) (a : DE) (ρ : Rho) (σ : St) (o : Option (Option V)) : Option (Ctl × Rho × St) := (o.bind fun o => o.bind fun v => some (v, σ)).bind fun v => oAu2 op i ρ v.1 (a ρ σ)
@[simp] theorem sAug_e : sAug op i a ρ σ = oAu1 op i a ρ σ ρ[i]? := by unfold sAug oAu1; rfl
@[simp] theorem oAu1_s : oAu1 op i a ρ σ (some (some v)) = oAu2 op i ρ v (a ρ σ) := rfl
@[simp] theorem oAu2_s : oAu2 op i ρ v (some (w, σ)) = oSet i ρ (vaug op v w σ) := rfl
@[simp] theorem items_l : (O.list vs).items = some vs := rfl
@[simp] theorem items_r : (O.ro vs).items = some vs := rfl
@[simp] theorem ord1_e (c : Nat) : ord1 [c] = some c := rfl
theorem g_0 (a : α) (r : List α) : (a :: r)[0]? = some a := rfl
theorem g_s (a : α) (r : List α) : (a :: r)[n + 1]? = r[n]? := rfl
@[simp] theorem dLit_e : dLit v ρ σ = some (v, σ) := rfl
@[simp] theorem dVar_0 (ρ : Rho) : dVar 0 (some v :: ρ) σ = some (v, σ) := rfl
@[simp] theorem dVar_s (o : Option V) : dVar (n + 1) (o :: ρ) σ = dVar n ρ σ := rfl
noncomputable def oBi2 (op : Operator) (x : V) (o : Option (V × St)) : Option (V × St) := o.bind fun q => vbin op x q.1 q.2
noncomputable def oBi1 (op : Operator) (b : DE) (ρ : Rho) (o : Option (V × St)) : Option (V × St) := o.bind fun r => oBi2 op r.1 (b ρ r.2)
@[simp] theorem dBin_e : dBin op a b ρ σ = oBi1 op b ρ (a ρ σ) := rfl
@[simp] theorem oBi1_s : oBi1 op b ρ (some (x, σ)) = oBi2 op x (b ρ σ) := rfl
@[simp] theorem oBi2_s : oBi2 op x (some (y, σ)) = vbin op x y σ := rfl
noncomputable def oNeg (o : Option (V × St)) : Option (V × St) := dNeg (fun _ _ => o) [] []
@[simp] theorem dNeg_e : dNeg a ρ σ = oNeg (a ρ σ) := rfl
@[simp] theorem oNeg_s (i : Int) : oNeg (some (.int i, σ)) = some (.int (-i), σ) := rfl
noncomputable def oAtB (σ : St) (o : Option Bool) : Option (Bool × St) := o.bind fun c => some (c, σ)
@[simp] theorem oAtB_s : oAtB σ (some q) = some (q, σ) := rfl
noncomputable def oAtV (σ : St) (o : Option V) : Option (V × St) := o.bind fun c => some (c, σ)
@[simp] theorem oAtV_s : oAtV σ (some v) = some (v, σ) := rfl
noncomputable def oCm2 (cm : CmpOp) (x : V) (o : Option (V × St)) : Option (Bool × St) := o.bind fun q => oAtB q.2 (vcmp cm x q.1 q.2)
noncomputable def oCm1 (cm : CmpOp) (b : DE) (ρ : Rho) (o : Option (V × St)) : Option (Bool × St) := o.bind fun r => oCm2 cm r.1 (b ρ r.2)
@[simp] theorem tCmp_e : tCmp cm a b ρ σ = oCm1 cm b ρ (a ρ σ) := rfl
@[simp] theorem oCm1_s : oCm1 cm b ρ (some (x, σ)) = oCm2 cm x (b ρ σ) := rfl
@[simp] theorem oCm2_s : oCm2 cm x (some (y, σ)) = oAtB σ (vcmp cm x y σ) := rfl
noncomputable def oCh3 (cm' : CmpOp) (c : DE) (ρ : Rho) (y : V) (σ : St) (o : Option Bool) : Option (Bool × St) := o.bind fun t => match t with | true => oCm2 cm' y (c ρ σ) | false => some (false, σ)
noncomputable def oCh2 (cm cm' : CmpOp) (c : DE) (ρ : Rho) (x : V) (o : Option (V × St)) : Option (Bool × St) := o.bind fun q => oCh3 cm' c ρ q.1 q.2 (vcmp cm x q.1 q.2)
noncomputable def oCh1 (cm cm' : CmpOp) (b c : DE) (ρ : Rho) (o : Option (V × St)) : Option (Bool × St) := o.bind fun r => oCh2 cm cm' c ρ r.1 (b ρ r.2)
@[simp] theorem tChain_e : tChain cm cm' a b c ρ σ = oCh1 cm cm' b c ρ (a ρ σ) := rfl
@[simp] theorem oCh1_s : oCh1 cm cm' b c ρ (some (x, σ)) = oCh2 cm cm' c ρ x (b ρ σ) := rfl
@[simp] theorem oCh2_s : oCh2 cm cm' c ρ x (some (y, σ)) = oCh3 cm' c ρ y σ (vcmp cm x y σ) := rfl
@[simp] theorem oCh3_t : oCh3 cm' c ρ y σ (some true) = oCm2 cm' y (c ρ σ) := rfl
@[simp] theorem oCh3_f : oCh3 cm' c ρ y σ (some false) = some (false, σ) := rfl
noncomputable def oTst (o : Option (Bool × St)) : Option (V × St) := dTest (fun _ _ => o) [] []
@[simp] theorem dTest_e : dTest t ρ σ = oTst (t ρ σ) := rfl
@[simp] theorem oTst_s : oTst (some (q, σ)) = some (.bool q, σ) := rfl
noncomputable def oAnd (b : DE) (ρ : Rho) (o : Option (V × St)) : Option (V × St) := dAnd (fun _ _ => o) b ρ []
@[simp] theorem dAnd_e : dAnd a b ρ σ = oAnd b ρ (a ρ σ) := rfl
@[simp] theorem oAnd_t : oAnd b ρ (some (.bool true, σ)) = b ρ σ := rfl
@[simp] theorem oAnd_f : oAnd b ρ (some (.bool false, σ)) = some (.bool false, σ) := rfl
noncomputable def oOr (b : DE) (ρ : Rho) (o : Option (V × St)) : Option (V × St) := dOr (fun _ _ => o) b ρ []
@[simp] theorem dOr_e : dOr a b ρ σ = oOr b ρ (a ρ σ) := rfl
@[simp] theorem oOr_t : oOr b ρ (some (.bool true, σ)) = some (.bool true, σ) := rfl
@[simp] theorem oOr_f : oOr b ρ (some (.bool false, σ)) = b ρ σ := rfl
noncomputable def oNot (o : Option (Bool × St)) : Option (Bool × St) := tNot (fun _ _ => o) [] []
@[simp] theorem tNot_e : tNot t ρ σ = oNot (t ρ σ) := rfl
@[simp] theorem oNot_s : oNot (some (q, σ)) = some (!q, σ) := rfl
noncomputable def oVal (o : Option (V × St)) : Option (Bool × St) := o.bind fun r => oAtB r.2 (vtruth r.1 r.2)
@[simp] theorem tVal_e : tVal a ρ σ = oVal (a ρ σ) := rfl
@[simp] theorem oVal_s : oVal (some (x, σ)) = oAtB σ (vtruth x σ) := rfl
@[simp] theorem vt_b : vtruth (.bool q) σ = some q := rfl
noncomputable def oAs (ts : List DT) (ρ : Rho) (o : Option (Bool × St)) : Option (Bool × St) := tAnds ((fun _ _ => o) :: ts) ρ []
noncomputable def oOs (ts : List DT) (ρ : Rho) (o : Option (Bool × St)) : Option (Bool × St) := tOrs ((fun _ _ => o) :: ts) ρ []
@[simp] theorem ands0 : tAnds [] ρ σ = some (true, σ) := rfl
@[simp] theorem ands1 : tAnds (t :: ts) ρ σ = oAs ts ρ (t ρ σ) := rfl
@[simp] theorem oAs_t : oAs ts ρ (some (true, σ)) = tAnds ts ρ σ := rfl
@[simp] theorem oAs_f : oAs ts ρ (some (false, σ)) = some (false, σ) := rfl
@[simp] theorem ors0 : tOrs [] ρ σ = some (false, σ) := rfl
@[simp] theorem ors1 : tOrs (t :: ts) ρ σ = oOs ts ρ (t ρ σ) := rfl
@[simp] theorem oOs_t : oOs ts ρ (some (true, σ)) = some (true, σ) := rfl
@[simp] theorem oOs_f : oOs ts ρ (some (false, σ)) = tOrs ts ρ σ := rfl
noncomputable def oCons (x : V) (o : Option (List V × St)) : Option (List V × St) := o.bind fun q => some (x :: q.1, q.2)
noncomputable def oEs (as : List DE) (ρ : Rho) (o : Option (V × St)) : Option (List V × St) := o.bind fun r => oCons r.1 (dEs as ρ r.2)
@[simp] theorem es0 : dEs [] ρ σ = some ([], σ) := rfl
@[simp] theorem es1 : dEs (a :: as) ρ σ = oEs as ρ (a ρ σ) := rfl
@[simp] theorem oEs_s : oEs as ρ (some (x, σ)) = oCons x (dEs as ρ σ) := rfl
@[simp] theorem oCons_s : oCons x (some (vs, σ)) = some (x :: vs, σ) := rfl
noncomputable def oTup (o : Option (List V × St)) : Option (V × St) := o.bind fun r => some (.tup r.1, r.2)
@[simp] theorem dTup_e : dTup as ρ σ = oTup (dEs as ρ σ) := rfl
@[simp] theorem oTup_s : oTup (some (vs, σ)) = some (.tup vs, σ) := rfl
noncomputable def oCal (F : DF) (o : Option (List V × St)) : Option (V × St) := o.bind fun r => F r.1 r.2
@[simp] theorem dCall_e : dCall F as ρ σ = oCal F (dEs as ρ σ) := rfl
@[simp] theorem oCal_s : oCal F (some (vs, σ)) = F vs σ := rfl
noncomputable def oIx2 (x : V) (o : Option (V × St)) : Option (V × St) := o.bind fun q => oAtV q.2 (vindex x q.1 q.2)
noncomputable def oIx1 (i : DE) (ρ : Rho) (o : Option (V × St)) : Option (V × St) := o.bind fun r => oIx2 r.1 (i ρ r.2)
@[simp] theorem dIndex_e : dIndex a b ρ σ = oIx1 b ρ (a ρ σ) := rfl
@[simp] theorem oIx1_s : oIx1 b ρ (some (x, σ)) = oIx2 x (b ρ σ) := rfl
@[simp] theorem oIx2_s : oIx2 x (some (y, σ)) = oAtV σ (vindex x y σ) := rfl
noncomputable def oOpt (o : Option (V × St)) : Option (Option Int × St) := dOpt (some fun _ _ => o) [] []
@[simp] theorem opt0 : dOpt none ρ σ = some (none, σ) := rfl
@[simp] theorem opt1 : dOpt (some a) ρ σ = oOpt (a ρ σ) := rfl
@[simp] theorem oOpt_s (i : Int) : oOpt (some (.int i, σ)) = some (some i, σ) := rfl
noncomputable def oSl3 (x : V) (lo : Option Int) (o : Option (Option Int × St)) : Option (V × St) := o.bind fun j => vslice x lo j.1 j.2
noncomputable def oSl2 (hi : Option DE) (ρ : Rho) (x : V) (o : Option (Option Int × St)) : Option (V × St) := o.bind fun i => oSl3 x i.1 (dOpt hi ρ i.2)
noncomputable def oSl1 (lo hi : Option DE) (ρ : Rho) (o : Option (V × St)) : Option (V × St) := o.bind fun r => oSl2 hi ρ r.1 (dOpt lo ρ r.2)
@[simp] theorem dSlice_e (lo hi : Option DE) : dSlice a lo hi ρ σ = oSl1 lo hi ρ (a ρ σ) := rfl
@[simp] theorem oSl1_s (lo hi : Option DE) : oSl1 lo hi ρ (some (x, σ)) = oSl2 hi ρ x (dOpt lo ρ σ) := rfl
@[simp] theorem oSl2_s (hi : Option DE) (lo : Option Int) : oSl2 hi ρ x (some (lo, σ)) = oSl3 x lo (dOpt hi ρ σ) := rfl
@[simp] theorem oSl3_s (lo hi : Option Int) : oSl3 x lo (some (hi, σ)) = vslice x lo hi σ := rfl
noncomputable def oMe2 (F : DF) (x : V) (o : Option (List V × St)) : Option (V × St) := o.bind fun q => F (x :: q.1) q.2
noncomputable def oMe1 (k : V → St → Bool) (F : DF) (as : List DE) (ρ : Rho) (o : Option (V × St)) : Option (V × St) := o.bind fun r => if k r.1 r.2 = true then oMe2 F r.1 (dEs as ρ r.2) else none
@[simp] theorem dMeth_e (K : V → St → Bool) : dMeth K F a as ρ σ = oMe1 K F as ρ (a ρ σ) := rfl
@[simp] theorem oMe1_s (K : V → St → Bool) : oMe1 K F as ρ (some (x, σ)) = if K x σ = true then oMe2 F x (dEs as ρ σ) else none := rfl
@[simp] theorem oMe2_s : oMe2 F x (some (vs, σ)) = F (x :: vs) σ := rfl
@[simp] theorem kS_e (s : Txt) : kStr (.str s) σ = true := rfl
@[simp] theorem bLen_e : bLen [x] σ = oAtV σ (vlen x σ) := rfl
noncomputable def oAtt (i : Nat) (o : Option (V × St)) : Option (V × St) := dAttr i (fun _ _ => o) [] []
@[simp] theorem dAttr_e : dAttr i a ρ σ = oAtt i (a ρ σ) := rfl
@[simp] theorem oAtt_s : oAtt i (some (.ref l, σ)) = (ins σ l).bind fun fs => fs[i]?.bind fun y => some (y, σ) := rfl
@[simp] theorem i_t0 : vindex (.tup (v :: vs)) (.int 0) σ = some v := rfl
@[simp] theorem i_t1 : vindex (.tup (w :: v :: vs)) (.int 1) σ = some v := rfl
@[simp] theorem i_t2 : vindex (.tup (w :: u :: v :: vs)) (.int 2) σ = some v := rfl
@[simp] theorem i_t3 : vindex (.tup (w :: u :: x :: v :: vs)) (.int 3) σ = some v := rfl
theorem dVar_h {ρ : Rho} {i : Nat} {v : V} (h : ρ[i]? = some (some v)) (σ : St) : dVar i ρ σ = some (v, σ) := by unfold dVar; rw [h]; rfl

end

noncomputable def dig (c : Nat) : Int := if 48 ≤ c ∧ c ≤ 57 then (c : Int) - 48 else if 97 ≤ c ∧ c ≤ 122 then (c : Int) - 87 else if 65 ≤ c ∧ c ≤ 90 then (c : Int) - 55 else -1

theorem fn_succ (n : Nat) (g : Fn) : fn (n + 1) g = bodyOf (fn n) g := rfl
local macro_rules | `(tactic| wp_walk using $ts,*) => `(tactic| simp [-getElem?_pos, g_0, g_s, bOrd, vtruth, strsOf, List.getElem?_concat_length, $[$ts:term],*])

theorem chain_le {a b c : DE} {ρ : Rho} {σ : St} {i j k : Int} (ha : a ρ σ = some (.int i, σ)) (hb : b ρ σ = some (.int j, σ)) (hc : c ρ σ = some (.int k, σ)) : tChain .LtE .LtE a b c ρ σ = some (decide (i ≤ j ∧ j ≤ k), σ) := by
  rw [tChain_e, ha, oCh1_s, hb, oCh2_s, c_le]
  by_cases h : i ≤ j
  · rw [decide_eq_true h, oCh3_t, hc, oCm2_s, c_le, oAtB_s, show decide (i ≤ j ∧ j ≤ k) = decide (j ≤ k) from decide_eq_decide.mpr ⟨fun x => x.2, fun x => ⟨h, x⟩⟩]
  · rw [decide_eq_false h, oCh3_f, decide_eq_false fun x => h x.1]
theorem digit_ok (n : Nat) (c : Nat) (σ : St) : fn (n + 1) .f_digit [.str [c]] σ = some (.int (dig c), σ) := by
  have e (a b : Nat) (d e : DE) (i : Int) (hd : d [some (.str [c]), some (.int c)] σ = some (.int a, σ)) (he : e [some (.str [c]), some (.int c)] σ = some (.int b, σ)) : tChain .LtE .LtE d (dVar 1) e [some (.str [c]), some (.int c)] σ = some (decide (a ≤ c ∧ c ≤ b), σ) := by
    rw [chain_le hd rfl he, decide_eq_decide.mpr (and_congr Int.ofNat_le Int.ofNat_le)]
  have e1 := e 48 57 (dLit (.int 48)) (dLit (.int 57)) 0 rfl rfl
  have e2 := e 97 122 (dLit (.int 97)) (dLit (.int 122)) 0 rfl rfl
  have e3 := e 65 90 (dLit (.int 65)) (dLit (.int 90)) 0 rfl rfl
  rw [fn_succ, bd_f_digit, dFn1]
  unfold dig b_f_digit
  by_cases h1 : 48 ≤ c ∧ c ≤ 57
  · rw [if_pos h1]; rw [decide_eq_true h1] at e1; simp [-tChain_e, e1, bOrd]
  · rw [if_neg h1]; rw [decide_eq_false h1] at e1
    by_cases h2 : 97 ≤ c ∧ c ≤ 122
    · rw [if_pos h2]; rw [decide_eq_true h2] at e2; simp [-tChain_e, e1, e2, bOrd]
    · rw [if_neg h2]; rw [decide_eq_false h2] at e2
      by_cases h3 : 65 ≤ c ∧ c ≤ 90
      · rw [if_pos h3]; rw [decide_eq_true h3] at e3; simp [-tChain_e, e1, e2, e3, bOrd]
      · rw [if_neg h3]; rw [decide_eq_false h3] at e3; simp [-tChain_e, e1, e2, e3, bOrd]

section
variable {t : DT} {b : DS} {ρ ρ₂ : Rho} {σ σ₁ σ₂ : St}
theorem while_step (h : t ρ σ = some (true, σ₁)) (hb : b ρ σ₁ = some (.next, ρ₂, σ₂)) : sWhile t b ρ σ = sWhile t b ρ₂ σ₂ := by
  rw [sWhile.eq_1]; simp [h, hb]
theorem while_done (h : t ρ σ = some (false, σ₁)) : sWhile t b ρ σ = some (.next, ρ, σ₁) := by
  rw [sWhile.eq_1]; simp [h]
theorem while_brk (h : t ρ σ = some (true, σ₁)) (hb : b ρ σ₁ = some (.brk, ρ₂, σ₂)) : sWhile t b ρ σ = some (.next, ρ₂, σ₂) := by
  rw [sWhile.eq_1]; simp [h, hb]
theorem while_ret {v : V} (h : t ρ σ = some (true, σ₁)) (hb : b ρ σ₁ = some (.ret v, ρ₂, σ₂)) : sWhile t b ρ σ = some (.ret v, ρ₂, σ₂) := by
  rw [sWhile.eq_1]; simp [h, hb]
variable {c : Src} {k i : Nat} {v : V}
theorem for_step (h : dNext c i σ = some (some v)) (hb : b (ρ.set k (some v)) σ = some (.next, ρ₂, σ₂)) : sForGo c k b i ρ σ = sForGo c k b (i + 1) ρ₂ σ₂ := by
  rw [sForGo.eq_1]; simp [h, hb]
theorem for_done (h : dNext c i σ = some none) : sForGo c k b i ρ σ = some (.next, ρ, σ) := by
  rw [sForGo.eq_1]; simp [h]
theorem for_ret {w : V} (h : dNext c i σ = some (some v)) (hb : b (ρ.set k (some v)) σ = some (.ret w, ρ₂, σ₂)) : sForGo c k b i ρ σ = some (.ret w, ρ₂, σ₂) := by
  rw [sForGo.eq_1]; simp [h, hb]
variable {elt : V → St → Option (V × St)} {acc : List V} {y : V}
theorem comp_step (h : dNext c i σ = some (some v)) (hb : elt v σ = some (y, σ₁)) (ha : acc.length ≤ 1000000) : compGo c elt i acc σ = compGo c elt (i + 1) (acc ++ [y]) σ₁ := by
  rw [compGo.eq_1]; simp [h, hb, ha]
theorem comp_done (h : dNext c i σ = some none) : compGo c elt i acc σ = some (acc, σ) := by
  rw [compGo.eq_1]; simp [h]
end

theorem dComp_e {c : DI} {caps : List Nat} {D : DE} {ρ : Rho} {σ σ₁ σ₂ : St} {s : Src} {xs : List V} (hi : c ρ σ = some (s, σ₁)) (hs : notStr s = true) (hg : compGo s (fun v σ => D (capsOf caps ρ ++ [some v]) σ) 0 [] σ₁ = some (xs, σ₂)) :
    dComp c caps D ρ σ = some (.ref σ₂.length, σ₂ ++ [.list xs]) := by
  unfold dComp
  rw [hi]
  exact (if_pos hs).trans (by rw [hg]; rfl)

theorem at_cons {x r : Txt} {c p : Nat} (h : x.drop p = c :: r) : x[p]? = some c ∧ p < x.length ∧ x.drop (p + 1) = r := by
  have h1 : x[p]? = some c := by
    have := congrArg (fun l => l[0]?) h
    simpa using this
  refine ⟨h1, (List.getElem?_eq_some_iff.mp h1).1, ?_⟩
  rw [← List.drop_drop, h]; rfl
theorem at_nil {x : Txt} {p : Nat} (h : x.drop p = []) : x.length ≤ p := List.drop_eq_nil_iff.mp h

noncomputable def blankC (c : Nat) : Bool := c == 32 || c == 9 || c == 10 || c == 11 || c == 12 || c == 13
theorem is_blank_ok (n c : Nat) (σ : St) : fn (n + 1) .f_is_blank [.str [c]] σ = some (.bool (blankC c), σ) := by
  rw [fn_succ]
  wp_walk using b_f_is_blank, blankC
  rw [Bool.eq_iff_iff]; simp [or_assoc]

inductive Sk : Txt → Txt → Prop
  | nil : Sk [] []
  | stop {c : Nat} {r : Txt} : blankC c = false → c ≠ 92 → c ≠ 35 → Sk (c :: r) (c :: r)
  | blank {c : Nat} {r s : Txt} : blankC c = true → Sk r s → Sk (c :: r) s
  | bs {r s : Txt} : Sk r s → Sk (92 :: 10 :: r) s
  | com {u r s : Txt} : (∀ c ∈ u, c ≠ 10) → Sk (10 :: r) s → Sk (35 :: (u ++ 10 :: r)) s

theorem com_loop (x : Txt) (hx : x.length ≤ 1000000) (w : Option V) (σ : St) (u : Txt) : ∀ (p : Nat) (r : Txt), x.drop p = u ++ 10 :: r → (∀ c ∈ u, c ≠ 10) →
    sWhile (tAnds [tCmp .Lt (dVar 1) (dVar 2), tCmp .NotEq (dIndex (dVar 0) (dVar 1)) (dLit (.str [10]))]) (sAug .Add 1 (dLit (.int 1))) [some (.str x), some (.int p), some (.int x.length), w] σ = some (.next, [some (.str x), some (.int (p + u.length : Nat)), some (.int x.length), w], σ) := by
  induction u with
  | nil =>
    intro p r h _
    obtain ⟨h1, h2, h3⟩ := at_cons h
    refine while_done ?_
    have hi := i_str σ x 10 (by omega) h1
    wp_walk using hi, h2
  | cons c u ih =>
    intro p r h hu
    obtain ⟨h1, h2, h3⟩ := at_cons h
    have hi := i_str σ x c (by omega) h1
    have hc : c ≠ 10 := hu c (by simp)
    have e1 := ih (p + 1) r h3 fun d hd => hu d (by simp [hd])
    refine (while_step (σ₁ := σ) (ρ₂ := [some (.str x), some (.int (p + 1 : Nat)), some (.int x.length), w]) (σ₂ := σ) ?_ ?_).trans (e1.trans ?_)
    · wp_walk using hi, h2, hc
    · wp_walk using hc
    · have : p + 1 + u.length = p + (c :: u).length := by simp; omega
      rw [this]

theorem Sk.le {s s' : Txt} (h : Sk s s') : s'.length ≤ s.length := by
  induction h with
  | nil => exact Nat.le_refl _
  | stop => exact Nat.le_refl _
  | blank _ _ ih => simp; omega
  | bs _ ih => simp; omega
  | com _ _ ih => simp at ih ⊢; omega

theorem drop_len {x s : Txt} {p : Nat} (h : x.drop p = s) (hp : p ≤ x.length) : p = x.length - s.length ∧ s.length ≤ x.length := by
  have := congrArg List.length h
  rw [List.length_drop] at this
  exact ⟨by rw [← this, Nat.sub_sub_self hp], this ▸ Nat.sub_le _ _⟩

theorem app_le {x u r : Txt} {p : Nat} (h : x.drop p = u ++ r) (hp : p ≤ x.length) : p + u.length ≤ x.length ∧ x.length - r.length = p + u.length := by
  have e := congrArg List.length h
  simp only [List.length_drop, List.length_append] at e
  rw [(Nat.sub_eq_iff_eq_add' hp).mp e, ← Nat.add_assoc, Nat.add_sub_cancel]
  exact ⟨Nat.le_add_right _ _, rfl⟩

set_option tactic.hygienic true in
theorem skip_space_ok (n : Nat) {x : Txt} (hx : x.length ≤ 1000000) {s s' : Txt} (hs : Sk s s') (σ : St) : ∀ (p : Nat), p ≤ x.length → x.drop p = s → fn (n + 2) .f_skip_space [.str x, .int p] σ = some (.int (x.length - s'.length : Nat), σ) := by
  have key : ∀ (w : Option V) (p : Nat), p ≤ x.length → x.drop p = s → ∃ w', sWhile (tCmp .Lt (dVar 1) (dVar 2)) (sSeq (sSet 3 (dIndex (dVar 0) (dVar 1))) (sIf (tVal (dCall (fn (n + 1) .f_is_blank) [dVar 3])) (sAug .Add 1 (dLit (.int 1)))
      (sIf (tAnds [tCmp .Eq (dVar 3) (dLit (.str [92])), tCmp .Eq (dSlice (dVar 0) (some (dBin .Add (dVar 1) (dLit (.int 1)))) (some (dBin .Add (dVar 1) (dLit (.int 2))))) (dLit (.str [10]))]) (sAug .Add 1 (dLit (.int 2)))
        (sIf (tCmp .Eq (dVar 3) (dLit (.str [35]))) (sWhile (tAnds [tCmp .Lt (dVar 1) (dVar 2), tCmp .NotEq (dIndex (dVar 0) (dVar 1)) (dLit (.str [10]))]) (sAug .Add 1 (dLit (.int 1)))) sBrk))))
      [some (.str x), some (.int p), some (.int x.length), w] σ = some (.next, [some (.str x), some (.int (x.length - s'.length : Nat)), some (.int x.length), w'], σ) := by
    induction hs with
    | nil =>
      intro w p hp h
      have h2 := at_nil h
      have e : p = x.length := by omega
      subst e
      exact ⟨w, while_done (by wp_walk using h2)⟩
    | stop hb h92 h35 =>
      intro w p hp h
      obtain ⟨h1, h2, h3⟩ := at_cons h
      have e := drop_len h hp
      rename_i c r
      have hi := i_str σ x c (by omega) h1
      refine ⟨some (.str [c]), ?_⟩
      have hk := is_blank_ok n c σ
      rw [hb] at hk
      rw [← e.1]
      exact while_brk (σ₁ := σ) (by wp_walk using h2) (by wp_walk using hi, hk, h92, h35, sBrk)
    | blank hb hs ih =>
      intro w p hp h
      obtain ⟨h1, h2, h3⟩ := at_cons h
      rename_i c r s
      have hi := i_str σ x c (by omega) h1
      obtain ⟨w', hw⟩ := ih (some (.str [c])) (p + 1) (by omega) h3
      have hk := is_blank_ok n c σ
      rw [hb] at hk
      refine ⟨w', (while_step (σ₁ := σ) (σ₂ := σ) ?_ ?_).trans hw⟩
      · wp_walk using h2
      · wp_walk using hi, hk
    | bs hs ih =>
      intro w p hp h
      obtain ⟨h1, h2, h3⟩ := at_cons h
      obtain ⟨h4, h5, h6⟩ := at_cons h3
      have hi := i_str σ x 92 (by omega) h1
      obtain ⟨w', hw⟩ := ih (some (.str [92])) (p + 2) (by omega) h6
      have hk := is_blank_ok n 92 σ
      refine ⟨w', (while_step (σ₁ := σ) (σ₂ := σ) ?_ ?_).trans hw⟩
      · wp_walk using h2
      · wp_walk using hi, hk, h3, blankC, (show x.length ≤ 16777216 by omega)
    | com hu hs ih =>
      intro w p hp h
      obtain ⟨h1, h2, h3⟩ := at_cons h
      rename_i u r s
      have hi := i_str σ x 35 (by omega) h1
      have hk := is_blank_ok n 35 σ
      have hc := com_loop x hx (some (.str [35])) σ (35 :: u) p r (by rw [h]; rfl) (by
        intro c hc; rcases List.mem_cons.mp hc with rfl | hc
        · decide
        · exact hu c hc)
      have h4 : x.drop (p + (35 :: u).length) = 10 :: r := by
        rw [← List.drop_drop, h]
        show ((35 :: u) ++ 10 :: r).drop _ = _
        simp
      obtain ⟨w', hw⟩ := ih (some (.str [35])) (p + (35 :: u).length) (by
        have := (at_cons h4).2.1; omega) h4
      refine ⟨w', (while_step (σ₁ := σ) (σ₂ := σ) ?_ ?_).trans hw⟩
      · wp_walk using h2
      · wp_walk using hi, hk, hc, blankC
  intro p hp h
  obtain ⟨w', hw⟩ := key none p hp h
  rw [fn_succ]
  wp_walk using b_f_skip_space, hw, (show x.length ≤ 16777216 by omega)
set_option maxHeartbeats 200000

theorem dig_lt (c : Nat) : -1 ≤ dig c ∧ dig c < 36 := by
  unfold dig
  split
  · omega
  split
  · omega
  split
  · omega
  decide
noncomputable def isDg (s : Txt) (b : Int) : Bool := match s with
  | [] => false
  | c :: _ => decide (0 ≤ dig c ∧ dig c < b)

theorem is_digit_ok (n : Nat) {x : Txt} (hx : x.length ≤ 1000000) (p : Nat) (b : Int) (σ : St) : fn (n + 2) .f_is_digit [.str x, .int p, .int b] σ = some (.bool (isDg (x.drop p) b), σ) := by
  have hl : x.length ≤ 16777216 := by omega
  rw [fn_succ]
  cases h : x.drop p with
  | nil =>
    have h2 := at_nil h
    wp_walk using b_f_is_digit, isDg, hl, Nat.not_lt.mpr h2
  | cons c r =>
    obtain ⟨h1, h2, h3⟩ := at_cons h
    have hi := i_str σ x c (by omega) h1
    by_cases h0 : 0 ≤ dig c
    · wp_walk using b_f_is_digit, isDg, hl, h2, hi, digit_ok, h0
    · wp_walk using b_f_is_digit, isDg, hl, h2, hi, digit_ok, h0

noncomputable def wl (c : Nat) : Bool := c == 95 || decide (0 ≤ dig c)

noncomputable def noRun (s : Txt) : Bool := match s with
  | [] => true
  | c :: r => !wl c && !(c == 58 && r.head? == some 58)

inductive Run : Txt → Txt → Prop
  | stop {s : Txt} : noRun s = true → Run s s
  | wl {c : Nat} {r s : Txt} : wl c = true → Run r s → Run (c :: r) s
  | cc {r s : Txt} : Run r s → Run (58 :: 58 :: r) s

theorem Run.le {s s' : Txt} (h : Run s s') : s'.length ≤ s.length := by
  induction h with
  | stop => exact Nat.le_refl _
  | wl _ _ ih => simp; omega
  | cc _ ih => simp; omega

theorem isDg36 (c : Nat) (r : Txt) : isDg (c :: r) 36 = decide (0 ≤ dig c) := by
  have := dig_lt c
  unfold isDg
  rw [Bool.eq_iff_iff]; simp; omega

set_option tactic.hygienic true in
theorem run_end_ok (n : Nat) {x : Txt} (hx : x.length ≤ 1000000) {s s' : Txt} (hs : Run s s') (σ : St) : ∀ (p : Nat), p ≤ x.length → x.drop p = s → fn (n + 3) .f_run_end [.str x, .int p] σ = some (.int (x.length - s'.length : Nat), σ) := by
  have hl : x.length ≤ 16777216 := by omega
  have key : ∀ (p : Nat), p ≤ x.length → x.drop p = s → sWhile (tCmp .Lt (dVar 1) (dCall bLen [dVar 0])) (sIf (tOrs [tCmp .Eq (dIndex (dVar 0) (dVar 1)) (dLit (.str [95])), tVal (dCall (fn (n + 2) .f_is_digit) [dVar 0, dVar 1, dLit (.int 36)])]) (sAug .Add 1 (dLit (.int 1)))
      (sIf (tCmp .Eq (dSlice (dVar 0) (some (dVar 1)) (some (dBin .Add (dVar 1) (dLit (.int 2))))) (dLit (.str [58, 58]))) (sAug .Add 1 (dLit (.int 2))) (sBrk)))
      [some (.str x), some (.int p)] σ = some (.next, [some (.str x), some (.int (x.length - s'.length : Nat))], σ) := by
    induction hs with
    | stop hn =>
      intro p hp h
      rename_i s
      have e := drop_len h hp
      rw [← e.1]
      cases s with
      | nil =>
        have h2 := at_nil h
        refine while_done (by wp_walk using hl, h2)
      | cons c r =>
        obtain ⟨h1, h2, h3⟩ := at_cons h
        have hi := i_str σ x c (by omega) h1
        have hd := is_digit_ok n hx p 36 σ
        rw [h, isDg36] at hd
        simp only [noRun, wl, Bool.and_eq_true, Bool.not_eq_true', Bool.or_eq_false_iff, beq_eq_false_iff_ne, decide_eq_false_iff_not, ne_eq, Bool.and_eq_false_iff] at hn
        obtain ⟨⟨n1, n2⟩, n3⟩ := hn
        refine while_brk (σ₁ := σ) (by wp_walk using hl, h2) ?_
        have n4 : ¬ List.take 2 (c :: r) = [58, 58] := by
          intro z
          cases r with
          | nil => simp at z
          | cons c' r' =>
            simp at z
            rcases n3 with n3 | n3
            · exact n3 z.1
            · simp [z.2] at n3
        have n5 := n4
        simp only [List.take_succ_cons] at n5
        wp_walk using hl, hi, hd, n1, n2, h, n5, sBrk
    | wl hw hs ih =>
      intro p hp h
      rename_i c r s
      obtain ⟨h1, h2, h3⟩ := at_cons h
      have hi := i_str σ x c (by omega) h1
      have hd := is_digit_ok n hx p 36 σ
      rw [h, isDg36] at hd
      refine (while_step (σ₁ := σ) (σ₂ := σ) (by wp_walk using hl, h2) ?_).trans (ih (p + 1) (by omega) h3)
      by_cases h95 : c = 95
      · wp_walk using hi, h95
      · have : 0 ≤ dig c := by unfold Mine.wl at hw; simpa [h95] using hw
        wp_walk using hi, h95, hd, this
    | cc hs ih =>
      intro p hp h
      obtain ⟨h1, h2, h3⟩ := at_cons h
      obtain ⟨h4, h5, h6⟩ := at_cons h3
      have hi := i_str σ x 58 (by omega) h1
      have hd := is_digit_ok n hx p 36 σ
      rw [h, isDg36] at hd
      refine (while_step (σ₁ := σ) (σ₂ := σ) (by wp_walk using hl, h2) ?_).trans (ih (p + 2) (by omega) h6)
      wp_walk using hl, hi, hd, h, dig
  intro p hp h
  have hw := key p hp h
  rw [fn_succ]
  wp_walk using b_f_run_end, hw

noncomputable def dval (b : Int) (ds : Txt) (v : Int) : Int := ds.foldl (fun v c => v * b + dig c) v
theorem digits_value_ok (n : Nat) {ds : Txt} (h0 : ds ≠ []) (b : Nat) (hb : b ≤ 36) (hd : ∀ c ∈ ds, 0 ≤ dig c ∧ dig c < b) (σ : St) : fn (n + 2) .f_digits_value [.str ds, .int b] σ = some (.int (dval b ds 0), σ) := by
  have key : ∀ (k : Nat) (r : Txt) (v : Int) (o3 o4 : Option V), ds.drop k = r → ∃ o3' o4', sForGo (.str ds) 3 (sSeq (sSet 4 (dCall (fn (n + 1) .f_digit) [dVar 3])) (sSeq (sIf (tOrs [tCmp .Lt (dVar 4) (dLit (.int 0)), tCmp .GtE (dVar 4) (dVar 1)]) (sRet (dLit .none)) (sNil)) (sSet 2 (dBin .Add (dBin .Mult (dVar 2) (dVar 1)) (dVar 4))))) k
      [some (.str ds), some (.int b), some (.int v), o3, o4] σ = some (.next, [some (.str ds), some (.int b), some (.int (dval b r v)), o3', o4'], σ) := by
    intro k r
    induction r generalizing k with
    | nil =>
      intro v o3 o4 h
      have h2 := at_nil h
      refine ⟨o3, o4, for_done ?_⟩
      simp [dNext, h2]
    | cons c r ih =>
      intro v o3 o4 h
      obtain ⟨h1, h2, h3⟩ := at_cons h
      obtain ⟨o3', o4', e⟩ := ih (k + 1) (v * b + dig c) (some (.str [c])) (some (.int (dig c))) h3
      refine ⟨o3', o4', (for_step (v := .str [c]) (σ₂ := σ) ?_ ?_).trans e⟩
      · simp [dNext, h1]
      · obtain ⟨d1, d2⟩ := hd c (List.mem_of_getElem? h1)
        have d3 : ¬ dig c < 0 := by omega
        have d4 : ¬ (b : Int) ≤ dig c := by omega
        have d5 : b ≤ 1000 := by omega
        wp_walk using digit_ok, d3, d4, d5
  obtain ⟨o3', o4', e⟩ := key 0 ds 0 none none rfl
  rw [fn_succ]
  wp_walk using b_f_digits_value, h0, sFor, iVal, srcOf, e

noncomputable def markB (m : Txt) : Nat := if m ∈ [[120], [88]] then 16 else if m ∈ [[111], [79]] then 8 else if m ∈ [[98], [66]] then 2 else if m ∈ [[100], [68]] then 10 else 0
theorem base_of_ok (n : Nat) (m : Txt) (σ : St) : fn (n + 1) .f_base_of [.str m] σ = some (.int (markB m), σ) := by
  rw [fn_succ]
  unfold markB
  by_cases h1 : m ∈ [[120], [88]]
  · wp_walk using b_f_base_of, (by simpa using h1 : m = [120] ∨ m = [88])
  · by_cases h2 : m ∈ [[111], [79]]
    · wp_walk using b_f_base_of, (by simpa using h1 : ¬ (m = [120] ∨ m = [88])), (by simpa using h2 : m = [111] ∨ m = [79])
    · by_cases h3 : m ∈ [[98], [66]]
      · wp_walk using b_f_base_of, (by simpa using h1 : ¬ (m = [120] ∨ m = [88])), (by simpa using h2 : ¬ (m = [111] ∨ m = [79])), (by simpa using h3 : m = [98] ∨ m = [66])
      · by_cases h4 : m ∈ [[100], [68]]
        · wp_walk using b_f_base_of, (by simpa using h1 : ¬ (m = [120] ∨ m = [88])), (by simpa using h2 : ¬ (m = [111] ∨ m = [79])), (by simpa using h3 : ¬ (m = [98] ∨ m = [66])), (by simpa using h4 : m = [100] ∨ m = [68])
        · wp_walk using b_f_base_of, (by simpa using h1 : ¬ (m = [120] ∨ m = [88])), (by simpa using h2 : ¬ (m = [111] ∨ m = [79])), (by simpa using h3 : ¬ (m = [98] ∨ m = [66])), (by simpa using h4 : ¬ (m = [100] ∨ m = [68]))

noncomputable def wordOps : List Txt := [[101, 113], [110, 101], [105, 110], [110, 105], [108, 116], [108, 101], [103, 116], [103, 101]]
theorem is_word_op_ok (n : Nat) (w : Txt) (σ : St) : fn (n + 1) .f_is_word_op [.str w] σ = some (.bool (decide (w ∈ wordOps)), σ) := by
  rw [fn_succ]
  wp_walk using b_f_is_word_op, wordOps

theorem is_float_at_ok (n : Nat) {x : Txt} (hx : x.length ≤ 1000000) (p : Nat) (h : ∀ c r, x.drop p = c :: r → c ≠ 46 ∧ c ≠ 101 ∧ c ≠ 69) (σ : St) : fn (n + 3) .f_is_float_at [.str x, .int p] σ = some (.bool false, σ) := by
  have hl : x.length ≤ 16777216 := by omega
  rw [fn_succ]
  cases e : x.drop p with
  | nil => wp_walk using b_f_is_float_at, hl, e
  | cons c r =>
    obtain ⟨h1, h2, h3⟩ := h c r e
    wp_walk using b_f_is_float_at, hl, e, h1, h2, h3

theorem figs_loop (n : Nat) {x : Txt} (hx : x.length ≤ 1000000) (b : Int) (ρ0 : List (Option V)) (o4 o6 : Option V) (q : Int) (σ : St) (ds : Txt) : ∀ (p : Nat) (r : Txt), x.drop p = ds ++ r → (∀ c ∈ ds, 0 ≤ dig c ∧ dig c < b) → isDg r b = false →
    sWhile (tVal (dCall (fn (n + 2) .f_is_digit) [dVar 0, dVar 5, dVar 2])) (sAug .Add 5 (dLit (.int 1))) [some (.str x), some (.int q), some (.int b), o4, o6, some (.int p), none] σ =
      some (.next, [some (.str x), some (.int q), some (.int b), o4, o6, some (.int (p + ds.length : Nat)), none], σ) := by
  induction ds with
  | nil =>
    intro p r h hd hr
    have hk := is_digit_ok n hx p b σ
    rw [h, List.nil_append, hr] at hk
    exact while_done (by wp_walk using hk)
  | cons c ds ih =>
    intro p r h hd hr
    obtain ⟨h1, h2, h3⟩ := at_cons h
    have hk := is_digit_ok n hx p b σ
    obtain ⟨d1, d2⟩ := hd c (by simp)
    have hk' : isDg (x.drop p) b = true := by rw [h]; show decide (0 ≤ dig c ∧ dig c < b) = true; simp [d1, d2]
    rw [hk'] at hk
    have e1 := ih (p + 1) r h3 (fun d hd' => hd d (by simp [hd'])) hr
    refine (while_step (σ₁ := σ) (σ₂ := σ) (by wp_walk using hk) (by wp_walk using hk)).trans (e1.trans ?_)
    rw [show p + 1 + ds.length = p + (c :: ds).length by simp; omega]

theorem noRun_dg {r : Txt} (h : noRun r = true) (b : Int) : isDg r b = false := by
  cases r with
  | nil => rfl
  | cons c r =>
    unfold noRun wl at h
    simp only [Bool.and_eq_true, Bool.not_eq_true', Bool.or_eq_false_iff, decide_eq_false_iff_not] at h
    show decide _ = false
    simp [h.1.2]
theorem noRun_nofloat {r : Txt} (h : noRun r = true) (h46 : r.head? ≠ some 46) : ∀ c r', r = c :: r' → c ≠ 46 ∧ c ≠ 101 ∧ c ≠ 69 := by
  rintro c r' rfl
  unfold noRun wl at h
  simp only [Bool.and_eq_true, Bool.not_eq_true', Bool.or_eq_false_iff, decide_eq_false_iff_not] at h
  refine ⟨by simpa using h46, ?_, ?_⟩
  · rintro rfl; exact absurd (by decide : 0 ≤ dig 101) h.1.2
  · rintro rfl; exact absurd (by decide : 0 ≤ dig 69) h.1.2

noncomputable def tokV (sort : Txt) (v : V) (p q : Nat) : V := .tup [.str sort, v, .int p, .int q]

theorem markB_dig {c : Nat} (h : dig c < 10) : markB [c] = 0 := by
  have : c ≠ 120 ∧ c ≠ 88 ∧ c ≠ 111 ∧ c ≠ 79 ∧ c ≠ 98 ∧ c ≠ 66 ∧ c ≠ 100 ∧ c ≠ 68 := by
    refine ⟨?_, ?_, ?_, ?_, ?_, ?_, ?_, ?_⟩ <;> (rintro rfl; revert h; decide)
  obtain ⟨a1, a2, a3, a4, a5, a6, a7, a8⟩ := this
  unfold markB
  simp [a1, a2, a3, a4, a5, a6, a7, a8]

theorem number10_ok (n : Nat) {x : Txt} (hx : x.length ≤ 1000000) (p : Nat) {ds r : Txt} (h : x.drop p = ds ++ r) (h0 : ds ≠ []) (hd : ∀ c ∈ ds, 0 ≤ dig c ∧ dig c < 10) (hr : noRun r = true) (h46 : r.head? ≠ some 46) (σ : St) :
    fn (n + 4) .f_number_token [.str x, .int p] σ = some (tokV [110, 117, 109, 98, 101, 114] (.int (dval 10 ds 0)) p (p + ds.length), σ) := by
  have hl : x.length ≤ 16777216 := by omega
  obtain ⟨c, ds', rfl⟩ : ∃ c ds', ds = c :: ds' := by
    cases ds with
    | nil => exact absurd rfl h0
    | cons c ds' => exact ⟨c, ds', rfl⟩
  obtain ⟨h1, h2, h3⟩ := at_cons h
  have hi := i_str σ x c (by omega) h1
  have hm : (x.drop (p + 1)).take 1 = [] ∨ ∃ d, (x.drop (p + 1)).take 1 = [d] ∧ dig d < 10 := by
    rw [h3]
    cases ds' with
    | nil =>
      cases r with
      | nil => exact .inl rfl
      | cons d r =>
        refine .inr ⟨d, rfl, ?_⟩
        unfold noRun wl at hr
        simp only [Bool.and_eq_true, Bool.not_eq_true', Bool.or_eq_false_iff, decide_eq_false_iff_not] at hr
        have := hr.1.2; omega
    | cons d ds'' => exact .inr ⟨d, rfl, (hd d (by simp)).2⟩
  have hmk : markB ((x.drop (p + 1)).take 1) = 0 := by
    rcases hm with e | ⟨d, e, hd'⟩
    · rw [e]; rfl
    · rw [e]; exact markB_dig hd'
  have hb := base_of_ok (n + 2) ((x.drop (p + 1)).take 1) σ
  rw [hmk] at hb
  have hend : x.drop (p + (c :: ds').length) = r := by rw [← List.drop_drop, h]; simp
  have hple : p + (c :: ds').length ≤ x.length := by
    have e := congrArg List.length h
    simp only [List.length_drop, List.length_append] at e
    have : 0 < (c :: ds').length := by simp
    omega
  have hq := drop_len hend hple
  have hf := is_float_at_ok n hx (p + (c :: ds').length) (by rw [hend]; exact noRun_nofloat hr h46) σ
  have hre := run_end_ok n hx (Run.stop hr) σ (p + (c :: ds').length) hple hend
  rw [← hq.1] at hre
  have hdv : fn (n + 3) .f_digits_value [.str (c :: ds'), .int 10] σ = some (.int (dval 10 (c :: ds') 0), σ) := digits_value_ok (n + 1) (ds := c :: ds') (by simp) 10 (by omega) (by simpa using hd) σ
  have hsl := s_str σ x (k := p) (m := p + (c :: ds').length) hl
  rw [h, show p + (c :: ds').length - p = (c :: ds').length by omega, List.take_left] at hsl
  have hwl : ∀ o4, _ := fun o4 => figs_loop (n + 1) hx 10 [] (some (.int p)) o4 p σ (c :: ds') p r h hd (noRun_dg hr 10)
  have hlt : ¬ p + (c :: ds').length < p + (c :: ds').length := Nat.lt_irrefl _
  generalize p + (c :: ds').length = q at *
  rw [fn_succ]
  by_cases h48 : c = 48
  · have hw := hwl (some (.int 0))
    subst h48
    wp_walk using b_f_number_token, hi, hl, hb, hw, hf, hre, hdv, hsl, tokV
  · have hw := hwl none
    wp_walk using b_f_number_token, hi, hl, h48, hb, hw, hf, hre, hdv, hsl, tokV

theorem numberM_ok (n : Nat) {x : Txt} (hx : x.length ≤ 1000000) (p : Nat) {m b : Nat} {ds r : Txt} (h : x.drop p = 48 :: m :: (ds ++ r)) (hm : markB [m] = b) (hb0 : 0 < b) (h0 : ds ≠ []) (hd : ∀ c ∈ ds, 0 ≤ dig c ∧ dig c < b) (hr : noRun r = true) (σ : St) :
    fn (n + 4) .f_number_token [.str x, .int p] σ = some (tokV [110, 117, 109, 98, 101, 114] (.int (dval b ds 0)) p (p + 2 + ds.length), σ) := by
  have hl : x.length ≤ 16777216 := by omega
  have hb36 : b ≤ 36 := by rw [← hm]; unfold markB; (repeat' split) <;> omega
  obtain ⟨h1, h2, h3⟩ := at_cons h
  obtain ⟨h4, h5, h6⟩ := at_cons h3
  rw [show p + 1 + 1 = p + 2 by omega] at h6
  have hi := i_str σ x 48 (by omega) h1
  have hb := base_of_ok (n + 2) [m] σ
  rw [hm] at hb
  have hend : x.drop (p + 2 + ds.length) = r := by rw [← List.drop_drop, h6]; simp
  have hple : p + 2 + ds.length ≤ x.length := by
    have e := congrArg List.length h6
    simp only [List.length_drop, List.length_append] at e
    omega
  have hq := drop_len hend hple
  have hre := run_end_ok n hx (Run.stop hr) σ (p + 2 + ds.length) hple hend
  rw [← hq.1] at hre
  have hdv := digits_value_ok (n + 1) h0 b hb36 hd σ
  have hsl := s_str σ x (k := p + 2) (m := p + 2 + ds.length) hl
  rw [h6, show p + 2 + ds.length - (p + 2) = ds.length by omega, List.take_left] at hsl
  have hid := is_digit_ok (n + 1) hx (p + 2) b σ
  have hid' : isDg (x.drop (p + 2)) b = true := by
    rw [h6]
    cases ds with
    | nil => exact absurd rfl h0
    | cons c ds' =>
      obtain ⟨d1, d2⟩ := hd c (by simp)
      show decide (0 ≤ dig c ∧ dig c < b) = true
      simp [d1, d2]
  rw [hid'] at hid
  have hw := figs_loop (n + 1) hx b [] (some (.int (p + 2 : Nat))) (some (.int b)) p σ ds (p + 2) r h6 hd (noRun_dg hr b)
  have hne : ¬ (p : Int) + 2 = p := by omega
  have h24 : (p : Int) + 2 = ((p + 2 : Nat) : Int) := by omega
  generalize p + 2 + ds.length = q at *
  rw [fn_succ]
  rw [← h24] at hid hw hsl
  wp_walk using b_f_number_token, hi, hl, h3, hb, hb0, hid, hw, hne, hre, hdv, hsl, tokV
set_option maxHeartbeats 200000

noncomputable def twos : List Txt := [[42, 42], [60, 60], [62, 62], [60, 61], [62, 61], [61, 61], [33, 61], [38, 38], [124, 124]]
noncomputable def ones : List Txt := [[43], [45], [42], [47], [37], [126], [33], [60], [62], [38], [94], [124], [63], [58]]
noncomputable def opOf (s : Txt) : Txt := if s.take 2 ∈ twos then s.take 2 else if s.take 1 ∈ ones then s.take 1 else []

theorem op_at_ok (n : Nat) {x : Txt} (hx : x.length ≤ 1000000) (p : Nat) (hp : p < x.length) (σ : St) : fn (n + 1) .f_op_at [.str x, .int p] σ = some (.str (opOf (x.drop p)), σ) := by
  have hl : x.length ≤ 16777216 := by omega
  obtain ⟨c, r, h⟩ : ∃ c r, x.drop p = c :: r := by
    cases h : x.drop p with
    | nil => have := at_nil h; omega
    | cons c r => exact ⟨c, r, rfl⟩
  obtain ⟨h1, h2, h3⟩ := at_cons h
  have hi := i_str σ x c (by omega) h1
  have e2 := s02 σ x (p := p) hl
  have e3 : (x.drop p).take 1 = [c] := by rw [h]; rfl
  unfold opOf
  rw [e3]
  generalize (x.drop p).take 2 = two at *
  have in2 : vcmp .In (.str two) (.tup [.str [42, 42], .str [60, 60], .str [62, 62], .str [60, 61], .str [62, 61], .str [61, 61], .str [33, 61], .str [38, 38], .str [124, 124]]) σ = some (decide (two ∈ twos)) := c_in ..
  have in1 : vcmp .In (.str [c]) (.tup [.str [43], .str [45], .str [42], .str [47], .str [37], .str [126], .str [33], .str [60], .str [62], .str [38], .str [94], .str [124], .str [63], .str [58]]) σ = some (decide ([c] ∈ ones)) := c_in ..
  rw [fn_succ]
  by_cases ha : two ∈ twos
  · wp_walk using b_f_op_at, e2, in2, ha
  · by_cases hb : [c] ∈ ones
    · wp_walk using b_f_op_at, e2, in2, ha, hi, in1, hb
    · wp_walk using b_f_op_at, e2, in2, ha, hi, in1, hb

theorem sign_op_ok (n : Nat) {x : Txt} (hx : x.length ≤ 1000000) (p : Nat) (hp : p < x.length) (h : opOf (x.drop p) ≠ []) (σ : St) :
    fn (n + 2) .f_sign_token [.str x, .int p] σ = some (tokV [111, 112] (.str (opOf (x.drop p))) p (p + (opOf (x.drop p)).length), σ) := by
  have ho := op_at_ok n hx p hp σ
  have hl : (opOf (x.drop p)).length ≤ 16777216 := by
    unfold opOf; repeat' split
    · simp; omega
    · simp; omega
    · simp
  generalize opOf (x.drop p) = o at *
  rw [fn_succ]
  wp_walk using b_f_sign_token, ho, h, hl, tokV

theorem wl_opOf {c : Nat} (r : Txt) (h : wl c = true) : opOf (c :: r) = [] := by
  have h2 : List.take 2 (c :: r) ∉ twos := fun hm => by
    have := (show ∀ t ∈ twos, t.head?.map wl = some false by decide) _ hm
    rw [show (List.take 2 (c :: r)).head?.map wl = some (wl c) from rfl, h] at this
    cases this
  have h1 : List.take 1 (c :: r) ∉ ones := fun hm => by
    have := (show ∀ t ∈ ones, t.head?.map wl = some false by decide) _ hm
    rw [show (List.take 1 (c :: r)).head?.map wl = some (wl c) from rfl, h] at this
    cases this
  unfold opOf
  rw [if_neg h2, if_neg h1]

theorem sign_number_ok (n : Nat) {x : Txt} (hx : x.length ≤ 1000000) (p : Nat) {c : Nat} {r : Txt} (h : x.drop p = c :: r) (hc : 0 ≤ dig c ∧ dig c < 10) {v : V} (σ : St) (hn : fn (n + 4) .f_number_token [.str x, .int p] σ = some (v, σ)) :
    fn (n + 5) .f_sign_token [.str x, .int p] σ = some (v, σ) := by
  obtain ⟨h1, h2, h3⟩ := at_cons h
  have ho := op_at_ok (n + 3) hx p h2 σ
  rw [h, wl_opOf r (by unfold wl; simp [hc.1])] at ho
  have hd := is_digit_ok (n + 2) hx p 10 σ
  rw [h, show isDg (c :: r) 10 = true by show decide _ = true; simp [hc]] at hd
  rw [fn_succ]
  wp_walk using b_f_sign_token, ho, hd, hn

theorem sign_word_ok (n : Nat) {x : Txt} (hx : x.length ≤ 1000000) (p : Nat) {c : Nat} {r w r' : Txt} (h : x.drop p = c :: r) (hw : wl c = true) (hc : ¬ (0 ≤ dig c ∧ dig c < 10)) (hr : Run (c :: r) r') (he : c :: r = w ++ r') (σ : St) :
    fn (n + 5) .f_sign_token [.str x, .int p] σ = some (tokV (if w ∈ wordOps then [111, 112] else [119, 111, 114, 100]) (.str w) p (p + w.length), σ) := by
  have hl : x.length ≤ 16777216 := by omega
  obtain ⟨h1, h2, h3⟩ := at_cons h
  have hi := i_str σ x c (by omega) h1
  have ho := op_at_ok (n + 3) hx p h2 σ
  rw [h, wl_opOf r hw] at ho
  have hd := is_digit_ok (n + 2) hx p 10 σ
  rw [h, show isDg (c :: r) 10 = false by show decide _ = false; simp; omega] at hd
  have hd2 := is_digit_ok (n + 2) hx p 36 σ
  rw [h, isDg36] at hd2
  have hre := run_end_ok (n + 1) hx hr σ p (by omega) h
  have hlen : x.length - r'.length = p + w.length := (app_le (he ▸ h) (Nat.le_of_lt h2)).2
  rw [hlen] at hre
  have hsl := s_str σ x (k := p) (m := p + w.length) hl
  rw [h, he, show p + w.length - p = w.length by omega, List.take_left] at hsl
  have hwo := is_word_op_ok (n + 3) w σ
  generalize p + w.length = q at *
  have hor : c = 95 ∨ 0 ≤ dig c := by unfold wl at hw; simpa using hw
  rw [fn_succ]
  by_cases h95 : c = 95
  · by_cases hm : w ∈ wordOps
    · wp_walk using b_f_sign_token, ho, hd, hi, h95, hre, hsl, hwo, hm, tokV
    · wp_walk using b_f_sign_token, ho, hd, hi, h95, hre, hsl, hwo, hm, tokV
  · have h0 : 0 ≤ dig c := by rcases hor with z | z; exact absurd z h95; exact z
    by_cases hm : w ∈ wordOps
    · wp_walk using b_f_sign_token, ho, hd, hi, h95, hd2, h0, hre, hsl, hwo, hm, tokV
    · wp_walk using b_f_sign_token, ho, hd, hi, h95, hd2, h0, hre, hsl, hwo, hm, tokV

theorem token_sign_ok (n : Nat) {x : Txt} (hx : x.length ≤ 1000000) (p : Nat) {c : Nat} {r : Txt} (h : x.drop p = c :: r) (hc : c ∉ [36, 91, 34, 123, 40, 41, 44]) {v : V} (σ : St) (hs : fn (n + 5) .f_sign_token [.str x, .int p] σ = some (v, σ)) :
    fn (n + 6) .f_token_at [.str x, .int p] σ = some (v, σ) := by
  obtain ⟨h1, h2, h3⟩ := at_cons h
  have hi := i_str σ x c (by omega) h1
  simp only [List.mem_cons, List.not_mem_nil, or_false, not_or] at hc
  obtain ⟨a1, a2, a3, a4, a5, a6, a7⟩ := hc
  rw [fn_succ]
  wp_walk using b_f_token_at, hi, a1, a2, a3, a4, a5, a6, a7, hs
theorem token_paren_ok (n : Nat) {x : Txt} (hx : x.length ≤ 1000000) (p : Nat) {c : Nat} {r : Txt} (h : x.drop p = c :: r) (hc : c = 40 ∨ c = 41 ∨ c = 44) (σ : St) :
    fn (n + 6) .f_token_at [.str x, .int p] σ = some (tokV [c] (.str [c]) p (p + 1), σ) := by
  obtain ⟨h1, h2, h3⟩ := at_cons h
  have hi := i_str σ x c (by omega) h1
  rw [fn_succ]
  rcases hc with rfl | rfl | rfl <;> wp_walk using b_f_token_at, hi, tokV
set_option maxHeartbeats 200000

noncomputable def gapC (c : Nat) : Bool := c == 32 || c == 9 || c == 11 || c == 12 || c == 13
theorem is_gap_ok (n c : Nat) (σ : St) : fn (n + 1) .f_is_gap [.str [c]] σ = some (.bool (gapC c), σ) := by
  rw [fn_succ]
  wp_walk using b_f_is_gap, gapC
  rw [Bool.eq_iff_iff]; simp [or_assoc]

noncomputable def noGap (s : Txt) : Prop := match s with
  | [] => True
  | c :: r => gapC c = false ∧ ¬ (c = 92 ∧ r.head? = some 10)
theorem take2_ne {c a b : Nat} {r : Txt} (h : ¬ (c = a ∧ r.head? = some b)) : ¬ List.take 2 (c :: r) = [a, b] := by
  cases r with
  | nil => simp
  | cons d r => simpa using h

theorem skip_gaps_0 (n : Nat) {x : Txt} (hx : x.length ≤ 1000000) (p : Nat) (hp : p ≤ x.length) (h : noGap (x.drop p)) (σ : St) : fn (n + 2) .f_skip_gaps [.str x, .int p] σ = some (.int p, σ) := by
  have hl : x.length ≤ 16777216 := by omega
  rw [fn_succ]
  cases e : x.drop p with
  | nil =>
    have h2 := at_nil e
    have := while_done (b := sIf (tVal (dCall (fn (n + 1) .f_is_gap) [dIndex (dVar 0) (dVar 1)])) (sAug .Add 1 (dLit (.int 1))) (sIf (tCmp .Eq (dSlice (dVar 0) (some (dVar 1)) (some (dBin .Add (dVar 1) (dLit (.int 2))))) (dLit (.str [92, 10]))) (sAug .Add 1 (dLit (.int 2))) (sRet (dVar 1))))
      (show (tCmp .Lt (dVar 1) (dCall bLen [dVar 0])) [some (.str x), some (.int p)] σ = some (false, σ) by wp_walk using hl, h2)
    wp_walk using b_f_skip_gaps, this
  | cons c r =>
    obtain ⟨h1, h2, h3⟩ := at_cons e
    have hi := i_str σ x c (by omega) h1
    rw [e] at h
    obtain ⟨g1, g2⟩ := h
    have hg := is_gap_ok n c σ
    rw [g1] at hg
    have g3 := take2_ne g2
    simp only [List.take_succ_cons] at g3
    have := while_ret (t := tCmp .Lt (dVar 1) (dCall bLen [dVar 0])) (ρ := [some (.str x), some (.int p)]) (σ := σ) (σ₁ := σ) (σ₂ := σ) (ρ₂ := [some (.str x), some (.int p)]) (v := .int p)
      (b := sIf (tVal (dCall (fn (n + 1) .f_is_gap) [dIndex (dVar 0) (dVar 1)])) (sAug .Add 1 (dLit (.int 1))) (sIf (tCmp .Eq (dSlice (dVar 0) (some (dVar 1)) (some (dBin .Add (dVar 1) (dLit (.int 2))))) (dLit (.str [92, 10]))) (sAug .Add 1 (dLit (.int 2))) (sRet (dVar 1))))
      (by wp_walk using hl, h2) (by wp_walk using hl, hi, hg, e, g3)
    wp_walk using b_f_skip_gaps, this
theorem skip_gaps_1 (n : Nat) {x : Txt} (hx : x.length ≤ 1000000) (p : Nat) {r : Txt} (hr : x.drop p = 32 :: r) (h : noGap r) (σ : St) : fn (n + 2) .f_skip_gaps [.str x, .int p] σ = some (.int (p + 1 : Nat), σ) := by
  have hl : x.length ≤ 16777216 := by omega
  obtain ⟨h1, h2, h3⟩ := at_cons hr
  have hi := i_str σ x 32 (by omega) h1
  have hg := is_gap_ok n 32 σ
  have e := skip_gaps_0 n hx (p + 1) (by omega) (by rw [h3]; exact h) σ
  rw [fn_succ] at e ⊢
  have st := while_step (t := tCmp .Lt (dVar 1) (dCall bLen [dVar 0])) (ρ := [some (.str x), some (.int p)]) (σ := σ) (σ₁ := σ) (σ₂ := σ) (ρ₂ := [some (.str x), some (.int (p + 1 : Nat))])
      (b := sIf (tVal (dCall (fn (n + 1) .f_is_gap) [dIndex (dVar 0) (dVar 1)])) (sAug .Add 1 (dLit (.int 1))) (sIf (tCmp .Eq (dSlice (dVar 0) (some (dVar 1)) (some (dBin .Add (dVar 1) (dLit (.int 2))))) (dLit (.str [92, 10]))) (sAug .Add 1 (dLit (.int 2))) (sRet (dVar 1))))
      (by wp_walk using hl, h2) (by wp_walk using hl, hi, hg, gapC)
  simp only [bd_f_skip_gaps, dFn, b_f_skip_gaps, List.map_cons, List.map_nil, List.replicate, List.append_nil, sSeq] at e ⊢
  rw [st]
  exact e

theorem skip_to_command_0 (n : Nat) {x : Txt} (hx : x.length ≤ 1000000) (p : Nat) {c : Nat} {r : Txt} (hr : x.drop p = c :: r) (h : noGap (c :: r)) (hc : c ≠ 10 ∧ c ≠ 59 ∧ c ≠ 35) (σ : St) : fn (n + 3) .f_skip_to_command [.str x, .int p] σ = some (.int p, σ) := by
  have hl : x.length ≤ 16777216 := by omega
  obtain ⟨h1, h2, h3⟩ := at_cons hr
  obtain ⟨c1, c2, c3⟩ := hc
  have e := skip_gaps_0 n hx p (by omega) (by rw [hr]; exact h) σ
  have := while_done (t := tCmp .In (dSlice (dVar 0) (some (dVar 1)) (some (dBin .Add (dVar 1) (dLit (.int 1))))) (dTup [dLit (.str [10]), dLit (.str [59]), dLit (.str [35])]))
      (b := sSeq (sIf (tCmp .Eq (dIndex (dVar 0) (dVar 1)) (dLit (.str [35]))) (sStuck) (sAug .Add 1 (dLit (.int 1)))) (sSet 1 (dCall (fn (n + 2) .f_skip_gaps) [dVar 0, dVar 1])))
      (ρ := [some (.str x), some (.int p)]) (σ := σ) (σ₁ := σ) (by wp_walk using hl, hr, c1, c2, c3)
  rw [fn_succ]
  wp_walk using b_f_skip_to_command, e, this

noncomputable def noName (s : Txt) : Prop := match s with
  | [] => True
  | c :: r => wl c = false ∧ ¬ (c = 58 ∧ r.head? = some 58)
inductive Nm : Txt → Txt → Prop
  | stop {s : Txt} : noName s → Nm s s
  | wl {c : Nat} {r s : Txt} : wl c = true → Nm r s → Nm (c :: r) s
  | cc {c : Nat} {r s : Txt} : c ≠ 58 → Nm (c :: r) s → Nm (58 :: 58 :: c :: r) s
theorem Nm.le {s s' : Txt} (h : Nm s s') : s'.length ≤ s.length := by
  induction h with
  | stop => exact Nat.le_refl _
  | wl _ _ ih => simp; omega
  | cc _ _ ih => simp at ih ⊢; omega

set_option tactic.hygienic true in
theorem read_name_ok (n : Nat) {x : Txt} (hx : x.length ≤ 1000000) {s s' : Txt} (hs : Nm s s') (σ : St) : ∀ (p : Nat), p ≤ x.length → x.drop p = s → fn (n + 2) .f_read_name [.str x, .int p] σ = some (.int (x.length - s'.length : Nat), σ) := by
  have hl : x.length ≤ 16777216 := by omega
  have key : ∀ (p : Nat), p ≤ x.length → x.drop p = s → ∃ c ρ, sWhile (tCmp .Lt (dVar 1) (dCall bLen [dVar 0])) (sIf (tOrs [tCmp .Eq (dIndex (dVar 0) (dVar 1)) (dLit (.str [95])), tCmp .GtE (dCall (fn (n + 1) .f_digit) [dIndex (dVar 0) (dVar 1)]) (dLit (.int 0))]) (sAug .Add 1 (dLit (.int 1)))
      (sIf (tCmp .Eq (dSlice (dVar 0) (some (dVar 1)) (some (dBin .Add (dVar 1) (dLit (.int 2))))) (dLit (.str [58, 58]))) (sSeq (sAug .Add 1 (dLit (.int 2))) (sWhile (tCmp .Eq (dSlice (dVar 0) (some (dVar 1)) (some (dBin .Add (dVar 1) (dLit (.int 1))))) (dLit (.str [58]))) (sAug .Add 1 (dLit (.int 1))))) (sRet (dVar 1))))
      [some (.str x), some (.int p)] σ = some (c, ρ, σ) ∧ (c = .ret (.int (x.length - s'.length : Nat)) ∨ (c = .next ∧ ρ = [some (.str x), some (.int (x.length - s'.length : Nat))])) := by
    induction hs with
    | stop hn =>
      intro p hp h
      rename_i s
      have e := drop_len h hp
      rw [← e.1]
      cases s with
      | nil =>
        have h2 := at_nil h
        exact ⟨_, _, while_done (by wp_walk using hl, h2), .inr ⟨rfl, rfl⟩⟩
      | cons c r =>
        obtain ⟨h1, h2, h3⟩ := at_cons h
        have hi := i_str σ x c (by omega) h1
        obtain ⟨n1, n2⟩ := hn
        unfold Mine.wl at n1
        simp only [Bool.or_eq_false_iff, beq_eq_false_iff_ne, decide_eq_false_iff_not] at n1
        have n3 := take2_ne n2
        simp only [List.take_succ_cons] at n3
        exact ⟨_, _, while_ret (v := .int p) (σ₁ := σ) (ρ₂ := [some (.str x), some (.int p)]) (σ₂ := σ) (by wp_walk using hl, h2) (by wp_walk using hl, hi, h, digit_ok, n1.1, n1.2, n3), .inl rfl⟩
    | wl hw hs ih =>
      intro p hp h
      rename_i c r s
      obtain ⟨h1, h2, h3⟩ := at_cons h
      have hi := i_str σ x c (by omega) h1
      obtain ⟨c', ρ', e, ec⟩ := ih (p + 1) (by omega) h3
      refine ⟨c', ρ', (while_step (σ₁ := σ) (σ₂ := σ) (by wp_walk using hl, h2) ?_).trans e, ec⟩
      by_cases h95 : c = 95
      · wp_walk using hi, h95
      · have : 0 ≤ dig c := by unfold Mine.wl at hw; simpa [h95] using hw
        wp_walk using hi, h95, digit_ok, this
    | cc hc hs ih =>
      intro p hp h
      rename_i c r s
      obtain ⟨h1, h2, h3⟩ := at_cons h
      obtain ⟨h4, h5, h6⟩ := at_cons h3
      have hi := i_str σ x 58 (by omega) h1
      obtain ⟨c', ρ', e, ec⟩ := ih (p + 2) (by omega) h6
      have hd : dig 58 = -1 := by decide
      have inner := while_done (t := tCmp .Eq (dSlice (dVar 0) (some (dVar 1)) (some (dBin .Add (dVar 1) (dLit (.int 1))))) (dLit (.str [58]))) (b := sAug .Add 1 (dLit (.int 1))) (ρ := [some (.str x), some (.int (p + 2 : Nat))]) (σ := σ) (σ₁ := σ)
        (by
          have := s01 σ x (p := p + 2) hl
          rw [show p + 2 = p + 1 + 1 by omega, h6] at this
          push_cast at this
          rw [show (p : Int) + 1 + 1 = (p : Int) + 2 by omega] at this
          wp_walk using hc, this)
      refine ⟨c', ρ', (while_step (σ₁ := σ) (σ₂ := σ) (by wp_walk using hl, h2) ?_).trans e, ec⟩
      rw [show ((p + 2 : Nat) : Int) = (p : Int) + 2 by omega] at inner
      wp_walk using hl, hi, digit_ok, hd, h, inner
  intro p hp h
  obtain ⟨c, ρ, e, ec⟩ := key p hp h
  rw [fn_succ]
  rcases ec with rfl | ⟨rfl, rfl⟩
  · wp_walk using b_f_read_name, e
  · wp_walk using b_f_read_name, e

noncomputable def plainB (c : Nat) : Bool := !(c == 123 || c == 125 || c == 92)
inductive Br : Nat → Txt → Txt → Prop
  | close {r : Txt} : Br 0 (125 :: r) r
  | down {d : Nat} {s r : Txt} : Br d s r → Br (d + 1) (125 :: s) r
  | up {d : Nat} {s r : Txt} : Br (d + 1) s r → Br d (123 :: s) r
  | run {d : Nat} {u s r : Txt} {c : Nat} : u ≠ [] → (∀ c ∈ u, plainB c = true) → plainB c = false → Br d (c :: s) r → Br d (u ++ c :: s) r
theorem Br.len {d : Nat} {s r : Txt} (h : Br d s r) : r.length < s.length := by
  induction h with
  | close => simp
  | down _ ih => simp; omega
  | up _ ih => simp; omega
  | run _ _ _ _ ih => simp at ih ⊢; omega

noncomputable abbrev brIn : DS := sWhile (tAnds [tCmp .Lt (dVar 4) (dVar 2), tCmp .NotIn (dIndex (dVar 0) (dVar 4)) (dLit (.str [123, 125, 92]))]) (sAug .Add 4 (dLit (.int 1)))
noncomputable abbrev brBody : DS := sIf (tCmp .Eq (dIndex (dVar 0) (dVar 4)) (dLit (.str [123]))) (sSeq (sAug .Add 6 (dLit (.int 1))) (sAug .Add 4 (dLit (.int 1)))) (sIf (tCmp .Eq (dIndex (dVar 0) (dVar 4)) (dLit (.str [125]))) (sSeq (sAug .Sub 6 (dLit (.int 1))) (sSeq (sAug .Add 4 (dLit (.int 1))) (sIf (tCmp .Eq (dVar 6) (dLit (.int 0))) (sRet (dTup [dBin .Add (dVar 5) (dSlice (dVar 0) (some (dVar 3)) (some (dBin .Sub (dVar 4) (dLit (.int 1))))), dVar 4])) (sNil)))) (sIf (tCmp .Eq (dSlice (dVar 0) (some (dVar 4)) (some (dBin .Add (dVar 4) (dLit (.int 2))))) (dLit (.str [92, 10]))) (sStuck) (sIf (tCmp .Eq (dIndex (dVar 0) (dVar 4)) (dLit (.str [92]))) (sAug .Add 4 (dLit (.int 2))) brIn)))
noncomputable def brR (x : Txt) (a b p : Nat) (d : Int) : Rho := [some (.str x), some (.int a), some (.int x.length), some (.int b), some (.int p), some (.str []), some (.int d), none, none]

theorem br_in {x : Txt} (hx : x.length ≤ 1000000) (a b : Nat) (d : Int) (σ : St) (u : Txt) : ∀ (p : Nat) (c : Nat) (s : Txt), x.drop p = u ++ c :: s → (∀ c ∈ u, plainB c = true) → plainB c = false → brIn (brR x a b p d) σ = some (.next, brR x a b (p + u.length) d, σ) := by
  induction u with
  | nil =>
    intro p c s h _ hc
    obtain ⟨h1, h2, h3⟩ := at_cons h
    have hi := i_str σ x c (by omega) h1
    have hm : c ∈ [123, 125, 92] := by unfold plainB at hc; simp at hc; simp; omega
    exact while_done (by unfold brR; wp_walk using hi, h2, (by simpa using hm : c = 123 ∨ c = 125 ∨ c = 92))
  | cons e u ih =>
    intro p c s h hu hc
    obtain ⟨h1, h2, h3⟩ := at_cons h
    have hi := i_str σ x e (by omega) h1
    have he := hu e (by simp)
    unfold plainB at he
    simp at he
    refine (while_step (σ₁ := σ) (σ₂ := σ) (ρ₂ := brR x a b (p + 1) d) ?_ ?_).trans ((ih (p + 1) c s h3 (fun d hd => hu d (by simp [hd])) hc).trans ?_)
    · unfold brR; wp_walk using hi, h2, he.1.1, he.1.2, he.2
    · unfold brR; wp_walk using hi
    · rw [show p + 1 + u.length = p + (e :: u).length by simp; omega]

set_option tactic.hygienic true in
theorem braces_ok (n : Nat) {x : Txt} (hx : x.length ≤ 1000000) {s r : Txt} (p : Nat) (h : x.drop p = 123 :: s) (hb : Br 0 s r) (σ : St) :
    fn (n + 1) .f_braces [.str x, .int p] σ = some (.tup [.str (s.take (s.length - r.length - 1)), .int (x.length - r.length : Nat)], σ) := by
  have hl : x.length ≤ 16777216 := by omega
  obtain ⟨h1, h2, h3⟩ := at_cons h
  have key : ∀ {d : Nat} {s' r' : Txt}, Br d s' r' → ∀ (q : Nat), p + 1 ≤ q → q ≤ x.length → x.drop q = s' → ∃ ρ, sWhile (tCmp .Lt (dVar 4) (dVar 2)) brBody (brR x p (p + 1) q (d + 1 : Nat)) σ =
      some (.ret (.tup [.str ((x.drop (p + 1)).take (x.length - r'.length - 1 - (p + 1))), .int (x.length - r'.length : Nat)]), ρ, σ) := by
    intro d s' r' hb
    induction hb with
    | close =>
      intro q hq hq' h
      rename_i r
      obtain ⟨h1, h2, h3⟩ := at_cons h
      have hi := i_str σ x 125 (by omega) h1
      have e := drop_len h3 (by omega)
      have hs := s_str σ x (k := p + 1) (m := q) hl
      have e2 : x.length - r.length = q + 1 := e.1.symm
      have e1 : x.length - r.length - 1 - (p + 1) = q - (p + 1) := by rw [e2, Nat.add_sub_cancel]
      rw [e1, e2]
      have hba : vbin .Add (.str []) (.str (List.take (q - (p + 1)) (List.drop (p + 1) x))) σ = some (.str (List.take (q - (p + 1)) (List.drop (p + 1) x)), σ) := b_adds σ [] _ (by rw [List.length_nil, Nat.zero_add, List.length_take, List.length_drop]; exact Nat.le_trans (Nat.min_le_right _ _) (Nat.le_trans (Nat.sub_le _ _) hl))
      push_cast at hs
      exact ⟨_, while_ret (σ₁ := σ) (σ₂ := σ) (by unfold brR; wp_walk using h2) (by unfold brR; wp_walk using hi, hs, hba; rfl)⟩
    | down hb ih =>
      intro q hq hq' h
      rename_i d s r
      obtain ⟨h1, h2, h3⟩ := at_cons h
      have hi := i_str σ x 125 (by omega) h1
      obtain ⟨ρ, e⟩ := ih (q + 1) (by omega) (by omega) h3
      refine ⟨ρ, (while_step (σ₁ := σ) (σ₂ := σ) (ρ₂ := brR x p (p + 1) (q + 1) (d + 1 : Nat)) (by unfold brR; wp_walk using h2) ?_).trans e⟩
      have : ¬ (d : Int) + 1 = 0 := by omega
      have e3 : (d : Int) + 1 + 1 - 1 = d + 1 := by omega
      unfold brR
      wp_walk using hi, this, e3
    | up hb ih =>
      intro q hq hq' h
      rename_i d s r
      obtain ⟨h1, h2, h3⟩ := at_cons h
      have hi := i_str σ x 123 (by omega) h1
      obtain ⟨ρ, e⟩ := ih (q + 1) (by omega) (by omega) h3
      refine ⟨ρ, (while_step (σ₁ := σ) (σ₂ := σ) (ρ₂ := brR x p (p + 1) (q + 1) (d + 1 + 1 : Nat)) (by unfold brR; wp_walk using h2) ?_).trans e⟩
      unfold brR
      wp_walk using hi
    | run hu0 hu hc hb ih =>
      intro q hq hq' h
      rename_i d u s r c
      obtain ⟨c0, u', rfl⟩ : ∃ c0 u', u = c0 :: u' := by
        cases u with
        | nil => exact absurd rfl hu0
        | cons a b => exact ⟨a, b, rfl⟩
      obtain ⟨h1, h2, h3⟩ := at_cons h
      have hi := i_str σ x c0 (by omega) h1
      have h0 := hu c0 (by simp)
      unfold plainB at h0
      simp at h0
      have hin := br_in hx p (p + 1) (d + 1 : Nat) σ (c0 :: u') q c s h hu hc
      have hd : x.drop (q + (c0 :: u').length) = c :: s := by rw [← List.drop_drop, h]; simp
      have := (at_cons hd).2.1
      obtain ⟨ρ, e⟩ := ih (q + (c0 :: u').length) (by omega) (by omega) hd
      have t2 : ¬ List.take 2 (c0 :: u' ++ c :: s) = [92, 10] := take2_ne fun z => h0.2 z.1
      simp only [List.cons_append, List.take_succ_cons] at t2
      refine ⟨ρ, (while_step (σ₁ := σ) (σ₂ := σ) (by unfold brR; wp_walk using h2) ?_).trans e⟩
      unfold brR brIn at hin
      unfold brR
      wp_walk using hi, hl, h, h0.1.1, h0.1.2, h0.2, t2
      simpa using hin
  have hlen : r.length < s.length := hb.len
  have hsl : s.length = x.length - (p + 1) := by rw [← h3, List.length_drop]
  obtain ⟨ρ, e⟩ := key hb (p + 1) (by omega) (by omega) h3
  rw [h3, show x.length - r.length - 1 - (p + 1) = s.length - r.length - 1 by rw [hsl, Nat.sub_sub, Nat.sub_sub, Nat.sub_sub, Nat.sub_sub]; exact congrArg (x.length - ·) (by omega)] at e
  have e' : sWhile (tCmp .Lt (dVar 4) (dVar 2)) brBody [some (.str x), some (.int p), some (.int x.length), some (.int ((p : Int) + 1)), some (.int ((p : Int) + 1)), some (.str []), some (.int 1), none, none] σ = _ := e
  rw [fn_succ]
  unfold brBody brIn at e'
  wp_walk using b_f_braces, hl, e'
set_option maxHeartbeats 200000

noncomputable def Grow (σ σ' : St) : Prop := σ.length ≤ σ'.length ∧ ∀ i, i < σ.length → σ'[i]? = σ[i]?
theorem Grow.refl (σ : St) : Grow σ σ := ⟨Nat.le_refl _, fun _ _ => rfl⟩
theorem Grow.trans {a b c : St} (x : Grow a b) (y : Grow b c) : Grow a c := ⟨Nat.le_trans x.1 y.1, fun i h => (y.2 i (Nat.lt_of_lt_of_le h x.1)).trans (x.2 i h)⟩
theorem Grow.get {σ σ' : St} {i : Nat} {o : O} (g : Grow σ σ') (h : σ[i]? = some o) : σ'[i]? = some o := (g.2 i (List.getElem?_eq_some_iff.mp h).1).trans h
theorem Grow.app (σ e : St) : Grow σ (σ ++ e) := ⟨by simp, fun i h => List.getElem?_append_left h⟩
noncomputable def GrowB (l : Nat) (σ σ' : St) : Prop := σ.length ≤ σ'.length ∧ ∀ i, i < σ.length → i ≠ l → σ'[i]? = σ[i]?
theorem GrowB.refl (l : Nat) (σ : St) : GrowB l σ σ := ⟨Nat.le_refl _, fun _ _ _ => rfl⟩
theorem GrowB.trans {l : Nat} {a b c : St} (x : GrowB l a b) (y : GrowB l b c) : GrowB l a c := ⟨Nat.le_trans x.1 y.1, fun i h hl => (y.2 i (Nat.lt_of_lt_of_le h x.1) hl).trans (x.2 i h hl)⟩
theorem Grow.b {l : Nat} {σ σ' : St} (g : Grow σ σ') : GrowB l σ σ' := ⟨g.1, fun i h _ => g.2 i h⟩
theorem GrowB.set (l : Nat) (σ : St) (o : O) : GrowB l σ (σ.set l o) := ⟨by simp, fun i h hl => List.getElem?_set_ne (Ne.symm hl)⟩
theorem GrowB.grow {σ σ' : St} {o : O} (g : GrowB σ.length (σ ++ [o]) σ') : Grow σ σ' := ⟨by have := g.1; simp at this; omega, fun i h => (g.2 i (by simp; omega) (by omega)).trans (List.getElem?_append_left h)⟩

theorem strsOf_map : ∀ ts : List Txt, strsOf (ts.map V.str) = some ts
  | [] => rfl
  | t :: ts => by simp [strsOf, strsOf_map ts]


noncomputable abbrev puIn : DS := sWhile (tAnds [tCmp .Lt (dVar 1) (dVar 5), tCmp .NotIn (dIndex (dVar 0) (dVar 1)) (dLit (.str [36, 91, 92])), tCmp .NotIn (dIndex (dVar 0) (dVar 1)) (dVar 2)]) (sAug .Add 1 (dLit (.int 1)))
noncomputable abbrev puT : DT := tAnds [tCmp .Lt (dVar 1) (dVar 5), tCmp .NotIn (dIndex (dVar 0) (dVar 1)) (dVar 2)]
noncomputable abbrev puEnd : DS := sIf (tCmp .Eq (dIndex (dVar 6) (dLit (.int 0))) (dLit (.str [116, 101, 120, 116]))) (sAug .Add 4 (dIndex (dVar 6) (dLit (.int 1)))) (sSeq (sIf (tCmp .NotEq (dVar 4) (dLit (.str []))) (sSeq (sExpr (dMeth kList bAppend (dVar 3) [dTup [dLit (.str [116, 101, 120, 116]), dVar 4]])) (sSet 4 (dLit (.str [])))) (sNil)) (sExpr (dMeth kList bAppend (dVar 3) [dVar 6])))
noncomputable abbrev puB (fns : Fn → DF) : DS := sSeq (sIf (tCmp .Eq (dIndex (dVar 0) (dVar 1)) (dLit (.str [36]))) (sSetT [6, 1] (dCall (fns .f_variable) [dVar 0, dVar 1])) (sIf (tCmp .Eq (dIndex (dVar 0) (dVar 1)) (dLit (.str [91]))) (sSeq (sSetT [7, 1] (dCall (fns .f_brackets) [dVar 0, dVar 1])) (sSet 6 (dTup [dLit (.str [99, 109, 100]), dVar 7]))) (sIf (tCmp .Eq (dIndex (dVar 0) (dVar 1)) (dLit (.str [92]))) (sSeq (sIf (tAnds [tCmp .In (dLit (.str [32])) (dVar 2), tCmp .Eq (dSlice (dVar 0) (some (dBin .Add (dVar 1) (dLit (.int 1)))) (some (dBin .Add (dVar 1) (dLit (.int 2))))) (dLit (.str [10]))]) (sBrk) (sNil)) (sStuck)) (sSeq (sSet 9 (dVar 1)) (sSeq puIn (sSet 6 (dTup [dLit (.str [116, 101, 120, 116]), dSlice (dVar 0) (some (dVar 9)) (some (dVar 1))]))))))) puEnd
noncomputable def puR (x : Txt) (stops : List Txt) (p l : Nat) (w : Txt) (o6 o7 o9 : Option V) : Rho := [some (.str x), some (.int p), some (.tup (stops.map V.str)), some (.ref l), some (.str w), some (.int x.length), o6, o7, none, o9]
noncomputable def txtPart (w : Txt) : List V := if w = [] then [] else [.tup [.str [116, 101, 120, 116], .str w]]

noncomputable def PU (fns : Fn → DF) (x : Txt) (stops : List Txt) (p : Nat) (ps : List V) (w : Txt) (q : Nat) (res : List V) : Prop :=
  ∀ (l : Nat) (σ : St) (o6 o7 o9 : Option V), σ[l]? = some (.list ps) → ∃ σ' ps' w' o6' o7' o9', sWhile puT (puB fns) (puR x stops p l w o6 o7 o9) σ = some (.next, puR x stops q l w' o6' o7' o9', σ') ∧ σ'[l]? = some (.list ps') ∧ ps' ++ txtPart w' = res ∧ GrowB l σ σ' ∧ w'.length ≤ 1000000

section
variable {fns : Fn → DF} {x : Txt} {stops : List Txt} {p q : Nat} {ps res : List V} {w : Txt}

theorem PU.stop (hx : x.length ≤ 1000000) (hw : w.length ≤ 1000000) (h : x.length ≤ p ∨ ∃ c, x[p]? = some c ∧ [c] ∈ stops) : PU fns x stops p ps w p (ps ++ txtPart w) := by
  intro l σ o6 o7 o9 hl
  refine ⟨σ, ps, w, o6, o7, o9, while_done (σ₁ := σ) ?_, hl, rfl, GrowB.refl _ _, hw⟩
  rcases h with h | ⟨c, h1, h2⟩
  · unfold puR; wp_walk using (Nat.not_lt.mpr h)
  · have hi := i_str σ x c (k := p) (by have := (List.getElem?_eq_some_iff.mp h1).1; omega) h1
    have hp := (List.getElem?_eq_some_iff.mp h1).1
    unfold puR
    wp_walk using hi, hp, strsOf_map, h2

theorem pu_in (hx : x.length ≤ 1000000) (l : Nat) (o6 o7 o9 : Option V) (σ : St) (u : Txt) : ∀ (p : Nat) (r : Txt), x.drop p = u ++ r → (∀ c ∈ u, c ∉ [36, 91, 92] ∧ [c] ∉ stops) → (∀ c r', r = c :: r' → c ∈ [36, 91, 92] ∨ [c] ∈ stops) → p + u.length ≤ x.length →
    puIn (puR x stops p l w o6 o7 o9) σ = some (.next, puR x stops (p + u.length) l w o6 o7 o9, σ) := by
  induction u with
  | nil =>
    intro p r h _ hr hp
    cases r with
    | nil =>
      have h2 := at_nil h
      exact while_done (by unfold puR; wp_walk using (Nat.not_lt.mpr h2))
    | cons c r' =>
      obtain ⟨h1, h2, h3⟩ := at_cons h
      have hi := i_str σ x c (by omega) h1
      have := hr c r' rfl
      by_cases hc : c ∈ [36, 91, 92]
      · exact while_done (by unfold puR; wp_walk using hi, h2, (by simpa using hc : c = 36 ∨ c = 91 ∨ c = 92))
      · have h4 : [c] ∈ stops := by rcases this with z | z; exact absurd z hc; exact z
        exact while_done (by unfold puR; wp_walk using hi, h2, (by simpa using hc : ¬ (c = 36 ∨ c = 91 ∨ c = 92)), strsOf_map, h4)
  | cons e u ih =>
    intro p r h hu hr hp
    obtain ⟨h1, h2, h3⟩ := at_cons h
    have hi := i_str σ x e (by omega) h1
    obtain ⟨a, b⟩ := hu e (by simp)
    refine (while_step (σ₁ := σ) (σ₂ := σ) (ρ₂ := puR x stops (p + 1) l w o6 o7 o9) ?_ ?_).trans ((ih (p + 1) r h3 (fun d hd => hu d (by simp [hd])) hr (by simp at hp; omega)).trans ?_)
    · unfold puR; wp_walk using hi, h2, (by simpa using a : ¬ (e = 36 ∨ e = 91 ∨ e = 92)), strsOf_map, b
    · unfold puR; wp_walk using hi
    · rw [show p + 1 + u.length = p + (e :: u).length by simp; omega]

theorem PU.run (hx : x.length ≤ 1000000) {u r : Txt} (h : x.drop p = u ++ r) (hu0 : u ≠ []) (hu : ∀ c ∈ u, c ∉ [36, 91, 92] ∧ [c] ∉ stops) (hr : ∀ c r', r = c :: r' → c ∈ [36, 91, 92] ∨ [c] ∈ stops) (hwl : w.length + u.length ≤ 1000000)
    (k : PU fns x stops (p + u.length) ps (w ++ u) q res) : PU fns x stops p ps w q res := by
  intro l σ o6 o7 o9 hl
  obtain ⟨σ', ps', w', o6', o7', o9', e, r1, r2, r3, r4⟩ := k l σ (some (.tup [.str [116, 101, 120, 116], .str u])) o7 (some (.int p)) hl
  refine ⟨σ', ps', w', o6', o7', o9', (while_step (σ₁ := σ) (σ₂ := σ) ?_ ?_).trans e, r1, r2, r3, r4⟩
  · obtain ⟨c, u', rfl⟩ : ∃ c u', u = c :: u' := by
      cases u with
      | nil => exact absurd rfl hu0
      | cons a b => exact ⟨a, b, rfl⟩
    obtain ⟨h1, h2, h3⟩ := at_cons h
    have hi := i_str σ x c (by omega) h1
    obtain ⟨a, b⟩ := hu c (by simp)
    unfold puR; wp_walk using hi, h2, strsOf_map, b
  · have hple : p + u.length ≤ x.length := by
      have e := congrArg List.length h
      simp only [List.length_drop, List.length_append] at e
      have : 0 < u.length := List.length_pos_iff.mpr hu0
      omega
    have hin := pu_in (w := w) hx l o6 o7 (some (.int p)) σ u p r h hu hr hple
    obtain ⟨c, u', rfl⟩ : ∃ c u', u = c :: u' := by
      cases u with
      | nil => exact absurd rfl hu0
      | cons a b => exact ⟨a, b, rfl⟩
    obtain ⟨h1, h2, h3⟩ := at_cons h
    have hi := i_str σ x c (by omega) h1
    obtain ⟨a, b⟩ := hu c (by simp)
    simp only [List.mem_cons, List.not_mem_nil, or_false, not_or] at a
    obtain ⟨a1, a2, a3⟩ := a
    have hsl := s_str σ x (k := p) (m := p + (c :: u').length) (by omega)
    rw [h, show p + (c :: u').length - p = (c :: u').length by omega, List.take_left] at hsl
    have hau : vaug .Add (.str w) (.str (c :: u')) σ = some (.str (w ++ c :: u'), σ) := a_adds σ w (c :: u') (by omega)
    generalize p + (c :: u').length = q' at *
    unfold puR puIn at hin
    unfold puR
    wp_walk using hi, h2, a1, a2, a3, hin, hsl, i_t0, i_t1, hau

theorem pu_part (l : Nat) (σ : St) (p' : Nat) (k : Txt) (vs : List V) (o7 o9 : Option V) (hk : k ≠ [116, 101, 120, 116]) (hl : σ[l]? = some (.list ps)) (hn : ps.length ≤ 1000) :
    ∃ σ', puEnd (puR x stops p' l w (some (.tup (.str k :: vs))) o7 o9) σ = some (.next, puR x stops p' l [] (some (.tup (.str k :: vs))) o7 o9, σ') ∧ σ'[l]? = some (.list (ps ++ txtPart w ++ [.tup (.str k :: vs)])) ∧ GrowB l σ σ' := by
  have hlt := (List.getElem?_eq_some_iff.mp hl).1
  by_cases hw : w = []
  · subst hw
    refine ⟨σ.set l (.list (ps ++ [.tup (.str k :: vs)])), ?_, by simp [txtPart, hlt], GrowB.set _ _ _⟩
    unfold puR
    wp_walk using hk, i_t0, hl, bAppend, (by omega : ps.length < 16777216)
  · refine ⟨(σ.set l (.list (ps ++ [.tup [.str [116, 101, 120, 116], .str w]]))).set l (.list (ps ++ [.tup [.str [116, 101, 120, 116], .str w]] ++ [.tup (.str k :: vs)])), ?_, by simp [txtPart, hlt, hw], (GrowB.set _ _ _).trans (GrowB.set _ _ _)⟩
    have hs := List.getElem?_set_self (a := O.list (ps ++ [V.tup [.str [116, 101, 120, 116], .str w]])) hlt
    unfold puR
    wp_walk using hk, i_t0, hl, bAppend, (by omega : ps.length < 16777216), hw, hs, (by omega : ps.length + 1 < 16777216)

theorem PU.var (hx : x.length ≤ 1000000) (hn : ps.length ≤ 1000) {p' : Nat} {k : Txt} {vs : List V} (hk : k ≠ [116, 101, 120, 116]) (hc : x[p]? = some 36) (hst : [36] ∉ stops)
    (hv : ∀ σ, ∃ σ', fns .f_variable [.str x, .int p] σ = some (.tup [.tup (.str k :: vs), .int p'], σ') ∧ Grow σ σ') (kk : PU fns x stops p' (ps ++ txtPart w ++ [.tup (.str k :: vs)]) [] q res) : PU fns x stops p ps w q res := by
  intro l σ o6 o7 o9 hl
  have hp := (List.getElem?_eq_some_iff.mp hc).1
  have hi := i_str σ x 36 (k := p) (by omega) hc
  obtain ⟨σ₁, e1, g1⟩ := hv σ
  obtain ⟨σ₂, e2, hl2, g2⟩ := pu_part (x := x) (stops := stops) (w := w) l σ₁ p' k vs o7 o9 hk (g1.get hl) hn
  obtain ⟨σ', ps', w', o6', o7', o9', e, r1, r2, r3, r4⟩ := kk l σ₂ (some (.tup (.str k :: vs))) o7 o9 hl2
  refine ⟨σ', ps', w', o6', o7', o9', (while_step (σ₁ := σ) (σ₂ := σ₂) ?_ ?_).trans e, r1, r2, (g1.b.trans g2).trans r3, r4⟩
  · unfold puR; wp_walk using hi, hp, strsOf_map, hst
  · unfold puR at e2 ⊢
    have e3 : (sIf (tCmp .Eq (dIndex (dVar 0) (dVar 1)) (dLit (.str [36]))) (sSetT [6, 1] (dCall (fns .f_variable) [dVar 0, dVar 1])) (sIf (tCmp .Eq (dIndex (dVar 0) (dVar 1)) (dLit (.str [91]))) (sSeq (sSetT [7, 1] (dCall (fns .f_brackets) [dVar 0, dVar 1])) (sSet 6 (dTup [dLit (.str [99, 109, 100]), dVar 7]))) (sIf (tCmp .Eq (dIndex (dVar 0) (dVar 1)) (dLit (.str [92]))) (sSeq (sIf (tAnds [tCmp .In (dLit (.str [32])) (dVar 2), tCmp .Eq (dSlice (dVar 0) (some (dBin .Add (dVar 1) (dLit (.int 1)))) (some (dBin .Add (dVar 1) (dLit (.int 2))))) (dLit (.str [10]))]) (sBrk) (sNil)) (sStuck)) (sSeq (sSet 9 (dVar 1)) (sSeq puIn (sSet 6 (dTup [dLit (.str [116, 101, 120, 116]), dSlice (dVar 0) (some (dVar 9)) (some (dVar 1))])))))))
        [some (.str x), some (.int p), some (.tup (stops.map V.str)), some (.ref l), some (.str w), some (.int x.length), o6, o7, none, o9] σ = some (.next, [some (.str x), some (.int p'), some (.tup (stops.map V.str)), some (.ref l), some (.str w), some (.int x.length), some (.tup (.str k :: vs)), o7, none, o9], σ₁) := by
      wp_walk using hi, e1
    rw [puB, sSeq, e3]
    exact e2

theorem PU.cmd (hx : x.length ≤ 1000000) (hn : ps.length ≤ 1000) {p' : Nat} {scr : Txt} (hc : x[p]? = some 91) (hst : [91] ∉ stops)
    (hv : ∀ σ, ∃ σ', fns .f_brackets [.str x, .int p] σ = some (.tup [.str scr, .int p'], σ') ∧ Grow σ σ') (kk : PU fns x stops p' (ps ++ txtPart w ++ [.tup [.str [99, 109, 100], .str scr]]) [] q res) : PU fns x stops p ps w q res := by
  intro l σ o6 o7 o9 hl
  have hp := (List.getElem?_eq_some_iff.mp hc).1
  have hi := i_str σ x 91 (k := p) (by omega) hc
  obtain ⟨σ₁, e1, g1⟩ := hv σ
  obtain ⟨σ₂, e2, hl2, g2⟩ := pu_part (x := x) (stops := stops) (w := w) l σ₁ p' [99, 109, 100] [.str scr] (some (.str scr)) o9 (by decide) (g1.get hl) hn
  obtain ⟨σ', ps', w', o6', o7', o9', e, r1, r2, r3, r4⟩ := kk l σ₂ (some (.tup [.str [99, 109, 100], .str scr])) (some (.str scr)) o9 hl2
  refine ⟨σ', ps', w', o6', o7', o9', (while_step (σ₁ := σ) (σ₂ := σ₂) ?_ ?_).trans e, r1, r2, (g1.b.trans g2).trans r3, r4⟩
  · unfold puR; wp_walk using hi, hp, strsOf_map, hst
  · unfold puR at e2 ⊢
    have e3 : (sIf (tCmp .Eq (dIndex (dVar 0) (dVar 1)) (dLit (.str [36]))) (sSetT [6, 1] (dCall (fns .f_variable) [dVar 0, dVar 1])) (sIf (tCmp .Eq (dIndex (dVar 0) (dVar 1)) (dLit (.str [91]))) (sSeq (sSetT [7, 1] (dCall (fns .f_brackets) [dVar 0, dVar 1])) (sSet 6 (dTup [dLit (.str [99, 109, 100]), dVar 7]))) (sIf (tCmp .Eq (dIndex (dVar 0) (dVar 1)) (dLit (.str [92]))) (sSeq (sIf (tAnds [tCmp .In (dLit (.str [32])) (dVar 2), tCmp .Eq (dSlice (dVar 0) (some (dBin .Add (dVar 1) (dLit (.int 1)))) (some (dBin .Add (dVar 1) (dLit (.int 2))))) (dLit (.str [10]))]) (sBrk) (sNil)) (sStuck)) (sSeq (sSet 9 (dVar 1)) (sSeq puIn (sSet 6 (dTup [dLit (.str [116, 101, 120, 116]), dSlice (dVar 0) (some (dVar 9)) (some (dVar 1))])))))))
        [some (.str x), some (.int p), some (.tup (stops.map V.str)), some (.ref l), some (.str w), some (.int x.length), o6, o7, none, o9] σ = some (.next, [some (.str x), some (.int p'), some (.tup (stops.map V.str)), some (.ref l), some (.str w), some (.int x.length), some (.tup [.str [99, 109, 100], .str scr]), some (.str scr), none, o9], σ₁) := by
      wp_walk using hi, e1
    rw [puB, sSeq, e3]
    exact e2

theorem parts_until_ok (n : Nat) (hx : x.length ≤ 1000000) (h : PU (fn n) x stops p [] [] q res) (hr : res.length ≤ 1000) (σ : St) : ∃ σ', fn (n + 1) .f_parts_until [.str x, .int p, .tup (stops.map V.str)] σ = some (.tup [.tup res, .int q], σ') ∧ Grow σ σ' := by
  have hl : x.length ≤ 16777216 := by omega
  obtain ⟨σ', ps', w', o6', o7', o9', e, r1, r2, r3, r4⟩ := h σ.length (σ ++ [.list []]) none none none (by simp)
  have hlt := (List.getElem?_eq_some_iff.mp r1).1
  unfold puR puT puB puEnd puIn at e
  by_cases hw : w' = []
  · subst hw
    have r2' : ps' = res := by simpa [txtPart] using r2
    subst r2'
    refine ⟨σ', ?_, r3.grow⟩
    rw [fn_succ]
    wp_walk using b_f_parts_until, dList, hl, e, bTuple, r1, (by omega : ps'.length ≤ 16777216)
  · have r2' : res = ps' ++ [.tup [.str [116, 101, 120, 116], .str w']] := by rw [← r2]; simp [txtPart, hw]
    subst r2'
    have hlen : ps'.length ≤ 1000 := by simp at hr; omega
    have hs := List.getElem?_set_self (a := O.list (ps' ++ [V.tup [.str [116, 101, 120, 116], .str w']])) hlt
    refine ⟨σ'.set σ.length (.list (ps' ++ [.tup [.str [116, 101, 120, 116], .str w']])), ?_, (r3.trans (GrowB.set _ _ _)).grow⟩
    rw [fn_succ]
    wp_walk using b_f_parts_until, dList, hl, e, bTuple, r1, hw, bAppend, hs, (by omega : ps'.length < 16777216), (by omega : ps'.length + 1 ≤ 16777216)
end
set_option maxHeartbeats 200000

noncomputable abbrev varT (nm : Txt) (ix : V) : V := .tup [.str [118, 97, 114], .str nm, ix]

theorem drop_app {x u r : Txt} {p : Nat} (h : x.drop p = u ++ r) : x.drop (p + u.length) = r := by rw [← List.drop_drop, h]; simp
section
variable {x nm r : Txt} {p : Nat}

theorem var_plain (n : Nat) (hx : x.length ≤ 1000000) (h : x.drop p = 36 :: (nm ++ r)) (h0 : nm ≠ []) (h123 : nm.head? ≠ some 123) (hn : Nm (nm ++ r) r) (h40 : r.head? ≠ some 40) (σ : St) :
    fn (n + 3) .f_variable [.str x, .int p] σ = some (.tup [varT nm .none, .int (p + 1 + nm.length : Nat)], σ) := by
  have hl : x.length ≤ 16777216 := by omega
  obtain ⟨h1, h2, h3⟩ := at_cons h
  have hrn := read_name_ok n hx hn σ (p + 1) (by omega) h3
  obtain ⟨q1, q2⟩ := app_le h3 (by omega)
  rw [q2] at hrn
  have hd := drop_app h3
  have hs1 := s01 σ x (p := p + 1) hl
  have t1 : ¬ List.take 1 (x.drop (p + 1)) = [123] := by
    rw [h3]
    cases nm with
    | nil => exact absurd rfl h0
    | cons a b => simpa using h123
  have hs2 := s01 σ x (p := p + 1 + nm.length) hl
  have t2 : ¬ List.take 1 (x.drop (p + 1 + nm.length)) = [40] := by
    rw [hd]
    cases r with
    | nil => simp
    | cons a b => simpa using h40
  have hsl := s_str σ x (k := p + 1) (m := p + 1 + nm.length) hl
  rw [h3, show p + 1 + nm.length - (p + 1) = nm.length by omega, List.take_left] at hsl
  have hne : ¬ (p + 1 + nm.length : Nat) = p + 1 := by
    have := List.length_pos_iff.mpr h0; omega
  generalize p + 1 + nm.length = q at *
  generalize hp1 : p + 1 = p1 at *
  have ep : (p : Int) + 1 = (p1 : Int) := by omega
  generalize List.take 1 (x.drop p1) = two1 at *
  generalize List.take 1 (x.drop q) = two2 at *
  have hne' : ¬ (q : Int) = (p1 : Int) := by omega
  rw [fn_succ]
  wp_walk using b_f_variable, ep, hs1, t1, hrn, hs2, t2, hne', hsl

theorem var_idx (n : Nat) (hx : x.length ≤ 1000000) (h : x.drop p = 36 :: (nm ++ 40 :: r)) (h0 : nm ≠ []) (h123 : nm.head? ≠ some 123) (hn : Nm (nm ++ 40 :: r) (40 :: r)) {q : Nat} {res : List V} (hq : q < x.length)
    (hp : ∀ σ, ∃ σ', fn (n + 2) .f_parts_until [.str x, .int (p + 1 + nm.length + 1 : Nat), .tup [.str [41]]] σ = some (.tup [.tup res, .int q], σ') ∧ Grow σ σ') (σ : St) :
    ∃ σ', fn (n + 3) .f_variable [.str x, .int p] σ = some (.tup [varT nm (.tup res), .int (q + 1 : Nat)], σ') ∧ Grow σ σ' := by
  have hl : x.length ≤ 16777216 := by omega
  obtain ⟨h1, h2, h3⟩ := at_cons h
  have hrn := read_name_ok n hx hn σ (p + 1) (by omega) h3
  obtain ⟨q1, q2⟩ := app_le h3 (by omega)
  rw [q2] at hrn
  have hd := drop_app h3
  have hs1 := s01 σ x (p := p + 1) hl
  have t1 : ¬ List.take 1 (x.drop (p + 1)) = [123] := by
    rw [h3]
    cases nm with
    | nil => exact absurd rfl h0
    | cons a b => simpa using h123
  have hs2 := s01 σ x (p := p + 1 + nm.length) hl
  rw [hd] at hs2
  obtain ⟨σ', e, g⟩ := hp σ
  have hsl := s_str σ' x (k := p + 1) (m := p + 1 + nm.length) hl
  rw [h3, show p + 1 + nm.length - (p + 1) = nm.length by omega, List.take_left] at hsl
  push_cast at e
  generalize hqq : p + 1 + nm.length = q' at *
  have eq' : (p : Int) + 1 + nm.length = (q' : Int) := by omega
  rw [eq'] at e
  generalize hp1 : p + 1 = p1 at *
  have ep : (p : Int) + 1 = (p1 : Int) := by omega
  generalize List.take 1 (x.drop p1) = two1 at *
  have hq' : ¬ x.length ≤ q := by omega
  refine ⟨σ', ?_, g⟩
  rw [fn_succ]
  wp_walk using b_f_variable, ep, hs1, t1, hrn, hs2, hsl, e, hl, hq'

theorem var_brace (n : Nat) (hx : x.length ≤ 1000000) (h : x.drop p = 36 :: 123 :: (nm ++ 125 :: r)) (h125 : 125 ∉ nm) (σ : St) :
    fn (n + 1) .f_variable [.str x, .int p] σ = some (.tup [varT nm .none, .int (p + 2 + nm.length + 1 : Nat)], σ) := by
  have hl : x.length ≤ 16777216 := by omega
  obtain ⟨h1, h2, h3⟩ := at_cons h
  obtain ⟨h4, h5, h6⟩ := at_cons h3
  rw [show p + 1 + 1 = p + 2 by omega] at h6
  have hs1 := s01 σ x (p := p + 1) hl
  rw [h3] at hs1
  have hd := drop_app h6
  obtain ⟨k1, k2, k3⟩ := at_cons hd
  have hget : ∀ i, (toS x).cps.getD i 0 = (x[i]?).getD 0 := by intro i; simp [Array.getD]; split <;> simp_all
  have hf : Txt.find3 (toS x) (toS [125]) ((p : Int) + 1) = ((p + 2 + nm.length : Nat) : Int) := by
    have hlen : (toS x).length = x.length := by simp [Str.length]
    have hfi : fromIndex (toS x).length ((p : Int) + 1) = p + 1 := by unfold fromIndex; rw [if_neg (by omega)]; omega
    rcases StrLaws.find3_spec (toS x) 125 ((p : Int) + 1) with ⟨e, hno⟩ | ⟨k, e, a1, a2, a3, a4⟩
    · exfalso
      refine hno (p + 2 + nm.length) (by rw [hfi]; omega) (by rw [hlen]; exact k2) ?_
      rw [hget, k1]; rfl
    · rw [hfi] at a1 a4
      rw [hlen] at a2
      rw [hget] at a3
      show Txt.find3 (toS x) ⟨#[125]⟩ _ = _
      rw [e]
      congr 1
      rcases Nat.lt_trichotomy k (p + 2 + nm.length) with hlt | heq | hgt
      · exfalso
        by_cases hk1 : k = p + 1
        · subst hk1
          rw [h4] at a3; simp at a3
        · have hk2 : x[k]? = nm[k - (p + 2)]? := by
            have e1 : (x.drop (p + 2))[k - (p + 2)]? = x[k]? := by rw [List.getElem?_drop]; congr 1; omega
            rw [← e1, h6, List.getElem?_append_left (by omega)]
          rw [hk2] at a3
          cases hz : nm[k - (p + 2)]? with
          | none => rw [hz] at a3; simp at a3
          | some c =>
            rw [hz] at a3
            simp at a3
            subst a3
            exact h125 (List.mem_of_getElem? hz)
      · exact heq
      · exfalso
        refine a4 (p + 2 + nm.length) (by omega) hgt ?_
        rw [hget, k1]; rfl
  have hsl := s_str σ x (k := p + 2) (m := p + 2 + nm.length) hl
  rw [h6, show p + 2 + nm.length - (p + 2) = nm.length by omega, List.take_left] at hsl
  have hpos : ¬ ((p + 2 + nm.length : Nat) : Int) < 0 := by omega
  have e2 : ((p + 2 : Nat) : Int) = (p : Int) + 1 + 1 := by omega
  rw [e2] at hsl
  rw [show ((p + 1 : Nat) : Int) = (p : Int) + 1 by omega] at hs1
  generalize p + 2 + nm.length = q at *
  rw [fn_succ]
  wp_walk using b_f_variable, hs1, bFind, hf, hpos, hsl

noncomputable def stops8 : List Txt := [[32], [9], [11], [12], [13], [10], [59], [93]]
theorem bare_stops_ok (n : Nat) (σ : St) : fn (n + 1) .f_bare_stops [.bool true] σ = some (.tup (stops8.map V.str), σ) := by
  rw [fn_succ]
  wp_walk using b_f_bare_stops, stops8
theorem is_expanded_no (n : Nat) (hx : x.length ≤ 1000000) {c : Nat} (h : x.drop p = c :: r) (hc : c ≠ 123) (σ : St) : fn (n + 1) .f_is_expanded [.str x, .int p] σ = some (.bool false, σ) := by
  have hl : x.length ≤ 16777216 := by omega
  have hs := s03 σ x (p := p) hl
  have t : ¬ List.take 3 (x.drop p) = [123, 42, 125] := by rw [h]; intro z; simp at z; exact hc z.1
  generalize List.take 3 (x.drop p) = t3 at *
  rw [fn_succ]
  wp_walk using b_f_is_expanded, hs, t

theorem word_bare (n : Nat) (hx : x.length ≤ 1000000) {c : Nat} (h : x.drop p = c :: r) (h1 : c ≠ 123) (h2 : c ≠ 34) {q : Nat} {res : List V}
    (hp : ∀ σ, ∃ σ', fn (n + 1) .f_parts_until [.str x, .int p, .tup (stops8.map V.str)] σ = some (.tup [.tup res, .int q], σ') ∧ Grow σ σ') (σ : St) :
    ∃ σ', fn (n + 2) .f_word [.str x, .int p, .bool true] σ = some (.tup [.tup [.bool false, .tup res], .int q], σ') ∧ Grow σ σ' := by
  have hl : x.length ≤ 16777216 := by omega
  have he := is_expanded_no n hx h h1 σ
  have hs := s01 σ x (p := p) hl
  rw [h] at hs
  obtain ⟨σ', e, g⟩ := hp σ
  refine ⟨σ', ?_, g⟩
  rw [fn_succ]
  wp_walk using b_f_word, he, hl, h, h1, h2, bare_stops_ok, e

noncomputable abbrev cmB (fns : Fn → DF) : DS := sSeq (sSetT [7, 8] (dCall (fns .f_word) [dVar 0, dVar 6, dVar 2])) (sSeq (sExpr (dMeth kList bAppend (dVar 5) [dVar 7])) (sSeq (sSet 6 (dCall (fns .f_skip_gaps) [dVar 0, dVar 8])) (sSeq (sIf (tCmp .GtE (dVar 6) (dVar 4)) (sRet (dTup [dCall bTuple [dVar 5], dVar 3, dVar 8, dVar 4])) (sNil)) (sSeq (sIf (tCmp .In (dIndex (dVar 0) (dVar 6)) (dTup [dLit (.str [10]), dLit (.str [59])])) (sRet (dTup [dCall bTuple [dVar 5], dVar 3, dVar 8, dBin .Add (dVar 6) (dLit (.int 1))])) (sNil)) (sSeq (sIf (tAnds [tVal (dVar 2), tCmp .Eq (dIndex (dVar 0) (dVar 6)) (dLit (.str [93]))]) (sRet (dTup [dCall bTuple [dVar 5], dVar 3, dVar 8, dVar 6])) (sNil)) (sIf (tCmp .Eq (dVar 6) (dVar 8)) (sSeq (sIf (tCmp .Eq (dIndex (dVar 0) (dBin .Sub (dVar 8) (dLit (.int 1)))) (dLit (.str [34]))) (sStuck) (sNil)) (sStuck)) (sNil)))))))
noncomputable def cmR (x : Txt) (p0 b l pl : Nat) (o7 o8 : Option V) : Rho := [some (.str x), some (.int p0), some (.bool true), some (.int b), some (.int x.length), some (.ref l), some (.int pl), o7, o8]
noncomputable def CM (fns : Fn → DF) (x : Txt) (p0 b pl : Nat) (ws : List V) (q : Nat) : Prop :=
  ∀ (l : Nat) (σ : St) (o7 o8 : Option V), σ[l]? = some (.list ws) → ∃ σ' res e ρ', sWhile (tVal (dLit (.bool true))) (cmB fns) (cmR x p0 b l pl o7 o8) σ = some (.ret (.tup [.tup res, .int b, .int e, .int q]), ρ', σ') ∧ GrowB l σ σ'

section
variable {fns : Fn → DF} {p0 b pl q : Nat} {ws : List V}
theorem CM.last (hx : x.length ≤ 1000000) (hn : ws.length ≤ 1000) {e : Nat} {v : V} (hw : ∀ σ, ∃ σ', fns .f_word [.str x, .int pl, .bool true] σ = some (.tup [v, .int e], σ') ∧ Grow σ σ')
    (hg : ∀ σ, fns .f_skip_gaps [.str x, .int e] σ = some (.int q, σ)) (hq : x[q]? = some 93) : CM fns x p0 b pl ws q := by
  intro l σ o7 o8 hl
  obtain ⟨σ₁, e1, g1⟩ := hw σ
  have hl1 := g1.get hl
  have hlt := (List.getElem?_eq_some_iff.mp hl1).1
  have hs := List.getElem?_set_self (a := O.list (ws ++ [v])) hlt
  have hqlt := (List.getElem?_eq_some_iff.mp hq).1
  have hi := i_str (σ₁.set l (.list (ws ++ [v]))) x 93 (k := q) (by omega) hq
  have hq' : ¬ x.length ≤ q := by omega
  refine ⟨σ₁.set l (.list (ws ++ [v])), ws ++ [v], e, cmR x p0 b l q (some v) (some (.int e)), while_ret (σ₁ := σ) (by simp [tVal, dLit, vtruth]) ?_, g1.b.trans (GrowB.set _ _ _)⟩
  · unfold cmR
    wp_walk using e1, bAppend, hl1, hs, (by omega : ws.length < 16777216), hg, hi, hq', bTuple, (by omega : ws.length + 1 ≤ 16777216)
theorem CM.next (hx : x.length ≤ 1000000) (hn : ws.length ≤ 1000) {e pl' : Nat} {v : V} {c : Nat} (hw : ∀ σ, ∃ σ', fns .f_word [.str x, .int pl, .bool true] σ = some (.tup [v, .int e], σ') ∧ Grow σ σ')
    (hg : ∀ σ, fns .f_skip_gaps [.str x, .int e] σ = some (.int pl', σ)) (hc : x[pl']? = some c) (hc' : c ≠ 10 ∧ c ≠ 59 ∧ c ≠ 93) (hne : pl' ≠ e) (k : CM fns x p0 b pl' (ws ++ [v]) q) : CM fns x p0 b pl ws q := by
  intro l σ o7 o8 hl
  obtain ⟨σ₁, e1, g1⟩ := hw σ
  have hl1 := g1.get hl
  have hlt := (List.getElem?_eq_some_iff.mp hl1).1
  have hs := List.getElem?_set_self (a := O.list (ws ++ [v])) hlt
  have hqlt := (List.getElem?_eq_some_iff.mp hc).1
  have hi := i_str (σ₁.set l (.list (ws ++ [v]))) x c (k := pl') (by omega) hc
  have hq' : ¬ x.length ≤ pl' := by omega
  have hne' : ¬ (pl' : Int) = e := by omega
  obtain ⟨c1, c2, c3⟩ := hc'
  obtain ⟨σ', res, e', ρ', h1, h2⟩ := k l (σ₁.set l (.list (ws ++ [v]))) (some v) (some (.int e)) hs
  refine ⟨σ', res, e', ρ', (while_step (σ₁ := σ) (σ₂ := σ₁.set l (.list (ws ++ [v]))) (by simp [tVal, dLit, vtruth]) ?_).trans h1, (g1.b.trans (GrowB.set _ _ _)).trans h2⟩
  unfold cmR
  wp_walk using e1, bAppend, hl1, (by omega : ws.length < 16777216), hg, hi, hq', c1, c2, c3, hne'
end

theorem command_at_ok (n : Nat) (hx : x.length ≤ 1000000) {c : Nat} (h : x.drop p = c :: r) (hc : noGap (c :: r)) (hc' : c ≠ 10 ∧ c ≠ 59 ∧ c ≠ 35 ∧ c ≠ 93) {q : Nat} (hk : CM (fn (n + 3)) x p p p [] q) (σ : St) :
    ∃ σ' u e, fn (n + 4) .f_command_at [.str x, .int p, .bool true] σ = some (.tup [u, .int p, .int e, .int q], σ') ∧ Grow σ σ' := by
  have hl : x.length ≤ 16777216 := by omega
  obtain ⟨h1, h2, h3⟩ := at_cons h
  have hi := i_str σ x c (by omega) h1
  have hs := skip_to_command_0 n hx p h hc ⟨hc'.1, hc'.2.1, hc'.2.2.1⟩ σ
  have hp : ¬ x.length ≤ p := by omega
  have h93 := hc'.2.2.2
  obtain ⟨σ', res, e, ρ', h1, h2⟩ := hk σ.length (σ ++ [.list []]) none none (by simp)
  unfold cmR cmB at h1
  refine ⟨σ', .tup res, e, ?_, h2.grow⟩
  rw [fn_succ]
  wp_walk using b_f_command_at, hs, hl, hp, hi, h93, dList, h1

theorem brackets_ok (n : Nat) (hx : x.length ≤ 1000000) {c : Nat} (h : x.drop p = 91 :: c :: r) (hc : noGap (c :: r)) (hc' : c ≠ 10 ∧ c ≠ 59 ∧ c ≠ 35 ∧ c ≠ 93) {q : Nat} {r' : Txt} (hq : x.drop q = 93 :: r') (hk : CM (fn (n + 3)) x (p + 1) (p + 1) (p + 1) [] q) (σ : St) :
    ∃ σ', fn (n + 5) .f_brackets [.str x, .int p] σ = some (.tup [.str ((x.drop (p + 1)).take (q - (p + 1))), .int (q + 1 : Nat)], σ') ∧ Grow σ σ' := by
  have hl : x.length ≤ 16777216 := by omega
  obtain ⟨h1, h2, h3⟩ := at_cons h
  obtain ⟨h4, h5, h6⟩ := at_cons h3
  obtain ⟨q1, q2, q3⟩ := at_cons hq
  obtain ⟨σ', u, e, e1, g⟩ := command_at_ok n hx h3 hc hc' hk σ
  have hs := skip_to_command_0 (n + 1) hx (p + 1) h3 hc ⟨hc'.1, hc'.2.1, hc'.2.2.1⟩ σ
  have hs' := skip_to_command_0 (n + 1) hx q hq (by exact ⟨rfl, by simp⟩) ⟨by decide, by decide, by decide⟩ σ'
  have hi := i_str σ x c (by omega) h4
  have hi' := i_str σ' x 93 (by omega) q1
  have h93 := hc'.2.2.2
  have hsl := s_str σ' x (k := p + 1) (m := q) hl
  have hq' : ¬ x.length ≤ q := by omega
  generalize hp1 : p + 1 = p1 at *
  have ep : (p : Int) + 1 = (p1 : Int) := by omega
  have w := (while_step (t := tAnds [tCmp .Lt (dVar 3) (dCall bLen [dVar 0]), tCmp .NotEq (dIndex (dVar 0) (dVar 3)) (dLit (.str [93]))])
    (b := sSeq (sSet 4 (dCall (fn (n + 4) .f_command_at) [dVar 0, dVar 3, dLit (.bool true)])) (sSet 3 (dCall (fn (n + 4) .f_skip_to_command) [dVar 0, dIndex (dVar 4) (dLit (.int 3))])))
    (ρ := [some (.str x), some (.int p), some (.int p1), some (.int p1), none]) (σ := σ) (σ₁ := σ) (ρ₂ := [some (.str x), some (.int p), some (.int p1), some (.int q), some (.tup [u, .int p1, .int e, .int q])]) (σ₂ := σ')
    (by wp_walk using hl, h5, hi, h93) (by wp_walk using e1, hs')).trans (while_done (σ₁ := σ') (by wp_walk using hl, q2, hi'))
  refine ⟨σ', ?_, g⟩
  rw [fn_succ]
  wp_walk using b_f_brackets, ep, hs
  rw [w]
  wp_walk using hl, hq', hsl
end
set_option maxHeartbeats 200000

noncomputable def TokAt (x : Txt) (p : Nat) (sort : Txt) (v : V) (q : Nat) : Prop := ∀ n σ, ∃ σ', fn (n + 14) .f_token_at [.str x, .int p] σ = some (tokV sort v p q, σ') ∧ Grow σ σ'

section
variable {x : Txt} {p : Nat}

theorem tok_brace (hx : x.length ≤ 1000000) {s r : Txt} (h : x.drop p = 123 :: s) (hb : Br 0 s r) : TokAt x p [116, 101, 120, 116] (.str (s.take (s.length - r.length - 1))) (x.length - r.length) := by
  intro n σ
  obtain ⟨h1, h2, h3⟩ := at_cons h
  have hi := i_str σ x 123 (by omega) h1
  have e := braces_ok (n + 12) hx p h hb σ
  refine ⟨σ, ?_, Grow.refl _⟩
  rw [fn_succ]
  generalize x.length - r.length = q at *
  generalize s.take _ = t at *
  wp_walk using b_f_token_at, hi, e, tokV
theorem tok_quote (hx : x.length ≤ 1000000) {s : Txt} (h : x.drop p = 34 :: s) {res : List V} {q : Nat} (hq : q < x.length) (hr : res.length ≤ 1000) (hp : ∀ n, PU (fn (n + 10)) x [[34]] (p + 1) [] [] q res) : TokAt x p [112, 97, 114, 116, 115] (.tup res) (q + 1) := by
  intro n σ
  have hl : x.length ≤ 16777216 := by omega
  obtain ⟨h1, h2, h3⟩ := at_cons h
  have hi := i_str σ x 34 (by omega) h1
  obtain ⟨σ', e, g⟩ := parts_until_ok (n + 12) hx (hp (n + 2)) hr σ
  have hq' : ¬ x.length ≤ q := by omega
  refine ⟨σ', ?_, g⟩
  rw [fn_succ]
  have e' : fn (n + 13) .f_parts_until [.str x, .int ((p : Int) + 1), .tup [.str [34]]] σ = _ := e
  wp_walk using b_f_token_at, hi, e', hl, hq', tokV
theorem tok_brk (hx : x.length ≤ 1000000) {s : Txt} (h : x.drop p = 91 :: s) {scr : Txt} {q : Nat} (hp : ∀ n σ, ∃ σ', fn (n + 13) .f_brackets [.str x, .int p] σ = some (.tup [.str scr, .int q], σ') ∧ Grow σ σ') :
    TokAt x p [112, 97, 114, 116, 115] (.tup [.tup [.str [99, 109, 100], .str scr]]) q := by
  intro n σ
  obtain ⟨h1, h2, h3⟩ := at_cons h
  have hi := i_str σ x 91 (by omega) h1
  obtain ⟨σ', e, g⟩ := hp n σ
  refine ⟨σ', ?_, g⟩
  rw [fn_succ]
  wp_walk using b_f_token_at, hi, e, tokV
theorem tok_var (hx : x.length ≤ 1000000) {s : Txt} (h : x.drop p = 36 :: s) {nm : Txt} {ix : V} {q : Nat} (hp : ∀ n σ, ∃ σ', fn (n + 13) .f_variable [.str x, .int p] σ = some (.tup [varT nm ix, .int q], σ') ∧ Grow σ σ') :
    TokAt x p [112, 97, 114, 116, 115] (.tup [varT nm ix]) q := by
  intro n σ
  obtain ⟨h1, h2, h3⟩ := at_cons h
  have hi := i_str σ x 36 (by omega) h1
  obtain ⟨σ', e, g⟩ := hp n σ
  refine ⟨σ', ?_, g⟩
  rw [fn_succ]
  wp_walk using b_f_token_at, hi, e, tokV
end

inductive Cl where
  | any
  | word
  | vari
  | op
noncomputable def fol : Cl → Txt → Prop
  | .any, _ => True
  | .word, r => noRun r = true ∧ r.head? ≠ some 46
  | .vari, r => noRun r = true ∧ r.head? ≠ some 40
  | .op, r => ∀ c, r.head? = some c → c ∉ [42, 60, 62, 61, 38, 124]
noncomputable def LexOk (s : Txt) (sort : Txt) (v : V) (cl : Cl) : Prop := ∀ (x : Txt) (p : Nat) (r : Txt), x.length ≤ 1000000 → x.drop p = s ++ r → fol cl r → TokAt x p sort v (p + s.length)

theorem noRun_noName {r : Txt} (h : noRun r = true) : noName r := by
  cases r with
  | nil => trivial
  | cons c r =>
    unfold noRun at h
    simp at h
    exact ⟨h.1, fun z => h.2.elim (fun w => w z.1) fun w => w z.2⟩

theorem lex_brace (inner : Txt) (hb : ∀ r, Br 0 (inner ++ 125 :: r) r) : LexOk (123 :: (inner ++ [125])) [116, 101, 120, 116] (.str inner) .any := by
  intro x p r hx h _
  have h' : x.drop p = 123 :: (inner ++ 125 :: r) := by rw [h]; simp
  have e := tok_brace hx h' (hb r)
  have hlt := (at_cons h').2.1
  rw [show (inner ++ 125 :: r).length - r.length - 1 = inner.length by rw [List.length_append, List.length_cons, Nat.sub_sub, Nat.add_sub_cancel], List.take_left] at e
  rw [(app_le h (Nat.le_of_lt hlt)).2] at e
  exact e

theorem Br.flat (u r : Txt) (hu : ∀ c ∈ u, plainB c = true) : Br 0 (u ++ 125 :: r) r := by
  by_cases h : u = []
  · subst h; exact .close
  · exact .run h hu rfl .close
theorem lex_b1 : LexOk [123, 120, 32, 121, 125] [116, 101, 120, 116] (.str [120, 32, 121]) .any := lex_brace [120, 32, 121] fun r => Br.flat _ r (by decide)
theorem lex_b2 : LexOk [123, 125] [116, 101, 120, 116] (.str []) .any := lex_brace [] fun r => Br.flat _ r (by decide)
theorem lex_b3 : LexOk [123, 97, 123, 98, 125, 99, 125] [116, 101, 120, 116] (.str [97, 123, 98, 125, 99]) .any := lex_brace [97, 123, 98, 125, 99] fun r =>
  .run (u := [97]) (by simp) (by decide) rfl (.up (.run (u := [98]) (by simp) (by decide) rfl (.down (.run (u := [99]) (by simp) (by decide) rfl .close))))
theorem lex_b4 : LexOk [123, 36, 118, 32, 91, 113, 93, 125] [116, 101, 120, 116] (.str [36, 118, 32, 91, 113, 93]) .any := lex_brace [36, 118, 32, 91, 113, 93] fun r => Br.flat _ r (by decide)
theorem lex_b5 : LexOk [123, 35, 41, 125] [116, 101, 120, 116] (.str [35, 41]) .any := lex_brace [35, 41] fun r => Br.flat _ r (by decide)
theorem lex_b6 : LexOk [123, 49, 32, 50, 125] [116, 101, 120, 116] (.str [49, 32, 50]) .any := lex_brace [49, 32, 50] fun r => Br.flat _ r (by decide)

theorem lex_quote (u : Txt) (hu : ∀ c ∈ u, c ∉ [36, 91, 92] ∧ [c] ∉ ([[34]] : List Txt)) (hl : u.length ≤ 100) : LexOk (34 :: (u ++ [34])) [112, 97, 114, 116, 115] (.tup (txtPart u)) .any := by
  intro x p r hx h _
  have h' : x.drop p = 34 :: (u ++ 34 :: r) := by rw [h]; simp
  obtain ⟨h1, h2, h3⟩ := at_cons h'
  have hd := drop_app h3
  obtain ⟨k1, k2, k3⟩ := at_cons hd
  have key : ∀ n, PU (fn (n + 10)) x [[34]] (p + 1) [] [] (p + 1 + u.length) (txtPart u) := by
    intro n
    have stop : PU (fn (n + 10)) x [[34]] (p + 1 + u.length) [] u (p + 1 + u.length) ([] ++ txtPart u) := PU.stop hx (by omega) (.inr ⟨34, k1, by simp⟩)
    by_cases hu0 : u = []
    · subst hu0; exact stop
    · exact PU.run hx h3 hu0 hu (by intro c r' e; cases e; exact .inr (by simp)) (by simp; omega) (by simpa using stop)
  have e := tok_quote hx h' (q := p + 1 + u.length) k2 (by unfold txtPart; split <;> simp) key
  rw [show p + (34 :: (u ++ [34])).length = p + 1 + u.length + 1 by simp; omega]
  exact e
theorem lex_q1 : LexOk [34, 120, 32, 121, 34] [112, 97, 114, 116, 115] (.tup [.tup [.str [116, 101, 120, 116], .str [120, 32, 121]]]) .any := lex_quote [120, 32, 121] (by decide) (by decide)
theorem lex_q2 : LexOk [34, 34] [112, 97, 114, 116, 115] (.tup []) .any := lex_quote [] (by decide) (by decide)
theorem lex_q3 : LexOk [34, 97, 59, 41, 34] [112, 97, 114, 116, 115] (.tup [.tup [.str [116, 101, 120, 116], .str [97, 59, 41]]]) .any := lex_quote [97, 59, 41] (by decide) (by decide)
theorem lex_q4 : LexOk [34, 123, 34] [112, 97, 114, 116, 115] (.tup [.tup [.str [116, 101, 120, 116], .str [123]]]) .any := lex_quote [123] (by decide) (by decide)
theorem lex_q5 : LexOk [34, 55, 34] [112, 97, 114, 116, 115] (.tup [.tup [.str [116, 101, 120, 116], .str [55]]]) .any := lex_quote [55] (by decide) (by decide)
theorem lex_q6 : LexOk [34, 35, 34] [112, 97, 114, 116, 115] (.tup [.tup [.str [116, 101, 120, 116], .str [35]]]) .any := lex_quote [35] (by decide) (by decide)

theorem wl_name {nm r : Txt} (hw : ∀ c ∈ nm, wl c = true) (hr : noName r) : Nm (nm ++ r) r := by
  induction nm with
  | nil => exact .stop hr
  | cons c u ih => exact .wl (hw c (by simp)) (ih fun d hd => hw d (by simp [hd]))
theorem var_v (n : Nat) {x : Txt} (hx : x.length ≤ 1000000) {p : Nat} {r : Txt} (h : x.drop p = 36 :: 118 :: r) (hr : noRun r = true) (h40 : r.head? ≠ some 40) (σ : St) : fn (n + 3) .f_variable [.str x, .int p] σ = some (.tup [varT [118] .none, .int (p + 2 : Nat)], σ) :=
  var_plain (nm := [118]) n hx h (by simp) (by simp) (wl_name (by decide) (noRun_noName hr)) h40 σ
theorem lex_v1 : LexOk [36, 118] [112, 97, 114, 116, 115] (.tup [varT [118] .none]) .vari := by
  intro x p r hx h hf
  exact tok_var hx h fun n σ => ⟨σ, var_v (n + 10) hx h hf.1 hf.2 σ, Grow.refl _⟩
theorem lex_v2 : LexOk [36, 123, 97, 32, 98, 125] [112, 97, 114, 116, 115] (.tup [varT [97, 32, 98] .none]) .any := by
  intro x p r hx h hf
  exact tok_var hx h fun n σ => ⟨σ, var_brace (nm := [97, 32, 98]) (n + 12) hx h (by decide) σ, Grow.refl _⟩
theorem lex_v3 : LexOk [36, 97, 40, 49, 41] [112, 97, 114, 116, 115] (.tup [varT [97] (.tup [.tup [.str [116, 101, 120, 116], .str [49]]])]) .any := by
  intro x p r hx h hf
  have h3 : x.drop (p + 3) = 49 :: 41 :: r := by rw [← List.drop_drop, h]; rfl
  have h4 := at_cons h3
  have h5 := at_cons h4.2.2
  refine tok_var hx h fun n σ => var_idx (nm := [97]) (n + 10) hx h (by simp) (by simp) (wl_name (by decide) ⟨by decide, by simp⟩) (q := p + 4) h5.2.1 (fun σ => ?_) σ
  exact parts_until_ok (stops := [[41]]) (n + 11) hx (PU.run hx (u := [49]) h3 (by simp) (by decide) (by intro c r' e; cases e; exact .inr (by simp)) (by simp) (PU.stop hx (by simp) (.inr ⟨41, h5.1, by simp⟩))) (by simp [txtPart]) σ
theorem lex_v4 : LexOk [36, 97, 40, 36, 98, 41] [112, 97, 114, 116, 115] (.tup [varT [97] (.tup [varT [98] .none])]) .any := by
  intro x p r hx h hf
  have h3 : x.drop (p + 3) = 36 :: 98 :: 41 :: r := by rw [← List.drop_drop, h]; rfl
  have h4 := at_cons h3
  have h5 : x.drop (p + 5) = 41 :: r := by rw [← List.drop_drop, h]; rfl
  have h6 := at_cons h5
  refine tok_var hx h fun n σ => var_idx (nm := [97]) (n + 10) hx h (by simp) (by simp) (wl_name (by decide) ⟨by decide, by simp⟩) (q := p + 5) h6.2.1 (fun σ => ?_) σ
  refine parts_until_ok (stops := [[41]]) (n + 11) hx (PU.var hx (by simp) (k := [118, 97, 114]) (vs := [.str [98], .none]) (p' := p + 5) (by decide) h4.1 (by decide) (fun σ => ⟨σ, ?_, Grow.refl _⟩) (PU.stop hx (by simp) (.inr ⟨41, h6.1, by simp⟩))) (by simp [txtPart]) σ
  exact var_plain (nm := [98]) (n + 8) hx h3 (by simp) (by simp) (wl_name (by decide) ⟨by decide, by simp⟩) (by simp) σ
theorem lex_v5 : LexOk [36, 58, 58, 120] [112, 97, 114, 116, 115] (.tup [varT [58, 58, 120] .none]) .vari := by
  intro x p r hx h hf
  exact tok_var hx h fun n σ => ⟨σ, var_plain (nm := [58, 58, 120]) (n + 10) hx h (by simp) (by simp) (.cc (by decide) (.wl (by decide) (.stop (noRun_noName hf.1)))) hf.2 σ, Grow.refl _⟩
theorem lex_v10 : LexOk [36, 97, 40, 41] [112, 97, 114, 116, 115] (.tup [varT [97] (.tup [])]) .any := by
  intro x p r hx h hf
  have h3 : x.drop (p + 3) = 41 :: r := by rw [← List.drop_drop, h]; rfl
  have h4 := at_cons h3
  refine tok_var hx h fun n σ => var_idx (nm := [97]) (n + 10) hx h (by simp) (by simp) (wl_name (by decide) ⟨by decide, by simp⟩) (q := p + 3) h4.2.1 (fun σ => ?_) σ
  exact parts_until_ok (stops := [[41]]) (n + 11) hx (PU.stop hx (by simp) (.inr ⟨41, h4.1, by simp⟩)) (by simp [txtPart]) σ
theorem lex_v8 : LexOk [34, 97, 36, 118, 34] [112, 97, 114, 116, 115] (.tup [.tup [.str [116, 101, 120, 116], .str [97]], varT [118] .none]) .any := by
  intro x p r hx h hf
  have h1 : x.drop (p + 1) = [97] ++ (36 :: 118 :: 34 :: r) := by rw [← List.drop_drop, h]; rfl
  have h2 : x.drop (p + 2) = 36 :: 118 :: 34 :: r := by rw [← List.drop_drop, h]; rfl
  have h4 : x.drop (p + 4) = 34 :: r := by rw [← List.drop_drop, h]; rfl
  refine tok_quote hx h (q := p + 4) (at_cons h4).2.1 (by simp) fun n => ?_
  refine PU.run hx h1 (by simp) (by decide) (by intro c r' e; cases e; exact .inl (by simp)) (by simp) ?_
  refine PU.var hx (by simp) (k := [118, 97, 114]) (vs := [.str [118], .none]) (p' := p + 4) (by decide) (at_cons h2).1 (by decide) (fun σ => ⟨σ, ?_, Grow.refl _⟩) (PU.stop hx (by simp) (.inr ⟨34, (at_cons h4).1, by simp⟩))
  exact var_plain (nm := [118]) (n + 7) hx h2 (by simp) (by simp) (wl_name (by decide) ⟨by decide, by simp⟩) (by simp) σ
theorem lex_v9 : LexOk [34, 36, 118, 36, 118, 34] [112, 97, 114, 116, 115] (.tup [varT [118] .none, varT [118] .none]) .any := by
  intro x p r hx h hf
  have h1 : x.drop (p + 1) = 36 :: 118 :: 36 :: 118 :: 34 :: r := by rw [← List.drop_drop, h]; rfl
  have h3 : x.drop (p + 3) = 36 :: 118 :: 34 :: r := by rw [← List.drop_drop, h]; rfl
  have h5 : x.drop (p + 5) = 34 :: r := by rw [← List.drop_drop, h]; rfl
  refine tok_quote hx h (q := p + 5) (at_cons h5).2.1 (by simp) fun n => ?_
  refine PU.var hx (by simp) (k := [118, 97, 114]) (vs := [.str [118], .none]) (p' := p + 3) (by decide) (at_cons h1).1 (by decide) (fun σ => ⟨σ, ?_, Grow.refl _⟩) ?_
  · exact var_plain (nm := [118]) (n + 7) hx h1 (by simp) (by simp) (wl_name (by decide) ⟨by decide, by simp⟩) (by simp) σ
  refine PU.var hx (by simp [txtPart]) (k := [118, 97, 114]) (vs := [.str [118], .none]) (p' := p + 5) (by decide) (at_cons h3).1 (by decide) (fun σ => ⟨σ, ?_, Grow.refl _⟩) (PU.stop hx (by simp) (.inr ⟨34, (at_cons h5).1, by simp⟩))
  exact var_plain (nm := [118]) (n + 7) hx h3 (by simp) (by simp) (wl_name (by decide) ⟨by decide, by simp⟩) (by simp) σ

theorem word_run (n : Nat) {x : Txt} (hx : x.length ≤ 1000000) {p c d : Nat} {r : Txt} (h : x.drop p = c :: d :: r) (hc : c ∉ [123, 34, 36, 91, 92] ∧ [c] ∉ stops8) (hd : [d] ∈ stops8) (σ : St) :
    ∃ σ', fn (n + 3) .f_word [.str x, .int p, .bool true] σ = some (.tup [.tup [.bool false, .tup [.tup [.str [116, 101, 120, 116], .str [c]]]], .int (p + 1 : Nat)], σ') ∧ Grow σ σ' := by
  have hc1 := hc.1
  simp only [List.mem_cons, List.not_mem_nil, or_false, not_or] at hc1
  have h2 := at_cons (at_cons h).2.2
  refine word_bare (n + 1) hx h hc1.1 hc1.2.1 (fun σ => ?_) σ
  exact parts_until_ok (n + 1) hx (PU.run hx (u := [c]) h (by simp) (by intro e he; rw [List.mem_singleton] at he; subst he; exact ⟨by simp; omega, hc.2⟩) (by intro e r' z; cases z; exact .inr hd) (by simp) (PU.stop hx (by simp) (.inr ⟨d, h2.1, hd⟩))) (by simp [txtPart]) σ

theorem brk_f1 (n : Nat) {x : Txt} (hx : x.length ≤ 1000000) {p : Nat} {r : Txt} (h : x.drop p = 91 :: 102 :: 32 :: 49 :: 93 :: r) (σ : St) : ∃ σ', fn (n + 8) .f_brackets [.str x, .int p] σ = some (.tup [.str [102, 32, 49], .int (p + 5 : Nat)], σ') ∧ Grow σ σ' := by
  have h1 : x.drop (p + 1) = 102 :: 32 :: 49 :: 93 :: r := by rw [← List.drop_drop, h]; rfl
  have h2 : x.drop (p + 2) = 32 :: 49 :: 93 :: r := by rw [← List.drop_drop, h]; rfl
  have h3 : x.drop (p + 3) = 49 :: 93 :: r := by rw [← List.drop_drop, h]; rfl
  have h4 : x.drop (p + 4) = 93 :: r := by rw [← List.drop_drop, h]; rfl
  have cm : CM (fn (n + 3 + 3)) x (p + 1) (p + 1) (p + 1) [] (p + 4) := by
    refine CM.next hx (by simp) (e := p + 2) (pl' := p + 3) (c := 49) (fun σ => word_run (n + 3) hx h1 (by decide) (by decide) σ) (fun σ => ?_) (at_cons h3).1 (by decide) (by omega) ?_
    · exact skip_gaps_1 (n + 4) hx (p + 2) h2 ⟨by decide, by simp⟩ σ
    · exact CM.last hx (by simp) (e := p + 4) (fun σ => word_run (n + 3) hx h3 (by decide) (by decide) σ) (fun σ => skip_gaps_0 (n + 4) hx (p + 4) (by have := (at_cons h4).2.1; omega) (by rw [h4]; exact ⟨by decide, by simp⟩) σ) (at_cons h4).1
  have := brackets_ok (n + 3) hx h ⟨by decide, by simp⟩ (by decide) h4 cm σ
  rw [h1, show p + 4 - (p + 1) = 3 by omega] at this
  exact this
theorem lex_k1 : LexOk [91, 102, 32, 49, 93] [112, 97, 114, 116, 115] (.tup [.tup [.str [99, 109, 100], .str [102, 32, 49]]]) .any := by
  intro x p r hx h hf
  exact tok_brk hx h fun n σ => brk_f1 (n + 5) hx h σ
theorem brk_h (n : Nat) {x : Txt} (hx : x.length ≤ 1000000) {p : Nat} {r : Txt} (h : x.drop p = 91 :: 104 :: 93 :: r) (σ : St) : ∃ σ', fn (n + 8) .f_brackets [.str x, .int p] σ = some (.tup [.str [104], .int (p + 3 : Nat)], σ') ∧ Grow σ σ' := by
  have h1 : x.drop (p + 1) = 104 :: 93 :: r := by rw [← List.drop_drop, h]; rfl
  have h2 : x.drop (p + 2) = 93 :: r := by rw [← List.drop_drop, h]; rfl
  have cm : CM (fn (n + 3 + 3)) x (p + 1) (p + 1) (p + 1) [] (p + 2) :=
    CM.last hx (by simp) (e := p + 2) (fun σ => word_run (n + 3) hx h1 (by decide) (by decide) σ) (fun σ => skip_gaps_0 (n + 4) hx (p + 2) (by have := (at_cons h2).2.1; omega) (by rw [h2]; exact ⟨by decide, by simp⟩) σ) (at_cons h2).1
  have := brackets_ok (n + 3) hx h ⟨by decide, by simp⟩ (by decide) h2 cm σ
  rw [h1, show p + 2 - (p + 1) = 1 by omega] at this
  exact this
theorem brk_gh (n : Nat) {x : Txt} (hx : x.length ≤ 1000000) {p : Nat} {r : Txt} (h : x.drop p = 91 :: 103 :: 32 :: 91 :: 104 :: 93 :: 93 :: r) (σ : St) : ∃ σ', fn (n + 13) .f_brackets [.str x, .int p] σ = some (.tup [.str [103, 32, 91, 104, 93], .int (p + 7 : Nat)], σ') ∧ Grow σ σ' := by
  have h1 : x.drop (p + 1) = 103 :: 32 :: 91 :: 104 :: 93 :: 93 :: r := by rw [← List.drop_drop, h]; rfl
  have h2 : x.drop (p + 2) = 32 :: 91 :: 104 :: 93 :: 93 :: r := by rw [← List.drop_drop, h]; rfl
  have h3 : x.drop (p + 3) = 91 :: 104 :: 93 :: 93 :: r := by rw [← List.drop_drop, h]; rfl
  have h6 : x.drop (p + 6) = 93 :: r := by rw [← List.drop_drop, h]; rfl
  have cm : CM (fn (n + 8 + 3)) x (p + 1) (p + 1) (p + 1) [] (p + 6) := by
    refine CM.next hx (by simp) (e := p + 2) (pl' := p + 3) (c := 91) (fun σ => word_run (n + 8) hx h1 (by decide) (by decide) σ) (fun σ => ?_) (at_cons h3).1 (by decide) (by omega) ?_
    · exact skip_gaps_1 (n + 9) hx (p + 2) h2 ⟨by decide, by simp⟩ σ
    · refine CM.last hx (by simp) (e := p + 6) (v := .tup [.bool false, .tup [.tup [.str [99, 109, 100], .str [104]]]]) (fun σ => ?_) (fun σ => skip_gaps_0 (n + 9) hx (p + 6) (by have := (at_cons h6).2.1; omega) (by rw [h6]; exact ⟨by decide, by simp⟩) σ) (at_cons h6).1
      refine word_bare (n + 9) hx h3 (by decide) (by decide) (fun σ => ?_) σ
      exact parts_until_ok (n + 9) hx (PU.cmd hx (by simp) (p' := p + 6) (at_cons h3).1 (by decide) (fun σ => brk_h (n + 1) hx h3 σ) (PU.stop hx (by simp) (.inr ⟨93, (at_cons h6).1, by decide⟩))) (by simp [txtPart]) σ
  have := brackets_ok (n + 8) hx h ⟨by decide, by simp⟩ (by decide) h6 cm σ
  rw [h1, show p + 6 - (p + 1) = 5 by omega] at this
  exact this
theorem lex_k2 : LexOk [91, 103, 32, 91, 104, 93, 93] [112, 97, 114, 116, 115] (.tup [.tup [.str [99, 109, 100], .str [103, 32, 91, 104, 93]]]) .any := by
  intro x p r hx h hf
  exact tok_brk hx h fun n σ => brk_gh n hx h σ
set_option maxHeartbeats 200000

theorem wl_sign {c : Nat} (h : wl c = true) : c ∉ [36, 91, 34, 123, 40, 41, 44] := by
  intro hm
  have : ∀ c ∈ [36, 91, 34, 123, 40, 41, 44], wl c = false := by decide
  rw [this c hm] at h; cases h
theorem dig_wl {c : Nat} (h : 0 ≤ dig c) : wl c = true := by unfold wl; simp [h]

theorem lex_num10 {ds : Txt} (h0 : ds ≠ []) (hd : ∀ c ∈ ds, 0 ≤ dig c ∧ dig c < 10) : LexOk ds [110, 117, 109, 98, 101, 114] (.int (dval 10 ds 0)) .word := by
  intro x p r hx h hf n σ
  obtain ⟨c, ds', rfl⟩ : ∃ c ds', ds = c :: ds' := by
    cases ds with
    | nil => exact absurd rfl h0
    | cons a b => exact ⟨a, b, rfl⟩
  have hc := hd c (by simp)
  have e := number10_ok (n + 8) hx p h h0 hd hf.1 hf.2 σ
  exact ⟨σ, token_sign_ok (n + 8) hx p h (wl_sign (dig_wl hc.1)) σ (sign_number_ok (n + 8) hx p h hc σ e), Grow.refl _⟩
theorem lex_numM {m b : Nat} {ds : Txt} (hm : markB [m] = b) (hb0 : 0 < b) (h0 : ds ≠ []) (hd : ∀ c ∈ ds, 0 ≤ dig c ∧ dig c < b) : LexOk (48 :: m :: ds) [110, 117, 109, 98, 101, 114] (.int (dval b ds 0)) .word := by
  intro x p r hx h hf n σ
  have e := numberM_ok (n + 8) hx p h hm hb0 h0 hd hf.1 σ
  rw [show p + (48 :: m :: ds).length = p + 2 + ds.length by simp; omega]
  exact ⟨σ, token_sign_ok (n + 8) hx p h (by decide) σ (sign_number_ok (n + 8) hx p h (by decide) σ e), Grow.refl _⟩

theorem lex_word {c : Nat} {w : Txt} (hw : wl c = true) (hc : ¬ (0 ≤ dig c ∧ dig c < 10)) (hr : ∀ r, noRun r = true → Run (c :: w ++ r) r) : LexOk (c :: w) (if c :: w ∈ wordOps then [111, 112] else [119, 111, 114, 100]) (.str (c :: w)) .word := by
  intro x p r hx h hf n σ
  have e := sign_word_ok (n + 8) hx p (w := c :: w) (r' := r) h hw hc (hr r hf.1) rfl σ
  exact ⟨σ, token_sign_ok (n + 8) hx p h (wl_sign hw) σ e, Grow.refl _⟩
theorem run_wl {w r : Txt} (hw : ∀ c ∈ w, wl c = true) (hr : noRun r = true) : Run (w ++ r) r := by
  induction w with
  | nil => exact .stop hr
  | cons c u ih => exact .wl (hw c (by simp)) (ih fun d hd => hw d (by simp [hd]))

theorem lex_paren {c : Nat} (hc : c = 40 ∨ c = 41 ∨ c = 44) : LexOk [c] [c] (.str [c]) .any := by
  intro x p r hx h hf n σ
  exact ⟨σ, token_paren_ok (n + 8) hx p h hc σ, Grow.refl _⟩

noncomputable def symOps : List Txt := [[43], [45], [42], [47], [37], [42, 42], [60, 60], [62, 62], [60], [62], [60, 61], [62, 61], [61, 61], [33, 61], [38], [94], [124], [38, 38], [124, 124], [63], [58], [126], [33]]
theorem opOf_sym {s r : Txt} (hs : s ∈ symOps) (hf : fol .op r) : opOf (s ++ r) = s := by
  have two : ∀ s ∈ symOps, s.length = 2 → s ∈ twos := by decide
  have one : ∀ s ∈ symOps, s.length = 1 ∨ s.length = 2 := by decide
  have inOnes : ∀ s ∈ symOps, s.length = 1 → s ∈ ones := by decide
  have snd : ∀ t ∈ twos, ∀ d, t[1]? = some d → d ∈ [42, 60, 62, 61, 38, 124] := by
    intro t ht d hd
    have : ∀ t ∈ twos, (t[1]?).all (fun d => decide (d ∈ [42, 60, 62, 61, 38, 124])) = true := by decide
    have := this t ht
    rw [hd] at this
    simpa using this
  unfold opOf
  rcases one s hs with h1 | h2
  · obtain ⟨c, rfl⟩ : ∃ c, s = [c] := by
      match s, h1 with
      | [c], _ => exact ⟨c, rfl⟩
    have e1 : List.take 1 ([c] ++ r) = [c] := rfl
    rw [if_neg, e1, if_pos (inOnes _ hs rfl)]
    · intro hm
      cases r with
      | nil => have : ∀ t ∈ twos, t.length = 2 := by decide
               have := this _ hm
               simp at this
      | cons d r =>
        exact hf d rfl (snd _ hm d rfl)
  · have e : (s ++ r).take 2 = s := by rw [← h2, List.take_left]
    rw [e, if_pos (two s hs h2)]
theorem lex_sym {s : Txt} (hs : s ∈ symOps) : LexOk s [111, 112] (.str s) .op := by
  intro x p r hx h hf n σ
  obtain ⟨c, s', rfl⟩ : ∃ c s', s = c :: s' := by
    cases s with
    | nil => exact absurd hs (by decide)
    | cons a b => exact ⟨a, b, rfl⟩
  have hc : c ∉ [36, 91, 34, 123, 40, 41, 44] := by
    have : ∀ t ∈ symOps, ∀ c, t[0]? = some c → c ∉ [36, 91, 34, 123, 40, 41, 44] := by
      intro t ht d hd
      have : ∀ t ∈ symOps, (t[0]?).all (fun d => decide (d ∉ [36, 91, 34, 123, 40, 41, 44])) = true := by decide
      have := this t ht
      rw [hd] at this
      simpa using this
    exact this _ hs c rfl
  have ho : opOf (x.drop p) = c :: s' := by rw [h]; exact opOf_sym hs hf
  have hp := (at_cons h).2.1
  have e := sign_op_ok (n + 11) hx p hp (by rw [ho]; simp) σ
  rw [ho] at e
  exact ⟨σ, token_sign_ok (n + 8) hx p h hc σ e, Grow.refl _⟩

structure Tk where
  s : Txt
  sort : Txt
  v : V
  cl : Cl
structure Tk.Ok (t : Tk) : Prop where
  lex : LexOk t.s t.sort t.v t.cl
  head : ∃ c r, t.s = c :: r ∧ blankC c = false ∧ c ≠ 92 ∧ c ≠ 35

inductive Lexd : Txt → List Tk → Prop
  | nil {b : Txt} : Sk b [] → Lexd b []
  | cons {b r : Txt} {t : Tk} {ts : List Tk} : Sk b (t.s ++ r) → t.Ok → fol t.cl r → Lexd r ts → Lexd b (t :: ts)

noncomputable def tkRep (v : V) (t : Tk) : Prop := ∃ a b : Nat, v = tokV t.sort t.v a b
inductive TkReps : List V → List Tk → Prop
  | nil : TkReps [] []
  | cons {v : V} {t : Tk} {vs : List V} {ts : List Tk} : tkRep v t → TkReps vs ts → TkReps (v :: vs) (t :: ts)
theorem TkReps.app {vs ws : List V} {ts us : List Tk} (h : TkReps vs ts) (h' : TkReps ws us) : TkReps (vs ++ ws) (ts ++ us) := by
  induction h with
  | nil => exact h'
  | cons a _ ih => exact .cons a ih

noncomputable abbrev lexB (fns : Fn → DF) : DS := sSeq (sSet 3 (dCall (fns .f_token_at) [dVar 0, dVar 2])) (sSeq (sExpr (dMeth kList bAppend (dVar 1) [dVar 3])) (sSet 2 (dCall (fns .f_skip_space) [dVar 0, dIndex (dVar 3) (dLit (.int 3))])))
noncomputable def endT : Tk := ⟨[], [101, 110, 100], .str [], .any⟩

theorem Sk.suf {b s : Txt} (h : Sk b s) : ∃ g, b = g ++ s := by
  induction h with
  | nil => exact ⟨[], rfl⟩
  | stop => exact ⟨[], rfl⟩
  | blank _ _ ih => obtain ⟨g, e⟩ := ih; exact ⟨_ :: g, by rw [e]; rfl⟩
  | bs _ ih => obtain ⟨g, e⟩ := ih; exact ⟨92 :: 10 :: g, by rw [e]; rfl⟩
  | @com u _ _ _ _ ih => obtain ⟨g, e⟩ := ih; exact ⟨35 :: (u ++ g), by rw [e, ← List.append_assoc]; rfl⟩
theorem Sk.det {b s s' : Txt} (hb : b.length ≤ 1000000) (h : Sk b s) (h' : Sk b s') : s = s' := by
  have e := (skip_space_ok 0 hb h [] 0 (Nat.zero_le _) rfl).symm.trans (skip_space_ok 0 hb h' [] 0 (Nat.zero_le _) rfl)
  have e : b.length - s.length = b.length - s'.length := Int.ofNat.inj (V.int.inj (Prod.mk.inj (Option.some.inj e)).1)
  obtain ⟨u, hu⟩ := h.suf
  obtain ⟨u', hu'⟩ := h'.suf
  refine (List.append_inj' (hu.symm.trans hu') ?_).2
  rw [← Nat.sub_sub_self h.le, e, Nat.sub_sub_self h'.le]
theorem Sk.at {x r s : Txt} {q : Nat} (h : Sk r s) (hq : x.drop q = r) (hl : q ≤ x.length) : x.drop (x.length - s.length) = s := by
  obtain ⟨g, e⟩ := h.suf
  have e2 := hq.trans e
  rw [(app_le e2 hl).2]; exact drop_app e2
theorem Lexd.sk {b : Txt} {ts : List Tk} (h : Lexd b ts) : ∃ s, Sk b s := by
  cases h with
  | nil h => exact ⟨_, h⟩
  | cons h => exact ⟨_, h⟩
theorem lex_turn {n l p q q' : Nat} {x st : Txt} {v : V} {ps : List V} {σ σ₁ : St} {o : Option V} (e1 : fn (n + 14) .f_token_at [.str x, .int p] σ = some (tokV st v p q, σ₁)) (hl1 : σ₁[l]? = some (.list ps)) (hl3 : ps.length < 16777216)
    (hss : fn (n + 14) .f_skip_space [.str x, .int q] (σ₁.set l (.list (ps ++ [tokV st v p q]))) = some (.int q', σ₁.set l (.list (ps ++ [tokV st v p q])))) :
    lexB (fn (n + 14)) [some (.str x), some (.ref l), some (.int p), o] σ = some (.next, [some (.str x), some (.ref l), some (.int q'), some (tokV st v p q)], σ₁.set l (.list (ps ++ [tokV st v p q]))) := by
  unfold tokV at *
  wp_walk using e1, bAppend, hl1, hl3, hss
theorem lex_loop (n : Nat) {x : Txt} (hx : x.length ≤ 1000000) {ts : List Tk} : ∀ (b s : Txt) (p : Nat) (l : Nat) (σ : St) (ps : List V) (o : Option V), Lexd b ts → b.length ≤ 1000000 → p ≤ x.length → Sk b s → x.drop p = s → σ[l]? = some (.list ps) → ps.length + ts.length ≤ 1000000 →
    ∃ σ' ws o', sWhile (tCmp .Lt (dVar 2) (dCall bLen [dVar 0])) (lexB (fn (n + 14))) [some (.str x), some (.ref l), some (.int p), o] σ = some (.next, [some (.str x), some (.ref l), some (.int x.length), o'], σ') ∧ σ'[l]? = some (.list (ps ++ ws)) ∧ TkReps ws ts ∧ GrowB l σ σ' := by
  have hl : x.length ≤ 16777216 := by omega
  induction ts with
  | nil =>
    intro b s p l σ ps o hL hb hp hs hd hl' hn
    cases hL with
    | nil h' =>
      obtain rfl := hs.det hb h'
      have h2 := at_nil hd
      obtain rfl := Nat.le_antisymm hp h2
      exact ⟨σ, [], o, while_done (by wp_walk using hl), by rw [List.append_nil]; exact hl', .nil, GrowB.refl _ _⟩
  | cons t ts ih =>
    intro b s p l σ ps o hL hb hp hs hd hl' hn
    cases hL with
    | @cons _ r _ _ h' hok hf hrest =>
      obtain rfl := hs.det hb h'
      obtain ⟨c, u, hcu, hb1, hb2, hb3⟩ := hok.head
      have hd' : x.drop p = c :: (u ++ r) := by rw [hd, hcu]; rfl
      have h2 := (at_cons hd').2.1
      obtain ⟨σ₁, e1, g1⟩ := hok.lex x p r hx hd hf n σ
      have hl1 := g1.get hl'
      have hlt := (List.getElem?_eq_some_iff.mp hl1).1
      have hq := drop_app hd
      have hqle := (app_le hd hp).1
      obtain ⟨s', hs'⟩ := hrest.sk
      have hss := skip_space_ok (n + 12) hx hs' (σ₁.set l (.list (ps ++ [tokV t.sort t.v p (p + t.s.length)]))) (p + t.s.length) hqle hq
      rw [List.length_cons] at hn
      obtain ⟨σ', ws, o', w1, w2, w3, w4⟩ := ih r s' (x.length - s'.length) l (σ₁.set l (.list (ps ++ [tokV t.sort t.v p (p + t.s.length)]))) (ps ++ [tokV t.sort t.v p (p + t.s.length)]) (some (tokV t.sort t.v p (p + t.s.length))) hrest
        (by rw [← hq, List.length_drop]; exact Nat.le_trans (Nat.sub_le _ _) hx) (Nat.sub_le _ _) hs' (hs'.at hq hqle) (List.getElem?_set_self hlt) (by rw [List.length_append]; exact Nat.le_trans (Nat.le_of_eq (Nat.add_right_comm _ 1 _)) hn)
      exact ⟨σ', tokV t.sort t.v p (p + t.s.length) :: ws, o', (while_step (σ₁ := σ) (by wp_walk using hl, h2) (lex_turn e1 hl1 (by omega) hss)).trans w1, by rw [List.append_assoc] at w2; exact w2, .cons ⟨p, p + t.s.length, rfl⟩ w3, (g1.b.trans (GrowB.set _ _ _)).trans w4⟩

theorem TkReps.len {a : List V} {b : List Tk} (h : TkReps a b) : a.length = b.length := by
  induction h with
  | nil => rfl
  | cons _ _ ih => exact congrArg (· + 1) ih
theorem lex_end {n q : Nat} {x : Txt} {ws : List V} {σ σ' : St} {o' : Option V} (hl : x.length ≤ 16777216) (hss : fn (n + 14) .f_skip_space [.str x, .int 0] (σ ++ [.list []]) = some (.int q, σ ++ [.list []]))
    (w1 : sWhile (tCmp .Lt (dVar 2) (dCall bLen [dVar 0])) (lexB (fn (n + 14))) [some (.str x), some (.ref σ.length), some (.int q), none] (σ ++ [.list []]) = some (.next, [some (.str x), some (.ref σ.length), some (.int x.length), o'], σ')) (w2 : σ'[σ.length]? = some (.list ws)) (hwn : ws.length < 16777216) :
    fn (n + 15) .f_lex [.str x] σ = some (.ref σ.length, σ'.set σ.length (.list (ws ++ [tokV [101, 110, 100] (.str []) x.length x.length]))) := by
  rw [fn_succ]
  unfold lexB at w1
  wp_walk using b_f_lex, dList, hss, w1, bAppend, w2, hwn, tokV, hl
theorem lex_ok (n : Nat) {x : Txt} (hx : x.length ≤ 1000000) {ts : List Tk} (hL : Lexd x ts) (hn : ts.length ≤ 100000) (σ : St) :
    ∃ σ' ws, fn (n + 15) .f_lex [.str x] σ = some (.ref σ.length, σ') ∧ σ'[σ.length]? = some (.list ws) ∧ TkReps ws (ts ++ [endT]) ∧ Grow σ σ' := by
  obtain ⟨s, hs⟩ := hL.sk
  have hss := skip_space_ok (n + 12) hx hs (σ ++ [.list []]) 0 (Nat.zero_le _) rfl
  obtain ⟨σ', ws, o', w1, w2, w3, w4⟩ := lex_loop n hx x s (x.length - s.length) σ.length (σ ++ [.list []]) [] none hL hx (Nat.sub_le _ _) hs (hs.at rfl (Nat.zero_le _)) (by simp) (by simp; omega)
  rw [List.nil_append] at w2
  exact ⟨_, _, lex_end (by omega) hss w1 w2 (by have := w3.len; omega), List.getElem?_set_self (List.getElem?_eq_some_iff.mp w2).1, w3.app (.cons ⟨_, _, rfl⟩ .nil), (w4.trans (GrowB.set _ _ _)).grow⟩
set_option maxHeartbeats 200000

noncomputable abbrev sOp : Txt := [111, 112]
noncomputable abbrev sWord : Txt := [119, 111, 114, 100]
noncomputable abbrev sNum : Txt := [110, 117, 109, 98, 101, 114]
noncomputable abbrev sText : Txt := [116, 101, 120, 116]
noncomputable abbrev sParts : Txt := [112, 97, 114, 116, 115]
noncomputable abbrev sEnd : Txt := [101, 110, 100]
noncomputable abbrev sLp : Txt := [40]
noncomputable abbrev sRp : Txt := [41]
noncomputable abbrev sCm : Txt := [44]
noncomputable def lvPairs : List (Txt × Int) := [([63], 1), ([124, 124], 2), ([38, 38], 3), ([124], 4), ([94], 5), ([38], 6), ([61, 61], 7), ([33, 61], 7), ([101, 113], 7), ([110, 101], 7), ([105, 110], 7), ([110, 105], 7), ([60], 8), ([62], 8), ([60, 61], 8), ([62, 61], 8), ([108, 116], 8), ([108, 101], 8), ([103, 116], 8), ([103, 101], 8), ([60, 60], 9), ([62, 62], 9), ([43], 10), ([45], 10), ([42], 11), ([47], 11), ([37], 11), ([42, 42], 12)]
noncomputable def lvl (o : Txt) : Int := (lvPairs.lookup o).getD 0
noncomputable def lvTab : List (Txt × V) := lvPairs.map fun p => (p.1, .int p.2)
theorem lookup_map (o : Txt) : ∀ l : List (Txt × Int), ((l.map fun p => (p.1, V.int p.2)).lookup o).getD (.int 0) = .int ((l.lookup o).getD 0)
  | [] => rfl
  | (k, v) :: r => by
    rw [List.map_cons, List.lookup_cons, List.lookup_cons]
    show Option.getD (match o == k with | true => _ | false => _) _ = _
    cases o == k
    · exact lookup_map o r
    · rfl
theorem lvTab_get (o : Txt) : (lvTab.lookup o).getD (.int 0) = .int (lvl o) := lookup_map o lvPairs

noncomputable def level (ts : List Tk) : Int := match ts with
  | t :: _ => if t.sort = sOp then (match t.v with | .str o => lvl o | _ => 0) else 0
  | [] => 0
noncomputable def hdSort (ts : List Tk) : Txt := match ts with
  | t :: _ => t.sort
  | [] => []

structure Pl where
  R : Nat
  tk : Nat
  lv : Nat
  txt : Txt
  ws : List V
  toks : List Tk
structure Rd (P : Pl) (σ : St) (at' : Nat) : Prop where
  r : σ[P.R]? = some (.inst [.str P.txt, .ref P.tk, .ref P.lv, .int at'])
  t : σ[P.tk]? = some (.list P.ws)
  l : σ[P.lv]? = some (.dict lvTab)
structure Pl.Ok (P : Pl) : Prop where
  reps : TkReps P.ws P.toks
  len : P.toks.length ≤ 1000000
  n1 : P.tk ≠ P.R
  n2 : P.lv ≠ P.R
  vals : ∀ t ∈ P.toks, t.sort = sOp → ∃ o, t.v = .str o

theorem Rd.grow {P : Pl} {σ σ' : St} {a : Nat} (h : Rd P σ a) (g : Grow σ σ') : Rd P σ' a := ⟨g.get h.r, g.get h.t, g.get h.l⟩
theorem Rd.growB {P : Pl} {σ σ' : St} {a : Nat} {l : Nat} (h : Rd P σ a) (g : GrowB l σ σ') (h1 : l ≠ P.R) (h2 : l ≠ P.tk) (h3 : l ≠ P.lv) : Rd P σ' a :=
  ⟨(g.2 _ (List.getElem?_eq_some_iff.mp h.r).1 (Ne.symm h1)).trans h.r, (g.2 _ (List.getElem?_eq_some_iff.mp h.t).1 (Ne.symm h2)).trans h.t, (g.2 _ (List.getElem?_eq_some_iff.mp h.l).1 (Ne.symm h3)).trans h.l⟩

theorem TkReps.get {vs : List V} {ts : List Tk} (h : TkReps vs ts) : ∀ {i : Nat} {t : Tk}, ts[i]? = some t → ∃ a b : Nat, vs[i]? = some (tokV t.sort t.v a b) := by
  induction h with
  | nil => intro i t h; simp at h
  | cons r _ ih =>
    intro i t h
    cases i with
    | zero => obtain ⟨a, b, e⟩ := r; cases h; exact ⟨a, b, by rw [e]; rfl⟩
    | succ i => exact ih (i := i) h

theorem tk_at {P : Pl} (ok : P.Ok) {a : Nat} {t : Tk} {ts : List Tk} (h : P.toks.drop a = t :: ts) : ∃ u v : Nat, P.ws[a]? = some (tokV t.sort t.v u v) ∧ a < 1000000 ∧ P.toks.drop (a + 1) = ts ∧ t ∈ P.toks := by
  have h1 : P.toks[a]? = some t := by
    have := congrArg (fun l => l[0]?) h
    simpa using this
  obtain ⟨u, v, e⟩ := ok.reps.get h1
  have := (List.getElem?_eq_some_iff.mp h1).1
  have := ok.len
  exact ⟨u, v, e, by omega, by rw [← List.drop_drop, h]; rfl, List.mem_of_getElem? h1⟩

theorem i_ref {σ : St} {l k : Nat} {ws : List V} {v : V} (h : σ[l]? = some (.list ws)) (hk : k < 1000000) (hv : ws[k]? = some v) : vindex (.ref l) (.int k) σ = some v := by
  unfold vindex; simp only [Int.toNat_natCast, asInt_e, Option.bind_some]; rw [if_pos ⟨by omega, by omega⟩]; show (lst σ l).bind (fun x => x[k]?) = some v; rw [lst_e, h]; exact hv

section
variable {P : Pl} (ok : P.Ok) {σ : St} {a : Nat} {t : Tk} {ts : List Tk}
include ok
theorem sort_ok (n : Nat) (hR : Rd P σ a) (h : P.toks.drop a = t :: ts) : fn (n + 1) .m_sort [.ref P.R] σ = some (.str t.sort, σ) := by
  obtain ⟨u, v, e, ha, _, _⟩ := tk_at ok h
  have hi := i_ref hR.t ha e
  unfold tokV at hi
  have hr := hR.r
  rw [fn_succ]
  wp_walk using b_m_sort, hr, hi
theorem value_ok (n : Nat) (hR : Rd P σ a) (h : P.toks.drop a = t :: ts) : fn (n + 1) .m_value [.ref P.R] σ = some (t.v, σ) := by
  obtain ⟨u, v, e, ha, _, _⟩ := tk_at ok h
  have hi := i_ref hR.t ha e
  unfold tokV at hi
  have hr := hR.r
  rw [fn_succ]
  wp_walk using b_m_value, hr, hi
noncomputable def setAt (P : Pl) (σ : St) (a : Nat) : St := σ.set P.R (.inst [.str P.txt, .ref P.tk, .ref P.lv, .int a])
omit ok in
theorem setAt_growB : GrowB P.R σ (setAt P σ a) := GrowB.set _ _ _
theorem setAt_rd {b : Nat} (hR : Rd P σ a) : Rd P (setAt P σ b) b := by
  have hlt := (List.getElem?_eq_some_iff.mp hR.r).1
  refine ⟨List.getElem?_set_self hlt, ?_, ?_⟩
  · unfold setAt; rw [List.getElem?_set_ne (Ne.symm ok.n1)]; exact hR.t
  · unfold setAt; rw [List.getElem?_set_ne (Ne.symm ok.n2)]; exact hR.l
theorem take_ok (n : Nat) (hR : Rd P σ a) (h : P.toks.drop a = t :: ts) : fn (n + 1) .m_take [.ref P.R] σ = some (t.v, setAt P σ (a + 1)) ∧ Rd P (setAt P σ (a + 1)) (a + 1) ∧ P.toks.drop (a + 1) = ts ∧ GrowB P.R σ (setAt P σ (a + 1)) := by
  obtain ⟨u, v, e, ha, hd, _⟩ := tk_at ok h
  have hR' := setAt_rd (b := a + 1) ok hR
  have hi := i_ref hR'.t ha e
  unfold tokV at hi
  have hr := hR.r
  have hr' := hR'.r
  refine ⟨?_, hR', hd, setAt_growB⟩
  have hset : setAttrD 3 (.ref P.R) (.int ((a : Int) + 1)) σ = some (setAt P σ (a + 1)) := by
    unfold setAttrD; simp [hr, putF, setAt]
  generalize setAt P σ (a + 1) = σ' at *
  have e1 : (a : Int) + 1 - 1 = a := by omega
  push_cast at hr'
  rw [fn_succ]
  wp_walk using b_m_take, sAugA, getF, hr, hset, hr', e1, hi
theorem level_ok (n : Nat) (hR : Rd P σ a) (h : P.toks.drop a = t :: ts) : fn (n + 2) .m_level [.ref P.R] σ = some (.int (level (t :: ts)), σ) := by
  have hs := sort_ok ok n hR h
  have hv := value_ok ok n hR h
  have hr := hR.r
  have hl := hR.l
  have ht := (tk_at ok h).choose_spec.choose_spec.2.2.2
  have hg := lvTab_get
  show _ = some (V.int (if t.sort = sOp then (match t.v with | .str o => lvl o | _ => 0) else 0), σ)
  rw [fn_succ]
  by_cases hop : t.sort = sOp
  · obtain ⟨o, ho⟩ := ok.vals t ht hop
    rw [hop] at hs
    rw [ho] at hv ⊢
    have hgo := hg o
    generalize lvTab = tab at *
    wp_walk using b_m_level, hr, hs, hv, hl, bDictGet, hgo, hop
  · wp_walk using b_m_level, hr, hs, hop
theorem is_colon_ok (n : Nat) (hR : Rd P σ a) (h : P.toks.drop a = t :: ts) (h1 : t.sort = sOp) (h2 : t.v = .str [58]) : fn (n + 2) .f_is_colon [.ref P.R] σ = some (.bool true, σ) := by
  have hs := sort_ok ok n hR h
  have hv := value_ok ok n hR h
  have hr := hR.r
  rw [h1] at hs
  rw [h2] at hv
  rw [fn_succ]
  wp_walk using b_f_is_colon, hr, hs, hv
theorem close_ok (n : Nat) (hR : Rd P σ a) (h : P.toks.drop a = t :: ts) (h1 : t.sort = sRp) (w : V) : fn (n + 2) .f_close [.ref P.R, w] σ = some (.none, setAt P σ (a + 1)) := by
  have hs := sort_ok ok n hR h
  have ht := (take_ok ok n hR h).1
  have hr := hR.r
  rw [h1] at hs
  rw [fn_succ]
  wp_walk using b_f_close, hr, hs, ht
end
set_option maxHeartbeats 200000

theorem digits_none (n : Nat) {c : Nat} {r : Txt} (hc : 10 ≤ dig c) (σ : St) : fn (n + 2) .f_digits_value [.str (c :: r), .int 10] σ = some (.none, σ) := by
  have e := for_ret (c := .str (c :: r)) (k := 3) (i := 0) (v := .str [c]) (w := .none) (ρ := [some (.str (c :: r)), some (.int 10), some (.int 0), none, none]) (σ := σ) (σ₂ := σ) (ρ₂ := [some (.str (c :: r)), some (.int 10), some (.int 0), some (.str [c]), some (.int (dig c))])
    (b := sSeq (sSet 4 (dCall (fn (n + 1) .f_digit) [dVar 3])) (sSeq (sIf (tOrs [tCmp .Lt (dVar 4) (dLit (.int 0)), tCmp .GtE (dVar 4) (dVar 1)]) (sRet (dLit .none)) (sNil)) (sSet 2 (dBin .Add (dBin .Mult (dVar 2) (dVar 1)) (dVar 4)))))
    (by simp [dNext]) (by
      have h1 : ¬ dig c < 0 := by omega
      wp_walk using digit_ok, h1, hc)
  rw [fn_succ]
  wp_walk using b_f_digits_value, sFor, iVal, srcOf, e

theorem whole_none (n : Nat) {c : Nat} {r : Txt} (hc : 10 ≤ dig c) (hb : ∀ d ∈ c :: r, blankC d = false) (hl : (c :: r).length ≤ 1000) (σ : St) : fn (n + 3) .f_whole_of [.str (c :: r)] σ = some (.none, σ) := by
  have hl' : (c :: r).length ≤ 16777216 := by omega
  have hi : vindex (.str (c :: r)) (.int 0) σ = some (.str [c]) := i_str σ (c :: r) c (k := 0) (by omega) rfl
  have h0 := is_blank_ok (n + 1) c σ
  rw [hb c (by simp)] at h0
  obtain ⟨d, hd⟩ : ∃ d, (c :: r)[r.length]? = some d := ⟨_, List.getElem?_eq_getElem (by simp)⟩
  have hj := i_str σ (c :: r) d (k := r.length) (by simp at hl; omega) hd
  rw [show ((r.length : Nat) : Int) = ((c :: r).length : Int) - 1 by simp] at hj
  have h1 := is_blank_ok (n + 1) d σ
  rw [hb d (List.mem_of_getElem? hd)] at h1
  have hdv := digits_none n (r := r) hc σ
  have c43 : c ≠ 43 := by rintro rfl; exact absurd hc (by decide)
  have c45 : c ≠ 45 := by rintro rfl; exact absurd hc (by decide)
  have c48 : c ≠ 48 := by rintro rfl; exact absurd hc (by decide)
  have hsl : vslice (.str (c :: r)) (some 0) (some ((c :: r).length : Int)) σ = some (.str (c :: r), σ) := by
    have := s_str σ (c :: r) (k := 0) (m := (c :: r).length) hl'
    rw [List.drop_zero, Nat.sub_zero, List.take_length] at this
    exact this
  have hpos : 0 < (c :: r).length := by simp
  generalize c :: r = x at *
  have w1 := while_done (t := tAnds [tCmp .Lt (dVar 1) (dVar 2), tVal (dCall (fn (n + 2) .f_is_blank) [dIndex (dVar 0) (dVar 1)])]) (b := sAug .Add 1 (dLit (.int 1)))
    (ρ := [some (.str x), some (.int 0), some (.int x.length), none, none, none]) (σ := σ) (σ₁ := σ) (by wp_walk using hi, h0, hpos)
  have w2 := while_done (t := tAnds [tCmp .Lt (dVar 1) (dVar 2), tVal (dCall (fn (n + 2) .f_is_blank) [dIndex (dVar 0) (dBin .Sub (dVar 2) (dLit (.int 1)))])]) (b := sAug .Sub 2 (dLit (.int 1)))
    (ρ := [some (.str x), some (.int 0), some (.int x.length), none, none, none]) (σ := σ) (σ₁ := σ) (by wp_walk using hj, h1, hpos)
  rw [fn_succ]
  by_cases h2 : (2 : Int) < x.length
  · wp_walk using b_f_whole_of, hl', w1, w2, hpos, hi, c43, c45, c48, hsl, hdv, h2
  · wp_walk using b_f_whole_of, hl', w1, w2, hpos, hi, c43, c45, c48, hsl, hdv, h2

noncomputable def trues : List Txt := [[116, 114, 117, 101], [121, 101, 115], [111, 110]]
noncomputable def falses : List Txt := [[102, 97, 108, 115, 101], [110, 111], [111, 102, 102]]
theorem pre_for (low : Txt) (ts : List Txt) (q : Bool) (o0 o1 : Option V) (σ : St) : ∀ (k : Nat) (us : List Txt) (o3 : Option V), ts.drop k = us → ∃ o3' c, sForGo (.tup (ts.map V.str)) 3 (sIf (tVal (dMeth kStr bStarts (dVar 3) [dVar 2])) (sRet (dLit (.bool q))) (sNil)) k [o0, o1, some (.str low), o3] σ = some (c, [o0, o1, some (.str low), o3'], σ) ∧
    (c = if us.any (fun t => low.isPrefixOf t) = true then .ret (.bool q) else .next) := by
  intro k us
  induction us generalizing k with
  | nil =>
    intro o3 h
    have := List.drop_eq_nil_iff.mp h
    exact ⟨o3, _, for_done (by simp [dNext, this]), rfl⟩
  | cons u us ih =>
    intro o3 h
    have h1 : ts[k]? = some u := by
      have := congrArg (fun l => l[0]?) h
      simpa using this
    have h2 : ts.drop (k + 1) = us := by rw [← List.drop_drop, h]; rfl
    by_cases hp : low.isPrefixOf u = true
    · refine ⟨some (.str u), .ret (.bool q), for_ret (v := .str u) (σ₂ := σ) (by simp [dNext, h1]) (by wp_walk using bStarts, hp), ?_⟩
      rw [if_pos]; rw [List.any_cons, hp]; rfl
    · obtain ⟨o3', c, e, ec⟩ := ih (k + 1) (some (.str u)) h2
      refine ⟨o3', c, (for_step (v := .str u) (σ₂ := σ) (by simp [dNext, h1]) (by wp_walk using bStarts, hp)).trans e, ?_⟩
      rw [ec, List.any_cons]
      simp [hp]

noncomputable def boolW (w : Txt) : Bool := match w with
  | [] => false
  | c :: r => decide (10 ≤ dig c) && (c :: r).all (fun d => !blankC d && decide (d < 128)) && decide ((c :: r).length ≤ 1000) && !decide (w.map lo1 ∈ ([[], [111]] : List Txt)) &&
      (trues.any (fun t => (w.map lo1).isPrefixOf t) || falses.any (fun t => (w.map lo1).isPrefixOf t))
theorem bool_of_ok (n : Nat) {w : Txt} (h : boolW w = true) (σ : St) : ∃ b, fn (n + 4) .f_bool_of [.str w] σ = some (.bool b, σ) := by
  cases w with
  | nil => cases h
  | cons c r =>
    simp only [boolW, Bool.and_eq_true, decide_eq_true_eq, Bool.not_eq_true', decide_eq_false_iff_not, List.all_eq_true] at h
    obtain ⟨⟨⟨⟨h1, h2⟩, h3⟩, h4⟩, h5⟩ := h
    have hw := whole_none n (r := r) h1 (fun d hd => (h2 d hd).1) h3 σ
    have hlow : bLower [.str (c :: r)] σ = some (.str ((c :: r).map lo1), σ) := by
      exact if_pos ⟨by omega, fun d hd => (h2 d hd).2⟩
    generalize (c :: r).map lo1 = low at *
    generalize c :: r = x at *
    obtain ⟨o3, c1, e1, ec1⟩ := pre_for low trues true (some (.str x)) (some .none) σ 0 trues none rfl
    have n4 : ¬ (low = [] ∨ low = [111]) := by simpa using h4
    have e1' : sForGo (.tup [.str [116, 114, 117, 101], .str [121, 101, 115], .str [111, 110]]) 3 (sIf (tVal (dMeth kStr bStarts (dVar 3) [dVar 2])) (sRet (dLit (.bool true))) (sNil)) 0 [some (.str x), some .none, some (.str low), none] σ = _ := e1
    by_cases ht : trues.any (fun t => low.isPrefixOf t) = true
    · rw [if_pos ht] at ec1
      subst ec1
      refine ⟨true, ?_⟩
      rw [fn_succ]
      wp_walk using b_f_bool_of, hw, hlow, n4, sFor, iVal, srcOf, e1'
    · rw [if_neg ht] at ec1
      subst ec1
      have hf : falses.any (fun t => low.isPrefixOf t) = true := by
        rw [Bool.or_eq_true] at h5
        exact h5.resolve_left ht
      obtain ⟨o3', c2, e2, ec2⟩ := pre_for low falses false (some (.str x)) (some .none) σ 0 falses o3 rfl
      rw [if_pos hf] at ec2
      subst ec2
      have e2' : sForGo (.tup [.str [102, 97, 108, 115, 101], .str [110, 111], .str [111, 102, 102]]) 3 (sIf (tVal (dMeth kStr bStarts (dVar 3) [dVar 2])) (sRet (dLit (.bool false))) (sNil)) 0 [some (.str x), some .none, some (.str low), o3] σ = _ := e2
      refine ⟨false, ?_⟩
      rw [fn_succ]
      wp_walk using b_f_bool_of, hw, hlow, n4, sFor, iVal, srcOf, e1', e2'
example : boolW [116, 82, 117] = true := by decide
example : boolW [111, 70, 70] = true := by decide

section
variable {P : Pl} (ok : P.Ok) {σ : St} {a : Nat} {t : Tk} {ts : List Tk}
include ok
theorem is_bare_other (n : Nat) (hR : Rd P σ a) (h : P.toks.drop a = t :: ts) (hs : t.sort ≠ sWord) : fn (n + 5) .f_is_bare [.ref P.R] σ = some (.bool false, σ) := by
  have h1 := sort_ok ok (n + 3) hR h
  have hr := hR.r
  rw [fn_succ]
  wp_walk using b_f_is_bare, hr, h1, hs
theorem is_bare_call (n : Nat) (hR : Rd P σ a) {u : Tk} (h : P.toks.drop a = t :: u :: ts) (hu : u.sort = sLp) : fn (n + 5) .f_is_bare [.ref P.R] σ = some (.bool false, σ) := by
  have h1 := sort_ok ok (n + 3) hR h
  have hr := hR.r
  obtain ⟨_, _, _, _, hd, _⟩ := tk_at ok h
  obtain ⟨p, q, e, ha, _, _⟩ := tk_at ok hd
  have hi := i_ref hR.t ha e
  unfold tokV at hi
  rw [hu] at hi
  push_cast at hi
  rw [fn_succ]
  by_cases hw : t.sort = sWord
  · wp_walk using b_f_is_bare, hr, h1, hw, hi
  · wp_walk using b_f_is_bare, hr, h1, hw
theorem is_bare_bool (n : Nat) (hR : Rd P σ a) {u : Tk} (h : P.toks.drop a = t :: u :: ts) (hu : u.sort ≠ sLp) (hs : t.sort = sWord) {w : Txt} (hv : t.v = .str w) (hw : boolW w = true) : fn (n + 5) .f_is_bare [.ref P.R] σ = some (.bool false, σ) := by
  have h1 := sort_ok ok (n + 3) hR h
  have h2 := value_ok ok (n + 3) hR h
  have hr := hR.r
  obtain ⟨_, _, _, _, hd, _⟩ := tk_at ok h
  obtain ⟨p, q, e, ha, _, _⟩ := tk_at ok hd
  have hi := i_ref hR.t ha e
  unfold tokV at hi
  push_cast at hi
  obtain ⟨b, hb⟩ := bool_of_ok n hw σ
  rw [hs] at h1
  rw [hv] at h2
  rw [fn_succ]
  wp_walk using b_f_is_bare, hr, h1, h2, hi, hu, hb
end
set_option maxHeartbeats 200000

noncomputable abbrev tText : Txt := [116, 101, 120, 116]
inductive PTree : List V → V → Prop
  | zero : PTree [] (.tup [.str tText, .str []])
  | one {v : V} : PTree [.tup [.str tText, v]] (.tup [.str tText, v])
  | some {k : Txt} {r : List V} : k ≠ tText → PTree [.tup (.str k :: r)] (.tup [.str [112, 97, 114, 116, 115], .tup [.tup (.str k :: r)]])
  | many {a b : V} {vs : List V} : vs.length ≤ 1000 → PTree (a :: b :: vs) (.tup [.str [112, 97, 114, 116, 115], .tup (a :: b :: vs)])
set_option tactic.hygienic true in
theorem parts_tree_ok (n : Nat) {vs : List V} {v : V} (h : PTree vs v) (σ : St) : fn (n + 1) .f_parts_tree [.tup vs] σ = some (v, σ) := by
  rw [fn_succ]
  cases h with
  | zero => wp_walk using b_f_parts_tree
  | one => wp_walk using b_f_parts_tree
  | some hk => wp_walk using b_f_parts_tree, hk
  | many hl =>
    rename_i a b vs
    have h2 : ¬ (vs.length : Int) + 1 + 1 = 0 := by omega
    have h3 : ¬ (vs.length : Int) + 1 + 1 = 1 := by omega
    wp_walk using b_f_parts_tree, (by omega : vs.length + 1 + 1 ≤ 16777216), h2, h3

noncomputable def mkBin (o : Txt) (a b : V) : V := if o = [38, 38] then .tup [.str [97, 110, 100], a, b] else if o = [124, 124] then .tup [.str [111, 114], a, b] else .tup [.str [98, 105, 110], .str o, a, b]
noncomputable def preOps : List Txt := [[45], [43], [126], [33]]
noncomputable def wrapOps (ops : List V) (t : V) : V := ops.foldr (fun o t => .tup [.str [117, 110], o, t]) t
noncomputable abbrev tCall : Txt := [99, 97, 108, 108]
noncomputable abbrev tIf : Txt := [105, 102]
noncomputable def nextL (o : Txt) : Int := if o = [42, 42] then lvl o else lvl o + 1

inductive J where
  | climb (l : Int)
  | loop (l : Int) (t : V)
  | pre
  | opnd
  | args

inductive PR : Nat → J → List Tk → V → List Tk → Prop
  | climb {d : Nat} {l : Int} {ts ts1 rest : List Tk} {t v : V} : PR d .pre ts t ts1 → PR d (.loop l t) ts1 v rest → PR (d + 1) (.climb l) ts v rest
  | stop {d : Nat} {l : Int} {t : V} {ts : List Tk} : level ts < l → ts ≠ [] → PR d (.loop l t) ts t ts
  | bin {d : Nat} {l : Int} {t r v : V} {o : Txt} {k : Tk} {ts1 ts2 rest : List Tk} : k.sort = sOp → k.v = .str o → o ≠ [63] → l ≤ lvl o → PR d (.climb (nextL o)) ts1 r ts2 → PR d (.loop l (mkBin o t r)) ts2 v rest → PR d (.loop l t) (k :: ts1) v rest
  | ite {d : Nat} {l : Int} {t a b v : V} {k c : Tk} {ts1 ts3 ts4 rest : List Tk} : k.sort = sOp → k.v = .str [63] → l ≤ 1 → PR d (.climb 1) ts1 a (c :: ts3) → c.sort = sOp → c.v = .str [58] → PR d (.climb 1) ts3 b ts4 → PR d (.loop l (.tup [.str tIf, t, a, b])) ts4 v rest → PR d (.loop l t) (k :: ts1) v rest
  | pre {d : Nat} {ops ts rest : List Tk} {t : V} : (∀ k ∈ ops, k.sort = sOp ∧ ∃ o ∈ preOps, k.v = .str o) → ops.length ≤ 1000 → PR d .opnd ts t rest → PR d .pre (ops ++ ts) (wrapOps (ops.map (·.v)) t) rest
  | num {d : Nat} {k : Tk} {ts : List Tk} : k.sort = sNum → PR d .opnd (k :: ts) (.tup [.str [110, 117, 109], k.v]) ts
  | text {d : Nat} {k : Tk} {ts : List Tk} : k.sort = sText → PR d .opnd (k :: ts) (.tup [.str tText, k.v]) ts
  | parts {d : Nat} {k : Tk} {vs : List V} {v : V} {ts : List Tk} : k.sort = sParts → k.v = .tup vs → PTree vs v → PR d .opnd (k :: ts) v ts
  | word {d : Nat} {k u : Tk} {w : Txt} {ts : List Tk} : k.sort = sWord → k.v = .str w → boolW w = true → u.sort ≠ sLp → PR d .opnd (k :: u :: ts) (.tup [.str tText, .str w]) (u :: ts)
  | paren {d : Nat} {k e : Tk} {ts rest : List Tk} {t : V} : k.sort = sLp → PR d (.climb 1) ts t (e :: rest) → e.sort = sRp → PR d .opnd (k :: ts) t rest
  | call0 {d : Nat} {k u e : Tk} {w : Txt} {rest : List Tk} : k.sort = sWord → k.v = .str w → u.sort = sLp → e.sort = sRp → PR d .opnd (k :: u :: e :: rest) (.tup [.str tCall, .str w, .tup []]) rest
  | call {d : Nat} {k u e : Tk} {w : Txt} {ts rest : List Tk} {vs : List V} : k.sort = sWord → k.v = .str w → u.sort = sLp → hdSort ts ≠ sRp → PR d .args ts (.tup vs) (e :: rest) → vs.length ≤ 1000 → e.sort = sRp → PR d .opnd (k :: u :: ts) (.tup [.str tCall, .str w, .tup vs]) rest
  | args1 {d : Nat} {e : Tk} {ts rest : List Tk} {t : V} : PR d (.climb 1) ts t (e :: rest) → e.sort = sRp → PR d .args ts (.tup [t]) (e :: rest)
  | argsn {d : Nat} {c : Tk} {ts ts1 rest : List Tk} {t : V} {vs : List V} : PR d (.climb 1) ts t (c :: ts1) → c.sort = sCm → PR d .args ts1 (.tup vs) rest → PR d .args ts (.tup (t :: vs)) rest

theorem PR.mono {d : Nat} {j : J} {ts rest : List Tk} {v : V} (h : PR d j ts v rest) : ∀ {e : Nat}, d ≤ e → PR e j ts v rest := by
  induction h with
  | climb _ _ i1 i2 =>
    intro e he
    obtain ⟨e, rfl⟩ : ∃ e', e = e' + 1 := ⟨e - 1, by omega⟩
    exact .climb (i1 (by omega)) (i2 (by omega))
  | stop h1 h2 => intro e _; exact .stop h1 h2
  | bin h1 h2 h3 h4 _ _ i1 i2 => intro e he; exact .bin h1 h2 h3 h4 (i1 he) (i2 he)
  | ite h1 h2 h3 _ h4 h5 _ _ i1 i2 i3 => intro e he; exact .ite h1 h2 h3 (i1 he) h4 h5 (i2 he) (i3 he)
  | pre h1 h2 _ i => intro e he; exact .pre h1 h2 (i he)
  | num h => intro e _; exact .num h
  | text h => intro e _; exact .text h
  | parts h1 h2 h3 => intro e _; exact .parts h1 h2 h3
  | word h1 h2 h3 h4 => intro e _; exact .word h1 h2 h3 h4
  | paren h1 _ h2 i => intro e he; exact .paren h1 (i he) h2
  | call0 h1 h2 h3 h4 => intro e _; exact .call0 h1 h2 h3 h4
  | call h1 h2 h3 h4 _ h5 h6 i => intro e he; exact .call h1 h2 h3 h4 (i he) h5 h6
  | args1 _ h i => intro e he; exact .args1 (i he) h
  | argsn _ h _ i1 i2 => intro e he; exact .argsn (i1 he) h (i2 he)

noncomputable def J.head (ts : List Tk) : J → Prop
  | .opnd => ∃ k us, ts = k :: us ∧ k.sort ≠ sOp
  | _ => ts ≠ []
theorem PR.head {d : Nat} {j : J} {ts rest : List Tk} {v : V} (h : PR d j ts v rest) : j.head ts := by
  induction h with
  | climb _ _ i1 i2 => exact i1
  | stop h1 h2 => exact h2
  | bin => exact List.cons_ne_nil _ _
  | ite => exact List.cons_ne_nil _ _
  | pre _ _ _ i => obtain ⟨k, us, rfl, _⟩ := i; exact List.append_ne_nil_of_right_ne_nil _ (List.cons_ne_nil _ _)
  | num h => exact ⟨_, _, rfl, h ▸ by decide⟩
  | text h => exact ⟨_, _, rfl, h ▸ by decide⟩
  | parts h => exact ⟨_, _, rfl, h ▸ by decide⟩
  | word h => exact ⟨_, _, rfl, h ▸ by decide⟩
  | paren h => exact ⟨_, _, rfl, h ▸ by decide⟩
  | call0 h => exact ⟨_, _, rfl, h ▸ by decide⟩
  | call h => exact ⟨_, _, rfl, h ▸ by decide⟩
  | args1 _ _ i => exact i
  | argsn _ _ _ i _ => exact i

theorem level_op {k : Tk} {ts : List Tk} {o : Txt} (h1 : k.sort = sOp) (h2 : k.v = .str o) : level (k :: ts) = lvl o := by
  show (if k.sort = sOp then (match k.v with | .str o => lvl o | _ => 0) else 0) = _
  rw [if_pos h1, h2]

noncomputable abbrev climbT : DT := tCmp .GtE (dVar 3) (dVar 1)
noncomputable abbrev climbB (fns : Fn → DF) : DS := sSeq (sSet 4 (dMeth kInst (fns .m_take) (dVar 0) [])) (sSeq (sIf (tCmp .Eq (dVar 4) (dLit (.str [63]))) (sSet 2 (dCall (fns .f_choice) [dVar 0, dVar 2])) (sSet 2 (dCall (fns .f_joined) [dVar 0, dVar 4, dVar 3, dVar 2]))) (sSet 3 (dMeth kInst (fns .m_level) (dVar 0) [])))
noncomputable abbrev argA (fns : Fn → DF) : DS := sExpr (dMeth kList bAppend (dVar 2) [dCall (fns .f_climb) [dVar 0, dLit (.int 1)]])
noncomputable abbrev argW (fns : Fn → DF) : DS := sWhile (tCmp .Eq (dMeth kInst (fns .m_sort) (dVar 0) []) (dLit (.str [44]))) (sSeq (sExpr (dMeth kInst (fns .m_take) (dVar 0) [])) (argA fns))

noncomputable def GrowC (a b : Nat) (σ σ' : St) : Prop := σ.length ≤ σ'.length ∧ ∀ i, i < σ.length → i ≠ a → i ≠ b → σ'[i]? = σ[i]?
theorem GrowC.trans {x y : Nat} {a b c : St} (h : GrowC x y a b) (h' : GrowC x y b c) : GrowC x y a c := ⟨Nat.le_trans h.1 h'.1, fun i hi h1 h2 => (h'.2 i (Nat.lt_of_lt_of_le hi h.1) h1 h2).trans (h.2 i hi h1 h2)⟩
theorem GrowB.c1 {x y : Nat} {a b : St} (h : GrowB x a b) : GrowC x y a b := ⟨h.1, fun i hi h1 _ => h.2 i hi h1⟩
theorem GrowB.c2 {x y : Nat} {a b : St} (h : GrowB y a b) : GrowC x y a b := ⟨h.1, fun i hi _ h2 => h.2 i hi h2⟩

inductive HoldAt (P : Pl) (g : Fn) (n : Nat) (xs : List V) (σ : St) (v : V) (rest : List Tk) : Prop
  | mk (σ' : St) (a' : Nat) : fn n g xs σ = some (v, σ') → Rd P σ' a' → P.toks.drop a' = rest → GrowB P.R σ σ' → HoldAt P g n xs σ v rest
inductive HoldLoop (P : Pl) (n : Nat) (l : Int) (t : V) (k : Int) (o : Option V) (σ : St) (v : V) (rest : List Tk) : Prop
  | mk (σ' : St) (a' : Nat) (x o' : Option V) : sWhile climbT (climbB (fn n)) [some (.ref P.R), some (.int l), some t, some (.int k), o] σ = some (.next, [some (.ref P.R), some (.int l), some v, x, o'], σ') → Rd P σ' a' → P.toks.drop a' = rest → GrowB P.R σ σ' → HoldLoop P n l t k o σ v rest
inductive HoldArgs (P : Pl) (n l : Nat) (o : Option V) (ps vs : List V) (σ : St) (rest : List Tk) : Prop
  | mk (σ₁ σ' : St) (a' : Nat) : argA (fn n) [some (.ref P.R), o, some (.ref l)] σ = some (.next, [some (.ref P.R), o, some (.ref l)], σ₁) → argW (fn n) [some (.ref P.R), o, some (.ref l)] σ₁ = some (.next, [some (.ref P.R), o, some (.ref l)], σ') → Rd P σ' a' → P.toks.drop a' = rest → σ'[l]? = some (.list (ps ++ vs)) → GrowC P.R l σ σ' → hdSort rest = sRp → HoldArgs P n l o ps vs σ rest
noncomputable def Holds (P : Pl) : Nat → J → List Tk → V → List Tk → Prop
  | d, .climb l, ts, v, rest => ∀ n σ a, 4 * d + 8 ≤ n → Rd P σ a → P.toks.drop a = ts → HoldAt P .f_climb n [.ref P.R, .int l] σ v rest
  | d, .loop l t, ts, v, rest => ∀ n σ a o, 4 * d + 11 ≤ n → Rd P σ a → P.toks.drop a = ts → HoldLoop P n l t (level ts) o σ v rest
  | d, .pre, ts, v, rest => ∀ n σ a, 4 * d + 11 ≤ n → Rd P σ a → P.toks.drop a = ts → HoldAt P .f_prefixed n [.ref P.R] σ v rest
  | d, .opnd, ts, v, rest => ∀ n σ a, 4 * d + 10 ≤ n → Rd P σ a → P.toks.drop a = ts → HoldAt P .f_operand n [.ref P.R] σ v rest
  | d, .args, ts, v, rest => ∃ vs, v = .tup vs ∧ ∀ n σ a l ps o, 4 * d + 8 ≤ n → Rd P σ a → P.toks.drop a = ts → σ[l]? = some (.list ps) → l ≠ P.R → l ≠ P.tk → l ≠ P.lv → ps.length + vs.length ≤ 1000000 → HoldArgs P n l o ps vs σ rest
theorem addOf {c n : Nat} (h : c ≤ n) : ∃ m, n = m + c := ⟨n - c, (Nat.sub_add_cancel h).symm⟩
theorem cons_of {ts : List Tk} (h : ts ≠ []) : ∃ u us, ts = u :: us := by
  cases ts with
  | nil => exact absurd rfl h
  | cons u us => exact ⟨u, us, rfl⟩

section
variable {P : Pl} (ok : P.Ok)
include ok

theorem rd_ne {σ : St} {a l : Nat} {ps : List V} (hR : Rd P σ a) (h : σ.length ≤ l) : l ≠ P.R ∧ l ≠ P.tk ∧ l ≠ P.lv := by
  have h1 := (List.getElem?_eq_some_iff.mp hR.r).1
  have h2 := (List.getElem?_eq_some_iff.mp hR.t).1
  have h3 := (List.getElem?_eq_some_iff.mp hR.l).1
  omega

theorem hold_climb {d : Nat} {l : Int} {ts ts1 rest : List Tk} {t v : V} (h1 : Holds P d .pre ts t ts1) (h2 : Holds P d (.loop l t) ts1 v rest) (hne : ts1 ≠ []) : Holds P (d + 1) (.climb l) ts v rest := by
  intro n σ a hn hR hd
  obtain ⟨m, rfl⟩ := addOf (c := 3) (n := n) (by omega)
  obtain ⟨σ₁, a₁, e1, r1, d1, g1⟩ := h1 (m + 2) σ a (by omega) hR hd
  obtain ⟨u, us, rfl⟩ := cons_of hne
  have hl := level_ok ok m r1 d1
  obtain ⟨σ₂, a₂, x, o', e2, r2, d2, g2⟩ := h2 (m + 2) σ₁ a₁ none (by omega) r1 d1
  refine ⟨σ₂, a₂, ?_, r2, d2, g1.trans g2⟩
  have hr := r1.r
  rw [fn_succ]
  wp_walk using b_f_climb, e1, hr, hl, e2
theorem hold_stop {d : Nat} {l : Int} {t : V} {ts : List Tk} (h : level ts < l) : Holds P d (.loop l t) ts t ts := by
  intro n σ a o _ hR hd
  have : ¬ l ≤ level ts := by omega
  exact ⟨σ, a, some (.int (level ts)), o, while_done (by wp_walk using this), hR, hd, GrowB.refl _ _⟩
theorem hold_bin {d : Nat} {l : Int} {t r v : V} {o : Txt} {k : Tk} {ts1 ts2 rest : List Tk} (h1 : k.sort = sOp) (h2 : k.v = .str o) (h3 : o ≠ [63]) (h4 : l ≤ lvl o) (i1 : Holds P d (.climb (nextL o)) ts1 r ts2) (hne : ts2 ≠ []) (i2 : Holds P d (.loop l (mkBin o t r)) ts2 v rest) :
    Holds P d (.loop l t) (k :: ts1) v rest := by
  intro n σ a o4 hn hR hd
  obtain ⟨m, rfl⟩ := addOf (c := 3) (n := n) (by omega)
  obtain ⟨t1, t2, t3, t4⟩ := take_ok ok (m + 2) hR hd
  obtain ⟨σ₁, a₁, e1, r1, d1, g1⟩ := i1 (m + 2) _ _ (by omega) t2 t3
  obtain ⟨u, us, rfl⟩ := cons_of hne
  have hl := level_ok ok (m + 1) r1 d1
  obtain ⟨σ₂, a₂, x, o', e2, r2, d2, g2⟩ := i2 (m + 3) σ₁ a₁ (some (.str o)) (by omega) r1 d1
  have hlev : level (k :: ts1) = lvl o := level_op h1 h2
  rw [h2] at t1
  have hj : fn (m + 3) .f_joined [.ref P.R, .str o, .int (lvl o), t] (setAt P σ (a + 1)) = some (mkBin o t r, σ₁) := by
    rw [fn_succ]
    unfold nextL at e1
    unfold mkBin
    by_cases ho : o = [42, 42]
    · subst ho
      rw [if_pos rfl] at e1
      wp_walk using b_f_joined, e1
    · rw [if_neg ho] at e1
      by_cases ha : o = [38, 38]
      · subst ha
        wp_walk using b_f_joined, e1
      · by_cases hb : o = [124, 124]
        · subst hb
          wp_walk using b_f_joined, e1
        · wp_walk using b_f_joined, e1, ho, ha, hb
  refine ⟨σ₂, a₂, x, o', (while_step (σ₁ := σ) (σ₂ := σ₁) ?_ ?_).trans e2, r2, d2, (t4.trans g1).trans g2⟩
  · rw [hlev]; wp_walk using h4
  · have hr := hR.r
    have hr1 := r1.r
    rw [hlev]
    generalize level (u :: us) = lv' at hl ⊢
    wp_walk using hr, t1, h3, hj, hr1, hl
theorem hold_ite {d : Nat} {l : Int} {t x y v : V} {k c : Tk} {ts1 ts3 ts4 rest : List Tk} (h1 : k.sort = sOp) (h2 : k.v = .str [63]) (h3 : l ≤ 1) (i1 : Holds P d (.climb 1) ts1 x (c :: ts3)) (h4 : c.sort = sOp) (h5 : c.v = .str [58]) (i2 : Holds P d (.climb 1) ts3 y ts4) (hne : ts4 ≠ [])
    (i3 : Holds P d (.loop l (.tup [.str tIf, t, x, y])) ts4 v rest) : Holds P d (.loop l t) (k :: ts1) v rest := by
  intro n σ a o4 hn hR hd
  obtain ⟨m, rfl⟩ := addOf (c := 3) (n := n) (by omega)
  obtain ⟨t1, t2, t3, t4⟩ := take_ok ok (m + 2) hR hd
  obtain ⟨σ₁, a₁, e1, r1, d1, g1⟩ := i1 (m + 2) _ _ (by omega) t2 t3
  have s1 := sort_ok ok (m + 1) r1 d1
  have c1 := is_colon_ok ok m r1 d1 h4 h5
  obtain ⟨k1, k2, k3, k4⟩ := take_ok ok (m + 1) r1 d1
  obtain ⟨σ₂, a₂, e2, r2, d2, g2⟩ := i2 (m + 2) _ _ (by omega) k2 k3
  obtain ⟨u, us, rfl⟩ := cons_of hne
  have hl := level_ok ok (m + 1) r2 d2
  obtain ⟨σ₃, a₃, x', o', e3, r3, d3, g3⟩ := i3 (m + 3) σ₂ a₂ (some (.str [63])) (by omega) r2 d2
  have hlev : level (k :: ts1) = 1 := level_op h1 h2
  rw [h2] at t1
  rw [h4] at s1
  have hr1 := r1.r
  have hj : fn (m + 3) .f_choice [.ref P.R, t] (setAt P σ (a + 1)) = some (.tup [.str tIf, t, x, y], σ₂) := by
    rw [fn_succ]
    wp_walk using b_f_choice, e1, hr1, s1, c1, k1, e2
  refine ⟨σ₃, a₃, x', o', (while_step (σ₁ := σ) (σ₂ := σ₂) ?_ ?_).trans e3, r3, d3, (((t4.trans g1).trans k4).trans g2).trans g3⟩
  · rw [hlev]; wp_walk using h3
  · have hr := hR.r
    have hr2 := r2.r
    rw [hlev]
    generalize level (u :: us) = lv' at hl ⊢
    wp_walk using hr, t1, hj, hr2, hl

noncomputable abbrev preT (fns : Fn → DF) : DT := tAnds [tCmp .Eq (dMeth kInst (fns .m_sort) (dVar 0) []) (dLit (.str [111, 112])), tCmp .In (dMeth kInst (fns .m_value) (dVar 0) []) (dTup [dLit (.str [45]), dLit (.str [43]), dLit (.str [126]), dLit (.str [33])])]
noncomputable abbrev preB (fns : Fn → DF) : DS := sExpr (dMeth kList bAppend (dVar 1) [dMeth kInst (fns .m_take) (dVar 0) []])
theorem pre_loop (m : Nat) (l : Nat) (o2 : Option V) (k : Tk) (ts : List Tk) (hstop : k.sort ≠ sOp) : ∀ (ops : List Tk) (σ : St) (a : Nat) (ps : List V), Rd P σ a → P.toks.drop a = ops ++ k :: ts → (∀ k ∈ ops, k.sort = sOp ∧ ∃ o ∈ preOps, k.v = .str o) → σ[l]? = some (.list ps) → l ≠ P.R → l ≠ P.tk → l ≠ P.lv → ps.length + ops.length ≤ 1000 →
    ∃ σ' a', sWhile (preT (fn (m + 1))) (preB (fn (m + 1))) [some (.ref P.R), some (.ref l), o2] σ = some (.next, [some (.ref P.R), some (.ref l), o2], σ') ∧ Rd P σ' a' ∧ P.toks.drop a' = k :: ts ∧ σ'[l]? = some (.list (ps ++ ops.map (·.v))) ∧ GrowC P.R l σ σ' := by
  intro ops
  induction ops with
  | nil =>
    intro σ a ps hR hd _ hl _ _ _ _
    have hs := sort_ok ok m hR hd
    have hr := hR.r
    refine ⟨σ, a, while_done ?_, hR, hd, by simpa using hl, ⟨Nat.le_refl _, fun _ _ _ _ => rfl⟩⟩
    wp_walk using hr, hs, hstop
  | cons q ops ih =>
    intro σ a ps hR hd ho hl n1 n2 n3 hlen
    obtain ⟨q1, o, q2, q3⟩ := ho q (by simp)
    have hs := sort_ok ok m hR hd
    have hv := value_ok ok m hR hd
    obtain ⟨t1, t2, t3, t4⟩ := take_ok ok m hR hd
    have hr := hR.r
    rw [q1] at hs
    rw [q3] at hv t1
    have hl1 : (setAt P σ (a + 1))[l]? = some (.list ps) := (t4.2 _ (List.getElem?_eq_some_iff.mp hl).1 n1).trans hl
    have hlt := (List.getElem?_eq_some_iff.mp hl1).1
    have hset := List.getElem?_set_self (a := O.list (ps ++ [.str o])) hlt
    have hlt2 : ps.length < 16777216 := by simp at hlen; omega
    obtain ⟨σ', a', e, r', d', l', g'⟩ := ih ((setAt P σ (a + 1)).set l (.list (ps ++ [.str o]))) (a + 1) (ps ++ [.str o]) (t2.growB (GrowB.set _ _ _) n1 n2 n3) t3 (fun k hk => ho k (by simp [hk])) hset n1 n2 n3 (by simp at hlen ⊢; omega)
    refine ⟨σ', a', (while_step (σ₁ := σ) (σ₂ := (setAt P σ (a + 1)).set l (.list (ps ++ [.str o]))) ?_ ?_).trans e, r', d', by rw [l', List.map_cons, q3]; simp, (t4.c1.trans (GrowB.set _ _ _).c2).trans g'⟩
    · have : o = [45] ∨ o = [43] ∨ o = [126] ∨ o = [33] := by simpa [preOps] using q2
      wp_walk using hr, hs, hv, this
    · generalize setAt P σ (a + 1) = σ₁ at *
      wp_walk using hl, hr, t1, bAppend, hl1, hlt2
theorem wrap_loop (l : Nat) (o0 : Option V) : ∀ (n : Nat) (ops : List V), ops.length = n → ∀ (t : V) (σ : St), σ[l]? = some (.list ops) → ops.length ≤ 1000 → ∃ σ', sWhile (tVal (dVar 1)) (sSet 2 (dTup [dLit (.str [117, 110]), dMeth kList bPop (dVar 1) [], dVar 2])) [o0, some (.ref l), some t] σ = some (.next, [o0, some (.ref l), some (wrapOps ops t)], σ') ∧ GrowB l σ σ' := by
  intro n
  induction n with
  | zero =>
    intro ops hn t σ h _
    obtain rfl := List.length_eq_zero_iff.mp hn
    exact ⟨σ, while_done (by wp_walk using h), GrowB.refl _ _⟩
  | succ n ih =>
    intro ops hn t σ h hl
    rcases List.eq_nil_or_concat ops with rfl | ⟨us, o, rfl⟩
    · simp at hn
    · have hlt := (List.getElem?_eq_some_iff.mp h).1
      have hset := List.getElem?_set_self (a := O.list us) hlt
      have hl1 : us.length + 1 ≤ 16777216 := by simp at hl; omega
      obtain ⟨σ', e, g⟩ := ih us (by simpa using hn) (.tup [.str [117, 110], o, t]) (σ.set l (.list us)) hset (by simp at hl; omega)
      refine ⟨σ', (while_step (σ₁ := σ) (σ₂ := σ.set l (.list us)) (by wp_walk using h, hl1) (by wp_walk using h, bPop, hl1)).trans (e.trans ?_), (GrowB.set _ _ _).trans g⟩
      unfold wrapOps
      rw [List.concat_eq_append, List.foldr_append]
      rfl
theorem hold_pre {d : Nat} {ops ts rest : List Tk} {t : V} (ho : ∀ k ∈ ops, k.sort = sOp ∧ ∃ o ∈ preOps, k.v = .str o) (hn : ops.length ≤ 1000) (hne : ∃ k us, ts = k :: us ∧ k.sort ≠ sOp) (i : Holds P d .opnd ts t rest) : Holds P d .pre (ops ++ ts) (wrapOps (ops.map (·.v)) t) rest := by
  intro n σ a hn' hR hd
  obtain ⟨m, rfl⟩ := addOf (c := 2) (n := n) (by omega)
  obtain ⟨k, us, rfl, hk⟩ := hne
  have hR0 : Rd P (σ ++ [.list []]) a := hR.grow (Grow.app _ _)
  obtain ⟨n1, n2, n3⟩ := rd_ne (ps := []) ok hR (Nat.le_refl σ.length)
  obtain ⟨σ₁, a₁, e1, r1, d1, l1, g1⟩ := pre_loop ok m σ.length none k us hk ops (σ ++ [.list []]) a [] hR0 hd ho (by simp) n1 n2 n3 (by simpa using hn)
  obtain ⟨σ₂, a₂, e2, r2, d2, g2⟩ := i (m + 1) σ₁ a₁ (by omega) r1 d1
  have l2 : σ₂[σ.length]? = some (.list (ops.map (·.v))) := by
    rw [g2.2 _ (List.getElem?_eq_some_iff.mp l1).1 n1, l1]; rfl
  obtain ⟨σ₃, e3, g3⟩ := wrap_loop ok σ.length (some (.ref P.R)) _ (ops.map (·.v)) rfl t σ₂ l2 (by simpa using hn)
  refine ⟨σ₃, a₂, ?_, r2.growB g3 n1 n2 n3, d2, ?_⟩
  · rw [fn_succ]
    unfold preT preB at e1
    wp_walk using b_f_prefixed, dList, e1, e2, e3
  · have g := (g1.trans g2.c1).trans g3.c2
    refine ⟨by have := g.1; simp at this; omega, fun i hi hr => ?_⟩
    exact (g.2 i (by simp; omega) hr (by omega)).trans (List.getElem?_append_left hi)

theorem hold_num {d : Nat} {k : Tk} {ts : List Tk} (h : k.sort = sNum) : Holds P d .opnd (k :: ts) (.tup [.str [110, 117, 109], k.v]) ts := by
  intro n σ a hn hR hd
  obtain ⟨m, rfl⟩ := addOf (c := 6) (n := n) (by omega)
  have hs := sort_ok ok (m + 4) hR hd
  have hb := is_bare_other ok m hR hd (by rw [h]; decide)
  obtain ⟨t1, t2, t3, t4⟩ := take_ok ok (m + 4) hR hd
  have hr := hR.r
  refine ⟨_, a + 1, ?_, t2, t3, t4⟩
  rw [h] at hs
  rw [fn_succ]
  wp_walk using b_f_operand, hr, hs, hb, t1
theorem hold_text {d : Nat} {k : Tk} {ts : List Tk} (h : k.sort = sText) : Holds P d .opnd (k :: ts) (.tup [.str tText, k.v]) ts := by
  intro n σ a hn hR hd
  obtain ⟨m, rfl⟩ := addOf (c := 6) (n := n) (by omega)
  have hs := sort_ok ok (m + 4) hR hd
  have hb := is_bare_other ok m hR hd (by rw [h]; decide)
  obtain ⟨t1, t2, t3, t4⟩ := take_ok ok (m + 4) hR hd
  have hr := hR.r
  refine ⟨_, a + 1, ?_, t2, t3, t4⟩
  rw [h] at hs
  rw [fn_succ]
  wp_walk using b_f_operand, hr, hs, hb, t1
theorem hold_parts {d : Nat} {k : Tk} {vs : List V} {v : V} {ts : List Tk} (h : k.sort = sParts) (h2 : k.v = .tup vs) (h3 : PTree vs v) : Holds P d .opnd (k :: ts) v ts := by
  intro n σ a hn hR hd
  obtain ⟨m, rfl⟩ := addOf (c := 6) (n := n) (by omega)
  have hs := sort_ok ok (m + 4) hR hd
  have hb := is_bare_other ok m hR hd (by rw [h]; decide)
  obtain ⟨t1, t2, t3, t4⟩ := take_ok ok (m + 4) hR hd
  have hp := parts_tree_ok (m + 4) h3 (setAt P σ (a + 1))
  have hr := hR.r
  refine ⟨_, a + 1, ?_, t2, t3, t4⟩
  rw [h] at hs
  rw [h2] at t1
  rw [fn_succ]
  wp_walk using b_f_operand, hr, hs, hb, t1, hp
theorem hold_word {d : Nat} {k u : Tk} {w : Txt} {ts : List Tk} (h : k.sort = sWord) (h2 : k.v = .str w) (h3 : boolW w = true) (h4 : u.sort ≠ sLp) : Holds P d .opnd (k :: u :: ts) (.tup [.str tText, .str w]) (u :: ts) := by
  intro n σ a hn hR hd
  obtain ⟨m, rfl⟩ := addOf (c := 6) (n := n) (by omega)
  have hs := sort_ok ok (m + 4) hR hd
  have hb := is_bare_bool ok m hR hd h4 h h2 h3
  obtain ⟨t1, t2, t3, t4⟩ := take_ok ok (m + 4) hR hd
  have hs2 := sort_ok ok (m + 4) t2 t3
  have hr := hR.r
  have hr2 := t2.r
  refine ⟨_, a + 1, ?_, t2, t3, t4⟩
  rw [h] at hs
  rw [h2] at t1
  rw [fn_succ]
  wp_walk using b_f_operand, hr, hs, hb, t1, hr2, hs2, h4
theorem hold_paren {d : Nat} {k e : Tk} {ts rest : List Tk} {t : V} (h : k.sort = sLp) (i : Holds P d (.climb 1) ts t (e :: rest)) (h2 : e.sort = sRp) : Holds P d .opnd (k :: ts) t rest := by
  intro n σ a hn hR hd
  obtain ⟨m, rfl⟩ := addOf (c := 6) (n := n) (by omega)
  have hs := sort_ok ok (m + 4) hR hd
  have hb := is_bare_other ok m hR hd (by rw [h]; decide)
  obtain ⟨t1, t2, t3, t4⟩ := take_ok ok (m + 4) hR hd
  obtain ⟨σ₁, a₁, e1, r1, d1, g1⟩ := i (m + 5) _ _ (by omega) t2 t3
  have hc := close_ok ok (m + 3) r1 d1 h2 (.tup [.str [41]])
  have k2 := (take_ok ok 0 r1 d1).2
  have hr := hR.r
  refine ⟨_, a₁ + 1, ?_, k2.1, k2.2.1, (t4.trans g1).trans k2.2.2⟩
  rw [h] at hs
  rw [fn_succ]
  wp_walk using b_f_operand, hr, hs, hb, t1, e1, hc
theorem call_tree_0 (n : Nat) {σ : St} {a : Nat} {u e : Tk} {rest : List Tk} {w : V} (hR : Rd P σ a) (hd : P.toks.drop a = u :: e :: rest) (he : e.sort = sRp) : ∃ σ', fn (n + 3) .f_call_tree [.ref P.R, w] σ = some (.tup [.str tCall, w, .tup []], σ') ∧ Rd P σ' (a + 2) ∧ P.toks.drop (a + 2) = rest ∧ GrowB P.R σ σ' := by
  obtain ⟨t1, t2, t3, t4⟩ := take_ok ok (n + 1) hR hd
  have t2' : Rd P (setAt P σ (a + 1) ++ [.list []]) (a + 1) := t2.grow (Grow.app _ _)
  have hs := sort_ok ok (n + 1) t2' t3
  have hc := close_ok ok n t2' t3 he (.tup [.str [41], .str [44]])
  have k2 := (take_ok ok 0 t2' t3).2
  rw [he] at hs
  have hr := hR.r
  have hr2 := t2'.r
  obtain ⟨n1, n2, n3⟩ := rd_ne (ps := []) ok t2 (Nat.le_refl (setAt P σ (a + 1)).length)
  have hl : (setAt P (setAt P σ (a + 1) ++ [.list []]) (a + 1 + 1))[(setAt P σ (a + 1)).length]? = some (.list []) := by
    rw [k2.2.2.2 _ (by simp) n1]; simp
  refine ⟨_, ?_, k2.1, k2.2.1, ?_⟩
  · rw [fn_succ]
    generalize setAt P (setAt P σ (a + 1) ++ [.list []]) (a + 1 + 1) = σ₂ at *
    generalize setAt P σ (a + 1) = σ₁ at *
    wp_walk using b_f_call_tree, hr, t1, dList, hr2, hs, hc, bTuple, hl
  · refine t4.trans ⟨?_, fun i hi hr => ?_⟩
    · have := k2.2.2.1; simp at this; omega
    · exact (k2.2.2.2 i (by simp; omega) hr).trans (List.getElem?_append_left hi)
theorem hold_call0 {d : Nat} {k u e : Tk} {w : Txt} {rest : List Tk} (h : k.sort = sWord) (h2 : k.v = .str w) (h3 : u.sort = sLp) (h4 : e.sort = sRp) : Holds P d .opnd (k :: u :: e :: rest) (.tup [.str tCall, .str w, .tup []]) rest := by
  intro n σ a hn hR hd
  obtain ⟨m, rfl⟩ := addOf (c := 6) (n := n) (by omega)
  have hs := sort_ok ok (m + 4) hR hd
  have hb := is_bare_call ok m hR hd h3
  obtain ⟨t1, t2, t3, t4⟩ := take_ok ok (m + 4) hR hd
  have hs2 := sort_ok ok (m + 4) t2 t3
  obtain ⟨σ₁, e1, r1, d1, g1⟩ := call_tree_0 ok (m + 2) (w := .str w) t2 t3 h4
  have hr := hR.r
  have hr2 := t2.r
  refine ⟨_, a + 1 + 2, ?_, r1, d1, t4.trans g1⟩
  rw [h] at hs
  rw [h2] at t1
  rw [h3] at hs2
  rw [fn_succ]
  wp_walk using b_f_operand, hr, hs, hb, t1, hr2, hs2, e1
theorem hold_args1 {d : Nat} {e : Tk} {ts rest : List Tk} {t : V} (i : Holds P d (.climb 1) ts t (e :: rest)) (h : e.sort = sRp) : Holds P d .args ts (.tup [t]) (e :: rest) := by
  refine ⟨[t], rfl, fun n σ a l ps o hn hR hd hl n1 n2 n3 hlen => ?_⟩
  obtain ⟨m, rfl⟩ := addOf (c := 1) (n := n) (by omega)
  obtain ⟨σ₁, a₁, e1, r1, d1, g1⟩ := i (m + 1) _ _ (by omega) hR hd
  have hl1 : σ₁[l]? = some (.list ps) := (g1.2 _ (List.getElem?_eq_some_iff.mp hl).1 n1).trans hl
  have hlt := (List.getElem?_eq_some_iff.mp hl1).1
  have hset := List.getElem?_set_self (a := O.list (ps ++ [t])) hlt
  have hR' : Rd P (σ₁.set l (.list (ps ++ [t]))) a₁ := r1.growB (GrowB.set _ _ _) n1 n2 n3
  have hs := sort_ok ok m hR' d1
  rw [h] at hs
  have hr := hR'.r
  have hlt2 : ps.length < 16777216 := by simp at hlen; omega
  refine ⟨σ₁.set l (.list (ps ++ [t])), _, a₁, ?_, while_done ?_, hR', d1, hset, g1.c1.trans (GrowB.set _ _ _).c2, h⟩
  · wp_walk using hl, e1, bAppend, hl1, hlt2
  · wp_walk using hr, hs
theorem hold_argsn {d : Nat} {c : Tk} {ts ts1 rest : List Tk} {t : V} {vs : List V} (i : Holds P d (.climb 1) ts t (c :: ts1)) (h : c.sort = sCm) (i2 : Holds P d .args ts1 (.tup vs) rest) : Holds P d .args ts (.tup (t :: vs)) rest := by
  refine ⟨t :: vs, rfl, fun n σ a l ps o hn hR hd hl n1 n2 n3 hlen => ?_⟩
  obtain ⟨m, rfl⟩ := addOf (c := 1) (n := n) (by omega)
  obtain ⟨vs', ev, i2⟩ := i2
  cases ev
  obtain ⟨σ₁, a₁, e1, r1, d1, g1⟩ := i (m + 1) _ _ (by omega) hR hd
  have hl1 : σ₁[l]? = some (.list ps) := (g1.2 _ (List.getElem?_eq_some_iff.mp hl).1 n1).trans hl
  have hlt := (List.getElem?_eq_some_iff.mp hl1).1
  have hset := List.getElem?_set_self (a := O.list (ps ++ [t])) hlt
  have hR' : Rd P (σ₁.set l (.list (ps ++ [t]))) a₁ := r1.growB (GrowB.set _ _ _) n1 n2 n3
  have hs := sort_ok ok m hR' d1
  rw [h] at hs
  obtain ⟨k1, k2, k3, k4⟩ := take_ok ok m hR' d1
  have hl2 : (setAt P (σ₁.set l (.list (ps ++ [t]))) (a₁ + 1))[l]? = some (.list (ps ++ [t])) := (k4.2 _ (by simpa using hlt) n1).trans hset
  obtain ⟨σ₂, σ', a', f1, f2, f3, f4, f5, f6, f7⟩ := i2 (m + 1) _ (a₁ + 1) l (ps ++ [t]) o (by omega) k2 k3 hl2 n1 n2 n3 (by simp at hlen ⊢; omega)
  have hr := hR'.r
  have hlt2 : ps.length < 16777216 := by simp at hlen; omega
  refine ⟨σ₁.set l (.list (ps ++ [t])), σ', a', ?_, (while_step (σ₁ := σ₁.set l (.list (ps ++ [t]))) (σ₂ := σ₂) ?_ ?_).trans f2, f3, f4, by simpa using f5, ((g1.c1.trans (GrowB.set _ _ _).c2).trans k4.c1).trans f6, f7⟩
  · wp_walk using hl, e1, bAppend, hl1, hlt2
  · wp_walk using hr, hs
  · have st : (sExpr (dMeth kInst (fn (m + 1) .m_take) (dVar 0) [])) [some (.ref P.R), o, some (.ref l)] (σ₁.set l (.list (ps ++ [t]))) = some (.next, [some (.ref P.R), o, some (.ref l)], setAt P (σ₁.set l (.list (ps ++ [t]))) (a₁ + 1)) := by
      wp_walk using hr, k1
    rw [sSeq, st]
    exact f1
theorem hold_call {d : Nat} {k u e : Tk} {w : Txt} {ts rest : List Tk} {vs : List V} (h : k.sort = sWord) (h2 : k.v = .str w) (h3 : u.sort = sLp) (h4 : hdSort ts ≠ sRp) (hne : ts ≠ []) (i : Holds P d .args ts (.tup vs) (e :: rest)) (hvs : vs.length ≤ 1000) (h5 : e.sort = sRp) : Holds P d .opnd (k :: u :: ts) (.tup [.str tCall, .str w, .tup vs]) rest := by
  intro n σ a hn hR hd
  obtain ⟨m, rfl⟩ := addOf (c := 6) (n := n) (by omega)
  obtain ⟨vs', ev, i⟩ := i
  cases ev
  have hs := sort_ok ok (m + 4) hR hd
  have hb := is_bare_call ok m hR hd h3
  obtain ⟨t1, t2, t3, t4⟩ := take_ok ok (m + 4) hR hd
  have hs2 := sort_ok ok (m + 4) t2 t3
  have hr := hR.r
  have hr2 := t2.r
  obtain ⟨k1, k2, k3, k4⟩ := take_ok ok (m + 3) t2 t3
  have k2' : Rd P (setAt P (setAt P σ (a + 1)) (a + 1 + 1) ++ [.list []]) (a + 1 + 1) := k2.grow (Grow.app _ _)
  obtain ⟨q, qs, rfl⟩ := cons_of hne
  have hs3 := sort_ok ok (m + 3) k2' k3
  obtain ⟨n1, n2, n3⟩ := rd_ne (ps := []) ok k2 (Nat.le_refl (setAt P (setAt P σ (a + 1)) (a + 1 + 1)).length)
  obtain ⟨σ₁, σ₂, a', f1, f2, f3, f4, f5, f6, f7⟩ := i (m + 4) _ _ (setAt P (setAt P σ (a + 1)) (a + 1 + 1)).length [] (some (.str w)) (by omega) k2' k3 (by simp) n1 n2 n3 (by simp; omega)
  have hc := close_ok ok (m + 2) f3 f4 h5 (.tup [.str [41], .str [44]])
  have kk := (take_ok ok 0 f3 f4).2
  have hl : (setAt P σ₂ (a' + 1))[(setAt P (setAt P σ (a + 1)) (a + 1 + 1)).length]? = some (.list vs) := by
    rw [kk.2.2.2 _ (List.getElem?_eq_some_iff.mp f5).1 n1, f5]; simp
  have hr3 := k2'.r
  have hvl : vs.length ≤ 16777216 := by omega
  have ct : fn (m + 5) .f_call_tree [.ref P.R, .str w] (setAt P σ (a + 1)) = some (.tup [.str tCall, .str w, .tup vs], setAt P σ₂ (a' + 1)) := by
    rw [fn_succ]
    have h4' : ¬ q.sort = [41] := h4
    generalize setAt P σ₂ (a' + 1) = σ₃ at *
    generalize setAt P (setAt P σ (a + 1)) (a + 1 + 1) = σ₀ at *
    generalize setAt P σ (a + 1) = σ' at *
    unfold argW argA at f2
    unfold argA at f1
    have p1 : (sExpr (dMeth kInst (fn (m + 4) .m_take) (dVar 0) [])) [some (.ref P.R), some (.str w), none] σ' = some (.next, [some (.ref P.R), some (.str w), none], σ₀) := by wp_walk using hr2, k1
    have p3 : (tCmp .NotEq (dMeth kInst (fn (m + 4) .m_sort) (dVar 0) []) (dLit (.str [41]))) [some (.ref P.R), some (.str w), some (.ref σ₀.length)] (σ₀ ++ [.list []]) = some (true, σ₀ ++ [.list []]) := by wp_walk using hr3, hs3, h4'
    simp only [bd_f_call_tree, b_f_call_tree, dFn2, List.replicate, sSeq_e, p1, oSeq_n, sSet_e, dList, es0, Option.bind_some, oSet_s, List.set_cons_succ, List.set_cons_zero, sIf_e, p3, oIf_t, f1, f2]
    wp_walk using hc, bTuple, hl, hvl
  refine ⟨setAt P σ₂ (a' + 1), a' + 1, ?_, kk.1, kk.2.1, ?_⟩
  · rw [h] at hs
    rw [h2] at t1
    rw [h3] at hs2
    rw [fn_succ]
    wp_walk using b_f_operand, hr, hs, hb, t1, hr2, hs2, ct
  · refine (t4.trans k4).trans ⟨?_, fun i hi hr => ?_⟩
    · have := f6.1
      have := kk.2.2.1
      simp at *; omega
    · have h6 := f6.2 i (by simp; omega) hr (by omega)
      have h7 := kk.2.2.2 i (by have := f6.1; simp at this; omega) hr
      rw [h7, h6, List.getElem?_append_left hi]

theorem PR.holds {d : Nat} {j : J} {ts rest : List Tk} {v : V} (h : PR d j ts v rest) : Holds P d j ts v rest := by
  induction h with
  | climb h1 h2 i1 i2 => exact hold_climb ok i1 i2 h2.head
  | stop h1 h2 => exact hold_stop ok h1
  | bin h1 h2 h3 h4 p1 p2 i1 i2 => exact hold_bin ok h1 h2 h3 h4 i1 p2.head i2
  | ite h1 h2 h3 p1 h4 h5 p2 p3 i1 i2 i3 => exact hold_ite ok h1 h2 h3 i1 h4 h5 i2 p3.head i3
  | pre h1 h2 p i => exact hold_pre ok h1 h2 p.head i
  | num h => exact hold_num ok h
  | text h => exact hold_text ok h
  | parts h1 h2 h3 => exact hold_parts ok h1 h2 h3
  | word h1 h2 h3 h4 => exact hold_word ok h1 h2 h3 h4
  | paren h1 p h2 i => exact hold_paren ok h1 i h2
  | call0 h1 h2 h3 h4 => exact hold_call0 ok h1 h2 h3 h4
  | call h1 h2 h3 h4 p h5 h6 i => exact hold_call ok h1 h2 h3 h4 p.head i h5 h6
  | args1 p h i => exact hold_args1 ok i h
  | argsn p h p2 i1 i2 => exact hold_argsn ok i1 h i2
end

theorem init_run {m l l1 l2 : Nat} {x : Txt} {z z0 z1 z2 z3 z4 z5 : St} (s0 : setAttrD 0 (.ref l) (.str x) z = some z0) (e1 : fn (m + 27) .f_lex [.str x] z0 = some (.ref l1, z1)) (s1 : setAttrD 1 (.ref l) (.ref l1) z1 = some z2) (hlv : fn (m + 27) .f_levels [] z2 = some (.ref l2, z3))
    (s2 : setAttrD 2 (.ref l) (.ref l2) z3 = some z4) (s3 : setAttrD 3 (.ref l) (.int 0) z4 = some z5) : fn (m + 28) .m_init [.ref l, .str x] z = some (.none, z5) := by
  rw [fn_succ]
  wp_walk using b_m_init, sSetA, s0, e1, s1, hlv, s2, s3

theorem parse_ok {x : Txt} (hx : x.length ≤ 1000000) {ts : List Tk} (hL : Lexd x ts) (hn : ts.length ≤ 100000) (hv : ∀ t ∈ ts, t.sort = sOp → ∃ o, t.v = .str o) {d : Nat} {v : V} (h : PR d (.climb 1) (ts ++ [endT]) v [endT]) (n : Nat) (hd : 4 * d + 30 ≤ n) (σ : St) :
    ∃ σ', fn n .f_parse_expr [.str x] σ = some (v, σ') ∧ Grow σ σ' := by
  obtain ⟨m, rfl⟩ := addOf (c := 30) (n := n) (by omega)
  -- the reader is made
  obtain ⟨σ₁, ws, e1, w1, w2, g1⟩ := lex_ok (m + 12) hx hL hn ((σ ++ [O.inst []]).set σ.length (O.inst [.str x]))
  rw [List.length_set] at e1 w1
  have hlen : (σ ++ [O.inst []]).length = σ.length + 1 := by simp
  rw [hlen] at e1 w1
  have hlt1 : σ.length < σ₁.length := by have := g1.1; simp at this; omega
  have r1 : σ₁[σ.length]? = some (.inst [.str x]) := by rw [g1.2 _ (by simp)]; simp
  let P : Pl := ⟨σ.length, σ.length + 1, σ₁.length, x, ws, ts ++ [endT]⟩
  let σ₂ := (σ₁.set σ.length (.inst [.str x, .ref (σ.length + 1)])) ++ [.dict lvTab]
  let σ₃ := (σ₂.set σ.length (.inst [.str x, .ref (σ.length + 1), .ref σ₁.length]))
  let σ₄ := (σ₃.set σ.length (.inst [.str x, .ref (σ.length + 1), .ref σ₁.length, .int 0]))
  have l1 : σ₁.length < σ₂.length := by simp [σ₂]
  have l3 : σ₃.length = σ₂.length := by simp [σ₃]
  have r2 : σ₂[σ.length]? = some (.inst [.str x, .ref (σ.length + 1)]) := by
    show (_ ++ _)[_]? = _
    rw [List.getElem?_append_left (by simpa using hlt1)]
    simp [hlt1]
  have r3 : σ₃[σ.length]? = some (.inst [.str x, .ref (σ.length + 1), .ref σ₁.length]) := List.getElem?_set_self (by omega)
  have r4 : σ₄[σ.length]? = some (.inst [.str x, .ref (σ.length + 1), .ref σ₁.length, .int 0]) := List.getElem?_set_self (by omega)
  have hw1lt := (List.getElem?_eq_some_iff.mp w1).1
  have t4 : σ₄[σ.length + 1]? = some (.list ws) := by
    show ((σ₂.set _ _).set _ _)[_]? = _
    rw [List.getElem?_set_ne (by omega), List.getElem?_set_ne (by omega)]
    show (_ ++ _)[_]? = _
    rw [List.getElem?_append_left (by simpa using hw1lt), List.getElem?_set_ne (by omega)]
    exact w1
  have d4 : σ₄[σ₁.length]? = some (.dict lvTab) := by
    show ((σ₂.set _ _).set _ _)[_]? = _
    rw [List.getElem?_set_ne (by omega), List.getElem?_set_ne (by omega)]
    show (_ ++ _)[_]? = _
    rw [List.getElem?_append_right (by simp)]
    simp
  have hP : P.Ok := ⟨w2, by show (ts ++ [endT]).length ≤ _; simp; omega, by show σ.length + 1 ≠ σ.length; omega, by show σ₁.length ≠ σ.length; omega, by
    intro t ht hs
    rcases List.mem_append.mp ht with h | h
    · exact hv t h hs
    · rw [List.mem_singleton] at h; subst h; cases hs⟩
  have hR : Rd P σ₄ 0 := ⟨r4, t4, d4⟩
  have g4 : Grow σ σ₄ := by
    refine ⟨by show σ.length ≤ σ₄.length; simp [σ₄]; omega, fun i hi => ?_⟩
    show ((σ₂.set _ _).set _ _)[_]? = _
    rw [List.getElem?_set_ne (by omega), List.getElem?_set_ne (by omega)]
    show (_ ++ _)[_]? = _
    rw [List.getElem?_append_left (by simp; omega), List.getElem?_set_ne (by omega), g1.2 _ (by simp; omega), List.getElem?_set_ne (by omega), List.getElem?_append_left hi]
  -- the tree
  obtain ⟨σ₅, a', e5, r5, d5, g5⟩ := (h.holds hP) (m + 29) σ₄ 0 (by omega) hR rfl
  have hs := sort_ok hP (m + 28) r5 d5
  have hlv : fn (m + 27) .f_levels [] (σ₁.set σ.length (.inst [.str x, .ref (σ.length + 1)])) = some (.ref σ₁.length, σ₂) := by
    rw [fn_succ]
    wp_walk using b_f_levels, dTable, σ₂, lvTab, lvPairs
  have hinit : fn (m + 28) .m_init [.ref σ.length, .str x] (σ ++ [O.inst []]) = some (.none, σ₄) := by
    have s0 : setAttrD 0 (.ref σ.length) (.str x) (σ ++ [O.inst []]) = some ((σ ++ [O.inst []]).set σ.length (O.inst [.str x])) := by simp [setAttrD, putF]
    exact init_run (z4 := σ₃) s0 e1 (by simp [setAttrD, putF, r1]) hlv (by simp [setAttrD, putF, r2, σ₃]) (by simp [setAttrD, putF, r3, σ₄])
  have hcls : fn (m + 29) .cls [.str x] σ = some (.ref σ.length, σ₄) := by
    rw [fn_succ]
    show (fn _ .m_init _ _).bind _ = _
    rw [hinit]; rfl
  have g : Grow σ σ₅ := ⟨Nat.le_trans g4.1 g5.1, fun i hi => (g5.2 i (Nat.lt_of_lt_of_le hi g4.1) (by show i ≠ σ.length; omega)).trans (g4.2 i hi)⟩
  refine ⟨σ₅, ?_, g⟩
  · rw [fn_succ]
    have e5' : fn (m + 29) .f_climb [.ref σ.length, .int 1] σ₄ = some (v, σ₅) := e5
    have hs' : fn (m + 29) .m_sort [.ref σ.length] σ₅ = some (.str [101, 110, 100], σ₅) := hs
    have hr5 : σ₅[σ.length]? = _ := r5.r
    wp_walk using b_f_parse_expr, hcls, e5', hr5, hs'
set_option maxHeartbeats 200000
noncomputable abbrev lpT : Tk := ⟨[40], [40], .str [40], .any⟩
noncomputable abbrev rpT : Tk := ⟨[41], [41], .str [41], .any⟩
noncomputable abbrev cmT : Tk := ⟨[44], [44], .str [44], .any⟩
noncomputable abbrev opT (s : Txt) : Tk := ⟨s, [111, 112], .str s, .op⟩

noncomputable def binOps : List Txt := [[43], [45], [42], [47], [37], [42, 42], [60, 60], [62, 62], [60], [62], [60, 61], [62, 61], [61, 61], [33, 61], [38], [94], [124], [101, 113], [110, 101], [105, 110], [110, 105], [108, 116], [108, 101], [103, 116], [103, 101], [38, 38], [124, 124]]
noncomputable def lreq (s : Txt) : Int := if s = [42, 42] then 13 else lvl s
noncomputable def LeafOk (v : V) (k : Tk) : Prop := k.sort ≠ sOp ∧ k.sort ≠ sLp ∧ k.sort ≠ sRp ∧ k.sort ≠ sCm ∧ ∀ (d : Nat) (u : Tk) (ts : List Tk), u.sort ≠ sLp → PR d .opnd (k :: u :: ts) v (u :: ts)

inductive G where
  | n (v : V) (l : Int)
  | as (vs : List V)

inductive Put : Nat → G → List Tk → Prop
  | leaf {h : Nat} {v : V} {k : Tk} {l : Int} : LeafOk v k → l ≤ 13 → Put h (.n v l) [k]
  | wrap {h : Nat} {v : V} {l : Int} {ts : List Tk} : Put h (.n v 1) ts → Put (h + 1) (.n v l) (lpT :: (ts ++ [rpT]))
  | un {h : Nat} {v : V} {l : Int} {k : Tk} {s : Txt} {ts : List Tk} : k.sort = sOp → k.v = .str s → s ∈ preOps → l ≤ 13 → Put h (.n v 13) ts → Put h (.n (.tup [.str [117, 110], .str s, v]) l) (k :: ts)
  | bin {h : Nat} {a b : V} {l : Int} {k : Tk} {s : Txt} {ts us : List Tk} : k.sort = sOp → k.v = .str s → s ∈ binOps → l ≤ lvl s → Put h (.n a (lreq s)) ts → Put h (.n b (nextL s)) us → Put (h + 1) (.n (mkBin s a b) l) (ts ++ k :: us)
  | ite {h : Nat} {a b c : V} {l : Int} {k e : Tk} {ts us ws : List Tk} : k.sort = sOp → k.v = .str [63] → e.sort = sOp → e.v = .str [58] → l ≤ 1 → Put h (.n a 2) ts → Put h (.n b 1) us → Put h (.n c 1) ws → Put (h + 1) (.n (.tup [.str tIf, a, b, c]) l) (ts ++ k :: (us ++ e :: ws))
  | call {h : Nat} {k : Tk} {w : Txt} {l : Int} {vs : List V} {ts : List Tk} : k.sort = sWord → k.v = .str w → l ≤ 13 → vs.length ≤ 3 → Put h (.as vs) ts → Put (h + 1) (.n (.tup [.str tCall, .str w, .tup vs]) l) (k :: lpT :: (ts ++ [rpT]))
  | as0 {h : Nat} : Put h (.as []) []
  | as1 {h : Nat} {a : V} {ts : List Tk} : Put h (.n a 1) ts → Put h (.as [a]) ts
  | asn {h : Nat} {a b : V} {vs : List V} {ts us : List Tk} : Put h (.n a 1) ts → Put h (.as (b :: vs)) us → Put h (.as (a :: b :: vs)) (ts ++ cmT :: us)

theorem Put.mono {h : Nat} {g : G} {ts : List Tk} (p : Put h g ts) : ∀ {h' : Nat}, h ≤ h' → Put h' g ts := by
  induction p with
  | leaf a b => intro h' _; exact .leaf a b
  | wrap _ i =>
    intro h' hh
    obtain ⟨h', rfl⟩ : ∃ e, h' = e + 1 := ⟨h' - 1, by omega⟩
    exact .wrap (i (by omega))
  | un a b c d _ i => intro h' hh; exact .un a b c d (i hh)
  | bin a b c d _ _ i j =>
    intro h' hh
    obtain ⟨h', rfl⟩ : ∃ e, h' = e + 1 := ⟨h' - 1, by omega⟩
    exact .bin a b c d (i (by omega)) (j (by omega))
  | ite a b c d e _ _ _ i j k =>
    intro h' hh
    obtain ⟨h', rfl⟩ : ∃ e, h' = e + 1 := ⟨h' - 1, by omega⟩
    exact .ite a b c d e (i (by omega)) (j (by omega)) (k (by omega))
  | call a b c d _ i =>
    intro h' hh
    obtain ⟨h', rfl⟩ : ∃ e, h' = e + 1 := ⟨h' - 1, by omega⟩
    exact .call a b c d (i (by omega))
  | as0 => intro h' _; exact .as0
  | as1 _ i => intro h' hh; exact .as1 (i hh)
  | asn _ _ i j => intro h' hh; exact .asn (i hh) (j hh)

theorem lvl_bin {s : Txt} (h : s ∈ binOps) : 2 ≤ lvl s ∧ lvl s ≤ 12 ∧ s ≠ [63] ∧ (s = [42, 42] ↔ lvl s = 12) := by
  have : ∀ s ∈ binOps, 2 ≤ lvl s ∧ lvl s ≤ 12 ∧ s ≠ [63] ∧ (s = [42, 42] ↔ lvl s = 12) := by decide
  exact this s h
theorem lvl_q : lvl [63] = 1 := by decide
theorem lvl_c : lvl [58] = 0 := by decide
theorem level_ne {k : Tk} {ts : List Tk} (h : k.sort ≠ sOp) : level (k :: ts) = 0 := by
  show (if k.sort = sOp then _ else 0) = _
  rw [if_neg h]

noncomputable def Cond (l : Int) (rest : List Tk) : Prop := level rest < l ∨ (level rest = l ∧ 2 ≤ l ∧ l ≤ 11)
noncomputable def notLp (rest : List Tk) : Prop := ∃ k r, rest = k :: r ∧ k.sort ≠ sLp

theorem notLp_op {k : Tk} {r : List Tk} (h : k.sort = sOp) : notLp (k :: r) := ⟨k, r, rfl, by rw [h]; decide⟩

inductive RTO (D : Nat) (ts rest : List Tk) (v : V) : Prop
  | mk (ops us : List Tk) (t : V) : ts ++ rest = ops ++ us → v = wrapOps (ops.map (·.v)) t → ops.length ≤ ts.length → (∀ k ∈ ops, k.sort = sOp ∧ ∃ o ∈ preOps, k.v = .str o) → PR D .opnd us t rest → RTO D ts rest v
noncomputable def RT (h : Nat) : G → List Tk → Prop
  | .n v l, ts => 1 ≤ l → (∀ rest, notLp rest → Cond l rest → ∀ (L : Int) (D : Nat) (w : V) (rest' : List Tk), L ≤ l → h ≤ D → PR D (.loop L v) rest w rest' → PR (D + 1) (.climb L) (ts ++ rest) w rest') ∧
      (13 ≤ l → ∀ rest, notLp rest → ∀ D : Nat, h ≤ D → RTO D ts rest v)
  | .as vs, ts => ∀ rest D, h ≤ D → vs ≠ [] → PR (D + 1) .args (ts ++ rpT :: rest) (.tup vs) (rpT :: rest) ∧ hdSort (ts ++ rpT :: rest) ≠ sRp

set_option tactic.hygienic true in
theorem rt {h : Nat} {g : G} {ts : List Tk} (p : Put h g ts) (hn : ts.length ≤ 1000) : RT h g ts ∧ ((∃ v l, g = .n v l) → ts ≠ [] ∧ hdSort ts ≠ sRp) := by
  induction p with
  | leaf a b =>
    rename_i h v k l
    refine ⟨fun hl => ⟨fun rest hr hc L D w rest' hL hD hloop => ?_, fun h13 rest hr D hD => ?_⟩, fun _ => ⟨by simp, a.2.2.1⟩⟩
    · obtain ⟨u, us, rfl, hu⟩ := hr
      have := PR.pre (ops := []) (ts := [k] ++ u :: us) (by simp) (by simp) (a.2.2.2.2 D u us hu)
      exact .climb this hloop
    · obtain ⟨u, us, rfl, hu⟩ := hr
      exact ⟨[], [k] ++ u :: us, v, rfl, rfl, by simp, by simp, a.2.2.2.2 D u us hu⟩
  | wrap p i =>
    rename_i h v l ts
    have i := i (by simp at hn ⊢; omega)
    have key : ∀ rest D, h + 1 ≤ D → PR D .opnd ((lpT :: (ts ++ [rpT])) ++ rest) v rest := by
      intro rest D hD
      obtain ⟨D, rfl⟩ : ∃ e, D = e + 1 := ⟨D - 1, by omega⟩
      have hs : level (rpT :: rest) = 0 := level_ne (by decide)
      have := ((i.1 (by omega)).1 (rpT :: rest) ⟨rpT, rest, rfl, by decide⟩ (.inl (by rw [hs]; decide)) 1 D v (rpT :: rest) (Int.le_refl _) (by omega) (.stop (by rw [hs]; decide) (by simp)))
      have e : (lpT :: (ts ++ [rpT])) ++ rest = lpT :: (ts ++ rpT :: rest) := by simp
      rw [e]
      exact .paren rfl this rfl
    refine ⟨fun hl => ⟨fun rest hr hc L D w rest' hL hD hloop => ?_, fun h13 rest hr D hD => ?_⟩, fun _ => ⟨by simp, by show ([40] : Txt) ≠ [41]; decide⟩⟩
    · exact .climb (PR.pre (ops := []) (by simp) (by simp) (key rest D hD)) hloop
    · exact ⟨[], _, v, rfl, rfl, by simp, by simp, key rest D hD⟩
  | un a b c d p i =>
    rename_i h v l k s ts
    have i := i (by simp at hn ⊢; omega)
    have key : ∀ rest, notLp rest → ∀ D : Nat, h ≤ D → RTO D (k :: ts) rest (.tup [.str [117, 110], .str s, v]) := by
      intro rest hr D hD
      obtain ⟨ops, us, t, e1, e2, e3, e4, e5⟩ := (i.1 (by omega)).2 (by omega) rest hr D hD
      refine ⟨k :: ops, us, t, by rw [List.cons_append, e1]; rfl, ?_, by simp; omega, ?_, e5⟩
      · rw [List.map_cons, b, e2]; rfl
      · intro q hq
        rcases List.mem_cons.mp hq with rfl | hq
        · exact ⟨a, s, c, b⟩
        · exact e4 q hq
    refine ⟨fun hl => ⟨fun rest hr hc L D w rest' hL hD hloop => ?_, fun h13 rest hr D hD => key rest hr D hD⟩, fun _ => ⟨by simp, by show k.sort ≠ sRp; rw [a]; decide⟩⟩
    obtain ⟨ops, us, t, e1, e2, e3, e4, e5⟩ := key rest hr D hD
    rw [e1]
    rw [e2] at hloop
    exact .climb (.pre e4 (by omega) e5) hloop
  | bin a b c d p q i j =>
    rename_i h x y l k s ts us
    have i := i (by simp at hn ⊢; omega)
    have j := j (by simp at hn ⊢; omega)
    obtain ⟨l1, l2, l3, l4⟩ := lvl_bin c
    have hlr : 1 ≤ lreq s := by unfold lreq; split <;> omega
    have hnx : 1 ≤ nextL s := by unfold nextL; split <;> omega
    refine ⟨fun hl => ⟨fun rest hr hc L D w rest' hL hD hloop => ?_, fun h13 => by omega⟩, fun _ => ⟨by simp, ?_⟩⟩
    · have hstop : level rest < nextL s := by
        unfold nextL
        split
        · rename_i hs
          have := l4.mp hs
          rcases hc with hc | ⟨hc, h2, h3⟩ <;> omega
        · rcases hc with hc | ⟨hc, h2, h3⟩ <;> omega
      have hrne : rest ≠ [] := by obtain ⟨u, us, rfl, _⟩ := hr; simp
      obtain ⟨D', rfl⟩ : ∃ e, D = e + 1 := ⟨D - 1, by omega⟩
      have right : PR (D' + 1) (.climb (nextL s)) (us ++ rest) y rest := (j.1 hnx).1 rest hr (.inl hstop) (nextL s) D' y rest (Int.le_refl _) (by omega) (.stop hstop hrne)
      have lp : PR (D' + 1) (.loop L x) (k :: (us ++ rest)) w rest' := .bin a b l3 (by omega) right hloop
      have hk : level (k :: (us ++ rest)) = lvl s := level_op a b
      have := (i.1 hlr).1 (k :: (us ++ rest)) (notLp_op a) (by
        unfold Cond lreq
        rw [hk]
        split
        · left; omega
        · rename_i hs
          right
          have : lvl s ≠ 12 := fun z => hs (l4.mpr z)
          omega) L (D' + 1) w rest' (by unfold lreq; split <;> omega) (by omega) lp
      rw [List.append_assoc]
      exact this
    · have := i.2 ⟨_, _, rfl⟩
      cases ts with
      | nil => exact absurd rfl this.1
      | cons t ts => exact this.2
  | ite a b a' b' d p q r i j k =>
    rename_i h x y z l kk e ts us ws
    have i := i (by simp at hn ⊢; omega)
    have j := j (by simp at hn ⊢; omega)
    have k := k (by simp at hn ⊢; omega)
    refine ⟨fun hl => ⟨fun rest hr hc L D w rest' hL hD hloop => ?_, fun h13 => by omega⟩, fun _ => ⟨by simp, ?_⟩⟩
    · have hl1 : l = 1 := by omega
      subst hl1
      have hstop : level rest < 1 := by rcases hc with hc | ⟨_, h2, _⟩ <;> omega
      have hrne : rest ≠ [] := by obtain ⟨u, us, rfl, _⟩ := hr; simp
      obtain ⟨D', rfl⟩ : ∃ e, D = e + 1 := ⟨D - 1, by omega⟩
      have he : level (e :: (ws ++ rest)) = 0 := (level_op a' b').trans lvl_c
      have mid : PR (D' + 1) (.climb 1) (us ++ e :: (ws ++ rest)) y (e :: (ws ++ rest)) := (j.1 (by omega)).1 _ (notLp_op a') (.inl (by rw [he]; decide)) 1 D' y _ (Int.le_refl _) (by omega) (.stop (by rw [he]; decide) (by simp))
      have last : PR (D' + 1) (.climb 1) (ws ++ rest) z rest := (k.1 (by omega)).1 rest hr (.inl hstop) 1 D' z rest (Int.le_refl _) (by omega) (.stop hstop hrne)
      have lp : PR (D' + 1) (.loop L x) (kk :: (us ++ e :: (ws ++ rest))) w rest' := .ite a b (by omega) mid a' b' last hloop
      have hk : level (kk :: (us ++ e :: (ws ++ rest))) = 1 := (level_op a b).trans lvl_q
      have := (i.1 (by omega)).1 (kk :: (us ++ e :: (ws ++ rest))) (notLp_op a) (.inl (by rw [hk]; decide)) L (D' + 1) w rest' (by omega) (by omega) lp
      have e2 : (ts ++ kk :: (us ++ e :: ws)) ++ rest = ts ++ kk :: (us ++ e :: (ws ++ rest)) := by simp
      rw [e2]
      exact this
    · have := i.2 ⟨_, _, rfl⟩
      cases ts with
      | nil => exact absurd rfl this.1
      | cons t ts => exact this.2
  | call a b c d p i =>
    rename_i h k w l vs ts
    have i := i (by simp at hn ⊢; omega)
    have key : ∀ rest D, h + 1 ≤ D → PR D .opnd ((k :: lpT :: (ts ++ [rpT])) ++ rest) (.tup [.str tCall, .str w, .tup vs]) rest := by
      intro rest D hD
      obtain ⟨D, rfl⟩ : ∃ e, D = e + 1 := ⟨D - 1, by omega⟩
      have e : (k :: lpT :: (ts ++ [rpT])) ++ rest = k :: lpT :: (ts ++ rpT :: rest) := by simp
      rw [e]
      by_cases hv : vs = []
      · subst hv
        cases p with
        | as0 => exact .call0 a b rfl rfl
      · obtain ⟨i1, i2⟩ := i.1 rest D (by omega) hv
        exact .call a b rfl i2 i1 (by omega) rfl
    refine ⟨fun hl => ⟨fun rest hr hc L D w rest' hL hD hloop => ?_, fun h13 rest hr D hD => ?_⟩, fun _ => ⟨by simp, by show k.sort ≠ sRp; rw [a]; decide⟩⟩
    · exact .climb (PR.pre (ops := []) (by simp) (by simp) (key rest D hD)) hloop
    · exact ⟨[], _, _, rfl, rfl, by simp, by simp, key rest D hD⟩
  | as0 => exact ⟨fun rest D hD hv => absurd rfl hv, fun ⟨_, _, h⟩ => by cases h⟩
  | as1 p i =>
    rename_i h a ts
    have i := i hn
    refine ⟨fun rest D hD hv => ⟨?_, ?_⟩, fun ⟨_, _, h⟩ => by cases h⟩
    · have hs : level (rpT :: rest) = 0 := level_ne (by decide)
      exact .args1 ((i.1 (by omega)).1 (rpT :: rest) ⟨rpT, rest, rfl, by decide⟩ (.inl (by rw [hs]; decide)) 1 D a (rpT :: rest) (Int.le_refl _) hD (.stop (by rw [hs]; decide) (by simp))) rfl
    · have := i.2 ⟨_, _, rfl⟩
      cases ts with
      | nil => exact absurd rfl this.1
      | cons t ts => exact this.2
  | asn p q i j =>
    rename_i h a b vs ts us
    have i := i (by simp at hn ⊢; omega)
    have j := j (by simp at hn ⊢; omega)
    refine ⟨fun rest D hD hv => ⟨?_, ?_⟩, fun ⟨_, _, h⟩ => by cases h⟩
    · have hs : level (cmT :: (us ++ rpT :: rest)) = 0 := level_ne (by decide)
      have c1 : PR (D + 1) (.climb 1) (ts ++ cmT :: (us ++ rpT :: rest)) a (cmT :: (us ++ rpT :: rest)) := (i.1 (by omega)).1 _ ⟨cmT, _, rfl, by decide⟩ (.inl (by rw [hs]; decide)) 1 D a _ (Int.le_refl _) hD (.stop (by rw [hs]; decide) (by simp))
      have e : (ts ++ cmT :: us) ++ rpT :: rest = ts ++ cmT :: (us ++ rpT :: rest) := by simp
      rw [e]
      exact .argsn c1 rfl (j.1 rest D hD (by simp)).1
    · have := i.2 ⟨_, _, rfl⟩
      cases ts with
      | nil => exact absurd rfl this.1
      | cons t ts => exact this.2

theorem round {h : Nat} {v : V} {ts : List Tk} (p : Put h (.n v 1) ts) (hn : ts.length ≤ 1000) : PR (h + 1) (.climb 1) (ts ++ [endT]) v [endT] := by
  have hs : level [endT] = 0 := level_ne (by decide)
  exact ((rt p hn).1 (by omega)).1 [endT] ⟨endT, [], rfl, by decide⟩ (.inl (by rw [hs]; decide)) 1 h v [endT] (Int.le_refl _) (Nat.le_refl _) (.stop (by rw [hs]; decide) (by simp))
set_option maxHeartbeats 200000
noncomputable abbrev tUn : Txt := [117, 110]
noncomputable abbrev tBin : Txt := [98, 105, 110]
noncomputable abbrev tAnd : Txt := [97, 110, 100]
noncomputable abbrev tOr : Txt := [111, 114]
noncomputable def hold : V → Int
  | .tup (.str k :: r) => if k = tBin then (match r with | .str s :: _ => lvl s | _ => 13) else if k = tAnd then 3 else if k = tOr then 2 else if k = tIf then 1 else 13
  | _ => 13
noncomputable def wr (v : V) (l : Int) : Nat := if hold v < l then 1 else 0
mutual
noncomputable def base : V → Nat
  | .tup vs => baseT vs
  | _ => 0
noncomputable def baseT : List V → Nat
  | [.str k, x, a] => if k = tUn then wr a 13 + base a else if k = tAnd then (wr x 3 + base x) + (wr a 4 + base a) else if k = tOr then (wr x 2 + base x) + (wr a 3 + base a) else if k = tCall then 1 + bases a else 0
  | [.str k, x, a, b] => if k = tBin then (match x with | .str s => (wr a (lreq s) + base a) + (wr b (nextL s) + base b) | _ => 0) else if k = tIf then (wr x 2 + base x) + (wr a 1 + base a) + (wr b 1 + base b) else 0
  | _ => 0
noncomputable def bases : V → Nat
  | .tup vs => basesT vs
  | _ => 0
noncomputable def basesT : List V → Nat
  | [] => 0
  | v :: vs => (wr v 1 + base v) + basesT vs
end
noncomputable def nd (v : V) (l : Int) : Nat := wr v l + base v

theorem nd_mono (v : V) {l m : Int} (h : l ≤ m) : nd v l ≤ nd v m := by unfold nd wr; split <;> split <;> omega
theorem nd_hold (v : V) {l : Int} (h : l ≤ hold v) : nd v l = base v := by unfold nd wr; rw [if_neg (by omega)]; omega
theorem nd_le (v : V) (l : Int) : nd v l ≤ 1 + base v := by unfold nd wr; split <;> omega

theorem hold_un (o a : V) : hold (.tup [.str tUn, o, a]) = 13 := rfl
theorem base_un (o a : V) : base (.tup [.str tUn, o, a]) = nd a 13 := rfl
set_option tactic.hygienic true in
theorem hold_mk (s : Txt) (a b : V) : hold (mkBin s a b) = lvl s := by
  unfold mkBin
  split
  · rename_i h; subst h; rfl
  · split
    · rename_i h; subst h; rfl
    · rfl
set_option tactic.hygienic true in
theorem base_mk (s : Txt) (a b : V) : base (mkBin s a b) = nd a (lreq s) + nd b (nextL s) := by
  unfold mkBin
  split
  · rename_i h; subst h; rfl
  · split
    · rename_i h; subst h; rfl
    · rfl
theorem hold_if (t a b : V) : hold (.tup [.str tIf, t, a, b]) = 1 := rfl
theorem base_if (t a b : V) : base (.tup [.str tIf, t, a, b]) = nd t 2 + nd a 1 + nd b 1 := rfl
theorem hold_call' (w : V) (vs : List V) : hold (.tup [.str tCall, w, .tup vs]) = 13 := rfl
theorem base_call (w : V) (vs : List V) : base (.tup [.str tCall, w, .tup vs]) = 1 + basesT vs := rfl
theorem two_13 (k : Txt) (x : V) (h : k = tText ∨ k = [110, 117, 109] ∨ k = [112, 97, 114, 116, 115]) : hold (.tup [.str k, x]) = 13 ∧ base (.tup [.str k, x]) = 0 := by
  rcases h with rfl | rfl | rfl <;> exact ⟨rfl, rfl⟩
theorem ptree_13 {vs : List V} {v : V} (h : PTree vs v) : hold v = 13 ∧ base v = 0 := by
  cases h <;> exact ⟨rfl, rfl⟩

noncomputable def lps (ts : List Tk) : Nat := (ts.filter fun t => t.sort == sLp).length
theorem lps_cons (t : Tk) (ts : List Tk) : lps (t :: ts) = (if t.sort = sLp then 1 else 0) + lps ts := by
  unfold lps
  rw [List.filter_cons]
  by_cases h : t.sort = sLp
  · simp [h]; omega
  · simp [h]
theorem lps_app (ts us : List Tk) : lps (ts ++ us) = lps ts + lps us := by unfold lps; simp

noncomputable def lq (ts : List Tk) : Int := match ts with
  | t :: _ => (match t.v with | .str s => if s = [63] then 2 else lreq s | _ => 0)
  | [] => 0

set_option tactic.hygienic true in
theorem lookup_mem (s : Txt) {i : Int} : ∀ (l : List (Txt × Int)), l.lookup s = some i → (s, i) ∈ l
  | [], h => by simp at h
  | (k, v) :: r, h => by
    rw [List.lookup_cons] at h
    split at h
    · rename_i hk
      cases h; rw [beq_iff_eq.mp hk]; exact List.mem_cons_self
    · exact List.mem_cons_of_mem _ (lookup_mem s r h)
theorem lvl_facts (s : Txt) : 0 ≤ lvl s ∧ lvl s ≤ 12 ∧ (1 ≤ lvl s → s ≠ [63] → 2 ≤ lvl s) ∧ (12 ≤ lvl s → s = [42, 42]) := by
  unfold lvl
  cases h : lvPairs.lookup s with
  | none => exact ⟨by simp, by simp, by intro h; simp at h, by intro h; simp at h⟩
  | some i =>
    have hm := lookup_mem s lvPairs h
    have : ∀ p ∈ lvPairs, 0 ≤ p.2 ∧ p.2 ≤ 12 ∧ (1 ≤ p.2 → p.1 ≠ [63] → 2 ≤ p.2) ∧ (12 ≤ p.2 → p.1 = [42, 42]) := by decide
    exact this _ hm

theorem PR.lev {d : Nat} {j : J} {ts rest : List Tk} {v : V} (h : PR d j ts v rest) : ∀ l, ((∃ t, j = .loop l t) ∨ j = .climb l) → level rest < l := by
  induction h with
  | climb _ _ i1 i2 =>
    rintro l (⟨t, h⟩ | h)
    · cases h
    · cases h; exact i2 _ (.inl ⟨_, rfl⟩)
  | stop h1 h2 =>
    rintro l (⟨t, h⟩ | h)
    · cases h; exact h1
    · cases h
  | bin _ _ _ _ _ _ i1 i2 =>
    rintro l (⟨t, h⟩ | h)
    · cases h; exact i2 _ (.inl ⟨_, rfl⟩)
    · cases h
  | ite _ _ _ _ _ _ _ _ i1 i2 i3 =>
    rintro l (⟨t, h⟩ | h)
    · cases h; exact i3 _ (.inl ⟨_, rfl⟩)
    · cases h
  | _ => rintro l (⟨t, h⟩ | h) <;> cases h

noncomputable def Nd : J → List Tk → V → List Tk → Prop
  | .climb l, ts, v, rest => 1 ≤ l → l ≤ 13 → nd v l + lps rest ≤ lps ts
  | .loop l t, ts, v, rest => 1 ≤ l → ∀ u, nd t l ≤ u → (l ≤ level ts → nd t (lq ts) ≤ u) → nd v l + lps rest ≤ u + lps ts
  | .pre, ts, v, rest => nd v 13 + lps rest ≤ lps ts
  | .opnd, ts, v, rest => nd v 13 + lps rest ≤ lps ts
  | .args, ts, v, rest => bases v + lps rest ≤ lps ts

theorem lq_op {k : Tk} {ts : List Tk} {s : Txt} (h : k.v = .str s) : lq (k :: ts) = if s = [63] then 2 else lreq s := by
  show (match k.v with | .str s => if s = [63] then 2 else lreq s | _ => 0) = _
  rw [h]
theorem lreq_le (s : Txt) : lreq s ≤ 13 := by have := lvl_facts s; unfold lreq; split <;> omega
theorem lq_le (ts : List Tk) : lq ts ≤ 13 := by
  unfold lq
  split
  · split
    · split
      · decide
      · exact lreq_le _
    · decide
  · decide
set_option tactic.hygienic true in
theorem level_word {k : Tk} {ts : List Tk} (h : 1 ≤ level (k :: ts)) : k.sort = sOp ∧ ∃ s, k.v = .str s ∧ level (k :: ts) = lvl s := by
  have e : level (k :: ts) = if k.sort = sOp then (match k.v with | .str o => lvl o | _ => 0) else 0 := rfl
  rw [e] at h ⊢
  split at h
  · rename_i hs
    refine ⟨hs, ?_⟩
    split at h
    · rename_i o ho
      refine ⟨o, ho, ?_⟩
      rw [if_pos hs]
    · omega
  · omega

set_option tactic.hygienic true in
theorem PR.needs {d : Nat} {j : J} {ts rest : List Tk} {v : V} (h : PR d j ts v rest) : Nd j ts v rest := by
  induction h with
  | climb p1 p2 i1 i2 =>
    rename_i d l ts ts1 rest t v
    intro h1 h13
    have a : nd t 13 + lps ts1 ≤ lps ts := i1
    have b := i2 h1 (nd t 13) (nd_mono t h13) (fun _ => nd_mono t (lq_le ts1))
    omega
  | stop h1 h2 => intro _ u hu _; omega
  | bin a b c e p1 p2 i1 i2 =>
    rename_i d l t r v s k ts1 ts2 rest
    intro h1 u hu hq
    obtain ⟨f1, f2, f3, f4⟩ := lvl_facts s
    have hlv : level (k :: ts1) = lvl s := level_op a b
    have hn13 : nextL s ≤ 13 ∧ 1 ≤ nextL s := by unfold nextL; split <;> omega
    have r1 := i1 hn13.2 hn13.1
    have hst := p1.lev (nextL s) (.inr rfl)
    have hu1 : nd t (lreq s) ≤ u := by
      have := hq (by rw [hlv]; exact e)
      rw [lq_op b, if_neg c] at this
      exact this
    have hl2 : 2 ≤ lvl s := f3 (by omega) c
    have b2 := i2 h1 (nd t (lreq s) + nd r (nextL s)) (by rw [nd_hold _ (by rw [hold_mk]; exact e), base_mk]; exact Nat.le_refl _) (fun hle => by
      have hq2 : lq ts2 ≤ lvl s := by
        cases ts2 with
        | nil => show (0 : Int) ≤ _; omega
        | cons k2 ts2 =>
          obtain ⟨g1, s2, g2, g3⟩ := level_word (k := k2) (ts := ts2) (by omega)
          rw [lq_op g2]
          split
          · omega
          · rename_i hs2
            rw [g3] at hst
            obtain ⟨q1, q2, q3, q4⟩ := lvl_facts s2
            unfold lreq
            split
            · rename_i h42
              subst h42
              exfalso
              have : lvl [42, 42] = 12 := by decide
              unfold nextL at hst
              split at hst
              · omega
              · rename_i hns
                exact hns (f4 (by omega))
            · unfold nextL at hst
              split at hst <;> omega
      rw [nd_hold _ (by rw [hold_mk]; exact hq2), base_mk]
      exact Nat.le_refl _)
    rw [lps_cons, if_neg (by rw [a]; decide)]
    omega
  | ite a b c p1 g1 g2 p2 p3 i1 i2 i3 =>
    rename_i d l t x y v k e ts1 ts3 ts4 rest
    intro h1 u hu hq
    have hl : l = 1 := by omega
    subst hl
    have hlv : level (k :: ts1) = 1 := (level_op a b).trans lvl_q
    have hu1 : nd t 2 ≤ u := by
      have := hq (by rw [hlv]; decide)
      rw [lq_op b, if_pos rfl] at this
      exact this
    have r1 := i1 (by decide) (by decide)
    have r2 := i2 (by decide) (by decide)
    have hst := p2.lev 1 (.inr rfl)
    have b2 := i3 (by decide) (nd t 2 + nd x 1 + nd y 1) (by rw [nd_hold _ (by rw [hold_if]; decide), base_if]; exact Nat.le_refl _) (fun hle => by omega)
    rw [lps_cons, if_neg (by rw [g1]; decide)] at r1
    rw [lps_cons, if_neg (by rw [a]; decide)]
    omega
  | pre a b p i =>
    rename_i d ops ts rest t
    have i : nd t 13 + lps rest ≤ lps ts := i
    show nd (wrapOps _ t) 13 + lps rest ≤ lps (ops ++ ts)
    have e1 : ∀ us : List V, nd (wrapOps us t) 13 = nd t 13 := by
      intro us
      induction us with
      | nil => rfl
      | cons o us ih =>
        show nd (.tup [.str tUn, o, wrapOps us t]) 13 = _
        rw [nd_hold _ (by rw [hold_un]; decide), base_un, ih]
    have e2 : lps ops = 0 := by
      clear i p b
      induction ops with
      | nil => rfl
      | cons q ops ih =>
        rw [lps_cons, if_neg (by rw [(a q (by simp)).1]; decide), ih fun k hk => a k (by simp [hk])]
    rw [e1, lps_app, e2]
    omega
  | num h =>
    show nd _ 13 + _ ≤ _
    rw [nd_hold _ (by rw [(two_13 _ _ (.inr (.inl rfl))).1]; decide), (two_13 _ _ (.inr (.inl rfl))).2, lps_cons]
    omega
  | text h =>
    show nd _ 13 + _ ≤ _
    rw [nd_hold _ (by rw [(two_13 _ _ (.inl rfl)).1]; decide), (two_13 _ _ (.inl rfl)).2, lps_cons]
    omega
  | parts h1 h2 h3 =>
    show nd _ 13 + _ ≤ _
    rw [nd_hold _ (by rw [(ptree_13 h3).1]; decide), (ptree_13 h3).2, lps_cons]
    omega
  | word h1 h2 h3 h4 =>
    rename_i d k u w ts
    show nd _ 13 + _ ≤ _
    have e := lps_cons k (u :: ts)
    rw [nd_hold _ (by rw [(two_13 _ _ (.inl rfl)).1]; decide), (two_13 _ _ (.inl rfl)).2, e]
    omega
  | paren h1 p h2 i =>
    rename_i d k e ts rest t
    have i := i (by decide) (by decide)
    show nd _ 13 + _ ≤ _
    have a := nd_le t 13
    have b : base t ≤ nd t 1 := by unfold nd; omega
    rw [lps_cons, if_neg (by rw [h2]; decide)] at i
    rw [lps_cons, if_pos h1]
    omega
  | call0 h1 h2 h3 h4 =>
    show nd _ 13 + _ ≤ _
    rw [nd_hold _ (by rw [hold_call']; decide), base_call, lps_cons, lps_cons, if_pos h3, lps_cons]
    show 1 + 0 + _ ≤ _
    omega
  | call h1 h2 h3 h4 p h5 h6 i =>
    rename_i d k u e w ts rest vs
    have i : bases (.tup vs) + lps (e :: rest) ≤ lps ts := i
    have i' : basesT vs + lps (e :: rest) ≤ lps ts := i
    show nd _ 13 + _ ≤ _
    rw [lps_cons] at i'
    rw [nd_hold _ (by rw [hold_call']; decide), base_call, lps_cons, lps_cons, if_pos h3]
    omega
  | args1 p h i =>
    rename_i d e ts rest t
    have i := i (by decide) (by decide)
    show basesT [t] + _ ≤ _
    show (wr t 1 + base t) + 0 + _ ≤ _
    unfold nd at i
    omega
  | argsn p h p2 i1 i2 =>
    rename_i d c ts ts1 rest t vs
    have i1 := i1 (by decide) (by decide)
    have i2 : basesT vs + lps rest ≤ lps ts1 := i2
    show (wr t 1 + base t) + basesT vs + _ ≤ _
    rw [lps_cons] at i1
    unfold nd at i1
    omega
set_option maxHeartbeats 200000
inductive K where
  | o
  | t
  | e
  | a
noncomputable def LeafE (k : Tk) : Prop := ∃ v, LeafOk v k
noncomputable def isBin (k : Tk) : Prop := k.sort = sOp ∧ ∃ s ∈ binOps, k.v = .str s
noncomputable def isPre (k : Tk) : Prop := k.sort = sOp ∧ ∃ s ∈ preOps, k.v = .str s
noncomputable def isQ (k : Tk) : Prop := k.sort = sOp ∧ k.v = .str [63]
noncomputable def isC (k : Tk) : Prop := k.sort = sOp ∧ k.v = .str [58]
noncomputable def isF (k : Tk) : Prop := k.sort = sWord ∧ ∃ w, k.v = .str w

inductive Gr : K → List Tk → Prop
  | leaf {k : Tk} : LeafE k → Gr .o [k]
  | paren {ts : List Tk} : Gr .e ts → Gr .o (lpT :: (ts ++ [rpT]))
  | un {k : Tk} {ts : List Tk} : isPre k → Gr .o ts → Gr .o (k :: ts)
  | call0 {k : Tk} : isF k → Gr .o [k, lpT, rpT]
  | call {k : Tk} {ts : List Tk} : isF k → Gr .a ts → Gr .o (k :: lpT :: (ts ++ [rpT]))
  | e {ts us : List Tk} : Gr .o ts → Gr .t us → Gr .e (ts ++ us)
  | t0 : Gr .t []
  | tbin {k : Tk} {ts : List Tk} : isBin k → Gr .e ts → Gr .t (k :: ts)
  | tq {k c : Tk} {ts us : List Tk} : isQ k → isC c → Gr .e ts → Gr .e us → Gr .t (k :: (ts ++ c :: us))
  | a1 {ts : List Tk} : Gr .e ts → Gr .a ts
  | an {ts us : List Tk} : Gr .e ts → Gr .a us → Gr .a (ts ++ cmT :: us)

theorem Gr.ext {k : K} {ts : List Tk} (h : Gr k ts) : ∀ ws, Gr .t ws → (k = .e → Gr .e (ts ++ ws)) ∧ (k = .t → Gr .t (ts ++ ws)) := by
  induction h with
  | e h1 h2 i1 i2 =>
    intro ws hw
    refine ⟨fun _ => ?_, fun h => by cases h⟩
    rw [List.append_assoc]
    exact .e h1 ((i2 ws hw).2 rfl)
  | t0 => intro ws hw; exact ⟨fun h => (by cases h), fun _ => hw⟩
  | tbin h1 h2 i => intro ws hw; exact ⟨fun h => (by cases h), fun _ => .tbin h1 ((i ws hw).1 rfl)⟩
  | tq h1 h2 h3 h4 i j =>
    intro ws hw
    refine ⟨fun h => (by cases h), fun _ => ?_⟩
    have := Gr.tq h1 h2 h3 ((j ws hw).1 rfl)
    simpa using this
  | _ => intro ws hw; exact ⟨fun h => (by cases h), fun h => (by cases h)⟩
theorem Gr.pre {k : Tk} {ts : List Tk} (hk : isPre k) (h : Gr .e ts) : Gr .e (k :: ts) := by
  cases h with
  | e h1 h2 => exact .e (.un hk h1) h2

theorem Gr.head {k : K} {ts : List Tk} (h : Gr k ts) : k ≠ .t → ∃ q r, ts = q :: r ∧ q.sort ≠ sRp := by
  induction h with
  | leaf h => intro _; obtain ⟨v, hv⟩ := h; exact ⟨_, _, rfl, hv.2.2.1⟩
  | paren => intro _; exact ⟨_, _, rfl, by show ([40] : Txt) ≠ [41]; decide⟩
  | un h => intro _; exact ⟨_, _, rfl, by rw [h.1]; decide⟩
  | call0 h => intro _; exact ⟨_, _, rfl, by rw [h.1]; decide⟩
  | call h => intro _; exact ⟨_, _, rfl, by rw [h.1]; decide⟩
  | e h1 h2 i1 i2 =>
    intro _
    obtain ⟨q, r, rfl, hq⟩ := i1 (by simp)
    exact ⟨q, _, rfl, hq⟩
  | a1 h i => intro _; exact i (by simp)
  | an h1 h2 i1 i2 =>
    intro _
    obtain ⟨q, r, rfl, hq⟩ := i1 (by simp)
    exact ⟨q, _, rfl, hq⟩
  | _ => intro h; exact absurd rfl h

noncomputable def wt (ts : List Tk) : Nat := (ts.filter fun t => t.sort == sOp || t.sort == sLp).length
theorem wt_cons (t : Tk) (ts : List Tk) : wt (t :: ts) = (if t.sort = sOp ∨ t.sort = sLp then 1 else 0) + wt ts := by
  unfold wt
  rw [List.filter_cons]
  by_cases h : t.sort = sOp ∨ t.sort = sLp
  · have : (t.sort == sOp || t.sort == sLp) = true := by simpa using h
    rw [if_pos this, if_pos h]; simp; omega
  · have : ¬ (t.sort == sOp || t.sort == sLp) = true := by simpa using h
    rw [if_neg this, if_neg h]; simp
theorem wt_app (ts us : List Tk) : wt (ts ++ us) = wt ts + wt us := by unfold wt; simp

noncomputable def Rest (rest : List Tk) : Prop := notLp rest ∧ level rest = 0
theorem tail_notLp {us rest : List Tk} (h : Gr .t us) (hr : notLp rest) : notLp (us ++ rest) := by
  cases h with
  | t0 => exact hr
  | tbin hk _ => exact notLp_op hk.1
  | tq hk _ _ _ => exact notLp_op hk.1
set_option tactic.hygienic true in
theorem tail_level {us rest : List Tk} (h : Gr .t us) (hl : level (us ++ rest) < 1) : us = [] := by
  cases h with
  | t0 => rfl
  | tbin hk _ =>
    obtain ⟨h1, s, hs, hv⟩ := hk
    have := level_op (ts := (‹List Tk› ++ rest)) h1 hv
    have := lvl_bin hs
    rw [List.cons_append, level_op h1 hv] at hl
    omega
  | tq hk _ _ _ =>
    rw [List.cons_append, level_op hk.1 hk.2, lvl_q] at hl
    omega

inductive TotO (ts rest : List Tk) : Prop
  | mk (ops us : List Tk) (v : V) : ts ++ rest = ops ++ us → ops.length ≤ ts.length → (∀ k ∈ ops, k.sort = sOp ∧ ∃ o ∈ preOps, k.v = .str o) → PR (wt ts) .opnd us v rest → TotO ts rest
inductive TotT (d c : Nat) (j : J) (ts rest : List Tk) : Prop
  | mk (v : V) (us' : List Tk) : Gr .t us' → PR d j (ts ++ rest) v (us' ++ rest) → wt us' ≤ wt ts → us'.length + c ≤ ts.length → TotT d c j ts rest
noncomputable def Tot (k : K) (ts : List Tk) : Prop := match k with
  | .o => ∀ rest, notLp rest → TotO ts rest
  | .t => ∀ rest, Rest rest → ∀ (l : Int) (t : V), 1 ≤ l → TotT (wt ts) 0 (.loop l t) ts rest
  | .e => ∀ rest, Rest rest → ∀ (l : Int), 1 ≤ l → TotT (wt ts + 1) 1 (.climb l) ts rest
  | .a => ∀ rest, ∃ vs, vs.length ≤ ts.length ∧ PR (wt ts + 1) .args (ts ++ rpT :: rest) (.tup vs) (rpT :: rest)

set_option tactic.hygienic true in
theorem tot : ∀ (n : Nat), n ≤ 1000 → ∀ (k : K) (ts : List Tk), ts.length = n → Gr k ts → Tot k ts := by
  intro n
  induction n using Nat.strongRecOn with
  | ind n ih =>
  intro hn
  have IH : ∀ (k : K) (ts : List Tk), ts.length < n → Gr k ts → Tot k ts := fun k ts h g => ih ts.length h (by omega) k ts rfl g
  have To : ∀ ts : List Tk, ts.length = n → Gr .o ts → Tot .o ts := by
    intro ts hl g rest hr
    cases g with
    | leaf h =>
      rename_i k
      obtain ⟨v, hv⟩ := h
      obtain ⟨u, us, rfl, hu⟩ := hr
      exact ⟨[], _, v, rfl, by simp, by simp, hv.2.2.2.2 _ u us hu⟩
    | paren h =>
      rename_i ts
      have hs : level (rpT :: rest) = 0 := level_ne (by decide)
      obtain ⟨v, us', g', p, _, _⟩ := IH .e ts (by simp at hl; omega) h (rpT :: rest) ⟨⟨rpT, rest, rfl, by decide⟩, hs⟩ 1 (by decide)
      have hus := tail_level g' (p.lev 1 (.inr rfl))
      subst hus
      refine ⟨[], lpT :: (ts ++ rpT :: rest), v, by simp, by simp, by simp, .paren rfl (PR.mono p ?_) rfl⟩
      rw [wt_cons, if_pos (.inr rfl), wt_app]
      omega
    | un hk h =>
      rename_i k ts
      obtain ⟨ops, us, v, e1, e2, e3, p⟩ := IH .o ts (by simp at hl; omega) h rest hr
      refine ⟨k :: ops, us, v, by rw [List.cons_append, e1]; rfl, by simp; omega, ?_, PR.mono p (by rw [wt_cons]; omega)⟩
      intro q hq
      rcases List.mem_cons.mp hq with rfl | hq
      · exact ⟨hk.1, hk.2.choose, hk.2.choose_spec.1, hk.2.choose_spec.2⟩
      · exact e3 q hq
    | call0 h =>
      obtain ⟨h1, w, h2⟩ := h
      exact ⟨[], _, _, rfl, by simp, by simp, .call0 h1 h2 rfl rfl⟩
    | call h g =>
      rename_i k ts
      obtain ⟨h1, w, h2⟩ := h
      obtain ⟨vs, hv, p⟩ := IH .a ts (by simp at hl; omega) g rest
      obtain ⟨q, r, hq, hq'⟩ := g.head (by simp)
      refine ⟨[], k :: lpT :: (ts ++ rpT :: rest), _, by simp, by simp, by simp, .call h1 h2 rfl ?_ (PR.mono p ?_) (by simp at hl; omega) rfl⟩
      · rw [hq]; exact hq'
      · rw [wt_cons, wt_cons, if_pos (show lpT.sort = sOp ∨ lpT.sort = sLp from .inr rfl), wt_app]
        omega
  have Tt : ∀ ts : List Tk, ts.length = n → Gr .t ts → Tot .t ts := by
    intro ts hl g rest hr l t hl1
    obtain ⟨hr1, hr2⟩ := hr
    have hrne : rest ≠ [] := by obtain ⟨u, us, rfl, _⟩ := hr1; simp
    cases g with
    | t0 => exact ⟨t, [], .t0, .stop (by rw [List.nil_append, hr2]; omega) hrne, Nat.le_refl _, Nat.le_refl _⟩
    | tbin hk h =>
      rename_i k ts
      have hk' := hk
      obtain ⟨h1, s, hs, hv⟩ := hk
      obtain ⟨l1, l2, l3, l4⟩ := lvl_bin hs
      have hlev : level (k :: (ts ++ rest)) = lvl s := level_op h1 hv
      by_cases hst : lvl s < l
      · exact ⟨t, k :: ts, .tbin hk' h, .stop (by rw [List.cons_append, hlev]; exact hst) (by simp), Nat.le_refl _, Nat.le_refl _⟩
      · have hnx : 1 ≤ nextL s := by unfold nextL; split <;> omega
        obtain ⟨r, us1, g1, p1, w1, n1⟩ := IH .e ts (by simp at hl; omega) h rest ⟨hr1, hr2⟩ (nextL s) hnx
        obtain ⟨v, us2, g2, p2, w2, n2⟩ := IH .t us1 (by simp at hl; omega) g1 rest ⟨hr1, hr2⟩ l (mkBin s t r) hl1
        have hw : wt (k :: ts) = 1 + wt ts := by rw [wt_cons, if_pos (.inl h1)]
        refine ⟨v, us2, g2, ?_, by omega, by simp; omega⟩
        exact .bin h1 hv l3 (by omega) (PR.mono p1 (by omega)) (PR.mono p2 (by omega))
    | tq hk hc h h' =>
      rename_i k c ts us
      have hlev : level (k :: (ts ++ c :: (us ++ rest))) = 1 := (level_op hk.1 hk.2).trans lvl_q
      have e1 : (k :: (ts ++ c :: us)) ++ rest = k :: (ts ++ c :: (us ++ rest)) := by simp
      have hw : wt (k :: (ts ++ c :: us)) = 1 + wt ts + (1 + wt us) := by rw [wt_cons, if_pos (.inl hk.1), wt_app, wt_cons, if_pos (.inl hc.1)]; omega
      by_cases hst : 1 < l
      · exact ⟨t, _, .tq hk hc h h', .stop (by rw [e1, hlev]; exact hst) (by simp), Nat.le_refl _, Nat.le_refl _⟩
      · have hl' : l = 1 := by omega
        subst hl'
        have hc0 : level (c :: (us ++ rest)) = 0 := (level_op hc.1 hc.2).trans lvl_c
        obtain ⟨x, us1, g1, p1, w1, n1⟩ := IH .e ts (by simp at hl; omega) h (c :: (us ++ rest)) ⟨notLp_op hc.1, hc0⟩ 1 (by decide)
        have hu1 := tail_level g1 (p1.lev 1 (.inr rfl))
        subst hu1
        obtain ⟨y, us2, g2, p2, w2, n2⟩ := IH .e us (by simp at hl; omega) h' rest ⟨hr1, hr2⟩ 1 (by decide)
        have hu2 := tail_level g2 (p2.lev 1 (.inr rfl))
        subst hu2
        refine ⟨.tup [.str tIf, t, x, y], [], .t0, ?_, by omega, by simp⟩
        rw [e1]
        exact .ite hk.1 hk.2 (by decide) (PR.mono p1 (by omega)) hc.1 hc.2 (PR.mono p2 (by omega)) (.stop (by rw [List.nil_append, hr2]; decide) hrne)
  have Te : ∀ ts : List Tk, ts.length = n → Gr .e ts → Tot .e ts := by
    intro ts hl g rest hr l hl1
    cases g with
    | e h1 h2 =>
      rename_i ts us
      have htl : ts.length ≤ n := by simp at hl; omega
      have hul : us.length < n := by
        obtain ⟨q, r, rfl, _⟩ := h1.head (by simp)
        simp at hl; omega
      have ho : Tot .o ts := by
        by_cases h : ts.length = n
        · exact To ts h h1
        · exact IH .o ts (by omega) h1
      obtain ⟨ops, ws, v, e1, e2, e3, p⟩ := ho (us ++ rest) (tail_notLp h2 hr.1)
      obtain ⟨w, us', g', p', w', n'⟩ := IH .t us hul h2 rest hr l (wrapOps (ops.map (·.v)) v) hl1
      refine ⟨w, us', g', ?_, by rw [wt_app]; omega, ?_⟩
      · rw [List.append_assoc, e1]
        exact .climb (.pre e3 (by omega) (PR.mono p (by rw [wt_app]; omega))) (PR.mono p' (by rw [wt_app]; omega))
      · obtain ⟨q, r, rfl, _⟩ := h1.head (by simp)
        simp; omega
  have Ta : ∀ ts : List Tk, ts.length = n → Gr .a ts → Tot .a ts := by
    intro ts hl g rest
    cases g with
    | a1 h =>
      have hs : level (rpT :: rest) = 0 := level_ne (by decide)
      obtain ⟨v, us', g', p, _, n1⟩ := Te ts hl h (rpT :: rest) ⟨⟨rpT, rest, rfl, by decide⟩, hs⟩ 1 (by decide)
      have hus := tail_level g' (p.lev 1 (.inr rfl))
      subst hus
      exact ⟨[v], by simp at n1 ⊢; omega, .args1 p rfl⟩
    | an h h' =>
      rename_i ts us
      have hs : level (cmT :: (us ++ rpT :: rest)) = 0 := level_ne (by decide)
      obtain ⟨v, us', g', p, _, n1⟩ := IH .e ts (by simp at hl; omega) h (cmT :: (us ++ rpT :: rest)) ⟨⟨cmT, _, rfl, by decide⟩, hs⟩ 1 (by decide)
      have hus := tail_level g' (p.lev 1 (.inr rfl))
      subst hus
      obtain ⟨vs, hv, p2⟩ := IH .a us (by simp at hl; omega) h' rest
      refine ⟨v :: vs, by simp; omega, ?_⟩
      have e : (ts ++ cmT :: us) ++ rpT :: rest = ts ++ cmT :: (us ++ rpT :: rest) := by simp
      rw [e]
      exact .argsn (PR.mono p (by rw [wt_app]; omega)) rfl (PR.mono p2 (by rw [wt_app, wt_cons]; omega))
  intro k ts hl g
  cases k with
  | o => exact To ts hl g
  | t => exact Tt ts hl g
  | e => exact Te ts hl g
  | a => exact Ta ts hl g

theorem reads {ts : List Tk} (g : Gr .e ts) (hn : ts.length ≤ 1000) : ∃ v, PR (wt ts + 1) (.climb 1) (ts ++ [endT]) v [endT] := by
  have hs : level [endT] = 0 := level_ne (by decide)
  obtain ⟨v, us', g', p, _, _⟩ := tot ts.length hn .e ts rfl g [endT] ⟨⟨endT, [], rfl, by decide⟩, hs⟩ 1 (by decide)
  have hus := tail_level g' (p.lev 1 (.inr rfl))
  subst hus
  exact ⟨v, p⟩

inductive Min : G → List Tk → Prop
  | wrap {v : V} {l : Int} {ts : List Tk} : hold v < l → Min (.n v (hold v)) ts → Min (.n v l) (lpT :: (ts ++ [rpT]))
  | leaf {v : V} {k : Tk} {l : Int} : LeafOk v k → hold v = 13 → base v = 0 → l ≤ 13 → Min (.n v l) [k]
  | un {v : V} {l : Int} {k : Tk} {s : Txt} {ts : List Tk} : k.sort = sOp → k.v = .str s → s ∈ preOps → l ≤ 13 → Min (.n v 13) ts → Min (.n (.tup [.str tUn, .str s, v]) l) (k :: ts)
  | bin {a b : V} {l : Int} {k : Tk} {s : Txt} {ts us : List Tk} : k.sort = sOp → k.v = .str s → s ∈ binOps → l ≤ lvl s → Min (.n a (lreq s)) ts → Min (.n b (nextL s)) us → Min (.n (mkBin s a b) l) (ts ++ k :: us)
  | ite {a b c : V} {l : Int} {k e : Tk} {ts us ws : List Tk} : isQ k → isC e → l ≤ 1 → Min (.n a 2) ts → Min (.n b 1) us → Min (.n c 1) ws → Min (.n (.tup [.str tIf, a, b, c]) l) (ts ++ k :: (us ++ e :: ws))
  | call {k : Tk} {w : Txt} {l : Int} {vs : List V} {ts : List Tk} : k.sort = sWord → k.v = .str w → l ≤ 13 → Min (.as vs) ts → Min (.n (.tup [.str tCall, .str w, .tup vs]) l) (k :: lpT :: (ts ++ [rpT]))
  | as0 : Min (.as []) []
  | as1 {a : V} {ts : List Tk} : Min (.n a 1) ts → Min (.as [a]) ts
  | asn {a b : V} {vs : List V} {ts us : List Tk} : Min (.n a 1) ts → Min (.as (b :: vs)) us → Min (.as (a :: b :: vs)) (ts ++ cmT :: us)
inductive Cut : G → List Tk → Prop
  | here {v : V} {l : Int} {ts : List Tk} : hold v < l → Min (.n v (hold v)) ts → Cut (.n v l) ts
  | wrap {v : V} {l : Int} {ts : List Tk} : hold v < l → Cut (.n v (hold v)) ts → Cut (.n v l) (lpT :: (ts ++ [rpT]))
  | un {v : V} {l : Int} {k : Tk} {s : Txt} {ts : List Tk} : k.sort = sOp → k.v = .str s → s ∈ preOps → l ≤ 13 → Cut (.n v 13) ts → Cut (.n (.tup [.str tUn, .str s, v]) l) (k :: ts)
  | binL {a b : V} {l : Int} {k : Tk} {s : Txt} {ts us : List Tk} : k.sort = sOp → k.v = .str s → s ∈ binOps → l ≤ lvl s → Cut (.n a (lreq s)) ts → Min (.n b (nextL s)) us → Cut (.n (mkBin s a b) l) (ts ++ k :: us)
  | binR {a b : V} {l : Int} {k : Tk} {s : Txt} {ts us : List Tk} : k.sort = sOp → k.v = .str s → s ∈ binOps → l ≤ lvl s → Min (.n a (lreq s)) ts → Cut (.n b (nextL s)) us → Cut (.n (mkBin s a b) l) (ts ++ k :: us)
  | ite1 {a b c : V} {l : Int} {k e : Tk} {ts us ws : List Tk} : isQ k → isC e → l ≤ 1 → Cut (.n a 2) ts → Min (.n b 1) us → Min (.n c 1) ws → Cut (.n (.tup [.str tIf, a, b, c]) l) (ts ++ k :: (us ++ e :: ws))
  | ite2 {a b c : V} {l : Int} {k e : Tk} {ts us ws : List Tk} : isQ k → isC e → l ≤ 1 → Min (.n a 2) ts → Cut (.n b 1) us → Min (.n c 1) ws → Cut (.n (.tup [.str tIf, a, b, c]) l) (ts ++ k :: (us ++ e :: ws))
  | ite3 {a b c : V} {l : Int} {k e : Tk} {ts us ws : List Tk} : isQ k → isC e → l ≤ 1 → Min (.n a 2) ts → Min (.n b 1) us → Cut (.n c 1) ws → Cut (.n (.tup [.str tIf, a, b, c]) l) (ts ++ k :: (us ++ e :: ws))
  | call {k : Tk} {w : Txt} {l : Int} {vs : List V} {ts : List Tk} : k.sort = sWord → k.v = .str w → l ≤ 13 → Cut (.as vs) ts → Cut (.n (.tup [.str tCall, .str w, .tup vs]) l) (k :: lpT :: (ts ++ [rpT]))
  | as1 {a : V} {ts : List Tk} : Cut (.n a 1) ts → Cut (.as [a]) ts
  | asnL {a b : V} {vs : List V} {ts us : List Tk} : Cut (.n a 1) ts → Min (.as (b :: vs)) us → Cut (.as (a :: b :: vs)) (ts ++ cmT :: us)
  | asnR {a b : V} {vs : List V} {ts us : List Tk} : Min (.n a 1) ts → Cut (.as (b :: vs)) us → Cut (.as (a :: b :: vs)) (ts ++ cmT :: us)

noncomputable def ndG : G → Nat
  | .n v l => nd v l
  | .as vs => basesT vs

theorem lps_paren (ts : List Tk) : lps (lpT :: (ts ++ [rpT])) = 1 + lps ts := by
  rw [lps_cons, if_pos rfl, lps_app]
  rfl
theorem lps_op {k : Tk} {ts : List Tk} (h : k.sort = sOp) : lps (k :: ts) = lps ts := by rw [lps_cons, if_neg (by rw [h]; decide)]; omega
theorem lps_word {k : Tk} {ts : List Tk} (h : k.sort = sWord) : lps (k :: ts) = lps ts := by rw [lps_cons, if_neg (by rw [h]; decide)]; omega
theorem lps_cm (ts : List Tk) : lps (cmT :: ts) = lps ts := by rw [lps_cons, if_neg (by decide)]; omega
theorem nd_wrap {v : V} {l : Int} (h : hold v < l) : nd v l = 1 + nd v (hold v) := by unfold nd wr; rw [if_pos h, if_neg (by omega)]; omega

theorem Min.count {g : G} {ts : List Tk} (h : Min g ts) : lps ts = ndG g := by
  induction h with
  | wrap h _ i => rw [lps_paren, i]; exact (nd_wrap h).symm
  | leaf h1 h2 h3 h4 =>
    rw [lps_cons, if_neg h1.2.1]
    show _ = nd _ _
    rw [nd_hold _ (by rw [h2]; exact h4), h3]; rfl
  | un a b c d _ i =>
    rw [lps_op a, i]
    refine Eq.trans ?_ (nd_hold _ (by rw [hold_un]; exact d)).symm
    show nd _ _ = base _
    rw [base_un]
  | bin a b c d _ _ i j =>
    rw [lps_app, lps_op a, i, j]
    refine Eq.trans ?_ (nd_hold _ (by rw [hold_mk]; exact d)).symm
    show nd _ _ + nd _ _ = base _
    rw [base_mk]
  | ite a b c _ _ _ i j k =>
    rw [lps_app, lps_op a.1, lps_app, lps_op b.1, i, j, k]
    refine Eq.trans ?_ (nd_hold _ (by rw [hold_if]; exact c)).symm
    show nd _ _ + (nd _ _ + nd _ _) = base _
    rw [base_if]; omega
  | call a b c _ i =>
    rw [lps_word a, lps_paren, i]
    refine Eq.trans ?_ (nd_hold _ (by rw [hold_call']; exact c)).symm
    show 1 + basesT _ = base _
    rw [base_call]
  | as0 => rfl
  | as1 _ i => rw [i]; show nd _ _ = (wr _ 1 + base _) + 0; rfl
  | asn _ _ i j => rw [lps_app, lps_cm, i, j]; rfl
theorem Cut.count {g : G} {ts : List Tk} (h : Cut g ts) : lps ts + 1 = ndG g := by
  induction h with
  | here h m => rw [m.count]; show nd _ _ + 1 = nd _ _; rw [nd_wrap h]; omega
  | wrap h _ i =>
    rw [lps_paren]
    show _ = nd _ _
    rw [nd_wrap h]
    have : lps _ + 1 = nd _ _ := i
    omega
  | un a b c d _ i =>
    rw [lps_op a, i]
    refine Eq.trans ?_ (nd_hold _ (by rw [hold_un]; exact d)).symm
    show nd _ _ = base _
    rw [base_un]
  | binL a b c d _ m i =>
    rw [lps_app, lps_op a, m.count]
    refine Eq.trans ?_ (nd_hold _ (by rw [hold_mk]; exact d)).symm
    show _ + nd _ _ + 1 = base _
    rw [base_mk]
    have : lps _ + 1 = nd _ _ := i
    omega
  | binR a b c d m _ i =>
    rw [lps_app, lps_op a, m.count]
    refine Eq.trans ?_ (nd_hold _ (by rw [hold_mk]; exact d)).symm
    show nd _ _ + _ + 1 = base _
    rw [base_mk]
    have : lps _ + 1 = nd _ _ := i
    omega
  | ite1 a b c _ m1 m2 i =>
    rw [lps_app, lps_op a.1, lps_app, lps_op b.1, m1.count, m2.count]
    refine Eq.trans ?_ (nd_hold _ (by rw [hold_if]; exact c)).symm
    show _ + (nd _ _ + nd _ _) + 1 = base _
    rw [base_if]
    have : lps _ + 1 = nd _ _ := i
    omega
  | ite2 a b c m1 _ m2 i =>
    rw [lps_app, lps_op a.1, lps_app, lps_op b.1, m1.count, m2.count]
    refine Eq.trans ?_ (nd_hold _ (by rw [hold_if]; exact c)).symm
    show nd _ _ + (_ + nd _ _) + 1 = base _
    rw [base_if]
    have : lps _ + 1 = nd _ _ := i
    omega
  | ite3 a b c m1 m2 _ i =>
    rw [lps_app, lps_op a.1, lps_app, lps_op b.1, m1.count, m2.count]
    refine Eq.trans ?_ (nd_hold _ (by rw [hold_if]; exact c)).symm
    show nd _ _ + (nd _ _ + _) + 1 = base _
    rw [base_if]
    have : lps _ + 1 = nd _ _ := i
    omega
  | call a b c _ i =>
    rw [lps_word a, lps_paren]
    refine Eq.trans ?_ (nd_hold _ (by rw [hold_call']; exact c)).symm
    show _ = base _
    rw [base_call]
    have : lps _ + 1 = basesT _ := i
    omega
  | as1 _ i => rw [i]; rfl
  | asnL _ m i =>
    rw [lps_app, lps_cm, m.count]
    have : lps _ + 1 = nd _ _ := i
    show _ + basesT _ + 1 = nd _ _ + basesT _
    omega
  | asnR m _ i =>
    rw [lps_app, lps_cm, m.count]
    have : lps _ + 1 = basesT _ := i
    show nd _ _ + _ + 1 = nd _ _ + basesT _
    omega

noncomputable def GrG : G → List Tk → Prop
  | .n v l, ts => Gr .e ts ∧ (13 ≤ l → Gr .o ts)
  | .as vs, ts => vs ≠ [] → Gr .a ts
theorem o_e {ts : List Tk} (h : Gr .o ts) : Gr .e ts := by simpa using Gr.e h .t0
set_option tactic.hygienic true in
theorem Min.gr {g : G} {ts : List Tk} (h : Min g ts) : GrG g ts := by
  induction h with
  | wrap h _ i => have := Gr.paren i.1; exact ⟨o_e this, fun _ => this⟩
  | leaf h1 h2 h3 h4 => have := Gr.leaf ⟨_, h1⟩; exact ⟨o_e this, fun _ => this⟩
  | un a b c d _ i => have := Gr.un ⟨a, _, c, b⟩ (i.2 (by decide)); exact ⟨o_e this, fun _ => this⟩
  | bin a b c d _ _ i j =>
    refine ⟨(i.1.ext _ (.tbin ⟨a, _, c, b⟩ j.1)).1 rfl, fun h => ?_⟩
    have := lvl_bin c; omega
  | ite a b c _ _ _ i j k => exact ⟨(i.1.ext _ (.tq a b j.1 k.1)).1 rfl, fun h => by omega⟩
  | call a b c m i =>
    rename_i k w l vs ts
    by_cases hv : vs = []
    · subst hv
      cases m with
      | as0 => have := Gr.call0 ⟨a, _, b⟩; exact ⟨o_e this, fun _ => this⟩
    · have := Gr.call ⟨a, _, b⟩ (i hv)
      exact ⟨o_e this, fun _ => this⟩
  | as0 => intro h; exact absurd rfl h
  | as1 _ i => intro _; exact .a1 i.1
  | asn _ _ i j => intro _; exact .an i.1 (j (by simp))
theorem Cut.gr {g : G} {ts : List Tk} (h : Cut g ts) : match g with | .n _ _ => Gr .e ts | .as _ => Gr .a ts := by
  induction h with
  | here h m => exact m.gr.1
  | wrap h _ i => exact o_e (.paren i)
  | un a b c d _ i => exact Gr.pre ⟨a, _, c, b⟩ i
  | binL a b c d _ m i => exact (Gr.ext i _ (.tbin ⟨a, _, c, b⟩ m.gr.1)).1 rfl
  | binR a b c d m _ i => exact (m.gr.1.ext _ (.tbin ⟨a, _, c, b⟩ i)).1 rfl
  | ite1 a b c _ m1 m2 i => exact (Gr.ext i _ (.tq a b m1.gr.1 m2.gr.1)).1 rfl
  | ite2 a b c m1 _ m2 i => exact (m1.gr.1.ext _ (.tq a b i m2.gr.1)).1 rfl
  | ite3 a b c m1 m2 _ i => exact (m1.gr.1.ext _ (.tq a b m2.gr.1 i)).1 rfl
  | call a b c _ i => exact o_e (.call ⟨a, _, b⟩ i)
  | as1 _ i => exact .a1 i
  | asnL _ m i => exact .an i (m.gr (by simp))
  | asnR m _ i => exact .an m.gr.1 i

theorem other {v : V} {ts : List Tk} (h : Cut (.n v 1) ts) (hn : ts.length ≤ 1000) : ∃ w, PR (wt ts + 1) (.climb 1) (ts ++ [endT]) w [endT] ∧ w ≠ v := by
  obtain ⟨w, p⟩ := reads h.gr hn
  refine ⟨w, p, ?_⟩
  rintro rfl
  have h1 : nd w 1 + lps [endT] ≤ lps (ts ++ [endT]) := p.needs (by decide) (by decide)
  have h2 : lps ts + 1 = nd w 1 := h.count
  rw [lps_app] at h1
  omega
set_option maxHeartbeats 200000
noncomputable def lastw (s : Txt) : Bool := match s.getLast? with
  | some c => isAln c || c == 95
  | none => false
noncomputable def headw (s : Txt) : Bool := match s.head? with
  | some c => isAln c || c == 95
  | none => false
noncomputable def secs : List Nat := [42, 60, 62, 61, 38, 124]
noncomputable def StartC (t : Tk) : Prop := ∀ c, t.s.head? = some c → c ∉ secs ∧ c ≠ 58
structure TkF (t : Tk) : Prop where
  ok : t.Ok
  len : t.s.length ≤ 60
  ascii : ∀ c ∈ t.s, c < 128
  endw : t.cl = .word ∨ t.cl = .vari → lastw t.s = true
  h46 : t.s.head? ≠ some 46
  h58 : t.s.head? = some 58 → t.s = [58]
  opv : t.sort = sOp → ∃ o, t.v = .str o ∧ (o ∈ preOps → StartC t) ∧ t.s.head? ≠ some 40
  opc : t.sort = sOp → t.cl ≠ .vari
  wdc : t.sort = sWord → t.cl = .word
  oth : t.sort ≠ sOp → t.sort ≠ sLp → t.sort ≠ sRp → t.sort ≠ sCm → t.cl ≠ .op ∧ StartC t
noncomputable def Adj (t u : Tk) : Prop := (t.cl = .op → ∀ c, u.s.head? = some c → c ∉ secs) ∧ (t.cl = .vari → u.s.head? ≠ some 40) ∧ (t.s = [58] → u.s.head? ≠ some 58)
noncomputable def Ch : List Tk → Prop
  | t :: u :: r => Adj t u ∧ Ch (u :: r)
  | _ => True
theorem Ch.app : ∀ {ts us : List Tk}, Ch ts → Ch us → (∀ t u, ts.getLast? = some t → us.head? = some u → Adj t u) → Ch (ts ++ us)
  | [], us, _, h, _ => h
  | [t], [], _, _, _ => trivial
  | [t], u :: us, _, h, a => ⟨a t u rfl rfl, h⟩
  | t :: t' :: ts, us, h, h', a => ⟨h.1, Ch.app (ts := t' :: ts) h.2 h' fun x y hx hy => a x y (by rw [List.getLast?_cons_cons]; exact hx) hy⟩

theorem lp_start : StartC lpT := by intro c h; cases h; exact ⟨by decide, by decide⟩

theorem last_app (ts : List Tk) (u : Tk) (r : List Tk) : (ts ++ u :: r).getLast? = (u :: r).getLast? := by
  rw [List.getLast?_append]
  cases h : (u :: r).getLast? with
  | none => simp at h
  | some w => rfl

noncomputable def First (k : K) (ts : List Tk) : Prop := match k with
  | .t => ∀ u, ts.head? = some u → u.sort = sOp ∧ (isBin u ∨ isQ u)
  | _ => ∃ u r, ts = u :: r ∧ StartC u
noncomputable def Last (k : K) (ts : List Tk) : Prop := ∀ t, ts.getLast? = some t → t.cl ≠ .op ∧ t.s ≠ [58]

theorem leaf_f {k : Tk} (f : TkF k) (h : LeafE k) : k.cl ≠ .op ∧ StartC k := by
  obtain ⟨v, hv⟩ := h
  exact f.oth hv.1 hv.2.1 hv.2.2.1 hv.2.2.2.1
theorem start_58 {k : Tk} (h : StartC k) : k.s ≠ [58] := by
  intro e
  have := (h 58 (by rw [e]; rfl)).2
  exact this rfl
theorem adj_start {t u : Tk} (h : StartC u) (hv : t.cl ≠ .vari) : Adj t u := ⟨fun _ c hc => (h c hc).1, fun e => absurd e hv, fun _ z => (h 58 z).2 rfl⟩
theorem adj_op {t u : Tk} (h1 : t.cl ≠ .op) (h2 : t.s ≠ [58]) (h3 : u.s.head? ≠ some 40) : Adj t u := ⟨fun e => absurd e h1, fun _ => h3, fun e => absurd e h2⟩

set_option tactic.hygienic true in
theorem Gr.chain {k : K} {ts : List Tk} (h : Gr k ts) : (∀ t ∈ ts, TkF t) → Ch ts ∧ First k ts ∧ Last k ts := by
  have nl : ∀ {k : Tk} {s : Txt}, TkF k → k.sort = sOp → k.s.head? ≠ some 40 := fun f h => (f.opv h).choose_spec.2.2
  have rp40 : rpT.s.head? ≠ some 40 := by decide
  have cm40 : cmT.s.head? ≠ some 40 := by decide
  have lastRp : ∀ (us : List Tk) (t : Tk), (us ++ [rpT]).getLast? = some t → t.cl ≠ .op ∧ t.s ≠ [58] := by
    intro us t ht
    rw [List.getLast?_append] at ht
    simp at ht
    subst ht
    exact ⟨fun e => (by cases e), (by show ([41] : Txt) ≠ [58]; decide)⟩
  induction h with
  | leaf h =>
    rename_i k
    intro F
    obtain ⟨a, b⟩ := leaf_f (F k (by simp)) h
    exact ⟨trivial, ⟨k, [], rfl, b⟩, fun t ht => by cases ht; exact ⟨a, start_58 b⟩⟩
  | paren h i =>
    rename_i ts
    intro F
    obtain ⟨c, ⟨u, r, rfl, hu⟩, l⟩ := i (fun t ht => F t (by simp [ht]))
    refine ⟨⟨adj_start hu (by intro e; cases e), Ch.app (ts := u :: r) c trivial fun x y hx hy => ?_⟩, ⟨lpT, _, rfl, lp_start⟩, fun t ht => lastRp (lpT :: u :: r) t ht⟩
    cases hy
    obtain ⟨a, b⟩ := l x hx
    exact adj_op a b rp40
  | un hk h i =>
    rename_i k ts
    intro F
    obtain ⟨c, ⟨u, r, rfl, hu⟩, l⟩ := i (fun t ht => F t (by simp [ht]))
    obtain ⟨o, ho, h1, h2⟩ := (F k (by simp)).opv hk.1
    obtain ⟨s, hs, hv⟩ := hk.2
    rw [hv] at ho; cases ho
    refine ⟨⟨adj_start hu ((F k (by simp)).opc hk.1), c⟩, ⟨k, _, rfl, h1 hs⟩, fun t ht => l t (by rw [List.getLast?_cons_cons] at ht; exact ht)⟩
  | call0 h =>
    rename_i k
    intro F
    obtain ⟨a, b⟩ := (F k (by simp)).oth (by rw [h.1]; decide) (by rw [h.1]; decide) (by rw [h.1]; decide) (by rw [h.1]; decide)
    have hw := (F k (by simp)).wdc h.1
    refine ⟨⟨⟨fun e => absurd e a, fun e => (by rw [hw] at e; cases e), fun e => absurd e (start_58 b)⟩, ⟨fun e => (by cases e), fun e => (by cases e), fun e => absurd e (by decide)⟩, trivial⟩, ⟨k, _, rfl, b⟩, fun t ht => ?_⟩
    cases ht
    exact ⟨fun e => (by cases e), by show ([41] : Txt) ≠ [58]; decide⟩
  | call h g i =>
    rename_i k ts
    intro F
    obtain ⟨c, ⟨u, r, rfl, hu⟩, l⟩ := i (fun t ht => F t (by simp [ht]))
    obtain ⟨a, b⟩ := (F k (by simp)).oth (by rw [h.1]; decide) (by rw [h.1]; decide) (by rw [h.1]; decide) (by rw [h.1]; decide)
    have hw := (F k (by simp)).wdc h.1
    refine ⟨⟨⟨fun e => absurd e a, fun e => (by rw [hw] at e; cases e), fun e => absurd e (start_58 b)⟩, adj_start hu (by intro e; cases e), Ch.app (ts := u :: r) c trivial fun x y hx hy => ?_⟩, ⟨k, _, rfl, b⟩, fun t ht => lastRp (k :: lpT :: u :: r) t ht⟩
    cases hy
    obtain ⟨a, b⟩ := l x hx
    exact adj_op a b rp40
  | e h1 h2 i1 i2 =>
    rename_i ts us
    intro F
    obtain ⟨c, ⟨u, r, rfl, hu⟩, l⟩ := i1 (fun t ht => F t (List.mem_append_left _ ht))
    obtain ⟨c', f', l'⟩ := i2 (fun t ht => F t (by simp [ht]))
    refine ⟨Ch.app c c' fun x y hx hy => ?_, ⟨u, _, rfl, hu⟩, fun t ht => ?_⟩
    · obtain ⟨a, b⟩ := l x hx
      obtain ⟨q1, _⟩ := f' y hy
      have hy' : y ∈ us := List.mem_of_mem_head? hy
      exact adj_op a b (nl (s := []) (F y (by simp [hy'])) q1)
    · rw [List.getLast?_append] at ht
      cases hl : us.getLast? with
      | none => rw [hl] at ht; exact l t ht
      | some w => rw [hl] at ht; cases ht; exact l' _ hl
  | t0 => intro _; exact ⟨trivial, fun u h => (by cases h), fun t h => (by cases h)⟩
  | tbin hk h i =>
    rename_i k ts
    intro F
    obtain ⟨c, ⟨u, r, rfl, hu⟩, l⟩ := i (fun t ht => F t (by simp [ht]))
    exact ⟨⟨adj_start hu ((F k (by simp)).opc hk.1), c⟩, fun u h => by cases h; exact ⟨hk.1, .inl hk⟩, fun t ht => l t (by rw [List.getLast?_cons_cons] at ht; exact ht)⟩
  | tq hk hc h h' i j =>
    rename_i k e ts us
    intro F
    obtain ⟨c, ⟨u, r, rfl, hu⟩, l⟩ := i (fun t ht => F t (List.mem_cons_of_mem _ (List.mem_append_left _ ht)))
    obtain ⟨c', ⟨u', r', rfl, hu'⟩, l'⟩ := j (fun t ht => F t (List.mem_cons_of_mem _ (List.mem_append_right _ (List.mem_cons_of_mem _ ht))))
    have hke : e.sort = sOp := hc.1
    refine ⟨⟨adj_start hu ((F k (by simp)).opc hk.1), Ch.app (ts := u :: r) c ⟨adj_start hu' ((F e (by simp)).opc hke), c'⟩ fun x y hx hy => ?_⟩, fun u h => by cases h; exact ⟨hk.1, .inr hk⟩, fun t ht => ?_⟩
    · cases hy
      obtain ⟨a, b⟩ := l x hx
      exact adj_op a b (nl (s := []) (F e (by simp)) hke)
    · have e1 : (k :: (u :: r ++ e :: u' :: r')).getLast? = (u' :: r').getLast? := by
        rw [show k :: (u :: r ++ e :: u' :: r') = (k :: u :: r ++ [e]) ++ u' :: r' by simp, last_app]
      rw [e1] at ht
      exact l' t ht
  | a1 h i => intro F; exact i F
  | an h h' i j =>
    rename_i ts us
    intro F
    obtain ⟨c, ⟨u, r, rfl, hu⟩, l⟩ := i (fun t ht => F t (List.mem_append_left _ ht))
    obtain ⟨c', ⟨u', r', rfl, hu'⟩, l'⟩ := j (fun t ht => F t (List.mem_append_right _ (List.mem_cons_of_mem _ ht)))
    refine ⟨Ch.app c ⟨adj_start hu' (by intro e; cases e), c'⟩ fun x y hx hy => ?_, ⟨u, _, rfl, hu⟩, fun t ht => ?_⟩
    · cases hy
      obtain ⟨a, b⟩ := l x hx
      exact adj_op a b cm40
    · have e1 : (u :: r ++ cmT :: u' :: r').getLast? = (u' :: r').getLast? := by
        rw [show u :: r ++ cmT :: u' :: r' = (u :: r ++ [cmT]) ++ u' :: r' by simp, last_app]
      rw [e1] at ht
      exact l' t ht
set_option maxHeartbeats 200000
noncomputable def gapList : List Txt := [[], [32], [], [10], [9, 32], [92, 10], [35, 32, 41, 32, 91, 10], [], [11, 12, 13]]
noncomputable def gapS (gf : Nat → Nat) (k : Nat) (lw : Bool) (s : Txt) : Txt := if (gapList[gf k]?).getD [] = [] ∧ lw = true ∧ headw s = true then [32] else (gapList[gf k]?).getD []
noncomputable def itS : Option Tk → Txt
  | none => [32]
  | some t => t.s
noncomputable def sf (gf : Nat → Nat) : Nat → Bool → List (Option Tk) → Txt
  | _, _, [] => []
  | k, lw, it :: r => gapS gf k lw (itS it) ++ (itS it ++ sf gf (k + 1) (lastw (itS it)) r)

theorem gap_mem (gf : Nat → Nat) (k : Nat) (lw : Bool) (s : Txt) : gapS gf k lw s ∈ gapList := by
  unfold gapS
  split
  · decide
  · cases h : gapList[gf k]? with
    | none => show ([] : Txt) ∈ _; decide
    | some g => exact List.mem_of_getElem? h
theorem gap_sk {g : Txt} (hg : g ∈ gapList) {b s : Txt} (h : Sk b s) : Sk (g ++ b) s := by
  unfold gapList at hg
  simp only [List.mem_cons, List.not_mem_nil, or_false] at hg
  rcases hg with rfl | rfl | rfl | rfl | rfl | rfl | rfl | rfl | rfl
  · exact h
  · exact .blank rfl h
  · exact h
  · exact .blank rfl h
  · exact .blank rfl (.blank rfl h)
  · exact .bs h
  · exact .com (u := [32, 41, 32, 91]) (by decide) (.blank rfl h)
  · exact h
  · exact .blank rfl (.blank rfl (.blank rfl h))
theorem gap_head {g : Txt} (hg : g ∈ gapList) : g = [] ∨ ∃ c r, g = c :: r ∧ c ∈ [32, 10, 9, 92, 35, 11] := by
  unfold gapList at hg
  simp only [List.mem_cons, List.not_mem_nil, or_false] at hg
  rcases hg with rfl | rfl | rfl | rfl | rfl | rfl | rfl | rfl | rfl
  · exact .inl rfl
  · exact .inr ⟨_, _, rfl, by decide⟩
  · exact .inl rfl
  · exact .inr ⟨_, _, rfl, by decide⟩
  · exact .inr ⟨_, _, rfl, by decide⟩
  · exact .inr ⟨_, _, rfl, by decide⟩
  · exact .inr ⟨_, _, rfl, by decide⟩
  · exact .inl rfl
  · exact .inr ⟨_, _, rfl, by decide⟩
theorem Lexd.gap {g : Txt} (hg : g ∈ gapList) {b : Txt} {ts : List Tk} (h : Lexd b ts) : Lexd (g ++ b) ts := by
  cases h with
  | nil h => exact .nil (gap_sk hg h)
  | cons h1 h2 h3 h4 => exact .cons (gap_sk hg h1) h2 h3 h4

theorem isAln_wl {c : Nat} (h : c < 128) : wl c = (isAln c || c == 95) := by
  have : ∀ c, c < 128 → wl c = (isAln c || c == 95) := by decide +kernel
  exact this c h

inductive Beh : Txt → Prop
  | nil : Beh []
  | gap {c : Nat} {r : Txt} : c ∈ [32, 10, 9, 92, 35, 11] → Beh (c :: r)
set_option tactic.hygienic true in
theorem beh_fol {r : Txt} (h : Beh r) (cl : Cl) : fol cl r := by
  cases h with
  | nil => cases cl <;> first | trivial | exact ⟨rfl, by simp⟩ | (intro c h; cases h)
  | gap hc =>
    rename_i c r
    have h1 : wl c = false ∧ c ≠ 58 ∧ c ≠ 46 ∧ c ≠ 40 ∧ c ∉ [42, 60, 62, 61, 38, 124] := by
      have : ∀ c ∈ [32, 10, 9, 92, 35, 11], wl c = false ∧ c ≠ 58 ∧ c ≠ 46 ∧ c ≠ 40 ∧ c ∉ [42, 60, 62, 61, 38, 124] := by decide
      exact this c hc
    have hr : noRun (c :: r) = true := by
      show (!wl c && !(c == 58 && r.head? == some 58)) = true
      rw [h1.1]
      have : (c == 58) = false := by simpa using h1.2.1
      rw [this]; rfl
    cases cl with
    | any => trivial
    | word => exact ⟨hr, by simpa using h1.2.2.1⟩
    | vari => exact ⟨hr, by simpa using h1.2.2.2.1⟩
    | op => intro d hd; cases hd; exact h1.2.2.2.2

theorem sf_beh (gf : Nat → Nat) (k : Nat) (lw : Bool) (items : List (Option Tk)) : Beh (sf gf k lw items) ∨ ∃ u r, items = some u :: r ∧ gapS gf k lw u.s = [] := by
  cases items with
  | nil => exact .inl .nil
  | cons it r =>
    rcases gap_head (gap_mem gf k lw (itS it)) with h | ⟨c, g, h, hc⟩
    · cases it with
      | none =>
        left
        show Beh (gapS gf k lw [32] ++ ([32] ++ _))
        have h' : gapS gf k lw [32] = [] := h
        rw [h']
        exact .gap (by decide)
      | some u => exact .inr ⟨u, r, rfl, h⟩
    · left
      show Beh (gapS gf k lw (itS it) ++ _)
      rw [h]
      exact .gap hc

set_option tactic.hygienic true in
theorem gap_none {gf : Nat → Nat} {k : Nat} {s : Txt} (h : gapS gf k true s = []) : headw s = false := by
  unfold gapS at h
  split at h
  · cases h
  · rename_i hn
    cases hh : headw s with
    | false => rfl
    | true => exact absurd ⟨h, rfl, hh⟩ hn

theorem lexd_items (gf : Nat → Nat) : ∀ (items : List (Option Tk)) (k : Nat) (lw : Bool), Ch (items.filterMap id) → (∀ t ∈ items.filterMap id, TkF t) → Lexd (sf gf k lw items) (items.filterMap id) := by
  intro items
  induction items with
  | nil => intro k lw _ _; exact .nil .nil
  | cons it r ih =>
    intro k lw hc hf
    cases it with
    | none =>
      have := ih (k + 1) (lastw [32]) hc hf
      exact (this.gap (g := [32]) (by decide)).gap (gap_mem gf k lw [32])
    | some t =>
      have hft := hf t (by simp)
      have hcr : Ch (r.filterMap id) := by
        have hc : Ch (t :: r.filterMap id) := hc
        cases hr : r.filterMap id with
        | nil => trivial
        | cons u us => rw [hr] at hc; exact hc.2
      have rest := ih (k + 1) (lastw t.s) hcr (fun u hu => hf u (by simp at hu ⊢; exact .inr hu))
      obtain ⟨c, u, hcu, b1, b2, b3⟩ := hft.ok.head
      have hsk : Sk (t.s ++ sf gf (k + 1) (lastw t.s) r) (t.s ++ sf gf (k + 1) (lastw t.s) r) := by rw [hcu]; exact .stop b1 b2 b3
      refine .cons (gap_sk (gap_mem gf k lw t.s) hsk) hft.ok ?_ rest
      rcases sf_beh gf (k + 1) (lastw t.s) r with hb | ⟨w, r', rfl, hg⟩
      · exact beh_fol hb _
      · have hfw := hf w (by simp)
        have hc : Ch (t :: w :: r'.filterMap id) := hc
        obtain ⟨a1, a2, a3⟩ := hc.1
        obtain ⟨d, v, hdv, e1, e2, e3⟩ := hfw.ok.head
        show fol t.cl (gapS gf (k + 1) (lastw t.s) w.s ++ (w.s ++ sf gf (k + 1 + 1) (lastw w.s) r'))
        rw [hg, List.nil_append]
        have hhead : (w.s ++ sf gf (k + 1 + 1) (lastw w.s) r').head? = w.s.head? := by rw [hdv]; rfl
        have run : t.cl = .word ∨ t.cl = .vari → noRun (w.s ++ sf gf (k + 1 + 1) (lastw w.s) r') = true := by
          intro hcl
          have hl := hft.endw hcl
          rw [hl] at hg
          have hh := gap_none hg
          have hd128 : d < 128 := hfw.ascii d (by rw [hdv]; simp)
          rw [hdv] at hh
          have hwl : wl d = false := by rw [isAln_wl hd128]; exact hh
          rw [hdv]
          show (!wl d && !(d == 58 && (v ++ sf gf (k + 1 + 1) (lastw (d :: v)) r').head? == some 58)) = true
          rw [hwl]
          by_cases h58 : d = 58
          · subst h58
            have hs := hfw.h58 (by rw [hdv]; rfl)
            rw [hdv] at hs
            cases hs
            have : (sf gf (k + 1 + 1) (lastw [58]) r').head? ≠ some 58 := by
              rcases sf_beh gf (k + 1 + 1) (lastw [58]) r' with hb | ⟨z, r'', rfl, hg2⟩
              · generalize sf gf (k + 1 + 1) (lastw [58]) r' = q at hb ⊢
                intro z
                cases hb with
                | nil => cases z
                | gap hc => cases z; exact absurd hc (by decide)
              · intro hz
                have hfz := hf z (by simp)
                obtain ⟨dz, vz, hdz, _⟩ := hfz.ok.head
                have hc2 : Ch (w :: z :: r''.filterMap id) := hc.2
                have := hc2.1.2.2 (by rw [hdv])
                apply this
                have e : sf gf (k + 1 + 1) (lastw [58]) (some z :: r'') = gapS gf (k + 1 + 1) (lastw [58]) z.s ++ (z.s ++ sf gf (k + 1 + 1 + 1) (lastw z.s) r'') := rfl
                rw [e, hg2, List.nil_append, hdz] at hz
                rw [hdz]
                exact hz
            have h9 : (([] : Txt) ++ sf gf (k + 1 + 1) (lastw [58]) r').head? = (sf gf (k + 1 + 1) (lastw [58]) r').head? := rfl
            rw [h9]
            simpa using this
          · have : (d == 58) = false := by simpa using h58
            rw [this]; rfl
        cases hcl : t.cl with
        | any => trivial
        | word => exact ⟨run (.inl hcl), by rw [hhead]; exact hfw.h46⟩
        | vari => exact ⟨run (.inr hcl), by rw [hhead]; exact a2 hcl⟩
        | op => intro x hx; rw [hhead] at hx; exact a1 hcl x hx
set_option maxHeartbeats 200000
structure Lf (t : Tk) (v : V) : Prop where
  f : TkF t
  ok : LeafOk v t
  h : hold v = 13
  b : base v = 0
  p : V.pure v = true
  tp : V.pure t.v = true
  d : V.deep v ≤ 6
  tree : ∃ k r, v = .tup (.str k :: r)

noncomputable def okS (s : Txt) : Bool := match s with
  | [] => false
  | c :: _ => !blankC c && c != 92 && c != 35 && c != 46 && c != 58 && !decide (c ∈ secs) && s.all (fun d => decide (d < 128)) && decide (s.length ≤ 60)
theorem tkf_of {s sort : Txt} {v : V} {cl : Cl} (hl : LexOk s sort v cl) (h : okS s = true) (hw : cl = .word ∨ cl = .vari → lastw s = true) (h1 : sort ≠ sOp) (h2 : sort = sWord → cl = .word) (h3 : cl ≠ .op) : TkF ⟨s, sort, v, cl⟩ := by
  cases s with
  | nil => cases h
  | cons c r =>
    simp only [okS, Bool.and_eq_true, bne_iff_ne, Bool.not_eq_true', decide_eq_true_eq, List.all_eq_true, decide_eq_false_iff_not] at h
    obtain ⟨⟨⟨⟨⟨⟨⟨a1, a2⟩, a3⟩, a4⟩, a5⟩, a6⟩, a7⟩, a8⟩ := h
    exact ⟨⟨hl, c, r, rfl, a1, a2, a3⟩, a8, a7, hw, by simpa using a4, fun e => absurd (Option.some.inj e) a5, fun e => absurd e h1, fun e => absurd e h1, h2, fun _ _ _ _ => ⟨h3, fun d hd => by cases hd; exact ⟨a6, a5⟩⟩⟩

theorem lf_text {s inner : Txt} (hl : LexOk s sText (.str inner) .any) (h : okS s = true) (hp : inner.all (· < 1114112) = true) : Lf ⟨s, sText, .str inner, .any⟩ (.tup [.str tText, .str inner]) where
  f := tkf_of hl h (by intro e; rcases e with e | e <;> cases e) (by decide) (by intro e; cases e) (by intro e; cases e)
  ok := ⟨(by show sText ≠ _; decide), (by show sText ≠ _; decide), (by show sText ≠ _; decide), (by show sText ≠ _; decide), fun d u ts hu => .text rfl⟩
  h := (two_13 tText _ (.inl rfl)).1
  b := (two_13 tText _ (.inl rfl)).2
  p := by simp [V.pure, V.pures, hp]
  tp := by simp [V.pure, hp]
  d := by simp [V.deep, V.deeps]
  tree := ⟨_, _, rfl⟩
theorem lf_num {s : Txt} {i : Int} (hl : LexOk s sNum (.int i) .word) (h : okS s = true) (hw : lastw s = true) : Lf ⟨s, sNum, .int i, .word⟩ (.tup [.str [110, 117, 109], .int i]) where
  f := tkf_of hl h (fun _ => hw) (by decide) (by intro e; cases e) (by intro e; cases e)
  ok := ⟨(by show sNum ≠ _; decide), (by show sNum ≠ _; decide), (by show sNum ≠ _; decide), (by show sNum ≠ _; decide), fun d u ts hu => .num rfl⟩
  h := (two_13 [110, 117, 109] _ (.inr (.inl rfl))).1
  b := (two_13 [110, 117, 109] _ (.inr (.inl rfl))).2
  p := by simp [V.pure, V.pures]
  tp := by simp [V.pure]
  d := by simp [V.deep, V.deeps]
  tree := ⟨_, _, rfl⟩
theorem lf_word {s : Txt} (hl : LexOk s sWord (.str s) .word) (h : okS s = true) (hw : lastw s = true) (hb : boolW s = true) : Lf ⟨s, sWord, .str s, .word⟩ (.tup [.str tText, .str s]) where
  f := tkf_of hl h (fun _ => hw) (by decide) (fun _ => rfl) (by intro e; cases e)
  ok := ⟨(by show sWord ≠ _; decide), (by show sWord ≠ _; decide), (by show sWord ≠ _; decide), (by show sWord ≠ _; decide), fun d u ts hu => .word rfl rfl hb hu⟩
  h := (two_13 tText _ (.inl rfl)).1
  b := (two_13 tText _ (.inl rfl)).2
  p := by
    have : s.all (fun d => decide (d < 1114112)) = true := by
      cases s with
      | nil => rfl
      | cons c r =>
        simp only [okS, Bool.and_eq_true] at h
        have h7 := h.1.2
        simp only [List.all_eq_true, decide_eq_true_eq] at h7 ⊢
        intro d hd
        have := h7 d hd
        omega
    simpa [V.pure, V.pures] using this
  tp := by
    have : s.all (fun d => decide (d < 1114112)) = true := by
      cases s with
      | nil => rfl
      | cons c r =>
        simp only [okS, Bool.and_eq_true] at h
        have h7 := h.1.2
        simp only [List.all_eq_true, decide_eq_true_eq] at h7 ⊢
        intro d hd
        have := h7 d hd
        omega
    simpa [V.pure] using this
  d := by simp [V.deep, V.deeps]
  tree := ⟨_, _, rfl⟩
theorem ptree_tree {vs : List V} {v : V} (h : PTree vs v) : ∃ k r, v = .tup (.str k :: r) := by
  cases h <;> exact ⟨_, _, rfl⟩
theorem lf_parts {s : Txt} {vs : List V} {v : V} {cl : Cl} (hl : LexOk s sParts (.tup vs) cl) (h : okS s = true) (hw : cl = .word ∨ cl = .vari → lastw s = true) (h3 : cl ≠ .op) (ht : PTree vs v) (hp : V.pures vs = true) (hq : V.pure v = true) (hd : V.deep v ≤ 6) : Lf ⟨s, sParts, .tup vs, cl⟩ v where
  f := tkf_of hl h hw (by decide) (by intro e; cases e) h3
  ok := ⟨(by show sParts ≠ _; decide), (by show sParts ≠ _; decide), (by show sParts ≠ _; decide), (by show sParts ≠ _; decide), fun d u ts hu => .parts rfl rfl ht⟩
  h := (ptree_13 ht).1
  b := (ptree_13 ht).2
  p := hq
  tp := by simp [V.pure, hp]
  d := hd
  tree := ptree_tree ht

theorem vidx_mod (T : List V) (m : Int) (hm : m = T.length) (h0 : 0 < T.length) (h1 : T.length ≤ 1000) (q : Int) : ∃ v, v ∈ T ∧ ∀ σ, vindex (.tup T) (.int (q % m)) σ = some v := by
  subst hm
  have a := Int.emod_nonneg q (b := (T.length : Int)) (by omega)
  have b := Int.emod_lt_of_pos q (b := (T.length : Int)) (by omega)
  have hk : (q % (T.length : Int)).toNat < T.length := by omega
  refine ⟨T[(q % (T.length : Int)).toNat], List.getElem_mem _, fun σ => ?_⟩
  unfold vindex
  simp only [asInt_e, Option.bind_some]
  rw [if_pos ⟨a, by omega⟩]
  exact List.getElem?_eq_getElem hk

noncomputable def braceT : List Txt := [[120, 32, 121], [], [97, 123, 98, 125, 99], [36, 118, 32, 91, 113, 93], [35, 41], [49, 32, 50]]
noncomputable def quoteT : List Txt := [[120, 32, 121], [], [97, 59, 41], [123], [55], [35]]
noncomputable def boolT : List Txt := [[116, 114, 117, 101], [116, 82, 117], [116], [121, 101, 115], [89], [111, 110], [79, 78], [102, 97, 108, 115, 101], [70], [110, 111], [110], [111, 102, 102], [111, 102], [111, 70, 70]]
theorem brace_lf {u : Txt} (h : u ∈ braceT) : ∃ t, t.s = 123 :: (u ++ [125]) ∧ Lf t (.tup [.str tText, .str u]) := by
  unfold braceT at h
  simp only [List.mem_cons, List.not_mem_nil, or_false] at h
  rcases h with rfl | rfl | rfl | rfl | rfl | rfl
  · exact ⟨_, rfl, lf_text lex_b1 (by decide) (by decide)⟩
  · exact ⟨_, rfl, lf_text lex_b2 (by decide) (by decide)⟩
  · exact ⟨_, rfl, lf_text lex_b3 (by decide) (by decide)⟩
  · exact ⟨_, rfl, lf_text lex_b4 (by decide) (by decide)⟩
  · exact ⟨_, rfl, lf_text lex_b5 (by decide) (by decide)⟩
  · exact ⟨_, rfl, lf_text lex_b6 (by decide) (by decide)⟩
theorem any_cl {s : Txt} : Cl.any = .word ∨ Cl.any = .vari → lastw s = true := by intro e; rcases e with e | e <;> cases e
theorem quote_lf {u : Txt} (h : u ∈ quoteT) : ∃ t, t.s = 34 :: (u ++ [34]) ∧ Lf t (.tup [.str tText, .str u]) := by
  unfold quoteT at h
  simp only [List.mem_cons, List.not_mem_nil, or_false] at h
  rcases h with rfl | rfl | rfl | rfl | rfl | rfl
  · exact ⟨_, rfl, lf_parts lex_q1 (by decide) any_cl (by intro e; cases e) .one (by decide) (by decide) (by decide)⟩
  · exact ⟨_, rfl, lf_parts lex_q2 (by decide) any_cl (by intro e; cases e) .zero (by decide) (by decide) (by decide)⟩
  · exact ⟨_, rfl, lf_parts lex_q3 (by decide) any_cl (by intro e; cases e) .one (by decide) (by decide) (by decide)⟩
  · exact ⟨_, rfl, lf_parts lex_q4 (by decide) any_cl (by intro e; cases e) .one (by decide) (by decide) (by decide)⟩
  · exact ⟨_, rfl, lf_parts lex_q5 (by decide) any_cl (by intro e; cases e) .one (by decide) (by decide) (by decide)⟩
  · exact ⟨_, rfl, lf_parts lex_q6 (by decide) any_cl (by intro e; cases e) .one (by decide) (by decide) (by decide)⟩
theorem bool_lf {u : Txt} (h : u ∈ boolT) : ∃ t, t.s = u ∧ Lf t (.tup [.str tText, .str u]) := by
  have key : ∀ u ∈ boolT, ∃ c w, u = c :: w ∧ (∀ d ∈ u, wl d = true) ∧ ¬ (0 ≤ dig c ∧ dig c < 10) ∧ u ∉ wordOps ∧ okS u = true ∧ lastw u = true ∧ boolW u = true := by
    have : ∀ u ∈ boolT, (u.all (fun d => wl d) && okS u && lastw u && boolW u && !decide (u ∈ wordOps) && (match u with | [] => false | c :: _ => !(decide (0 ≤ dig c) && decide (dig c < 10)))) = true := by decide
    intro u hu
    have := this u hu
    cases u with
    | nil => cases this
    | cons c w =>
      simp only [Bool.and_eq_true, List.all_eq_true, Bool.not_eq_true', decide_eq_false_iff_not] at this
      obtain ⟨⟨⟨⟨⟨a1, a2⟩, a3⟩, a4⟩, a5⟩, a6⟩ := this
      refine ⟨c, w, rfl, a1, ?_, a5, a2, a3, a4⟩
      rintro ⟨b1, b2⟩
      simp [b1, b2] at a6
  obtain ⟨c, w, rfl, h1, h2, h3, h4, h5, h6⟩ := key u h
  have hl := lex_word (h1 c (by simp)) h2 fun r hr => run_wl h1 hr
  rw [if_neg h3] at hl
  exact ⟨_, rfl, lf_word hl h4 h5 h6⟩

noncomputable def partsT : List V := [.tup [.str [36, 118], .tup [.tup [.str [118, 97, 114], .str [118], .none]]], .tup [.str [36, 123, 97, 32, 98, 125], .tup [.tup [.str [118, 97, 114], .str [97, 32, 98], .none]]], .tup [.str [36, 97, 40, 49, 41], .tup [.tup [.str [118, 97, 114], .str [97], .tup [.tup [.str [116, 101, 120, 116], .str [49]]]]]], .tup [.str [36, 97, 40, 36, 98, 41], .tup [.tup [.str [118, 97, 114], .str [97], .tup [.tup [.str [118, 97, 114], .str [98], .none]]]]], .tup [.str [36, 58, 58, 120], .tup [.tup [.str [118, 97, 114], .str [58, 58, 120], .none]]], .tup [.str [91, 102, 32, 49, 93], .tup [.tup [.str [99, 109, 100], .str [102, 32, 49]]]], .tup [.str [91, 103, 32, 91, 104, 93, 93], .tup [.tup [.str [99, 109, 100], .str [103, 32, 91, 104, 93]]]], .tup [.str [34, 97, 36, 118, 34], .tup [.tup [.str [116, 101, 120, 116], .str [97]], .tup [.str [118, 97, 114], .str [118], .none]]], .tup [.str [34, 36, 118, 36, 118, 34], .tup [.tup [.str [118, 97, 114], .str [118], .none], .tup [.str [118, 97, 114], .str [118], .none]]], .tup [.str [36, 97, 40, 41], .tup [.tup [.str [118, 97, 114], .str [97], .tup []]]]]
theorem parts_lf {u : V} (h : u ∈ partsT) : ∃ t vs, u = .tup [.str t.s, .tup vs] ∧ Lf t (.tup [.str [112, 97, 114, 116, 115], .tup vs]) := by
  unfold partsT at h
  simp only [List.mem_cons, List.not_mem_nil, or_false] at h
  rcases h with rfl | rfl | rfl | rfl | rfl | rfl | rfl | rfl | rfl | rfl
  · exact ⟨_, _, rfl, lf_parts lex_v1 (by decide) (fun _ => by decide) (by intro e; cases e) (.some (by decide)) (by decide) (by decide) (by decide)⟩
  · exact ⟨_, _, rfl, lf_parts lex_v2 (by decide) any_cl (by intro e; cases e) (.some (by decide)) (by decide) (by decide) (by decide)⟩
  · exact ⟨_, _, rfl, lf_parts lex_v3 (by decide) any_cl (by intro e; cases e) (.some (by decide)) (by decide) (by decide) (by decide)⟩
  · exact ⟨_, _, rfl, lf_parts lex_v4 (by decide) any_cl (by intro e; cases e) (.some (by decide)) (by decide) (by decide) (by decide)⟩
  · exact ⟨_, _, rfl, lf_parts lex_v5 (by decide) (fun _ => by decide) (by intro e; cases e) (.some (by decide)) (by decide) (by decide) (by decide)⟩
  · exact ⟨_, _, rfl, lf_parts lex_k1 (by decide) any_cl (by intro e; cases e) (.some (by decide)) (by decide) (by decide) (by decide)⟩
  · exact ⟨_, _, rfl, lf_parts lex_k2 (by decide) any_cl (by intro e; cases e) (.some (by decide)) (by decide) (by decide) (by decide)⟩
  · exact ⟨_, _, rfl, lf_parts lex_v8 (by decide) any_cl (by intro e; cases e) (.many (by decide)) (by decide) (by decide) (by decide)⟩
  · exact ⟨_, _, rfl, lf_parts lex_v9 (by decide) any_cl (by intro e; cases e) (.many (by decide)) (by decide) (by decide) (by decide)⟩
  · exact ⟨_, _, rfl, lf_parts lex_v10 (by decide) any_cl (by intro e; cases e) (.some (by decide)) (by decide) (by decide) (by decide)⟩
set_option maxHeartbeats 200000

theorem law_text_ok (n : Nat) (q : Int) (σ : St) : ∃ t v, fn (n + 1) .f_law_text [.int q] σ = some (.tup [.str [108, 101, 97, 102], v, .str t.s], σ) ∧ Lf t v := by
  rw [fn_succ]
  have a := Int.emod_nonneg q (b := 3) (by omega)
  have b := Int.emod_lt_of_pos q (b := 3) (by omega)
  by_cases h0 : q % 3 = 0
  · obtain ⟨w, hw, hi⟩ := vidx_mod (braceT.map V.str) 6 rfl (by decide) (by decide) (q / 3)
    obtain ⟨u, hu, rfl⟩ := List.mem_map.mp hw
    obtain ⟨t, h1, h2⟩ := brace_lf hu
    have hi := hi σ
    have hl : u.length ≤ 100 := by
      have : ∀ u ∈ braceT, u.length ≤ 100 := by decide
      exact this u hu
    simp only [braceT, List.map_cons, List.map_nil] at hi
    refine ⟨t, _, ?_, h2⟩
    wp_walk using b_f_law_text, h0, hi, h1, (by omega : u.length + 1 ≤ 16777216), (by omega : 1 + u.length ≤ 16777216), (by omega : u.length + 1 + 1 ≤ 16777216), (by omega : 1 + u.length + 1 ≤ 16777216)
  · by_cases h1 : q % 3 = 1
    · obtain ⟨w, hw, hi⟩ := vidx_mod (quoteT.map V.str) 6 rfl (by decide) (by decide) (q / 3)
      obtain ⟨u, hu, rfl⟩ := List.mem_map.mp hw
      obtain ⟨t, h1', h2⟩ := quote_lf hu
      have hi := hi σ
      have hl : u.length ≤ 100 := by
        have : ∀ u ∈ quoteT, u.length ≤ 100 := by decide
        exact this u hu
      simp only [quoteT, List.map_cons, List.map_nil] at hi
      refine ⟨t, _, ?_, h2⟩
      wp_walk using b_f_law_text, h0, h1, hi, h1', (by omega : u.length + 1 ≤ 16777216), (by omega : 1 + u.length ≤ 16777216), (by omega : u.length + 1 + 1 ≤ 16777216), (by omega : 1 + u.length + 1 ≤ 16777216)
    · obtain ⟨w, hw, hi⟩ := vidx_mod (boolT.map V.str) 14 rfl (by decide) (by decide) (q / 3)
      obtain ⟨u, hu, rfl⟩ := List.mem_map.mp hw
      obtain ⟨t, h1', h2⟩ := bool_lf hu
      have hi := hi σ
      simp only [boolT, List.map_cons, List.map_nil] at hi
      refine ⟨t, _, ?_, h2⟩
      wp_walk using b_f_law_text, h0, h1, hi, h1'

theorem law_parts_ok (n : Nat) (q : Int) (σ : St) : ∃ t v, fn (n + 1) .f_law_parts [.int q] σ = some (.tup [.str [108, 101, 97, 102], v, .str t.s], σ) ∧ Lf t v := by
  rw [fn_succ]
  obtain ⟨w, hw, hi⟩ := vidx_mod partsT 10 rfl (by decide) (by decide) q
  obtain ⟨t, vs, rfl, h2⟩ := parts_lf hw
  have hi := hi σ
  simp only [partsT] at hi
  refine ⟨t, _, ?_, h2⟩
  wp_walk using b_f_law_parts, hi

noncomputable def HEX : Txt := [48, 49, 50, 51, 52, 53, 54, 55, 56, 57, 97, 98, 99, 100, 101, 102]
set_option tactic.hygienic true in
theorem hex_at : ∀ k : Nat, k < 16 → ∃ c, HEX[k]? = some c ∧ c ∈ HEX ∧ dig c = k := by
  have : ∀ k : Nat, k < 16 → (match HEX[k]? with | some c => decide (c ∈ HEX) && decide (dig c = (k : Int)) | none => false) = true := by decide
  intro k hk
  have := this k hk
  split at this
  · rename_i c h
    simp only [Bool.and_eq_true, decide_eq_true_eq] at this
    exact ⟨c, h, this.1, this.2⟩
  · cases this
noncomputable abbrev numT : DT := tOrs [tCmp .Gt (dVar 4) (dLit (.int 0)), tCmp .Eq (dVar 5) (dLit (.str []))]
noncomputable abbrev numB : DS := sSeq (sSet 5 (dBin .Add (dIndex (dLit (.str [48, 49, 50, 51, 52, 53, 54, 55, 56, 57, 97, 98, 99, 100, 101, 102])) (dBin .Mod (dVar 4) (dVar 1))) (dVar 5))) (sSet 4 (dBin .FloorDiv (dVar 4) (dVar 1)))
theorem num_step (b : Nat) (hb : 2 ≤ b ∧ b ≤ 16) (o0 o2 o3 o6 : Option V) (σ : St) (r : Nat) (ds : Txt) (h : 0 < r ∨ ds = []) (hl : ds.length ≤ 100) : ∃ c, c ∈ HEX ∧ dig c = (r % b : Nat) ∧
    sWhile numT numB [o0, some (.int b), o2, o3, some (.int r), some (.str ds), o6] σ = sWhile numT numB [o0, some (.int b), o2, o3, some (.int (r / b : Nat)), some (.str (c :: ds)), o6] σ := by
  have hm : r % b < b := Nat.mod_lt _ (by omega)
  obtain ⟨c, h1, h2, h3⟩ := hex_at (r % b) (by omega)
  refine ⟨c, h2, h3, while_step (σ₁ := σ) ?_ ?_⟩
  · rcases h with h | h
    · wp_walk using h
    · by_cases h0 : 0 < r
      · wp_walk using h0
      · wp_walk using h, (by omega : r = 0)
  · have hi := i_str σ HEX c (k := r % b) (by omega) h1
    have e1 : ((r : Int) % (b : Int)) = ((r % b : Nat) : Int) := rfl
    have e2 : ((r : Int) / (b : Int)) = ((r / b : Nat) : Int) := rfl
    have hdv := b_div σ (r : Int) (b : Int) ⟨by omega, by omega⟩
    have hp : 0 < b := by omega
    simp only [HEX, ← e1] at hi
    wp_walk using hi, hp, hdv, (by omega : 1 + ds.length ≤ 16777216), (by omega : ds.length + 1 ≤ 16777216)
theorem dval_cons (b : Int) (c : Nat) (ds : Txt) (v : Int) : dval b (c :: ds) v = dval b ds (v * b + dig c) := rfl
theorem num_loop (b : Nat) (hb : 2 ≤ b ∧ b ≤ 16) (o0 o2 o3 o6 : Option V) (σ : St) : ∀ (f r : Nat) (ds : Txt), r < 2 ^ f → ds.length + f ≤ 45 → (∀ c ∈ ds, c ∈ HEX ∧ dig c < b) → ∃ ds', sWhile numT numB [o0, some (.int b), o2, o3, some (.int r), some (.str ds), o6] σ = some (.next, [o0, some (.int b), o2, o3, some (.int 0), some (.str ds'), o6], σ) ∧
    (∀ c ∈ ds', c ∈ HEX ∧ dig c < b) ∧ ds' ≠ [] ∧ dval b ds' 0 = dval b ds r ∧ ds'.length ≤ 46 := by
  have done : ∀ ds : Txt, ds ≠ [] → sWhile numT numB [o0, some (.int b), o2, o3, some (.int 0), some (.str ds), o6] σ = some (.next, [o0, some (.int b), o2, o3, some (.int 0), some (.str ds), o6], σ) := by
    intro ds h
    exact while_done (σ₁ := σ) (by wp_walk using h)
  have one : ∀ (r : Nat) (ds : Txt) (c : Nat), dig c = (r % b : Nat) → dval b (c :: ds) (r / b : Nat) = dval b ds r := by
    intro r ds c h
    rw [dval_cons, h]
    congr 1
    have := Nat.div_add_mod r b
    rw [← Int.natCast_mul, ← Int.natCast_add, Nat.mul_comm]
    rw [this]
  intro f
  induction f with
  | zero =>
    intro r ds h hl hd
    have h0 : r = 0 := by simp at h; omega
    subst h0
    by_cases he : ds = []
    · subst he
      obtain ⟨c, h1, h2, h3⟩ := num_step b hb o0 o2 o3 o6 σ 0 [] (.inr rfl) (by simp)
      refine ⟨[c], h3.trans (by rw [Nat.zero_div]; exact done [c] (by simp)), ?_, by simp, ?_, by simp⟩
      · intro d hd
        rw [List.mem_singleton] at hd
        subst hd
        have : (0 % b : Nat) = 0 := Nat.zero_mod b
        exact ⟨h1, by rw [h2, this]; omega⟩
      · have := one 0 [] c h2
        rw [Nat.zero_div] at this
        exact this
    · exact ⟨ds, done ds he, hd, he, rfl, by omega⟩
  | succ f ih =>
    intro r ds h hl hd
    by_cases he : 0 < r ∨ ds = []
    · obtain ⟨c, h1, h2, h3⟩ := num_step b hb o0 o2 o3 o6 σ r ds he (by omega)
      have hm : r % b < b := Nat.mod_lt _ (by omega)
      have hq : r / b < 2 ^ f := by
        have h2' : r / b ≤ r / 2 := Nat.div_le_div_left hb.1 (by omega)
        have : r / 2 < 2 ^ f := by rw [Nat.pow_succ] at h; omega
        omega
      obtain ⟨ds', e1, e2, e3, e4, e5⟩ := ih (r / b) (c :: ds) hq (by simp; omega) (by
        intro d hd'
        rcases List.mem_cons.mp hd' with rfl | hd'
        · exact ⟨h1, by rw [h2]; omega⟩
        · exact hd d hd')
      exact ⟨ds', h3.trans e1, e2, e3, by rw [e4]; exact one r ds c h2, e5⟩
    · have h0 : r = 0 := by omega
      subst h0
      have he' : ds ≠ [] := fun z => he (.inr z)
      exact ⟨ds, done ds he', hd, he', rfl, by omega⟩
theorem dval_zeros (b : Int) (ds : Txt) : ∀ z : Nat, dval b (List.replicate z 48 ++ ds) 0 = dval b ds 0
  | 0 => rfl
  | z + 1 => by
    rw [List.replicate_succ, List.cons_append, dval_cons]
    have : (0 : Int) * b + dig 48 = 0 := by rw [Int.zero_mul]; decide
    rw [this]
    exact dval_zeros b ds z
theorem b_muls (σ : St) (x : Txt) (j : Int) (h1 : x.length ≤ 64) (h2 : 0 ≤ j) (h3 : j ≤ 64) : vbin .Mult (.str x) (.int j) σ = some (.str (List.replicate j.toNat x).flatten, σ) := if_pos ⟨h1, h2, h3⟩
theorem rep_one (z : Nat) (c : Nat) : (List.replicate z [c]).flatten = List.replicate z c := by
  induction z with
  | zero => rfl
  | succ z ih => rw [List.replicate_succ, List.flatten_cons, ih]; rfl
theorem dval_up (b : Int) : ∀ (ds : Txt) (v : Int), (∀ c ∈ ds, c < 128) → dval b (ds.map up1) v = dval b ds v
  | [], _, _ => rfl
  | c :: ds, v, h => by
    have : ∀ c, c < 128 → dig (up1 c) = dig c := by decide +kernel
    rw [List.map_cons, dval_cons, dval_cons, this c (h c (by simp))]
    exact dval_up b ds _ fun d hd => h d (by simp [hd])
noncomputable def Digs (b : Nat) (ds : Txt) : Prop := ∀ c ∈ ds, (isAln c = true ∧ c < 128) ∧ 0 ≤ dig c ∧ dig c < b
theorem digs_last {b : Nat} {ds : Txt} (h : Digs b ds) (h0 : ds ≠ []) (u : Txt) : lastw (u ++ ds) = true := by
  have hl : (u ++ ds).getLast? = some (ds.getLast h0) := by rw [List.getLast?_append, List.getLast?_eq_some_getLast h0]; rfl
  unfold lastw
  rw [hl]
  simp [(h _ (List.getLast_mem h0)).1.1]
theorem num10_lf {ds : Txt} (h : Digs 10 ds) (h0 : ds ≠ []) (hl : ds.length ≤ 50) : ∃ t, t.s = ds ∧ Lf t (.tup [.str [110, 117, 109], .int (dval 10 ds 0)]) := by
  refine ⟨⟨ds, sNum, .int (dval 10 ds 0), .word⟩, rfl, lf_num (lex_num10 h0 fun c hc => (h c hc).2) ?_ (digs_last h h0 [])⟩
  cases ds with
  | nil => exact absurd rfl h0
  | cons c r =>
    have key : ∀ c, c < 128 → isAln c = true → blankC c = false ∧ c ≠ 92 ∧ c ≠ 35 ∧ c ≠ 46 ∧ c ≠ 58 ∧ c ∉ secs := by decide +kernel
    have hc := (h c (by simp)).1
    obtain ⟨a1, a2, a3, a4, a5, a6⟩ := key c hc.2 hc.1
    simp only [okS, Bool.and_eq_true, bne_iff_ne, Bool.not_eq_true', decide_eq_true_eq, List.all_eq_true, decide_eq_false_iff_not]
    exact ⟨⟨⟨⟨⟨⟨⟨a1, a2⟩, a3⟩, a4⟩, a5⟩, a6⟩, fun d hd => (h d hd).1.2⟩, by omega⟩
theorem numM_lf {m b : Nat} {ds : Txt} (hm : markB [m] = b) (hb : 0 < b) (hm2 : m < 128) (h : Digs b ds) (h0 : ds ≠ []) (hl : ds.length ≤ 50) : ∃ t, t.s = 48 :: m :: ds ∧ Lf t (.tup [.str [110, 117, 109], .int (dval b ds 0)]) := by
  refine ⟨⟨48 :: m :: ds, sNum, .int (dval b ds 0), .word⟩, rfl, lf_num (lex_numM hm hb h0 fun c hc => (h c hc).2) ?_ (digs_last h h0 [48, m])⟩
  simp only [okS, Bool.and_eq_true, bne_iff_ne, Bool.not_eq_true', decide_eq_true_eq, List.all_eq_true, decide_eq_false_iff_not]
  refine ⟨⟨⟨⟨⟨⟨⟨by decide, by decide⟩, by decide⟩, by decide⟩, by decide⟩, by decide⟩, ?_⟩, ?_⟩
  · intro d hd
    rcases List.mem_cons.mp hd with rfl | hd
    · decide
    rcases List.mem_cons.mp hd with rfl | hd
    · exact hm2
    exact (h d hd).1.2
  · simp; omega
theorem Digs.up {b : Nat} {ds : Txt} (h : Digs b ds) : Digs b (ds.map up1) := by
  intro c hc
  obtain ⟨d, hd, rfl⟩ := List.mem_map.mp hc
  have key : ∀ d, d < 128 → isAln d = true → (isAln (up1 d) = true ∧ up1 d < 128) ∧ dig (up1 d) = dig d := by decide +kernel
  obtain ⟨h1, h2⟩ := h d hd
  obtain ⟨k1, k2⟩ := key d h1.2 h1.1
  exact ⟨k1, by rw [k2]; exact h2⟩
noncomputable def markT : List V := [.tup [.int 10, .str []], .tup [.int 16, .str [120]], .tup [.int 8, .str [111]], .tup [.int 2, .str [98]], .tup [.int 10, .str [100]]]
theorem mark_tok {w : V} (h : w ∈ markT) : ∃ (b : Nat) (m : Txt), w = .tup [.int b, .str m] ∧ (2 ≤ b ∧ b ≤ 16) ∧ m.length ≤ 1 ∧ (∀ c ∈ m, c < 128) ∧ ∀ ds : Txt, Digs b ds → ds ≠ [] → ds.length ≤ 50 →
    (∃ t, t.s = (if m = [] then [] else 48 :: m) ++ ds ∧ Lf t (.tup [.str [110, 117, 109], .int (dval b ds 0)])) ∧
    (∃ t, t.s = ((if m = [] then [] else 48 :: m) ++ ds).map up1 ∧ Lf t (.tup [.str [110, 117, 109], .int (dval b ds 0)])) := by
  have plain : ∀ ds : Txt, Digs 10 ds → ds ≠ [] → ds.length ≤ 50 →
      (∃ t, t.s = (if ([] : Txt) = [] then [] else 48 :: []) ++ ds ∧ Lf t (.tup [.str [110, 117, 109], .int (dval ((10 : Nat) : Int) ds 0)])) ∧
      (∃ t, t.s = ((if ([] : Txt) = [] then [] else 48 :: []) ++ ds).map up1 ∧ Lf t (.tup [.str [110, 117, 109], .int (dval ((10 : Nat) : Int) ds 0)])) := by
    intro ds h h0 hl
    refine ⟨num10_lf h h0 hl, ?_⟩
    have := num10_lf (ds := ds.map up1) h.up (by simpa using h0) (by simpa using hl)
    rw [dval_up _ _ _ fun c hc => (h c hc).1.2] at this
    exact this
  have marked : ∀ (c b : Nat), markB [c] = b → markB [up1 c] = b → 0 < b → c < 128 → up1 c < 128 → ∀ ds : Txt, Digs b ds → ds ≠ [] → ds.length ≤ 50 →
      (∃ t, t.s = (if ([c] : Txt) = [] then [] else 48 :: [c]) ++ ds ∧ Lf t (.tup [.str [110, 117, 109], .int (dval b ds 0)])) ∧
      (∃ t, t.s = ((if ([c] : Txt) = [] then [] else 48 :: [c]) ++ ds).map up1 ∧ Lf t (.tup [.str [110, 117, 109], .int (dval b ds 0)])) := by
    intro c b h1 h2 h3 h4 h5 ds h h0 hl
    refine ⟨numM_lf h1 h3 h4 h h0 hl, ?_⟩
    have := numM_lf h2 h3 h5 h.up (by simpa using h0) (by simpa using hl)
    rw [dval_up _ _ _ fun c hc => (h c hc).1.2] at this
    exact this
  unfold markT at h
  simp only [List.mem_cons, List.not_mem_nil, or_false] at h
  rcases h with rfl | rfl | rfl | rfl | rfl
  · exact ⟨10, [], rfl, by decide, by decide, by decide, plain⟩
  · exact ⟨16, [120], rfl, by decide, by decide, by decide, marked 120 16 (by decide) (by decide) (by decide) (by decide) (by decide)⟩
  · exact ⟨8, [111], rfl, by decide, by decide, by decide, marked 111 8 (by decide) (by decide) (by decide) (by decide) (by decide)⟩
  · exact ⟨2, [98], rfl, by decide, by decide, by decide, marked 98 2 (by decide) (by decide) (by decide) (by decide) (by decide)⟩
  · exact ⟨10, [100], rfl, by decide, by decide, by decide, marked 100 10 (by decide) (by decide) (by decide) (by decide) (by decide)⟩
theorem b_pow12 (σ : St) : vbin .Pow (.int 10) (.int 12) σ = some (.int 1000000000000, σ) := rfl
theorem b_pow31 (σ : St) : vbin .Pow (.int 2) (.int 31) σ = some (.int 2147483648, σ) := rfl
theorem b_pow98 (σ : St) : vbin .Pow (.int 9) (.int 8) σ = some (.int 43046721, σ) := rfl
theorem hex_digs {b : Nat} {ds : Txt} (h : ∀ c ∈ ds, c ∈ HEX ∧ dig c < b) : Digs b ds := by
  intro c hc
  obtain ⟨h1, h2⟩ := h c hc
  have key : ∀ c ∈ HEX, (isAln c = true ∧ c < 128) ∧ 0 ≤ dig c := by decide
  exact ⟨(key c h1).1, (key c h1).2, h2⟩
theorem m_upper (x : Txt) (h1 : x.length ≤ 16777216) (h2 : ∀ c ∈ x, c < 128) (σ : St) : bUpper [.str x] σ = some (.str (x.map up1), σ) := if_pos ⟨h1, h2⟩
theorem law_number_ok (n : Nat) (q : Int) (σ : St) : ∃ t v, fn (n + 1) .f_law_number [.int q] σ = some (.tup [.str [108, 101, 97, 102], v, .str t.s], σ) ∧ Lf t v := by
  rw [fn_succ]
  obtain ⟨w, hw, hi⟩ := vidx_mod markT 5 rfl (by decide) (by decide) q
  obtain ⟨b, m, rfl, hb, hm1, hm2, tok⟩ := mark_tok hw
  have hi := hi σ
  simp only [markT] at hi
  have a1 := Int.emod_nonneg (q / 30) (b := 1000000000000) (by omega)
  have a2 := Int.emod_lt_of_pos (q / 30) (b := 1000000000000) (by omega)
  obtain ⟨N, hN⟩ : ∃ N : Nat, q / 30 % 1000000000000 = (N : Int) := ⟨(q / 30 % 1000000000000).toNat, by omega⟩
  have z1 := Int.emod_nonneg (q / 5) (b := 3) (by omega)
  have z2 := Int.emod_lt_of_pos (q / 5) (b := 3) (by omega)
  obtain ⟨z, hz⟩ : ∃ z : Nat, q / 5 % 3 = (z : Int) := ⟨(q / 5 % 3).toNat, by omega⟩
  obtain ⟨ds, e1, e2, e3, e4, e5⟩ := num_loop b hb (some (.int q)) (some (.str m)) (some (.int N)) none σ 40 N [] (by omega) (by simp) (by simp)
  have hmul := b_muls σ [48] z (by simp) (by omega) (by omega)
  rw [rep_one] at hmul
  simp only [Int.toNat_natCast] at hmul
  have hdg : Digs b (List.replicate z 48 ++ ds) := by
    intro c hc
    rcases List.mem_append.mp hc with hc | hc
    · have := List.eq_of_mem_replicate hc
      subst this
      exact ⟨by decide, by decide, by have : dig 48 = 0 := by decide
                                      omega⟩
    · exact hex_digs e2 c hc
  obtain ⟨t1, t2⟩ := tok (List.replicate z 48 ++ ds) hdg (by simp [e3]) (by simp; omega)
  rw [dval_zeros, e4] at t1 t2
  have hv : dval b [] (N : Int) = N := rfl
  rw [hv] at t1 t2
  have hupp : ∀ M : Txt, M.length ≤ 2 → (∀ c ∈ M, c < 128) → bUpper [.str (M ++ (List.replicate z 48 ++ ds))] σ = some (.str ((M ++ (List.replicate z 48 ++ ds)).map up1), σ) := fun M hMl hMa => m_upper _ (by simp; omega) (by
    intro c hc
    rcases List.mem_append.mp hc with hc | hc
    · exact hMa c hc
    · exact (hdg c hc).1.2) σ
  by_cases h0 : m = []
  · subst h0
    have hup := hupp [] (by simp) (by simp)
    rw [if_pos rfl] at t1 t2
    by_cases hu : q / 15 % 2 = 1
    · obtain ⟨t, h1, h2⟩ := t2
      refine ⟨t, _, ?_, h2⟩
      simp only [List.nil_append] at hup h1
      wp_walk using b_f_law_number, hi, b_pow12, hN, e1, hmul, hz, hu, hup, h1, (by omega : z + ds.length ≤ 16777216), (by omega : z ≤ 16777216)
    · obtain ⟨t, h1, h2⟩ := t1
      refine ⟨t, _, ?_, h2⟩
      wp_walk using b_f_law_number, hi, b_pow12, hN, e1, hmul, hz, hu, h1, (by omega : z + ds.length ≤ 16777216), (by omega : z ≤ 16777216)
  · have hup := hupp (48 :: m) (by simp; omega) (by
      intro c hc
      rcases List.mem_cons.mp hc with rfl | hc
      · decide
      · exact hm2 c hc)
    rw [if_neg h0] at t1 t2
    by_cases hu : q / 15 % 2 = 1
    · obtain ⟨t, h1, h2⟩ := t2
      refine ⟨t, _, ?_, h2⟩
      simp only [List.cons_append] at hup h1
      wp_walk using b_f_law_number, h0, hi, b_pow12, hN, e1, hmul, hz, hu, hup, h1, (by omega : m.length + 1 ≤ 16777216), (by omega : 1 + m.length ≤ 16777216), (by omega : m.length + 1 + z ≤ 16777216), (by omega : m.length + 1 + (z + ds.length) ≤ 16777216), (by omega : m.length + z + 1 + ds.length ≤ 16777216), (by omega : m.length + (z + ds.length) + 1 ≤ 16777216), (by omega : m.length + z + ds.length + 1 ≤ 16777216)
    · obtain ⟨t, h1, h2⟩ := t1
      refine ⟨t, _, ?_, h2⟩
      wp_walk using b_f_law_number, h0, hi, b_pow12, hN, e1, hmul, hz, hu, h1, (by omega : m.length + 1 ≤ 16777216), (by omega : 1 + m.length ≤ 16777216), (by omega : m.length + 1 + z ≤ 16777216), (by omega : m.length + 1 + (z + ds.length) ≤ 16777216), (by omega : m.length + z + 1 + ds.length ≤ 16777216)
set_option maxHeartbeats 200000
inductive Tr where
  | leaf (t : Tk) (v : V)
  | un (s : Txt) (a : Tr)
  | bin (s : Txt) (a b : Tr)
  | ite (a b c : Tr)
  | call0 (w : Txt)
  | call1 (w : Txt) (a : Tr)
  | call2 (w : Txt) (a b : Tr)
  | call3 (w : Txt) (a b c : Tr)
noncomputable def cnt : Tr → Nat
  | .leaf _ _ => 0
  | .un _ a => 1 + cnt a
  | .bin _ a b => 1 + cnt a + cnt b
  | .ite a b c => 1 + cnt a + cnt b + cnt c
  | .call0 _ => 1
  | .call1 _ a => 1 + cnt a
  | .call2 _ a b => 1 + cnt a + cnt b
  | .call3 _ a b c => 1 + cnt a + cnt b + cnt c
noncomputable def tree : Tr → V
  | .leaf _ v => v
  | .un s a => .tup [.str tUn, .str s, tree a]
  | .bin s a b => mkBin s (tree a) (tree b)
  | .ite a b c => .tup [.str tIf, tree a, tree b, tree c]
  | .call0 w => .tup [.str tCall, .str w, .tup []]
  | .call1 w a => .tup [.str tCall, .str w, .tup [tree a]]
  | .call2 w a b => .tup [.str tCall, .str w, .tup [tree a, tree b]]
  | .call3 w a b c => .tup [.str tCall, .str w, .tup [tree a, tree b, tree c]]
noncomputable def betw : List Txt := [[43], [45], [42], [47], [37], [42, 42], [60, 60], [62, 62], [60], [62], [60, 61], [62, 61], [61, 61], [33, 61], [38], [94], [124], [101, 113], [110, 101], [105, 110], [110, 105], [108, 116], [108, 101], [103, 116], [103, 101]]
noncomputable def fnNames : List Txt := [[109, 97, 120], [102, 58, 58, 103], [110], [116, 114, 117, 101]]

inductive NR (l : Nat) (σ : St) : V → Tr → Prop
  | leaf {t : Tk} {v : V} : Lf t v → NR l σ (.tup [.str [108, 101, 97, 102], v, .str t.s]) (.leaf t v)
  | un {s : Txt} {x : V} {a : Tr} : s ∈ preOps → NR l σ x a → NR l σ (.tup [.str tUn, .str s, x]) (.un s a)
  | bin {s : Txt} {x y : V} {a b : Tr} : s ∈ betw → NR l σ x a → NR l σ y b → NR l σ (.tup [.str tBin, .str s, x, y]) (.bin s a b)
  | and {x y : V} {a b : Tr} : NR l σ x a → NR l σ y b → NR l σ (.tup [.str tAnd, x, y]) (.bin [38, 38] a b)
  | or {x y : V} {a b : Tr} : NR l σ x a → NR l σ y b → NR l σ (.tup [.str tOr, x, y]) (.bin [124, 124] a b)
  | ite {x y z : V} {a b c : Tr} : NR l σ x a → NR l σ y b → NR l σ z c → NR l σ (.tup [.str tIf, x, y, z]) (.ite a b c)
  | call0 {w : Txt} {r : Nat} : w ∈ fnNames → r ≠ l → σ[r]? = some (.list []) → NR l σ (.tup [.str tCall, .str w, .ref r]) (.call0 w)
  | call1 {w : Txt} {r : Nat} {x : V} {a : Tr} : w ∈ fnNames → r ≠ l → σ[r]? = some (.list [x]) → NR l σ x a → NR l σ (.tup [.str tCall, .str w, .ref r]) (.call1 w a)
  | call2 {w : Txt} {r : Nat} {x y : V} {a b : Tr} : w ∈ fnNames → r ≠ l → σ[r]? = some (.list [x, y]) → NR l σ x a → NR l σ y b → NR l σ (.tup [.str tCall, .str w, .ref r]) (.call2 w a b)
  | call3 {w : Txt} {r : Nat} {x y z : V} {a b c : Tr} : w ∈ fnNames → r ≠ l → σ[r]? = some (.list [x, y, z]) → NR l σ x a → NR l σ y b → NR l σ z c → NR l σ (.tup [.str tCall, .str w, .ref r]) (.call3 w a b c)

theorem GrowB.get {l : Nat} {σ σ' : St} {i : Nat} {o : O} (g : GrowB l σ σ') (hl : i ≠ l) (h : σ[i]? = some o) : σ'[i]? = some o := (g.2 i (List.getElem?_eq_some_iff.mp h).1 hl).trans h
theorem NR.mono {l : Nat} {σ σ' : St} {v : V} {N : Tr} (h : NR l σ v N) (g : GrowB l σ σ') : NR l σ' v N := by
  induction h with
  | leaf h => exact .leaf h
  | un h _ i => exact .un h i
  | bin h _ _ i j => exact .bin h i j
  | and _ _ i j => exact .and i j
  | or _ _ i j => exact .or i j
  | ite _ _ _ i j k => exact .ite i j k
  | call0 h h1 h2 => exact .call0 h h1 (g.get h1 h2)
  | call1 h h1 h2 _ i => exact .call1 h h1 (g.get h1 h2) i
  | call2 h h1 h2 _ _ i j => exact .call2 h h1 (g.get h1 h2) i j
  | call3 h h1 h2 _ _ _ i j k => exact .call3 h h1 (g.get h1 h2) i j k
theorem NR.grow {l : Nat} {σ σ' : St} {v : V} {N : Tr} (h : NR l σ v N) (g : Grow σ σ') : NR l σ' v N := h.mono g.b

section
variable {c : Src} {elt : V → St → Option (V × St)} {σ σ₁ σ₂ σ₃ : St} {x y z x' y' z' : V}
theorem comp0 (h0 : dNext c 0 σ = some none) : compGo c elt 0 [] σ = some ([], σ) := comp_done h0
theorem comp1 (h0 : dNext c 0 σ = some (some x)) (e0 : elt x σ = some (x', σ₁)) (h1 : dNext c 1 σ₁ = some none) : compGo c elt 0 [] σ = some ([x'], σ₁) :=
  (comp_step h0 e0 (by simp)).trans (comp_done h1)
theorem comp2 (h0 : dNext c 0 σ = some (some x)) (e0 : elt x σ = some (x', σ₁)) (h1 : dNext c 1 σ₁ = some (some y)) (e1 : elt y σ₁ = some (y', σ₂)) (h2 : dNext c 2 σ₂ = some none) : compGo c elt 0 [] σ = some ([x', y'], σ₂) :=
  (comp_step h0 e0 (by simp)).trans ((comp_step h1 e1 (by simp)).trans (comp_done h2))
theorem comp3 (h0 : dNext c 0 σ = some (some x)) (e0 : elt x σ = some (x', σ₁)) (h1 : dNext c 1 σ₁ = some (some y)) (e1 : elt y σ₁ = some (y', σ₂)) (h2 : dNext c 2 σ₂ = some (some z)) (e2 : elt z σ₂ = some (z', σ₃)) (h3 : dNext c 3 σ₃ = some none) : compGo c elt 0 [] σ = some ([x', y', z'], σ₃) :=
  (comp_step h0 e0 (by simp)).trans ((comp_step h1 e1 (by simp)).trans ((comp_step h2 e2 (by simp)).trans (comp_done h3)))
theorem comp_map (f : V → V) (vs : List V) (hl : vs.length ≤ 1000000) (h : ∀ v ∈ vs, elt v σ = some (f v, σ)) : compGo (.tup vs) elt 0 [] σ = some (vs.map f, σ) := by
  have key : ∀ (us : List V) (i : Nat), vs.drop i = us → i ≤ vs.length → compGo (.tup vs) elt i ((vs.take i).map f) σ = some (vs.map f, σ) := by
    intro us
    induction us with
    | nil =>
      intro i hd hi
      have h1 := List.drop_eq_nil_iff.mp hd
      have h2 : i = vs.length := by omega
      subst h2
      rw [List.take_length]
      exact comp_done (by show some vs[vs.length]? = _; rw [List.getElem?_eq_none (Nat.le_refl _)])
    | cons u us ih =>
      intro i hd hi
      have h1 : vs[i]? = some u := by
        have := congrArg (fun l => l[0]?) hd
        simpa using this
      have h2 : i < vs.length := (List.getElem?_eq_some_iff.mp h1).1
      have h3 : vs.drop (i + 1) = us := by rw [← List.drop_drop, hd]; rfl
      refine (comp_step (v := u) (y := f u) (σ₁ := σ) (by show some vs[i]? = _; rw [h1]) (h u (List.mem_of_getElem? h1)) (by simp; omega)).trans ?_
      have e : (vs.take i).map f ++ [f u] = (vs.take (i + 1)).map f := by
        rw [List.take_add_one, h1]; simp
      rw [e]
      exact ih (i + 1) h3 (by omega)
  exact key vs 0 (by simp) (by omega)
end


theorem law_between_ok (n : Nat) (q : Int) (σ : St) : ∃ s, s ∈ betw ∧ fn (n + 1) .f_law_between [.int q] σ = some (.str s, σ) := by
  rw [fn_succ]
  obtain ⟨w, hw, hi⟩ := vidx_mod (betw.map V.str) 25 rfl (by decide) (by decide) q
  obtain ⟨s, hs, rfl⟩ := List.mem_map.mp hw
  have hi := hi σ
  simp only [betw, List.map_cons, List.map_nil] at hi
  refine ⟨s, hs, ?_⟩
  wp_walk using b_f_law_between, hi

noncomputable def rowsT : List (List Txt) := [[[124]], [[94]], [[38]], [[61, 61], [33, 61], [101, 113], [110, 101], [105, 110], [110, 105]], [[60], [62], [60, 61], [62, 61], [108, 116], [103, 116], [108, 101], [103, 101]], [[60, 60], [62, 62]], [[43], [45]], [[42], [47], [37]], [[42, 42]]]
noncomputable def rowV (r : List Txt) : V := .tup (r.map V.str)
theorem boolsOf_map : ∀ bs : List Bool, boolsOf (bs.map V.bool) = some bs
  | [] => rfl
  | b :: bs => by rw [List.map_cons, boolsOf, boolsOf_map bs]; rfl
noncomputable def inRow (s : Txt) : V → V
  | .tup r => .bool (match strsOf r with | some t => decide (s ∈ t) | none => false)
  | v => v
set_option tactic.hygienic true in
theorem law_hold_ok (n : Nat) {l : Nat} {σ : St} {v : V} {N : Tr} (h : NR l σ v N) : ∃ σ', fn (n + 1) .f_law_hold [v] σ = some (.int (hold (tree N)), σ') ∧ Grow σ σ' := by
  rw [fn_succ]
  cases h with
  | leaf h =>
    refine ⟨σ, ?_, Grow.refl _⟩
    rw [show hold (tree (.leaf _ _)) = 13 from h.h]
    wp_walk using b_f_law_hold
  | un h =>
    refine ⟨σ, ?_, Grow.refl _⟩
    rw [show hold (tree (.un _ _)) = 13 from hold_un _ _]
    wp_walk using b_f_law_hold
  | bin hs h1 h2 =>
    rename_i s x y a b
    have hb : s ∈ binOps := by
      have : ∀ s ∈ betw, s ∈ binOps := by decide
      exact this s hs
    have hc : dComp (iVal (dVar 1)) [0] (dTest (tCmp .In (dIndex (dVar 0) (dLit (.int 1))) (dVar 1))) [some (.tup [.str tBin, .str s, x, y]), some (.tup (rowsT.map rowV))] σ = some (.ref σ.length, σ ++ [.list ((rowsT.map fun r => decide (s ∈ r)).map V.bool)]) := by
      have hm : compGo (.tup (rowsT.map rowV)) (fun v σ => dTest (tCmp .In (dIndex (dVar 0) (dLit (.int 1))) (dVar 1)) (capsOf [0] [some (.tup [.str tBin, .str s, x, y]), some (.tup (rowsT.map rowV))] ++ [some v]) σ) 0 [] σ = some ((rowsT.map rowV).map (inRow s), σ) := by
        refine comp_map (inRow s) _ (by decide) fun v hv => ?_
        obtain ⟨r, hr, rfl⟩ := List.mem_map.mp hv
        have := strsOf_map r
        wp_walk using capsOf, rowV, inRow, this
      have hi : iVal (dVar 1) [some (.tup [.str tBin, .str s, x, y]), some (.tup (rowsT.map rowV))] σ = some (.tup (rowsT.map rowV), σ) := rfl
      rw [dComp_e hi rfl hm]
      rw [List.map_map, List.map_map]
      have : inRow s ∘ rowV = V.bool ∘ fun r => decide (s ∈ r) := by
        funext r
        show inRow s (.tup (r.map V.str)) = _
        simp only [inRow, strsOf_map, Function.comp]
      rw [this]
    have hx : ∀ σ, bIndexTrue [.ref σ.length, .bool true] (σ ++ [.list ((rowsT.map fun r => decide (s ∈ r)).map V.bool)]) = some (.int ((rowsT.map fun r => decide (s ∈ r)).idxOf true), σ ++ [.list ((rowsT.map fun r => decide (s ∈ r)).map V.bool)]) := by
      intro σ
      unfold bIndexTrue
      simp only [List.getElem?_concat_length, boolsOf_map, arg2_e, asRef_e, asBool_e, lst_e, asList_e, Option.bind_some, if_true]
      rw [if_pos]
      have : ∀ s ∈ betw, (rowsT.map fun r => decide (s ∈ r)).idxOf true < (rowsT.map fun r => decide (s ∈ r)).length ∧ (rowsT.map fun r => decide (s ∈ r)).length ≤ 16777216 := by decide
      exact this s hs
    have hv : (4 : Int) + ((rowsT.map fun r => decide (s ∈ r)).idxOf true : Nat) = hold (tree (.bin s a b)) := by
      rw [show hold (tree (.bin s a b)) = lvl s from hold_mk s _ _]
      have : ∀ s ∈ betw, (4 : Int) + ((rowsT.map fun r => decide (s ∈ r)).idxOf true : Nat) = lvl s := by decide
      exact this s hs
    have hx := hx σ
    rw [← hv]
    generalize ((rowsT.map fun r => decide (s ∈ r)).idxOf true : Nat) = ix at *
    generalize ((rowsT.map fun r => decide (s ∈ r)).map V.bool) = L at *
    simp only [rowsT, rowV, List.map_cons, List.map_nil] at hc
    refine ⟨σ ++ [.list L], ?_, Grow.app _ _⟩
    wp_walk using b_f_law_hold, hc, hx
  | and h1 h2 =>
    refine ⟨_, ?_, Grow.app σ [.dict [([105, 102], .int 1), ([111, 114], .int 2), ([97, 110, 100], .int 3)]]⟩
    rw [show hold (tree (.bin [38, 38] _ _)) = 3 from rfl]
    wp_walk using b_f_law_hold, dDict, vindex, List.lookup
  | or h1 h2 =>
    refine ⟨_, ?_, Grow.app σ [.dict [([105, 102], .int 1), ([111, 114], .int 2), ([97, 110, 100], .int 3)]]⟩
    rw [show hold (tree (.bin [124, 124] _ _)) = 2 from rfl]
    wp_walk using b_f_law_hold, dDict, vindex, List.lookup
  | ite h1 h2 h3 =>
    refine ⟨_, ?_, Grow.app σ [.dict [([105, 102], .int 1), ([111, 114], .int 2), ([97, 110, 100], .int 3)]]⟩
    rw [show hold (tree (.ite _ _ _)) = 1 from rfl]
    wp_walk using b_f_law_hold, dDict, vindex, List.lookup
  | call0 => exact ⟨σ, by rw [show hold (tree (.call0 _)) = 13 from rfl]; wp_walk using b_f_law_hold, Grow.refl _⟩
  | call1 => exact ⟨σ, by rw [show hold (tree (.call1 _ _)) = 13 from rfl]; wp_walk using b_f_law_hold, Grow.refl _⟩
  | call2 => exact ⟨σ, by rw [show hold (tree (.call2 _ _ _)) = 13 from rfl]; wp_walk using b_f_law_hold, Grow.refl _⟩
  | call3 => exact ⟨σ, by rw [show hold (tree (.call3 _ _ _ _)) = 13 from rfl]; wp_walk using b_f_law_hold, Grow.refl _⟩
set_option maxHeartbeats 200000

theorem comp_call {c : Src} {F : DF} {ρ : Rho} {σ σ' : St} {I : DI} {xs : List V} (hi : I ρ σ = some (c, σ)) (hs : notStr c = true) (hg : compGo c (fun v σ => F [v] σ) 0 [] σ = some (xs, σ')) : dComp I [] (dCall F [dVar 0]) ρ σ = some (.ref σ'.length, σ' ++ [.list xs]) := by
  exact dComp_e hi hs hg
theorem b_tuple_app (σ : St) (xs : List V) (h : xs.length ≤ 16777216) : bTuple [.ref σ.length] (σ ++ [.list xs]) = some (.tup xs, σ ++ [.list xs]) := by
  unfold bTuple
  simp only [List.getElem?_concat_length, arg1_e, asRef_e, lst_e, asList_e, Option.bind_some]
  rw [if_pos h]
theorem b_addt (σ : St) (x y : List V) (h : x.length + y.length ≤ 16777216) : vbin .Add (.tup x) (.tup y) σ = some (.tup (x ++ y), σ) := if_pos h
theorem i_m2 (σ : St) (a b c : V) : vindex (.tup [a, b, c]) (.int (-2)) σ = some b := rfl
theorem i_m1 (σ : St) (a b c : V) : vindex (.tup [a, b, c]) (.int (-1)) σ = some c := rfl
theorem i_m2' (σ : St) (a b c d : V) : vindex (.tup [a, b, c, d]) (.int (-2)) σ = some c := rfl
theorem i_m1' (σ : St) (a b c d : V) : vindex (.tup [a, b, c, d]) (.int (-1)) σ = some d := rfl
theorem mk_betw {s : Txt} (h : s ∈ betw) (a b : V) : mkBin s a b = .tup [.str tBin, .str s, a, b] := by
  have : ∀ s ∈ betw, s ≠ [38, 38] ∧ s ≠ [124, 124] := by decide
  obtain ⟨h1, h2⟩ := this s h
  unfold mkBin
  rw [if_neg h1, if_neg h2]

theorem at_drop {α : Type} {xs r : List α} {x : α} {i : Nat} (h : xs.drop i = x :: r) : xs[i]? = some x ∧ xs.drop (i + 1) = r := ⟨by have := congrArg (fun l => l[0]?) h; simpa using this, by rw [← List.drop_drop, h]; rfl⟩
theorem succ_of {P : Nat → Prop} {c m : Nat} (hm : c + 1 ≤ m) (h : ∀ k, c ≤ k → P (k + 1)) : P m := by
  obtain ⟨k, rfl⟩ : ∃ k, m = k + 1 := ⟨m - 1, by omega⟩
  exact h k (Nat.le_of_succ_le_succ hm)
noncomputable def Tw (m : Nat) (σ₀ : St) (x t : V) : Prop := ∀ σ, Grow σ₀ σ → ∃ σ', fn m .f_law_tree [x] σ = some (t, σ') ∧ Grow σ σ'
noncomputable def Tws (m : Nat) (σ₀ : St) : List V → List V → Prop
  | [], [] => True
  | x :: xs, t :: ts => Tw m σ₀ x t ∧ Tws m σ₀ xs ts
  | _, _ => False
theorem Tws.run {m : Nat} {σ₀ : St} {c : Src} {all : List V} (hc : ∀ σ, Grow σ₀ σ → ∀ i, dNext c i σ = some all[i]?) : ∀ {xs ts : List V} {i : Nat} {acc : List V} {σ : St}, Tws m σ₀ xs ts → all.drop i = xs → acc.length + xs.length ≤ 1000000 → Grow σ₀ σ →
    ∃ σ', compGo c (fun v σ => fn m .f_law_tree [v] σ) i acc σ = some (acc ++ ts, σ') ∧ Grow σ σ'
  | [], [], i, acc, σ, _, hd, _, g => ⟨σ, by rw [List.append_nil]; exact comp_done (by rw [hc σ g, List.getElem?_eq_none (List.drop_eq_nil_iff.mp hd)]), Grow.refl _⟩
  | x :: xs, t :: ts, i, acc, σ, h, hd, hl, g => by
    rw [List.length_cons] at hl
    obtain ⟨σ₁, e1, g1⟩ := h.1 σ g
    obtain ⟨h1, h3⟩ := at_drop hd
    obtain ⟨σ₂, e2, g2⟩ := Tws.run hc h.2 h3 (acc := acc ++ [t]) (by rw [List.length_append]; exact Nat.le_trans (Nat.le_of_eq (Nat.add_right_comm _ 1 _)) hl) (g.trans g1)
    rw [List.append_assoc] at e2
    exact ⟨σ₂, (comp_step (by rw [hc σ g, h1]) e1 (by omega)).trans e2, g1.trans g2⟩
section
variable {m : Nat} {σ₀ σ : St} {xs ts : List V} (h : Tws m σ₀ xs ts) (hl : xs.length ≤ 3) (g : Grow σ₀ σ)
include h hl g
theorem Tws.len : ts.length = xs.length := by
  have : ∀ {xs ts : List V}, Tws m σ₀ xs ts → ts.length = xs.length := by
    intro xs
    induction xs with
    | nil => intro ts h; cases ts with | nil => rfl | cons => exact h.elim
    | cons x xs ih => intro ts h; cases ts with | nil => exact h.elim | cons t ts => exact congrArg (· + 1) (ih h.2)
  exact this h
theorem tree_call {w : Txt} {r : Nat} (hr : σ₀[r]? = some (.list xs)) : ∃ σ', fn (m + 1) .f_law_tree [.tup [.str tCall, .str w, .ref r]] σ = some (.tup [.str tCall, .str w, .tup ts], σ') ∧ Grow σ σ' := by
  have hr' := g.get hr
  obtain ⟨σ₁, e1, g1⟩ := h.run (c := .list r) (all := xs) (i := 0) (acc := []) (fun σ g i => by simp [dNext, g.get hr]) rfl (by simp; omega) g
  have hc : dComp (iVal (dIndex (dVar 0) (dLit (.int 2)))) [] (dCall (fn m .f_law_tree) [dVar 0]) [some (.tup [.str tCall, .str w, .ref r]), some (.str tCall)] σ = some (.ref σ₁.length, σ₁ ++ [.list ts]) := comp_call (c := .list r) (by wp_walk using iVal, srcOf, hr') rfl e1
  have ht := b_tuple_app σ₁ ts (by rw [h.len hl g]; omega)
  refine ⟨σ₁ ++ [.list ts], ?_, g1.trans (Grow.app _ _)⟩
  rw [fn_succ]
  wp_walk using b_f_law_tree, hc, ht
theorem tree_op {k : Txt} {s : V} (hk : k = tUn ∨ k = tBin) (hx : 0 < xs.length) : ∃ σ', fn (m + 1) .f_law_tree [.tup (.str k :: s :: xs)] σ = some (.tup (.str k :: s :: ts), σ') ∧ Grow σ σ' := by
  obtain ⟨σ₁, e1, g1⟩ := h.run (c := .tup xs) (all := xs) (i := 0) (acc := []) (fun σ g i => rfl) rfl (by simp; omega) g
  have hs : vslice (.tup (.str k :: s :: xs)) (some 2) none σ = some (.tup xs, σ) := if_pos ⟨by simp; omega, by decide, by simp; omega⟩
  have hc : dComp (iVal (dSlice (dVar 0) (some (dLit (.int 2))) none)) [] (dCall (fn m .f_law_tree) [dVar 0]) [some (.tup (.str k :: s :: xs)), some (.str k)] σ = some (.ref σ₁.length, σ₁ ++ [.list ts]) := comp_call (c := .tup xs) (by wp_walk using iVal, srcOf, hs) rfl e1
  have hn := h.len hl g
  have ht := b_tuple_app σ₁ ts (by omega)
  refine ⟨σ₁ ++ [.list ts], ?_, g1.trans (Grow.app _ _)⟩
  have hi : vslice (.tup (.str k :: s :: xs)) none (some 2) σ = some (.tup [.str k, s], σ) := if_pos ⟨by simp; omega, by decide, by simp; omega⟩
  have ha := b_addt (σ₁ ++ [.list ts]) [.str k, s] ts (by simp; omega)
  rw [fn_succ]
  rcases hk with rfl | rfl <;> wp_walk using b_f_law_tree, hc, ht, hi, ha
theorem tree_more {k : Txt} (hk : k = tAnd ∨ k = tOr ∨ k = tIf) : ∃ σ', fn (m + 1) .f_law_tree [.tup (.str k :: xs)] σ = some (.tup (.str k :: ts), σ') ∧ Grow σ σ' := by
  obtain ⟨σ₁, e1, g1⟩ := h.run (c := .tup xs) (all := xs) (i := 0) (acc := []) (fun σ g i => rfl) rfl (by simp; omega) g
  have hs : vslice (.tup (.str k :: xs)) (some 1) none σ = some (.tup xs, σ) := if_pos ⟨by simp; omega, by decide, by simp; omega⟩
  have hc : dComp (iVal (dSlice (dVar 0) (some (dLit (.int 1))) none)) [] (dCall (fn m .f_law_tree) [dVar 0]) [some (.tup (.str k :: xs)), some (.str k)] σ = some (.ref σ₁.length, σ₁ ++ [.list ts]) := comp_call (c := .tup xs) (by wp_walk using iVal, srcOf, hs) rfl e1
  have hn := h.len hl g
  have ht := b_tuple_app σ₁ ts (by omega)
  refine ⟨σ₁ ++ [.list ts], ?_, g1.trans (Grow.app _ _)⟩
  have ha := b_addt (σ₁ ++ [.list ts]) [.str k] ts (by simp; omega)
  have hq : k ≠ tCall ∧ k ≠ [108, 101, 97, 102] ∧ k ≠ tUn ∧ k ≠ tBin := by rcases hk with rfl | rfl | rfl <;> decide
  rw [fn_succ]
  wp_walk using b_f_law_tree, hc, ht, hq, ha
end
theorem Tw.up {c m : Nat} {σ₀ : St} {x t : V} (ia : ∀ {m}, c ≤ m → Tw (m + 1) σ₀ x t) (h : c + 1 ≤ m) : Tw m σ₀ x t := succ_of (P := fun m => Tw m σ₀ x t) h fun k hk => ia hk
theorem tree_all {l : Nat} {σ₀ : St} {v : V} {N : Tr} (h : NR l σ₀ v N) : ∀ {m : Nat}, cnt N ≤ m → Tw (m + 1) σ₀ v (tree N) := by
  induction h with
  | leaf h => exact fun hm σ g => ⟨σ, by rw [fn_succ]; wp_walk using b_f_law_tree, tree, Grow.refl _⟩
  | un hs h1 ia => exact fun hm σ g => tree_op (xs := [_]) (ts := [_]) ⟨Tw.up ia (Nat.add_comm _ _ ▸ hm), trivial⟩ (Nat.le_of_ble_eq_true rfl) g (.inl rfl) (Nat.le_of_ble_eq_true rfl)
  | bin hs h1 h2 ia ib =>
    intro m hm σ g
    rw [tree, mk_betw hs]
    simp only [cnt] at hm
    exact tree_op (xs := [_, _]) (ts := [_, _]) ⟨Tw.up ia (by omega), Tw.up ib (by omega), trivial⟩ (Nat.le_of_ble_eq_true rfl) g (.inr rfl) (Nat.le_of_ble_eq_true rfl)
  | and h1 h2 ia ib =>
    intro m hm σ g
    simp only [cnt] at hm
    exact tree_more (xs := [_, _]) (ts := [_, _]) ⟨Tw.up ia (by omega), Tw.up ib (by omega), trivial⟩ (Nat.le_of_ble_eq_true rfl) g (.inl rfl)
  | or h1 h2 ia ib =>
    intro m hm σ g
    simp only [cnt] at hm
    exact tree_more (xs := [_, _]) (ts := [_, _]) ⟨Tw.up ia (by omega), Tw.up ib (by omega), trivial⟩ (Nat.le_of_ble_eq_true rfl) g (.inr (.inl rfl))
  | ite h1 h2 h3 ia ib ic =>
    intro m hm σ g
    simp only [cnt] at hm
    exact tree_more (xs := [_, _, _]) (ts := [_, _, _]) ⟨Tw.up ia (by omega), Tw.up ib (by omega), Tw.up ic (by omega), trivial⟩ (Nat.le_of_ble_eq_true rfl) g (.inr (.inr rfl))
  | call0 hw hr hl => exact fun hm σ g => tree_call (xs := []) (ts := []) trivial (Nat.le_of_ble_eq_true rfl) g hl
  | call1 hw hr hl h1 ia => exact fun hm σ g => tree_call (xs := [_]) (ts := [_]) ⟨Tw.up ia (Nat.add_comm _ _ ▸ hm), trivial⟩ (Nat.le_of_ble_eq_true rfl) g hl
  | call2 hw hr hl h1 h2 ia ib =>
    intro m hm σ g
    simp only [cnt] at hm
    exact tree_call (xs := [_, _]) (ts := [_, _]) ⟨Tw.up ia (by omega), Tw.up ib (by omega), trivial⟩ (Nat.le_of_ble_eq_true rfl) g hl
  | call3 hw hr hl h1 h2 h3 ia ib ic =>
    intro m hm σ g
    simp only [cnt] at hm
    exact tree_call (xs := [_, _, _]) (ts := [_, _, _]) ⟨Tw.up ia (by omega), Tw.up ib (by omega), Tw.up ic (by omega), trivial⟩ (Nat.le_of_ble_eq_true rfl) g hl
theorem law_tree_ok {l : Nat} (N : Tr) (v : V) (σ : St) (h : NR l σ v N) (m : Nat) (hm : cnt N + 1 ≤ m) : ∃ σ', fn m .f_law_tree [v] σ = some (tree N, σ') ∧ Grow σ σ' := Tw.up (fun h' => tree_all h h') hm σ (Grow.refl _)
set_option maxHeartbeats 200000

noncomputable def opTk (s : Txt) : Tk := ⟨s, sOp, .str s, if s ∈ wordOps then .word else .op⟩
noncomputable def fnTk (w : Txt) : Tk := ⟨w, sWord, .str w, .word⟩
inductive Pc where
  | t (t : Tk)
  | n (a : Tr) (k : Int)
noncomputable def pieces : Tr → List Pc
  | .leaf t _ => [.t t]
  | .un s a => [.t (opTk s), .n a 13]
  | .bin s a b => [.n a (lreq s), .t (opTk s), .n b (nextL s)]
  | .ite a b c => [.n a 2, .t (opTk [63]), .n b 1, .t (opTk [58]), .n c 1]
  | .call0 w => [.t (fnTk w), .t lpT, .t rpT]
  | .call1 w a => [.t (fnTk w), .t lpT, .n a 1, .t rpT]
  | .call2 w a b => [.t (fnTk w), .t lpT, .n a 1, .t cmT, .n b 1, .t rpT]
  | .call3 w a b c => [.t (fnTk w), .t lpT, .n a 1, .t cmT, .n b 1, .t cmT, .n c 1, .t rpT]
inductive Pcs (l : Nat) (σ : St) : List V → List Pc → Prop
  | nil : Pcs l σ [] []
  | t {t : Tk} {vs : List V} {ps : List Pc} : Pcs l σ vs ps → Pcs l σ (.str t.s :: vs) (.t t :: ps)
  | n {x : V} {a : Tr} {k : Int} {vs : List V} {ps : List Pc} : NR l σ x a → Pcs l σ vs ps → Pcs l σ (.tup [x, .int k] :: vs) (.n a k :: ps)
theorem Pcs.grow {l : Nat} {σ σ' : St} {vs : List V} {ps : List Pc} (h : Pcs l σ vs ps) (g : Grow σ σ') : Pcs l σ' vs ps := by
  induction h with
  | nil => exact .nil
  | t _ i => exact .t i
  | n h _ i => exact .n (h.grow g) i

noncomputable def Mk (D : DE) (ρ : Rho) (σ : St) (x : List V) : Prop := ∃ σ' a, D ρ σ = some (.ref a, σ') ∧ σ'[a]? = some (.list x) ∧ Grow σ σ' ∧ σ.length ≤ a
theorem b_addl {σ : St} {l k : Nat} {x y : List V} (h1 : σ[l]? = some (.list x)) (h2 : σ[k]? = some (.list y)) (h : x.length + y.length ≤ 16777216) : vbin .Add (.ref l) (.ref k) σ = some (.ref σ.length, σ ++ [.list (x ++ y)]) := by
  unfold vbin
  simp only [h1, h2, asRef_e, lst_e, asList_e, Option.bind_some]
  rw [if_pos h]
theorem Mk.list {as : List DE} {ρ : Rho} {σ : St} {x : List V} (h : dEs as ρ σ = some (x, σ)) : Mk (dList as) ρ σ x :=
  ⟨σ ++ [O.list x], σ.length, by unfold dList; rw [h]; rfl, List.getElem?_concat_length, Grow.app _ _, Nat.le_refl _⟩
theorem Mk.cut {i : Nat} {ρ : Rho} {σ : St} {a : Nat} {x : List V} (h : ρ[i]? = some (some (.ref a))) (hx : σ[a]? = some (.list x)) (hl : x.length ≤ 1000) : Mk (dSlice (dVar i) (some (dLit (.int 1))) none) ρ σ (x.drop 1) :=
  ⟨σ ++ [O.list (x.drop 1)], σ.length, by
    have hv : dVar i ρ σ = some (.ref a, σ) := dVar_h h σ
    wp_walk using hv, vslice, hx, (by omega : x.length ≤ 16777216), List.getElem?_concat_length, Grow.app _ _, Nat.le_refl _⟩
theorem Mk.add {A B : DE} {ρ : Rho} {σ : St} {x y : List V} (hA : Mk A ρ σ x) (hB : ∀ σ', Grow σ σ' → Mk B ρ σ' y) (hl : x.length + y.length ≤ 1000) : Mk (dBin .Add A B) ρ σ (x ++ y) := by
  obtain ⟨σ₁, a, e1, h1, g1, l1⟩ := hA
  obtain ⟨σ₂, b, e2, h2, g2, l2⟩ := hB σ₁ g1
  refine ⟨σ₂ ++ [.list (x ++ y)], σ₂.length, ?_, by simp, (g1.trans g2).trans (Grow.app _ _), (g1.trans g2).1⟩
  have := b_addl (g2.get h1) h2 (by omega)
  simp [dBin, e1, e2, this]

noncomputable abbrev argB : DS := sSet 3 (dBin .Add (dVar 3) (dList [dLit (.str [44]), dTup [dVar 4, dLit (.int 1)]]))
noncomputable def commas (vs : List V) : List V := (vs.map fun x => [V.str [44], V.tup [x, .int 1]]).flatten
theorem args_loop (r : Nat) (all : List V) (o0 o1 o2 o5 : Option V) : ∀ (rest : List V) (i a : Nat) (xs : List V) (o4 : Option V) (σ : St), σ[r]? = some (.list all) → all.drop i = rest → σ[a]? = some (.list xs) → xs.length + 2 * rest.length ≤ 900 →
    ∃ a' o4' σ', sForGo (.list r) 4 argB i [o0, o1, o2, some (.ref a), o4, o5] σ = some (.next, [o0, o1, o2, some (.ref a'), o4', o5], σ') ∧ σ'[a']? = some (.list (xs ++ commas rest)) ∧ Grow σ σ' := by
  intro rest
  induction rest with
  | nil =>
    intro i a xs o4 σ hr hd ha hl
    have h1 := List.drop_eq_nil_iff.mp hd
    refine ⟨a, o4, σ, for_done (by simp [dNext, hr, List.getElem?_eq_none h1]), ?_, Grow.refl _⟩
    simpa [commas] using ha
  | cons x rest ih =>
    intro i a xs o4 σ hr hd ha hl
    have h1 : all[i]? = some x := by
      have := congrArg (fun l => l[0]?) hd
      simpa using this
    have h3 : all.drop (i + 1) = rest := by rw [← List.drop_drop, hd]; rfl
    have ga : Grow σ (σ ++ [O.list [.str [44], .tup [x, .int 1]]]) := Grow.app _ _
    have hadd := b_addl (σ := σ ++ [O.list [.str [44], .tup [x, .int 1]]]) (l := a) (k := σ.length) (x := xs) (y := [.str [44], .tup [x, .int 1]]) (ga.get ha) (by simp) (by simp at hl ⊢; omega)
    have gb : Grow σ (σ ++ [O.list [.str [44], .tup [x, .int 1]]] ++ [O.list (xs ++ [.str [44], .tup [x, .int 1]])]) := ga.trans (Grow.app _ _)
    obtain ⟨a', o4', σ', e1, e2, e3⟩ := ih (i + 1) (σ ++ [O.list [.str [44], .tup [x, .int 1]]]).length (xs ++ [.str [44], .tup [x, .int 1]]) (some x) _ (gb.get hr) h3 (by rw [List.getElem?_concat_length]) (by simp at hl ⊢; omega)
    refine ⟨a', o4', σ', (for_step (v := x) (by simp [dNext, hr, h1]) ?_).trans e1, ?_, gb.trans e3⟩
    · simp only [List.length_append, List.length_singleton, List.append_assoc, List.singleton_append] at hadd ⊢
      wp_walk using dList, hadd
    · rw [e2]; simp [commas]

noncomputable def Got (m l : Nat) (σ₀ σ : St) (v : V) (N : Tr) : Prop := ∃ r vs σ', fn m .f_law_pieces [v] σ = some (.ref r, σ') ∧ σ'[r]? = some (.list vs) ∧ Grow σ σ' ∧ σ.length ≤ r ∧ Pcs l σ₀ vs (pieces N)
theorem Got.of_list {m l : Nat} {σ₀ σ σ' : St} {v : V} {N : Tr} {vs : List V} (e : fn m .f_law_pieces [v] σ = some (.ref σ'.length, σ' ++ [.list vs])) (g : Grow σ σ') (h : Pcs l σ₀ vs (pieces N)) : Got m l σ₀ σ v N :=
  ⟨_, vs, _, e, by simp, g.trans (Grow.app _ _), g.1, h⟩
theorem opTk_s (s : Txt) : V.str (opTk s).s = .str s := rfl

theorem call_pieces (m : Nat) {l : Nat} {σ₀ σ : St} {w : Txt} {r : Nat} {as : List V} {N : Tr} (h : NR l σ (.tup [.str tCall, .str w, .ref r]) N) (hr : σ[r]? = some (.list as)) (hl : as.length ≤ 3)
    (hp : Pcs l σ₀ ((.str w :: .str [40] :: (commas as).drop 1) ++ [.str [41]]) (pieces N)) : Got (m + 2) l σ₀ σ (.tup [.str tCall, .str w, .ref r]) N := by
  obtain ⟨σ₁, e1, g1⟩ := law_hold_ok m h
  have hr1 := g1.get hr
  obtain ⟨a', o4', σ₂, e2, e3, g2⟩ := args_loop r as (some (.tup [.str tCall, .str w, .ref r])) (some (.str tCall)) (some (.int (hold (tree N)))) none as 0 σ₁.length [] none (σ₁ ++ [O.list []]) ((Grow.app σ₁ [O.list []]).get hr1) rfl (by simp) (by simp; omega)
  rw [List.nil_append] at e3
  have hcl : (commas as).length = 2 * as.length := by
    unfold commas
    rw [List.length_flatten, List.map_map]
    have : (List.length ∘ fun x => [V.str [44], V.tup [x, .int 1]]) = fun _ => 2 := rfl
    rw [this, List.map_const', List.sum_replicate_nat]
    omega
  have hmk : Mk (dBin .Add (dBin .Add (dList [dIndex (dVar 0) (dLit (.int 1)), dLit (.str [40])]) (dSlice (dVar 3) (some (dLit (.int 1))) none)) (dList [dLit (.str [41])])) [some (.tup [.str tCall, .str w, .ref r]), some (.str tCall), some (.int (hold (tree N))), some (.ref a'), o4', none] σ₂ (([.str w, .str [40]] ++ (commas as).drop 1) ++ [.str [41]]) := by
    refine Mk.add (Mk.add (Mk.list ?_) (fun σ' g => Mk.cut rfl (g.get e3) (by omega)) (by simp; omega)) (fun σ' g => Mk.list ?_) (by simp; omega)
    · wp_walk using dEs
    · wp_walk using dEs
  obtain ⟨σ₃, c, e4, h4, g4, l4⟩ := hmk
  have G : Grow σ σ₃ := g1.trans ((Grow.app σ₁ _).trans (g2.trans g4))
  refine ⟨c, _, σ₃, ?_, h4, G, ?_, hp⟩
  · rw [fn_succ]
    have hfor : sFor (iVal (dIndex (dVar 0) (dLit (.int 2)))) 4 argB [some (.tup [.str tCall, .str w, .ref r]), some (.str tCall), some (.int (hold (tree N))), some (.ref σ₁.length), none, none] (σ₁ ++ [O.list []]) = some (.next, [some (.tup [.str tCall, .str w, .ref r]), some (.str tCall), some (.int (hold (tree N))), some (.ref a'), o4', none], σ₂) := by
      rw [← e2]
      have hrr := (Grow.app σ₁ [O.list []]).get hr1
      have hv : iVal (dIndex (dVar 0) (dLit (.int 2))) [some (.tup [.str tCall, .str w, .ref r]), some (.str tCall), some (.int (hold (tree N))), some (.ref σ₁.length), none, none] (σ₁ ++ [O.list []]) = some (.list r, σ₁ ++ [.list []]) := by
        wp_walk using iVal, srcOf, hrr
      unfold sFor
      rw [hv]; rfl
    have hlist : ∀ ρ σ, dList [] ρ σ = some (.ref σ.length, σ ++ [.list []]) := fun _ _ => rfl
    simp only [bd_f_law_pieces, b_f_law_pieces]
    generalize dBin .Add (dBin .Add (dList [dIndex (dVar 0) (dLit (.int 1)), dLit (.str [40])]) (dSlice (dVar 3) (some (dLit (.int 1))) none)) (dList [dLit (.str [41])]) = D at e4 ⊢
    wp_walk using e1, hlist, hfor, e4
  · have := g1.1
    have := g2.1
    simp at this
    omega

set_option tactic.hygienic true in
theorem law_pieces_ok (m : Nat) {l : Nat} {σ₀ σ : St} {v : V} {N : Tr} (h : NR l σ₀ v N) (g0 : Grow σ₀ σ) : Got (m + 2) l σ₀ σ v N := by
  obtain ⟨σ₁, e1, g1⟩ := law_hold_ok m (h.grow g0)
  have H := h.grow g0
  cases h with
  | leaf h =>
    refine Got.of_list (σ' := σ₁) (vs := [.str _]) ?_ g1 (.t .nil)
    rw [fn_succ]; wp_walk using b_f_law_pieces, e1, dList
  | un hs h1 =>
    refine Got.of_list (σ' := σ₁) (vs := [.str _, .tup [_, .int 13]]) ?_ g1 (.t (t := opTk _) (.n h1 .nil))
    rw [fn_succ]; wp_walk using b_f_law_pieces, e1, dList, opTk
  | bin hs h1 h2 =>
    rename_i s x y a b
    have hh : hold (tree (.bin s a b)) = lvl s := hold_mk s _ _
    by_cases hp : s = [42, 42]
    · subst hp
      refine Got.of_list (σ' := σ₁) (vs := [.tup [x, .int 13], .str [42, 42], .tup [y, .int 12]]) ?_ g1 (.n h1 (.t (t := opTk [42, 42]) (.n h2 .nil)))
      rw [fn_succ]; wp_walk using b_f_law_pieces, e1, dList
    · refine Got.of_list (σ' := σ₁) (vs := [.tup [x, .int (lreq s)], .str s, .tup [y, .int (nextL s)]]) ?_ g1 (.n h1 (.t (t := opTk s) (.n h2 .nil)))
      rw [hh] at e1
      rw [fn_succ]; wp_walk using b_f_law_pieces, e1, dList, hp, i_m2', i_m1', lreq, nextL
  | and h1 h2 =>
    rename_i x y a b
    refine Got.of_list (σ' := σ₁) (vs := [.tup [x, .int 3], .str [38, 38], .tup [y, .int 4]]) ?_ g1 (.n h1 (.t (t := opTk [38, 38]) (.n h2 .nil)))
    have hh : hold (tree (.bin [38, 38] a b)) = 3 := rfl
    rw [hh] at e1
    rw [fn_succ]; wp_walk using b_f_law_pieces, e1, dList, i_m2, i_m1
  | or h1 h2 =>
    rename_i x y a b
    refine Got.of_list (σ' := σ₁) (vs := [.tup [x, .int 2], .str [124, 124], .tup [y, .int 3]]) ?_ g1 (.n h1 (.t (t := opTk [124, 124]) (.n h2 .nil)))
    have hh : hold (tree (.bin [124, 124] a b)) = 2 := rfl
    rw [hh] at e1
    rw [fn_succ]; wp_walk using b_f_law_pieces, e1, dList, i_m2, i_m1
  | ite h1 h2 h3 =>
    rename_i x y z a b c
    refine Got.of_list (σ' := σ₁) (vs := [.tup [x, .int 2], .str [63], .tup [y, .int 1], .str [58], .tup [z, .int 1]]) ?_ g1 (.n h1 (.t (t := opTk [63]) (.n h2 (.t (t := opTk [58]) (.n h3 .nil)))))
    rw [fn_succ]; wp_walk using b_f_law_pieces, e1, dList
  | call0 hw hr hl => exact call_pieces m H (g0.get hl) (by simp) (.t (t := fnTk _) (.t (t := lpT) (.t (t := rpT) .nil)))
  | call1 hw hr hl h1 => exact call_pieces m H (g0.get hl) (by simp) (.t (t := fnTk _) (.t (t := lpT) (.n h1 (.t (t := rpT) .nil))))
  | call2 hw hr hl h1 h2 => exact call_pieces m H (g0.get hl) (by simp) (.t (t := fnTk _) (.t (t := lpT) (.n h1 (.t (t := cmT) (.n h2 (.t (t := rpT) .nil))))))
  | call3 hw hr hl h1 h2 h3 => exact call_pieces m H (g0.get hl) (by simp) (.t (t := fnTk _) (.t (t := lpT) (.n h1 (.t (t := cmT) (.n h2 (.t (t := cmT) (.n h3 (.t (t := rpT) .nil))))))))
set_option maxHeartbeats 200000

noncomputable abbrev Prs := List (Nat × Nat)
noncomputable def sh (n : Nat) (p : Prs) : Prs := p.map fun q => (n + q.1, n + q.2)
theorem sh0 (p : Prs) : sh 0 p = p := by unfold sh; simp
theorem sh_sh (a b : Nat) (p : Prs) : sh a (sh b p) = sh (a + b) p := by
  unfold sh; rw [List.map_map]; apply List.map_congr_left; intro q _; simp [Nat.add_assoc]
theorem sh_app (a : Nat) (p q : Prs) : sh a (p ++ q) = sh a p ++ sh a q := by unfold sh; simp
inductive PG where
  | n (a : Tr) (k : Int)
  | ps (l : List Pc)
noncomputable def wantd (a : Tr) (k : Int) : Nat := if hold (tree a) < k then 1 else 0
inductive W (z : Bool) : PG → List Tk → Prs → Prop
  | nil : W z (.ps []) [] []
  | t {t : Tk} {ps : List Pc} {ts : List Tk} {p : Prs} : W z (.ps ps) ts p → W z (.ps (.t t :: ps)) (t :: ts) (sh 1 p)
  | n {a : Tr} {k : Int} {ps : List Pc} {ts us : List Tk} {p q : Prs} : W z (.n a k) ts p → W z (.ps ps) us q → W z (.ps (.n a k :: ps)) (ts ++ us) (p ++ sh ts.length q)
  | put {a : Tr} {k : Int} {ts : List Tk} {p : Prs} (m : Nat) : m ≤ 1 → (z = true → m = 0) → W z (.ps (pieces a)) ts p →
      W z (.n a k) (List.replicate (wantd a k + m) lpT ++ (ts ++ List.replicate (wantd a k + m) rpT)) (sh (wantd a k + m) p ++ if hold (tree a) < k then [(0, wantd a k + m + ts.length)] else [])

noncomputable abbrev kTok : Txt := [116, 111, 107, 101, 110, 115]
noncomputable abbrev kPrs : Txt := [112, 97, 105, 114, 115]
noncomputable abbrev kExt : Txt := [101, 120, 116, 114, 97, 115]
noncomputable def tV (ts : List Tk) : List V := ts.map fun t => .str t.s
noncomputable def pV (p : Prs) : List V := p.map fun q => .tup [.int q.1, .int q.2]
structure Out (o T P : Nat) (σ : St) (xs ys : List V) (e : Int) : Prop where
  o : σ[o]? = some (.dict [(kTok, .ref T), (kPrs, .ref P), (kExt, .int e)])
  t : σ[T]? = some (.list xs)
  p : σ[P]? = some (.list ys)
  n : T ≠ P
noncomputable def Gr3 (o T P : Nat) (σ σ' : St) : Prop := σ.length ≤ σ'.length ∧ ∀ i, i < σ.length → i ≠ o → i ≠ T → i ≠ P → σ'[i]? = σ[i]?
section
variable {o T P : Nat} {σ σ' σ'' : St} {xs ys zs : List V} {e : Int}
theorem Gr3.refl : Gr3 o T P σ σ := ⟨Nat.le_refl _, fun _ _ _ _ _ => rfl⟩
theorem Gr3.trans (x : Gr3 o T P σ σ') (y : Gr3 o T P σ' σ'') : Gr3 o T P σ σ'' := ⟨Nat.le_trans x.1 y.1, fun i h a b c => (y.2 i (Nat.lt_of_lt_of_le h x.1) a b c).trans (x.2 i h a b c)⟩
theorem Grow.g3 (g : Grow σ σ') : Gr3 o T P σ σ' := ⟨g.1, fun i h _ _ _ => g.2 i h⟩
theorem Gr3.set (x : O) {l : Nat} (h : l = o ∨ l = T ∨ l = P) : Gr3 o T P σ (σ.set l x) := ⟨by simp, fun i hi a b c => List.getElem?_set_ne (by rcases h with rfl | rfl | rfl <;> simp_all [Ne, eq_comm])⟩
theorem Gr3.old {σ₀ : St} (g : Gr3 o T P σ σ') (h : Grow σ₀ σ) (a : σ₀.length ≤ o) (b : σ₀.length ≤ T) (c : σ₀.length ≤ P) : Grow σ₀ σ' :=
  ⟨Nat.le_trans h.1 g.1, fun i hi => (g.2 i (Nat.lt_of_lt_of_le hi h.1) (by omega) (by omega) (by omega)).trans (h.2 i hi)⟩
theorem Gr3.get (g : Gr3 o T P σ σ') {i : Nat} {x : O} (h : σ[i]? = some x) (a : i ≠ o) (b : i ≠ T) (c : i ≠ P) : σ'[i]? = some x := (g.2 i (List.getElem?_eq_some_iff.mp h).1 a b c).trans h
theorem Out.grow (h : Out o T P σ xs ys e) (g : Grow σ σ') : Out o T P σ' xs ys e := ⟨g.get h.o, g.get h.t, g.get h.p, h.n⟩
theorem Out.oT (h : Out o T P σ xs ys e) : o ≠ T := by rintro rfl; have := h.o; rw [h.t] at this; cases this
theorem Out.oP (h : Out o T P σ xs ys e) : o ≠ P := by rintro rfl; have := h.o; rw [h.p] at this; cases this
theorem lt_of_some {i : Nat} {x : O} (h : σ[i]? = some x) : i < σ.length := (List.getElem?_eq_some_iff.mp h).1
theorem Out.setT (h : Out o T P σ xs ys e) : Out o T P (σ.set T (O.list zs)) zs ys e :=
  ⟨by rw [List.getElem?_set_ne h.oT.symm]; exact h.o, List.getElem?_set_self (lt_of_some h.t), by rw [List.getElem?_set_ne h.n]; exact h.p, h.n⟩
theorem Out.setP (h : Out o T P σ xs ys e) : Out o T P (σ.set P (.list zs)) xs zs e :=
  ⟨by rw [List.getElem?_set_ne h.oP.symm]; exact h.o, by rw [List.getElem?_set_ne h.n.symm]; exact h.t, List.getElem?_set_self (lt_of_some h.p), h.n⟩
theorem Out.setE {f : Int} (h : Out o T P σ xs ys e) : Out o T P (σ.set o (.dict [(kTok, .ref T), (kPrs, .ref P), (kExt, .int f)])) xs ys f :=
  ⟨List.getElem?_set_self (lt_of_some h.o), by rw [List.getElem?_set_ne h.oT]; exact h.t, by rw [List.getElem?_set_ne h.oP]; exact h.p, h.n⟩
theorem Out.iT (h : Out o T P σ xs ys e) : vindex (.ref o) (.str kTok) σ = some (.ref T) := by simp [vindex, h.o, List.lookup]
theorem Out.iP (h : Out o T P σ xs ys e) : vindex (.ref o) (.str kPrs) σ = some (.ref P) := by simp [vindex, h.o, List.lookup]
theorem Out.iE (h : Out o T P σ xs ys e) : vindex (.ref o) (.str kExt) σ = some (.int e) := by simp [vindex, h.o, List.lookup]
theorem Out.putE {f : Int} (h : Out o T P σ xs ys e) : setItemD (.ref o) (.str kExt) (.int f) σ = some (σ.set o (.dict [(kTok, .ref T), (kPrs, .ref P), (kExt, .int f)])) := by simp [setItemD, h.o, putD]
theorem b_mull {σ : St} {l : Nat} {x : List V} {n : Nat} (h1 : σ[l]? = some (.list x)) (h : x.length ≤ 64) (hn : n ≤ 64) : vbin .Mult (.ref l) (.int n) σ = some (.ref σ.length, σ ++ [O.list (List.replicate n x).flatten]) := by
  unfold vbin
  simp only [h1, Int.toNat_natCast, asInt_e, lst_e, asList_e, Option.bind_some]
  rw [if_pos ⟨h, by omega, by omega⟩]
theorem rep_sing {α : Type} (x : α) : ∀ n : Nat, (List.replicate n [x]).flatten = List.replicate n x
  | 0 => rfl
  | n + 1 => by rw [List.replicate_succ, List.flatten_cons, rep_sing x n]; rfl

noncomputable abbrev extS (c : Txt) : DS := sExpr (dMeth kList bExtend (dIndex (dVar 0) (dLit (.str kTok))) [dBin .Mult (dList [dLit (.str c)]) (dVar 4)])
theorem ext_ok {o T P : Nat} {σ : St} {xs ys : List V} {e : Int} {ρ : Rho} {n : Nat} (c : Txt) (h : Out o T P σ xs ys e) (h0 : ρ[0]? = some (some (.ref o))) (h4 : ρ[4]? = some (some (.int n))) (hn : n ≤ 2) (hl : xs.length ≤ 1000) :
    ∃ σ', extS c ρ σ = some (.next, ρ, σ') ∧ Out o T P σ' (xs ++ List.replicate n (.str c)) ys e ∧ Gr3 o T P σ σ' := by
  have hm := b_mull (σ := σ ++ [O.list [.str c]]) (l := σ.length) (x := [.str c]) (n := n) (by simp) (by simp) (by omega)
  have g : Grow σ (σ ++ [O.list [.str c]] ++ [O.list (List.replicate n [.str c]).flatten]) := (Grow.app _ _).trans (Grow.app _ _)
  have h' := h.grow g
  have hk : kList (.ref T) σ = true := by simp [kList, h.t]
  have hT := lt_of_some h.t
  have hb : bExtend [.ref T, .ref (σ ++ [O.list [.str c]]).length] (σ ++ [O.list [.str c]] ++ [O.list (List.replicate n [.str c]).flatten]) = some (.none, (σ ++ [O.list [.str c]] ++ [O.list (List.replicate n [.str c]).flatten]).set T (O.list (xs ++ List.replicate n (.str c)))) := by
    unfold bExtend
    simp only [arg2_e, asRef_e, Option.bind_some]
    rw [if_pos (by simp; omega)]
    simp only [h'.t, List.getElem?_concat_length, lst_e, asList_e, Option.bind_some]
    rw [rep_sing, if_pos (by simp; omega)]
  refine ⟨_, ?_, h'.setT (zs := xs ++ List.replicate n (.str c)), g.g3.trans (Gr3.set _ (.inr (.inl rfl)))⟩
  have hix : dIndex (dVar 0) (dLit (.str kTok)) ρ σ = some (.ref T, σ) := by wp_walk using dVar_h h0, h.iT
  have hmul : dBin .Mult (dList [dLit (.str c)]) (dVar 4) ρ σ = some (.ref (σ ++ [O.list [.str c]]).length, σ ++ [O.list [.str c]] ++ [O.list (List.replicate n [.str c]).flatten]) := by
    have : dVar 4 ρ (σ ++ [O.list [.str c]]) = some (.int n, σ ++ [O.list [.str c]]) := by simp [dVar, h4]
    have h2 : dList [dLit (.str c)] ρ σ = some (.ref σ.length, σ ++ [O.list [.str c]]) := rfl
    rw [dBin_e, h2, oBi1_s, this]
    exact hm
  unfold extS
  rw [sExp_e, dMeth_e, hix, oMe1_s, if_pos hk, es1, hmul, oEs_s, es0, oCons_s, oMe2_s, hb, oExp_s]
end
set_option maxHeartbeats 200000

noncomputable def tlp : List Pc → Nat
  | [] => 0
  | .t _ :: r => 1 + tlp r
  | .n a _ :: r => 19 * cnt a + 5 + tlp r
theorem tlp_pieces (N : Tr) : tlp (pieces N) + 4 ≤ 19 * cnt N + 5 := by
  cases N <;> simp only [pieces, tlp, cnt] <;> omega
theorem cnt_pieces {N a : Tr} {k : Int} (h : Pc.n a k ∈ pieces N) : cnt a < cnt N := by
  cases N <;> simp [pieces] at h <;> simp only [cnt] <;> first | omega | (rcases h with h | h | h <;> rw [h.1] <;> omega) | (rcases h with h | h <;> rw [h.1] <;> omega) | (rw [h.1]; omega)
set_option tactic.hygienic true in
theorem W.len {z : Bool} {g : PG} {ts : List Tk} {p : Prs} (h : W z g ts p) : match g with | .n a _ => ts.length ≤ 19 * cnt a + 5 ∧ p.length ≤ 19 * cnt a + 5 | .ps l => ts.length ≤ tlp l ∧ p.length ≤ tlp l := by
  induction h with
  | nil => exact ⟨Nat.le_refl _, Nat.le_refl _⟩
  | t h i => simp only [tlp, sh, List.length_cons, List.length_map] at *; omega
  | n h1 h2 i j => simp only [tlp, sh, List.length_append, List.length_map] at *; omega
  | put m h1 h2 h i =>
    rename_i a k ts p
    have := tlp_pieces a
    have hw : wantd a k ≤ 1 := by unfold wantd; split <;> omega
    simp only [sh, List.length_append, List.length_map, List.length_replicate] at *
    refine ⟨by omega, ?_⟩
    split <;> simp <;> omega

inductive PutAt (m o T P : Nat) (z : Bool) (a : Tr) (v : V) (k : Int) (σ : St) (xs ys : List V) : Prop
  | mk (σ' : St) (e' : Int) (ts : List Tk) (p : Prs) : fn m .f_law_put [.ref o, v, .int k] σ = some (.none, σ') → Gr3 o T P σ σ' → Out o T P σ' (xs ++ tV ts) (ys ++ pV (sh xs.length p)) e' → (z = true → e' = 0) → W z (.n a k) ts p → PutAt m o T P z a v k σ xs ys
noncomputable def PutOk (m l o T P : Nat) (σ₀ : St) (z : Bool) (a : Tr) : Prop := ∀ (v : V) (k : Int) (σ : St) (xs ys : List V) (e : Int), NR l σ₀ v a → Grow σ₀ σ → Out o T P σ xs ys e → (z = true → e = 0) →
  xs.length + (19 * cnt a + 5) ≤ 1000 → ys.length + (19 * cnt a + 5) ≤ 1000 →
  PutAt m o T P z a v k σ xs ys

noncomputable abbrev putB (fns : Fn → DF) : DS := sIf (tVal (dIsStr (dVar 6))) (sExpr (dMeth kList bAppend (dIndex (dVar 0) (dLit (.str kTok))) [dVar 6])) (sExpr (dCall (fns .f_law_put) [dVar 0, dIndex (dVar 6) (dLit (.int 0)), dIndex (dVar 6) (dLit (.int 1))]))

theorem b_app {σ : St} {l : Nat} {xs : List V} {x : V} (h : σ[l]? = some (.list xs)) (hl : xs.length < 16777216) : bAppend [.ref l, x] σ = some (.none, σ.set l (.list (xs ++ [x]))) := by
  unfold bAppend
  simp only [h, arg2_e, asRef_e, lst_e, asList_e, Option.bind_some]
  rw [if_pos hl]
theorem len_ref {σ : St} {l : Nat} {xs : List V} (h : σ[l]? = some (.list xs)) (hl : xs.length ≤ 16777216) : vlen (.ref l) σ = some (.int xs.length) := by
  simp only [vlen, h, lst_e, asList_e, Option.bind_some]
  rw [if_pos hl]

inductive LoopAt (m o T P r : Nat) (z : Bool) (ps : List Pc) (i : Nat) (v1 v2 v3 v4 v5 o6 : Option V) (σ : St) (xs ys : List V) : Prop
  | mk (σ' : St) (e' : Int) (ts : List Tk) (p : Prs) (o6' : Option V) : sForGo (.list r) 6 (putB (fn m)) i [some (.ref o), v1, v2, v3, v4, v5, o6] σ = some (.next, [some (.ref o), v1, v2, v3, v4, v5, o6'], σ') → Gr3 o T P σ σ' → Out o T P σ' (xs ++ tV ts) (ys ++ pV (sh xs.length p)) e' → (z = true → e' = 0) → W z (.ps ps) ts p → LoopAt m o T P r z ps i v1 v2 v3 v4 v5 o6 σ xs ys
set_option tactic.hygienic true in
theorem pieces_loop {m l o T P r : Nat} {σ₀ : St} {z : Bool} {all : List V} {v1 v2 v3 v4 v5 : Option V} (ho : σ₀.length ≤ o) (hT : σ₀.length ≤ T) (hP : σ₀.length ≤ P) (ro : r ≠ o) (rT : r ≠ T) (rP : r ≠ P) :
    ∀ (vs : List V) (ps : List Pc), Pcs l σ₀ vs ps → (∀ a k, Pc.n a k ∈ ps → PutOk m l o T P σ₀ z a) → ∀ (i : Nat) (σ : St) (xs ys : List V) (e : Int) (o6 : Option V), all.drop i = vs → σ[r]? = some (.list all) → Grow σ₀ σ → Out o T P σ xs ys e → (z = true → e = 0) →
      xs.length + tlp ps ≤ 1000 → ys.length + tlp ps ≤ 1000 →
    LoopAt m o T P r z ps i v1 v2 v3 v4 v5 o6 σ xs ys := by
  intro vs ps h
  induction h with
  | nil =>
    intro _ i σ xs ys e o6 hd hr g h hz _ _
    have h1 := List.drop_eq_nil_iff.mp hd
    exact ⟨σ, e, [], [], o6, for_done (by simp [dNext, hr, List.getElem?_eq_none h1]), Gr3.refl, by simpa [tV, pV, sh] using h, hz, .nil⟩
  | t hps ih =>
    rename_i t vs ps
    intro H i σ xs ys e o6 hd hr g h hz hl1 hl2
    simp only [tlp] at hl1 hl2
    have h1 : all[i]? = some (.str t.s) := by
      have := congrArg (fun l => l[0]?) hd
      simpa using this
    have h3 : all.drop (i + 1) = vs := by rw [← List.drop_drop, hd]; rfl
    have hb := b_app (x := .str t.s) h.t (by omega)
    have g1 : Gr3 o T P σ (σ.set T (.list (xs ++ [.str t.s]))) := Gr3.set _ (.inr (.inl rfl))
    have hk := h.t
    have hi := h.iT
    obtain ⟨σ', e', ts, p, o6', e1, e2, e3, e4, e5⟩ := ih (fun a k hm => H a k (List.mem_cons_of_mem _ hm)) (i + 1) _ (xs ++ [.str t.s]) ys e (some (.str t.s)) h3 (g1.get hr ro rT rP) (g1.old g ho hT hP) (h.setT (zs := xs ++ [.str t.s])) hz (by simp; omega) (by omega)
    refine ⟨σ', e', t :: ts, sh 1 p, o6', (for_step (v := .str t.s) (by simp [dNext, hr, h1]) ?_).trans e1, g1.trans e2, ?_, e4, .t e5⟩
    · wp_walk using dIsStr, isStr, hi, hk, hb
    · rw [sh_sh]
      simpa [tV] using e3
  | n hn hps ih =>
    rename_i x a k vs ps
    intro H i σ xs ys e o6 hd hr g h hz hl1 hl2
    simp only [tlp] at hl1 hl2
    have h1 : all[i]? = some (.tup [x, .int k]) := by
      have := congrArg (fun l => l[0]?) hd
      simpa using this
    have h3 : all.drop (i + 1) = vs := by rw [← List.drop_drop, hd]; rfl
    obtain ⟨σ₁, e₁, ts, p, a1, a2, a3, a4, a5⟩ := H a k (by simp) x k σ xs ys e hn g h hz (by omega) (by omega)
    have hlen := W.len a5
    obtain ⟨σ', e', us, q, o6', b1, b2, b3, b4, b5⟩ := ih (fun a k hm => H a k (List.mem_cons_of_mem _ hm)) (i + 1) σ₁ (xs ++ tV ts) (ys ++ pV (sh xs.length p)) e₁ (some (.tup [x, .int k])) h3 (a2.get hr ro rT rP) (a2.old g ho hT hP) a3 a4 (by simp [tV] at hlen ⊢; omega) (by simp [pV, sh] at hlen ⊢; omega)
    refine ⟨σ', e', ts ++ us, p ++ sh ts.length q, o6', (for_step (v := .tup [x, .int k]) (by simp [dNext, hr, h1]) ?_).trans b1, a2.trans b2, ?_, b4, .n a5 b5⟩
    · wp_walk using dIsStr, isStr, a1
    · rw [sh_app, sh_sh]
      have : (xs ++ tV ts).length = xs.length + ts.length := by simp [tV]
      rw [this] at b3
      simpa [tV, pV] using b3

theorem seq_next {a b : DS} {ρ ρ' : Rho} {σ σ' : St} (h : a ρ σ = some (.next, ρ', σ')) : sSeq a b ρ σ = b ρ' σ' := by rw [sSeq_e, h, oSeq_n]
theorem mod2 (e : Int) : ∃ m : Nat, m ≤ 1 ∧ e % 2 = m ∧ (e = 0 → m = 0) := by
  have a := Int.emod_nonneg e (b := 2) (by omega)
  have b := Int.emod_lt_of_pos e (b := 2) (by omega)
  exact ⟨(e % 2).toNat, by omega, by omega, by intro h; subst h; rfl⟩

theorem law_put_step {m l o T P : Nat} {σ₀ : St} {z : Bool} {N : Tr} (ho : σ₀.length ≤ o) (hT : σ₀.length ≤ T) (hP : σ₀.length ≤ P) (H : ∀ a k, Pc.n a k ∈ pieces N → PutOk (m + 2) l o T P σ₀ z a) : PutOk (m + 3) l o T P σ₀ z N := by
  intro v k σ xs ys e hn g h hz hl1 hl2
  obtain ⟨σ₁, e1, g1⟩ := law_hold_ok (m + 1) (hn.grow g)
  obtain ⟨x, hx, hx2, hx3⟩ := mod2 e
  have htl := tlp_pieces N
  have h1 := h.grow g1
  -- the extras
  have h2 := h1.setE (f := e / 2)
  have g2 : Gr3 o T P σ₁ (σ₁.set o (.dict [(kTok, .ref T), (kPrs, .ref P), (kExt, .int (e / 2))])) := Gr3.set _ (.inl rfl)
  have pe := h1.putE (f := e / 2)
  have ie := h1.iE
  generalize (σ₁.set o (.dict [(kTok, .ref T), (kPrs, .ref P), (kExt, .int (e / 2))])) = σ₂ at h2 g2 pe
  have it2 := h2.iT
  have ln2 := len_ref h2.t (by omega)
  have hw : wantd N k ≤ 1 := by unfold wantd; split <;> omega
  let w : Bool := decide (hold (tree N) < k)
  let n := wantd N k + x
  let ρ (o6 : Option V) : Rho := [some (.ref o), some v, some (.int k), some (.bool w), some (.int n), some (.int xs.length), o6]
  obtain ⟨σ₃, e3, h3, g3⟩ := ext_ok (ρ := ρ none) (n := n) [40] h2 rfl rfl (by omega) (by omega)
  have G3 : Gr3 o T P σ σ₃ := g1.g3.trans (g2.trans g3)
  obtain ⟨r, vs, σ₄, f1, f2, f3, f4, f5⟩ := law_pieces_ok m hn (G3.old g ho hT hP)
  have h4 := h3.grow f3
  have G4 := G3.trans f3.g3
  have r3 : ∀ {i : Nat} {y : O}, σ₃[i]? = some y → r ≠ i := fun {i y} hy => by have := lt_of_some hy; omega
  obtain ⟨σ₅, e5, ts, p, o6', c1, c2, c3, c4, c5⟩ := pieces_loop (v1 := some v) (v2 := some (.int k)) (v3 := some (.bool w)) (v4 := some (.int n)) (v5 := some (.int xs.length)) ho hT hP (r3 h3.o) (r3 h3.t) (r3 h3.p) vs (pieces N) f5 H 0 σ₄ (xs ++ List.replicate n (.str [40])) ys (e / 2) none rfl f2 (G4.old g ho hT hP) h4 (fun hz' => by rw [hz hz']; rfl) (by simp; omega) (by omega)
  have hlen := W.len c5
  simp only at hlen
  have hxl : (xs ++ List.replicate n (V.str [40])).length = xs.length + n := by simp
  rw [hxl] at c3
  -- the pairs
  obtain ⟨σ₆, h6, g6, e6⟩ : ∃ σ₆, Out o T P σ₆ (xs ++ List.replicate n (.str [40]) ++ tV ts) (ys ++ pV (sh xs.length (sh n p ++ if hold (tree N) < k then [(0, n + ts.length)] else []))) e5 ∧ Gr3 o T P σ₅ σ₆ ∧
      sIf (tVal (dVar 3)) (sExpr (dMeth kList bAppend (dIndex (dVar 0) (dLit (.str kPrs))) [dTup [dVar 5, dCall bLen [dIndex (dVar 0) (dLit (.str kTok))]]])) sNil (ρ o6') σ₅ = some (.next, ρ o6', σ₆) := by
    by_cases hk : hold (tree N) < k
    · have hwT : w = true := by simp [w, hk]
      have hln := len_ref c3.t (by simp [tV] at hlen ⊢; omega)
      have hb := b_app (x := .tup [.int xs.length, .int (xs ++ List.replicate n (V.str [40]) ++ tV ts).length]) c3.p (by simp [pV, sh] at hlen ⊢; omega)
      have i5 := c3.iT
      have p5 := c3.iP
      have k5 := c3.p
      have eq : ys ++ pV (sh xs.length (sh n p ++ if hold (tree N) < k then [(0, n + ts.length)] else [])) = ys ++ pV (sh (xs.length + n) p) ++ [.tup [.int xs.length, .int (xs ++ List.replicate n (V.str [40]) ++ tV ts).length]] := by
        rw [if_pos hk, sh_app, sh_sh]
        simp [pV, sh, tV]
      rw [eq]
      generalize (xs ++ List.replicate n (V.str [40]) ++ tV ts).length = q at hln hb ⊢
      generalize ys ++ pV (sh (xs.length + n) p) = YY at hb k5 c3 ⊢
      refine ⟨_, c3.setP, Gr3.set _ (.inr (.inr rfl)), ?_⟩
      simp only [ρ, hwT]
      wp_walk using i5, p5, k5, hln, hb
    · have hwF : w = false := by simp [w, hk]
      refine ⟨σ₅, ?_, Gr3.refl, ?_⟩
      · rw [if_neg hk, List.append_nil, sh_sh]; exact c3
      · simp only [ρ, hwF]
        wp_walk using trivial
  have hl6 : (xs ++ List.replicate n (V.str [40]) ++ tV ts).length ≤ 1000 := by simp [tV] at hlen ⊢; omega
  obtain ⟨σ₇, e7, h7, g7⟩ := ext_ok (ρ := ρ o6') (n := n) [41] h6 rfl rfl (by omega) hl6
  refine ⟨σ₇, e5, List.replicate n lpT ++ (ts ++ List.replicate n rpT), sh n p ++ if hold (tree N) < k then [(0, n + ts.length)] else [], ?_, G4.trans (c2.trans (g6.trans g7)), ?_, c4, .put x hx (fun hz' => hx3 (hz hz')) c5⟩
  · rw [fn_succ]
    have s1 : sSet 3 (dTest (tCmp .Lt (dCall (fn (m + 2) .f_law_hold) [dVar 1]) (dVar 2))) [some (.ref o), some v, some (.int k), none, none, none, none] σ = some (.next, [some (.ref o), some v, some (.int k), some (.bool w), none, none, none], σ₁) := by
      wp_walk using e1, w
    have s2 : sSet 4 (dBin .Add (dIf (tVal (dVar 3)) (dLit (.int 1)) (dLit (.int 0))) (dBin .Mod (dIndex (dVar 0) (dLit (.str kExt))) (dLit (.int 2)))) [some (.ref o), some v, some (.int k), some (.bool w), none, none, none] σ₁ = some (.next, [some (.ref o), some v, some (.int k), some (.bool w), some (.int n), none, none], σ₁) := by
      by_cases hk : hold (tree N) < k
      · have hwT : w = true := by simp [w, hk]
        have hn1 : (n : Int) = 1 + x := by simp [n, wantd, hk]
        rw [hwT, hn1]
        wp_walk using ie, hx2
      · have hwT : w = false := by simp [w, hk]
        have hn1 : (n : Int) = 0 + x := by simp [n, wantd, hk]
        rw [hwT, hn1]
        wp_walk using ie, hx2
    have s3 : sSetI (dVar 0) (dLit (.str kExt)) (dBin .FloorDiv (dIndex (dVar 0) (dLit (.str kExt))) (dLit (.int 2))) [some (.ref o), some v, some (.int k), some (.bool w), some (.int n), none, none] σ₁ = some (.next, [some (.ref o), some v, some (.int k), some (.bool w), some (.int n), none, none], σ₂) := by
      wp_walk using sSetI, ie, pe
    have s4 : sSet 5 (dCall bLen [dIndex (dVar 0) (dLit (.str kTok))]) [some (.ref o), some v, some (.int k), some (.bool w), some (.int n), none, none] σ₂ = some (.next, ρ none, σ₂) := by
      wp_walk using it2, ln2, ρ
    have s6 : sFor (iVal (dCall (fn (m + 2) .f_law_pieces) [dVar 1])) 6 (putB (fn (m + 2))) (ρ none) σ₃ = some (.next, ρ o6', σ₅) := by
      have hv : iVal (dCall (fn (m + 2) .f_law_pieces) [dVar 1]) (ρ none) σ₃ = some (.list r, σ₄) := by
        wp_walk using iVal, srcOf, f1, f2, ρ
      unfold sFor
      rw [hv]
      exact c1
    have all : b_f_law_put (fn (m + 2)) [some (.ref o), some v, some (.int k), none, none, none, none] σ = some (.next, ρ o6', σ₇) := by
      unfold b_f_law_put
      rw [seq_next s1, seq_next s2, seq_next s3, seq_next s4, seq_next e3, seq_next s6, seq_next e6]
      exact e7
    show oFn (b_f_law_put (fn (m + 2)) [some (.ref o), some v, some (.int k), none, none, none, none] σ) = _
    rw [all, oFn_n]
  · have e : xs ++ List.replicate n (V.str [40]) ++ tV ts ++ List.replicate n (.str [41]) = xs ++ tV (List.replicate n lpT ++ (ts ++ List.replicate n rpT)) := by simp [tV]
    rw [← e]; exact h7
theorem law_put_ok {l o T P : Nat} {σ₀ : St} {z : Bool} (ho : σ₀.length ≤ o) (hT : σ₀.length ≤ T) (hP : σ₀.length ≤ P) : ∀ (c m : Nat) (N : Tr), cnt N ≤ c → c + 3 ≤ m → PutOk m l o T P σ₀ z N := by
  intro c
  induction c with
  | zero =>
    intro m N hc hm
    obtain ⟨m, rfl⟩ : ∃ k, m = k + 3 := ⟨m - 3, by omega⟩
    exact law_put_step ho hT hP fun a k h => by have := cnt_pieces h; omega
  | succ c ih =>
    intro m N hc hm
    obtain ⟨m, rfl⟩ : ∃ k, m = k + 3 := ⟨m - 3, by omega⟩
    exact law_put_step ho hT hP fun a k h => ih (m + 2) a (by have := cnt_pieces h; omega) (by omega)
set_option maxHeartbeats 200000
structure TkG (t : Tk) : Prop where
  f : TkF t
  p : V.pure t.v = true
noncomputable def allOps : List Txt := binOps ++ preOps ++ [[63], [58]]
noncomputable def isW (s : Txt) : Bool := match s with
  | [] => false
  | c :: _ => s.all (fun d => wl d) && !(decide (0 ≤ dig c) && decide (dig c < 10))
theorem opTk_g {s : Txt} (h : s ∈ allOps) : TkG (opTk s) := by
  have F : ∀ s ∈ allOps, (match s with | [] => false | c :: r => !blankC c && c != 92 && c != 35 && c != 46 && c != 40 && (c != 58 || r.isEmpty)) = true ∧ s.length ≤ 60 ∧ s.all (fun d => decide (d < 128)) = true ∧ (s ∈ wordOps → lastw s = true ∧ isW s = true) ∧ (s ∉ wordOps → s ∈ symOps) ∧
      (s ∈ preOps → ∀ c, s.head? = some c → c ∉ secs ∧ c ≠ 58) := by
    have : ∀ s ∈ allOps, ((match s with | [] => false | c :: r => !blankC c && c != 92 && c != 35 && c != 46 && c != 40 && (c != 58 || r.isEmpty)) && decide (s.length ≤ 60) && s.all (fun d => decide (d < 128)) && (!decide (s ∈ wordOps) || (lastw s && isW s)) && (decide (s ∈ wordOps) || decide (s ∈ symOps)) &&
        (!decide (s ∈ preOps) || s.head?.all (fun c => !decide (c ∈ secs) && c != 58))) = true := by decide
    intro s hs
    have := this s hs
    simp only [Bool.and_eq_true, decide_eq_true_eq, Bool.or_eq_true, Bool.not_eq_true', decide_eq_false_iff_not] at this
    obtain ⟨⟨⟨⟨⟨a1, a2⟩, a3⟩, a4⟩, a5⟩, a6⟩ := this
    refine ⟨a1, a2, a3, fun hw => a4.resolve_left (fun z => z hw), fun hw => a5.resolve_left hw, fun hp c hc => ?_⟩
    have := a6.resolve_left (fun z => z hp)
    rw [hc] at this
    simpa using this
  obtain ⟨f1, f2, f3, f4, f5, f6⟩ := F s h
  cases s with
  | nil => cases f1
  | cons c r =>
    simp only [Bool.and_eq_true, bne_iff_ne, Bool.not_eq_true', Bool.or_eq_true, List.isEmpty_iff] at f1
    obtain ⟨⟨⟨⟨⟨a1, a2⟩, a3⟩, a4⟩, a5⟩, a6⟩ := f1
    have hlex : LexOk (c :: r) sOp (.str (c :: r)) (if c :: r ∈ wordOps then .word else .op) := by
      by_cases hm : c :: r ∈ wordOps
      · obtain ⟨w1, w2⟩ := f4 hm
        simp only [isW, Bool.and_eq_true, List.all_eq_true, Bool.not_eq_true'] at w2
        have := lex_word (c := c) (w := r) (w2.1 c (by simp)) (by rintro ⟨b1, b2⟩; have := w2.2; simp [b1, b2] at this) fun q hq => run_wl w2.1 hq
        rw [if_pos hm] at this ⊢
        exact this
      · rw [if_neg hm]; exact lex_sym (f5 hm)
    refine ⟨⟨⟨hlex, c, r, rfl, a1, a2, a3⟩, f2, fun d hd => by have := List.all_eq_true.mp f3 d hd; simpa using this, ?_, by simpa [opTk] using a4, ?_, fun _ => ⟨_, rfl, fun hp => f6 hp, by simpa [opTk] using a5⟩, ?_, fun e => (by cases e), fun e => absurd rfl e⟩, ?_⟩
    · intro hcl
      by_cases hm : c :: r ∈ wordOps
      · exact (f4 hm).1
      · simp [opTk, if_neg hm] at hcl
    · intro e
      have e : some c = some 58 := e
      cases e
      rcases a6 with z | z
      · exact absurd rfl z
      · rw [z]; rfl
    · intro _ z
      simp only [opTk] at z
      split at z <;> cases z
    · simp only [opTk, V.pure, List.all_eq_true, decide_eq_true_eq] at f3 ⊢
      intro d hd
      have := f3 d hd
      omega
theorem par_g {c : Nat} (hc : c = 40 ∨ c = 41 ∨ c = 44) : TkG ⟨[c], [c], .str [c], .any⟩ := by
  refine ⟨⟨⟨lex_paren hc, c, [], rfl, ?_, ?_, ?_⟩, by simp, ?_, ?_, ?_, ?_, ?_, ?_, ?_, ?_⟩, ?_⟩
  · rcases hc with rfl | rfl | rfl <;> rfl
  · rcases hc with rfl | rfl | rfl <;> decide
  · rcases hc with rfl | rfl | rfl <;> decide
  · rcases hc with rfl | rfl | rfl <;> decide
  · intro e; rcases e with e | e <;> cases e
  · rcases hc with rfl | rfl | rfl <;> decide
  · rcases hc with rfl | rfl | rfl <;> decide
  · rcases hc with rfl | rfl | rfl <;> (intro e; cases e)
  · intro _ e; cases e
  · rcases hc with rfl | rfl | rfl <;> (intro e; cases e)
  · rcases hc with rfl | rfl | rfl <;> (intro h1 h2 h3 h4; first | exact absurd rfl h2 | exact absurd rfl h3 | exact absurd rfl h4)
  · rcases hc with rfl | rfl | rfl <;> decide
theorem lp_g : TkG lpT := par_g (.inl rfl)
theorem rp_g : TkG rpT := par_g (.inr (.inl rfl))
theorem cm_g : TkG cmT := par_g (.inr (.inr rfl))
theorem fn_g {w : Txt} (h : w ∈ fnNames) : TkG (fnTk w) := by
  have hx : LexOk w sWord (.str w) .word := by
    unfold fnNames at h
    simp only [List.mem_cons, List.not_mem_nil, or_false] at h
    rcases h with rfl | rfl | rfl | rfl
    · exact lex_word (by decide) (by decide) fun q hq => run_wl (by decide) hq
    · exact lex_word (by decide) (by decide) fun q hq => .wl (by decide) (.cc (.wl (by decide) (.stop hq)))
    · exact lex_word (by decide) (by decide) fun q hq => run_wl (by decide) hq
    · exact lex_word (by decide) (by decide) fun q hq => run_wl (by decide) hq
  have F : ∀ w ∈ fnNames, okS w = true ∧ lastw w = true ∧ V.pure (.str w) = true := by decide
  obtain ⟨f1, f2, f3⟩ := F w h
  exact ⟨tkf_of hx f1 (fun _ => f2) (by decide) (fun _ => rfl) (by intro e; cases e), f3⟩

noncomputable def TrOk : Tr → Prop
  | .leaf t v => Lf t v
  | .un s a => s ∈ preOps ∧ TrOk a
  | .bin s a b => s ∈ binOps ∧ TrOk a ∧ TrOk b
  | .ite a b c => TrOk a ∧ TrOk b ∧ TrOk c
  | .call0 w => w ∈ fnNames
  | .call1 w a => w ∈ fnNames ∧ TrOk a
  | .call2 w a b => w ∈ fnNames ∧ TrOk a ∧ TrOk b
  | .call3 w a b c => w ∈ fnNames ∧ TrOk a ∧ TrOk b ∧ TrOk c
theorem NR.ok {l : Nat} {σ : St} {v : V} {N : Tr} (h : NR l σ v N) : TrOk N := by
  induction h with
  | leaf h => exact h
  | un h _ i => exact ⟨h, i⟩
  | bin h _ _ i j => exact ⟨by have : ∀ s ∈ betw, s ∈ binOps := by decide
                               exact this _ h, i, j⟩
  | and _ _ i j => exact ⟨by decide, i, j⟩
  | or _ _ i j => exact ⟨by decide, i, j⟩
  | ite _ _ _ i j k => exact ⟨i, j, k⟩
  | call0 h _ _ => exact h
  | call1 h _ _ _ i => exact ⟨h, i⟩
  | call2 h _ _ _ _ i j => exact ⟨h, i, j⟩
  | call3 h _ _ _ _ _ i j k => exact ⟨h, i, j, k⟩
noncomputable def PcOk : Pc → Prop
  | .t t => TkG t
  | .n a _ => TrOk a
theorem TrOk.pieces {N : Tr} (h : TrOk N) : ∀ c ∈ pieces N, PcOk c := by
  have ob : ∀ s ∈ binOps, s ∈ allOps := by decide
  have op : ∀ s ∈ preOps, s ∈ allOps := by decide
  have q : TkG (opTk [63]) := opTk_g (by decide)
  have c : TkG (opTk [58]) := opTk_g (by decide)
  cases N with
  | leaf t v => simp only [Mine.pieces, List.forall_mem_cons]; exact ⟨⟨h.f, h.tp⟩, by simp⟩
  | un s a => simp only [Mine.pieces, List.forall_mem_cons]; exact ⟨opTk_g (op _ h.1), h.2, by simp⟩
  | bin s a b => simp only [Mine.pieces, List.forall_mem_cons]; exact ⟨h.2.1, opTk_g (ob _ h.1), h.2.2, by simp⟩
  | ite a b d => simp only [Mine.pieces, List.forall_mem_cons]; exact ⟨h.1, q, h.2.1, c, h.2.2, by simp⟩
  | call0 w => simp only [Mine.pieces, List.forall_mem_cons]; exact ⟨fn_g h, lp_g, rp_g, by simp⟩
  | call1 w a => simp only [Mine.pieces, List.forall_mem_cons]; exact ⟨fn_g h.1, lp_g, h.2, rp_g, by simp⟩
  | call2 w a b => simp only [Mine.pieces, List.forall_mem_cons]; exact ⟨fn_g h.1, lp_g, h.2.1, cm_g, h.2.2, rp_g, by simp⟩
  | call3 w a b d => simp only [Mine.pieces, List.forall_mem_cons]; exact ⟨fn_g h.1, lp_g, h.2.1, cm_g, h.2.2.1, cm_g, h.2.2.2, rp_g, by simp⟩
noncomputable def PGOk : PG → Prop
  | .n a _ => TrOk a
  | .ps l => ∀ c ∈ l, PcOk c
set_option tactic.hygienic true in
theorem W.g {z : Bool} {g : PG} {ts : List Tk} {p : Prs} (h : W z g ts p) : PGOk g → ∀ t ∈ ts, TkG t := by
  induction h with
  | nil => intro _ t ht; cases ht
  | t h i =>
    rename_i k ps ts p
    intro H t ht
    rcases List.mem_cons.mp ht with rfl | ht
    · exact H (.t t) List.mem_cons_self
    · exact i (fun c hc => H c (List.mem_cons_of_mem _ hc)) t ht
  | n h1 h2 i j =>
    rename_i a k ps ts us p q
    intro H t ht
    rcases List.mem_append.mp ht with ht | ht
    · exact i (H (.n a k) List.mem_cons_self) t ht
    · exact j (fun c hc => H c (List.mem_cons_of_mem _ hc)) t ht
  | put m h1 h2 h i =>
    intro H t ht
    rcases List.mem_append.mp ht with ht | ht
    · rw [List.eq_of_mem_replicate ht]; exact lp_g
    · rcases List.mem_append.mp ht with ht | ht
      · exact i (fun c hc => TrOk.pieces H c hc) t ht
      · rw [List.eq_of_mem_replicate ht]; exact rp_g

theorem mk_pure (s : Txt) (a b : V) (hs : V.pure (.str s) = true) (ha : a.pure = true) (hb : b.pure = true) : (mkBin s a b).pure = true := by
  unfold mkBin
  split
  · simp only [V.pure, V.pures, ha, hb]; decide
  · split
    · simp only [V.pure, V.pures, ha, hb]; decide
    · simp only [V.pure] at hs
      simp only [V.pure, V.pures, ha, hb, hs]; decide
section
variable {k : Nat} {v : V} {vs : List V} {x : Txt}
theorem dcons (h : v.deep ≤ k) (t : V.deeps vs ≤ k) : V.deeps (v :: vs) ≤ k := Nat.max_le.mpr ⟨h, t⟩
theorem dstr (t : V.deeps vs ≤ k) : V.deeps (.str x :: vs) ≤ k := dcons (Nat.zero_le _) t
theorem dnil : V.deeps [] ≤ k := Nat.zero_le _
theorem dtup (h : V.deeps vs ≤ k) : (V.tup vs).deep ≤ k + 1 := Nat.succ_le_succ h
end
theorem mk_deep {k : Nat} (s : Txt) {a b : V} (ha : a.deep ≤ k) (hb : b.deep ≤ k) : (mkBin s a b).deep ≤ k + 1 := by
  unfold mkBin
  split
  · exact dtup (dstr (dcons ha (dcons hb dnil)))
  · split
    · exact dtup (dstr (dcons ha (dcons hb dnil)))
    · exact dtup (dstr (dstr (dcons ha (dcons hb dnil))))
theorem op_pure : ∀ s ∈ allOps, V.pure (.str s) = true := by decide
theorem TrOk.pure : ∀ {N : Tr}, TrOk N → V.pure (tree N) = true
  | .leaf t v, h => h.p
  | .un s a, h => by
    have h1 := op_pure s (by have : ∀ s ∈ preOps, s ∈ allOps := by decide
                             exact this s h.1)
    simp only [V.pure] at h1
    simp only [tree, V.pure, V.pures, h.2.pure, h1]; decide
  | .bin s a b, h => mk_pure s _ _ (op_pure s (by have : ∀ s ∈ binOps, s ∈ allOps := by decide
                                                  exact this s h.1)) h.2.1.pure h.2.2.pure
  | .ite a b c, h => by simp only [tree, V.pure, V.pures, h.1.pure, h.2.1.pure, h.2.2.pure]; decide
  | .call0 w, h => by
    have h1 := (fn_g h).p
    simp only [fnTk, V.pure] at h1
    simp only [tree, V.pure, V.pures, h1]; decide
  | .call1 w a, h => by
    have h1 := (fn_g h.1).p
    simp only [fnTk, V.pure] at h1
    simp only [tree, V.pure, V.pures, h1, h.2.pure]; decide
  | .call2 w a b, h => by
    have h1 := (fn_g h.1).p
    simp only [fnTk, V.pure] at h1
    simp only [tree, V.pure, V.pures, h1, h.2.1.pure, h.2.2.pure]; decide
  | .call3 w a b c, h => by
    have h1 := (fn_g h.1).p
    simp only [fnTk, V.pure] at h1
    simp only [tree, V.pure, V.pures, h1, h.2.1.pure, h.2.2.1.pure, h.2.2.2.pure]; decide
theorem TrOk.deep : ∀ {N : Tr}, TrOk N → V.deep (tree N) ≤ 6 + 2 * cnt N
  | .leaf t v, h => h.d
  | .un s a, h => Nat.le_trans (dtup (k := 6 + 2 * cnt a) (dstr (dstr (dcons h.2.deep dnil)))) (by simp only [cnt]; omega)
  | .bin s a b, h => Nat.le_trans (mk_deep (k := 6 + 2 * (cnt a + cnt b)) s (Nat.le_trans h.2.1.deep (by omega)) (Nat.le_trans h.2.2.deep (by omega))) (by simp only [cnt]; omega)
  | .ite a b c, h => Nat.le_trans (dtup (k := 6 + 2 * (cnt a + cnt b + cnt c)) (dstr (dcons (Nat.le_trans h.1.deep (by omega)) (dcons (Nat.le_trans h.2.1.deep (by omega)) (dcons (Nat.le_trans h.2.2.deep (by omega)) dnil))))) (by simp only [cnt]; omega)
  | .call0 w, h => Nat.le_trans (dtup (k := 1) (dstr (dstr (dcons (dtup dnil) dnil)))) (Nat.le_of_ble_eq_true rfl)
  | .call1 w a, h => Nat.le_trans (dtup (dstr (dstr (dcons (dtup (k := 6 + 2 * cnt a) (dcons h.2.deep dnil)) dnil)))) (by simp only [cnt]; omega)
  | .call2 w a b, h => Nat.le_trans (dtup (dstr (dstr (dcons (dtup (k := 6 + 2 * (cnt a + cnt b)) (dcons (Nat.le_trans h.2.1.deep (by omega)) (dcons (Nat.le_trans h.2.2.deep (by omega)) dnil))) dnil)))) (by simp only [cnt]; omega)
  | .call3 w a b c, h => Nat.le_trans (dtup (dstr (dstr (dcons (dtup (k := 6 + 2 * (cnt a + cnt b + cnt c)) (dcons (Nat.le_trans h.2.1.deep (by omega)) (dcons (Nat.le_trans h.2.2.1.deep (by omega)) (dcons (Nat.le_trans h.2.2.2.deep (by omega)) dnil)))) dnil)))) (by simp only [cnt]; omega)
noncomputable def isTree (v : V) : Prop := ∃ k r, v = .tup (.str k :: r) ∧ k ≠ [102, 97, 117, 108, 116]
theorem mk_isTree (s : Txt) (a b : V) : isTree (mkBin s a b) := by
  unfold mkBin
  split
  · exact ⟨_, _, rfl, by decide⟩
  · split <;> exact ⟨_, _, rfl, by decide⟩
theorem TrOk.isTup : ∀ {N : Tr}, TrOk N → ∃ k r, tree N = .tup (.str k :: r)
  | .leaf t v, h => h.tree
  | .un s a, h => ⟨_, _, rfl⟩
  | .bin s a b, h => by obtain ⟨k, r, e, _⟩ := mk_isTree s (tree a) (tree b); exact ⟨k, r, e⟩
  | .ite a b c, h => ⟨_, _, rfl⟩
  | .call0 w, h => ⟨_, _, rfl⟩
  | .call1 w a, h => ⟨_, _, rfl⟩
  | .call2 w a b, h => ⟨_, _, rfl⟩
  | .call3 w a b c, h => ⟨_, _, rfl⟩
theorem ptree_pure {vs : List V} {v : V} (h : PTree vs v) (hp : V.pures vs = true) : v.pure = true := by
  cases h with
  | zero => decide
  | one => simp only [V.pures, V.pure, Bool.and_eq_true] at hp ⊢; simp_all
  | some => simp only [V.pures, V.pure, Bool.and_eq_true] at hp ⊢; simp_all
  | many => simp only [V.pures, V.pure, Bool.and_eq_true] at hp ⊢; simp_all
set_option maxHeartbeats 200000
section
variable {z : Bool} {ts : List Tk} {p : Prs} {r : List Pc} {t : Tk} {a : Tr} {k : Int} {P : List Tk → Prs → Prop}
@[elab_as_elim] theorem W.nil_e (h : W z (.ps []) ts p) (c : P [] []) : P ts p := by cases h; exact c
set_option tactic.hygienic true in
@[elab_as_elim] theorem W.t_e (h : W z (.ps (.t t :: r)) ts p) (c : ∀ us q, W z (.ps r) us q → P (t :: us) (sh 1 q)) : P ts p := by cases h; exact c _ _ ‹_›
set_option tactic.hygienic true in
@[elab_as_elim] theorem W.n_e (h : W z (.ps (.n a k :: r)) ts p) (c : ∀ us q vs s, W z (.n a k) us q → W z (.ps r) vs s → P (us ++ vs) (q ++ sh us.length s)) : P ts p := by cases h; exact c _ _ _ _ ‹_› ‹_›
set_option tactic.hygienic true in
@[elab_as_elim] theorem W.put_e (h : W z (.n a k) ts p) (c : ∀ m us q, m ≤ 1 → (z = true → m = 0) → W z (.ps (pieces a)) us q → P (List.replicate (wantd a k + m) lpT ++ (us ++ List.replicate (wantd a k + m) rpT)) (sh (wantd a k + m) q ++ if hold (tree a) < k then [(0, wantd a k + m + us.length)] else [])) : P ts p := by cases h; exact c _ _ _ ‹_› ‹_› ‹_›
end

noncomputable def At (q : Nat × Nat) (ts us : List Tk) : Prop := ∃ A B C, ts = A ++ lpT :: (B ++ rpT :: C) ∧ q = (A.length, A.length + 1 + B.length) ∧ us = A ++ (B ++ C)
theorem At.left {q : Nat × Nat} {ts us : List Tk} (h : At q ts us) (ws : List Tk) : At q (ts ++ ws) (us ++ ws) := by
  obtain ⟨A, B, C, rfl, rfl, rfl⟩ := h
  exact ⟨A, B, C ++ ws, by simp, rfl, by simp⟩
theorem At.right {q : Nat × Nat} {ts us : List Tk} (h : At q ts us) (ws : List Tk) : At (ws.length + q.1, ws.length + q.2) (ws ++ ts) (ws ++ us) := by
  obtain ⟨A, B, C, rfl, rfl, rfl⟩ := h
  exact ⟨ws ++ A, B, C, by simp, by simp; omega, by simp⟩
theorem At.cons {q : Nat × Nat} {ts us : List Tk} (h : At q ts us) (w : Tk) : At (1 + q.1, 1 + q.2) (w :: ts) (w :: us) := h.right [w]
theorem At.wt {q : Nat × Nat} {ts us : List Tk} (h : At q ts us) : wt us ≤ wt ts ∧ us.length ≤ ts.length := by
  obtain ⟨A, B, C, rfl, rfl, rfl⟩ := h
  refine ⟨?_, by simp; omega⟩
  rw [wt_app, wt_app, wt_app, wt_cons, wt_app, wt_cons]
  omega
theorem mem_sh {q : Nat × Nat} {n : Nat} {p : Prs} (h : q ∈ sh n p) : ∃ q' ∈ p, q = (n + q'.1, n + q'.2) := by
  obtain ⟨q', h1, h2⟩ := List.mem_map.mp h
  exact ⟨q', h1, h2.symm⟩

theorem hold_pos {N : Tr} (h : TrOk N) : 1 ≤ hold (tree N) ∧ hold (tree N) ≤ 13 := by
  cases N with
  | leaf t v => have := h.h; exact ⟨by rw [show hold (tree (.leaf t v)) = 13 from this]; decide, by rw [show hold (tree (.leaf t v)) = 13 from this]; decide⟩
  | bin s a b => have := lvl_bin h.1; rw [show hold (tree (.bin s a b)) = lvl s from hold_mk s _ _]; omega
  | un s a => rw [show hold (tree (.un s a)) = 13 from hold_un _ _]; decide
  | ite a b c => rw [show hold (tree (.ite a b c)) = 1 from rfl]; decide
  | call0 w => rw [show hold (tree (.call0 w)) = 13 from rfl]; decide
  | call1 w a => rw [show hold (tree (.call1 w a)) = 13 from rfl]; decide
  | call2 w a b => rw [show hold (tree (.call2 w a b)) = 13 from rfl]; decide
  | call3 w a b c => rw [show hold (tree (.call3 w a b c)) = 13 from rfl]; decide

structure GoodAt (N : Tr) (k : Int) (z : Bool) (ts : List Tk) (p : Prs) : Prop where
  put : Put (3 * cnt N + 2) (.n (tree N) k) ts
  min : z = true → Min (.n (tree N) k) ts
  cut : z = true → ∀ q ∈ p, ∃ us, At q ts us ∧ Cut (.n (tree N) k) us
  wt : z = true → k ≤ 13 → wt ts ≤ 3 * cnt N
noncomputable def Good (N : Tr) : Prop := ∀ {k : Int} {z : Bool} {ts : List Tk} {p : Prs}, W z (.n N k) ts p → GoodAt N k z ts p
structure CoreAt (N : Tr) (z : Bool) (ts : List Tk) (p : Prs) : Prop where
  put : ∀ l, l ≤ hold (tree N) → Put (3 * cnt N) (.n (tree N) l) ts
  min : z = true → ∀ l, l ≤ hold (tree N) → Min (.n (tree N) l) ts
  cut : z = true → ∀ q ∈ p, ∃ us, At q ts us ∧ ∀ l, l ≤ hold (tree N) → Cut (.n (tree N) l) us
  wt : z = true → wt ts ≤ 3 * cnt N ∧ (hold (tree N) < 13 → wt ts + 1 ≤ 3 * cnt N)
noncomputable def Core (N : Tr) : Prop := ∀ {z : Bool} {ts : List Tk} {p : Prs}, W z (.ps (pieces N)) ts p → CoreAt N z ts p

theorem rep0 (us : List Tk) : List.replicate 0 lpT ++ (us ++ List.replicate 0 rpT) = us := List.append_nil us
theorem Core.good {N : Tr} (C : Core N) (ok : TrOk N) : Good N := fun {k z ts p} h => h.put_e fun m us q hm hz g => by
  have hp := hold_pos ok
  have c := C g
  by_cases hk : hold (tree N) < k
  · rw [show wantd N k = 1 from if_pos hk, if_pos hk]
    have one := Put.wrap (l := k) (c.put 1 hp.1)
    match m, hm, hz with
    | 0, _, _ =>
      refine ⟨one.mono (Nat.le_succ _), fun z => .wrap hk (c.min z _ (Int.le_refl _)), fun z q hq => ?_, fun z hk' => ?_⟩
      · rcases List.mem_append.mp hq with hq1 | hq1
        · obtain ⟨q', h1, rfl⟩ := mem_sh hq1
          obtain ⟨ws, h2, h3⟩ := c.cut z q' h1
          exact ⟨lpT :: (ws ++ [rpT]), (h2.left [rpT]).cons lpT, .wrap hk (h3 _ (Int.le_refl _))⟩
        · rw [List.mem_singleton] at hq1
          subst hq1
          exact ⟨us, ⟨[], us, [], rfl, rfl, (List.append_nil us).symm⟩, .here hk (c.min z _ (Int.le_refl _))⟩
      · have := (c.wt z).2 (by omega)
        show Mine.wt (lpT :: (us ++ [rpT])) ≤ _
        rw [wt_cons, if_pos (.inr rfl), wt_app, show Mine.wt [rpT] = 0 from rfl]
        omega
    | 1, _, hz =>
      have two := Put.wrap (l := k) (Put.wrap (l := 1) (c.put 1 hp.1))
      have n : ¬ z = true := fun e => nomatch hz e
      have e : List.replicate (1 + 1) lpT ++ (us ++ List.replicate (1 + 1) rpT) = lpT :: ((lpT :: (us ++ [rpT])) ++ [rpT]) := congrArg (fun x => lpT :: lpT :: x) (List.append_assoc us [rpT] [rpT]).symm
      rw [e]
      exact ⟨two, fun z => absurd z n, fun z => absurd z n, fun z => absurd z n⟩
  · rw [show wantd N k = 0 from if_neg hk, if_neg hk, List.append_nil]
    match m, hm, hz with
    | 0, _, _ =>
      rw [show List.replicate (0 + 0) lpT ++ (us ++ List.replicate (0 + 0) rpT) = us from rep0 us, sh0]
      refine ⟨(c.put k (by omega)).mono (by omega), fun z => c.min z k (by omega), fun z q hq => ?_, fun z _ => (c.wt z).1⟩
      obtain ⟨ws, h2, h3⟩ := c.cut z q hq
      exact ⟨ws, h2, h3 k (by omega)⟩
    | 1, _, hz =>
      have n : ¬ z = true := fun e => nomatch hz e
      exact ⟨(Put.wrap (l := k) (c.put 1 hp.1)).mono (Nat.le_succ _), fun z => absurd z n, fun z => absurd z n, fun z => absurd z n⟩

theorem wt_op {k : Tk} {ts : List Tk} (h : k.sort = sOp) : wt (k :: ts) = 1 + wt ts := by rw [wt_cons, if_pos (.inl h)]
theorem wt_oth {k : Tk} {ts : List Tk} (h : k.sort ≠ sOp) (h2 : k.sort ≠ sLp) : wt (k :: ts) = wt ts := by rw [wt_cons, if_neg (by rintro (z | z); exact h z; exact h2 z)]; omega
theorem wt_lp {ts : List Tk} : wt (lpT :: ts) = 1 + wt ts := by rw [wt_cons, if_pos (.inr rfl)]
theorem wt_nil : wt [] = 0 := rfl
theorem wt_fn {w : Txt} {ts : List Tk} : wt (fnTk w :: ts) = wt ts := wt_oth (by show sWord ≠ sOp; decide) (by show sWord ≠ sLp; decide)
theorem q_ok : isQ (opTk [63]) := ⟨rfl, rfl⟩
theorem c_ok : isC (opTk [58]) := ⟨rfl, rfl⟩
theorem lreq_13 (s : Txt) : lreq s ≤ 13 := lreq_le s
theorem nextL_13 {s : Txt} (h : s ∈ binOps) : nextL s ≤ 13 := by have := lvl_bin h; unfold nextL; split <;> omega

theorem core_leaf {t : Tk} {v : V} (ok : Lf t v) : Core (.leaf t v) := fun h => h.t_e fun us q g => g.nil_e (by
  have hh : hold (tree (.leaf t v)) = 13 := ok.h
  refine ⟨fun l hl => .leaf ok.ok (hh ▸ hl), fun _ l hl => .leaf ok.ok ok.h ok.b (hh ▸ hl), fun _ q hq => (nomatch (show q ∈ [] from hq)), fun _ => ?_⟩
  rw [wt_oth ok.ok.1 ok.ok.2.1, wt_nil, hh]
  exact ⟨Nat.zero_le _, fun h => absurd h (Int.lt_irrefl _)⟩)
theorem core_un {s : Txt} {a : Tr} (hs : s ∈ preOps) (A : Good a) : Core (.un s a) := fun h => h.t_e fun us q g => g.n_e fun us q vs r h1 g => g.nil_e (by
  rw [show sh us.length [] = [] from rfl, List.append_nil, List.append_nil]
  have A := A h1
  refine ⟨fun l hl => .un rfl rfl hs hl (A.put.mono (by simp only [cnt]; omega)), fun z l hl => .un rfl rfl hs hl (A.min z), fun z q hq => ?_, fun z => ?_⟩
  · obtain ⟨q', m1, rfl⟩ := mem_sh hq
    obtain ⟨ws, m2, m3⟩ := A.cut z q' m1
    exact ⟨_, m2.cons _, fun l hl => .un rfl rfl hs hl m3⟩
  · have := A.wt z (Int.le_refl _)
    rw [wt_op rfl]
    exact ⟨by simp only [cnt]; omega, fun h => absurd h (Int.lt_irrefl _)⟩)
theorem core_bin {s : Txt} {a b : Tr} (hs : s ∈ binOps) (A : Good a) (B : Good b) : Core (.bin s a b) := fun h => h.n_e fun us q _ _ h1 g => g.t_e fun _ _ g => g.n_e fun vs r _ _ h2 g => g.nil_e (by
  rw [show sh vs.length [] = [] from rfl, List.append_nil, List.append_nil]
  have A := A h1
  have B := B h2
  have hh : hold (tree (.bin s a b)) = lvl s := hold_mk s _ _
  refine ⟨fun l hl => ?_, fun z l hl => ?_, fun z q hq => ?_, fun z => ?_⟩
  · exact (Put.bin (h := 3 * cnt a + 3 * cnt b + 2) rfl rfl hs (hh ▸ hl) (A.put.mono (by omega)) (B.put.mono (by omega))).mono (by simp only [cnt]; omega)
  · exact .bin rfl rfl hs (hh ▸ hl) (A.min z) (B.min z)
  · rw [hh]
    rcases List.mem_append.mp hq with hq | hq
    · obtain ⟨ws, m2, m3⟩ := A.cut z _ hq
      exact ⟨_, m2.left _, fun l hl => .binL rfl rfl hs hl m3 (B.min z)⟩
    · obtain ⟨q1, hq1, rfl⟩ := mem_sh hq
      obtain ⟨q2, hq2, rfl⟩ := mem_sh hq1
      obtain ⟨ws, m2, m3⟩ := B.cut z _ hq2
      exact ⟨_, (m2.cons _).right _, fun l hl => .binR rfl rfl hs hl (A.min z) m3⟩
  · have := A.wt z (lreq_13 s)
    have := B.wt z (nextL_13 hs)
    rw [wt_app, wt_op rfl]
    simp only [cnt]
    exact ⟨by omega, fun h => by omega⟩)
theorem core_ite {a b c : Tr} (A : Good a) (B : Good b) (C : Good c) : Core (.ite a b c) := fun h => h.n_e fun us q _ _ h1 g => g.t_e fun _ _ g => g.n_e fun vs r _ _ h2 g => g.t_e fun _ _ g => g.n_e fun ws u _ _ h3 g => g.nil_e (by
  rw [show sh ws.length [] = [] from rfl, List.append_nil, List.append_nil]
  have A := A h1
  have B := B h2
  have C := C h3
  refine ⟨fun l hl => ?_, fun z l hl => .ite q_ok c_ok hl (A.min z) (B.min z) (C.min z), fun z q hq => ?_, fun z => ?_⟩
  · exact (Put.ite (h := 3 * cnt a + 3 * cnt b + 3 * cnt c + 2) rfl rfl rfl rfl hl (A.put.mono (by omega)) (B.put.mono (by omega)) (C.put.mono (by omega))).mono (by simp only [cnt]; omega)
  · rcases List.mem_append.mp hq with hq | hq
    · obtain ⟨xs, m2, m3⟩ := A.cut z _ hq
      exact ⟨_, m2.left _, fun l hl => .ite1 q_ok c_ok hl m3 (B.min z) (C.min z)⟩
    · obtain ⟨q1, hq1, rfl⟩ := mem_sh hq
      obtain ⟨q2, hq2, rfl⟩ := mem_sh hq1
      rcases List.mem_append.mp hq2 with hq | hq
      · obtain ⟨xs, m2, m3⟩ := B.cut z _ hq
        exact ⟨_, ((m2.left _).cons _).right _, fun l hl => .ite2 q_ok c_ok hl (A.min z) m3 (C.min z)⟩
      · obtain ⟨q3, hq3, rfl⟩ := mem_sh hq
        obtain ⟨q4, hq4, rfl⟩ := mem_sh hq3
        obtain ⟨xs, m2, m3⟩ := C.cut z _ hq4
        exact ⟨_, (((m2.cons _).right _).cons _).right _, fun l hl => .ite3 q_ok c_ok hl (A.min z) (B.min z) m3⟩
  · have := A.wt z (by decide)
    have := B.wt z (by decide)
    have := C.wt z (by decide)
    rw [wt_app, wt_op rfl, wt_app, wt_op rfl]
    simp only [cnt]
    exact ⟨by omega, fun h => by omega⟩)
theorem core_call0 {w : Txt} (hw : w ∈ fnNames) : Core (.call0 w) := fun h => h.t_e fun _ _ g => g.t_e fun _ _ g => g.t_e fun _ _ g => g.nil_e (by
  refine ⟨fun l hl => (Put.call (ts := []) (h := 0) rfl rfl hl (Nat.zero_le _) .as0).mono (Nat.le_of_ble_eq_true rfl), fun _ l hl => Min.call (ts := []) rfl rfl hl .as0, fun _ q hq => (nomatch (show q ∈ [] from hq)), fun _ => ?_⟩
  rw [wt_fn, wt_lp]
  exact ⟨Nat.le_of_ble_eq_true rfl, fun h => absurd h (Int.lt_irrefl _)⟩)
noncomputable def argPcs : List Tr → List Pc
  | [] => []
  | a :: r => match r with
    | [] => [.n a 1]
    | _ :: _ => .n a 1 :: .t cmT :: argPcs r
noncomputable def cnts : List Tr → Nat
  | [] => 0
  | a :: r => cnt a + cnts r
structure ArgsOk (z : Bool) (as : List Tr) (us : List Tk) (p : Prs) : Prop where
  put : Put (3 * cnts as + 2) (.as (as.map tree)) us
  min : z = true → Min (.as (as.map tree)) us
  wt : z = true → wt us ≤ 3 * cnts as
  cut : z = true → ∀ q ∈ p, ∃ ws, At q us ws ∧ Cut (.as (as.map tree)) ws
theorem args_ok : ∀ {as : List Tr}, (∀ a ∈ as, Good a) → as ≠ [] → ∀ {z : Bool} {ts : List Tk} {p : Prs}, W z (.ps (argPcs as ++ [.t rpT])) ts p → ∃ us, ts = us ++ [rpT] ∧ ArgsOk z as us p
  | [], _, hn, _, _, _, _ => absurd rfl hn
  | [a], G, _, z, ts, p, h => (show W z (.ps [.n a 1, .t rpT]) ts p from h).n_e fun us q vs r h1 g => g.t_e fun vs r g => g.nil_e (by
    have A := G a List.mem_cons_self h1
    rw [show sh us.length (sh 1 []) = [] from rfl, List.append_nil]
    refine ⟨us, rfl, .as1 A.put, fun z => .as1 (A.min z), fun z => A.wt z (by decide), fun z q hq => ?_⟩
    obtain ⟨ws, m2, m3⟩ := A.cut z q hq
    exact ⟨ws, m2, .as1 m3⟩)
  | a :: b :: r, G, _, z, ts, p, h => (show W z (.ps (.n a 1 :: .t cmT :: (argPcs (b :: r) ++ [.t rpT]))) ts p from h).n_e fun us q _ _ h1 g => g.t_e fun _ s g => by
    have A := G a List.mem_cons_self h1
    obtain ⟨ws, rfl, B⟩ := args_ok (fun x hx => G x (List.mem_cons_of_mem _ hx)) (fun z => nomatch z) g
    refine ⟨us ++ cmT :: ws, (List.append_assoc us (cmT :: ws) [rpT]).symm, .asn (A.put.mono ?_) (B.put.mono ?_), fun z => .asn (A.min z) (B.min z), fun z => ?_, fun z q hq => ?_⟩
    · simp only [cnts]; omega
    · simp only [cnts]; omega
    · have := A.wt z (by decide)
      have := B.wt z
      rw [wt_app, wt_oth (by decide) (by decide)]
      simp only [cnts] at this ⊢
      omega
    · rcases List.mem_append.mp hq with hq | hq
      · obtain ⟨xs, m2, m3⟩ := A.cut z _ hq
        exact ⟨_, m2.left _, .asnL m3 (B.min z)⟩
      · obtain ⟨q1, hq1, rfl⟩ := mem_sh hq
        obtain ⟨q2, hq2, rfl⟩ := mem_sh hq1
        obtain ⟨xs, m2, m3⟩ := B.cut z _ hq2
        exact ⟨_, (m2.cons _).right _, .asnR (A.min z) m3⟩
theorem core_call {N : Tr} {w : Txt} {as : List Tr} (hp : pieces N = .t (fnTk w) :: .t lpT :: (argPcs as ++ [.t rpT])) (ht : tree N = .tup [.str tCall, .str w, .tup (as.map tree)]) (hc : cnt N = 1 + cnts as) (hl : (as.map tree).length ≤ 3) (hn : as ≠ []) (G : ∀ a ∈ as, Good a) : Core N := fun {z ts p} h => (show W z (.ps (.t (fnTk w) :: .t lpT :: (argPcs as ++ [.t rpT]))) ts p from hp ▸ h).t_e fun _ _ g => g.t_e fun _ q g => by
  obtain ⟨us, rfl, A⟩ := args_ok G hn g
  have hh : hold (tree N) = 13 := by rw [ht]; rfl
  refine ⟨fun l hl' => ?_, fun z l hl' => ?_, fun z q hq => ?_, fun z => ?_⟩
  · rw [ht, hc]
    exact (Put.call rfl rfl (hh ▸ hl') hl A.put).mono (by omega)
  · rw [ht]
    exact .call rfl rfl (hh ▸ hl') (A.min z)
  · obtain ⟨q1, hq1, rfl⟩ := mem_sh hq
    obtain ⟨q2, hq2, rfl⟩ := mem_sh hq1
    obtain ⟨xs, m2, m3⟩ := A.cut z _ hq2
    rw [hh, ht]
    exact ⟨_, ((m2.left _).cons _).cons _, fun l hl => .call rfl rfl hl m3⟩
  · have := A.wt z
    rw [wt_fn, wt_lp, wt_app, hh, hc, show Mine.wt [rpT] = 0 from rfl]
    exact ⟨by omega, fun h => absurd h (Int.lt_irrefl _)⟩

theorem all1 {a : Tr} (A : Good a) {r : List Tr} (R : ∀ x ∈ r, Good x) : ∀ x ∈ a :: r, Good x := fun x hx => by
  cases hx with
  | head => exact A
  | tail _ hx => exact R x hx
theorem good : ∀ {N : Tr}, TrOk N → Good N
  | .leaf t v, h => Core.good (core_leaf h) h
  | .un s a, h => Core.good (core_un h.1 (good h.2)) h
  | .bin s a b, h => Core.good (core_bin h.1 (good h.2.1) (good h.2.2)) h
  | .ite a b c, h => Core.good (core_ite (good h.1) (good h.2.1) (good h.2.2)) h
  | .call0 w, h => Core.good (core_call0 h) h
  | .call1 w a, h => Core.good (core_call (as := [a]) rfl rfl rfl (Nat.le_of_ble_eq_true rfl) (fun z => nomatch z) (all1 (good h.2) nofun)) h
  | .call2 w a b, h => Core.good (core_call (as := [a, b]) rfl rfl (by simp only [cnt, cnts]; omega) (Nat.le_of_ble_eq_true rfl) (fun z => nomatch z) (all1 (good h.2.1) (all1 (good h.2.2) nofun))) h
  | .call3 w a b c, h => Core.good (core_call (as := [a, b, c]) rfl rfl (by simp only [cnt, cnts]; omega) (Nat.le_of_ble_eq_true rfl) (fun z => nomatch z) (all1 (good h.2.1) (all1 (good h.2.2.1) (all1 (good h.2.2.2) nofun)))) h
set_option maxHeartbeats 200000
set_option tactic.hygienic true in
theorem Put.gr {h : Nat} {g : G} {ts : List Tk} (p : Put h g ts) : GrG g ts := by
  induction p with
  | leaf h1 h2 => have := Gr.leaf ⟨_, h1⟩; exact ⟨o_e this, fun _ => this⟩
  | wrap _ i => have := Gr.paren i.1; exact ⟨o_e this, fun _ => this⟩
  | un a b c d _ i => have := Gr.un ⟨a, _, c, b⟩ (i.2 (by decide)); exact ⟨o_e this, fun _ => this⟩
  | bin a b c d _ _ i j =>
    refine ⟨(i.1.ext _ (.tbin ⟨a, _, c, b⟩ j.1)).1 rfl, fun h => ?_⟩
    have := lvl_bin c; omega
  | ite a b a' b' c _ _ _ i j k => exact ⟨(i.1.ext _ (.tq ⟨a, b⟩ ⟨a', b'⟩ j.1 k.1)).1 rfl, fun h => by omega⟩
  | call a b c d m i =>
    rename_i h k w l vs ts
    by_cases hv : vs = []
    · subst hv
      cases m with
      | as0 => have := Gr.call0 ⟨a, _, b⟩; exact ⟨o_e this, fun _ => this⟩
    · have := Gr.call ⟨a, _, b⟩ (i hv)
      exact ⟨o_e this, fun _ => this⟩
  | as0 => intro h; exact absurd rfl h
  | as1 _ i => intro _; exact .a1 i.1
  | asn _ _ i j => intro _; exact .an i.1 (j (by simp))

noncomputable def pureTs (ts : List Tk) : Prop := ∀ t ∈ ts, V.pure t.v = true
theorem pureTs.cons {t : Tk} {ts : List Tk} (h : pureTs (t :: ts)) : V.pure t.v = true ∧ pureTs ts := ⟨h t (by simp), fun u hu => h u (by simp [hu])⟩
noncomputable def PureJ : J → Prop
  | .loop _ t => V.pure t = true
  | _ => True
theorem wrap_pure {t : V} (ht : V.pure t = true) : ∀ (ops : List V), (∀ o ∈ ops, V.pure o = true) → V.pure (wrapOps ops t) = true
  | [], _ => ht
  | o :: r, h => by
    have i := wrap_pure ht r fun o ho => h o (by simp [ho])
    have ho := h o (by simp)
    show V.pure (.tup [.str [117, 110], o, wrapOps r t]) = true
    simp only [V.pure, V.pures, i, ho]; decide
set_option tactic.hygienic true in
theorem PR.data {d : Nat} {j : J} {ts rest : List Tk} {v : V} (h : PR d j ts v rest) : pureTs ts → PureJ j → V.pure v = true ∧ pureTs rest := by
  induction h with
  | climb h1 h2 i1 i2 => intro hp _; obtain ⟨a, b⟩ := i1 hp trivial; exact i2 b a
  | stop h1 h2 => intro hp ht; exact ⟨ht, hp⟩
  | bin h1 h2 h3 h4 p1 p2 i1 i2 =>
    intro hp ht
    obtain ⟨a, b⟩ := hp.cons
    obtain ⟨c, d⟩ := i1 b trivial
    rw [h2] at a
    exact i2 d (mk_pure _ _ _ a ht c)
  | ite h1 h2 h3 p1 h4 h5 p2 p3 i1 i2 i3 =>
    intro hp ht
    obtain ⟨a, b⟩ := hp.cons
    obtain ⟨c, d⟩ := i1 b trivial
    obtain ⟨e, f⟩ := i2 d.cons.2 trivial
    refine i3 f ?_
    show V.pure (.tup [.str tIf, _, _, _]) = true
    have ht' : V.pure _ = true := ht
    simp only [V.pure, V.pures, ht', c, e]; decide
  | pre h1 h2 p i =>
    rename_i d ops ts rest t
    intro hp _
    obtain ⟨a, b⟩ := i (fun u hu => hp u (by simp [hu])) trivial
    refine ⟨wrap_pure a _ fun o ho => ?_, b⟩
    obtain ⟨k, hk, rfl⟩ := List.mem_map.mp ho
    exact hp k (by simp [hk])
  | num h1 => intro hp _; obtain ⟨a, b⟩ := hp.cons; exact ⟨by simp only [V.pure, V.pures, a]; decide, b⟩
  | text h1 => intro hp _; obtain ⟨a, b⟩ := hp.cons; exact ⟨by simp only [V.pure, V.pures, a]; decide, b⟩
  | parts h1 h2 h3 =>
    intro hp _
    obtain ⟨a, b⟩ := hp.cons
    rw [h2] at a
    exact ⟨ptree_pure h3 (by simpa [V.pure] using a), b⟩
  | word h1 h2 h3 h4 =>
    intro hp _
    obtain ⟨a, b⟩ := hp.cons
    rw [h2] at a
    simp only [V.pure] at a
    exact ⟨by simp only [V.pure, V.pures, a]; decide, b⟩
  | paren h1 p h2 i => intro hp _; obtain ⟨a, b⟩ := hp.cons; obtain ⟨c, d⟩ := i b trivial; exact ⟨c, d.cons.2⟩
  | call0 h1 h2 h3 h4 =>
    intro hp _
    obtain ⟨a, b⟩ := hp.cons
    rw [h2] at a
    simp only [V.pure] at a
    exact ⟨by simp only [V.pure, V.pures, a]; decide, b.cons.2.cons.2⟩
  | call h1 h2 h3 h4 p h5 h6 i =>
    intro hp _
    obtain ⟨a, b⟩ := hp.cons
    rw [h2] at a
    simp only [V.pure] at a
    obtain ⟨c, d⟩ := i b.cons.2 trivial
    simp only [V.pure] at c
    exact ⟨by simp only [V.pure, V.pures, a, c]; decide, d.cons.2⟩
  | args1 p h1 i => intro hp _; obtain ⟨a, b⟩ := i hp trivial; exact ⟨by simp only [V.pure, V.pures, a]; decide, b⟩
  | argsn p1 h1 p2 i1 i2 =>
    intro hp _
    obtain ⟨a, b⟩ := i1 hp trivial
    obtain ⟨c, d⟩ := i2 b.cons.2 trivial
    simp only [V.pure] at c
    exact ⟨by simp only [V.pure, V.pures, a, c]; decide, d⟩
noncomputable def TreeJ : J → V → Prop
  | .loop _ t, v => isTree t → isTree v
  | .args, _ => True
  | _, v => isTree v
theorem wrap_tree {t : V} (ht : isTree t) : ∀ (ops : List V), isTree (wrapOps ops t)
  | [] => ht
  | o :: r => ⟨_, _, rfl, by decide⟩
theorem PR.tree {d : Nat} {j : J} {ts rest : List Tk} {v : V} (h : PR d j ts v rest) : TreeJ j v := by
  induction h with
  | climb h1 h2 i1 i2 => exact i2 i1
  | stop h1 h2 => exact fun h => h
  | bin h1 h2 h3 h4 p1 p2 i1 i2 => exact fun h => i2 (mk_isTree _ _ _)
  | ite h1 h2 h3 p1 h4 h5 p2 p3 i1 i2 i3 => exact fun h => i3 ⟨_, _, rfl, by decide⟩
  | pre h1 h2 p i => exact wrap_tree i _
  | num h1 => exact ⟨_, _, rfl, by decide⟩
  | text h1 => exact ⟨_, _, rfl, by decide⟩
  | parts h1 h2 h3 => cases h3 <;> exact ⟨_, _, rfl, by decide⟩
  | word => exact ⟨_, _, rfl, by decide⟩
  | paren h1 p h2 i => exact i
  | call0 => exact ⟨_, _, rfl, by decide⟩
  | call => exact ⟨_, _, rfl, by decide⟩
  | args1 => trivial
  | argsn => trivial

theorem gap_len (gf : Nat → Nat) (k : Nat) (lw : Bool) (s : Txt) : (gapS gf k lw s).length ≤ 6 := by
  have : ∀ g ∈ gapList, g.length ≤ 6 := by decide
  exact this _ (gap_mem gf k lw s)
theorem sf_len (gf : Nat → Nat) : ∀ (items : List (Option Tk)) (k : Nat) (lw : Bool), (∀ t ∈ items.filterMap id, TkF t) → (sf gf k lw items).length ≤ 66 * items.length
  | [], _, _, _ => by simp [sf]
  | it :: r, k, lw, h => by
    have i := sf_len gf r (k + 1) (lastw (itS it)) fun t ht => h t (by cases it <;> simp at ht ⊢; exact ht; exact .inr ht)
    have g := gap_len gf k lw (itS it)
    have l : (itS it).length ≤ 60 := by
      cases it with
      | none => decide
      | some t => exact (h t (by simp)).len
    simp only [sf, List.length_append, List.length_cons]
    omega

theorem filterMap_some (ts : List Tk) : (ts.map some).filterMap id = ts := by
  induction ts with
  | nil => rfl
  | cons t ts ih => simp [ih]
theorem TkG.opv {ts : List Tk} (h : ∀ t ∈ ts, TkG t) : ∀ t ∈ ts, t.sort = sOp → ∃ o, t.v = .str o := fun t ht hs => by
  obtain ⟨o, ho, _⟩ := (h t ht).f.opv hs
  exact ⟨o, ho⟩

theorem text_read {gf : Nat → Nat} {items : List (Option Tk)} {us : List Tk} (hi : items.filterMap id = us) (hl : items.length ≤ 1000) (hg : ∀ t ∈ us, TkG t) (hc : Ch us) {d : Nat} {v : V} (hp : PR d (.climb 1) (us ++ [endT]) v [endT]) (hd : d ≤ 96) (n : Nat) (hn : 414 ≤ n) (σ : St) :
    ∃ σ', fn n .f_parse_expr [.str (sf gf 0 false items)] σ = some (v, σ') ∧ Grow σ σ' := by
  have hf : ∀ t ∈ items.filterMap id, TkF t := fun t ht => (hg t (hi ▸ ht)).f
  have hL := lexd_items gf items 0 false (by rw [hi]; exact hc) hf
  rw [hi] at hL
  have hul : us.length ≤ items.length := by rw [← hi]; exact List.length_filterMap_le _ _
  refine parse_ok (by have := sf_len gf items 0 false hf; omega) hL (by omega) (TkG.opv hg) (d := 96) (PR.mono hp hd) n (by omega) σ
theorem same_read {z : Bool} {N : Tr} {ts : List Tk} {p : Prs} (ok : TrOk N) (hN : cnt N ≤ 31) (w : W z (.n N 1) ts p) (gf : Nat → Nat) (n : Nat) (hn : 414 ≤ n) (σ : St) :
    ∃ σ', fn n .f_parse_expr [.str (sf gf 0 false (ts.map some))] σ = some (tree N, σ') ∧ Grow σ σ' := by
  have hP := (good ok w).put
  have hg := w.g (show PGOk (.n N 1) from ok)
  have hlen := W.len w
  simp only at hlen
  exact text_read (filterMap_some ts) (by simp; omega) hg (hP.gr.1.chain fun t ht => (hg t ht).f).1 (round hP (by omega)) (by omega) n hn σ
theorem other_read {N : Tr} {ts us : List Tk} {p : Prs} (ok : TrOk N) (hN : cnt N ≤ 31) (w : W true (.n N 1) ts p) {q : Nat × Nat} (hA : At q ts us) (hC : Cut (.n (tree N) 1) us) {items : List (Option Tk)} (hi : items.filterMap id = us) (hil : items.length = ts.length) (gf : Nat → Nat) (n : Nat) (hn : 414 ≤ n) (σ : St) :
    ∃ σ' w, fn n .f_parse_expr [.str (sf gf 0 false items)] σ = some (w, σ') ∧ Grow σ σ' ∧ w ≠ tree N ∧ V.pure w = true ∧ isTree w := by
  have hg := w.g (show PGOk (.n N 1) from ok)
  have hlen := W.len w
  simp only at hlen
  have hwt := (good ok w).wt rfl (by decide)
  have hA' := hA.wt
  have hgu : ∀ t ∈ us, TkG t := by
    obtain ⟨A, B, C, rfl, _, rfl⟩ := hA
    intro t ht
    apply hg
    simp at ht ⊢
    rcases ht with h | h | h <;> simp [h]
  obtain ⟨v, hp, hne⟩ := other hC (by omega)
  obtain ⟨σ', e, g⟩ := text_read (gf := gf) hi (by omega) hgu (hC.gr.chain fun t ht => (hgu t ht).f).1 hp (by omega) n hn σ
  refine ⟨σ', v, e, g, hne, (hp.data ?_ trivial).1, hp.tree⟩
  intro t ht
  rcases List.mem_append.mp ht with h | h
  · exact (hgu t h).p
  · rw [List.mem_singleton] at h; subst h; decide
set_option maxHeartbeats 200000

noncomputable def wlk (s : Txt) : Bool := match s with
  | [] => false
  | c :: _ => isAln c || c == 95
theorem wordlike_ok (n : Nat) (s : Txt) (hl : s.length ≤ 1) (ha : ∀ c ∈ s, c < 128) (σ : St) : fn (n + 1) .f_law_is_wordlike [.str s] σ = some (.bool (wlk s), σ) := by
  rw [fn_succ]
  match s, hl with
  | [], _ => wp_walk using b_f_law_is_wordlike, bIsalnum, wlk
  | [c], _ =>
    have := ha c (by simp)
    cases h : isAln c with
    | true => wp_walk using b_f_law_is_wordlike, bIsalnum, wlk, this, h
    | false =>
      wp_walk using b_f_law_is_wordlike, bIsalnum, wlk, this, h
      rw [Bool.eq_iff_iff]; simp

noncomputable def gfI (g : Int) (k : Nat) : Int := (g / 9 ^ (k % 8) + k) % 9
noncomputable def gfOf (g : Int) (k : Nat) : Nat := (gfI g k).toNat
noncomputable abbrev joinB (fns : Fn → DF) : DS := sSeq (sSet 4 (dIndex (dTup [dLit (.str []), dLit (.str [32]), dLit (.str []), dLit (.str [10]), dLit (.str [9, 32]), dLit (.str [92, 10]), dLit (.str [35, 32, 41, 32, 91, 10]), dLit (.str []), dLit (.str [11, 12, 13])]) (dBin .Mod (dBin .Add (dBin .FloorDiv (dVar 1) (dBin .Pow (dLit (.int 9)) (dBin .Mod (dVar 3) (dLit (.int 8))))) (dVar 3)) (dLit (.int 9))))) (sSeq (sIf (tAnds [tCmp .Eq (dVar 4) (dLit (.str [])), tVal (dCall (fns .f_law_is_wordlike) [dSlice (dVar 2) (some (dNeg (dLit (.int 1)))) none]), tVal (dCall (fns .f_law_is_wordlike) [dIndex (dIndex (dVar 0) (dVar 3)) (dLit (.int 0))])]) (sSet 4 (dLit (.str [32]))) (sNil)) (sSet 2 (dBin .Add (dBin .Add (dVar 2) (dVar 4)) (dIndex (dVar 0) (dVar 3)))))

theorem last_drop (x : Txt) : x.drop (x.length - 1) = (match x.getLast? with | some c => [c] | none => []) := by
  cases h : x.getLast? with
  | none => have := List.getLast?_eq_none_iff.mp h; subst this; rfl
  | some c =>
    obtain ⟨ys, rfl⟩ := List.getLast?_eq_some_iff.mp h
    simp
theorem lastw_wlk (x : Txt) : wlk (x.drop (x.length - 1)) = lastw x := by
  rw [last_drop]
  unfold lastw
  cases x.getLast? <;> rfl
theorem lastw_app (x y : Txt) (h : y ≠ []) : lastw (x ++ y) = lastw y := by
  unfold lastw
  cases y with
  | nil => exact absurd rfl h
  | cons c r => rw [List.getLast?_append, List.getLast?_cons]; rfl
theorem slice_last (σ : St) (x : Txt) (h : x.length ≤ 16777216) : vslice (.str x) (some (-1)) none σ = some (.str (x.drop (x.length - 1)), σ) := by
  exact if_pos ⟨h, rfl⟩
theorem pow9 (k : Nat) : (0 : Int) < 9 ^ (k % 8) ∧ (9 : Int) ^ (k % 8) < 1073741824 := by
  have : ∀ i, i < 8 → (0 : Int) < 9 ^ i ∧ (9 : Int) ^ i < 1073741824 := by decide
  exact this _ (Nat.mod_lt _ (by decide))
theorem b_pow9 (σ : St) (k : Nat) : vbin .Pow (.int 9) (.int ((k : Int) % 8)) σ = some (.int (9 ^ (k % 8)), σ) := by
  unfold vbin
  simp only [asInt_e, Option.bind_some]
  have h : ((k : Int) % 8).toNat = k % 8 := by omega
  rw [if_pos (by omega), h]
theorem gapTup (σ : St) (g : Int) (k : Nat) : vindex (.tup [.str [], .str [32], .str [], .str [10], .str [9, 32], .str [92, 10], .str [35, 32, 41, 32, 91, 10], .str [], .str [11, 12, 13]]) (.int (gfI g k)) σ = some (.str ((gapList[gfOf g k]?).getD [])) := by
  have a : 0 ≤ gfI g k := Int.emod_nonneg _ (by decide)
  have b : gfI g k < 9 := Int.emod_lt_of_pos _ (by decide)
  have e : gfI g k = (gfOf g k : Nat) := by unfold gfOf; omega
  have hb : gfOf g k < 9 := by omega
  rw [e]
  generalize gfOf g k = i at hb
  match i, hb with
  | 0, _ => rfl
  | 1, _ => rfl
  | 2, _ => rfl
  | 3, _ => rfl
  | 4, _ => rfl
  | 5, _ => rfl
  | 6, _ => rfl
  | 7, _ => rfl
  | 8, _ => rfl

theorem itS_ok {items : List (Option Tk)} (hf : ∀ t ∈ items.filterMap id, TkF t) : ∀ it ∈ items, (∃ c r, itS it = c :: r) ∧ (itS it).length ≤ 60 ∧ ∀ c ∈ itS it, c < 128 := by
  intro it hit
  cases it with
  | none => exact ⟨⟨_, _, rfl⟩, by decide, by decide⟩
  | some t =>
    have := hf t (List.mem_filterMap.mpr ⟨_, hit, rfl⟩)
    obtain ⟨c, r, h, _⟩ := this.ok.head
    exact ⟨⟨c, r, h⟩, this.len, this.ascii⟩
theorem gap_ascii : ∀ g ∈ gapList, ∀ c ∈ g, c < 128 := by decide

theorem join_loop (n : Nat) {items : List (Option Tk)} (hf : ∀ t ∈ items.filterMap id, TkF t) (hl : items.length ≤ 1000) {r : Nat} {σ : St} (hr : σ[r]? = some (.list (items.map fun it => V.str (itS it)))) (g : Int) :
    ∀ (rest : List (Option Tk)) (k : Nat) (x : Txt) (o3 o4 : Option V), items.drop k = rest → k ≤ items.length → x.length ≤ 66 * k → (∀ c ∈ x, c < 128) →
      ∃ o3' o4', sForGo (.range items.length) 3 (joinB (fn (n + 1))) k [some (.ref r), some (.int g), some (.str x), o3, o4] σ = some (.next, [some (.ref r), some (.int g), some (.str (x ++ sf (gfOf g) k (lastw x) rest)), o3', o4'], σ) := by
  intro rest
  induction rest with
  | nil =>
    intro k x o3 o4 hd hk hx ha
    have h1 := List.drop_eq_nil_iff.mp hd
    refine ⟨o3, o4, (for_done (by simp [dNext]; omega)).trans ?_⟩
    simp [sf]
  | cons it rest ih =>
    intro k x o3 o4 hd hk hx ha
    have h1 : items[k]? = some it := by
      have := congrArg (fun l => l[0]?) hd
      simpa using this
    have h3 : items.drop (k + 1) = rest := by rw [← List.drop_drop, hd]; rfl
    have hkl : k < items.length := (List.getElem?_eq_some_iff.mp h1).1
    obtain ⟨⟨c, u, hcu⟩, hlen, has⟩ := itS_ok hf it (List.mem_of_getElem? h1)
    have hix : vindex (.ref r) (.int (k : Nat)) σ = some (.str (itS it)) := by
      refine i_ref hr (by omega) ?_
      rw [List.getElem?_map, h1]; rfl
    have hgi := gapTup σ g k
    have hw1 := wordlike_ok n (x.drop (x.length - 1)) (by simp; omega) (fun d hd => ha d (List.mem_of_mem_drop hd)) σ
    rw [lastw_wlk] at hw1
    have hw2 := wordlike_ok n [c] (by simp) (fun d hd => has d (by rw [hcu]; simp at hd ⊢; exact .inl hd)) σ
    have hsl := slice_last σ x (by omega)
    have hp9 := pow9 k
    have hgl : ((gapList[gfOf g k]?).getD []).length ≤ 6 := by
      have := gap_len (gfOf g) k false []
      unfold gapS at this
      simpa using this
    have hg0 := gap_len (gfOf g) k (lastw x) (itS it)
    have hga := gap_ascii _ (gap_mem (gfOf g) k (lastw x) (itS it))
    have hhw : headw (itS it) = wlk [c] := by rw [hcu]; rfl
    have hc0 : vindex (.str (itS it)) (.int 0) σ = some (.str [c]) := by rw [hcu]; rfl
    have body : joinB (fn (n + 1)) [some (.ref r), some (.int g), some (.str x), some (.int (k : Nat)), o4] σ = some (.next, [some (.ref r), some (.int g), some (.str (x ++ gapS (gfOf g) k (lastw x) (itS it) ++ itS it)), some (.int (k : Nat)), some (.str (gapS (gfOf g) k (lastw x) (itS it)))], σ) := by
      have first : sSet 4 (dIndex (dTup [dLit (.str []), dLit (.str [32]), dLit (.str []), dLit (.str [10]), dLit (.str [9, 32]), dLit (.str [92, 10]), dLit (.str [35, 32, 41, 32, 91, 10]), dLit (.str []), dLit (.str [11, 12, 13])]) (dBin .Mod (dBin .Add (dBin .FloorDiv (dVar 1) (dBin .Pow (dLit (.int 9)) (dBin .Mod (dVar 3) (dLit (.int 8))))) (dVar 3)) (dLit (.int 9)))) [some (.ref r), some (.int g), some (.str x), some (.int (k : Nat)), o4] σ = some (.next, [some (.ref r), some (.int g), some (.str x), some (.int (k : Nat)), some (.str ((gapList[gfOf g k]?).getD []))], σ) := by
        unfold gfI at hgi
        wp_walk using b_pow9, hp9, hgi
      unfold joinB
      rw [seq_next first]
      generalize hG : (gapList[gfOf g k]?).getD [] = G at hgl
      have last : ∀ G' : Txt, G'.length ≤ 6 → sSet 2 (dBin .Add (dBin .Add (dVar 2) (dVar 4)) (dIndex (dVar 0) (dVar 3))) [some (.ref r), some (.int g), some (.str x), some (.int (k : Nat)), some (.str G')] σ = some (.next, [some (.ref r), some (.int g), some (.str (x ++ G' ++ itS it)), some (.int (k : Nat)), some (.str G')], σ) := by
        intro G' hG'
        wp_walk using hix, (by omega : x.length + G'.length ≤ 16777216), (by omega : x.length + G'.length + (itS it).length ≤ 16777216), (by omega : x.length + (G'.length + (itS it).length) ≤ 16777216)
      by_cases hall : G = [] ∧ lastw x = true ∧ wlk [c] = true
      · obtain ⟨z1, z2, z3⟩ := hall
        have hgs : gapS (gfOf g) k (lastw x) (itS it) = [32] := by unfold gapS; rw [hG, hhw, if_pos ⟨z1, z2, z3⟩]
        rw [hgs]
        have second : sIf (tAnds [tCmp .Eq (dVar 4) (dLit (.str [])), tVal (dCall (fn (n + 1) .f_law_is_wordlike) [dSlice (dVar 2) (some (dNeg (dLit (.int 1)))) none]), tVal (dCall (fn (n + 1) .f_law_is_wordlike) [dIndex (dIndex (dVar 0) (dVar 3)) (dLit (.int 0))])]) (sSet 4 (dLit (.str [32]))) (sNil) [some (.ref r), some (.int g), some (.str x), some (.int (k : Nat)), some (.str G)] σ = some (.next, [some (.ref r), some (.int g), some (.str x), some (.int (k : Nat)), some (.str [32])], σ) := by
          rw [z2] at hw1
          rw [z3] at hw2
          wp_walk using z1, hsl, hw1, hix, hc0, hw2
        rw [seq_next second]
        exact last [32] (by decide)
      · have hgs : gapS (gfOf g) k (lastw x) (itS it) = G := by unfold gapS; rw [hG, hhw, if_neg hall]
        rw [hgs]
        have second : sIf (tAnds [tCmp .Eq (dVar 4) (dLit (.str [])), tVal (dCall (fn (n + 1) .f_law_is_wordlike) [dSlice (dVar 2) (some (dNeg (dLit (.int 1)))) none]), tVal (dCall (fn (n + 1) .f_law_is_wordlike) [dIndex (dIndex (dVar 0) (dVar 3)) (dLit (.int 0))])]) (sSet 4 (dLit (.str [32]))) (sNil) [some (.ref r), some (.int g), some (.str x), some (.int (k : Nat)), some (.str G)] σ = some (.next, [some (.ref r), some (.int g), some (.str x), some (.int (k : Nat)), some (.str G)], σ) := by
          by_cases z1 : G = []
          · cases z2 : lastw x with
            | false => rw [z2] at hw1; wp_walk using z1, hsl, hw1
            | true =>
              rw [z2] at hw1
              have z3 : wlk [c] = false := by
                cases h : wlk [c] with
                | false => rfl
                | true => exact absurd ⟨z1, z2, h⟩ hall
              rw [z3] at hw2
              wp_walk using z1, hsl, hw1, hix, hc0, hw2
          · wp_walk using z1
        rw [seq_next second]
        exact last G hgl
    obtain ⟨o3', o4', e⟩ := ih (k + 1) (x ++ gapS (gfOf g) k (lastw x) (itS it) ++ itS it) (some (.int (k : Nat))) (some (.str (gapS (gfOf g) k (lastw x) (itS it)))) h3 (by omega) (by simp; omega) (by
      intro d hd
      simp only [List.mem_append] at hd
      rcases hd with (h | h) | h
      · exact ha d h
      · exact hga d h
      · exact has d h)
    refine ⟨o3', o4', (for_step (v := .int (k : Nat)) (by simp [dNext, hkl]) body).trans ?_⟩
    rw [e, lastw_app _ _ (by rw [hcu]; simp)]
    simp [sf]
theorem law_joined_ok (n : Nat) {items : List (Option Tk)} (hf : ∀ t ∈ items.filterMap id, TkF t) (hl : items.length ≤ 1000) {r : Nat} {σ : St} (hr : σ[r]? = some (.list (items.map fun it => V.str (itS it)))) (g : Int) :
    fn (n + 2) .f_law_joined [.ref r, .int g] σ = some (.str (sf (gfOf g) 0 false items), σ) := by
  obtain ⟨o3, o4, e⟩ := join_loop n hf hl hr g items 0 [] none none rfl (by omega) (by simp) (by simp)
  rw [List.nil_append] at e
  have e : sForGo (.range items.length) 3 (joinB (fn (n + 1))) 0 [some (.ref r), some (.int g), some (.str []), none, none] σ = some (.next, [some (.ref r), some (.int g), some (.str (sf (gfOf g) 0 false items)), o3, o4], σ) := e
  have hln : vlen (.ref r) σ = some (.int items.length) := by have := len_ref hr (by simp; omega); simpa using this
  have hir : iRange (dCall bLen [dVar 0]) [some (.ref r), some (.int g), some (.str []), none, none] σ = some (.range items.length, σ) := by
    have : (items.length : Int).natAbs ≤ 16777216 := by omega
    wp_walk using iRange, hln
    omega
  rw [fn_succ]
  have hfor : sFor (iRange (dCall bLen [dVar 0])) 3 (joinB (fn (n + 1))) [some (.ref r), some (.int g), some (.str []), none, none] σ = some (.next, [some (.ref r), some (.int g), some (.str (sf (gfOf g) 0 false items)), o3, o4], σ) := by
    unfold sFor
    rw [hir]
    exact e
  wp_walk using b_f_law_joined, hfor
theorem law_told_ok (n : Nat) (x : Txt) {σ : St} {r : V × St} (h : fn n .f_parse_expr [.str x] σ = some r) : fn (n + 1) .f_law_told [.str x] σ = some r := by
  rw [fn_succ]
  obtain ⟨v, σ'⟩ := r
  wp_walk using b_f_law_told, h
set_option maxHeartbeats 200000

theorem c_neL {σ : St} {a b : Nat} {xs : List V} (h1 : σ[a]? = some (.list xs)) (h2 : σ[b]? = some (.list [])) : vcmp .NotEq (.ref a) (.ref b) σ = some (!xs.isEmpty) := by
  simp [vcmp, cEq, h1, h2]
theorem c_eqL {σ : St} {a b : Nat} {xs : List V} (h1 : σ[a]? = some (.list xs)) (h2 : σ[b]? = some (.list [])) : vcmp .Eq (.ref a) (.ref b) σ = some xs.isEmpty := by
  simp [vcmp, cEq, h1, h2]
theorem pop_ok {σ : St} {l : Nat} {xs : List V} {y : V} (h : σ[l]? = some (.list (xs ++ [y]))) (hl : xs.length ≤ 1000) : bPop [.ref l] σ = some (y, σ.set l (.list xs)) := by
  unfold bPop
  simp only [h, arg1_e, asRef_e, lst_e, asList_e, Option.bind_some]
  rw [if_pos (by simp; omega)]
  simp

noncomputable abbrev nodeS1 : DS := sSet 2 (dIf (tCmp .NotEq (dVar 0) (dList [])) (dMeth kList bPop (dVar 0) []) (dLit (.int 0)))
theorem draw_ok {l : Nat} {ds : List Int} {σ : St} (h : σ[l]? = some (.list (ds.map V.int))) (hl : ds.length ≤ 100) (ρ : Rho) (h0 : ρ[0]? = some (some (.ref l))) :
    ∃ (σ₁ : St) (d : Int) (ds₁ : List Int), nodeS1 ρ σ = some (.next, ρ.set 2 (some (.int d)), σ₁) ∧ GrowB l σ σ₁ ∧ σ₁[l]? = some (.list (ds₁.map V.int)) ∧ ((ds = [] ∧ d = 0 ∧ ds₁ = []) ∨ ds₁.length + 1 = ds.length) := by
  have g : Grow σ (σ ++ [O.list []]) := Grow.app _ _
  have hne : tCmp .NotEq (dVar 0) (dList []) ρ σ = some (!(ds.map V.int).isEmpty, σ ++ [.list []]) := by
    have := c_neL (g.get h) (List.getElem?_concat_length (l := σ) (a := O.list []))
    have hL : ∀ ρ σ, dList [] ρ σ = some (.ref σ.length, σ ++ [.list []]) := fun _ _ => rfl
    rw [tCmp_e, dVar_h h0, oCm1_s, hL, oCm2_s, this, oAtB_s]
  rcases List.eq_nil_or_concat ds with rfl | ⟨ds₁, d, rfl⟩
  · refine ⟨σ ++ [.list []], 0, [], ?_, g.b, g.get h, .inl ⟨rfl, rfl, rfl⟩⟩
    simp only [List.map_nil, List.isEmpty_nil, Bool.not_true] at hne
    unfold nodeS1; rw [sSet_e, dIf_e, hne, oIf_f, dLit_e, oSet_s]
  · have hp : ((ds₁ ++ [d]).map V.int) = ds₁.map V.int ++ [.int d] := by simp
    have he : (!(((ds₁ ++ [d]).map V.int)).isEmpty) = true := by simp
    rw [List.concat_eq_append] at *
    rw [he] at hne
    rw [hp] at h
    have hpop := pop_ok (g.get h) (by simp at hl ⊢; omega)
    have hk := g.get h
    refine ⟨(σ ++ [O.list []]).set l (.list (ds₁.map V.int)), d, ds₁, ?_, g.b.trans (GrowB.set _ _ _), List.getElem?_set_self (by have := lt_of_some h; simp; omega), .inr (by simp)⟩
    have hm : dMeth kList bPop (dVar 0) [] ρ (σ ++ [O.list []]) = some (.int d, (σ ++ [O.list []]).set l (.list (ds₁.map V.int))) := by
      rw [dMeth_e, dVar_h h0, oMe1_s, if_pos (by simp [hk]), es0, oMe2_s, hpop]
    unfold nodeS1; rw [sSet_e, dIf_e, hne, oIf_t, hm, oSet_s]

inductive NodeAt (m l deep : Nat) (ds : List Int) (σ : St) : Prop
  | mk (σ' : St) (v : V) (N : Tr) (ds' : List Int) : fn m .f_law_node [.ref l, .int deep] σ = some (v, σ') → GrowB l σ σ' → σ'[l]? = some (.list (ds'.map V.int)) → NR l σ' v N → cnt N + ds'.length ≤ ds.length → NodeAt m l deep ds σ
noncomputable def NodeOk (m l : Nat) (deep : Nat) : Prop := ∀ (ds : List Int) (σ : St), σ[l]? = some (.list (ds.map V.int)) → ds.length ≤ 100 → NodeAt m l deep ds σ

noncomputable abbrev nodeR (fns : Fn → DF) : DS := sSeq (sIf (tOrs [tCmp .Eq (dVar 1) (dLit (.int 0)), tCmp .Lt (dVar 3) (dLit (.int 3))]) (sRet (dIf (tCmp .Eq (dBin .Mod (dVar 3) (dLit (.int 3))) (dLit (.int 0))) (dCall (fns .f_law_number) [dVar 4]) (dIf (tCmp .Eq (dBin .Mod (dVar 3) (dLit (.int 3))) (dLit (.int 1))) (dCall (fns .f_law_text) [dVar 4]) (dCall (fns .f_law_parts) [dVar 4])))) (sNil)) (sSeq (sIf (tCmp .Eq (dVar 3) (dLit (.int 3))) (sRet (dTup [dLit (.str [117, 110]), dIndex (dTup [dLit (.str [45]), dLit (.str [43]), dLit (.str [126]), dLit (.str [33])]) (dBin .Mod (dVar 4) (dLit (.int 4))), dCall (fns .f_law_node) [dVar 0, dVar 5]])) (sNil)) (sSeq (sIf (tCmp .Eq (dVar 3) (dLit (.int 9))) (sSeq (sSet 6 (dIndex (dTup [dLit (.str [109, 97, 120]), dLit (.str [102, 58, 58, 103]), dLit (.str [110]), dLit (.str [116, 114, 117, 101])]) (dBin .Mod (dVar 4) (dLit (.int 4))))) (sRet (dTup [dLit (.str [99, 97, 108, 108]), dVar 6, dComp (iRange (dBin .Mod (dBin .FloorDiv (dVar 4) (dLit (.int 4))) (dLit (.int 4)))) [0, 5] (dCall (fns .f_law_node) [dVar 0, dVar 1])]))) (sNil)) (sSeq (sSet 7 (dCall (fns .f_law_node) [dVar 0, dVar 5])) (sSeq (sSet 8 (dCall (fns .f_law_node) [dVar 0, dVar 5])) (sSeq (sIf (tCmp .Lt (dVar 3) (dLit (.int 7))) (sRet (dTup [dLit (.str [98, 105, 110]), dCall (fns .f_law_between) [dVar 4], dVar 7, dVar 8])) (sNil)) (sSeq (sIf (tCmp .Eq (dVar 3) (dLit (.int 7))) (sRet (dTup [dIndex (dTup [dLit (.str [97, 110, 100]), dLit (.str [111, 114])]) (dBin .Mod (dVar 4) (dLit (.int 2))), dVar 7, dVar 8])) (sNil)) (sRet (dTup [dLit (.str [105, 102]), dVar 7, dVar 8, dCall (fns .f_law_node) [dVar 0, dVar 5]]))))))))
noncomputable abbrev nodeP (l : Nat) (deep d k q below : Int) : Rho := [some (.ref l), some (.int deep), some (.int d), some (.int k), some (.int q), some (.int below), none, none, none]

theorem node_step {m l deep : Nat} (hrest : ∀ (d k q : Int) (ds₁ : List Int) (σ₁ : St), σ₁[l]? = some (.list (ds₁.map V.int)) → ds₁.length ≤ 100 → 0 ≤ k → k < 10 → ∃ (σ' : St) (v : V) (N : Tr) (ds' : List Int) (ρ' : Rho), nodeR (fn m) (nodeP l deep d k q (deep - 1)) σ₁ = some (.ret v, ρ', σ') ∧ GrowB l σ₁ σ' ∧ σ'[l]? = some (.list (ds'.map V.int)) ∧ NR l σ' v N ∧ cnt N + ds'.length ≤ ds₁.length + (if k < 3 then 0 else 1)) :
    NodeOk (m + 1) l deep := by
  intro ds σ h hl
  obtain ⟨σ₁, d, ds₁, e1, g1, h1, hd⟩ := draw_ok h hl [some (.ref l), some (.int deep), none, none, none, none, none, none, none] rfl
  have hl1 : ds₁.length ≤ 100 := by
    rcases hd with ⟨rfl, _, rfl⟩ | hd
    · simp
    · omega
  obtain ⟨σ', v, N, ds', ρ', e2, g2, h2, n2, c2⟩ := hrest d (d % 10) (d / 10) ds₁ σ₁ h1 hl1 (Int.emod_nonneg _ (by decide)) (Int.emod_lt_of_pos _ (by decide))
  refine ⟨σ', v, N, ds', ?_, g1.trans g2, h2, n2, ?_⟩
  · have s2 : sSetT [3, 4, 5] (dTup [dBin .Mod (dVar 2) (dLit (.int 10)), dBin .FloorDiv (dVar 2) (dLit (.int 10)), dBin .Sub (dVar 1) (dLit (.int 1))]) [some (.ref l), some (.int deep), some (.int d), none, none, none, none, none, none] σ₁ = some (.next, nodeP l deep d (d % 10) (d / 10) (deep - 1), σ₁) := by
      wp_walk using trivial
    have all : b_f_law_node (fn m) [some (.ref l), some (.int deep), none, none, none, none, none, none, none] σ = some (.ret v, ρ', σ') := by
      unfold b_f_law_node
      rw [seq_next e1]
      have s2' := s2
      refine (seq_next s2).trans ?_
      exact e2
    rw [fn_succ]
    wp_walk using all
  · rcases hd with ⟨rfl, rfl, rfl⟩ | hd
    · simp at c2; simpa using c2
    · split at c2 <;> omega

theorem leaf_case {m l deep : Nat} {d k q : Int} {σ : St} (hk : (deep : Int) = 0 ∨ k < 3) : ∃ t v, nodeR (fn (m + 2)) (nodeP l deep d k q (deep - 1)) σ = some (.ret (.tup [.str [108, 101, 97, 102], v, .str t.s]), nodeP l deep d k q (deep - 1), σ) ∧ Lf t v := by
  have hc : tOrs [tCmp .Eq (dVar 1) (dLit (.int 0)), tCmp .Lt (dVar 3) (dLit (.int 3))] (nodeP l deep d k q (deep - 1)) σ = some (true, σ) := by
    by_cases h0 : (deep : Int) = 0
    · have h0' : deep = 0 := by omega
      wp_walk using h0'
    · have h3 : k < 3 := hk.resolve_left h0
      have h0' : ¬ deep = 0 := by omega
      wp_walk using h3, h0'
  have key : ∀ {t : Tk} {v : V}, dIf (tCmp .Eq (dBin .Mod (dVar 3) (dLit (.int 3))) (dLit (.int 0))) (dCall (fn (m + 2) .f_law_number) [dVar 4]) (dIf (tCmp .Eq (dBin .Mod (dVar 3) (dLit (.int 3))) (dLit (.int 1))) (dCall (fn (m + 2) .f_law_text) [dVar 4]) (dCall (fn (m + 2) .f_law_parts) [dVar 4])) (nodeP l deep d k q (deep - 1)) σ = some (.tup [.str [108, 101, 97, 102], v, .str t.s], σ) →
      nodeR (fn (m + 2)) (nodeP l deep d k q (deep - 1)) σ = some (.ret (.tup [.str [108, 101, 97, 102], v, .str t.s]), nodeP l deep d k q (deep - 1), σ) := by
    intro t v h
    unfold nodeR; rw [sSeq_e, sIf_e, hc, oIf_t, sRet_e, h, oRet_s, oSeq_r]
  by_cases h0 : k % 3 = 0
  · obtain ⟨t, v, e, hl⟩ := law_number_ok (m + 1) q σ
    exact ⟨t, v, key (by wp_walk using h0, e), hl⟩
  · by_cases h1 : k % 3 = 1
    · obtain ⟨t, v, e, hl⟩ := law_text_ok (m + 1) q σ
      exact ⟨t, v, key (by wp_walk using h0, h1, e), hl⟩
    · obtain ⟨t, v, e, hl⟩ := law_parts_ok (m + 1) q σ
      exact ⟨t, v, key (by wp_walk using h0, h1, e), hl⟩

theorem pick_pre (q : Int) : ∃ s, s ∈ preOps ∧ ∀ σ, vindex (.tup [.str [45], .str [43], .str [126], .str [33]]) (.int (q % 4)) σ = some (.str s) := by
  obtain ⟨w, hw, hi⟩ := vidx_mod (preOps.map V.str) 4 rfl (by decide) (by decide) q
  obtain ⟨s, hs, rfl⟩ := List.mem_map.mp hw
  exact ⟨s, hs, hi⟩
theorem pick_name (q : Int) : ∃ s, s ∈ fnNames ∧ ∀ σ, vindex (.tup [.str [109, 97, 120], .str [102, 58, 58, 103], .str [110], .str [116, 114, 117, 101]]) (.int (q % 4)) σ = some (.str s) := by
  obtain ⟨w, hw, hi⟩ := vidx_mod (fnNames.map V.str) 4 rfl (by decide) (by decide) q
  obtain ⟨s, hs, rfl⟩ := List.mem_map.mp hw
  exact ⟨s, hs, hi⟩

noncomputable def outR (x : Option (Ctl × Rho × St)) : Option (Ctl × St) := x.map fun r => (r.1, r.2.2)
theorem outR_of {x : Option (Ctl × Rho × St)} {c : Ctl} {σ : St} (h : outR x = some (c, σ)) : ∃ ρ, x = some (c, ρ, σ) := by
  unfold outR at h
  cases x with
  | none => cases h
  | some r => obtain ⟨c', ρ, σ'⟩ := r; cases h; exact ⟨ρ, rfl⟩

theorem node_more {m l deep : Nat} (H : NodeOk (m + 2) l deep) {d k q : Int} {ds₁ : List Int} {σ₁ : St} (h : σ₁[l]? = some (.list (ds₁.map V.int))) (hl : ds₁.length ≤ 100) (hk3 : ¬ k < 3) (hk10 : k < 10) :
    ∃ (σ' : St) (v : V) (N : Tr) (ds' : List Int), outR (nodeR (fn (m + 2)) (nodeP l (deep + 1 : Nat) d k q ((deep + 1 : Nat) - 1)) σ₁) = some (.ret v, σ') ∧ GrowB l σ₁ σ' ∧ σ'[l]? = some (.list (ds'.map V.int)) ∧ NR l σ' v N ∧ cnt N + ds'.length ≤ ds₁.length + 1 := by
  have hd0 : ¬ ((deep : Int) + 1 = 0) := by omega
  have hsub : (((deep + 1 : Nat) : Int) - 1) = deep := by omega
  rw [hsub]
  obtain ⟨σ₂, v₂, N₂, ds₂, e2, g2, h2, n2, c2⟩ := H ds₁ σ₁ h hl
  obtain ⟨σ₃, v₃, N₃, ds₃, e3, g3, h3, n3, c3⟩ := H ds₂ σ₂ h2 (by omega)
  obtain ⟨σ₄, v₄, N₄, ds₄, e4, g4, h4, n4, c4⟩ := H ds₃ σ₃ h3 (by omega)
  by_cases k3 : k = 3
  · subst k3
    obtain ⟨s, hs, hi⟩ := pick_pre q
    refine ⟨σ₂, .tup [.str tUn, .str s, v₂], .un s N₂, ds₂, ?_, g2, h2, .un hs n2, by simp only [cnt]; omega⟩
    · wp_walk using outR, hd0, hi, e2
  by_cases k9 : k = 9
  · subst k9
    obtain ⟨w, hw, hi⟩ := pick_name q
    have hc0 := Int.emod_nonneg (q / 4) (b := 4) (by decide)
    have hc4 := Int.emod_lt_of_pos (q / 4) (b := 4) (by decide)
    generalize hc : q / 4 % 4 = c at hc0 hc4
    have hir : ∀ (j : Nat), c = j → iRange (dBin .Mod (dBin .FloorDiv (dVar 4) (dLit (.int 4))) (dLit (.int 4))) [some (.ref l), some (.int (deep + 1 : Nat)), some (.int d), some (.int 9), some (.int q), some (.int deep), some (.str w), none, none] σ₁ = some (.range j, σ₁) := by
      intro j hj
      have : (j : Int).natAbs ≤ 16777216 := by omega
      wp_walk using iRange, hc, hj
      omega
    have fin : ∀ {xs : List V} {σ' : St} (j : Nat), c = j → compGo (.range j) (fun v σ => fn (m + 2) .f_law_node [.ref l, .int deep] σ) 0 [] σ₁ = some (xs, σ') →
        outR (nodeR (fn (m + 2)) [some (.ref l), some (.int (deep + 1 : Nat)), some (.int d), some (.int 9), some (.int q), some (.int deep), none, none, none] σ₁) = some (.ret (.tup [.str tCall, .str w, .ref σ'.length]), σ' ++ [.list xs]) := by
      intro xs σ' j hj hg
      have hcomp : dComp (iRange (dBin .Mod (dBin .FloorDiv (dVar 4) (dLit (.int 4))) (dLit (.int 4)))) [0, 5] (dCall (fn (m + 2) .f_law_node) [dVar 0, dVar 1]) [some (.ref l), some (.int (deep + 1 : Nat)), some (.int d), some (.int 9), some (.int q), some (.int deep), some (.str w), none, none] σ₁ = some (.ref σ'.length, σ' ++ [.list xs]) := by
        exact dComp_e (hir j hj) rfl hg
      simp only [Int.natCast_add, Int.cast_ofNat_Int] at hcomp ⊢
      wp_walk using outR, hd0, hi, hcomp
    have hll : ∀ {σ' : St}, GrowB l σ₁ σ' → σ'.length ≠ l := fun {σ'} g => by have := lt_of_some h; have := g.1; omega
    have app : ∀ {σ' : St} {x : O} {ds' : List Int}, σ'[l]? = some (.list (ds'.map V.int)) → (σ' ++ [x])[l]? = some (.list (ds'.map V.int)) := fun {σ' x ds'} hh => (Grow.app _ _).get hh
    have last : ∀ {σ' : St} {x : O}, (σ' ++ [x])[σ'.length]? = some x := fun {σ' x} => List.getElem?_concat_length
    obtain rfl | rfl | rfl | rfl : c = 0 ∨ c = 1 ∨ c = 2 ∨ c = 3 := by omega
    · have e := fin (xs := []) (σ' := σ₁) 0 rfl (comp0 rfl)
      exact ⟨_, _, .call0 w, ds₁, e, (Grow.app _ _).b, app h, .call0 hw (hll (GrowB.refl _ _)) last, by simp only [cnt]; omega⟩
    · have e := fin (xs := [v₂]) (σ' := σ₂) 1 rfl (comp1 rfl e2 rfl)
      exact ⟨_, _, .call1 w N₂, ds₂, e, g2.trans (Grow.app _ _).b, app h2, .call1 hw (hll g2) last (n2.grow (Grow.app _ _)), by simp only [cnt]; omega⟩
    · have e := fin (xs := [v₂, v₃]) (σ' := σ₃) 2 rfl (comp2 rfl e2 rfl e3 rfl)
      exact ⟨_, _, .call2 w N₂ N₃, ds₃, e, (g2.trans g3).trans (Grow.app _ _).b, app h3, .call2 hw (hll (g2.trans g3)) last ((n2.mono g3).grow (Grow.app _ _)) (n3.grow (Grow.app _ _)), by simp only [cnt]; omega⟩
    · have e := fin (xs := [v₂, v₃, v₄]) (σ' := σ₄) 3 rfl (comp3 rfl e2 rfl e3 rfl e4 rfl)
      exact ⟨_, _, .call3 w N₂ N₃ N₄, ds₄, e, ((g2.trans g3).trans g4).trans (Grow.app _ _).b, app h4, .call3 hw (hll ((g2.trans g3).trans g4)) last ((n2.mono (g3.trans g4)).grow (Grow.app _ _)) ((n3.mono g4).grow (Grow.app _ _)) (n4.grow (Grow.app _ _)), by simp only [cnt]; omega⟩
  by_cases k7 : k < 7
  · obtain ⟨s, hs, hb⟩ := law_between_ok (m + 1) q σ₃
    refine ⟨σ₃, .tup [.str tBin, .str s, v₂, v₃], .bin s N₂ N₃, ds₃, ?_, g2.trans g3, h3, .bin hs (n2.mono g3) n3, by simp only [cnt]; omega⟩
    wp_walk using outR, hd0, hk3, k3, k9, k7, e2, e3, hb
  by_cases k7' : k = 7
  · subst k7'
    have a := Int.emod_nonneg q (b := 2) (by omega)
    have b := Int.emod_lt_of_pos q (b := 2) (by omega)
    obtain h0 | h1 : q % 2 = 0 ∨ q % 2 = 1 := by omega
    · refine ⟨σ₃, .tup [.str tAnd, v₂, v₃], .bin [38, 38] N₂ N₃, ds₃, ?_, g2.trans g3, h3, .and (n2.mono g3) n3, by simp only [cnt]; omega⟩
      wp_walk using outR, hd0, e2, e3, h0
    · refine ⟨σ₃, .tup [.str tOr, v₂, v₃], .bin [124, 124] N₂ N₃, ds₃, ?_, g2.trans g3, h3, .or (n2.mono g3) n3, by simp only [cnt]; omega⟩
      wp_walk using outR, hd0, e2, e3, h1
  refine ⟨σ₄, .tup [.str tIf, v₂, v₃, v₄], .ite N₂ N₃ N₄, ds₄, ?_, (g2.trans g3).trans g4, h4, .ite (n2.mono (g3.trans g4)) (n3.mono g4) n4, by simp only [cnt]; omega⟩
  wp_walk using outR, hd0, hk3, k3, k9, k7, k7', e2, e3, e4

theorem law_node_ok {l : Nat} : ∀ (deep m : Nat), deep + 3 ≤ m → NodeOk m l deep := by
  intro deep
  induction deep with
  | zero =>
    intro m hm
    obtain ⟨m, rfl⟩ : ∃ k, m = k + 3 := ⟨m - 3, by omega⟩
    refine node_step fun d k q ds₁ σ₁ h hl h0 h10 => ?_
    obtain ⟨t, v, e, hL⟩ := leaf_case (m := m) (l := l) (deep := 0) (d := d) (k := k) (q := q) (σ := σ₁) (.inl rfl)
    exact ⟨σ₁, _, .leaf t v, ds₁, _, e, GrowB.refl _ _, h, .leaf hL, by simp only [cnt]; omega⟩
  | succ deep ih =>
    intro m hm
    obtain ⟨m, rfl⟩ : ∃ k, m = k + 3 := ⟨m - 3, by omega⟩
    refine node_step fun d k q ds₁ σ₁ h hl h0 h10 => ?_
    by_cases hk : k < 3
    · obtain ⟨t, v, e, hL⟩ := leaf_case (m := m) (l := l) (deep := deep + 1) (d := d) (k := k) (q := q) (σ := σ₁) (.inr hk)
      exact ⟨σ₁, _, .leaf t v, ds₁, _, e, GrowB.refl _ _, h, .leaf hL, by simp only [cnt]; omega⟩
    · rw [if_neg hk]
      obtain ⟨σ', v, N, ds', e, r⟩ := node_more (ih (m + 2) (by omega)) h hl hk h10 (d := d) (q := q)
      obtain ⟨ρ', e⟩ := outR_of e
      exact ⟨σ', v, N, ds', ρ', e, r⟩
set_option maxHeartbeats 200000

theorem comp_range {n : Nat} {elt : V → St → Option (V × St)} {σ : St} (f : Nat → V) (hn : n ≤ 100000) (h : ∀ i, i < n → elt (.int i) σ = some (f i, σ)) : compGo (.range n) elt 0 [] σ = some ((List.range n).map f, σ) := by
  have key : ∀ (c i : Nat), i + c = n → compGo (.range n) elt i ((List.range i).map f) σ = some ((List.range n).map f, σ) := by
    intro c
    induction c with
    | zero =>
      intro i hi
      have : i = n := by omega
      subst this
      exact comp_done (by simp [dNext])
    | succ c ih =>
      intro i hi
      refine (comp_step (v := .int i) (y := f i) (σ₁ := σ) (by simp [dNext]; omega) (h i (by omega)) (by simp; omega)).trans ?_
      have e : (List.range i).map f ++ [f i] = (List.range (i + 1)).map f := by rw [List.range_succ]; simp
      rw [e]
      exact ih (i + 1) (by omega)
  have := key n 0 (by omega)
  simpa using this
theorem i_list {σ : St} {l k : Nat} {ws : List V} {v : V} (h : σ[l]? = some (.list ws)) (hk : k < 1000000) (hv : ws[k]? = some v) : vindex (.ref l) (.int k) σ = some v := i_ref h hk hv
theorem addL {σ : St} {ρ : Rho} {a : Nat} {xs ys : List V} {as : List DE} (h0 : ρ[1]? = some (some (.ref a))) (h : σ[a]? = some (.list xs)) (h2 : dEs as ρ σ = some (ys, σ)) (hl : xs.length + ys.length ≤ 1000) :
    dBin .Add (dVar 1) (dList as) ρ σ = some (.ref (σ ++ [O.list ys]).length, σ ++ [.list ys] ++ [.list (xs ++ ys)]) := by
  have hadd := b_addl (σ := σ ++ [O.list ys]) ((Grow.app σ [O.list ys]).get h) (List.getElem?_concat_length) (by omega)
  simp [dBin, dVar, h0, dList, h2]
  simpa using hadd

noncomputable def A1 : List Int := [9, 173, 2]
noncomputable def A2 : List Int := [8, 7, 124, 55, 3, 2100, 55, 2, 9310, 15, 1, 15, 2420, 0, 33, 196, 21, 11]
noncomputable def A3 : List Int := [26, 4, 12, 8, 300, 600, 0, 89, 17, 22, 31, 900, 32]
theorem law_draws_ok (n : Nat) {s : Nat} {σ : St} {zs : List Int} (h : σ[s]? = some (.list (zs.map V.int))) (hz : zs.length ≤ 63) : ∃ (r : Nat) (σ' : St) (ds : List Int), fn (n + 1) .f_law_draws [.ref s] σ = some (.ref r, σ') ∧ σ'[r]? = some (.list (ds.map V.int)) ∧ ds.length = 34 ∧ Grow σ σ' := by
  rw [fn_succ]
  let σ₁ : St := σ ++ [.list (A1.map V.int)]
  let σ₂ : St := σ₁ ++ [.list (A2.map V.int)] ++ [.list (A1.map V.int ++ A2.map V.int)]
  let σ₃ : St := σ₂ ++ [.list (A3.map V.int)] ++ [.list (A1.map V.int ++ A2.map V.int ++ A3.map V.int)]
  have g : Grow σ σ₃ := (Grow.app _ _).trans (((Grow.app _ _).trans (Grow.app _ _)).trans ((Grow.app _ _).trans (Grow.app _ _)))
  let b : Nat := (σ₁ ++ [O.list (A2.map V.int)]).length
  let c : Nat := (σ₂ ++ [O.list (A3.map V.int)]).length
  let rows : List Int := A1 ++ A2 ++ A3
  have hrows : A1.map V.int ++ A2.map V.int ++ A3.map V.int = rows.map V.int := by simp [rows]
  have s1 : sSet 1 (dList [dLit (.int 9), dLit (.int 173), dLit (.int 2)]) [some (.ref s), none] σ = some (.next, [some (.ref s), some (.ref σ.length)], σ₁) := rfl
  have s2 : sSet 1 (dBin .Add (dVar 1) (dList [dLit (.int 8), dLit (.int 7), dLit (.int 124), dLit (.int 55), dLit (.int 3), dLit (.int 2100), dLit (.int 55), dLit (.int 2), dLit (.int 9310), dLit (.int 15), dLit (.int 1), dLit (.int 15), dLit (.int 2420), dLit (.int 0), dLit (.int 33), dLit (.int 196), dLit (.int 21), dLit (.int 11)])) [some (.ref s), some (.ref σ.length)] σ₁ = some (.next, [some (.ref s), some (.ref b)], σ₂) := by
    unfold sSet
    rw [addL (xs := A1.map V.int) (ys := A2.map V.int) rfl (List.getElem?_concat_length) rfl (by decide)]
    rfl
  have s3 : sSet 1 (dBin .Add (dVar 1) (dList [dLit (.int 26), dLit (.int 4), dLit (.int 12), dLit (.int 8), dLit (.int 300), dLit (.int 600), dLit (.int 0), dLit (.int 89), dLit (.int 17), dLit (.int 22), dLit (.int 31), dLit (.int 900), dLit (.int 32)])) [some (.ref s), some (.ref b)] σ₂ = some (.next, [some (.ref s), some (.ref c)], σ₃) := by
    unfold sSet
    rw [addL (xs := A1.map V.int ++ A2.map V.int) (ys := A3.map V.int) rfl (List.getElem?_concat_length) rfl (by decide)]
    rfl
  have h3 : σ₃[s]? = some (.list (zs.map V.int)) := g.get h
  have hc : σ₃[c]? = some (.list (rows.map V.int)) := by rw [← hrows]; exact List.getElem?_concat_length
  have hlen : rows.length = 34 := rfl
  generalize rows = rows at hc hlen
  clear hrows
  have hb1 : vlen (.ref c) σ₃ = some (.int 34) := by have := len_ref hc (by simp [hlen]); simpa [hlen] using this
  have hb0 : vlen (.ref s) σ₃ = some (.int zs.length) := by have := len_ref h3 (by simp; omega); simpa using this
  let f : Nat → Int := fun k => (rows[k]?).getD 0 + (zs[k]?).getD 0
  have hgo : compGo (.range 34) (fun v σ => dBin .Add (dIndex (dVar 0) (dVar 2)) (dIf (tCmp .Lt (dVar 2) (dCall bLen [dVar 1])) (dIndex (dVar 1) (dVar 2)) (dLit (.int 0))) (capsOf [1, 0] [some (.ref s), some (.ref c)] ++ [some v]) σ) 0 [] σ₃ = some ((List.range 34).map fun k => V.int (f k), σ₃) := by
    refine comp_range (fun k => V.int (f k)) (by decide) fun i hi => ?_
    have hr : (rows.map V.int)[i]? = some (.int ((rows[i]?).getD 0)) := by
      rw [List.getElem?_map, List.getElem?_eq_getElem (by omega)]; rfl
    have hri := i_list hc (by omega) hr
    by_cases hlt : i < zs.length
    · have hz' : (zs.map V.int)[i]? = some (.int ((zs[i]?).getD 0)) := by rw [List.getElem?_map, List.getElem?_eq_getElem hlt]; rfl
      have hzi := i_list h3 (by omega) hz'
      have hlt' : (i : Int) < zs.length := by omega
      wp_walk using capsOf, hri, hb0, hlt, hzi, f
    · have hlt' : ¬ (i : Int) < zs.length := by omega
      have hn : zs[i]? = none := List.getElem?_eq_none (by omega)
      wp_walk using capsOf, hri, hb0, hlt, f, hn
  have hcomp : dComp (iRange (dCall bLen [dVar 1])) [1, 0] (dBin .Add (dIndex (dVar 0) (dVar 2)) (dIf (tCmp .Lt (dVar 2) (dCall bLen [dVar 1])) (dIndex (dVar 1) (dVar 2)) (dLit (.int 0)))) [some (.ref s), some (.ref c)] σ₃ = some (.ref σ₃.length, σ₃ ++ [.list ((List.range 34).map fun k => V.int (f k))]) := by
    have hi : iRange (dCall bLen [dVar 1]) [some (.ref s), some (.ref c)] σ₃ = some (.range 34, σ₃) := by
      wp_walk using iRange, hb1
    exact dComp_e hi rfl hgo
  have hrev : dRev (dComp (iRange (dCall bLen [dVar 1])) [1, 0] (dBin .Add (dIndex (dVar 0) (dVar 2)) (dIf (tCmp .Lt (dVar 2) (dCall bLen [dVar 1])) (dIndex (dVar 1) (dVar 2)) (dLit (.int 0))))) [some (.ref s), some (.ref c)] σ₃ = some (.ref (σ₃ ++ [O.list ((List.range 34).map fun k => V.int (f k))]).length, σ₃ ++ [.list ((List.range 34).map fun k => V.int (f k))] ++ [.list ((List.range 34).map fun k => V.int (f k)).reverse]) := by
    unfold dRev
    rw [hcomp]
    simp only [List.getElem?_concat_length, asRef_e, lst_e, asList_e, Option.bind_some]
    rw [if_pos (by simp)]
  refine ⟨(σ₃ ++ [O.list ((List.range 34).map fun k => V.int (f k))]).length, σ₃ ++ [.list ((List.range 34).map fun k => V.int (f k))] ++ [.list ((List.range 34).map fun k => V.int (f k)).reverse], ((List.range 34).map f).reverse, ?_, ?_, by simp, g.trans ((Grow.app _ _).trans (Grow.app _ _))⟩
  · have all : b_f_law_draws (fn n) [some (.ref s), none] σ = some (.ret (.ref (σ₃ ++ [O.list ((List.range 34).map fun k => V.int (f k))]).length), [some (.ref s), some (.ref c)], σ₃ ++ [.list ((List.range 34).map fun k => V.int (f k))] ++ [.list ((List.range 34).map fun k => V.int (f k)).reverse]) := by
      unfold b_f_law_draws
      refine (seq_next s1).trans ((seq_next s2).trans ((seq_next s3).trans ?_))
      rw [sRet_e, hrev, oRet_s]
    show oFn (b_f_law_draws (fn n) [some (.ref s), none] σ) = _
    rw [all, oFn_r]
  · rw [List.getElem?_concat_length, List.map_reverse, List.map_map]; rfl
set_option maxHeartbeats 4000000

theorem pop_eval {ρ : Rho} {σ : St} {r : Nat} {ds : List Int} {d : Int} (h0 : ρ[1]? = some (some (.ref r))) (h : σ[r]? = some (.list ((ds ++ [d]).map V.int))) (hl : ds.length ≤ 1000) :
    ∃ σ' : St, dMeth kList bPop (dVar 1) [] ρ σ = some (.int d, σ') ∧ σ'[r]? = some (.list (ds.map V.int)) := by
  have e : (ds ++ [d]).map V.int = ds.map V.int ++ [.int d] := by simp
  rw [e] at h
  have hp := pop_ok h (by simpa using hl)
  refine ⟨σ.set r (.list (ds.map V.int)), ?_, List.getElem?_set_self (lt_of_some h)⟩
  rw [dMeth_e, dVar_h h0, oMe1_s, if_pos (by simp [h]), es0, oMe2_s, hp]
theorem dict_ok {j : Nat} {E : DE} {ρ : Rho} {σ : St} {e : Int} (hE : ∀ σ, E ρ σ = some (.int e, σ)) :
    ∃ σ' : St, sSet j (dDict [kTok, kPrs, kExt] [dList [], dList [], E]) ρ σ = some (.next, ρ.set j (some (.ref (σ.length + 2))), σ') ∧ Out (σ.length + 2) σ.length (σ.length + 1) σ' [] [] e ∧ Grow σ σ' := by
  refine ⟨σ ++ [.list [], .list [], .dict [(kTok, .ref σ.length), (kPrs, .ref (σ.length + 1)), (kExt, .int e)]], ?_, ⟨by simp, by simp, by simp, by omega⟩, Grow.app _ _⟩
  have hL : ∀ ρ σ, dList [] ρ σ = some (.ref σ.length, σ ++ [.list []]) := fun _ _ => rfl
  wp_walk using dDict, hL, hE
theorem told_eval {n : Nat} {D G : DE} {ρ : Rho} {σ σ' : St} {r : Nat} {g : Int} {items : List (Option Tk)} {w : V} (hD : D ρ σ = some (.ref r, σ)) (hG : G ρ σ = some (.int g, σ)) (hr : σ[r]? = some (.list (items.map fun it => V.str (itS it)))) (hf : ∀ t ∈ items.filterMap id, TkF t) (hl : items.length ≤ 1000)
    (hp : fn (n + 1) .f_parse_expr [.str (sf (gfOf g) 0 false items)] σ = some (w, σ')) : dCall (fn (n + 2) .f_law_told) [dCall (fn (n + 2) .f_law_joined) [D, G]] ρ σ = some (w, σ') := by
  have hj := law_joined_ok n hf hl hr g
  have ht := law_told_ok (n + 1) _ hp
  wp_walk using hD, hG, hj, ht
theorem ne_same {t : V} {σ : St} (ht : ∃ k r, t = .tup (.str k :: r)) (hp : t.pure = true) (hd : t.deep ≤ 91) : vcmp .NotEq t t σ = some false := by
  obtain ⟨k, r, rfl⟩ := ht
  simp only [V.pure] at hp
  simp only [V.deep] at hd
  refine (if_pos (by simp [hp]; omega)).trans ?_
  have : V.beqs (.str k :: r) (.str k :: r) = true := V.beqs_iff.mpr rfl
  rw [this]; rfl
theorem ne_diff {w t : V} {σ : St} (hw : ∃ k r, w = .tup (.str k :: r)) (ht : ∃ k r, t = .tup (.str k :: r)) (hpw : w.pure = true) (hp : t.pure = true) (hd : t.deep ≤ 91) (hne : w ≠ t) : vcmp .NotEq w t σ = some true := by
  obtain ⟨k, r, rfl⟩ := ht
  obtain ⟨k', r', rfl⟩ := hw
  simp only [V.pure] at hp hpw
  simp only [V.deep] at hd
  refine (if_pos (by simp [hp, hpw]; omega)).trans ?_
  have : V.beqs (.str k' :: r') (.str k :: r) = false := by
    cases h : V.beqs (.str k' :: r') (.str k :: r) with
    | false => rfl
    | true => exact absurd (congrArg V.tup (V.beqs_iff.mp h)) hne
  rw [this]; rfl
theorem tV_items (ts : List Tk) : tV ts = (ts.map some).map fun it => V.str (itS it) := by
  unfold tV; rw [List.map_map]; rfl

noncomputable def cutI (i j : Nat) (ts : List Tk) : List (Option Tk) := (List.range ts.length).map fun k => if k = i ∨ k = j then none else ts[k]?
theorem cutI_len (i j : Nat) (ts : List Tk) : (cutI i j ts).length = ts.length := by simp [cutI]
theorem cutI_at {q : Nat × Nat} {ts us : List Tk} (h : At q ts us) : (cutI q.1 q.2 ts).filterMap id = us := by
  obtain ⟨A, B, C, rfl, rfl, rfl⟩ := h
  have e : cutI A.length (A.length + 1 + B.length) (A ++ lpT :: (B ++ rpT :: C)) = A.map some ++ none :: (B.map some ++ none :: C.map some) := by
    apply List.ext_getElem?
    intro k
    unfold cutI
    rw [List.getElem?_map]
    by_cases hk : k < (A ++ lpT :: (B ++ rpT :: C)).length
    · rw [List.getElem?_range hk, Option.map_some]
      simp at hk
      by_cases h1 : k < A.length
      · rw [if_neg (by omega), List.getElem?_append_left h1, List.getElem?_append_left (by simpa using h1), List.getElem?_map, List.getElem?_eq_getElem h1]; rfl
      · rw [List.getElem?_append_right (l₁ := A.map some) (by simpa using h1), List.length_map]
        by_cases h2 : k = A.length
        · subst h2; rw [if_pos (.inl rfl)]; simp
        · obtain ⟨m, rfl⟩ : ∃ m, k = A.length + (m + 1) := Nat.exists_eq_add_of_lt (Nat.lt_of_le_of_ne (Nat.not_lt.mp h1) (Ne.symm h2))
          have e1 : A.length + (m + 1) - A.length = m + 1 := by omega
          rw [e1, List.getElem?_cons_succ]
          rw [List.getElem?_append_right (by omega), e1, List.getElem?_cons_succ]
          by_cases h3 : m < B.length
          · rw [if_neg (by omega), List.getElem?_append_left h3, List.getElem?_append_left (by simpa using h3), List.getElem?_map, List.getElem?_eq_getElem h3]; rfl
          · rw [List.getElem?_append_right (l₁ := B.map some) (by simpa using h3), List.length_map]
            by_cases h4 : m = B.length
            · subst h4; rw [if_pos (.inr (by omega))]; simp
            · obtain ⟨p, rfl⟩ : ∃ p, m = B.length + (p + 1) := ⟨m - B.length - 1, by omega⟩
              have e2 : B.length + (p + 1) - B.length = p + 1 := by omega
              rw [if_neg (by omega), List.getElem?_append_right (by omega), e2, List.getElem?_cons_succ, List.getElem?_cons_succ, List.getElem?_map, List.getElem?_eq_getElem (by omega)]; rfl
    · rw [List.getElem?_eq_none (by simpa using hk), List.getElem?_eq_none (by simp at hk ⊢; omega)]; rfl
  rw [e]
  simp [List.filterMap_append, filterMap_some]

theorem gpair {p : Prs} {σ : St} {l : Nat} {q : Int} (h : σ[l]? = some (.list (pV p))) (hp : p ≠ []) (hl : p.length ≤ 1000) : ∃ x ∈ p, vindex (.ref l) (.int (q % (p.length : Int))) σ = some (.tup [.int x.1, .int x.2]) := by
  have h0 : 0 < p.length := List.length_pos_iff.mpr hp
  have a := Int.emod_nonneg q (b := (p.length : Int)) (by omega)
  have b := Int.emod_lt_of_pos q (b := (p.length : Int)) (by omega)
  generalize q % (p.length : Int) = z at a b
  obtain ⟨k, rfl⟩ : ∃ k : Nat, z = k := ⟨z.toNat, by omega⟩
  have hk : k < p.length := by omega
  refine ⟨p[k], List.getElem_mem _, ?_⟩
  refine i_list h (by omega) ?_
  simp [pV, List.getElem?_eq_getElem hk]

noncomputable abbrev R (a b c d e f g h i j k m : Option V) : Rho := [a, b, c, d, e, f, g, h, i, j, k, m]

theorem law_ok {s : Nat} {σ : St} {zs : List Int} (h : σ[s]? = some (.ro (zs.map V.int))) (hz : zs.length ≤ 1000000) (n : Nat) (hn : 430 ≤ n) :
    ∃ ρ' σ', b_law (fn n) (R (some (.ref s)) none none none none none none none none none none none) σ = some (.ret (.bool true), ρ', σ') := by
  obtain ⟨n, rfl⟩ : ∃ k, n = k + 2 := ⟨n - 2, by omega⟩
  -- the script
  let σ₁ : St := σ ++ [.list ((zs.take 63).map V.int)]
  have h1 : σ₁[σ.length]? = some (.list ((zs.take 63).map V.int)) := List.getElem?_concat_length
  have s1 : sSet 0 (dSlice (dVar 0) none (some (dLit (.int 63)))) (R (some (.ref s)) none none none none none none none none none none none) σ = some (.next, R (some (.ref σ.length)) none none none none none none none none none none none, σ₁) := by
    have : vslice (.ref s) none (some 63) σ = some (.ref σ.length, σ₁) := by
      have hs := List.map_take (f := V.int) (l := zs) (i := 63)
      refine Eq.trans (b := (σ[s]?).bind _) rfl ?_
      rw [h]
      refine (if_pos (by simp; omega)).trans ?_
      show some (V.ref σ.length, σ ++ [O.list ((zs.map V.int).take 63)]) = _
      rw [← hs]
    wp_walk using this
  -- the draws
  obtain ⟨r, σ₂, ds, e2, h2, hds, g2⟩ := law_draws_ok (n + 1) h1 (by simp; omega)
  have s2 : sSet 1 (dCall (fn (n + 2) .f_law_draws) [dVar 0]) (R (some (.ref σ.length)) none none none none none none none none none none none) σ₁ = some (.next, R (some (.ref σ.length)) (some (.ref r)) none none none none none none none none none none, σ₂) := by
    wp_walk using e2
  obtain ⟨ds₀, a, b, c, rfl, hd0⟩ : ∃ ds₀ a b c, ds = ds₀ ++ [c] ++ [b] ++ [a] ∧ ds₀.length = 31 := by
    rcases List.eq_nil_or_concat ds with rfl | ⟨ds, a, rfl⟩
    · cases hds
    rw [List.concat_eq_append] at hds
    rcases List.eq_nil_or_concat ds with rfl | ⟨ds, b, rfl⟩
    · cases hds
    rw [List.concat_eq_append] at hds
    rcases List.eq_nil_or_concat ds with rfl | ⟨ds, c, rfl⟩
    · cases hds
    simp at hds
    exact ⟨ds, a, b, c, by simp, hds⟩
  obtain ⟨σa, pa, ha⟩ := pop_eval (ρ := R (some (.ref σ.length)) (some (.ref r)) none none none none none none none none none none) rfl h2 (by simp; omega)
  obtain ⟨σb, pb, hb⟩ := pop_eval (ρ := R (some (.ref σ.length)) (some (.ref r)) none none none none none none none none none none) rfl ha (by simp; omega)
  obtain ⟨σ₃, pc, h3⟩ := pop_eval (ρ := R (some (.ref σ.length)) (some (.ref r)) none none none none none none none none none none) rfl hb (by omega)
  have s3 : sSetT [2, 3, 4] (dTup [dBin .Mod (dMeth kList bPop (dVar 1) []) (dBin .Pow (dLit (.int 2)) (dLit (.int 31))), dBin .Mod (dMeth kList bPop (dVar 1) []) (dBin .Pow (dLit (.int 9)) (dLit (.int 8))), dMeth kList bPop (dVar 1) []]) (R (some (.ref σ.length)) (some (.ref r)) none none none none none none none none none none) σ₂ = some (.next, R (some (.ref σ.length)) (some (.ref r)) (some (.int (a % 2147483648))) (some (.int (b % 43046721))) (some (.int c)) none none none none none none none, σ₃) := by
    have p31 : ∀ ρ σ, dBin .Pow (dLit (.int 2)) (dLit (.int 31)) ρ σ = some (.int 2147483648, σ) := fun _ _ => rfl
    have p98 : ∀ ρ σ, dBin .Pow (dLit (.int 9)) (dLit (.int 8)) ρ σ = some (.int 43046721, σ) := fun _ _ => rfl
    have ea : dBin .Mod (dMeth kList bPop (dVar 1) []) (dBin .Pow (dLit (.int 2)) (dLit (.int 31))) (R (some (.ref σ.length)) (some (.ref r)) none none none none none none none none none none) σ₂ = some (.int (a % 2147483648), σa) := by
      rw [dBin_e, pa, oBi1_s, p31, oBi2_s]
      exact b_mod _ _ _ (by decide)
    have eb : dBin .Mod (dMeth kList bPop (dVar 1) []) (dBin .Pow (dLit (.int 9)) (dLit (.int 8))) (R (some (.ref σ.length)) (some (.ref r)) none none none none none none none none none none) σa = some (.int (b % 43046721), σb) := by
      rw [dBin_e, pb, oBi1_s, p98, oBi2_s]
      exact b_mod _ _ _ (by decide)
    rw [sSetT_e, dTup_e, es1, ea, oEs_s, es1, eb, oEs_s, es1, pc, oEs_s, es0]
    rfl
  generalize a % 2147483648 = ext at s3
  generalize b % 43046721 = gaps at s3
  -- the node
  obtain ⟨σ₄, v, N, ds', e4, g4, h4, n4, c4⟩ := law_node_ok 5 (n + 2) (by omega) ds₀ σ₃ h3 (by omega)
  have hN : cnt N ≤ 31 := by omega
  have s4 : sSet 5 (dCall (fn (n + 2) .f_law_node) [dVar 1, dLit (.int 5)]) (R (some (.ref σ.length)) (some (.ref r)) (some (.int ext)) (some (.int gaps)) (some (.int c)) none none none none none none none) σ₃ = some (.next, R (some (.ref σ.length)) (some (.ref r)) (some (.int ext)) (some (.int gaps)) (some (.int c)) (some v) none none none none none none, σ₄) := by
    have e4 : fn (n + 2) .f_law_node [.ref r, .int 5] σ₃ = some (v, σ₄) := e4
    wp_walk using e4
  -- the tree
  obtain ⟨σ₅, e5, g5⟩ := law_tree_ok N v σ₄ n4 (n + 2) (by omega)
  have n5 := n4.grow g5
  have ok := n5.ok
  have hpu := ok.pure
  have hde : V.deep (tree N) ≤ 91 := by have := ok.deep; omega
  have htp := ok.isTup
  have s5 : sSet 6 (dCall (fn (n + 2) .f_law_tree) [dVar 5]) (R (some (.ref σ.length)) (some (.ref r)) (some (.int ext)) (some (.int gaps)) (some (.int c)) (some v) none none none none none none) σ₄ = some (.next, R (some (.ref σ.length)) (some (.ref r)) (some (.int ext)) (some (.int gaps)) (some (.int c)) (some v) (some (tree N)) none none none none none, σ₅) := by
    wp_walk using e5
  -- most
  obtain ⟨σ₆, s6, o6, g6⟩ := dict_ok (j := 7) (E := dVar 2) (ρ := R (some (.ref σ.length)) (some (.ref r)) (some (.int ext)) (some (.int gaps)) (some (.int c)) (some v) (some (tree N)) none none none none none) (σ := σ₅) (e := ext) (fun _ => rfl)
  obtain ⟨σ₇, x7, ts, p, e7, q7, o7, _, w7⟩ := law_put_ok (l := r) (o := σ₅.length + 2) (T := σ₅.length) (P := σ₅.length + 1) (σ₀ := σ₅) (z := false) (by omega) (by omega) (by omega) 31 (n + 2) N hN (by omega) v 1 σ₆ [] [] ext n5 g6 o6 (fun z => by cases z) (by simp; omega) (by simp; omega)
  have g7 := q7.old g6 (by omega) (by omega) (by omega)
  have s7 : sExpr (dCall (fn (n + 2) .f_law_put) [dVar 7, dVar 5, dLit (.int 1)]) (R (some (.ref σ.length)) (some (.ref r)) (some (.int ext)) (some (.int gaps)) (some (.int c)) (some v) (some (tree N)) (some (.ref (σ₅.length + 2))) none none none none) σ₆ = some (.next, R (some (.ref σ.length)) (some (.ref r)) (some (.int ext)) (some (.int gaps)) (some (.int c)) (some v) (some (tree N)) (some (.ref (σ₅.length + 2))) none none none none, σ₇) := by
    wp_walk using e7
  -- least
  obtain ⟨σ₈, s8, o8, g8⟩ := dict_ok (j := 8) (E := dLit (.int 0)) (ρ := R (some (.ref σ.length)) (some (.ref r)) (some (.int ext)) (some (.int gaps)) (some (.int c)) (some v) (some (tree N)) (some (.ref (σ₅.length + 2))) none none none none) (σ := σ₇) (e := 0) (fun _ => rfl)
  obtain ⟨σ₉, x9, us, q, e9, q9, o9, _, w9⟩ := law_put_ok (l := r) (o := σ₇.length + 2) (T := σ₇.length) (P := σ₇.length + 1) (σ₀ := σ₇) (z := true) (by omega) (by omega) (by omega) 31 (n + 2) N hN (by omega) v 1 σ₈ [] [] 0 (n5.grow g7) g8 o8 (fun _ => rfl) (by simp; omega) (by simp; omega)
  have g9 := q9.old g8 (by omega) (by omega) (by omega)
  have s9 : sExpr (dCall (fn (n + 2) .f_law_put) [dVar 8, dVar 5, dLit (.int 1)]) (R (some (.ref σ.length)) (some (.ref r)) (some (.int ext)) (some (.int gaps)) (some (.int c)) (some v) (some (tree N)) (some (.ref (σ₅.length + 2))) (some (.ref (σ₇.length + 2))) none none none) σ₈ = some (.next, R (some (.ref σ.length)) (some (.ref r)) (some (.int ext)) (some (.int gaps)) (some (.int c)) (some v) (some (tree N)) (some (.ref (σ₅.length + 2))) (some (.ref (σ₇.length + 2))) none none none, σ₉) := by
    wp_walk using e9
  rw [List.nil_append] at o7 o9
  simp only [List.length_nil, List.nil_append, sh0] at o7 o9
  rw [tV_items] at o7
  have l7 := W.len w7
  have l9 := W.len w9
  simp only at l7 l9
  have f7 : ∀ t ∈ (ts.map some).filterMap id, TkF t := fun t ht => (w7.g (show PGOk (.n N 1) from ok) t (by rw [filterMap_some] at ht; exact ht)).f
  have f9 : ∀ t ∈ (us.map some).filterMap id, TkF t := fun t ht => (w9.g (show PGOk (.n N 1) from ok) t (by rw [filterMap_some] at ht; exact ht)).f
  -- the two texts
  have o79 := o7.grow g9
  obtain ⟨σ₁₀, e10, g10⟩ := same_read ok hN w7 (gfOf gaps) (n + 1) (by omega) σ₉
  obtain ⟨σ₁₁, e11, g11⟩ := same_read ok hN w9 (gfOf (gaps / 9)) (n + 1) (by omega) σ₁₀
  have o910 := o9.grow g10
  let ρ₉ : Rho := R (some (.ref σ.length)) (some (.ref r)) (some (.int ext)) (some (.int gaps)) (some (.int c)) (some v) (some (tree N)) (some (.ref (σ₅.length + 2))) (some (.ref (σ₇.length + 2))) none none none
  have s10 : sIf (tOrs [tCmp .NotEq (dCall (fn (n + 2) .f_law_told) [dCall (fn (n + 2) .f_law_joined) [dIndex (dVar 7) (dLit (.str kTok)), dVar 3]]) (dVar 6), tCmp .NotEq (dCall (fn (n + 2) .f_law_told) [dCall (fn (n + 2) .f_law_joined) [dIndex (dVar 8) (dLit (.str kTok)), dBin .FloorDiv (dVar 3) (dLit (.int 9))]]) (dVar 6)]) (sRet (dLit (.bool false))) (sNil) ρ₉ σ₉ = some (.next, ρ₉, σ₁₁) := by
    have t1 := told_eval (D := dIndex (dVar 7) (dLit (.str kTok))) (G := dVar 3) (ρ := ρ₉) (r := σ₅.length) (by have := o79.iT; wp_walk using this, ρ₉) rfl o79.t f7 (by simp; omega) e10
    have t2 := told_eval (D := dIndex (dVar 8) (dLit (.str kTok))) (G := dBin .FloorDiv (dVar 3) (dLit (.int 9))) (ρ := ρ₉) (r := σ₇.length) (by have := o910.iT; wp_walk using this, ρ₉) (by wp_walk using ρ₉) (by rw [← tV_items]; exact o910.t) f9 (by simp; omega) e11
    have v6 : ∀ σ, dVar 6 ρ₉ σ = some (tree N, σ) := fun _ => rfl
    have ne := fun σ => ne_same (σ := σ) htp hpu hde
    have c1 : tCmp .NotEq (dCall (fn (n + 2) .f_law_told) [dCall (fn (n + 2) .f_law_joined) [dIndex (dVar 7) (dLit (.str kTok)), dVar 3]]) (dVar 6) ρ₉ σ₉ = some (false, σ₁₀) := by
      rw [tCmp_e, t1, oCm1_s, v6, oCm2_s, ne, oAtB_s]
    have c2 : tCmp .NotEq (dCall (fn (n + 2) .f_law_told) [dCall (fn (n + 2) .f_law_joined) [dIndex (dVar 8) (dLit (.str kTok)), dBin .FloorDiv (dVar 3) (dLit (.int 9))]]) (dVar 6) ρ₉ σ₁₀ = some (false, σ₁₁) := by
      rw [tCmp_e, t2, oCm1_s, v6, oCm2_s, ne, oAtB_s]
    rw [sIf_e, ors1, c1, oOs_f, ors1, c2, oOs_f, ors0, oIf_f, sNil_e]
  have o11 := o910.grow g11
  have ip := o11.iP
  have it := o11.iT
  -- no pair
  have hlist : ∀ ρ σ, dList [] ρ σ = some (.ref σ.length, σ ++ [.list []]) := fun _ _ => rfl
  have o11' := o11.grow (Grow.app σ₁₁ [O.list []])
  have ce := c_eqL o11'.p (List.getElem?_concat_length (l := σ₁₁) (a := O.list []))
  have c11 : tCmp .Eq (dIndex (dVar 8) (dLit (.str kPrs))) (dList []) ρ₉ σ₁₁ = some ((pV q).isEmpty, σ₁₁ ++ [.list []]) := by
    have : dIndex (dVar 8) (dLit (.str kPrs)) ρ₉ σ₁₁ = some (.ref (σ₇.length + 1), σ₁₁) := by wp_walk using ip, ρ₉
    rw [tCmp_e, this, oCm1_s, hlist, oCm2_s, ce, oAtB_s]
  unfold b_law
  by_cases hq : q = []
  · subst hq
    refine ⟨ρ₉, σ₁₁ ++ [.list []], ?_⟩
    refine (seq_next s1).trans ((seq_next s2).trans ((seq_next s3).trans ((seq_next s4).trans ((seq_next s5).trans ((seq_next s6).trans ((seq_next s7).trans ((seq_next s8).trans ((seq_next s9).trans ((seq_next s10).trans ?_)))))))))
    have : sIf (tCmp .Eq (dIndex (dVar 8) (dLit (.str kPrs))) (dList [])) (sRet (dLit (.bool true))) (sNil) ρ₉ σ₁₁ = some (.ret (.bool true), ρ₉, σ₁₁ ++ [.list []]) := by
      rw [sIf_e, c11]
      rfl
    rw [sSeq_e, this, oSeq_r]
  · -- one pair
    let σ₁₂ : St := σ₁₁ ++ [.list []]
    have s11 : sIf (tCmp .Eq (dIndex (dVar 8) (dLit (.str kPrs))) (dList [])) (sRet (dLit (.bool true))) (sNil) ρ₉ σ₁₁ = some (.next, ρ₉, σ₁₂) := by
      have he : (pV q).isEmpty = false := by cases q with | nil => exact absurd rfl hq | cons => rfl
      rw [sIf_e, c11, he]
      rfl
    have ip2 := o11'.iP
    have it2 := o11'.iT
    have lp2 := len_ref o11'.p (by simp [pV]; omega)
    have hpl : (pV q).length = q.length := by simp [pV]
    rw [hpl] at lp2
    obtain ⟨x, hx, hxi⟩ := gpair (q := c) o11'.p hq (by omega)
    have hq0 : 0 < (q.length : Int) := by have := List.length_pos_iff.mpr hq; omega
    let ρ₁₂ : Rho := R (some (.ref σ.length)) (some (.ref r)) (some (.int ext)) (some (.int gaps)) (some (.int c)) (some v) (some (tree N)) (some (.ref (σ₅.length + 2))) (some (.ref (σ₇.length + 2))) (some (.tup [.int x.1, .int x.2])) none none
    have s12 : sSet 9 (dIndex (dIndex (dVar 8) (dLit (.str kPrs))) (dBin .Mod (dVar 4) (dCall bLen [dIndex (dVar 8) (dLit (.str kPrs))]))) ρ₉ σ₁₂ = some (.next, ρ₁₂, σ₁₂) := by
      have hm := b_mod σ₁₂ c q.length hq0
      wp_walk using ip2, lp2, hm, hxi, ρ₉, ρ₁₂, σ₁₂
    -- the tokens without it
    obtain ⟨ws, hA, hC⟩ := (good ok w9).cut rfl x hx
    have hT := o11'.t
    have lt2 := len_ref hT (by simp [tV]; omega)
    have htl : (tV us).length = us.length := by simp [tV]
    rw [htl] at lt2
    have hgo : compGo (.range us.length) (fun v σ => dIf (tCmp .In (dVar 2) (dVar 0)) (dLit (.str [32])) (dIndex (dIndex (dVar 1) (dLit (.str kTok))) (dVar 2)) (capsOf [9, 8] ρ₁₂ ++ [some v]) σ) 0 [] σ₁₂ = some ((List.range us.length).map fun k => V.str (itS (if k = x.1 ∨ k = x.2 then none else us[k]?)), σ₁₂) := by
      refine comp_range _ (by omega) fun i hi => ?_
      have hui : (tV us)[i]? = some (.str (us[i]).s) := by simp [tV, List.getElem?_eq_getElem hi]
      have hti := i_list hT (by omega) hui
      have hin : ∀ σ, vcmp .In (.int (i : Nat)) (.tup [.int x.1, .int x.2]) σ = some (decide (i = x.1 ∨ i = x.2)) := by
        intro σ
        show some (([(x.1 : Int), (x.2 : Int)]).any (· == (i : Int))) = _
        simp only [List.any_cons, List.any_nil, Bool.or_false]
        congr 1
        rw [Bool.eq_iff_iff, Bool.or_eq_true, beq_iff_eq, beq_iff_eq, decide_eq_true_iff]
        omega
      by_cases hc : i = x.1 ∨ i = x.2
      · have hin := hin σ₁₂
        rw [decide_eq_true hc] at hin
        rw [if_pos hc]
        wp_walk using capsOf, ρ₁₂, hin, itS
      · have hin := hin σ₁₂
        rw [decide_eq_false hc] at hin
        rw [if_neg hc, List.getElem?_eq_getElem hi]
        wp_walk using capsOf, ρ₁₂, hin, it2, hti, itS, σ₁₂
    let items := cutI x.1 x.2 us
    have hitems : ((List.range us.length).map fun k => V.str (itS (if k = x.1 ∨ k = x.2 then none else us[k]?))) = items.map fun it => V.str (itS it) := by
      simp [items, cutI, List.map_map]
    let σ₁₃ : St := σ₁₂ ++ [.list (items.map fun it => V.str (itS it))]
    let ρ₁₃ : Rho := R (some (.ref σ.length)) (some (.ref r)) (some (.int ext)) (some (.int gaps)) (some (.int c)) (some v) (some (tree N)) (some (.ref (σ₅.length + 2))) (some (.ref (σ₇.length + 2))) (some (.tup [.int x.1, .int x.2])) (some (.ref σ₁₂.length)) none
    have s13 : sSet 10 (dComp (iRange (dCall bLen [dIndex (dVar 8) (dLit (.str kTok))])) [9, 8] (dIf (tCmp .In (dVar 2) (dVar 0)) (dLit (.str [32])) (dIndex (dIndex (dVar 1) (dLit (.str kTok))) (dVar 2)))) ρ₁₂ σ₁₂ = some (.next, ρ₁₃, σ₁₃) := by
      have hir : iRange (dCall bLen [dIndex (dVar 8) (dLit (.str kTok))]) ρ₁₂ σ₁₂ = some (.range us.length, σ₁₂) := by
        have : (us.length : Int).natAbs ≤ 16777216 := by omega
        wp_walk using iRange, it2, lt2, ρ₁₂, σ₁₂
        omega
      have : dComp (iRange (dCall bLen [dIndex (dVar 8) (dLit (.str kTok))])) [9, 8] (dIf (tCmp .In (dVar 2) (dVar 0)) (dLit (.str [32])) (dIndex (dIndex (dVar 1) (dLit (.str kTok))) (dVar 2))) ρ₁₂ σ₁₂ = some (.ref σ₁₂.length, σ₁₃) := by
        rw [dComp_e hir rfl hgo, hitems]
      rw [sSet_e, this]
      rfl
    -- the third text
    have hi13 : σ₁₃[σ₁₂.length]? = some (.list (items.map fun it => V.str (itS it))) := List.getElem?_concat_length
    have hil : items.length = us.length := cutI_len _ _ _
    have hif : items.filterMap id = ws := cutI_at hA
    have fI : ∀ t ∈ items.filterMap id, TkF t := by
      rw [hif]
      obtain ⟨A, B, C, hA1, _, hA2⟩ := hA
      intro t ht
      refine (w9.g (show PGOk (.n N 1) from ok) t ?_).f
      rw [hA1]
      rw [hA2] at ht
      simp at ht ⊢
      rcases ht with h | h | h <;> simp [h]
    obtain ⟨σ₁₄, w, e14, g14, hne, hwp, hwt⟩ := other_read ok hN w9 hA hC hif hil (gfOf gaps) (n + 1) (by omega) σ₁₃
    have t3 := told_eval (D := dVar 10) (G := dVar 3) (ρ := ρ₁₃) rfl rfl hi13 fI (by omega) e14
    let ρ₁₄ : Rho := R (some (.ref σ.length)) (some (.ref r)) (some (.int ext)) (some (.int gaps)) (some (.int c)) (some v) (some (tree N)) (some (.ref (σ₅.length + 2))) (some (.ref (σ₇.length + 2))) (some (.tup [.int x.1, .int x.2])) (some (.ref σ₁₂.length)) (some w)
    have s14 : sSet 11 (dCall (fn (n + 2) .f_law_told) [dCall (fn (n + 2) .f_law_joined) [dVar 10, dVar 3]]) ρ₁₃ σ₁₃ = some (.next, ρ₁₄, σ₁₄) := by
      rw [sSet_e, t3]
      rfl
    have s15 : sRet (dAnd (dTest (tCmp .NotEq (dIndex (dVar 11) (dLit (.int 0))) (dLit (.str [102, 97, 117, 108, 116])))) (dTest (tCmp .NotEq (dVar 11) (dVar 6)))) ρ₁₄ σ₁₄ = some (.ret (.bool true), ρ₁₄, σ₁₄) := by
      obtain ⟨k, rr, rfl, hk⟩ := hwt
      have nd := ne_diff (σ := σ₁₄) ⟨_, _, rfl⟩ htp hwp hpu hde hne
      have i0 : vindex (.tup (.str k :: rr)) (.int 0) σ₁₄ = some (.str k) := rfl
      wp_walk using ρ₁₄, nd, i0, hk
    refine ⟨ρ₁₄, σ₁₄, ?_⟩
    exact (seq_next s1).trans ((seq_next s2).trans ((seq_next s3).trans ((seq_next s4).trans ((seq_next s5).trans ((seq_next s6).trans ((seq_next s7).trans ((seq_next s8).trans ((seq_next s9).trans ((seq_next s10).trans ((seq_next s11).trans ((seq_next s12).trans ((seq_next s13).trans ((seq_next s14).trans s15)))))))))))))
end Mine
set_option maxHeartbeats 400000
namespace Mine
theorem ints_rep' {al : Al} {h : Heap} : ∀ {vs : List Value} {zs : List Int}, IntsAre vs zs → VReps al h vs (zs.map V.int)
  | _, _, .nil => .nil
  | _, _, .cons n t x => .cons (.int n t) (ints_rep' x)

theorem room431 : Room (430 + 1) callerA := ⟨rfl, by decide, by decide⟩
theorem law_run {zs : List Int} (hz : zs.length ≤ 1000000) : ∃ σ', dFn 1 11 (b_law (fn 430)) [.ref 0] [.ro (zs.map V.int)] = some (.bool true, σ') := by
  obtain ⟨ρ', σ', e⟩ := law_ok (s := 0) (σ := [.ro (zs.map V.int)]) (zs := zs) rfl hz 430 (by decide)
  refine ⟨σ', ?_⟩
  generalize fn 430 = F at *
  rw [dFn1]
  exact congrArg oFn e
end Mine
set_option maxHeartbeats 400000
namespace Mine
theorem join_core {p q : Program} {loose : List Str} {mean : ExcName → Option Value} {w : World} {s₁ : Shared} {mg mb : Str → Option Value} (T : Top q loose mean mg mb s₁.heap) (KX : Sees s₁.heap) {fa : Addr} (hmg : mg (Str.ofString "law") = some (.ref fa))
    {a : Addr} {vs : List Value} {zs : List Int} (hL : s₁.heap.IsList a vs.toArray) (hI : IntsAre vs zs) (hz : zs.length ≤ 1000000) {Q E : Value → Shared → Prop}
    (hQ : ∀ s' : Shared, (∃ h tk, s' = { s₁ with heap := h, toks := tk }) → (∀ b o, s₁.heap.get? b = some o → s'.heap.get? b = some o) → Q (.bool true) s') : wpAny (model p w) callerA (call (.ref fa) [.ref a]) Q E s₁ := by
  obtain ⟨K, KX, G⟩ := KX
  let X : Cx := ⟨p, w, K, s₁, 350, [Str.ofString "text", Str.ofString "tokens", Str.ofString "levels", Str.ofString "at"], mg, mb⟩
  have Y : Ctxt X := ⟨⟨KX, T.g, T.b, T.nolimit, T.builtins⟩, G, rfl, rfl⟩
  have hfa : fa = 540 := by
    have := mg_of KX T.g G.lawn
    rw [hmg] at this
    cases this; rfl
  subst hfa
  have I : Inv X [.ro (zs.map V.int)] [(a, a)] s₁ := by
    refine ⟨⟨s₁.heap, s₁.toks, rfl⟩, fun b o e => e, rfl, ?_, ?_, ?_⟩
    · intro i o p e1 e2
      match i with
      | 0 =>
        cases e1; cases e2
        exact ⟨vs.toArray, hL, by simpa using ints_rep' hI, rfl⟩
      | i + 1 => cases e1
    · intro i j p q e1 e2 hij
      match i, j with
      | 0, 0 => exact absurd rfl hij
      | i + 1, _ => cases e1
      | 0, j + 1 => cases e2
    · intro i o p e1 e2
      match i with
      | 0 => cases e1; exact .inl rfl
      | i + 1 => cases e1
  have H := (sound_all Y 430).1
  obtain ⟨σ', e⟩ := law_run hz
  generalize fn 430 = F at H e
  have S := (s_law Y H).snd
  generalize dFn 1 11 (b_law F) = D at S e
  refine wpAny_mono (S callerA [.ref a] [.ref 0] _ _ s₁ _ E room431 I (.cons (.ref (p := (a, a)) rfl) .nil) e) (fun v s' pp => ?_) fun _ _ z => z
  obtain ⟨al', I', st, rv⟩ := pp
  cases rv
  exact hQ s' I'.same I'.keep
end Mine
set_option maxHeartbeats 400000
set_option tactic.hygienic true in
theorem PySem.Challenge.cw_oj0069_01_holds : PySem.Challenge.rw_oj0069_01.Holds := by
  refine Mine.head (fun d hdd => ?_)
  have hnm : d.name = Str.ofString "law" := by
    have e : (defOf Mine.vw PySem.Challenge.rw_oj0069_01.row.name).map (fun x => x.1.name) = some (Str.ofString "law") := by rfl
    rw [hdd] at e
    exact Option.some.inj e
  clear hdd
  intro w s₀ s₁ mg mb G Y fa o pm cd doc dV kV ho hd' hcd hD hmg hg args vals as hpre hlay hrd hwl hlo
  have KX : Mine.Sees s₁.heap := Y
  have hm : mg (Str.ofString "law") = some (.ref fa) := hnm ▸ hmg
  refine Ground.open G ?_
  intro T B D TE TW
  clear hmg hcd hD ho hd'
  wrow_args hpre hlay hrd hwl hlo
  all_goals (
    rename_i zs _ _ _ _ _ _ _ a vs _ hL _ _ _ hI _ hc _
    clear B D TE TW G Y hnm
    have hz : zs.length ≤ 1000000 := by clear T KX hm hL; omega
    have key := fun Q E h => Mine.join_core (p := PySem.Challenge.rw_oj0069_01.row.prog) (w := w) (Q := Q) (E := E) T KX hm hL hI hz h
    refine key _ _ ?_
    intro s' hs hk
    obtain ⟨h, tk, rfl⟩ := hs
    clear key hm T KX
    refine GoodW.toG ⟨.inl ⟨_, _, _, rfl, ?r1, .bool true, ?r2, fun _ => ⟨List.nodup_nil, fun _ hx => nomatch hx⟩⟩, hk, rfl, hg⟩
    (case r1 => exact raisesW_false allW_false_nil)
    (case r2 => wrow_post))

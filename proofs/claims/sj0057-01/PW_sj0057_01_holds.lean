import PyProof.Rows.All
import Wide.All
import OpenK.AllK
import Wide.FinOn
import PySem.Challenge.RW_sj0057_01
open PySem PySem.W PySem.Calls PyProof.Rows
set_option Elab.async false
set_option maxRecDepth 100000
set_option linter.unusedVariables false
namespace Mine
section
/-- abstract values: tuples are trees, `ref` is a tracked mutable object, `glob` a raw value -/
inductive V where
  | none
  | bool (b : Bool)
  | int (i : Int)
  | str (s : PySem.Str)
  | tup (l : List V)
  | ref (a : Addr)
  | glob (v : Value)
  | range (n : Int)
  deriving Inhabited

abbrev tupObj (xs : List Value) (n : Nat) : Obj := { cls := .type "tuple", data := .seq xs.toArray n }
abbrev listObj (xs : List Value) (n : Nat) : Obj := { cls := .type "list", data := .seq xs.toArray n }

mutual
noncomputable def RV (h : Heap) : V → Value → Prop
  | .none, v => v = .none
  | .bool b, v => v = .bool b
  | .int i, v => ∃ t, v = .int i t
  | .str s, v => ∃ t, v = .str s t
  | .tup l, v => ∃ a xs n, v = .ref a ∧ h.get? a = some (tupObj xs n) ∧ RVs h l xs
  | .ref a, v => v = .ref a
  | .glob u, v => v = u
  | .range n, v => ∃ a t1 t2 t3, v = .ref a ∧ IsRange h a 0 n 1 t1 t2 t3
noncomputable def RVs (h : Heap) : List V → List Value → Prop
  | [], vs => vs = []
  | x :: l, vs => ∃ v r, vs = v :: r ∧ RV h x v ∧ RVs h l r
end

/-- immutable objects kept -/
noncomputable def Obj.Still (o : Obj) : Prop := (o.cls = .type "tuple" ∨ o.cls = .type "range") ∧ ∀ es ep, o.data ≠ .dict es ep
noncomputable def KeepT (h h' : Heap) : Prop := ∀ b o, h.get? b = some o → Obj.Still o → h'.get? b = some o

mutual
theorem RV.mono {h h' : Heap} (k : KeepT h h') : ∀ {x : V} {v : Value}, RV h x v → RV h' x v
  | .none, _, r => by simpa only [RV] using r
  | .bool _, _, r => by simpa only [RV] using r
  | .int _, _, r => by simpa only [RV] using r
  | .str _, _, r => by simpa only [RV] using r
  | .tup l, _, r => by
    simp only [RV] at r ⊢
    obtain ⟨a, xs, n, e, g, rs⟩ := r
    exact ⟨a, xs, n, e, k _ _ g ⟨.inl rfl, fun _ _ e => by cases e⟩, RVs.mono k rs⟩
  | .ref _, _, r => by simpa only [RV] using r
  | .glob _, _, r => by simpa only [RV] using r
  | .range n, _, r => by
    simp only [RV] at r ⊢
    obtain ⟨a, t1, t2, t3, e, g⟩ := r
    exact ⟨a, t1, t2, t3, e, k _ _ g ⟨.inr rfl, fun _ _ e => by cases e⟩⟩
theorem RVs.mono {h h' : Heap} (k : KeepT h h') : ∀ {l : List V} {vs : List Value}, RVs h l vs → RVs h' l vs
  | [], _, r => by simpa only [RVs] using r
  | x :: l, _, r => by
    simp only [RVs] at r ⊢
    obtain ⟨v, r', e, a, b⟩ := r
    exact ⟨v, r', e, RV.mono k a, RVs.mono k b⟩
end

theorem RVs.length {h : Heap} : ∀ {l : List V} {vs : List Value}, RVs h l vs → vs.length = l.length
  | [], _, r => by simp only [RVs] at r; rw [r]; rfl
  | x :: l, _, r => by
    simp only [RVs] at r
    obtain ⟨v, r', e, _, b⟩ := r
    rw [e, List.length_cons, List.length_cons, RVs.length b]

theorem RVs.get {h : Heap} : ∀ {l : List V} {vs : List Value} {i : Nat} {x : V}, RVs h l vs → l[i]? = some x → ∃ v, vs[i]? = some v ∧ RV h x v
  | [], _, _, _, _, e => by simp at e
  | y :: l, _, i, x, r, e => by
    simp only [RVs] at r
    obtain ⟨v, r', rfl, a, b⟩ := r
    cases i with
    | zero => simp at e; subst e; exact ⟨v, by simp, a⟩
    | succ i => simp at e; obtain ⟨w, h1, h2⟩ := RVs.get b e; exact ⟨w, by simpa using h1, h2⟩

theorem RVs.append {h : Heap} : ∀ {l l' : List V} {vs vs' : List Value}, RVs h l vs → RVs h l' vs' → RVs h (l ++ l') (vs ++ vs')
  | [], _, _, _, r, r' => by simp only [RVs] at r; subst r; simpa using r'
  | x :: l, l', _, vs', r, r' => by
    simp only [RVs] at r
    obtain ⟨v, q, rfl, a, b⟩ := r
    simp only [List.cons_append, RVs]
    exact ⟨v, q ++ vs', rfl, a, RVs.append b r'⟩

theorem RVs.take {h : Heap} : ∀ {l : List V} {vs : List Value} (n : Nat), RVs h l vs → RVs h (l.take n) (vs.take n)
  | [], _, n, r => by simp only [RVs] at r; subst r; simp [RVs]
  | x :: l, _, n, r => by
    simp only [RVs] at r
    obtain ⟨v, q, rfl, a, b⟩ := r
    cases n with
    | zero => simp [RVs]
    | succ n => simp only [List.take_succ_cons, RVs]; exact ⟨v, _, rfl, a, RVs.take n b⟩
theorem RVs.drop {h : Heap} : ∀ {l : List V} {vs : List Value} (n : Nat), RVs h l vs → RVs h (l.drop n) (vs.drop n)
  | [], _, n, r => by simp only [RVs] at r; subst r; simp [RVs]
  | x :: l, _, n, r => by
    simp only [RVs] at r
    obtain ⟨v, q, rfl, a, b⟩ := r
    cases n with
    | zero => simp only [List.drop_zero, RVs]; exact ⟨v, q, rfl, a, b⟩
    | succ n => simpa using RVs.drop n b

inductive MObj where
  | list (l : List V)
  | flist (l : List V)
  | dict (d : List (PySem.Str × V))
  | inst (C : Addr) (dx : Addr)

abbrev St := Addr → Option MObj
noncomputable def St.set (st : St) (a : Addr) (m : MObj) : St := fun b => if b = a then some m else st b
@[simp] theorem St.set_same (st : St) (a : Addr) (m : MObj) : st.set a m a = some m := by simp [St.set]
theorem St.set_ne (st : St) {a b : Addr} (m : MObj) (h : b ≠ a) : st.set a m b = st b := by simp [St.set, h]

set_option genInjectivity false in
set_option genSizeOfSpec false in
/-- what does not move during the whole call of the law -/
structure Base where
  prog : Program
  w : World
  h₀ : Heap
  gens : Array GenState
  os : OsState
  mg : PySem.Str → Option Value
  mb : PySem.Str → Option Value
  K : Frag
  g : h₀.Ns mainGlobals mg
  b : h₀.Ns builtinsNs mb
  nolimit : h₀.NoLimit
  X : K.In h₀
  wit : Addr
  hwit : h₀.objs.size ≤ wit

noncomputable def DRep (h : Heap) : List (PySem.Str × V) → List (PySem.Str × Value) → Prop
  | [], kvs => kvs = []
  | (k, x) :: d, kvs => ∃ v r, kvs = (k, v) :: r ∧ RV h x v ∧ DRep h d r

theorem DRep.mono {h h' : Heap} (k : KeepT h h') : ∀ {d : List (PySem.Str × V)} {kvs : List (PySem.Str × Value)}, DRep h d kvs → DRep h' d kvs
  | [], _, r => r
  | (n, x) :: d, _, r => by
    obtain ⟨v, r', e, a, b⟩ := r
    exact ⟨v, r', e, RV.mono k a, DRep.mono k b⟩

noncomputable def MRep (B : Base) (h : Heap) (a : Addr) : MObj → Prop
  | .list l => ∃ vs n, h.get? a = some (listObj vs n) ∧ RVs h l vs
  | .flist l => ∃ vs, h.IsList a vs.toArray ∧ RVs h l vs
  | .dict d => ∃ kvs, h.DictOf (strKind B.prog B.w) a kvs ∧ DRep h d kvs
  | .inst C dx => h.get? a = some (instObj C dx)

structure Inv (B : Base) (s : Shared) (st : St) : Prop where
  base : ∀ b o, B.h₀.get? b = some o → s.heap.get? b = some o
  gens : s.gens = B.gens
  os : s.os = B.os
  tr : ∀ a m, st a = some m → B.h₀.objs.size ≤ a ∧ MRep B s.heap a m
  alive : ∃ o, s.heap.get? B.wit = some o

/-- untracked objects (but those of X) are kept, untracked stays untracked -/
noncomputable def Ext (X : Addr → Prop) (h : Heap) (st : St) (h' : Heap) (st' : St) : Prop :=
  ∀ b o, h.get? b = some o → st b = none → st' b = none ∧ ∃ o', h'.get? b = some o' ∧ (¬ X b → o' = o)

theorem Ext.refl {X : Addr → Prop} {h : Heap} {st : St} : Ext X h st h st := fun _ o e e' => ⟨e', o, e, fun _ => rfl⟩
theorem Ext.trans {X : Addr → Prop} {h h1 h2 : Heap} {st st1 st2 : St} (a : Ext X h st h1 st1) (b : Ext X h1 st1 h2 st2) : Ext X h st h2 st2 := fun x o e e' => by
  obtain ⟨p, o1, q, r⟩ := a x o e e'
  obtain ⟨p', o2, q', r'⟩ := b x o1 q p
  exact ⟨p', o2, q', fun n => (r' n).trans (r n)⟩
theorem Ext.weak {X Y : Addr → Prop} {h h1 : Heap} {st st1 : St} (a : Ext X h st h1 st1) (k : ∀ b, X b → Y b) : Ext Y h st h1 st1 := fun x o e e' => by
  obtain ⟨p, o1, q, r⟩ := a x o e e'
  exact ⟨p, o1, q, fun n => r fun y => n (k _ y)⟩

abbrev NoX : Addr → Prop := fun _ => False

theorem MRep.clsNe {B : Base} {h : Heap} {a : Addr} {m : MObj} (r : MRep B h a m) {o : Obj} (e : h.get? a = some o) : o.cls ≠ .type "tuple" ∧ o.cls ≠ .type "range" := by
  cases m with
  | list l => obtain ⟨vs, n, g, _⟩ := r; rw [g] at e; cases e; exact ⟨by simp, by simp⟩
  | flist l => obtain ⟨vs, ⟨o', g, c, _⟩, _⟩ := r; rw [g] at e; cases e; rw [c]; exact ⟨by simp, by simp⟩
  | dict d => obtain ⟨kvs, ⟨o', es, ep, g, ex, _⟩, _⟩ := r; rw [g] at e; cases e; rw [ex.1]; exact ⟨by decide, by decide⟩
  | inst C dx => rw [show h.get? a = some (instObj C dx) from r] at e; cases e; exact ⟨by simp, by simp⟩

theorem Inv.keepT {B : Base} {s : Shared} {st : St} {X : Addr → Prop} {h' : Heap} {st' : St} (I : Inv B s st) (e : Ext X s.heap st h' st')
    (hX : ∀ b, X b → ∀ o, s.heap.get? b = some o → ¬ Obj.Still o) : KeepT s.heap h' := fun b o g c => by
  have hu : st b = none := by
    cases q : st b with
    | none => rfl
    | some m =>
      have := (I.tr b m q).2.clsNe g
      rcases c.1 with c | c
      · exact absurd c this.1
      · exact absurd c this.2
  obtain ⟨_, o', g', k⟩ := e b o g hu
  have : ¬ X b := fun x => hX b x o g c
  rw [k this] at g'; exact g'
theorem Inv.keepT0 {B : Base} {s : Shared} {st : St} {h' : Heap} {st' : St} (I : Inv B s st) (e : Ext NoX s.heap st h' st') : KeepT s.heap h' := I.keepT e fun _ x => x.elim

theorem Inv.fresh {B : Base} {s : Shared} {st : St} (I : Inv B s st) : st s.heap.objs.size = none := by
  cases q : st s.heap.objs.size with
  | none => rfl
  | some m =>
    exfalso
    have hm := (I.tr _ m q).2
    have : ∃ o, s.heap.get? s.heap.objs.size = some o := by
      cases m with
      | list l => obtain ⟨vs, n, g, _⟩ := hm; exact ⟨_, g⟩
      | flist l => obtain ⟨vs, ⟨o', g, c, _⟩, _⟩ := hm; exact ⟨_, g⟩
      | dict d => obtain ⟨kvs, ⟨o', es, ep, g, _⟩, _⟩ := hm; exact ⟨_, g⟩
      | inst C dx => exact ⟨_, hm⟩
    obtain ⟨o, g⟩ := this
    exact absurd (Heap.lt_size g) (Nat.lt_irrefl _)

theorem Inv.above {B : Base} {s : Shared} {st : St} (I : Inv B s st) : B.h₀.objs.size ≤ s.heap.objs.size := by
  obtain ⟨o, e⟩ := I.alive
  exact Nat.le_trans B.hwit (Nat.le_of_lt (Heap.lt_size e))
theorem MRep.there {B : Base} {h : Heap} {a : Addr} {m : MObj} (r : MRep B h a m) : ∃ o, h.get? a = some o := by
  cases m with
  | list l => obtain ⟨vs, n, g, _⟩ := r; exact ⟨_, g⟩
  | flist l => obtain ⟨vs, ⟨o', g, c, _⟩, _⟩ := r; exact ⟨_, g⟩
  | dict d => obtain ⟨kvs, ⟨o', es, ep, g, _⟩, _⟩ := r; exact ⟨_, g⟩
  | inst C dx => exact ⟨_, r⟩

theorem MRep.mono {B : Base} {h h' : Heap} {a : Addr} {m : MObj} (r : MRep B h a m) (k : KeepT h h') (e : h'.get? a = h.get? a) : MRep B h' a m := by
  cases m with
  | list l => obtain ⟨vs, n, g, q⟩ := r; exact ⟨vs, n, e.trans g, q.mono k⟩
  | flist l => obtain ⟨vs, ⟨o', g, c⟩, q⟩ := r; exact ⟨vs, ⟨o', e.trans g, c⟩, q.mono k⟩
  | dict d => obtain ⟨kvs, ⟨o', es, ep, g, x⟩, q⟩ := r; exact ⟨kvs, ⟨o', es, ep, e.trans g, x⟩, q.mono k⟩
  | inst C dx => exact e.trans r

/-- a step that changes no tracked object and keeps every object (toks may move, objects may be added) -/
theorem Inv.keeps {B : Base} {s : Shared} {st : St} (I : Inv B s st) {h' : Heap} (k : ∀ b o, s.heap.get? b = some o → h'.get? b = some o) {tk : Tok} : Inv B { s with heap := h', toks := tk } st where
  base := fun b o e => k _ _ (I.base b o e)
  gens := I.gens
  os := I.os
  tr := fun a m e => by
    obtain ⟨p, q⟩ := I.tr a m e
    refine ⟨p, q.mono (fun b o g _ => k b o g) ?_⟩
    have : ∃ o, s.heap.get? a = some o := by
      cases m with
      | list l => obtain ⟨vs, n, g, _⟩ := q; exact ⟨_, g⟩
      | flist l => obtain ⟨vs, ⟨o', g, c, _⟩, _⟩ := q; exact ⟨_, g⟩
      | dict d => obtain ⟨kvs, ⟨o', es, ep, g, _⟩, _⟩ := q; exact ⟨_, g⟩
      | inst C dx => exact ⟨_, q⟩
    obtain ⟨o, g⟩ := this
    exact (k _ _ g).trans g.symm
  alive := let ⟨o, e⟩ := I.alive; ⟨o, k _ _ e⟩
theorem Ext.keeps {X : Addr → Prop} {h h' : Heap} {st : St} (k : ∀ b o, h.get? b = some o → h'.get? b = some o) : Ext X h st h' st := fun b o e e' => ⟨e', o, k _ _ e, fun _ => rfl⟩

/-- the step that brings a new tracked object -/
theorem Inv.alloc {B : Base} {s : Shared} {st : St} (I : Inv B s st) {h' : Heap} (k : ∀ b o, s.heap.get? b = some o → h'.get? b = some o) {tk : Tok} {a : Addr} {m : MObj} (ha : s.heap.objs.size ≤ a)
    (hr : MRep B h' a m) : Inv B { s with heap := h', toks := tk } (st.set a m) where
  base := fun b o e => k _ _ (I.base b o e)
  gens := I.gens
  os := I.os
  tr := fun b mb e => by
    by_cases hb : b = a
    · subst hb
      rw [St.set_same] at e; cases e
      exact ⟨Nat.le_trans I.above ha, hr⟩
    · rw [St.set_ne _ _ hb] at e
      exact (I.keeps k (tk := tk)).tr b mb e
  alive := let ⟨o, e⟩ := I.alive; ⟨o, k _ _ e⟩
theorem Ext.alloc {X : Addr → Prop} {h h' : Heap} {st : St} (k : ∀ b o, h.get? b = some o → h'.get? b = some o) {a : Addr} {m : MObj} (ha : h.objs.size ≤ a) : Ext X h st h' (st.set a m) := fun b o e e' =>
  ⟨by rw [St.set_ne _ _ (Nat.ne_of_lt (Nat.lt_of_lt_of_le (Heap.lt_size e) ha))]; exact e', o, k _ _ e, fun _ => rfl⟩

/-- the step that changes a tracked object -/
theorem Inv.update {B : Base} {s : Shared} {st : St} (I : Inv B s st) {h' : Heap} {a : Addr} {m m' : MObj} (hs : Heap.SameBut a s.heap h') (ha : st a = some m) {tk : Tok}
    (hr : KeepT s.heap h' → MRep B h' a m') : Inv B { s with heap := h', toks := tk } (st.set a m') := by
  have kT : KeepT s.heap h' := fun b o g c => by
    by_cases hb : b = a
    · subst hb
      have := (I.tr b m ha).2.clsNe g
      rcases c.1 with c | c
      · exact absurd c this.1
      · exact absurd c this.2
    · rw [hs.2 b hb]; exact g
  refine ⟨fun b o e => ?_, I.gens, I.os, fun b mb e => ?_, ?_⟩
  · have : b ≠ a := Nat.ne_of_lt (Nat.lt_of_lt_of_le (Heap.lt_size e) (I.tr a m ha).1)
    show h'.get? b = some o
    rw [hs.2 b this]; exact I.base b o e
  · by_cases hb : b = a
    · subst hb
      rw [St.set_same] at e; cases e
      exact ⟨(I.tr b m ha).1, hr kT⟩
    · rw [St.set_ne _ _ hb] at e
      obtain ⟨p, q⟩ := I.tr b mb e
      exact ⟨p, q.mono kT (hs.2 b hb)⟩
  · by_cases hb : B.wit = a
    · obtain ⟨o, e⟩ := (hr kT).there; exact ⟨o, by rw [hb]; exact e⟩
    · obtain ⟨o, e⟩ := I.alive; exact ⟨o, (hs.2 _ hb).trans e⟩
theorem Ext.update {X : Addr → Prop} {h h' : Heap} {st : St} {a : Addr} {m m' : MObj} (hs : Heap.SameBut a h h') (ha : st a = some m) : Ext X h st h' (st.set a m') := fun b o e e' => by
  have hb : b ≠ a := fun q => by subst q; rw [ha] at e'; cases e'
  exact ⟨by rw [St.set_ne _ _ hb]; exact e', o, (hs.2 b hb).trans e, fun _ => rfl⟩

abbrev Mod (B : Base) : Model := model B.prog B.w
abbrev Bad : Value → Shared → Prop := fun _ _ => False

noncomputable def Post (B : Base) (s : Shared) (st : St) (Q : V → St → Prop) (v : Value) (s' : Shared) : Prop :=
  ∃ x st', RV s'.heap x v ∧ Inv B s' st' ∧ Ext NoX s.heap st s'.heap st' ∧ Q x st'
theorem Post.up {B : Base} {s s1 s' : Shared} {st st1 : St} {Q : V → St → Prop} {v : Value} (e : Ext NoX s.heap st s1.heap st1) (p : Post B s1 st1 Q v s') : Post B s st Q v s' := by
  obtain ⟨x, st', a, b, c, d⟩ := p
  exact ⟨x, st', a, b, e.trans c, d⟩
noncomputable def Posts (B : Base) (s : Shared) (st : St) (Q : List V → St → Prop) (vs : List Value) (s' : Shared) : Prop :=
  ∃ xs st', RVs s'.heap xs vs ∧ Inv B s' st' ∧ Ext NoX s.heap st s'.heap st' ∧ Q xs st'
noncomputable def PostB (B : Base) (s : Shared) (st : St) (Qt Qf : St → Prop) (b : Bool) (s' : Shared) : Prop :=
  ∃ st', Inv B s' st' ∧ Ext NoX s.heap st s'.heap st' ∧ (if b then Qt st' else Qf st')

abbrev Fr' := List (PySem.Str × V)
set_option genInjectivity false in
set_option genSizeOfSpec false in
structure Cfg where
  A : Around
  nm : PySem.Str
  sc : Scope
  L : Addr
  a : Addr
  cd : Value
  d : Nat
abbrev Cfg.env (C : Cfg) : Env := envOf C.nm C.sc C.L C.a C.cd
structure RoomA (A : Around) (d : Nat) : Prop where
  handled : A.handled = none
  depth : A.depth + d < recursionLimit
  units : A.units + 4 * d + 60 < cLine
structure Cfg.Ok (B : Base) (C : Cfg) : Prop where
  room : RoomA C.A C.d
  kind : C.sc.kind = .function
  new : B.h₀.objs.size ≤ C.L

structure FR (h : Heap) (C : Cfg) (fr : Fr') : Prop where
  nd : (fr.map (·.1)).Nodup
  kind : ∀ p ∈ fr, C.sc.names.lookup p.1 = some .local ∧ (p.1 == ("__debug__" : PySem.Str)) = false
  ns : ∃ m, h.Ns C.L m ∧ ∀ p ∈ fr, ∃ v, m p.1 = some v ∧ RV h p.2 v

theorem Ns.cls {h : Heap} {L : Addr} {m : PySem.Str → Option Value} (n : h.Ns L m) {o : Obj} (e : h.get? L = some o) : ∃ es ep, o.data = .dict es ep := by
  obtain ⟨o', es, ep, g, d, _⟩ := n
  rw [g] at e; cases e; exact ⟨es, ep, d⟩

/-- the frame through an evaluation (nothing of it is changed) -/
theorem FR.ext {B : Base} {s s' : Shared} {st st' : St} {C : Cfg} {fr : Fr'} (F : FR s.heap C fr) (I : Inv B s st) (e : Ext NoX s.heap st s'.heap st') (hL : st C.L = none) : FR s'.heap C fr ∧ st' C.L = none := by
  obtain ⟨m, hn, hv⟩ := F.ns
  have kT := I.keepT0 e
  obtain ⟨o, es, ep, g, r⟩ := id hn
  obtain ⟨p, o', g', k⟩ := e C.L o g hL
  rw [k id] at g'
  exact ⟨⟨F.nd, F.kind, m, ⟨o, es, ep, g', r⟩, fun q hq => let ⟨v, a, b⟩ := hv q hq; ⟨v, a, b.mono kT⟩⟩, p⟩

noncomputable def SE (B : Base) (C : Cfg) (fr : Fr') (e : Expr) (st : St) (Q : V → St → Prop) : Prop :=
  ∀ s, C.Ok B → Inv B s st → FR s.heap C fr → st C.L = none → wpAny (Mod B) C.A (eval e C.env) (Post B s st Q) Bad s
noncomputable def SEs (B : Base) (C : Cfg) (fr : Fr') (es : List Expr) (st : St) (Q : List V → St → Prop) : Prop :=
  ∀ s pos, C.Ok B → Inv B s st → FR s.heap C fr → st C.L = none → wpAny (Mod B) C.A (spliced (backTo pos (starEach es C.env))) (Posts B s st Q) Bad s
noncomputable def ST (B : Base) (C : Cfg) (fr : Fr') (e : Expr) (st : St) (Qt Qf : St → Prop) : Prop :=
  ∀ s, C.Ok B → Inv B s st → FR s.heap C fr → st C.L = none → wpAny (Mod B) C.A (isTrue e C.env (eval e C.env)) (PostB B s st Qt Qf) Bad s
/-- a step on values -/
noncomputable def SV (B : Base) (A : Around) (t : Sem Value) (st : St) (Q : V → St → Prop) (s : Shared) : Prop := wpAny (Mod B) A t (Post B s st Q) Bad s

theorem bad {α : Type} {P : α → Shared → Prop} : ∀ (e : α) (s : Shared), False → P e s := fun _ _ x => x.elim

theorem SE.mono {B : Base} {C : Cfg} {fr : Fr'} {e : Expr} {st : St} {Q Q' : V → St → Prop} (h : SE B C fr e st Q) (k : ∀ x st', Q x st' → Q' x st') : SE B C fr e st Q' := fun s ok I F hL =>
  wpAny_mono (h s ok I F hL) (fun v s' ⟨x, st', a, b, c, d⟩ => ⟨x, st', a, b, c, k _ _ d⟩) fun _ _ x => x

section
variable {B : Base} {C : Cfg} {fr : Fr'} {st : St}

theorem SE_none {k : Nat} {pos : Pos} {Q : V → St → Prop} (h : Q .none st) : SE B C fr (.Constant .none k pos) st Q := fun s _ I _ _ =>
  Constant_none ⟨.none, st, by simp [RV], I, .refl, h⟩
theorem SE_bool {c : Bool} {k : Nat} {pos : Pos} {Q : V → St → Prop} (h : Q (.bool c) st) : SE B C fr (.Constant (.bool c) k pos) st Q := fun s _ I _ _ =>
  Constant_bool ⟨.bool c, st, by simp [RV], I, .refl, h⟩
theorem SE_int {i : Int} {k : Nat} {pos : Pos} {Q : V → St → Prop} (h : Q (.int i) st) : SE B C fr (.Constant (.int i) k pos) st Q := fun s _ I _ _ =>
  wpAny_Constant_int ⟨.int i, st, by simp [RV], I.keeps (fun _ _ e => e), .refl, h⟩
theorem SE_str {x : PySem.Str} {k : Nat} {pos : Pos} {Q : V → St → Prop} (h : Q (.str x) st) : SE B C fr (.Constant (.str x) k pos) st Q := fun s _ I _ _ =>
  Constant_str ⟨.str x, st, by simp [RV], I.keeps (fun _ _ e => e), .refl, h⟩

theorem SE_loc {x : PySem.Str} {pos : Pos} {v : V} {Q : V → St → Prop} (hm : (x, v) ∈ fr) (h : Q v st) : SE B C fr (.Name x pos) st Q := fun s ok I F hL => by
  obtain ⟨m, hn, hv⟩ := F.ns
  obtain ⟨u, hu, r⟩ := hv _ hm
  obtain ⟨k1, k2⟩ := F.kind _ hm
  exact wpAny_Name (wpAny_loadName_local ok.kind k1 hn hu ⟨v, st, r, I, .refl, h⟩) k2

/-- a global or built-in name -/
noncomputable def GV (B : Base) (x : PySem.Str) (u : Value) : Prop := B.mg x = some u ∨ (B.mg x = none ∧ B.mb x = some u)
theorem SE_glob {x : PySem.Str} {pos : Pos} {u : Value} {Q : V → St → Prop} (hk : C.sc.names.lookup x = some .globalImplicit) (hd : (x == ("__debug__" : PySem.Str)) = false) (hg : GV B x u) (h : Q (.glob u) st) :
    SE B C fr (.Name x pos) st Q := fun s ok I F hL => by
  refine Name_function_global ok.kind hk ?_ hd
  rcases hg with hg | ⟨h1, h2⟩
  · exact loadGlobal_global (B.g.keeps I.base) hg ⟨.glob u, st, by simp [RV], I, .refl, h⟩
  · exact loadGlobal_builtin (B.g.keeps I.base) h1 (B.b.keeps I.base) h2 ⟨.glob u, st, by simp [RV], I, .refl, h⟩

theorem SEs_nil {Q : List V → St → Prop} (h : Q [] st) : SEs B C fr [] st Q := fun s _ _ I _ _ => spliced_nil ⟨[], st, by simp [RVs], I, .refl, h⟩
theorem SEs_cons {e : Expr} {es : List Expr} {Q : List V → St → Prop} (h : SE B C fr e st fun x st1 => SEs B C fr es st1 fun xs st2 => Q (x :: xs) st2)
    (hs : ∀ env, starEach (e :: es) env = (false, eval e env) :: starEach es env := by intro _; rfl) : SEs B C fr (e :: es) st Q := fun s pos ok I F hL => by
  rw [hs]
  show wpAny _ _ (spliced ((false, eval e C.env) :: backTo pos (starEach es C.env))) _ _ _
  refine spliced_cons (wpAny_mono (h s ok I F hL) (fun v s1 hq0 => ?_) fun _ _ x => x)
  obtain ⟨x, st1, r1, I1, e1, h1⟩ := hq0
  obtain ⟨F1, hL1⟩ := F.ext I e1 hL
  refine wpAny_mono (h1 s1 pos ok I1 F1 hL1) (fun vs s2 hq0 => ?_) fun _ _ x => x
  obtain ⟨xs, st2, r2, I2, e2, h2⟩ := hq0
  exact ⟨x :: xs, st2, by simp only [RVs]; exact ⟨v, vs, rfl, r1.mono (I1.keepT0 e2), r2⟩, I2, e1.trans e2, h2⟩

theorem SE_Tuple {es : List Expr} {k : Nat} {pos : Pos} {Q : V → St → Prop} (h : SEs B C fr es st fun xs st1 => xs.length ≤ 1000 ∧ Q (.tup xs) st1) : SE B C fr (.Tuple es k pos) st Q := fun s ok I F hL => by
  refine Tuple_ (wpAny_mono (h s pos ok I F hL) (fun vs s1 hq0 => ?_) fun _ _ x => x)
  obtain ⟨xs, st1, r, I1, e1, hz, h1⟩ := hq0
  refine wpAny_newObj_type ?_ (by show vs.toArray.size ≤ sizeLine; rw [List.size_toArray, r.length, sizeLine_eq]; (first | lia -abstractProof | omega))
  have k : ∀ b o, s1.heap.get? b = some o → (s1.heap.push (tupObj vs 0)).get? b = some o := fun b o e => Heap.get?_push_of_some _ e
  refine ⟨.tup xs, st1, ?_, I1.keeps k, e1.trans (.keeps k), h1⟩
  simp only [RV]
  exact ⟨_, vs, 0, rfl, Heap.get?_push_size _ rfl, r.mono fun b o e _ => k b o e⟩


theorem SE_List {es : List Expr} {pos : Pos} {Q : V → St → Prop} (h : SEs B C fr es st fun xs st1 => xs.length ≤ 1000 ∧ ∀ a, st1 a = none → Q (.ref a) (st1.set a (.list xs))) : SE B C fr (.List es pos) st Q := fun s ok I F hL => by
  refine List_ (wpAny_mono (h s pos ok I F hL) (fun vs s1 hq0 => ?_) fun _ _ x => x)
  obtain ⟨xs, st1, r, I1, e1, hz, h1⟩ := hq0
  refine wpAny_newObj_type ?_ (by show vs.toArray.size ≤ sizeLine; rw [List.size_toArray, r.length, sizeLine_eq]; (first | lia -abstractProof | omega))
  have k : ∀ b o, s1.heap.get? b = some o → (s1.heap.push (listObj vs 0)).get? b = some o := fun b o e => Heap.get?_push_of_some _ e
  refine ⟨.ref s1.heap.objs.size, st1.set s1.heap.objs.size (.list xs), by simp [RV], ?_, e1.trans (.alloc k (Nat.le_refl _)), h1 _ I1.fresh⟩
  exact I1.alloc k (Nat.le_refl _) ⟨vs, 0, Heap.get?_push_size _ rfl, r.mono fun b o e _ => k b o e⟩

/-- a binary operation on values -/
noncomputable def SOp (B : Base) (C : Cfg) (op : Operator) (x y : V) (st : St) (Q : V → St → Prop) : Prop :=
  ∀ s v u, C.Ok B → Inv B s st → RV s.heap x v → RV s.heap y u → wpAny (Mod B) C.A (binaryOp op v u) (Post B s st Q) Bad s
theorem SE_BinOp {l r : Expr} {op : Operator} {pos : Pos} {Q : V → St → Prop} (h : SE B C fr l st fun x st1 => SE B C fr r st1 fun y st2 => SOp B C op x y st2 Q) : SE B C fr (.BinOp l op r pos) st Q := fun s ok I F hL => by
  refine wpAny_BinOp (wpAny_mono (h s ok I F hL) (fun v s1 hq0 => ?_) fun _ _ x => x)
  obtain ⟨x, st1, r1, I1, e1, h1⟩ := hq0
  obtain ⟨F1, hL1⟩ := F.ext I e1 hL
  refine wpAny_mono (h1 s1 ok I1 F1 hL1) (fun u s2 hq0 => ?_) fun _ _ x => x
  obtain ⟨y, st2, r2, I2, e2, h2⟩ := hq0
  exact wpAny_mono (h2 s2 v u ok I2 (r1.mono (I1.keepT0 e2)) r2) (fun z s3 p => (p.up e2).up e1) fun _ _ x => x

/-- a comparison on values -/
noncomputable def SC (B : Base) (C : Cfg) (op : CmpOp) (x y : V) (st : St) (Qt Qf : St → Prop) : Prop :=
  ∀ s v u, C.Ok B → Inv B s st → RV s.heap x v → RV s.heap y u → wpAny (Mod B) C.A (compareOp op v u) (fun r s' => ∃ b, r = .bool b ∧ PostB B s st Qt Qf b s') Bad s
end
end
section
section
variable {B : Base} {C : Cfg} {fr : Fr'} {st : St}

theorem postB_of {s : Shared} {Qt Qf : St → Prop} {b : Bool} (I : Inv B s st) {tk : Tok} (ht : b = true → Qt st) (hf : b = false → Qf st) : PostB B s st Qt Qf b { s with toks := tk } :=
  ⟨st, I.keeps fun _ _ e => e, .refl, by cases b <;> simp_all⟩

/-! comparisons -/
theorem SC_is_none {x : V} {Qt Qf : St → Prop} (h1 : x = .none → Qt st) (h2 : x ≠ .none → Qf st) (hg : ∀ u, x ≠ .glob u) : SC B C .Is x .none st Qt Qf := fun s v u ok I r1 r2 => by
  simp only [RV] at r2; subst r2
  refine wpAny_is_plain (by cases v <;> first | rfl | (cases x <;> simp_all [RV])) ⟨_, rfl, postB_of I ?_ ?_⟩
  · intro e; have e := beq_iff_eq.mp e; subst e; exact h1 (by cases x <;> simp_all [RV])
  · intro e; exact h2 (fun q => by subst q; simp only [RV] at r1; subst r1; simp at e)
theorem SC_isNot_none {x : V} {Qt Qf : St → Prop} (h1 : x ≠ .none → Qt st) (h2 : x = .none → Qf st) (hg : ∀ u, x ≠ .glob u) : SC B C .IsNot x .none st Qt Qf := fun s v u ok I r1 r2 => by
  simp only [RV] at r2; subst r2
  refine wpAny_isNot_plain (by cases v <;> first | rfl | (cases x <;> simp_all [RV])) ⟨_, rfl, postB_of I ?_ ?_⟩
  · intro e; exact h1 (fun q => by subst q; simp only [RV] at r1; subst r1; simp at e)
  · intro e; simp only [Bool.not_eq_false'] at e; have e := beq_iff_eq.mp e; subst e; exact h2 (by cases x <;> simp_all [RV])

theorem SC_eq_str {a b : PySem.Str} {Qt Qf : St → Prop} (h1 : a = b → Qt st) (h2 : a ≠ b → Qf st) : SC B C .Eq (.str a) (.str b) st Qt Qf := fun s v u ok I r1 r2 => by
  simp only [RV] at r1 r2; obtain ⟨t, rfl⟩ := r1; obtain ⟨t', rfl⟩ := r2
  exact eq_str ⟨_, rfl, postB_of I (fun e => h1 (beq_iff_eq.mp e)) fun e => h2 (beq_eq_false_iff_ne.mp e)⟩
theorem SC_ne_str {a b : PySem.Str} {Qt Qf : St → Prop} (h1 : a ≠ b → Qt st) (h2 : a = b → Qf st) : SC B C .NotEq (.str a) (.str b) st Qt Qf := fun s v u ok I r1 r2 => by
  simp only [RV] at r1 r2; obtain ⟨t, rfl⟩ := r1; obtain ⟨t', rfl⟩ := r2
  exact ne_str ⟨_, rfl, postB_of I (fun e => h1 (by simpa using e)) fun e => h2 (by simpa using e)⟩
theorem SC_eq_int {a b : Int} {Qt Qf : St → Prop} (h1 : a = b → Qt st) (h2 : a ≠ b → Qf st) : SC B C .Eq (.int a) (.int b) st Qt Qf := fun s v u ok I r1 r2 => by
  simp only [RV] at r1 r2; obtain ⟨t, rfl⟩ := r1; obtain ⟨t', rfl⟩ := r2
  exact eq_int ⟨_, rfl, postB_of I (fun e => h1 (beq_iff_eq.mp e)) fun e => h2 (beq_eq_false_iff_ne.mp e)⟩
theorem SC_ne_int {a b : Int} {Qt Qf : St → Prop} (h1 : a ≠ b → Qt st) (h2 : a = b → Qf st) : SC B C .NotEq (.int a) (.int b) st Qt Qf := fun s v u ok I r1 r2 => by
  simp only [RV] at r1 r2; obtain ⟨t, rfl⟩ := r1; obtain ⟨t', rfl⟩ := r2
  exact ne_int ⟨_, rfl, postB_of I (fun e => h1 (by simpa using e)) fun e => h2 (by simpa using e)⟩
theorem SC_lt_int {a b : Int} {Qt Qf : St → Prop} (h1 : a < b → Qt st) (h2 : ¬ a < b → Qf st) : SC B C .Lt (.int a) (.int b) st Qt Qf := fun s v u ok I r1 r2 => by
  simp only [RV] at r1 r2; obtain ⟨t, rfl⟩ := r1; obtain ⟨t', rfl⟩ := r2
  exact lt_int ⟨_, rfl, postB_of I (fun e => h1 (of_decide_eq_true e)) fun e => h2 (of_decide_eq_false e)⟩
theorem SC_gt_int {a b : Int} {Qt Qf : St → Prop} (h1 : b < a → Qt st) (h2 : ¬ b < a → Qf st) : SC B C .Gt (.int a) (.int b) st Qt Qf := fun s v u ok I r1 r2 => by
  simp only [RV] at r1 r2; obtain ⟨t, rfl⟩ := r1; obtain ⟨t', rfl⟩ := r2
  exact gt_int ⟨_, rfl, postB_of I (fun e => h1 (of_decide_eq_true e)) fun e => h2 (of_decide_eq_false e)⟩
theorem RVs.strs {h : Heap} : ∀ {ys : List PySem.Str} {vs : List Value}, RVs h (ys.map V.str) vs → StrsAre vs ys
  | [], _, r => by simp only [List.map_nil, RVs] at r; subst r; exact .nil
  | y :: ys, _, r => by
    simp only [List.map_cons, RVs, RV] at r
    obtain ⟨v, q, rfl, ⟨t, rfl⟩, b⟩ := r
    exact .cons _ _ (RVs.strs b)
theorem isTup_of {h : Heap} {a : Addr} {xs : List Value} {n : Nat} (e : h.get? a = some (tupObj xs n)) : IsTup h a xs.toArray := ⟨_, e, rfl, n, rfl⟩
theorem isList_of {h : Heap} {a : Addr} {xs : List Value} {n : Nat} (e : h.get? a = some (listObj xs n)) : h.IsList a xs.toArray := ⟨_, e, rfl, n, rfl⟩

theorem SC_in_strs {a : PySem.Str} {ys : List PySem.Str} {l : List V} {Qt Qf : St → Prop} (hl : l = ys.map V.str) (h1 : a ∈ ys → Qt st) (h2 : a ∉ ys → Qf st) : SC B C .In (.str a) (.tup l) st Qt Qf := fun s v u ok I r1 r2 => by
  subst hl
  simp only [RV] at r1 r2; obtain ⟨t, rfl⟩ := r1; obtain ⟨b, xs, n, rfl, g, rs⟩ := r2
  refine in_tuple_strs (isTup_of g) rs.strs ⟨_, rfl, postB_of I (fun e => h1 ?_) fun e => h2 ?_⟩
  · obtain ⟨y, hy, e⟩ := List.any_eq_true.mp e; rw [← beq_iff_eq.mp e]; exact hy
  · intro hm; rw [List.any_eq_false] at e; exact e a hm (by simp)
theorem SC_notIn_strs {a : PySem.Str} {ys : List PySem.Str} {l : List V} {Qt Qf : St → Prop} (hl : l = ys.map V.str) (h1 : a ∉ ys → Qt st) (h2 : a ∈ ys → Qf st) : SC B C .NotIn (.str a) (.tup l) st Qt Qf := fun s v u ok I r1 r2 => by
  subst hl
  simp only [RV] at r1 r2; obtain ⟨t, rfl⟩ := r1; obtain ⟨b, xs, n, rfl, g, rs⟩ := r2
  refine notin_tuple_strs (isTup_of g) rs.strs ⟨_, rfl, postB_of I (fun e => h1 ?_) fun e => h2 ?_⟩
  · intro hm
    have : ys.any (· == a) = true := List.any_eq_true.mpr ⟨a, hm, by simp⟩
    rw [this] at e; cases e
  · simp only [Bool.not_eq_false'] at e
    obtain ⟨y, hy, e⟩ := List.any_eq_true.mp e; rw [← beq_iff_eq.mp e]; exact hy

/-! dicts by a str key -/
noncomputable def lookD (d : List (PySem.Str × V)) (k : PySem.Str) : Option V := (d.find? fun p => p.1 = k).map (·.2)
theorem DRep.look {h : Heap} (k : PySem.Str) : ∀ {d : List (PySem.Str × V)} {kvs : List (PySem.Str × Value)}, DRep h d kvs →
    (∀ x, lookD d k = some x → ∃ v, valueAt kvs k = some v ∧ RV h x v) ∧ (lookD d k = none → valueAt kvs k = none)
  | [], _, r => by
    have r : _ = [] := r
    subst r; exact ⟨fun x e => by simp [lookD] at e, fun _ => rfl⟩
  | (n, x) :: d, _, r => by
    obtain ⟨v, q, rfl, a, b⟩ := r
    obtain ⟨i1, i2⟩ := DRep.look k b
    by_cases hn : n = k
    · subst hn
      refine ⟨fun y e => ?_, fun e => ?_⟩
      · simp [lookD] at e; subst e; exact ⟨v, by simp [valueAt], a⟩
      · simp [lookD] at e
    · have e1 : lookD ((n, x) :: d) k = lookD d k := by simp [lookD, hn]
      have e2 : valueAt ((n, v) :: q) k = valueAt q k := by simp [valueAt, hn]
      rw [e1, e2]; exact ⟨i1, i2⟩

theorem MRep.notModules {s : Shared} {a : Addr} {m : MObj} (I : Inv B s st) (e : st a = some m) : (a == sysModules) = false :=
  beq_eq_false_iff_ne.mpr (Nat.ne_of_gt (Nat.lt_of_lt_of_le (modules_low B.nolimit) (I.tr _ _ e).1))

theorem SC_in_dict {k : PySem.Str} {a : Addr} {d : List (PySem.Str × V)} {Qt Qf : St → Prop} (hd : st a = some (.dict d)) (h1 : ∀ x, lookD d k = some x → Qt st) (h2 : lookD d k = none → Qf st) : SC B C .In (.str k) (.ref a) st Qt Qf := fun s v u ok I r1 r2 => by
  simp only [RV] at r1 r2; obtain ⟨t, rfl⟩ := r1; subst r2
  obtain ⟨_, kvs, hk, hr⟩ := I.tr _ _ hd
  obtain ⟨i1, i2⟩ := hr.look k
  refine wpAny_in_of (strKind_is B.prog B.w k t) (MRep.notModules I hd) hk.mapOf ⟨_, rfl, ?_⟩
  refine postB_of I (fun e => ?_) fun e => ?_
  · cases q : lookD d k with
    | none => rw [i2 q] at e; cases e
    | some x => exact h1 x q
  · cases q : lookD d k with
    | none => exact h2 q
    | some x => obtain ⟨v, e', _⟩ := i1 x q; rw [e'] at e; cases e
theorem SC_notIn_dict {k : PySem.Str} {a : Addr} {d : List (PySem.Str × V)} {Qt Qf : St → Prop} (hd : st a = some (.dict d)) (h1 : lookD d k = none → Qt st) (h2 : ∀ x, lookD d k = some x → Qf st) : SC B C .NotIn (.str k) (.ref a) st Qt Qf := fun s v u ok I r1 r2 => by
  simp only [RV] at r1 r2; obtain ⟨t, rfl⟩ := r1; subst r2
  obtain ⟨_, kvs, hk, hr⟩ := I.tr _ _ hd
  obtain ⟨i1, i2⟩ := hr.look k
  refine wpAny_notIn_of (strKind_is B.prog B.w k t) (MRep.notModules I hd) hk.mapOf ⟨_, rfl, ?_⟩
  refine postB_of I (fun e => ?_) fun e => ?_
  · cases q : lookD d k with
    | none => exact h1 q
    | some x => obtain ⟨v, e', _⟩ := i1 x q; rw [e'] at e; cases e
  · cases q : lookD d k with
    | none => rw [i2 q] at e; cases e
    | some x => exact h2 x q

/-! tests -/
theorem ST_cmp {l r : Expr} {op : CmpOp} {pos : Pos} {Qt Qf : St → Prop} (h : SE B C fr l st fun x st1 => SE B C fr r st1 fun y st2 => SC B C op x y st2 Qt Qf)
    (hm : behindInMarks op r = false := by with_unfolding_all rfl) : ST B C fr (.Compare l [op] [r] pos) st Qt Qf := fun s ok I F hL => by
  refine wpAny_isTrue_Compare1 (wpAny_mono (h s ok I F hL) (fun v s1 hq0 => ?_) fun _ _ x => x) hm
  obtain ⟨x, st1, r1, I1, e1, h1⟩ := hq0
  obtain ⟨F1, hL1⟩ := F.ext I e1 hL
  refine wpAny_mono (h1 s1 ok I1 F1 hL1) (fun u s2 hq0 => ?_) fun _ _ x => x
  obtain ⟨y, st2, r2, I2, e2, h2⟩ := hq0
  refine wpAny_mono (h2 s2 v u ok I2 (r1.mono (I1.keepT0 e2)) r2) (fun c s3 hq0 => ?_) fun _ _ x => x
  obtain ⟨b, hb, st3, I3, e3, h3⟩ := hq0
  subst hb
  exact wpAny_truthy_bool ⟨st3, I3, (e1.trans e2).trans e3, h3⟩
theorem SE_cmp {l r : Expr} {op : CmpOp} {pos : Pos} {Q : V → St → Prop} (h : SE B C fr l st fun x st1 => SE B C fr r st1 fun y st2 => SC B C op x y st2 (Q (.bool true)) (Q (.bool false)))
    (hm : behindInMarks op r = false := by with_unfolding_all rfl) : SE B C fr (.Compare l [op] [r] pos) st Q := fun s ok I F hL => by
  refine wpAny_Compare1 (wpAny_mono (h s ok I F hL) (fun v s1 hq0 => ?_) fun _ _ x => x) hm
  obtain ⟨x, st1, r1, I1, e1, h1⟩ := hq0
  obtain ⟨F1, hL1⟩ := F.ext I e1 hL
  refine wpAny_mono (h1 s1 ok I1 F1 hL1) (fun u s2 hq0 => ?_) fun _ _ x => x
  obtain ⟨y, st2, r2, I2, e2, h2⟩ := hq0
  refine wpAny_mono (h2 s2 v u ok I2 (r1.mono (I1.keepT0 e2)) r2) (fun c s3 hq0 => ?_) fun _ _ x => x
  obtain ⟨b, hb, st3, I3, e3, h3⟩ := hq0
  subst hb
  exact ⟨.bool b, st3, by simp [RV], I3, (e1.trans e2).trans e3, by cases b <;> exact h3⟩
theorem ST_not {x : Expr} {pos : Pos} {Qt Qf : St → Prop} (h : ST B C fr x st Qf Qt) : ST B C fr (.UnaryOp .Not x pos) st Qt Qf := fun s ok I F hL =>
  isTrue_not (wpAny_mono (h s ok I F hL) (fun b s1 ⟨st1, I1, e1, h1⟩ => ⟨st1, I1, e1, by cases b <;> exact h1⟩) fun _ _ x => x)
theorem ST_andNil {pos : Pos} {Qt Qf : St → Prop} (h : Qt st) : ST B C fr (.BoolOp .And [] pos) st Qt Qf := fun s ok I F hL => isTrue_and_nil ⟨st, I, .refl, h⟩
theorem ST_orNil {pos : Pos} {Qt Qf : St → Prop} (h : Qf st) : ST B C fr (.BoolOp .Or [] pos) st Qt Qf := fun s ok I F hL => isTrue_or_nil ⟨st, I, .refl, h⟩
theorem PostB.up {s s1 s' : Shared} {st st1 : St} {Qt Qf : St → Prop} {b : Bool} (e : Ext NoX s.heap st s1.heap st1) (p : PostB B s1 st1 Qt Qf b s') : PostB B s st Qt Qf b s' :=
  let ⟨st', a, b, c⟩ := p; ⟨st', a, e.trans b, c⟩
theorem ST_and {x : Expr} {rest : List Expr} {pos : Pos} {Qt Qf : St → Prop} (h : ST B C fr x st (fun st1 => ST B C fr (.BoolOp .And rest pos) st1 Qt Qf) Qf) : ST B C fr (.BoolOp .And (x :: rest) pos) st Qt Qf := fun s ok I F hL => by
  refine isTrue_and (wpAny_mono (h s ok I F hL) (fun b s1 hq0 => ?_) fun _ _ x => x)
  obtain ⟨st1, I1, e1, h1⟩ := hq0
  obtain ⟨F1, hL1⟩ := F.ext I e1 hL
  cases b with
  | true => exact wpAny_mono (h1 s1 ok I1 F1 hL1) (fun _ _ p => p.up e1) fun _ _ x => x
  | false => exact ⟨st1, I1, e1, h1⟩
theorem ST_or {x : Expr} {rest : List Expr} {pos : Pos} {Qt Qf : St → Prop} (h : ST B C fr x st Qt (fun st1 => ST B C fr (.BoolOp .Or rest pos) st1 Qt Qf)) : ST B C fr (.BoolOp .Or (x :: rest) pos) st Qt Qf := fun s ok I F hL => by
  refine isTrue_or (wpAny_mono (h s ok I F hL) (fun b s1 hq0 => ?_) fun _ _ x => x)
  obtain ⟨st1, I1, e1, h1⟩ := hq0
  obtain ⟨F1, hL1⟩ := F.ext I e1 hL
  cases b with
  | false => exact wpAny_mono (h1 s1 ok I1 F1 hL1) (fun _ _ p => p.up e1) fun _ _ x => x
  | true => exact ⟨st1, I1, e1, h1⟩
theorem ST_name {x : PySem.Str} {pos : Pos} {b : Bool} {Qt Qf : St → Prop} (hm : (x, .bool b) ∈ fr) (h1 : b = true → Qt st) (h2 : b = false → Qf st) : ST B C fr (.Name x pos) st Qt Qf := fun s ok I F hL =>
  isTrue_plain (wpAny_mono (SE_loc (Q := fun v st' => v = .bool b ∧ st' = st) hm ⟨rfl, rfl⟩ s ok I F hL) (fun v s1 ⟨x, st1, r1, I1, e1, hx, hs⟩ => by
    subst hx hs; simp only [RV] at r1; subst r1
    exact wpAny_truthy_bool ⟨st1, I1, e1, by cases b <;> simp_all⟩) fun _ _ x => x)

theorem SE_IfExp {t body orelse : Expr} {pos : Pos} {Q : V → St → Prop} (h : ST B C fr t st (fun st1 => SE B C fr body st1 Q) (fun st1 => SE B C fr orelse st1 Q)) : SE B C fr (.IfExp t body orelse pos) st Q := fun s ok I F hL => by
  refine IfExp_ (wpAny_mono (h s ok I F hL) (fun b s1 hq0 => ?_) fun _ _ x => x)
  obtain ⟨st1, I1, e1, h1⟩ := hq0
  obtain ⟨F1, hL1⟩ := F.ext I e1 hL
  cases b <;> exact wpAny_mono (h1 s1 ok I1 F1 hL1) (fun _ _ p => p.up e1) fun _ _ x => x
theorem SE_orNil {e : Expr} {pos : Pos} {Q : V → St → Prop} (h : SE B C fr e st Q) : SE B C fr (.BoolOp .Or [e] pos) st Q := fun s ok I F hL => BoolOp_one (h s ok I F hL)
theorem SE_andNil {e : Expr} {pos : Pos} {Q : V → St → Prop} (h : SE B C fr e st Q) : SE B C fr (.BoolOp .And [e] pos) st Q := fun s ok I F hL => BoolOp_one (h s ok I F hL)
theorem SE_or {e1 e2 : Expr} {rest : List Expr} {pos : Pos} {Q : V → St → Prop} (h : SE B C fr e1 st fun v st1 => ∃ b, v = .bool b ∧ (b = true → Q (.bool true) st1) ∧ (b = false → SE B C fr (.BoolOp .Or (e2 :: rest) pos) st1 Q)) :
    SE B C fr (.BoolOp .Or (e1 :: e2 :: rest) pos) st Q := fun s ok I F hL => by
  refine BoolOp_or (wpAny_mono (h s ok I F hL) (fun v s1 hq0 => ?_) fun _ _ x => x)
  obtain ⟨x, st1, r1, I1, e1, b, hx, ht, hf⟩ := hq0
  obtain ⟨F1, hL1⟩ := F.ext I e1 hL
  subst hx; simp only [RV] at r1; subst r1
  refine wpAny_truthy_bool ?_
  cases b with
  | true => exact ⟨.bool true, st1, by simp [RV], I1, e1, ht rfl⟩
  | false => exact wpAny_mono (hf rfl s1 ok I1 F1 hL1) (fun _ _ p => p.up e1) fun _ _ x => x
theorem SE_and {e1 e2 : Expr} {rest : List Expr} {pos : Pos} {Q : V → St → Prop} (h : SE B C fr e1 st fun v st1 => ∃ b, v = .bool b ∧ (b = true → SE B C fr (.BoolOp .And (e2 :: rest) pos) st1 Q) ∧ (b = false → Q (.bool false) st1)) :
    SE B C fr (.BoolOp .And (e1 :: e2 :: rest) pos) st Q := fun s ok I F hL => by
  refine BoolOp_and (wpAny_mono (h s ok I F hL) (fun v s1 hq0 => ?_) fun _ _ x => x)
  obtain ⟨x, st1, r1, I1, e1, b, hx, ht, hf⟩ := hq0
  obtain ⟨F1, hL1⟩ := F.ext I e1 hL
  subst hx; simp only [RV] at r1; subst r1
  refine wpAny_truthy_bool ?_
  cases b with
  | false => exact ⟨.bool false, st1, by simp [RV], I1, e1, hf rfl⟩
  | true => exact wpAny_mono (ht rfl s1 ok I1 F1 hL1) (fun _ _ p => p.up e1) fun _ _ x => x
theorem SE_neg {i : Int} {k : Nat} {p1 p2 : Pos} {Q : V → St → Prop} (h : Q (.int (-i)) st) : SE B C fr (.UnaryOp .USub (.Constant (.int i) k p1) p2) st Q := fun s ok I F hL =>
  UnaryOp_ (wpAny_Constant_int (neg_int ⟨.int (-i), st, by simp [RV], I.keeps (fun _ _ e => e), .keeps (fun _ _ e => e), h⟩))

/-! arithmetic -/
theorem SOp_add {a b : Int} {Q : V → St → Prop} (h : Q (.int (a + b)) st) : SOp B C .Add (.int a) (.int b) st Q := fun s v u ok I r1 r2 => by
  simp only [RV] at r1 r2; obtain ⟨t, rfl⟩ := r1; obtain ⟨t', rfl⟩ := r2
  exact add_int ⟨.int (a + b), st, by simp [RV], I.keeps (fun _ _ e => e), .keeps (fun _ _ e => e), h⟩
theorem SOp_sub {a b : Int} {Q : V → St → Prop} (h : Q (.int (a - b)) st) : SOp B C .Sub (.int a) (.int b) st Q := fun s v u ok I r1 r2 => by
  simp only [RV] at r1 r2; obtain ⟨t, rfl⟩ := r1; obtain ⟨t', rfl⟩ := r2
  exact sub_int ⟨.int (a - b), st, by simp [RV], I.keeps (fun _ _ e => e), .keeps (fun _ _ e => e), h⟩
theorem SOp_mod {a b : Int} {Q : V → St → Prop} (hb : b ≠ 0) (h : Q (.int (a.fmod b)) st) : SOp B C .Mod (.int a) (.int b) st Q := fun s v u ok I r1 r2 => by
  simp only [RV] at r1 r2; obtain ⟨t, rfl⟩ := r1; obtain ⟨t', rfl⟩ := r2
  exact mod_int hb ⟨.int (a.fmod b), st, by simp [RV], I.keeps (fun _ _ e => e), .keeps (fun _ _ e => e), h⟩
end
end
section
theorem Ns.notStill {h : Heap} {L : Addr} {m : PySem.Str → Option Value} (n : h.Ns L m) {o : Obj} (e : h.get? L = some o) : ¬ Obj.Still o := fun c => by
  obtain ⟨es, ep, d⟩ := Ns.cls n e
  exact c.2 es ep d

abbrev AtL (C : Cfg) : Addr → Prop := fun b => b = C.L

section
variable {B : Base} {C : Cfg} {fr : Fr'} {st : St}

theorem FR.notStill {h : Heap} (F : FR h C fr) {o : Obj} (e : h.get? C.L = some o) : ¬ Obj.Still o := let ⟨_, n, _⟩ := F.ns; Ns.notStill n e

theorem keepT_frame {h h' : Heap} {L : Addr} (hs : Heap.SameBut L h h') (hn : ∀ o, h.get? L = some o → ¬ Obj.Still o) : KeepT h h' := fun b o e c => by
  by_cases hb : b = L
  · subst hb; exact absurd c (hn o e)
  · exact (hs.2 b hb).trans e
theorem Inv.frame {s : Shared} {L : Addr} {h' : Heap} {tk : Tok} (I : Inv B s st) (hs : Heap.SameBut L s.heap h') (hL : st L = none) (hnew : B.h₀.objs.size ≤ L) (hx : ∃ o, h'.get? L = some o)
    (hn : ∀ o, s.heap.get? L = some o → ¬ Obj.Still o) : Inv B { s with heap := h', toks := tk } st := by
  have kT := keepT_frame hs hn
  refine ⟨fun b o e => ?_, I.gens, I.os, fun b mb e => ?_, ?_⟩
  · have : b ≠ L := Nat.ne_of_lt (Nat.lt_of_lt_of_le (Heap.lt_size e) hnew)
    show h'.get? b = some o
    rw [hs.2 b this]; exact I.base b o e
  · have hb : b ≠ L := fun q => by subst q; rw [hL] at e; cases e
    obtain ⟨p, q⟩ := I.tr b mb e
    exact ⟨p, q.mono kT (hs.2 b hb)⟩
  · by_cases hb : B.wit = L
    · obtain ⟨o, e⟩ := hx; exact ⟨o, by rw [hb]; exact e⟩
    · obtain ⟨o, e⟩ := I.alive; exact ⟨o, (hs.2 _ hb).trans e⟩
theorem Ext.frame {h h' : Heap} (hs : Heap.SameBut C.L h h') (hx : ∃ o, h'.get? C.L = some o) : Ext (AtL C) h st h' st := fun b o e e' => by
  by_cases hb : b = C.L
  · subst hb; obtain ⟨o', g⟩ := hx; exact ⟨e', o', g, fun n => absurd rfl n⟩
  · exact ⟨e', o, (hs.2 b hb).trans e, fun _ => rfl⟩

/-- the frame through a step of its own -/
theorem FR.extL {s s' : Shared} {st st' : St} {h : Heap} (e : Ext (AtL C) h st s'.heap st') (hL : st C.L = none) (hx : ∃ o, h.get? C.L = some o) : st' C.L = none := let ⟨o, g⟩ := hx; (e _ _ g hL).1

inductive Put0 (C : Cfg) : Fr' → PySem.Str → V → Fr' → Prop
  | hit (x u v r) : Put0 C ((x, u) :: r) x v ((x, v) :: r)
  | new (x v) : C.sc.names.lookup x = some .local → (x == ("__debug__" : PySem.Str)) = false → Put0 C [] x v [(x, v)]
  | skip (y u r x v r') : y ≠ x → Put0 C r x v r' → Put0 C ((y, u) :: r) x v ((y, u) :: r')

theorem Put0.mem {x : PySem.Str} {v : V} {fr fr' : Fr'} (p : Put0 C fr x v fr') (nd : (fr.map (·.1)).Nodup) : ∀ q ∈ fr', q = (x, v) ∨ (q ∈ fr ∧ q.1 ≠ x) := by
  induction p with
  | hit x u v r =>
    intro q hq
    rcases List.mem_cons.mp hq with rfl | hq
    · exact .inl rfl
    · refine .inr ⟨.tail _ hq, fun e => ?_⟩
      simp only [List.map_cons, List.nodup_cons] at nd
      exact nd.1 (List.mem_map.mpr ⟨q, hq, e⟩)
  | new x v _ _ => intro q hq; simp at hq; exact .inl hq
  | skip y u r x v r' hne _ ih =>
    intro q hq
    simp only [List.map_cons, List.nodup_cons] at nd
    rcases List.mem_cons.mp hq with rfl | hq
    · exact .inr ⟨.head _, hne⟩
    · rcases ih nd.2 q hq with e | ⟨a, b⟩
      · exact .inl e
      · exact .inr ⟨.tail _ a, b⟩
theorem Put0.keys {x : PySem.Str} {v : V} {fr fr' : Fr'} (p : Put0 C fr x v fr') : ∀ y, y ∈ fr'.map (·.1) → y = x ∨ y ∈ fr.map (·.1) := by
  induction p with
  | hit x u v r => intro y hy; simp only [List.map_cons, List.mem_cons] at hy ⊢; exact .inr hy
  | new x v _ _ => intro y hy; simp at hy; exact .inl hy
  | skip y u r x v r' hne _ ih =>
    intro z hz
    simp only [List.map_cons, List.mem_cons] at hz ⊢
    rcases hz with h | h
    · exact .inr (.inl h)
    · rcases ih z h with h | h
      · exact .inl h
      · exact .inr (.inr h)
theorem Put0.nd {x : PySem.Str} {v : V} {fr fr' : Fr'} (p : Put0 C fr x v fr') (nd : (fr.map (·.1)).Nodup) : (fr'.map (·.1)).Nodup := by
  induction p with
  | hit x u v r => simpa using nd
  | new x v _ _ => simp
  | skip y u r x v r' hne hp ih =>
    simp only [List.map_cons, List.nodup_cons] at nd ⊢
    refine ⟨fun hy => ?_, ih nd.2⟩
    rcases hp.keys y hy with h | h
    · exact hne h
    · exact nd.1 h
theorem Put0.kind {x : PySem.Str} {v : V} {fr fr' : Fr'} (p : Put0 C fr x v fr') (k : ∀ p ∈ fr, C.sc.names.lookup p.1 = some .local ∧ (p.1 == ("__debug__" : PySem.Str)) = false) :
    (C.sc.names.lookup x = some .local ∧ (x == ("__debug__" : PySem.Str)) = false) ∧ ∀ p ∈ fr', C.sc.names.lookup p.1 = some .local ∧ (p.1 == ("__debug__" : PySem.Str)) = false := by
  induction p with
  | hit x u v r =>
    refine ⟨k (x, u) (.head _), fun q hq => ?_⟩
    rcases List.mem_cons.mp hq with rfl | hq
    · exact k (x, u) (.head _)
    · exact k q (.tail _ hq)
  | new x v a b => exact ⟨⟨a, b⟩, fun q hq => by simp at hq; subst hq; exact ⟨a, b⟩⟩
  | skip y u r x v r' hne hp ih =>
    obtain ⟨i1, i2⟩ := ih fun q hq => k q (.tail _ hq)
    refine ⟨i1, fun q hq => ?_⟩
    rcases List.mem_cons.mp hq with rfl | hq
    · exact k _ (.head _)
    · exact i2 q hq

/-- a name of the frame is put (the names differ) -/
noncomputable def Put (C : Cfg) (fr : Fr') (x : PySem.Str) (v : V) (fr' : Fr') : Prop := (fr.map (·.1)).Nodup → Put0 C fr x v fr'
/-- a name of the frame is stored -/
theorem store_ {s : Shared} {x : PySem.Str} {v : Value} {X : V} {fr' : Fr'} {P : Unit → Shared → Prop} (ok : C.Ok B) (I : Inv B s st) (F : FR s.heap C fr) (hL : st C.L = none) (p : Put C fr x X fr') (r : RV s.heap X v)
    (h : ∀ s', Inv B s' st → FR s'.heap C fr' → Ext (AtL C) s.heap st s'.heap st → P () s') : wpAny (Mod B) C.A (storeName C.env x v) P Bad s := by
  have p := p F.nd
  obtain ⟨m, hn, hv⟩ := F.ns
  obtain ⟨⟨k1, k2⟩, k3⟩ := p.kind F.kind
  refine wpAny_storeName_local k1 hn (fun h' hn' hs => ?_) (by show (C.sc.kind == .class || (C.sc.kind == .module && _)) = false; rw [ok.kind]; rfl)
  have hx : ∃ o, h'.get? C.L = some o := let ⟨o, _, _, g, _⟩ := hn'; ⟨o, g⟩
  have kT := keepT_frame hs fun o e => F.notStill e
  refine h _ (I.frame hs hL ok.new hx fun o e => F.notStill e) ⟨p.nd F.nd, k3, _, hn', fun q hq => ?_⟩ (.frame hs hx)
  rcases p.mem F.nd q hq with rfl | ⟨a, b⟩
  · exact ⟨v, by simp, r.mono kT⟩
  · obtain ⟨u, e, r'⟩ := hv q a
    exact ⟨u, by simp [b, e], r'.mono kT⟩

noncomputable def PostX (B : Base) (C : Cfg) (s : Shared) (st : St) (Kn : Fr' → St → Prop) (Kr : V → St → Prop) (f : Flow) (s' : Shared) : Prop :=
  match f with
  | .next => ∃ fr' st', Inv B s' st' ∧ FR s'.heap C fr' ∧ Ext (AtL C) s.heap st s'.heap st' ∧ Kn fr' st'
  | .ret v => ∃ x st', RV s'.heap x v ∧ Inv B s' st' ∧ Ext (AtL C) s.heap st s'.heap st' ∧ Kr x st'
  | _ => False
theorem PostX.up {s s1 s' : Shared} {st st1 : St} {Kn : Fr' → St → Prop} {Kr : V → St → Prop} {f : Flow} (e : Ext (AtL C) s.heap st s1.heap st1) (p : PostX B C s1 st1 Kn Kr f s') : PostX B C s st Kn Kr f s' := by
  cases f with
  | next => obtain ⟨fr', st', a, b, c, d⟩ := p; exact ⟨fr', st', a, b, e.trans c, d⟩
  | ret v => obtain ⟨x, st', a, b, c, d⟩ := p; exact ⟨x, st', a, b, e.trans c, d⟩
  | _ => exact p

noncomputable def SX (B : Base) (C : Cfg) (fr : Fr') (ss : List Stmt) (st : St) (Kn : Fr' → St → Prop) (Kr : V → St → Prop) : Prop :=
  ∀ s, C.Ok B → Inv B s st → FR s.heap C fr → st C.L = none → wpAny (Mod B) C.A (execs ss C.env) (PostX B C s st Kn Kr) Bad s
noncomputable def SX1 (B : Base) (C : Cfg) (fr : Fr') (t : Stmt) (st : St) (Kn : Fr' → St → Prop) (Kr : V → St → Prop) : Prop :=
  ∀ s, C.Ok B → Inv B s st → FR s.heap C fr → st C.L = none → wpAny (Mod B) C.A (exec t C.env) (PostX B C s st Kn Kr) Bad s
noncomputable def AS (B : Base) (C : Cfg) (fr : Fr') (t : Expr) (x : V) (st : St) (K : Fr' → St → Prop) : Prop :=
  ∀ s v, C.Ok B → Inv B s st → FR s.heap C fr → st C.L = none → RV s.heap x v →
    wpAny (Mod B) C.A (assign t C.env v) (fun _ s' => ∃ fr' st', Inv B s' st' ∧ FR s'.heap C fr' ∧ Ext (AtL C) s.heap st s'.heap st' ∧ K fr' st') Bad s

theorem Ext.toL {h h' : Heap} {st st' : St} (e : Ext NoX h st h' st') : Ext (AtL C) h st h' st' := e.weak fun _ x => x.elim

theorem FR.there {h : Heap} (F : FR h C fr) : ∃ o, h.get? C.L = some o := let ⟨_, ⟨o, _, _, g, _⟩, _⟩ := F.ns; ⟨o, g⟩

theorem SX_nil {Kn : Fr' → St → Prop} {Kr : V → St → Prop} (h : Kn fr st) : SX B C fr [] st Kn Kr := fun s ok I F hL => wpAny_execs_nil ⟨fr, st, I, F, .refl, h⟩
theorem SX_cons {t : Stmt} {ss : List Stmt} {Kn : Fr' → St → Prop} {Kr : V → St → Prop} (h : SX1 B C fr t st (fun fr1 st1 => SX B C fr1 ss st1 Kn Kr) Kr) : SX B C fr (t :: ss) st Kn Kr := fun s ok I F hL => by
  rw [execs_cons]
  refine wpAny_bind (wpAny_mono (h s ok I F hL) (fun f s1 p => ?_) fun _ _ x => x)
  cases f with
  | next =>
    obtain ⟨fr1, st1, I1, F1, e1, h1⟩ := p
    obtain ⟨o, g⟩ := F.there
    exact wpAny_mono (h1 s1 ok I1 F1 (e1 _ _ g hL).1) (fun _ _ q => q.up e1) fun _ _ x => x
  | ret v => exact wpAny_pure p
  | brk => exact p.elim
  | cont => exact p.elim
theorem SX_one {t : Stmt} {Kn : Fr' → St → Prop} {Kr : V → St → Prop} (h : SX1 B C fr t st Kn Kr) : SX B C fr [t] st Kn Kr := fun s ok I F hL => by
  rw [execs_cons]
  refine wpAny_bind (wpAny_mono (h s ok I F hL) (fun f s1 p => ?_) fun _ _ x => x)
  cases f with
  | next => exact wpAny_execs_nil p
  | ret v => exact wpAny_pure p
  | brk => exact p.elim
  | cont => exact p.elim
/-- names that are no more asked are let go -/
theorem SX_forget {fr0 : Fr'} {ss : List Stmt} {Kn : Fr' → St → Prop} {Kr : V → St → Prop} (hs : ∀ p ∈ fr0, p ∈ fr) (nd : (fr0.map (·.1)).Nodup) (h : SX B C fr0 ss st Kn Kr) : SX B C fr ss st Kn Kr := fun s ok I F hL =>
  h s ok I ⟨nd, fun p hp => F.kind p (hs p hp), let ⟨m, n, k⟩ := F.ns; ⟨m, n, fun p hp => k p (hs p hp)⟩⟩ hL
theorem SX.mono {ss : List Stmt} {Kn Kn' : Fr' → St → Prop} {Kr Kr' : V → St → Prop} (h : SX B C fr ss st Kn Kr) (k1 : ∀ fr st, Kn fr st → Kn' fr st) (k2 : ∀ v st, Kr v st → Kr' v st) : SX B C fr ss st Kn' Kr' := fun s ok I F hL =>
  wpAny_mono (h s ok I F hL) (fun f s1 p => by
    cases f with
    | next => obtain ⟨fr1, st1, a, b, c, d⟩ := p; exact ⟨fr1, st1, a, b, c, k1 _ _ d⟩
    | ret v => obtain ⟨x, st1, a, b, c, d⟩ := p; exact ⟨x, st1, a, b, c, k2 _ _ d⟩
    | brk => exact p.elim
    | cont => exact p.elim) fun _ _ x => x

theorem SX1_assign {x : PySem.Str} {e : Expr} {p1 p2 : Pos} {Kn : Fr' → St → Prop} {Kr : V → St → Prop} (h : SE B C fr e st fun v st1 => ∃ fr1, Put C fr x v fr1 ∧ Kn fr1 st1)
    (hs : swapsWith e (some (.Name x p1)) p2.line C.env = pure false := by rfl) : SX1 B C fr (.Assign [.Name x p1] e p2) st Kn Kr := fun s ok I F hL => by
  refine wpAny_Assign_Name (wpAny_mono (h s ok I F hL) (fun v s1 hq0 => ?_) fun _ _ x => x) hs
  obtain ⟨X, st1, r1, I1, e1, fr1, hp, h1⟩ := hq0
  obtain ⟨F1, hL1⟩ := F.ext I e1 hL
  exact store_ ok I1 F1 hL1 hp r1 fun s2 I2 F2 e2 => ⟨fr1, st1, I2, F2, e1.toL.trans e2, h1⟩
theorem SX1_if {t : Expr} {b1 b2 : List Stmt} {pos : Pos} {Kn : Fr' → St → Prop} {Kr : V → St → Prop} (h : ST B C fr t st (fun st1 => SX B C fr b1 st1 Kn Kr) (fun st1 => SX B C fr b2 st1 Kn Kr)) : SX1 B C fr (.If t b1 b2 pos) st Kn Kr := fun s ok I F hL => by
  refine wpAny_If (wpAny_mono (h s ok I F hL) (fun b s1 hq0 => ?_) fun _ _ x => x)
  obtain ⟨st1, I1, e1, h1⟩ := hq0
  obtain ⟨F1, hL1⟩ := F.ext I e1 hL
  cases b <;> exact wpAny_mono (h1 s1 ok I1 F1 hL1) (fun _ _ p => p.up e1.toL) fun _ _ x => x
theorem SX1_ret {e : Expr} {pos : Pos} {Kn : Fr' → St → Prop} {Kr : V → St → Prop} (h : SE B C fr e st Kr) : SX1 B C fr (.Return (some e) pos) st Kn Kr := fun s ok I F hL =>
  wpAny_Return_some (wpAny_mono (h s ok I F hL) (fun v s1 ⟨X, st1, r1, I1, e1, h1⟩ => ⟨X, st1, r1, I1, e1.toL, h1⟩) fun _ _ x => x)
theorem SX1_retNone {pos : Pos} {Kn : Fr' → St → Prop} {Kr : V → St → Prop} (h : Kr .none st) : SX1 B C fr (.Return none pos) st Kn Kr := fun s ok I F hL =>
  wpAny_Return_none ⟨.none, st, by simp [RV], I, .refl, h⟩
theorem SX1_expr {e : Expr} {pos : Pos} {Kn : Fr' → St → Prop} {Kr : V → St → Prop} (h : SE B C fr e st fun v st1 => v = .none ∧ Kn fr st1) 
    (hs : swapsWith e none pos.line C.env = pure false := by rfl) : SX1 B C fr (.Expr e pos) st Kn Kr := fun s ok I F hL =>
  wpAny_Expr (wpAny_mono (h s ok I F hL) (fun v s1 ⟨X, st1, r1, I1, e1, hx, h1⟩ => by
    subst hx; simp only [RV] at r1; subst r1
    exact ⟨fr, st1, I1, (F.ext I e1 hL).1, e1.toL, h1⟩) fun _ _ x => x) (by unfold interactive; rw [show C.env.scope.kind = .function from ok.kind]; rfl) hs

theorem AS_name {x : PySem.Str} {pos : Pos} {X : V} {fr1 : Fr'} {K : Fr' → St → Prop} (hp : Put C fr x X fr1) (h : K fr1 st) : AS B C fr (.Name x pos) X st K := fun s v ok I F hL r =>
  wpAny_assign_Name (store_ ok I F hL hp r fun s2 I2 F2 e2 => ⟨fr1, st, I2, F2, e2, h⟩)
theorem keep_of_extBut {h h' : Heap} (he : Heap.ExtBut h.objs.size h h') : ∀ b o, h.get? b = some o → h'.get? b = some o := fun b o e => he b o (Nat.ne_of_lt (Heap.lt_size e)) e
theorem FR.keeps {h h' : Heap} (F : FR h C fr) (k : ∀ b o, h.get? b = some o → h'.get? b = some o) : FR h' C fr :=
  ⟨F.nd, F.kind, let ⟨m, n, q⟩ := F.ns; ⟨m, n.keeps k, fun p hp => let ⟨v, a, b⟩ := q p hp; ⟨v, a, b.mono fun b o e _ => k b o e⟩⟩⟩
theorem AS_pair {x y : PySem.Str} {k : Nat} {p1 p2 pos : Pos} {X Y : V} {fr1 fr2 : Fr'} {K : Fr' → St → Prop} (hp : Put C fr x X fr1) (hq : Put C fr1 y Y fr2) (h : K fr2 st) : AS B C fr (.Tuple [.Name x p1, .Name y p2] k pos) (.tup [X, Y]) st K := fun s v ok I F hL r => by
  simp only [RV, RVs] at r
  obtain ⟨a, xs, n, rfl, g, u1, r1, rfl, q1, u2, r2, rfl, q2, rfl⟩ := r
  refine assign_Tuple_tuple ok.room.handled (isTup_of g) rfl rfl fun h' he => ?_
  have k' := keep_of_extBut he
  have kT : KeepT s.heap h' := fun b o e _ => k' b o e
  show wpAny _ _ (do holding [u2] (assign (.Name x p1) C.env u1); assignInOrder [assign (.Name y p2) C.env] [u2]) _ _ _
  refine wpAny_bind (wpAny_holding (wpAny_assign_Name (store_ ok (I.keeps k' (tk := s.toks)) (F.keeps k') hL hp (q1.mono kT) fun s2 I2 F2 e2 => ?_)))
  show wpAny _ _ (do holding [] (assign (.Name y p2) C.env u2); assignInOrder [] []) _ _ _
  have kT2 : KeepT h' s2.heap := (I.keeps k' (tk := s.toks)).keepT e2 fun b hb o e => by
    subst hb; exact (F.keeps k').notStill e
  refine wpAny_bind (wpAny_holding (wpAny_assign_Name (store_ ok I2 F2 hL hq ((q2.mono kT).mono kT2) fun s3 I3 F3 e3 => ?_)))
  exact wpAny_pure ⟨fr2, st, I3, F3, (Ext.keeps k').trans (e2.trans e3), h⟩
theorem SX1_unpack {elts : List Expr} {k : Nat} {e : Expr} {p1 p2 : Pos} {Kn : Fr' → St → Prop} {Kr : V → St → Prop} (h : SE B C fr e st fun v st1 => AS B C fr (.Tuple elts k p1) v st1 Kn)
    (hs : swapsWithSole [.Tuple elts k p1] e p2.line C.env = pure false := by rfl) (hw : swappedStores [.Tuple elts k p1] e C.env = pure none := by rfl) : SX1 B C fr (.Assign [.Tuple elts k p1] e p2) st Kn Kr := fun s ok I F hL => by
  refine Assign_Tuple (wpAny_mono (h s ok I F hL) (fun v s1 hq0 => ?_) fun _ _ x => x) hs hw
  obtain ⟨X, st1, r1, I1, e1, h1⟩ := hq0
  obtain ⟨F1, hL1⟩ := F.ext I e1 hL
  exact wpAny_mono (h1 s1 v ok I1 F1 hL1 r1) (fun _ s2 ⟨fr2, st2, I2, F2, e2, h2⟩ => ⟨fr2, st2, I2, F2, e1.toL.trans e2, h2⟩) fun _ _ x => x

end
end
section
section
variable {B : Base} {C : Cfg} {fr : Fr'} {st : St}

/-- the rest of a loop over the values `l`; `Chk`: what must stand at each draw -/
noncomputable def Loop (B : Base) (C : Cfg) (Chk : St → Prop) (tgt : Expr) (body : List Stmt) : List V → Fr' → St → (Fr' → St → Prop) → (V → St → Prop) → Prop
  | [], fr, st, Kn, _ => Chk st ∧ Kn fr st
  | x :: l, fr, st, Kn, Kr => Chk st ∧ AS B C fr tgt x st fun fr1 st1 => SX B C fr1 body st1 (fun fr2 st2 => Loop B C Chk tgt body l fr2 st2 Kn Kr) Kr
theorem Loop.inv {Chk : St → Prop} {tgt : Expr} {body : List Stmt} {Kn : Fr' → St → Prop} {Kr : V → St → Prop} (J : List V → Fr' → St → Prop) (hc : ∀ l fr st, J l fr st → Chk st)
    (step : ∀ x l fr st, J (x :: l) fr st → AS B C fr tgt x st fun fr1 st1 => SX B C fr1 body st1 (fun fr2 st2 => J l fr2 st2) Kr) (fin : ∀ fr st, J [] fr st → Kn fr st) : ∀ l fr st, J l fr st → Loop B C Chk tgt body l fr st Kn Kr
  | [], fr, st, h => ⟨hc _ _ _ h, fin fr st h⟩
  | x :: l, fr, st, h => ⟨hc _ _ _ h, fun s v ok I F hL r => wpAny_mono (step x l fr st h s v ok I F hL r) (fun _ s1 ⟨fr1, st1, a, b, c, d⟩ => ⟨fr1, st1, a, b, c, d.mono (fun fr2 st2 q => Loop.inv J hc step fin l fr2 st2 q) fun _ _ q => q⟩) fun _ _ x => x⟩

theorem FR.same {h h' : Heap} {it : Addr} (F : FR h C fr) (hs : Heap.SameBut it h h') (hn : ∀ o, h.get? it = some o → ¬ Obj.Still o) (hL : it ≠ C.L) : FR h' C fr :=
  ⟨F.nd, F.kind, let ⟨m, n, q⟩ := F.ns; ⟨m, n.sameBut hs (Ne.symm hL), fun p hp => let ⟨v, a, b⟩ := q p hp; ⟨v, a, b.mono (keepT_frame hs hn)⟩⟩⟩
theorem keepT_extBut {h h' : Heap} {it : Addr} (hs : Heap.ExtBut it h h') (hn : ∀ o, h.get? it = some o → ¬ Obj.Still o) : KeepT h h' := fun b o e c => by
  by_cases hb : b = it
  · subst hb; exact absurd c (hn o e)
  · exact hs b o hb e
theorem FR.extBut' {h h' : Heap} {it : Addr} (F : FR h C fr) (hs : Heap.ExtBut it h h') (hn : ∀ o, h.get? it = some o → ¬ Obj.Still o) (hL : it ≠ C.L) : FR h' C fr :=
  ⟨F.nd, F.kind, let ⟨m, n, q⟩ := F.ns; ⟨m, n.extBut hs (Ne.symm hL), fun p hp => let ⟨v, a, b⟩ := q p hp; ⟨v, a, b.mono (keepT_extBut hs hn)⟩⟩⟩
theorem Inv.extBut {s : Shared} {it : Addr} {h' : Heap} {tk : Tok} (I : Inv B s st) (hs : Heap.ExtBut it s.heap h') (hu : st it = none) (hnew : B.h₀.objs.size ≤ it) (hw : B.wit ≠ it)
    (hn : ∀ o, s.heap.get? it = some o → ¬ Obj.Still o) : Inv B { s with heap := h', toks := tk } st := by
  have kT := keepT_extBut hs hn
  refine ⟨fun b o e => hs b o (Nat.ne_of_lt (Nat.lt_of_lt_of_le (Heap.lt_size e) hnew)) (I.base b o e), I.gens, I.os, fun b mb e => ?_, ?_⟩
  · have hb : b ≠ it := fun q => by subst q; rw [hu] at e; cases e
    obtain ⟨p, q⟩ := I.tr b mb e
    obtain ⟨o, g⟩ := q.there
    exact ⟨p, q.mono kT ((hs b o hb g).trans g.symm)⟩
  · obtain ⟨o, e⟩ := I.alive; exact ⟨o, hs _ o hw e⟩

/-- what a source's iterator must do -/
structure Source (B : Base) (C : Cfg) (Chk : St → Prop) (tgt : Expr) (items : List V) (it : Addr) (It : Nat → Heap → Prop) : Prop where
  there : ∀ i h, It i h → ∃ o, h.get? it = some o ∧ ¬ Obj.Still o
  keep : ∀ i h h', It i h → KeepT h h' → h'.get? it = h.get? it → It i h'
  item : ∀ i s st x (P : Option Value → Shared → Prop), Inv B s st → Chk st → It i s.heap → items[i]? = some x →
    (∀ v h' tk, RV s.heap x v → It (i + 1) h' → Heap.SameBut it s.heap h' → wpAny (Mod B) C.A (letOwnedTupleGo tgt (.ref it) v) (fun _ s2 => s2 = { s with heap := h', toks := tk }) Bad { s with heap := h', toks := tk } → P (some v) { s with heap := h', toks := tk }) →
    wpAny (Mod B) C.A (pyNext (.ref it)) P Bad s
  done : ∀ i s st (P : Option Value → Shared → Prop), Inv B s st → Chk st → It i s.heap → items[i]? = none →
    (∀ h', Heap.ExtBut it s.heap h' → P none { s with heap := h' }) → wpAny (Mod B) C.A (pyNext (.ref it)) P Bad s

theorem Ext.toHeap {X : Addr → Prop} {s : Shared} {st st' : St} {s' : Shared} (e : Ext X s.heap st s'.heap st') : Ext X s.heap st s'.heap st' := e

theorem loop_sound {Chk : St → Prop} {tgt : Expr} {body : List Stmt} {Kn : Fr' → St → Prop} {Kr : V → St → Prop} {items : List V} {it : Addr} {It : Nat → Heap → Prop} (ok : C.Ok B) (S : Source B C Chk tgt items it It)
    (hnew : B.h₀.objs.size ≤ it) (hw : B.wit ≠ it) (hitL : it ≠ C.L) {s0 : Shared} {st0 : St} (hlt : ∀ b o, s0.heap.get? b = some o → b ≠ it) (hL0 : st0 C.L = none) (hLt : ∃ o, s0.heap.get? C.L = some o)
    {s1 : Shared} {st1 : St} (I1 : Inv B s1 st1) (F1 : FR s1.heap C fr) (e1 : Ext (AtL C) s0.heap st0 s1.heap st1) (hu : st1 it = none) (hI : It 0 s1.heap) (h : Loop B C Chk tgt body items fr st1 Kn Kr) :
    codeAny (Mod B) C.A (.forLoop tgt (.ref it) body [] C.env) (fun r s' => match r with | .ok f => PostX B C s0 st0 Kn Kr f s' | .error e => cameBackBy (Mod B) C.A C.env Bad e s') s1 := by
  refine codeAny_forLoop_any (fun n s' => ∃ i fr' st', n = items.length - i ∧ i ≤ items.length ∧ Inv B s' st' ∧ FR s'.heap C fr' ∧ Ext (AtL C) s0.heap st0 s'.heap st' ∧ st' it = none ∧ It i s'.heap ∧ Loop B C Chk tgt body (items.drop i) fr' st' Kn Kr)
    ?_ items.length ⟨0, fr, st1, by simp, Nat.zero_le _, I1, F1, e1, hu, hI, by simpa using h⟩
  rintro n s' ⟨i, fr', st', rfl, hi, I', F', e', hu', hI', h'⟩
  obtain ⟨oi, goi, hni⟩ := S.there _ _ hI'
  have hn' : ∀ o, s'.heap.get? it = some o → ¬ Obj.Still o := fun o g => by rw [goi] at g; cases g; exact hni
  have hL' : st' C.L = none := let ⟨o, g⟩ := hLt; (e' _ _ g hL0).1
  rcases Nat.lt_or_ge i items.length with hlt' | hge
  · have hd : items.drop i = items[i] :: items.drop (i + 1) := List.drop_eq_getElem_cons hlt'
    rw [hd] at h'
    obtain ⟨hc, h'⟩ := h'
    refine wpAny_mono (S.item i s' st' items[i] (fun r s₁ => match r with
      | none => False
      | some v => wpAny (Mod B) C.A (letOwnedTupleGo tgt (.ref it) v) (fun _ s₁' =>
          wpAny (Mod B) C.A (assign tgt C.env v) (fun _ s₂ => wpAny (Mod B) C.A (execs body C.env) (fun f s₃ => match f with
            | .next | .cont => ∃ m, m < items.length - i ∧ ∃ i fr' st', m = items.length - i ∧ i ≤ items.length ∧ Inv B s₃ st' ∧ FR s₃.heap C fr' ∧ Ext (AtL C) s0.heap st0 s₃.heap st' ∧ st' it = none ∧ It i s₃.heap ∧ Loop B C Chk tgt body (items.drop i) fr' st' Kn Kr
            | .brk => PostX B C s0 st0 Kn Kr .next s₃
            | .ret v => PostX B C s0 st0 Kn Kr (.ret v) s₃) Bad s₂) Bad s₁') Bad s₁) I' hc hI' (by simp [hlt']) fun v h1 tk r hI1 hs hgo => ?_) (fun r s₁ hr => ?_) fun _ _ x => x.elim
    · refine wpAny_mono hgo (fun _ s2 q => ?_) fun _ _ x => x
      subst q
      have kT := keepT_frame hs hn'
      obtain ⟨o1, g1, hn1⟩ := S.there _ _ hI1
      have IA : Inv B { s' with heap := h1, toks := tk } st' := I'.frame hs hu' hnew ⟨o1, g1⟩ hn'
      have FA : FR h1 C fr' := F'.same hs hn' hitL
      have eA : Ext (AtL C) s0.heap st0 h1 st' := fun b o g q => by
        obtain ⟨p, o', g', k⟩ := e' b o g q
        exact ⟨p, o', (hs.2 b (hlt b o g)).trans g', k⟩
      refine wpAny_mono (h' { s' with heap := h1, toks := tk } v ok IA FA hL' (r.mono kT)) (fun _ s2 hq0 => ?_) fun _ _ x => x
      obtain ⟨fr2, st2, I2, F2, e2, h2⟩ := hq0
      have h1it : h1.get? it = some o1 := g1
      obtain ⟨hu2, o2, g2, k2⟩ := e2 it o1 h1it hu'
      have : o2 = o1 := k2 hitL
      subst this
      have kT2 : KeepT h1 s2.heap := IA.keepT e2 fun b hb o e => by subst hb; exact FA.notStill e
      have hI2 : It (i + 1) s2.heap := S.keep _ _ _ hI1 kT2 (g2.trans h1it.symm)
      have e20 := eA.trans e2
      have hL2 : st2 C.L = none := let ⟨o, g⟩ := hLt; (e20 _ _ g hL0).1
      refine wpAny_mono (h2 s2 ok I2 F2 hL2) (fun f s3 p => ?_) fun _ _ x => x
      cases f with
      | next =>
        obtain ⟨fr3, st3, I3, F3, e3, h3⟩ := p
        obtain ⟨hu3, o3, g3, k3⟩ := e3 it _ g2 hu2
        have : o3 = o2 := k3 hitL
        subst this
        have kT3 : KeepT s2.heap s3.heap := I2.keepT e3 fun b hb o e => by subst hb; exact F2.notStill e
        exact ⟨items.length - (i + 1), by (first | lia -abstractProof | omega), i + 1, fr3, st3, rfl, hlt', I3, F3, e20.trans e3, hu3, S.keep _ _ _ hI2 kT3 (g3.trans g2.symm), h3⟩
      | ret v =>
        obtain ⟨x, st3, r3, I3, e3, h3⟩ := p
        exact ⟨x, st3, r3, I3, e20.trans e3, h3⟩
      | brk => exact p.elim
      | cont => exact p.elim
    · cases r with
      | none => exact hr.elim
      | some v =>
        exact wpAny_mono hr (fun _ s2 q => wpAny_mono q (fun _ s3 q' => wpAny_mono q' (fun f s4 z => by cases f <;> exact z) fun _ _ x => x.elim) fun _ _ x => x.elim) fun _ _ x => x.elim
  · have hi2 : i = items.length := Nat.le_antisymm hi hge
    subst hi2
    rw [List.drop_length] at h'
    obtain ⟨hc, h'⟩ := h'
    refine wpAny_mono (S.done _ s' st' (fun r s₁ => r = none ∧ PostX B C s0 st0 Kn Kr .next s₁) I' hc hI' (by simp) fun h1 he => ⟨rfl, ?_⟩) (fun r s₁ hr => ?_) fun _ _ x => x.elim
    · refine ⟨fr', st', I'.extBut he hu' hnew hw hn', F'.extBut' he hn' hitL, fun b o g q => ?_, h'⟩
      obtain ⟨p, o', g', k⟩ := e' b o g q
      exact ⟨p, o', he b o' (hlt b o g) g', k⟩
    · obtain ⟨rfl, hr⟩ := hr
      exact wpAny_execs_nil hr

theorem go_name {M : Model} {x : PySem.Str} {p : Pos} {it v : Value} {s : Shared} {A : Around} : wpAny M A (letOwnedTupleGo (.Name x p) it v) (fun _ s2 => s2 = s) Bad s := wpAny_of_eq (a := ()) rfl rfl
theorem go_tupiter {prog : Program} {w : World} {A : Around} {elts : List Expr} {x1} {pos : Pos} {I l : Addr} {v : Value} {i : Nat} {s : Shared} (hit : IsTupIter s.heap I l i) :
    wpAny (model prog w) A (letOwnedTupleGo (.Tuple elts x1 pos) (.ref I) v) (fun _ s2 => s2 = s) Bad s := by
  obtain ⟨o, ho, hc, hd⟩ := hit
  cases v with
  | ref T =>
    unfold letOwnedTupleGo
    refine wpAny_bind (wpAny_load ho ?_)
    rw [hc, hd]
    show wpAny _ A (if (["enumerate", "zip", "dict_itemiterator", "dict_reverseitemiterator", "odict_iterator", "itertools.zip_longest", "itertools.pairwise"].contains "tuple_iterator" &&
        (#[.ref l, .int i 0] : Array Value)[0]? == some (rawInt T)) = true then _ else _) _ _ s
    rw [if_neg (by
      intro h
      rw [show (["enumerate", "zip", "dict_itemiterator", "dict_reverseitemiterator", "odict_iterator", "itertools.zip_longest", "itertools.pairwise"].contains "tuple_iterator") = false from by decide, Bool.false_and] at h
      cases h)]
    exact wpAny_pure rfl
  | _ => exact wpAny_of_eq (a := ()) rfl rfl
theorem go_listiter {prog : Program} {w : World} {A : Around} {elts : List Expr} {x1} {pos : Pos} {I l : Addr} {v : Value} {i : Nat} {s : Shared} (hit : s.heap.IsListIter I l i) :
    wpAny (model prog w) A (letOwnedTupleGo (.Tuple elts x1 pos) (.ref I) v) (fun _ s2 => s2 = s) Bad s := by
  cases v with
  | ref T => exact wpAny_letOwnedTupleGo_listiter hit rfl
  | _ => exact wpAny_of_eq (a := ()) rfl rfl

/-- the targets that are served -/
inductive TgtOk : Expr → Prop
  | name (x p) : TgtOk (.Name x p)
  | tuple (es k p) : TgtOk (.Tuple es k p)

theorem source_tuple {tgt : Expr} (ht : TgtOk tgt) (ok : C.Ok B) {it t : Addr} {xs : List Value} {n : Nat} {items : List V} :
    Source B C (fun _ => True) tgt items it (fun i h => IsTupIter h it t i ∧ h.get? t = some (tupObj xs n) ∧ t ≠ it ∧ RVs h items xs) where
  there := fun i h ⟨⟨o, g, hc, hd⟩, _⟩ => ⟨o, g, fun c => by rcases c.1 with c | c <;> rw [hc] at c <;> simp at c⟩
  keep := fun i h h' ⟨⟨o, g, r⟩, q, hne, rs⟩ k e => ⟨⟨o, e.trans g, r⟩, k _ _ q ⟨.inl rfl, fun _ _ e => by cases e⟩, hne, rs.mono k⟩
  item := fun i s st x P I _ ⟨hit, q, hne, rs⟩ hx hP => by
    obtain ⟨v, hv, r⟩ := rs.get hx
    have hn : ∀ o, s.heap.get? it = some o → ¬ Obj.Still o := fun o g c => by
      obtain ⟨o', g', hc, _⟩ := hit
      rw [g'] at g; cases g
      rcases c.1 with c | c <;> rw [hc] at c <;> simp at c
    refine next_tuple_item hit (isTup_of q) (by simpa using hv) fun h' hit' hs => ?_
    refine hP v h' s.toks r ⟨hit', (hs.2 t hne).trans q, hne, rs.mono (keepT_frame hs hn)⟩ hs ?_
    cases ht with
    | name x p => exact go_name
    | tuple es k p => exact go_tupiter (s := { s with heap := h' }) hit'
  done := fun i s st P I _ ⟨hit, q, hne, rs⟩ hx hP =>
    next_tuple_end ok.room.handled hit (isTup_of q) (by have := rs.length; simp only [List.getElem?_eq_none_iff] at hx; simp; (first | lia -abstractProof | omega)) hP

theorem source_list {tgt : Expr} (ht : TgtOk tgt) (ok : C.Ok B) {it a : Addr} {items : List V} (hne : a ≠ it) :
    Source B C (fun st => st a = some (.list items)) tgt items it (fun i h => h.IsListIter it a i) where
  there := fun i h ⟨o, g, hc, hd⟩ => ⟨o, g, fun c => by rcases c.1 with c | c <;> rw [hc] at c <;> simp at c⟩
  keep := fun i h h' ⟨o, g, r⟩ k e => ⟨o, e.trans g, r⟩
  item := fun i s st x P I hc hit hx hP => by
    obtain ⟨_, vs, n, g, rs⟩ := I.tr _ _ hc
    obtain ⟨v, hv, r⟩ := rs.get hx
    refine wpAny_pyNext_list_item hit (isList_of g) (by simpa using hv) fun h' hit' hs => ?_
    refine hP v h' s.toks r hit' hs ?_
    cases ht with
    | name x p => exact go_name
    | tuple es k p => exact go_listiter (s := { s with heap := h' }) hit'
  done := fun i s st P I hc hit hx hP => by
    obtain ⟨_, vs, n, g, rs⟩ := I.tr _ _ hc
    exact wpAny_pyNext_list_end ok.room.handled hit (isList_of g) (by have := rs.length; simp only [List.getElem?_eq_none_iff] at hx; simp; (first | lia -abstractProof | omega)) hP

noncomputable def rangeV (n : Int) : List V := (List.range n.toNat).map fun (i : Nat) => V.int (i : Int)
theorem source_range {x : PySem.Str} {p : Pos} (ok : C.Ok B) {it : Addr} {n : Int} :
    Source B C (fun _ => True) (.Name x p) (rangeV n) it (fun i h => IsRangeIter h it i (n.toNat - (i : Int)) 1) where
  there := fun i h g => ⟨_, g, fun c => by rcases c.1 with c | c <;> simp at c⟩
  keep := fun i h h' g k e => e.trans g
  item := fun i s st x P I _ g hx hP => by
    have hi : i < n.toNat := by
      rcases Nat.lt_or_ge i n.toNat with h | h
      · exact h
      · rw [List.getElem?_eq_none (by simp [rangeV, h])] at hx; cases hx
    have hx' : x = V.int i := by simp [rangeV, hi] at hx; exact hx.symm
    subst hx'
    refine wpAny_pyNext_range_item g (by (first | lia -abstractProof | omega)) fun h' g' hs => ?_
    refine hP _ h' (s.toks + 1) (by simp [RV]) ?_ hs go_name
    have e1 : ((i + 1 : Nat) : Int) = (i : Int) + 1 := by push_cast; rfl
    have e2 : (n.toNat : Int) - ((i + 1 : Nat) : Int) = (n.toNat : Int) - i - 1 := by push_cast; (first | lia -abstractProof | omega)
    rw [e1]
    have : (n.toNat : Int) - ((i : Int) + 1) = (n.toNat : Int) - i - 1 := by (first | lia -abstractProof | omega)
    rw [this]; exact g'
  done := fun i s st P I _ g hx hP => by
    have hi : n.toNat ≤ i := by
      rcases Nat.lt_or_ge i n.toNat with h | h
      · simp [rangeV, h] at hx
      · exact h
    exact wpAny_pyNext_range_end ok.room.handled g (by (first | lia -abstractProof | omega)) hP

theorem SX1_for_tup {tgt iter : Expr} {body : List Stmt} {pos : Pos} {Kn : Fr' → St → Prop} {Kr : V → St → Prop} (h : SE B C fr iter st fun v st1 => ∃ l, v = .tup l ∧ Loop B C (fun _ => True) tgt body l fr st1 Kn Kr) (ht : TgtOk tgt)
    (hs : ∀ x, foldedSetIterable iter C.env x = pure x := by intro _; rfl) : SX1 B C fr (.For tgt iter body [] pos) st Kn Kr := fun s ok I F hL => by
  refine wpAny_For (wpAny_mono (h s ok I F hL) (fun v s1 hq0 => ?_) fun _ _ x => x) hs
  obtain ⟨x, st1, r1, I1, e1, l, hx, h1⟩ := hq0
  subst hx
  obtain ⟨F1, hL1⟩ := F.ext I e1 hL
  simp only [RV] at r1
  obtain ⟨t, xs, n, rfl, g, rs⟩ := r1
  refine iter_tuple (isTup_of g) ?_
  have k : ∀ b o, s1.heap.get? b = some o → (s1.heap.push { cls := .type "tuple_iterator", data := .fields #[.ref t, .int 0 0] }).get? b = some o := fun b o e => Heap.get?_push_of_some _ e
  have hlt : ∀ b o, s1.heap.get? b = some o → b ≠ s1.heap.objs.size := fun b o e => Nat.ne_of_lt (Heap.lt_size e)
  obtain ⟨oL, gL⟩ := F1.there
  obtain ⟨ow, gw⟩ := I1.alive
  have := loop_sound (s0 := s1) (st0 := st1) ok (source_tuple ht ok (it := s1.heap.objs.size) (t := t) (xs := xs) (n := n) (items := l)) I1.above (hlt _ _ gw) (Ne.symm (hlt _ _ gL)) hlt hL1 F1.there
    (I1.keeps k (tk := s1.toks)) (F1.keeps k) (.keeps k) I1.fresh ⟨⟨_, Heap.get?_push_size _ rfl, rfl, rfl⟩, k _ _ g, hlt _ _ g, rs.mono fun b o e _ => k b o e⟩ h1
  exact codeAny_mono this fun r s' q => by
    cases r with
    | ok f => exact PostX.up e1.toL q
    | error e => exact q
theorem SX1_for_list {tgt iter : Expr} {body : List Stmt} {pos : Pos} {Kn : Fr' → St → Prop} {Kr : V → St → Prop} (h : SE B C fr iter st fun v st1 => ∃ a l, v = .ref a ∧ st1 a = some (.list l) ∧ Loop B C (fun st => st a = some (.list l)) tgt body l fr st1 Kn Kr) (ht : TgtOk tgt)
    (hs : ∀ x, foldedSetIterable iter C.env x = pure x := by intro _; rfl) : SX1 B C fr (.For tgt iter body [] pos) st Kn Kr := fun s ok I F hL => by
  refine wpAny_For (wpAny_mono (h s ok I F hL) (fun v s1 hq0 => ?_) fun _ _ x => x) hs
  obtain ⟨x, st1, r1, I1, e1, a, l, hx, ha, h1⟩ := hq0
  subst hx
  obtain ⟨F1, hL1⟩ := F.ext I e1 hL
  simp only [RV] at r1
  subst r1
  obtain ⟨_, vs, n, g, rs⟩ := I1.tr _ _ ha
  refine wpAny_pyIter_list (isList_of g) ?_
  have k : ∀ b o, s1.heap.get? b = some o → (s1.heap.push { cls := .type "list_iterator", data := .fields #[.ref a, .int 0 0] }).get? b = some o := fun b o e => Heap.get?_push_of_some _ e
  have hlt : ∀ b o, s1.heap.get? b = some o → b ≠ s1.heap.objs.size := fun b o e => Nat.ne_of_lt (Heap.lt_size e)
  obtain ⟨oL, gL⟩ := F1.there
  obtain ⟨ow, gw⟩ := I1.alive
  have := loop_sound (s0 := s1) (st0 := st1) ok (source_list ht ok (it := s1.heap.objs.size) (a := a) (items := l) (hlt _ _ g)) I1.above (hlt _ _ gw) (Ne.symm (hlt _ _ gL)) hlt hL1 F1.there
    (I1.keeps k (tk := s1.toks)) (F1.keeps k) (.keeps k) I1.fresh ⟨_, Heap.get?_push_size _ rfl, rfl, rfl⟩ h1
  exact codeAny_mono this fun r s' q => by
    cases r with
    | ok f => exact PostX.up e1.toL q
    | error e => exact q
theorem small_range {n : Int} (h : n < 2 ^ 40) (h0 : - 2 ^ 40 < n) : Builtin.Range.small 0 n 1 = true ∧ Builtin.Range.rangeSize 0 n 1 = n.toNat := by
  have e : Builtin.Range.rangeSize 0 n 1 = n.toNat := by
    unfold Builtin.Range.rangeSize
    rw [if_pos (by decide)]
    split <;> (first | lia -abstractProof | omega)
  refine ⟨?_, e⟩
  unfold Builtin.Range.small
  rw [e]
  have f : ∀ m : Int, -2 ^ 41 < m → m < 2 ^ 41 → Builtin.Range.rangeFitsLong m = true := fun m h1 h2 => by
    unfold Builtin.Range.rangeFitsLong
    simp only [Bool.and_eq_true, decide_eq_true_eq]
    (first | lia -abstractProof | omega)
  simp only [f 0 (by (first | lia -abstractProof | omega)) (by (first | lia -abstractProof | omega)), f n (by (first | lia -abstractProof | omega)) (by (first | lia -abstractProof | omega)), f 1 (by (first | lia -abstractProof | omega)) (by (first | lia -abstractProof | omega)), f n.toNat (by (first | lia -abstractProof | omega)) (by (first | lia -abstractProof | omega)), f (n + (1 - 1)) (by (first | lia -abstractProof | omega)) (by (first | lia -abstractProof | omega)), Bool.true_and, Bool.and_true]
  simp
theorem SX1_for_range {x : PySem.Str} {p : Pos} {iter : Expr} {body : List Stmt} {pos : Pos} {Kn : Fr' → St → Prop} {Kr : V → St → Prop} (h : SE B C fr iter st fun v st1 => ∃ n, v = .range n ∧ n < 2 ^ 40 ∧ - 2 ^ 40 < n ∧ Loop B C (fun _ => True) (.Name x p) body (rangeV n) fr st1 Kn Kr)
    (hs : ∀ x, foldedSetIterable iter C.env x = pure x := by intro _; rfl) : SX1 B C fr (.For (.Name x p) iter body [] pos) st Kn Kr := fun s ok I F hL => by
  refine wpAny_For (wpAny_mono (h s ok I F hL) (fun v s1 hq0 => ?_) fun _ _ x => x) hs
  obtain ⟨x, st1, r1, I1, e1, n, hx, hn, hn0, h1⟩ := hq0
  subst hx
  obtain ⟨F1, hL1⟩ := F.ext I e1 hL
  simp only [RV] at r1
  obtain ⟨r, t1, t2, t3, rfl, g⟩ := r1
  obtain ⟨hsm, hsz⟩ := small_range hn hn0
  refine wpAny_pyIter_range g hsm ?_
  rw [hsz]
  have k : ∀ b o, s1.heap.get? b = some o → (s1.heap.push { cls := .type "range_iterator", data := .fields #[rawInt 0, rawInt n.toNat, rawInt 1] }).get? b = some o := fun b o e => Heap.get?_push_of_some _ e
  have hlt : ∀ b o, s1.heap.get? b = some o → b ≠ s1.heap.objs.size := fun b o e => Nat.ne_of_lt (Heap.lt_size e)
  obtain ⟨oL, gL⟩ := F1.there
  obtain ⟨ow, gw⟩ := I1.alive
  have := loop_sound (s0 := s1) (st0 := st1) ok (source_range ok (it := s1.heap.objs.size) (n := n)) I1.above (hlt _ _ gw) (Ne.symm (hlt _ _ gL)) hlt hL1 F1.there
    (I1.keeps k (tk := s1.toks)) (F1.keeps k) (.keeps k) I1.fresh (by show IsRangeIter _ _ _ _ _; simpa using Heap.get?_push_size _ rfl) h1
  exact codeAny_mono this fun r s' q => by
    cases r with
    | ok f => exact PostX.up e1.toL q
    | error e => exact q

/-- a while: an invariant with a measure -/
theorem SX1_while {t : Expr} {body : List Stmt} {pos : Pos} {Kn : Fr' → St → Prop} {Kr : V → St → Prop} (J : Nat → Fr' → St → Prop) (n : Nat) (h0 : J n fr st)
    (turn : ∀ n fr st, J n fr st → ST B C fr t st (fun st1 => SX B C fr body st1 (fun fr2 st2 => ∃ m, m < n ∧ J m fr2 st2) Kr) (fun st1 => Kn fr st1)) : SX1 B C fr (.While t body [] pos) st Kn Kr := fun s ok I F hL => by
  refine wpAny_While ?_
  refine codeAny_whileLoop (fun n s' => ∃ fr' st', Inv B s' st' ∧ FR s'.heap C fr' ∧ Ext (AtL C) s.heap st s'.heap st' ∧ J n fr' st') ?_ n ⟨fr, st, I, F, .refl, h0⟩
  rintro n s' ⟨fr', st', I', F', e', hJ⟩
  have hL' : st' C.L = none := let ⟨o, g⟩ := F.there; (e' _ _ g hL).1
  refine wpAny_mono (turn n fr' st' hJ s' ok I' F' hL') (fun b s1 hq0 => ?_) fun _ _ x => x.elim
  obtain ⟨st1, I1, e1, h1⟩ := hq0
  obtain ⟨F1, hL1⟩ := F'.ext I' e1 hL'
  cases b with
  | true =>
    simp only [if_true] at h1 ⊢
    refine wpAny_mono (h1 s1 ok I1 F1 hL1) (fun f s2 p => ?_) fun _ _ x => x.elim
    cases f with
    | next => obtain ⟨fr2, st2, I2, F2, e2, m, hm, h2⟩ := p; exact ⟨m, hm, fr2, st2, I2, F2, (e'.trans e1.toL).trans e2, h2⟩
    | ret v => obtain ⟨x, st2, r2, I2, e2, h2⟩ := p; exact ⟨x, st2, r2, I2, (e'.trans e1.toL).trans e2, h2⟩
    | brk => exact p.elim
    | cont => exact p.elim
  | false =>
    simp only [Bool.false_eq_true, if_false] at h1 ⊢
    exact wpAny_execs_nil ⟨fr', st1, I1, F1, e'.trans e1.toL, h1⟩
end
end
section
section
variable {B : Base} {C : Cfg} {fr : Fr'} {st : St}

/-! reading an item -/
theorem SE_sub {value slice : Expr} {pos : Pos} {Q : V → St → Prop} (h : SE B C fr value st fun x st1 => SE B C fr slice st1 fun y st2 =>
      ∀ s v u, C.Ok B → Inv B s st2 → RV s.heap x v → RV s.heap y u → wpAny (Mod B) C.A (subscriptTail value slice v u) (Post B s st2 Q) Bad s) : SE B C fr (.Subscript value slice pos) st Q := fun s ok I F hL => by
  refine Subscript_ (wpAny_mono (h s ok I F hL) (fun v s1 hq0 => ?_) fun _ _ x => x)
  obtain ⟨x, st1, r1, I1, e1, h1⟩ := hq0
  obtain ⟨F1, hL1⟩ := F.ext I e1 hL
  refine wpAny_mono (h1 s1 ok I1 F1 hL1) (fun u s2 hq0 => ?_) fun _ _ x => x
  obtain ⟨y, st2, r2, I2, e2, h2⟩ := hq0
  exact wpAny_mono (h2 s2 v u ok I2 (r1.mono (I1.keepT0 e2)) r2) (fun z s3 p => (p.up e2).up e1) fun _ _ x => x

/-- the index is no slice -/
noncomputable def NoSlice (slice : Expr) : Prop := ∀ o i, subscripted slice false o i = operate [o, i] (getItem o i)

theorem tail_tup {value slice : Expr} {l : List V} {k : Int} {e : V} {Q : V → St → Prop} (hs : NoSlice slice) (h0 : 0 ≤ k) (hk : k < 2 ^ 40) (he : l[k.toNat]? = some e) (h : Q e st) :
    ∀ s v u, C.Ok B → Inv B s st → RV s.heap (.tup l) v → RV s.heap (.int k) u → wpAny (Mod B) C.A (subscriptTail value slice v u) (Post B s st Q) Bad s := fun s v u ok I r1 r2 => by
  simp only [RV] at r1 r2
  obtain ⟨a, xs, n, rfl, g, rs⟩ := r1
  obtain ⟨t, rfl⟩ := r2
  obtain ⟨v, hv, r⟩ := rs.get he
  have hlt : k.toNat < xs.length := by
    rcases Nat.lt_or_ge k.toNat xs.length with q | q
    · exact q
    · rw [List.getElem?_eq_none q] at hv; cases hv
  refine item_tupleT (isTup_of g) (by (first | lia -abstractProof | omega)) (by (first | lia -abstractProof | omega)) (j := k.toNat) ?_ hv ⟨e, st, r, I, .refl, h⟩ (hs _ _)
  unfold seqIndex?
  have e1 : (if k < 0 then k + (xs.length : Int) else k) = k := if_neg (by (first | lia -abstractProof | omega))
  simp only [e1]
  rw [if_pos (by simp only [Bool.and_eq_true, decide_eq_true_eq]; (first | lia -abstractProof | omega))]
noncomputable def IsL (st : St) (a : Addr) (l : List V) : Prop := st a = some (.list l) ∨ st a = some (.flist l)
theorem IsL.rep {s : Shared} {a : Addr} {l : List V} (I : Inv B s st) (h : IsL st a l) : ∃ vs, s.heap.IsList a vs.toArray ∧ RVs s.heap l vs := by
  rcases h with h | h
  · obtain ⟨_, vs, n, g, q⟩ := I.tr _ _ h; exact ⟨vs, isList_of g, q⟩
  · obtain ⟨_, vs, g, q⟩ := I.tr _ _ h; exact ⟨vs, g, q⟩
theorem tail_list {value slice : Expr} {a : Addr} {l : List V} {k : Int} {e : V} {Q : V → St → Prop} (hs : NoSlice slice) (ha : IsL st a l) (h0 : 0 ≤ k) (hk : k < 2 ^ 40) (he : l[k.toNat]? = some e) (h : Q e st) :
    ∀ s v u, C.Ok B → Inv B s st → RV s.heap (.ref a) v → RV s.heap (.int k) u → wpAny (Mod B) C.A (subscriptTail value slice v u) (Post B s st Q) Bad s := fun s v u ok I r1 r2 => by
  simp only [RV] at r1 r2
  subst r1
  obtain ⟨t, rfl⟩ := r2
  obtain ⟨xs, hl, rs⟩ := ha.rep I
  obtain ⟨v, hv, r⟩ := rs.get he
  exact tail_any hl.typeIs slot_list_getitem.lookup (wpAny_getItem_list (x := v) hl h0 (by (first | lia -abstractProof | omega)) (by simpa using hv) ⟨e, st, r, I, .refl, h⟩) (hs _ _)
theorem tail_dict {value slice : Expr} {a : Addr} {d : List (PySem.Str × V)} {k : PySem.Str} {e : V} {Q : V → St → Prop} (hs : NoSlice slice) (ha : st a = some (.dict d)) (he : lookD d k = some e) (h : Q e st) :
    ∀ s v u, C.Ok B → Inv B s st → RV s.heap (.ref a) v → RV s.heap (.str k) u → wpAny (Mod B) C.A (subscriptTail value slice v u) (Post B s st Q) Bad s := fun s v u ok I r1 r2 => by
  simp only [RV] at r1 r2
  subst r1
  obtain ⟨t, rfl⟩ := r2
  obtain ⟨_, kvs, hk, hr⟩ := I.tr _ _ ha
  obtain ⟨v, hv, r⟩ := (hr.look k).1 e he
  exact tail_any hk.typeIs slot_dict_getitem.lookup (wpAny_getItem_of (strKind_is B.prog B.w k t) hk.mapOf hv ⟨e, st, r, I.keeps fun _ _ e => e, .keeps fun _ _ e => e, h⟩) (hs _ _)

/-! storing an item -/
theorem DRep.stored {h : Heap} (k : PySem.Str) {x : V} {v : Value} (r : RV h x v) : ∀ {d : List (PySem.Str × V)} {kvs : List (PySem.Str × Value)}, DRep h d kvs → (d.any fun p => p.1 = k) = (kvs.any fun p => p.1 = k) ∧
    DRep h (d.map fun p => if p.1 = k then (p.1, x) else p) (kvs.map fun p => if p.1 = k then (p.1, v) else p) ∧ DRep h (d ++ [(k, x)]) (kvs ++ [(k, v)])
  | [], _, q => by
    have q : _ = [] := q
    subst q
    exact ⟨rfl, rfl, v, [], rfl, r, rfl⟩
  | (n, y) :: d, _, q => by
    obtain ⟨u, q', rfl, a, b⟩ := q
    obtain ⟨i1, i2, i3⟩ := DRep.stored k r b
    refine ⟨by simp only [List.any_cons, i1], ?_, u, _, rfl, a, i3⟩
    simp only [List.map_cons]
    by_cases hn : n = k
    · simp only [hn, if_true]; exact ⟨v, _, rfl, r, i2⟩
    · simp only [hn, if_false]; exact ⟨u, _, rfl, a, i2⟩
noncomputable def storeD (d : List (PySem.Str × V)) (k : PySem.Str) (x : V) : List (PySem.Str × V) := if d.any (fun p => p.1 = k) then d.map (fun p => if p.1 = k then (p.1, x) else p) else d ++ [(k, x)]
theorem DRep.store {h : Heap} (k : PySem.Str) {x : V} {v : Value} (r : RV h x v) {d : List (PySem.Str × V)} {kvs : List (PySem.Str × Value)} (q : DRep h d kvs) : DRep h (storeD d k x) (PySem.stored kvs k v) := by
  obtain ⟨i1, i2, i3⟩ := DRep.stored k r q
  unfold storeD PySem.stored
  rw [← i1]
  split
  · exact i2
  · exact i3
theorem DRep.length {h : Heap} : ∀ {d : List (PySem.Str × V)} {kvs : List (PySem.Str × Value)}, DRep h d kvs → kvs.length = d.length
  | [], _, q => by
    have q : _ = [] := q
    subst q; rfl
  | (n, y) :: d, _, q => by
    obtain ⟨u, q', rfl, a, b⟩ := q
    simp [DRep.length b]

theorem RVs.set {h : Heap} {x : V} {v : Value} (r : RV h x v) : ∀ {l : List V} {vs : List Value} (i : Nat), RVs h l vs → RVs h (l.set i x) (vs.set i v)
  | [], _, i, q => by simp only [RVs] at q; subst q; simp [RVs]
  | y :: l, _, i, q => by
    simp only [RVs] at q
    obtain ⟨u, q', rfl, a, b⟩ := q
    cases i with
    | zero => simp only [List.set_cons_zero, RVs]; exact ⟨v, q', rfl, r, b⟩
    | succ i => simp only [List.set_cons_succ, RVs]; exact ⟨u, _, rfl, a, RVs.set r i b⟩
theorem Inv.notStill {s : Shared} (I : Inv B s st) {a : Addr} {m : MObj} (ha : st a = some m) : ∀ o, s.heap.get? a = some o → ¬ Obj.Still o := fun o g c => by
  have := (I.tr _ _ ha).2.clsNe g
  rcases c.1 with c | c
  · exact this.1 c
  · exact this.2 c
theorem SX1_setItem {value o i : Expr} {p1 p2 : Pos} {Kn : Fr' → St → Prop} {Kr : V → St → Prop}
    (h : SE B C fr value st fun x st1 => SE B C fr o st1 fun y st2 => SE B C fr i st2 fun z st3 =>
      (∃ a d k, y = .ref a ∧ z = .str k ∧ st3 a = some (.dict d) ∧ d.length ≤ 1000 ∧ Kn fr (st3.set a (.dict (storeD d k x)))) ∨
      (∃ a l k, y = .ref a ∧ z = .int k ∧ IsL st3 a l ∧ 0 ≤ k ∧ k < 2 ^ 40 ∧ k.toNat < l.length ∧ Kn fr (st3.set a (.flist (l.set k.toNat x)))))
    (hs : swapsWith value (some (.Subscript o i p1)) p2.line C.env = pure false := by rfl) : SX1 B C fr (.Assign [.Subscript o i p1] value p2) st Kn Kr := fun s ok I F hL => by
  refine wpAny_Assign_Subscript (wpAny_mono (h s ok I F hL) (fun v s1 hq0 => ?_) fun _ _ x => x) hs
  obtain ⟨x, st1, r1, I1, e1, h1⟩ := hq0
  obtain ⟨F1, hL1⟩ := F.ext I e1 hL
  refine wpAny_mono (h1 s1 ok I1 F1 hL1) (fun u s2 hq0 => ?_) fun _ _ x => x
  obtain ⟨y, st2, r2, I2, e2, h2⟩ := hq0
  obtain ⟨F2, hL2⟩ := F1.ext I1 e2 hL1
  refine wpAny_mono (h2 s2 ok I2 F2 hL2) (fun z s3 hq0 => ?_) fun _ _ x => x
  obtain ⟨zz, st3, r3, I3, e3, h3⟩ := hq0
  obtain ⟨F3, hL3⟩ := F2.ext I2 e3 hL2
  have r1' := (r1.mono (I1.keepT0 e2)).mono (I2.keepT0 e3)
  have r2' := r2.mono (I2.keepT0 e3)
  have e13 := (e1.trans e2).trans e3
  rcases h3 with ⟨a, d, k, rfl, rfl, ha, hz, hq⟩ | ⟨a, l, k, rfl, rfl, ha, h0, hk, hz, hq⟩
  · simp only [RV] at r2' r3
    subst r2'
    obtain ⟨t, rfl⟩ := r3
    obtain ⟨_, kvs, hkv, hr⟩ := I3.tr _ _ ha
    refine wpAny_setItem_pairs (strKind_is B.prog B.w k t) hkv (fun h' hm' hs' => ?_) (by rw [hr.length, sizeLine_eq]; (first | lia -abstractProof | omega))
    have hne : a ≠ C.L := fun q => by subst q; rw [hL3] at ha; cases ha
    have I4 : Inv B { s3 with heap := h', toks := s3.toks + 1 } (st3.set a (.dict (storeD d k x))) := I3.update hs' ha fun kT => ⟨_, hm', DRep.store k (r1'.mono kT) (hr.mono kT)⟩
    exact ⟨fr, _, I4, F3.same hs' (I3.notStill ha) hne, (e13.trans (.update hs' ha)).toL, hq⟩
  · simp only [RV] at r2' r3
    subst r2'
    obtain ⟨t, rfl⟩ := r3
    obtain ⟨vs, hl, rs⟩ := ha.rep I3
    obtain ⟨m, hm⟩ : ∃ m, st3 a = some m := by rcases ha with h | h <;> exact ⟨_, h⟩
    have hne : a ≠ C.L := fun q => by subst q; rw [hL3] at hm; cases hm
    refine wpAny_setItem_list hl h0 (by (first | lia -abstractProof | omega)) (by have := rs.length; simp; (first | lia -abstractProof | omega)) fun h' hl' hs' => ?_
    have I4 : Inv B { s3 with heap := h' } (st3.set a (.flist (l.set k.toNat x))) := I3.update (tk := s3.toks) hs' hm fun kT => ⟨vs.set k.toNat v, by simpa using hl', RVs.set (r1'.mono kT) _ (rs.mono kT)⟩
    exact ⟨fr, _, I4, F3.same hs' (I3.notStill hm) hne, (e13.trans (.update hs' hm)).toL, hq⟩

/-! attributes of an object -/
/-- the class C has `get` as every object has it, and no attribute `n` of its own -/
structure PlainAttr (B : Base) (C : Addr) (n : PySem.Str) : Prop where
  ga : findIn B.K (.ref C) "__getattribute__" = some (some (.builtin "object.__getattribute__"))
  miss : findIn B.K (.ref C) n = some none
  cls : ∃ cd, clsIn B.K C = some cd ∧ cd.hasDict = true

theorem lookIn_of {h : Heap} {a : Addr} {kvs : List (PySem.Str × Value)} {prog : Program} {w : World} (n : PySem.Str) (hd : h.DictOf (strKind prog w) a kvs) : ∃ o, h.get? a = some o ∧ lookIn n o = some (valueAt kvs n) := by
  have hm := hd.mapOf
  obtain ⟨o, es, ep, g, ex, hdat, hk, hf⟩ := hm
  refine ⟨o, g, ?_⟩
  unfold lookIn
  rw [hdat]
  have e2 := hf n
  unfold findBy at e2
  rw [← Array.find?_toList] at e2
  have hfun : (fun e : DictEntry => (strKind prog w).is n e.key) = fun e => e.key.isStr n := by funext e; exact (isStr_of n e.key).symm
  rw [hfun] at e2
  dsimp only
  cases q : es.toList.find? (fun e => e.key.isStr n) with
  | some e => rw [q] at e2; simpa using e2
  | none =>
    rw [q] at e2
    have : es.toList.any (fun e => e.refKey) = false := by
      rw [List.any_eq_false]
      intro e he hr
      obtain ⟨k, hk', _⟩ := hk e (Array.mem_toList_iff.mp he)
      have : Value.isStrOf k e.key = true := hk'
      unfold DictEntry.refKey at hr
      cases he2 : e.key <;> rw [he2] at this hr <;> simp_all [Value.isStrOf]
    dsimp only
    rw [this]
    simpa using e2

theorem SE_attr {x n : PySem.Str} {p1 p2 : Pos} {Q : V → St → Prop} (h : SE B C fr (.Name x p1) st fun y st1 => ∃ a Cl dx d e, y = .ref a ∧ st1 a = some (.inst Cl dx) ∧ st1 dx = some (.dict d) ∧ PlainAttr B Cl n ∧ lookD d n = some e ∧ (∀ u, e ≠ .glob u) ∧ Q e st1)
    (he : eval (.Attribute (.Name x p1) n p2) C.env = (do
      let o ← eval (.Name x p1) C.env
      standAt p2.atName
      let r ← holding [o] (getAttr o n true)
      letTemporaryGo (.Name x p1) o r
      pure r) := by with_unfolding_all rfl) : SE B C fr (.Attribute (.Name x p1) n p2) st Q := fun s ok I F hL => by
  refine Attribute_Name_ (wpAny_mono (h s ok I F hL) (fun v s1 hq0 => ?_) fun _ _ x => x) he
  obtain ⟨y, st1, r1, I1, e1, a, Cl, dx, d, e, hy, ha, hd, hp, hl, hg, hq⟩ := hq0
  subst hy
  simp only [RV] at r1
  subst r1
  obtain ⟨_, gx⟩ := I1.tr _ _ ha
  obtain ⟨_, kvs, hkv, hr⟩ := I1.tr _ _ hd
  obtain ⟨u, hu, ru⟩ := (hr.look n).1 e hl
  obtain ⟨od, god, hlk⟩ := lookIn_of n hkv
  have II : InstAt s1.heap a (instObj Cl dx) Cl (some od) := ⟨gx, rfl, rfl, god⟩
  obtain ⟨cd, hcd, hdict⟩ := hp.cls
  refine get_value (B.X.keeps I1.base) II hp.ga ?_ ?_ ⟨e, st1, ru, I1.keeps fun _ _ e => e, e1.trans (.keeps fun _ _ e => e), hq⟩
  · unfold findObj PySem.W.ownOf
    rw [hcd, hp.miss]
    simp only [Option.bind_some, hdict, if_true, hlk, hu]
  · cases e <;> simp only [RV] at ru
    case none => subst ru; rfl
    case bool => subst ru; rfl
    case int => obtain ⟨t, rfl⟩ := ru; rfl
    case str => obtain ⟨t, rfl⟩ := ru; rfl
    case tup => obtain ⟨_, _, _, rfl, _⟩ := ru; rfl
    case ref => subst ru; rfl
    case glob u => exact absurd rfl (hg u)
    case range => obtain ⟨_, _, _, _, rfl, _⟩ := ru; rfl

/-! calls -/
/-- a call of the value u on the values vs; d: the frames that are left -/
noncomputable def SCall (B : Base) (d : Nat) (u : Value) (vs : List V) (st : St) (Q : V → St → Prop) : Prop :=
  ∀ A s us, RoomA A d → Inv B s st → RVs s.heap vs us → wpAny (Mod B) A (call u us) (Post B s st Q) Bad s
/-- u is called plainly -/
noncomputable def Plain (B : Base) (u : Value) : Prop :=
  ∀ (A : Around) (s : Shared) (pos : Pos) (args : List (Bool × Sem Value)) (first : List Value) (Q : Value → Shared → Prop) (s0 : Shared) (st0 : St), args.any (·.1) = false →
    wpAny (Mod B) A (spliced args) (fun vs s1 => (∃ st1, Inv B s1 st1) ∧ wpAny (Mod B) A (call u (first ++ vs)) Q Bad s1) Bad s → wpAny (Mod B) A (callWith pos u first args []) Q Bad s

theorem spliced_args {M : Model} {A : Around} {f : Value} {args : List (Bool × Sem Value)} {Q : Args → Shared → Prop} {s : Shared} (hp : args.any (·.1) = false) (h : wpAny M A (spliced args) (fun vs s' => Q ⟨vs, []⟩ s') Bad s) : wpAny M A (evalArgs f true args []) Q Bad s := by
  cases args with
  | nil =>
    unfold evalArgs
    show wpAny M A (spliced [] >>= _) Q Bad s
    refine wpAny_bind (wpAny_mono h (fun vs s' h' => ?_) fun _ _ x => x)
    refine wpAny_bind (wpAny_pure ?_)
    exact wpAny_holding (wpAny_bind (wpAny_pure (wpAny_bind (wpAny_pure (wpAny_pure h')))))
  | cons a r =>
    obtain ⟨b, x⟩ := a
    simp only [List.any_cons, Bool.or_eq_false_iff] at hp
    obtain rfl : b = false := hp.1
    exact evalArgs_plain h

theorem plain_builtin (id : String) : Plain B (.builtin id) := fun A s pos args first Q s0 st0 hp h =>
  callWith_builtin hp (spliced_args hp (wpAny_mono h (fun vs s1 h1 => h1.2) fun _ _ x => x))
theorem plain_fn {a : Addr} {o : Obj} {fd : FuncData} (g : B.h₀.get? a = some o) (hd : o.data = .func fd) : Plain B (.ref a) := fun A s pos args first Q s0 st0 hp h =>
  callWith_function (o := o) (fd := fd) (spliced_args hp (wpAny_mono h (fun vs s1 ⟨⟨st1, I1⟩, h1⟩ => ⟨⟨I1.base _ _ g, hd⟩, h1⟩) fun _ _ x => x))

theorem star_any {env : Env} : ∀ {es : List Expr}, (es.all fun e => !isStarred e) = true → ∀ pos, (backTo pos (starEach es env)).any (·.1) = false
  | [], _, _ => rfl
  | e :: es, h, pos => by
    simp only [List.all_cons, Bool.and_eq_true] at h
    have : starEach (e :: es) env = (false, eval e env) :: starEach es env := by cases e <;> first | rfl | (simp [isStarred] at h)
    rw [this]
    show (false || (backTo pos (starEach es env)).any (·.1)) = false
    rw [star_any h.2 pos]; rfl

theorem SE_call {f : PySem.Str} {p1 pos : Pos} {args : List Expr} {u : Value} {Q : V → St → Prop} (hk : C.sc.names.lookup f = some .globalImplicit) (hd : (f == ("__debug__" : PySem.Str)) = false) (hg : GV B f u) (hp : Plain B u)
    (h : SEs B C fr args st fun vs st1 => SCall B C.d u vs st1 Q) (hs : (args.all fun e => !isStarred e) = true := by rfl) : SE B C fr (.Call (.Name f p1) args [] pos) st Q := fun s ok I F hL => by
  refine wpAny_Call_Name_kw (wpAny_mono (SE_glob (Q := fun v st1 => v = .glob u ∧ st1 = st) hk hd hg ⟨rfl, rfl⟩ s ok I F hL) (fun v s1 hq0 => ?_) fun _ _ x => x)
  obtain ⟨x, st1, r1, I1, e1, hx, hst⟩ := hq0
  subst hx hst
  simp only [RV] at r1
  subst r1
  obtain ⟨F1, hL1⟩ := F.ext I e1 hL
  refine hp _ _ _ _ _ _ s1 st1 (star_any hs pos) (wpAny_mono (h s1 pos ok I1 F1 hL1) (fun vs s2 ⟨xs, st2, r2, I2, e2, h2⟩ => ⟨⟨st2, I2⟩, ?_⟩) fun _ _ x => x)
  exact wpAny_mono (h2 C.A s2 vs ok.room I2 r2) (fun z s3 p => (p.up e2).up e1) fun _ _ x => x

/-- a call of a method: `fx` is what is called, `self` goes ahead -/
theorem SE_meth {o : Expr} {n : PySem.Str} {p1 pos : Pos} {args : List Expr} {pl : Sem Bool} {Q : V → St → Prop} (h : SE B C fr o st fun x st1 =>
      ∃ u, Plain B u ∧ (∀ s v (P : Value × List Value → Shared → Prop), Inv B s st1 → RV s.heap x v → P (u, [v]) s → wpAny (Mod B) C.A (getMethod v n pl) P Bad s) ∧ SEs B C fr args st1 fun vs st2 => SCall B C.d u (x :: vs) st2 Q)
    (hs : (args.all fun e => !isStarred e) = true := by rfl)
    (he : eval (.Call (.Attribute o n p1) args [] pos) C.env = (do
      let ov ← eval o C.env
      standAt p1.atName
      let (f, first) ← holding [ov] (getMethod ov n pl)
      callWith pos f first (backTo pos (starEach args C.env)) []) := by rfl) : SE B C fr (.Call (.Attribute o n p1) args [] pos) st Q := fun s ok I F hL => by
  refine MethodCall_ (pl := pl) (wpAny_mono (h s ok I F hL) (fun v s1 hq0 => ?_) fun _ _ x => x) he
  obtain ⟨x, st1, r1, I1, e1, u, hp, hm, h1⟩ := hq0
  obtain ⟨F1, hL1⟩ := F.ext I e1 hL
  refine hm s1 v _ I1 r1 ?_
  refine hp _ _ _ _ _ _ s1 st1 (star_any hs pos) (wpAny_mono (h1 s1 pos ok I1 F1 hL1) (fun vs s2 ⟨xs, st2, r2, I2, e2, h2⟩ => ⟨⟨st2, I2⟩, ?_⟩) fun _ _ x => x)
  refine wpAny_mono (h2 C.A s2 (v :: vs) ok.room I2 ?_) (fun z s3 p => (p.up e2).up e1) fun _ _ x => x
  simp only [RVs]
  exact ⟨v, vs, rfl, r1.mono (I1.keepT0 e2), r2⟩
end
end
section
section
variable {B : Base} {C : Cfg} {fr : Fr'} {st : St}

theorem plain_K {f : Value} (hk : keepIn B.K f = true) : Plain B f := fun A s pos args first Q s0 st0 hp h => by
  unfold callWith
  refine wpAny_bind (wpAny_holding (wpAny_mono (spliced_args hp (Q := fun a s1 => a.kw = [] ∧ (∃ st1, Inv B s1 st1) ∧ wpAny (Mod B) A (call f (first ++ a.pos)) Q Bad s1) (wpAny_mono h (fun vs s1 h1 => ⟨rfl, h1⟩) fun _ _ x => x)) (fun a s1 h1 => wpAny_bind (wpAny_standAt ?_)) fun _ _ x => x))
  obtain ⟨hkw, ⟨st1, I1⟩, h1⟩ := h1
  have tail : ∀ {t : Sem Value}, wpAny (Mod B) A t Q Bad s1 → wpAny (Mod B) A (t >>= fun r => holding [r] point >>= fun _ => pure r) Q Bad s1 :=
    fun ht => wpAny_bind (wpAny_mono ht (fun r s₂ hr => wpAny_bind (wpAny_holding (wpAny_point (wpAny_pure hr)))) fun _ _ x => x)
  obtain ⟨k, hkk, L⟩ := looks_keep (M := Mod B) hk (B.X.keeps I1.base)
  rw [hkw]
  simp only [hp, List.any_nil, Bool.or_false]
  refine wpAny_bind (L.here ?_)
  rcases hkk with rfl | rfl
  · dsimp only
    split
    · exact tail h1
    · exact tail (by unfold callMarked; exact wpAny_keep h1)
  · exact tail h1

/-- a call as a code -/
noncomputable def SCode (B : Base) (d : Nat) (u : Value) (vs : List V) (st : St) (Q : V → St → Prop) : Prop :=
  ∀ A s us, RoomA A d → Inv B s st → RVs s.heap vs us → codeAny (Mod B) A (.call u ⟨us, []⟩) (fun r s' => match r with | .ok (.ret v) => Post B s st Q v s' | .ok _ => False | .error e => False) s
theorem SCode.call {d : Nat} {u : Value} {vs : List V} {Q : V → St → Prop} (h : SCode B d u vs st Q) : SCall B d u vs st Q := fun A s us hr I r => wpAny_call (h A s us hr I r)
theorem RoomA.less {A : Around} {d d' : Nat} (h : RoomA A d) (hd : d' ≤ d) : RoomA A d' := ⟨h.handled, by have := h.depth; (first | lia -abstractProof | omega), by have := h.units; (first | lia -abstractProof | omega)⟩
theorem SCode.less {d d' : Nat} {u : Value} {vs : List V} {Q : V → St → Prop} (h : SCode B d' u vs st Q) (hd : d' ≤ d) : SCode B d u vs st Q := fun A s us hr I r => h A s us (hr.less hd) I r
theorem SCall.less {d d' : Nat} {u : Value} {vs : List V} {Q : V → St → Prop} (h : SCall B d' u vs st Q) (hd : d' ≤ d) : SCall B d u vs st Q := fun A s us hr I r => h A s us (hr.less hd) I r

/-- the value u is the plain function of this text -/
noncomputable def FnIn (B : Base) (u : Value) (params : Arguments) (body : List Stmt) (sc : Scope) (dV : Value) : Prop :=
  ∃ a oc od osl name qual kV doc pm an cdv ct, u = .ref a ∧ B.h₀.get? a = some ⟨oc, od, .func (fnOf name qual params body sc dV kV doc pm an cdv ct), osl⟩ ∧ B.h₀.CodeRec cdv qual

theorem FnIn.plain {u : Value} {params : Arguments} {body : List Stmt} {sc : Scope} {dV : Value} (h : FnIn B u params body sc dV) : Plain B u := by
  obtain ⟨a, oc, od, osl, name, qual, kV, doc, pm, an, cdv, ct, rfl, g, _⟩ := h
  exact plain_fn g rfl

theorem zip_lookup {h : Heap} : ∀ {names : List PySem.Str} {vs : List V} {us : List Value}, names.Nodup → RVs h vs us → ∀ p ∈ names.zip vs, ∃ v, (names.zip us).reverse.lookup p.1 = some v ∧ RV h p.2 v
  | [], _, _, _, _, p, hp => by simp at hp
  | n :: ns, [], us, _, r, p, hp => by simp at hp
  | n :: ns, x :: vs, _, nd, r, p, hp => by
    simp only [RVs] at r
    obtain ⟨v, us, rfl, a, b⟩ := r
    simp only [List.nodup_cons] at nd
    simp only [List.zip_cons_cons, List.reverse_cons, List.lookup_append]
    rcases List.mem_cons.mp hp with rfl | hp
    · refine ⟨v, ?_, a⟩
      have : (ns.zip us).reverse.lookup n = none := by
        rw [List.lookup_eq_none_iff]
        intro q hq
        have := List.of_mem_zip (List.mem_reverse.mp hq)
        have hne : n ≠ q.1 := fun e => nd.1 (e ▸ this.1)
        simpa using hne
      rw [this]; simp
    · obtain ⟨u, e, r⟩ := zip_lookup nd.2 b p hp
      exact ⟨u, by rw [e]; rfl, r⟩

theorem zip_nodup : ∀ {names : List PySem.Str} {vs : List V}, names.Nodup → ((names.zip vs).map (·.1)).Nodup
  | [], _, _ => by simp
  | n :: ns, [], _ => by simp
  | n :: ns, x :: vs, nd => by
    simp only [List.nodup_cons] at nd
    simp only [List.zip_cons_cons, List.map_cons, List.nodup_cons]
    refine ⟨fun h => ?_, zip_nodup nd.2⟩
    obtain ⟨p, hp, e⟩ := List.mem_map.mp h
    exact nd.1 (e ▸ (List.of_mem_zip hp).1)

/-- a function's own rule: its text, its names with the values, its returns -/
theorem SCode_def {u : Value} {params : Arguments} {body : List Stmt} {sc : Scope} {dV : Value} {d : Nat} {names : List PySem.Str} {vs : List V} {xs : List V} {Q : V → St → Prop} (F : FnIn B u params body sc dV)
    (hb : ∀ s us name qual kV doc pm an cdv ct, Inv B s st → us.length = vs.length → ∃ ds, RVs s.heap xs ds ∧ BindsTo s (fnOf name qual params body sc dV kV doc pm an cdv ct) ⟨us, []⟩ (names.zip (us ++ ds)))
    (hn : names.Nodup) (hk : (names.all fun n => decide (sc.names.lookup n = some .local) && !(n == ("__debug__" : PySem.Str))) = true)
    (hsc : (sc.kind == .function && !sc.isCoroutine && !sc.isGenerator && sc.names.all fun x => x.2 != .cell) = true)
    (h : ∀ C : Cfg, C.sc = sc → C.d = d → SX B C (names.zip (vs ++ xs)) body st (fun _ st' => Q .none st') Q) : SCode B (d + 1) u vs st Q := fun A s us hr I r => by
  obtain ⟨a, oc, od, osl, name, qual, kV, doc, pm, an, cdv, ct, rfl, g, hcd⟩ := F
  simp only [Bool.and_eq_true, beq_iff_eq, Bool.not_eq_true', List.all_eq_true, bne_iff_ne] at hsc
  obtain ⟨⟨⟨k1, k2⟩, k3⟩, k4⟩ := hsc
  simp only [List.all_eq_true, Bool.and_eq_true, decide_eq_true_eq, Bool.not_eq_true'] at hk
  obtain ⟨ds, rd, hbb⟩ := hb s us name qual kV doc pm an cdv ct I r.length
  refine codeAny_call_def (by have := hr.depth; (first | lia -abstractProof | omega)) (I.base _ _ g) rfl (B.nolimit.keeps I.base) (hcd.keeps I.base) rfl hbb k4 (fun x hx => ?_) (fun h1 hns hk1 => ?_) k2 k3 k1
  · exact (hk _ (List.of_mem_zip hx).1).1
  · have kT : KeepT s.heap h1 := fun b o e _ => hk1 b o e
    let C : Cfg := ⟨A.deeper (callEnv (fnOf name qual params body sc dV kV doc pm an cdv ct) s.heap.objs.size a), qual, sc, s.heap.objs.size, a, cdv, d⟩
    have I1 : Inv B { s with heap := h1, toks := s.toks + (names.zip (us ++ ds)).length } st := I.keeps hk1
    have rall : RVs h1 (vs ++ xs) (us ++ ds) := (r.mono kT).append (rd.mono kT)
    refine wpAny_mono (h C rfl rfl { s with heap := h1, toks := s.toks + (names.zip (us ++ ds)).length } ⟨⟨hr.handled, ?_, ?_⟩, k1, I.above⟩ I1 ⟨?_, fun p hp => ?_, _, hns, zip_lookup hn rall⟩ I.fresh) (fun f s2 p => ?_) fun _ _ x => x.elim
    · have := hr.depth; show A.depth + 1 + d < recursionLimit; (first | lia -abstractProof | omega)
    · have := hr.units; show A.units + 3 + 4 * d + 60 < cLine; (first | lia -abstractProof | omega)
    · exact zip_nodup hn
    · exact hk _ (List.of_mem_zip hp).1
    · have eX : ∀ st', Ext (AtL C) h1 st s2.heap st' → Ext NoX s.heap st s2.heap st' := fun st' e b o gb q => by
        obtain ⟨p', o', g', k⟩ := e b o (hk1 b o gb) q
        exact ⟨p', o', g', fun _ => k (Nat.ne_of_lt (Heap.lt_size gb))⟩
      cases f with
      | next =>
        obtain ⟨fr', st', I2, F2, e2, hq⟩ := p
        exact ⟨.none, st', by simp [RV], I2, eX _ e2, hq⟩
      | ret v =>
        obtain ⟨x, st', r2, I2, e2, hq⟩ := p
        exact ⟨x, st', r2, I2, eX _ e2, hq⟩
      | brk => exact p.elim
      | cont => exact p.elim

/-- a class of the text: what a call of it makes, and what __init__ then does -/
structure ClsIn (B : Base) (Cl : Addr) (init : Addr) : Prop where
  makes : makesIn B.K Cl = true
  keep : keepIn B.K (.ref Cl) = true
  inits : findIn B.K (.ref Cl) "__init__" = some (some (.ref init))
  isFn : typeIn B.K (.ref init) = some (.type "function")

theorem SCode_cls {Cl init : Addr} {d : Nat} {vs : List V} {Q : V → St → Prop} (K : ClsIn B Cl init)
    (h : ∀ x dx, st dx = none → st x = none → dx ≠ x → SCode B d (.ref init) (.ref x :: vs) ((st.set dx (.dict [])).set x (.inst Cl dx)) fun r st' => r = .none ∧ Q (.ref x) st') : SCode B (d + 1) (.ref Cl) vs st Q := fun A s us hr I r => by
  obtain ⟨hh, g, dd, t, os⟩ := s
  have k1 : ∀ b o, hh.get? b = some o → (hh.push emptyDict).get? b = some o := fun b o e => Heap.get?_push_of_some _ e
  have k2 : ∀ b o, (hh.push emptyDict).get? b = some o → ((hh.push emptyDict).push (instObj Cl hh.objs.size)).get? b = some o := fun b o e => Heap.get?_push_of_some _ e
  have I1 : Inv B ⟨hh.push emptyDict, g, dd, t, os⟩ (st.set hh.objs.size (.dict [])) := I.alloc (s := ⟨hh, g, dd, t, os⟩) k1 (Nat.le_refl _) ⟨[], .new hh, rfl⟩
  have hsz : (hh.push emptyDict).objs.size = hh.objs.size + 1 := by rw [Heap.size_push]
  have I2 : Inv B ⟨(hh.push emptyDict).push (instObj Cl hh.objs.size), g, dd, t, os⟩ ((st.set hh.objs.size (.dict [])).set (hh.objs.size + 1) (.inst Cl hh.objs.size)) := by
    refine I1.alloc (s := ⟨hh.push emptyDict, g, dd, t, os⟩) k2 (by show (hh.push emptyDict).objs.size ≤ _; rw [hsz]; exact Nat.le_refl _) ?_
    show Heap.get? _ (hh.objs.size + 1) = _
    rw [← hsz]
    exact Heap.get?_push_size _ rfl
  have f0 : st hh.objs.size = none := I.fresh
  have f1 : st (hh.objs.size + 1) = none := by
    have := I1.fresh
    rw [show (Shared.heap ⟨hh.push emptyDict, g, dd, t, os⟩).objs.size = hh.objs.size + 1 from hsz, St.set_ne _ _ (Nat.ne_of_gt (Nat.lt_succ_self _))] at this
    exact this
  have eE : Ext NoX hh st ((hh.push emptyDict).push (instObj Cl hh.objs.size)) ((st.set hh.objs.size (.dict [])).set (hh.objs.size + 1) (.inst Cl hh.objs.size)) :=
    (Ext.alloc k1 (Nat.le_refl _)).trans (Ext.alloc k2 (by rw [hsz]; exact Nat.le_refl _))
  refine make_core (makes_of (M := Mod B) (B.X.keeps I.base) K.makes) (looks_findIn (B.X.keeps I.base) K.inits) (fun self => bind_fn (B.X.keeps I.base) self K.isFn) (.inl rfl) ?_
  have hc := h (hh.objs.size + 1) hh.objs.size f0 f1 (Nat.ne_of_lt (Nat.lt_succ_self _)) (A.under (.builtin "type.__call__" ⟨.ref Cl :: us, []⟩)) ⟨(hh.push emptyDict).push (instObj Cl hh.objs.size), g, dd, t, os⟩ (.ref (hh.objs.size + 1) :: us)
    ⟨hr.handled, by rw [depth_under_make]; have := hr.depth; (first | lia -abstractProof | omega), by rw [units_under_make]; have := hr.units; (first | lia -abstractProof | omega)⟩ I2 (by simp only [RVs, RV]; exact ⟨_, _, rfl, rfl, r.mono fun b o e _ => k2 _ _ (k1 _ _ e)⟩)
  refine codeAny_mono hc fun rr s' p => ?_
  rcases rr with e | (_ | _ | _ | v)
  · exact p.elim
  · exact p.elim
  · exact p.elim
  · exact p.elim
  · obtain ⟨x, st', r2, I3, e3, hx, hq⟩ := p
    subst hx
    simp only [RV] at r2
    exact ⟨r2, .ref (hh.objs.size + 1), st', by simp [RV], I3, eE.trans e3, hq⟩
end
end
section
section
variable {B : Base} {C : Cfg} {fr : Fr'} {st : St}

theorem RVs.one {h : Heap} {x : V} {us : List Value} (r : RVs h [x] us) : ∃ v, us = [v] ∧ RV h x v := by
  simp only [RVs] at r; obtain ⟨v, q, rfl, a, rfl⟩ := r; exact ⟨v, rfl, a⟩
theorem RVs.two {h : Heap} {x y : V} {us : List Value} (r : RVs h [x, y] us) : ∃ v u, us = [v, u] ∧ RV h x v ∧ RV h y u := by
  simp only [RVs] at r; obtain ⟨v, q, rfl, a, u, q', rfl, b, rfl⟩ := r; exact ⟨v, u, rfl, a, b⟩

/-! built-ins -/
theorem SCall_len_tup {d : Nat} {l : List V} {Q : V → St → Prop} (hz : l.length < 2 ^ 40) (h : Q (.int l.length) st) : SCall B d (.builtin "len") [.tup l] st Q := fun A s us hr I r => by
  obtain ⟨v, rfl, r1⟩ := r.one
  simp only [RV] at r1
  obtain ⟨a, xs, n, rfl, g, rs⟩ := r1
  have hl := rs.length
  refine len_tuple (isTup_of g) (by simp; (first | lia -abstractProof | omega)) ⟨.int l.length, st, by simp [RV, hl], I.keeps fun _ _ e => e, .keeps fun _ _ e => e, h⟩
theorem SCall_len_list {d : Nat} {a : Addr} {l : List V} {Q : V → St → Prop} (ha : IsL st a l) (hz : l.length < 2 ^ 40) (h : Q (.int l.length) st) : SCall B d (.builtin "len") [.ref a] st Q := fun A s us hr I r => by
  obtain ⟨v, rfl, r1⟩ := r.one
  simp only [RV] at r1
  subst r1
  obtain ⟨vs, g, rs⟩ := ha.rep I
  have hl := rs.length
  refine call_len_list g (by simp; (first | lia -abstractProof | omega)) ⟨.int l.length, st, by simp [RV, hl], I.keeps fun _ _ e => e, .keeps fun _ _ e => e, h⟩
theorem SCall_range {d : Nat} {n : Int} {Q : V → St → Prop} (h : Q (.range n) st) : SCall B d (.type "range") [.int n] st Q := fun A s us hr I r => by
  obtain ⟨v, rfl, r1⟩ := r.one
  simp only [RV] at r1
  obtain ⟨t, rfl⟩ := r1
  have k : ∀ b o, s.heap.get? b = some o → (s.heap.push { cls := .type "range", data := .fields #[.int 0 s.toks, .int n t, .int 1 (s.toks + 1)] }).get? b = some o := fun b o e => Heap.get?_push_of_some _ e
  refine call_range_1 ⟨.range n, st, ?_, I.keeps k, .keeps k, h⟩
  simp only [RV]
  exact ⟨_, _, _, _, rfl, Heap.get?_push_size _ rfl⟩
theorem SCall_tuple {d : Nat} {a : Addr} {l : List V} {Q : V → St → Prop} (ha : IsL st a l) (hz : l.length ≤ 10000000) (h : Q (.tup l) st) : SCall B d (.type "tuple") [.ref a] st Q := fun A s us hr I r => by
  obtain ⟨v, rfl, r1⟩ := r.one
  simp only [RV] at r1
  subst r1
  obtain ⟨vs, g, rs⟩ := ha.rep I
  refine call_tuple_list g (fun h' hk => ?_) (by have := rs.length; simp [sizeLine_eq]; (first | lia -abstractProof | omega))
  have k : ∀ b o, s.heap.get? b = some o → (h'.push (tupObj vs 0)).get? b = some o := fun b o e => Heap.get?_push_of_some _ (hk b o e)
  refine ⟨.tup l, st, ?_, I.keeps k, .keeps k, h⟩
  simp only [RV]
  exact ⟨_, vs, 0, rfl, Heap.get?_push_size _ rfl, rs.mono fun b o e _ => k b o e⟩
theorem SCall_list {d : Nat} {l : List V} {Q : V → St → Prop} (hz : l.length ≤ 10000000) (h : ∀ a, st a = none → Q (.ref a) (st.set a (.list l))) : SCall B d (.type "list") [.tup l] st Q := fun A s us hr I r => by
  obtain ⟨v, rfl, r1⟩ := r.one
  simp only [RV] at r1
  obtain ⟨a, xs, n, rfl, g, rs⟩ := r1
  refine call_list_seq a (.inr rfl) g rfl rfl (fun h' c' hk hD => ?_) (by have := rs.length; simp [sizeLine_eq]; (first | lia -abstractProof | omega))
  refine ⟨.ref s.heap.objs.size, st.set s.heap.objs.size (.list l), by simp [RV], ?_, .alloc hk (Nat.le_refl _), h _ I.fresh⟩
  exact I.alloc (tk := s.toks) hk (Nat.le_refl _) ⟨xs, c', hD, rs.mono fun b o e _ => hk b o e⟩
theorem SCall_int {d : Nat} {n : Int} {Q : V → St → Prop} (h : Q (.int n) st) : SCall B d (.type "int") [.int n] st Q := fun A s us hr I r => by
  obtain ⟨v, rfl, r1⟩ := r.one
  simp only [RV] at r1
  obtain ⟨t, rfl⟩ := r1
  exact call_int_int ⟨.int n, st, by simp [RV], I, .refl, h⟩

theorem appendTo {d : Nat} {a : Addr} {l : List V} {x : V} {Q : V → St → Prop} (ha : st a = some (.list l)) (hz : l.length ≤ 10000000) (h : Q .none (st.set a (.list (l ++ [x])))) : SCall B d (.builtin "list.append") [.ref a, x] st Q := fun A s us hr I r => by
  obtain ⟨v, u, rfl, r1, r2⟩ := r.two
  simp only [RV] at r1
  subst r1
  obtain ⟨_, vs, n, g, rs⟩ := I.tr _ _ ha
  refine append_at g (fun h' hs ho => ?_) (by have := rs.length; simp [sizeLine_eq]; (first | lia -abstractProof | omega))
  refine ⟨.none, _, by simp [RV], I.update (m' := .list (l ++ [x])) (tk := s.toks) hs ha (fun kT => ⟨vs ++ [u], n + 1, by rw [ho]; simp, (rs.mono kT).append (by simp only [RVs]; exact ⟨u, [], rfl, r2.mono kT, rfl⟩)⟩), .update hs ha, h⟩
theorem meth_append {a : Addr} {l : List V} (ha : st a = some (.list l)) {pl : Sem Bool} : ∀ s v (P : Value × List Value → Shared → Prop), Inv B s st → RV s.heap (.ref a) v → P (.builtin "list.append", [v]) s → wpAny (Mod B) C.A (getMethod v "append" pl) P Bad s := fun s v P I r h => by
  simp only [RV] at r
  subst r
  obtain ⟨_, vs, n, g, rs⟩ := I.tr _ _ ha
  exact Calls.getMethod_list_append g rfl rfl h
/-- o.append(e), o a list of the call's own -/
theorem SE_append {o e : Expr} {p1 pos : Pos} {pl : Sem Bool} {Q : V → St → Prop} (h : SE B C fr o st fun x st1 => ∃ a, x = .ref a ∧ (∃ l, st1 a = some (.list l)) ∧ SE B C fr e st1 fun y st2 => ∃ l, st2 a = some (.list l) ∧ l.length ≤ 10000000 ∧ Q .none (st2.set a (.list (l ++ [y]))))
    (hs : isStarred e = false := by rfl)
    (he : eval (.Call (.Attribute o "append" p1) [e] [] pos) C.env = (do
      let ov ← eval o C.env
      standAt p1.atName
      let (f, first) ← holding [ov] (getMethod ov "append" pl)
      callWith pos f first (backTo pos (starEach [e] C.env)) []) := by rfl) : SE B C fr (.Call (.Attribute o "append" p1) [e] [] pos) st Q :=
  SE_meth (pl := pl) (h.mono fun x st1 ⟨a, hx, ⟨l, hl⟩, h1⟩ => by
    subst hx
    refine ⟨.builtin "list.append", plain_builtin _, meth_append hl, SEs_cons (h1.mono fun y st2 ⟨l2, hl2, hz, hq⟩ => SEs_nil (appendTo hl2 hz hq)) (by intro env; cases e <;> first | rfl | (simp [isStarred] at hs))⟩) (by simp [hs]) he

theorem popFirst {d : Nat} {a : Addr} {x : V} {l : List V} {Q : V → St → Prop} (ha : st a = some (.list (x :: l))) (hz : l.length ≤ 1000000) (h : Q x (st.set a (.list l))) : SCall B d (.builtin "list.pop") [.ref a, .int 0] st Q := fun A s us hr I r => by
  obtain ⟨v, u, rfl, r1, r2⟩ := r.two
  simp only [RV] at r1 r2
  subst r1
  obtain ⟨t, rfl⟩ := r2
  obtain ⟨_, vs, n, g, rs⟩ := I.tr _ _ ha
  have hlen := rs.length
  simp only [RVs] at rs
  obtain ⟨w, ws, rfl, rw, rws⟩ := rs
  simp only [List.length_cons] at hlen
  have hsz : (w :: ws).toArray.size = ws.length + 1 := by simp
  refine call_meets PySem.F.slot_list_pop ⟨_, g, rfl⟩ PySem.F.entry_list_pop (PySem.F.args_list_pop_2 _ _) (PySem.MeetsSeq.list_pop_at a (w :: ws).toArray n 0 t 0 w (by decide) (by unfold seqIndex?; rw [hsz]; simp) (by simp) (by rw [hsz, sizeLine_eq]; (first | lia -abstractProof | omega))) ⟨g, ?_⟩
  have hs : Heap.SameBut a s.heap (s.heap.update a (Obj.mapSeq fun xs => xs.eraseIdxIfInBounds 0)) := Heap.SameBut.update ..
  refine ⟨x, _, ?_, I.update (m' := .list l) (tk := s.toks) hs ha fun kT => ?_, .update hs ha, h⟩
  · exact rw.mono (keepT_frame hs (I.notStill ha))
  · refine ⟨ws, n + 1, ?_, rws.mono kT⟩
    have q := PySem.IsL.update g (fun xs : Array Value => xs.eraseIdxIfInBounds 0)
    have e1 : (w :: ws).toArray.eraseIdxIfInBounds 0 = ws.toArray := by
      have := PySem.W.kl_erase [] ws w
      simpa using this
    rw [e1, if_neg (by simp)] at q
    exact q

/-! joining -/
theorem SOp_tup {l l' : List V} {Q : V → St → Prop} (hz : l.length + l'.length ≤ 10000000) (h : Q (.tup (l ++ l')) st) : SOp B C .Add (.tup l) (.tup l') st Q := fun s v u ok I r1 r2 => by
  have hrv : RV s.heap (.tup l) v := r1
  have hru : RV s.heap (.tup l') u := r2
  simp only [RV] at r1 r2
  obtain ⟨a, xs, n, rfl, g, rs⟩ := r1
  obtain ⟨b, ys, n', rfl, g', rs'⟩ := r2
  have h1 := rs.length
  have h2 := rs'.length
  by_cases hv : xs = []
  · have : l = [] := by subst hv; simp at h1; exact List.eq_nil_of_length_eq_zero h1.symm
    subst this
    exact concat_meets ⟨_, g, rfl⟩ ⟨_, g', rfl⟩ noFill_tuple_add seq_tuple_add PySem.F.slot_tuple_add PySem.F.entry_tuple_add (PySem.F.args_tuple_add_2 _ _)
      (tuple_addW0 a b xs.toArray ys.toArray n n' none none #[] #[] (by simp [hv])) ⟨g, g', .tup l', st, hru, I, .refl, h⟩
  · by_cases hw : ys = []
    · have : l' = [] := by subst hw; simp at h2; exact List.eq_nil_of_length_eq_zero h2.symm
      subst this
      rw [List.append_nil] at h
      exact concat_meets ⟨_, g, rfl⟩ ⟨_, g', rfl⟩ noFill_tuple_add seq_tuple_add PySem.F.slot_tuple_add PySem.F.entry_tuple_add (PySem.F.args_tuple_add_2 _ _)
        (tuple_addW1 a b xs.toArray ys.toArray n n' none none #[] #[] (by simpa using hv) (by simp [hw])) ⟨g, g', .tup l, st, hrv, I, .refl, h⟩
    · refine concat_meets ⟨_, g, rfl⟩ ⟨_, g', rfl⟩ noFill_tuple_add seq_tuple_add PySem.F.slot_tuple_add PySem.F.entry_tuple_add (PySem.F.args_tuple_add_2 _ _)
        (tuple_addW2 a b xs.toArray ys.toArray n n' none none #[] #[] (by simpa using hv) (by simpa using hw) (by rw [List.size_toArray, List.size_toArray, sizeLine_eq]; (first | lia -abstractProof | omega))) ⟨g, g', ?_⟩
      have e : xs.toArray ++ ys.toArray = (xs ++ ys).toArray := by simp
      rw [e]
      have k : ∀ b o, s.heap.get? b = some o → (s.heap.push (tupObj (xs ++ ys) 0)).get? b = some o := fun b o e => Heap.get?_push_of_some _ e
      refine ⟨.tup (l ++ l'), st, ?_, I.keeps k, .keeps k, h⟩
      simp only [RV]
      exact ⟨_, xs ++ ys, 0, rfl, Heap.get?_push_size _ rfl, (rs.append rs').mono fun b o e _ => k b o e⟩
theorem SOp_list {a b : Addr} {l l' : List V} {Q : V → St → Prop} (ha : IsL st a l) (hb : IsL st b l') (hz : l.length + l'.length ≤ 10000000) (h : ∀ c, st c = none → Q (.ref c) (st.set c (.list (l ++ l')))) : SOp B C .Add (.ref a) (.ref b) st Q := fun s v u ok I r1 r2 => by
  simp only [RV] at r1 r2
  subst r1 r2
  obtain ⟨xs, g, rs⟩ := ha.rep I
  obtain ⟨ys, g', rs'⟩ := hb.rep I
  have h1 := rs.length
  have h2 := rs'.length
  obtain ⟨⟨cls, dd, data, sl⟩, ho, hc, n, hd⟩ := id g
  obtain ⟨⟨cls2, dd2, data2, sl2⟩, ho2, hc2, n2, hd2⟩ := id g'
  simp only at hc hd hc2 hd2
  subst hc hd hc2 hd2
  refine concat_meets ⟨_, ho, rfl⟩ ⟨_, ho2, rfl⟩ noFill_list_add seq_list_add PySem.F.slot_list_add PySem.F.entry_list_add (PySem.F.args_list_add_2 _ _)
    (list_addW a b xs.toArray ys.toArray n n2 dd dd2 sl sl2 (by simp [sizeLine_eq]; (first | lia -abstractProof | omega))) ⟨ho, ho2, ?_⟩
  have e : xs.toArray ++ ys.toArray = (xs ++ ys).toArray := by simp
  rw [e]
  have k : ∀ b o, s.heap.get? b = some o → (s.heap.push (listObj (xs ++ ys) 0)).get? b = some o := fun b o e => Heap.get?_push_of_some _ e
  refine ⟨.ref s.heap.objs.size, _, by simp [RV], I.alloc (tk := s.toks) (m := .list (l ++ l')) k (Nat.le_refl _) ⟨xs ++ ys, 0, Heap.get?_push_size _ rfl, (rs.append rs').mono fun b o e _ => k b o e⟩, .alloc k (Nat.le_refl _), h _ I.fresh⟩

theorem SOp_mul {a b : Int} {Q : V → St → Prop} (h0 : 0 ≤ a) (h1 : a < 2 ^ 32) (h2 : 0 ≤ b) (h3 : b < 2 ^ 32) (h : Q (.int (a * b)) st) : SOp B C .Mult (.int a) (.int b) st Q := fun s v u ok I r1 r2 => by
  simp only [RV] at r1 r2; obtain ⟨t, rfl⟩ := r1; obtain ⟨t', rfl⟩ := r2
  exact mul_int ⟨.int (a * b), st, by simp [RV], I.keeps (fun _ _ e => e), .keeps (fun _ _ e => e), h⟩ (by mul_fits)
theorem SOp_div {a b : Int} {Q : V → St → Prop} (h2 : 0 < b) (h3 : b < 2 ^ 20) (h : Q (.int (a.fdiv b)) st) : SOp B C .FloorDiv (.int a) (.int b) st Q := fun s v u ok I r1 r2 => by
  simp only [RV] at r1 r2; obtain ⟨t, rfl⟩ := r1; obtain ⟨t', rfl⟩ := r2
  exact floordiv_int (by (first | lia -abstractProof | omega)) ⟨.int (a.fdiv b), st, by simp [RV], I.keeps (fun _ _ e => e), .keeps (fun _ _ e => e), h⟩ (.inl (PyProof.noPylong_small (by (first | lia -abstractProof | omega))))
end
end
section
section
variable {B : Base} {C : Cfg} {fr : Fr'} {st : St}

/-! an attribute that is new is stored into an object's own dict -/
structure PlainSet (B : Base) (Cl : Addr) (n : PySem.Str) : Prop where
  set : findIn B.K (.ref Cl) "__setattr__" = some (some (.builtin "object.__setattr__"))
  over : plainOver B.K Cl = true
  taker : takerIn B.K Cl n = some none
  own : (clsIn B.K Cl).any (·.hasDict) = true

theorem isStr_is (prog : Program) (w : World) (k : PySem.Str) : (fun e : DictEntry => e.key.isStr k) = fun e => (strKind prog w).is k e.key := by funext e; exact isStr_of k e.key

theorem dictOf_put {h : Heap} {a : Addr} {kvs : List (PySem.Str × Value)} {prog : Program} {w : World} {k : PySem.Str} {v : Value} {tk : Tok} (hd : h.DictOf (strKind prog w) a kvs) (hk : valueAt kvs k = none) (hz : kvs.length ≤ 1000) :
    ∃ o es ep, h.get? a = some o ∧ o.data = .dict es ep ∧ (!es.any (fun e => e.key.isStr k) && es.any (fun e => e.refKey)) = false ∧
      (∃ o' es' ep', (h.update a (Obj.putName k (hashStr w k) (.str k tk) v)).get? a = some o' ∧ o'.data = .dict es' ep' ∧ es'.size ≤ sizeLine + 1) ∧
      (h.update a (Obj.putName k (hashStr w k) (.str k tk) v)).DictOf (strKind prog w) a (kvs ++ [(k, v)]) := by
  obtain ⟨o, es, ep, g, hc, hdat, hkeys, hp, hn⟩ := hd
  obtain ⟨cl, dd, dt, sl⟩ := o
  obtain ⟨rfl, rfl, rfl⟩ := hc
  simp only at hdat
  subst hdat
  have hes : es.size = kvs.length := by have e1 := hp.length; have e2 : es.toList.length = es.size := by simp
                                        (first | lia -abstractProof | omega)
  have hnot : k ∉ kvs.map (·.1) := by
    intro hm
    obtain ⟨kv, hkv, rfl⟩ := List.mem_map.mp hm
    unfold valueAt at hk
    cases q : kvs.find? (fun x => decide (x.1 = kv.1)) with
    | none => have := List.find?_eq_none.mp q kv hkv; simp at this
    | some x => rw [q] at hk; simp at hk
  have hidx : (es.findIdx? fun e => e.key.isStr k) = none := by
    rw [isStr_is prog w]
    have : (es.toList.findIdx? fun e => (strKind prog w).is k e.key) = none := by
      rw [hp.findIdx k]
      rw [List.findIdx?_eq_none_iff]
      intro x hx
      exact decide_eq_false fun e => hnot (List.mem_map.mpr ⟨x, hx, e⟩)
    obtain ⟨l⟩ := es
    simpa using this
  have hput : Obj.putName k (hashStr w k) (.str k tk) v ⟨.type "dict", none, .dict es ep, #[]⟩ = ⟨.type "dict", none, .dict (es.push ⟨hashStr w k, .str k tk, v⟩) (ep + 1), #[]⟩ := by
    rw [Obj.putName_eq]
    unfold Obj.putNameByArray
    simp only [hidx]
  have gu : (h.update a (Obj.putName k (hashStr w k) (.str k tk) v)).get? a = some ⟨.type "dict", none, .dict (es.push ⟨hashStr w k, .str k tk, v⟩) (ep + 1), #[]⟩ := by
    rw [Heap.get?_update_self _ g (by rw [hput]; rfl), hput]
  refine ⟨_, es, ep, g, rfl, ?_, ⟨_, _, _, gu, rfl, by rw [Array.size_push, sizeLine_eq]; (first | lia -abstractProof | omega)⟩, _, _, _, gu, ⟨rfl, rfl, rfl⟩, rfl, ?_, ?_, ?_⟩
  · have : es.any (fun e => e.refKey) = false := by
      rw [Array.any_eq_false']
      intro e he hr
      obtain ⟨k', hk', _⟩ := hkeys e he
      have : Value.isStrOf k' e.key = true := hk'
      unfold DictEntry.refKey at hr
      cases he2 : e.key <;> rw [he2] at this hr <;> simp_all [Value.isStrOf]
    rw [this, Bool.and_false]
  · exact hkeys.push (strKind_is prog w k tk) v
  · have := hp.append (strKind_is prog w k tk) (hashStr w k) v
    obtain ⟨l⟩ := es
    simpa using this
  · rw [List.map_append, List.nodup_append]
    refine ⟨hn, by simp, ?_⟩
    intro x hx y hy
    simp only [List.map_cons, List.map_nil, List.mem_singleton] at hy
    subst hy
    exact fun e => hnot (e ▸ hx)

theorem setAttr_new {s : Shared} {x dx Cl : Addr} {n : PySem.Str} {d : List (PySem.Str × V)} {v : Value} {X : V} {P : Unit → Shared → Prop} (I : Inv B s st) (hx : st x = some (.inst Cl dx)) (hd : st dx = some (.dict d)) (p : PlainSet B Cl n) (hl : lookD d n = none) (hz : d.length ≤ 900)
    (r : RV s.heap X v) (A : Around) (h : ∀ s', Inv B s' (st.set dx (.dict (d ++ [(n, X)]))) → Heap.SameBut dx s.heap s'.heap → P () s') : wpAny (Mod B) A (setAttr (.ref x) n v) P Bad s := by
  obtain ⟨_, gx⟩ := I.tr _ _ hx
  obtain ⟨_, kvs, hkv, hr⟩ := I.tr _ _ hd
  have X0 := B.X.keeps I.base
  have hln := hr.length
  obtain ⟨o, es, ep, g, hdat, hguard, ⟨o', es', ep', g', hdat', hsz'⟩, hfin⟩ := dictOf_put (k := n) (v := v) (tk := s.toks + 1) hkv ((hr.look n).2 hl) (by (first | lia -abstractProof | omega))
  have II : InstAt s.heap x (instObj Cl dx) Cl (some o) := ⟨gx, rfl, rfl, g⟩
  obtain ⟨cd, hcd, hdict⟩ := any_some p.own
  refine set_plain X0 II p.set ?_
  refine osa_open (s := { s with toks := s.toks + 1 }) X0 II p.over p.taker fun b => ?_
  dsimp only
  have hdict' : cd.hasDict = true := hdict
  refine wpAny_bind (wpAny_pure (wpAny_bind (wpAny_bind (wpAny_loadPart gx (wpAny_bind (Looks.here (s := { s with toks := s.toks + 1 }) (looks_clsIn X0 hcd) ?_))))))
  rw [hdict']
  refine wpAny_pure (a := some dx) (wpAny_bind (wpAny_pure (wpAny_bind ?_)))
  unfold nsSet
  refine wpAny_bind (wpAny_bind (wpAny_askSetting (wpAny_pure (wpAny_bind (wpAny_mkText (wpAny_bind (wpAny_loadPart g ?_)))))))
  rw [hdat]
  dsimp only
  rw [aRefKeyMayBeTheName_at, hguard]
  refine wpAny_updatePart g ?_
  refine wpAny_bind (wpAny_lookBehind g' (by rw [hdat']; exact pastItsLine_dict hsz') ?_)
  have hs : Heap.SameBut dx s.heap (s.heap.update dx (Obj.putName n (hashStr B.w n) (.str n (s.toks + 1)) v)) := Heap.SameBut.update ..
  refine wpAny_pure (h _ (I.update (tk := s.toks + 1 + 1) (m' := .dict (d ++ [(n, X)])) hs hd fun kT => ⟨_, hfin, ?_⟩) hs)
  exact (DRep.stored n (r.mono kT) (hr.mono kT)).2.2

theorem SX1_setAttr {x n : PySem.Str} {e : Expr} {p1 p2 p3 : Pos} {Kn : Fr' → St → Prop} {Kr : V → St → Prop}
    (h : SE B C fr e st fun X st1 => ∃ a Cl dx d, (x, .ref a) ∈ fr ∧ st1 a = some (.inst Cl dx) ∧ st1 dx = some (.dict d) ∧ PlainSet B Cl n ∧ lookD d n = none ∧ d.length ≤ 900 ∧ Kn fr (st1.set dx (.dict (d ++ [(n, X)]))))
    (hs : swapsWith e (some (.Attribute (.Name x p1) n p2)) p3.line C.env = pure false := by rfl) : SX1 B C fr (.Assign [.Attribute (.Name x p1) n p2] e p3) st Kn Kr := fun s ok I F hL => by
  refine plainObj_wpAny_Assign_Attribute (wpAny_mono (h s ok I F hL) (fun v s1 hq0 => ?_) fun _ _ x => x) hs
  obtain ⟨X, st1, r1, I1, e1, a, Cl, dx, d, hm, ha, hd, hp, hl, hz, hk⟩ := hq0
  obtain ⟨F1, hL1⟩ := F.ext I e1 hL
  refine wpAny_mono (SE_loc (Q := fun v st' => v = .ref a ∧ st' = st1) hm ⟨rfl, rfl⟩ s1 ok I1 F1 hL1) (fun u s2 hq0 => ?_) fun _ _ x => x
  obtain ⟨Y, st2, r2, I2, e2, hY, hst⟩ := hq0
  subst hY hst
  simp only [RV] at r2
  subst r2
  obtain ⟨F2, hL2⟩ := F1.ext I1 e2 hL1
  have hne : dx ≠ C.L := fun q => by subst q; rw [hL2] at hd; cases hd
  refine setAttr_new I2 ha hd hp hl hz (r1.mono (I1.keepT0 e2)) C.A fun s3 I3 hs3 => ?_
  exact ⟨fr, _, I3, F2.same hs3 (I2.notStill hd) hne, ((e1.trans e2).trans (.update hs3 hd)).toL, hk⟩

/-! displays of dicts -/
theorem SE_DictE {pos : Pos} {Q : V → St → Prop} (h : ∀ a, st a = none → Q (.ref a) (st.set a (.dict []))) : SE B C fr (.Dict [] [] pos) st Q := fun s ok I F hL => by
  refine wpAny_Dict_empty ?_
  have k : ∀ b o, s.heap.get? b = some o → (s.heap.push { cls := .type "dict", data := .dict #[] }).get? b = some o := fun b o e => Heap.get?_push_of_some _ e
  exact ⟨.ref s.heap.objs.size, _, by simp [RV], I.alloc (tk := s.toks) (m := .dict []) k (Nat.le_refl _) ⟨[], .new _, rfl⟩, .alloc k (Nat.le_refl _), h _ I.fresh⟩

noncomputable def pairsOf (env : Env) (pos : Pos) : List (Option Expr) → List Expr → List (Sem Value × Sem Value)
  | some k :: ks, v :: vs => (eval k env, do let x ← eval v env; standAt pos; pure x) :: pairsOf env pos ks vs
  | _, _ => []
theorem pairsOf_shape (env : Env) (pos : Pos) : ∀ (ks : List (Option Expr)) (vs : List Expr), ks.all (·.isSome) = true → ks.length = vs.length →
    (evalEachOpt ks env).zip ((evalEach vs env).map fun v => do let x ← v; standAt pos; pure x) = (pairsOf env pos ks vs).map fun p => (some p.1, p.2)
  | [], [], _, _ => rfl
  | [], _ :: _, _, h => by simp at h
  | _ :: _, [], _, h => by simp at h
  | none :: ks, v :: vs, h, _ => by simp at h
  | some k :: ks, v :: vs, h, hl => by
    simp only [List.all_cons, Bool.and_eq_true] at h
    simp only [List.length_cons, Nat.add_right_cancel_iff] at hl
    have ih := pairsOf_shape env pos ks vs h.2 hl
    exact congrArg (List.cons _) ih
theorem pairsOf_length (env : Env) (pos : Pos) : ∀ (ks : List (Option Expr)) (vs : List Expr), ks.all (·.isSome) = true → ks.length = vs.length → (pairsOf env pos ks vs).length = ks.length
  | [], [], _, _ => rfl
  | [], _ :: _, _, h => by simp at h
  | _ :: _, [], _, h => by simp at h
  | none :: ks, v :: vs, h, _ => by simp at h
  | some k :: ks, v :: vs, h, hl => by
    simp only [List.all_cons, Bool.and_eq_true] at h
    simp only [List.length_cons, Nat.add_right_cancel_iff] at hl
    simp [pairsOf, pairsOf_length env pos ks vs h.2 hl]

noncomputable def SPs (B : Base) (C : Cfg) (fr : Fr') (ks : List (Option Expr)) (vs : List Expr) (st : St) (Q : List (PySem.Str × V) → St → Prop) : Prop :=
  ∀ s pos, C.Ok B → Inv B s st → FR s.heap C fr → st C.L = none → wpAny (Mod B) C.A (evalPairs (pairsOf C.env pos ks vs)) (fun ps s' => ∃ d kvs st', Carries (strKind B.prog B.w) ps kvs ∧ DRep s'.heap d kvs ∧ Inv B s' st' ∧ Ext NoX s.heap st s'.heap st' ∧ Q d st') Bad s
theorem SPs_nil {Q : List (PySem.Str × V) → St → Prop} (h : Q [] st) : SPs B C fr [] [] st Q := fun s pos ok I F hL => evalPairs_nil ⟨[], [], st, trivial, rfl, I, .refl, h⟩
theorem SPs_cons {k : PySem.Str} {kk : Nat} {kp : Pos} {ks : List (Option Expr)} {v : Expr} {vs : List Expr} {Q : List (PySem.Str × V) → St → Prop} (h : SE B C fr v st fun x st1 => SPs B C fr ks vs st1 fun d st2 => Q ((k, x) :: d) st2) :
    SPs B C fr (some (.Constant (.str k) kk kp) :: ks) (v :: vs) st Q := fun s pos ok I F hL => by
  refine evalPairs_cons (Constant_str ?_)
  have I0 : Inv B { s with toks := s.toks + 1 } st := I.keeps fun _ _ e => e
  refine wpAny_bind (wpAny_mono (h { s with toks := s.toks + 1 } ok I0 F hL) (fun u s1 hq0 => ?_) fun _ _ x => x)
  obtain ⟨x, st1, r1, I1, e1, h1⟩ := hq0
  refine wpAny_bind (wpAny_standAt (wpAny_pure ?_))
  obtain ⟨F1, hL1⟩ := FR.ext (s := { s with toks := s.toks + 1 }) F I0 e1 hL
  refine wpAny_mono (h1 s1 pos ok I1 F1 hL1) (fun ps s2 hq0 => ?_) fun _ _ x => x
  obtain ⟨d, kvs, st2, hc, hr, I2, e2, hq⟩ := hq0
  exact ⟨(k, x) :: d, (k, u) :: kvs, st2, ⟨strKind_is _ _ _ _, rfl, hc⟩, ⟨u, kvs, rfl, r1.mono (I1.keepT0 e2), hr⟩, I2, e1.trans e2, hq⟩

theorem DRep.keys {h : Heap} : ∀ {d : List (PySem.Str × V)} {kvs : List (PySem.Str × Value)}, DRep h d kvs → kvs.map (·.1) = d.map (·.1)
  | [], _, q => by
    have q : _ = [] := q
    subst q; rfl
  | (n, y) :: d, _, q => by
    obtain ⟨u, q', rfl, a, b⟩ := q
    simp [DRep.keys b]
theorem merged_nodup : ∀ (more acc : List (PySem.Str × Value)), ((acc ++ more).map (·.1)).Nodup → merged acc more = acc ++ more
  | [], acc, _ => by simp [merged]
  | kv :: more, acc, nd => by
    have hnot : ¬ (acc.any fun x => decide (x.1 = kv.1)) = true := by
      rw [List.any_eq_true]
      rintro ⟨x, hx, e⟩
      rw [List.map_append, List.nodup_append] at nd
      exact nd.2.2 x.1 (List.mem_map.mpr ⟨x, hx, rfl⟩) kv.1 (by simp) (of_decide_eq_true e)
    have e1 : PySem.stored acc kv.1 kv.2 = acc ++ [kv] := by unfold PySem.stored; rw [if_neg hnot]
    have := merged_nodup more (acc ++ [kv]) (by simpa using nd)
    unfold merged at this ⊢
    rw [List.foldl_cons, e1, this]
    simp

theorem Inv.adopt {s : Shared} {a : Addr} {m : MObj} (I : Inv B s st) (ha : B.h₀.objs.size ≤ a) (hr : MRep B s.heap a m) : Inv B s (st.set a m) :=
  ⟨I.base, I.gens, I.os, fun b mb e => by
    by_cases hb : b = a
    · subst hb; rw [St.set_same] at e; cases e; exact ⟨ha, hr⟩
    · rw [St.set_ne _ _ hb] at e; exact I.tr b mb e, I.alive⟩

theorem SE_Dict {ks : List (Option Expr)} {vs : List Expr} {pos : Pos} {Q : V → St → Prop} (h : SPs B C fr ks vs st fun d st1 => (d.map (·.1)).Nodup ∧ ∀ a, st1 a = none → Q (.ref a) (st1.set a (.dict d)))
    (h1 : ks.all (·.isSome) = true) (h2 : ks.length = vs.length) (h3 : ks ≠ []) (h4 : ks.length ≤ 15) : SE B C fr (.Dict ks vs pos) st Q := fun s ok I F hL => by
  have hlen := pairsOf_length C.env pos ks vs h1 h2
  refine wpAny_Dict_pairs (knd := strKind B.prog B.w) (pairs := pairsOf C.env pos ks vs) (pairsOf_shape C.env pos ks vs h1 h2) (by intro e; rw [e] at hlen; simp at hlen; exact h3 (List.eq_nil_of_length_eq_zero hlen.symm)) (by (first | lia -abstractProof | omega)) ?_
  have k : ∀ b o, s.heap.get? b = some o → (s.heap.push { cls := .type "dict", data := .dict #[] }).get? b = some o := fun b o e => Heap.get?_push_of_some _ e
  have I0 : Inv B { s with heap := s.heap.push { cls := .type "dict", data := .dict #[] } } st := I.keeps k
  refine wpAny_mono (h { s with heap := s.heap.push { cls := .type "dict", data := .dict #[] } } pos ok I0 (F.keeps k) hL) (fun ps s1 hq0 => ?_) fun _ _ x => x
  obtain ⟨d, kvs, st1, hc, hr, I1, e1, hnd, hq⟩ := hq0
  obtain ⟨hu, o', g', hk'⟩ := e1 s.heap.objs.size _ (Heap.get?_push_size _ rfl) I.fresh
  have := hk' id
  subst this
  have hnS : ∀ o, s1.heap.get? s.heap.objs.size = some o → ¬ Obj.Still o := fun o g c => by
    rw [g'] at g; cases g; exact c.2 _ _ rfl
  refine ⟨kvs, hc, ⟨_, #[], 0, g', ⟨rfl, rfl, rfl⟩, rfl, fun _ he => by simp at he, .nil, List.nodup_nil⟩, fun h' hd' hs' => ?_⟩
  rw [merged_nodup kvs [] (by simpa [hr.keys] using hnd), List.nil_append] at hd'
  have hx : ∃ o, h'.get? s.heap.objs.size = some o := let ⟨o, _, _, g, _⟩ := hd'; ⟨o, g⟩
  have I2 : Inv B { s1 with heap := h', toks := s1.toks + ps.length } st1 := I1.frame hs' hu I.above hx hnS
  refine ⟨.ref s.heap.objs.size, _, by simp [RV], I2.adopt (m := .dict d) I.above ⟨kvs, hd', hr.mono (keepT_frame hs' hnS)⟩, fun b o gb q => ?_, hq _ hu⟩
  obtain ⟨p, o2, g2, k2⟩ := e1 b o (k b o gb) q
  have hb : b ≠ s.heap.objs.size := Nat.ne_of_lt (Heap.lt_size gb)
  exact ⟨by rw [St.set_ne _ _ hb]; exact p, o2, (hs'.2 b hb).trans g2, k2⟩
end
end
section
/-! the text's own parts -/
noncomputable def top (k : Nat) : Stmt := PySem.Challenge.pw_sj0057_01.main.body.getD k (.Pass default)
noncomputable def fParams : Stmt → Arguments
  | .FunctionDef _ a _ _ _ _ _ _ _ _ => a
  | _ => { posonlyargs := [], args := [], vararg := none, kwonlyargs := [], kw_defaults := [], kwarg := none, defaults := [] }
noncomputable def fBody : Stmt → List Stmt
  | .FunctionDef _ _ b _ _ _ _ _ _ _ => b
  | _ => []
noncomputable def fScope : Stmt → Scope
  | .FunctionDef _ _ _ _ _ _ s _ _ _ => s
  | _ => default
noncomputable def meth (k j : Nat) : Stmt := match top k with
  | .ClassDef _ _ _ b _ _ _ _ _ _ _ => b.getD j (.Pass default)
  | _ => .Pass default

noncomputable def forB : Stmt → List Stmt
  | .For _ _ b _ _ => b
  | _ => []
noncomputable def ifT : Stmt → List Stmt
  | .If _ b _ _ => b
  | _ => []
noncomputable def ifE : Stmt → List Stmt
  | .If _ _ o _ => o
  | _ => []

noncomputable def gval (B : Base) (x : PySem.Str) : Value := (B.mg x).getD .none

/-- the text's plain functions, by their place -/
noncomputable def fnTable : List (Nat × PySem.Str) := ([(3, "find"), (5, "add_name"), (6, "add_label"), (8, "add_signal"), (9, "declare_item"), (10, "check_expr"), (11, "check_each"), (12, "check_optional"), (13, "check_range"), (16, "check_declaration"),
  (30, "declare_items"), (31, "declare_branch"), (32, "declare_implicit"), (33, "add_implicit"), (34, "check_items"), (35, "check_branch"), (36, "check_scope"), (38, "check_gate"),
  (41, "_law_feed"), (42, "_law_pick"), (43, "_law_mark"), (44, "_law_name"), (45, "_law_use"), (46, "_law_end"), (47, "_law_value"), (48, "_law_items"), (49, "_law_block"), (50, "_law_branch"), (51, "_law_item"), (52, "_law_arms"), (53, "_law_tests"),
  (54, "_law_words"), (55, "_law_nearest"), (56, "_law_due")] : List (Nat × String)).map fun p => (p.1, PySem.Str.ofString p.2)
noncomputable def fnNames : List PySem.Str := fnTable.map (·.2)
noncomputable def biNames : List (PySem.Str × Value) := [("len", .builtin "len"), ("sum", .builtin "sum"), ("sorted", .builtin "sorted"), ("abs", .builtin "abs"), ("int", .type "int"), ("list", .type "list"), ("tuple", .type "tuple"), ("range", .type "range")]

set_option genInjectivity false in
set_option genSizeOfSpec false in
structure Facts (B : Base) where
  fn : ∀ k x, (k, x) ∈ fnTable → B.mg x = some (gval B x) ∧ FnIn B (gval B x) (fParams (top k)) (fBody (top k)) (fScope (top k)) .none
  bi : ∀ p ∈ biNames, B.mg p.1 = none ∧ B.mb p.1 = some p.2
  plainT : ∀ n, Plain B (.type n)
  -- the two functions with a default
  dflt : Addr
  dfltIs : B.h₀.get? dflt = some (tupObj [.bool false] 0)
  ct : B.mg "check_target" = some (gval B "check_target") ∧ FnIn B (gval B "check_target") (fParams (top 17)) (fBody (top 17)) (fScope (top 17)) (.ref dflt)
  dflt2 : Addr
  dflt2Is : B.h₀.get? dflt2 = some (tupObj [.bool false] 0)
  ctn : B.mg "check_target_name" = some (gval B "check_target_name") ∧ FnIn B (gval B "check_target_name") (fParams (top 18)) (fBody (top 18)) (fScope (top 18)) (.ref dflt2)
  -- the two classes
  rep : Addr
  repInit : Addr
  repAdd : Addr
  repIs : B.mg "Report" = some (.ref rep) ∧ ClsIn B rep repInit
  repInitIs : FnIn B (.ref repInit) (fParams (meth 1 0)) (fBody (meth 1 0)) (fScope (meth 1 0)) .none
  repAddIs : FnIn B (.ref repAdd) (fParams (meth 1 1)) (fBody (meth 1 1)) (fScope (meth 1 1)) .none
  repSet : ∀ n ∈ ([("names" : PySem.Str), ("nettype" : PySem.Str), ("rows" : PySem.Str)] : List PySem.Str), PlainSet B rep n
  repGet : ∀ n ∈ ([("names" : PySem.Str), ("nettype" : PySem.Str), ("rows" : PySem.Str)] : List PySem.Str), PlainAttr B rep n
  repMeth : findIn B.K (.ref rep) "__getattribute__" = some (some (.builtin "object.__getattribute__")) ∧ findIn B.K (.ref rep) "__getattr__" = some none ∧ findIn B.K (.ref rep) "add" = some (some (.ref repAdd)) ∧ typeIn B.K (.ref repAdd) = some (.type "function")
  tab : Addr
  tabInit : Addr
  tabIs : B.mg "NameTable" = some (.ref tab) ∧ ClsIn B tab tabInit
  tabInitIs : FnIn B (.ref tabInit) (fParams (meth 2 0)) (fBody (meth 2 0)) (fScope (meth 2 0)) .none
  tabSet : ∀ n ∈ ([("parent" : PySem.Str), ("entries" : PySem.Str)] : List PySem.Str), PlainSet B tab n
  tabGet : ∀ n ∈ ([("parent" : PySem.Str), ("entries" : PySem.Str)] : List PySem.Str), PlainAttr B tab n

theorem kindOk {C : Cfg} {sc : Scope} {x : PySem.Str} {k : Option NameKind} (h : C.sc = sc) (e : sc.names.lookup x = k) : C.sc.names.lookup x = k := h ▸ e

section
variable {B : Base} {C : Cfg} {fr : Fr'} {st : St}

theorem SE_fn (F : Facts B) {f : PySem.Str} {p1 pos : Pos} {args : List Expr} {Q : V → St → Prop} (hm : fnNames.contains f = true) (hk : C.sc.names.lookup f = some .globalImplicit) (hd : (f == ("__debug__" : PySem.Str)) = false)
    (h : SEs B C fr args st fun vs st1 => SCall B C.d (gval B f) vs st1 Q) (hs : (args.all fun e => !isStarred e) = true := by rfl) : SE B C fr (.Call (.Name f p1) args [] pos) st Q := by
  have hm : f ∈ fnNames := by simpa using hm
  obtain ⟨⟨k, x⟩, hp, rfl⟩ := List.mem_map.mp hm
  obtain ⟨h1, h2⟩ := F.fn k x hp
  exact SE_call hk hd (.inl h1) h2.plain h hs
theorem SE_bi (F : Facts B) {f : PySem.Str} {p1 pos : Pos} {args : List Expr} {u : Value} {Q : V → St → Prop} (hm : biNames.lookup f = some u) (hk : C.sc.names.lookup f = some .globalImplicit) (hd : (f == ("__debug__" : PySem.Str)) = false)
    (h : SEs B C fr args st fun vs st1 => SCall B C.d u vs st1 Q) (hs : (args.all fun e => !isStarred e) = true := by rfl) : SE B C fr (.Call (.Name f p1) args [] pos) st Q := by
  have : (f, u) ∈ biNames := by
    have := List.lookup_eq_some_iff.mp hm
    obtain ⟨l1, l2, e, _⟩ := this
    rw [e]; simp
  obtain ⟨h1, h2⟩ := F.bi _ this
  refine SE_call hk hd (.inr ⟨h1, h2⟩) ?_ h hs
  simp only [biNames, List.mem_cons, Prod.mk.injEq, List.not_mem_nil, or_false] at this
  rcases this with ⟨_, rfl⟩ | ⟨_, rfl⟩ | ⟨_, rfl⟩ | ⟨_, rfl⟩ | ⟨_, rfl⟩ | ⟨_, rfl⟩ | ⟨_, rfl⟩ | ⟨_, rfl⟩ <;> first | exact plain_builtin _ | exact F.plainT _

theorem lenS {us : List Value} {n : Nat} (h : us.length = n + 1) : ∃ a r, us = a :: r ∧ r.length = n := by
  cases us with
  | nil => cases h
  | cons a r => exact ⟨a, r, rfl, Nat.succ.inj h⟩
theorem len1 {us : List Value} (h : us.length = 1) : ∃ a0, us = [a0] := by
  obtain ⟨a, r, e, h1⟩ := lenS h
  exact ⟨a, by rw [e, List.eq_nil_of_length_eq_zero h1]⟩
theorem len2 {us : List Value} (h : us.length = 2) : ∃ a0 a1, us = [a0, a1] := by
  obtain ⟨a, r, e, h1⟩ := lenS h
  obtain ⟨b0, e1⟩ := len1 h1
  exact ⟨a, b0, by rw [e, e1]⟩
theorem len3 {us : List Value} (h : us.length = 3) : ∃ a0 a1 a2, us = [a0, a1, a2] := by
  obtain ⟨a, r, e, h1⟩ := lenS h
  obtain ⟨b0, b1, e1⟩ := len2 h1
  exact ⟨a, b0, b1, by rw [e, e1]⟩
theorem len4 {us : List Value} (h : us.length = 4) : ∃ a0 a1 a2 a3, us = [a0, a1, a2, a3] := by
  obtain ⟨a, r, e, h1⟩ := lenS h
  obtain ⟨b0, b1, b2, e1⟩ := len3 h1
  exact ⟨a, b0, b1, b2, by rw [e, e1]⟩
theorem len5 {us : List Value} (h : us.length = 5) : ∃ a0 a1 a2 a3 a4, us = [a0, a1, a2, a3, a4] := by
  obtain ⟨a, r, e, h1⟩ := lenS h
  obtain ⟨b0, b1, b2, b3, e1⟩ := len4 h1
  exact ⟨a, b0, b1, b2, b3, by rw [e, e1]⟩
theorem len6 {us : List Value} (h : us.length = 6) : ∃ a0 a1 a2 a3 a4 a5, us = [a0, a1, a2, a3, a4, a5] := by
  obtain ⟨a, r, e, h1⟩ := lenS h
  obtain ⟨b0, b1, b2, b3, b4, e1⟩ := len5 h1
  exact ⟨a, b0, b1, b2, b3, b4, by rw [e, e1]⟩
theorem len7 {us : List Value} (h : us.length = 7) : ∃ a0 a1 a2 a3 a4 a5 a6, us = [a0, a1, a2, a3, a4, a5, a6] := by
  obtain ⟨a, r, e, h1⟩ := lenS h
  obtain ⟨b0, b1, b2, b3, b4, b5, e1⟩ := len6 h1
  exact ⟨a, b0, b1, b2, b3, b4, b5, by rw [e, e1]⟩
theorem len0 {us : List Value} (h : us.length = 0) : us = [] := List.eq_nil_of_length_eq_zero h
/-- a plain function, its text given -/
theorem SCode_fn {u : Value} {t : Stmt} {d : Nat} (names : List PySem.Str) {vs : List V} {fr0 : Fr'} {Q : V → St → Prop} (hF : FnIn B u (fParams t) (fBody t) (fScope t) .none) (hl : names.length = vs.length)
    (hb : ∀ us name qual kV doc pm an cdv ct, us.length = names.length → bindArgs (fnOf name qual (fParams t) (fBody t) (fScope t) .none kV doc pm an cdv ct) ⟨us, []⟩ = pure (names.zip us))
    (h1 : names.Nodup) (h2 : (names.all fun n => decide ((fScope t).names.lookup n = some .local) && !(n == ("__debug__" : PySem.Str))) = true)
    (h3 : ((fScope t).kind == .function && !(fScope t).isCoroutine && !(fScope t).isGenerator && (fScope t).names.all fun x => x.2 != .cell) = true)
    (hfr : names.zip vs = fr0) (h : ∀ C : Cfg, C.sc = fScope t → C.d = d → SX B C fr0 (fBody t) st (fun _ st' => Q .none st') Q) : SCode B (d + 1) u vs st Q := by
  subst hfr
  refine SCode_def hF (names := names) (xs := []) (fun s us name qual kV doc pm an cdv ct I hu => ⟨[], by simp [RVs], ?_⟩) h1 h2 h3 (by simpa using h)
  rw [List.append_nil]
  exact .of_eq (hb us name qual kV doc pm an cdv ct (by (first | lia -abstractProof | omega)))
/-- a plain function by its place in the text -/
theorem SCode_at (F : Facts B) {k : Nat} {x : PySem.Str} {d : Nat} (names : List PySem.Str) {vs : List V} {fr0 : Fr'} {Q : V → St → Prop} (hm : fnTable.contains (k, x) = true) (hl : names.length = vs.length)
    (hb : ∀ us name qual kV doc pm an cdv ct, us.length = names.length → bindArgs (fnOf name qual (fParams (top k)) (fBody (top k)) (fScope (top k)) .none kV doc pm an cdv ct) ⟨us, []⟩ = pure (names.zip us))
    (h1 : names.Nodup) (h2 : (names.all fun n => decide ((fScope (top k)).names.lookup n = some .local) && !(n == ("__debug__" : PySem.Str))) = true)
    (h3 : ((fScope (top k)).kind == .function && !(fScope (top k)).isCoroutine && !(fScope (top k)).isGenerator && (fScope (top k)).names.all fun x => x.2 != .cell) = true)
    (hfr : names.zip vs = fr0) (h : ∀ C : Cfg, C.sc = fScope (top k) → C.d = d → SX B C fr0 (fBody (top k)) st (fun _ st' => Q .none st') Q) : SCode B (d + 1) (gval B x) vs st Q := by
  have hm : (k, x) ∈ fnTable := by simpa using hm
  exact SCode_fn names (F.fn k x hm).2 hl hb h1 h2 h3 hfr h
end
end
abbrev S (x : String) : PySem.Str := PySem.Str.ofString x
section
variable {B : Base} {C : Cfg} {fr : Fr'} {st : St}

/-- reading an item -/
noncomputable def Idx (st : St) (x y : V) (P : V → Prop) : Prop := (∃ l k e, x = .tup l ∧ y = .int k ∧ 0 ≤ k ∧ k < 2 ^ 40 ∧ l[k.toNat]? = some e ∧ P e) ∨ (∃ a l k e, x = .ref a ∧ y = .int k ∧ IsL st a l ∧ 0 ≤ k ∧ k < 2 ^ 40 ∧ l[k.toNat]? = some e ∧ P e) ∨ (∃ a d k e, x = .ref a ∧ y = .str k ∧ st a = some (.dict d) ∧ lookD d k = some e ∧ P e)
theorem Idx.tup {l : List V} {k : Int} {e : V} {P : V → Prop} (h0 : 0 ≤ k) (hk : k < 2 ^ 40) (he : l[k.toNat]? = some e) (h : P e) : Idx st (.tup l) (.int k) P := .inl ⟨l, k, e, rfl, rfl, h0, hk, he, h⟩
theorem Idx.list {a : Addr} {l : List V} {k : Int} {e : V} {P : V → Prop} (ha : IsL st a l) (h0 : 0 ≤ k) (hk : k < 2 ^ 40) (he : l[k.toNat]? = some e) (h : P e) : Idx st (.ref a) (.int k) P := .inr (.inl ⟨a, l, k, e, rfl, rfl, ha, h0, hk, he, h⟩)
theorem Idx.dict {a : Addr} {d : List (PySem.Str × V)} {k : PySem.Str} {e : V} {P : V → Prop} (ha : st a = some (.dict d)) (he : lookD d k = some e) (h : P e) : Idx st (.ref a) (.str k) P := .inr (.inr ⟨a, d, k, e, rfl, rfl, ha, he, h⟩)
theorem SE_idx {value slice : Expr} {pos : Pos} {Q : V → St → Prop} (h : SE B C fr value st fun x st1 => SE B C fr slice st1 fun y st2 => Idx st2 x y fun e => Q e st2)
    (hs : NoSlice slice := by intro _ _; with_unfolding_all rfl) : SE B C fr (.Subscript value slice pos) st Q :=
  SE_sub (h.mono fun x st1 h1 => h1.mono fun y st2 h2 => by
    rcases h2 with ⟨l, k, e, hx, hy, h0, hk, he, hq⟩ | ⟨a, l, k, e, hx, hy, ha, h0, hk, he, hq⟩ | ⟨a, d, k, e, hx, hy, ha, he, hq⟩
    · subst hx hy; exact tail_tup hs h0 hk he hq
    · subst hx hy; exact tail_list hs ha h0 hk he hq
    · subst hx hy; exact tail_dict hs ha he hq)
theorem Put.go {x : PySem.Str} {v : V} {fr' : Fr'} {P : Fr' → Prop} (h : Put C fr x v fr') (hp : P fr') : ∃ fr1, Put C fr x v fr1 ∧ P fr1 := ⟨fr', h, hp⟩
theorem small_go {P : Prop} {l : List V} (h : l.length ≤ 1000) (p : P) : l.length ≤ 1000 ∧ P := ⟨h, p⟩
noncomputable def strsOf : List V → List PySem.Str
  | .str s :: l => s :: strsOf l
  | _ => []
noncomputable def allStr : List V → Bool
  | [] => true
  | .str _ :: l => allStr l
  | _ => false
theorem strsOf_map : ∀ {l : List V}, allStr l = true → l = (strsOf l).map V.str
  | [], _ => rfl
  | .str s :: l, h => by
    have h : allStr l = true := h
    show _ = V.str s :: _
    rw [← strsOf_map h]
  | .none :: _, h => by cases h
  | .bool _ :: _, h => by cases h
  | .int _ :: _, h => by cases h
  | .tup _ :: _, h => by cases h
  | .ref _ :: _, h => by cases h
  | .glob _ :: _, h => by cases h
  | .range _ :: _, h => by cases h
theorem SC_in_lit {a : PySem.Str} {l : List V} {Qt Qf : St → Prop} (hl : allStr l = true) (h1 : a ∈ strsOf l → Qt st) (h2 : a ∉ strsOf l → Qf st) : SC B C .In (.str a) (.tup l) st Qt Qf := SC_in_strs (strsOf_map hl) h1 h2
theorem SC_notIn_lit {a : PySem.Str} {l : List V} {Qt Qf : St → Prop} (hl : allStr l = true) (h1 : a ∉ strsOf l → Qt st) (h2 : a ∈ strsOf l → Qf st) : SC B C .NotIn (.str a) (.tup l) st Qt Qf := SC_notIn_strs (strsOf_map hl) h1 h2
theorem ex_tup {l : List V} {P : List V → Prop} (h : P l) : ∃ l', V.tup l = V.tup l' ∧ P l' := ⟨l, rfl, h⟩
theorem Loop_nilT {tgt : Expr} {body : List Stmt} {Kn : Fr' → St → Prop} {Kr : V → St → Prop} (h : Kn fr st) : Loop B C (fun _ => True) tgt body [] fr st Kn Kr := ⟨trivial, h⟩
theorem Loop_consT {tgt : Expr} {body : List Stmt} {x : V} {l : List V} {Kn : Fr' → St → Prop} {Kr : V → St → Prop} (h : AS B C fr tgt x st fun fr1 st1 => SX B C fr1 body st1 (fun fr2 st2 => Loop B C (fun _ => True) tgt body l fr2 st2 Kn Kr) Kr) :
    Loop B C (fun _ => True) tgt body (x :: l) fr st Kn Kr := ⟨trivial, h⟩
theorem sub_nil {fr : Fr'} : ∀ p ∈ ([] : Fr'), p ∈ fr := fun _ h => by simp at h
theorem sub_cons {q : PySem.Str × V} {r fr : Fr'} (h1 : q ∈ fr) (h2 : ∀ p ∈ r, p ∈ fr) : ∀ p ∈ q :: r, p ∈ fr := fun p h => by
  rcases List.mem_cons.mp h with e | h
  · subst e; exact h1
  · exact h2 p h
theorem FR.sub {h : Heap} {fr0 : Fr'} (F : FR h C fr) (hs : ∀ p ∈ fr0, p ∈ fr) (nd : (fr0.map (·.1)).Nodup) : FR h C fr0 :=
  ⟨nd, fun p hp => F.kind p (hs p hp), let ⟨m, n, k⟩ := F.ns; ⟨m, n, fun p hp => k p (hs p hp)⟩⟩
theorem AS.forget {tgt : Expr} {x : V} {fr0 : Fr'} {K : Fr' → St → Prop} (hs : ∀ p ∈ fr0, p ∈ fr) (nd : (fr0.map (·.1)).Nodup) (h : AS B C fr0 tgt x st K) : AS B C fr tgt x st K := fun s v ok I F hL r => h s v ok I (F.sub hs nd) hL r
/-- a loop whose frame is looked at only in the names fr0 -/
theorem Loop.invF {Chk : St → Prop} {tgt : Expr} {body : List Stmt} {Kn : Fr' → St → Prop} {Kr : V → St → Prop} (fr0 : Fr') (nd : (fr0.map (·.1)).Nodup) (J : List V → St → Prop) (hc : ∀ l st, J l st → Chk st)
    (step : ∀ x l st, J (x :: l) st → AS B C fr0 tgt x st fun fr1 st1 => SX B C fr1 body st1 (fun fr2 st2 => (∀ p ∈ fr0, p ∈ fr2) ∧ J l st2) Kr) (fin : ∀ fr st, (∀ p ∈ fr0, p ∈ fr) → J [] st → Kn fr st) {l : List V} {fr : Fr'} {st : St} (hs : ∀ p ∈ fr0, p ∈ fr) (h : J l st) : Loop B C Chk tgt body l fr st Kn Kr :=
  Loop.inv (fun l fr st => (∀ p ∈ fr0, p ∈ fr) ∧ J l st) (fun l fr st h => hc l st h.2) (fun x l fr st h => (step x l st h.2).forget h.1 nd) (fun fr st h => fin fr st h.1 h.2) l fr st ⟨hs, h⟩
theorem ST.forget {t : Expr} {fr0 : Fr'} {Qt Qf : St → Prop} (hs : ∀ p ∈ fr0, p ∈ fr) (nd : (fr0.map (·.1)).Nodup) (h : ST B C fr0 t st Qt Qf) : ST B C fr t st Qt Qf := fun s ok I F hL => h s ok I (F.sub hs nd) hL
theorem SEb_len (F : Facts B) {p1 pos : Pos} {args : List Expr} {Q : V → St → Prop} (hk : C.sc.names.lookup (S "len") = some .globalImplicit)
    (h : SEs B C fr args st fun vs st1 => SCall B C.d (.builtin "len") vs st1 Q) (hs : (args.all fun e => !isStarred e) = true) : SE B C fr (.Call (.Name (S "len") p1) args [] pos) st Q := SE_bi F (u := .builtin "len") (by decide +kernel) hk (by decide +kernel) h hs
theorem SEb_sum (F : Facts B) {p1 pos : Pos} {args : List Expr} {Q : V → St → Prop} (hk : C.sc.names.lookup (S "sum") = some .globalImplicit)
    (h : SEs B C fr args st fun vs st1 => SCall B C.d (.builtin "sum") vs st1 Q) (hs : (args.all fun e => !isStarred e) = true) : SE B C fr (.Call (.Name (S "sum") p1) args [] pos) st Q := SE_bi F (u := .builtin "sum") (by decide +kernel) hk (by decide +kernel) h hs
theorem SEb_sorted (F : Facts B) {p1 pos : Pos} {args : List Expr} {Q : V → St → Prop} (hk : C.sc.names.lookup (S "sorted") = some .globalImplicit)
    (h : SEs B C fr args st fun vs st1 => SCall B C.d (.builtin "sorted") vs st1 Q) (hs : (args.all fun e => !isStarred e) = true) : SE B C fr (.Call (.Name (S "sorted") p1) args [] pos) st Q := SE_bi F (u := .builtin "sorted") (by decide +kernel) hk (by decide +kernel) h hs
theorem SEb_abs (F : Facts B) {p1 pos : Pos} {args : List Expr} {Q : V → St → Prop} (hk : C.sc.names.lookup (S "abs") = some .globalImplicit)
    (h : SEs B C fr args st fun vs st1 => SCall B C.d (.builtin "abs") vs st1 Q) (hs : (args.all fun e => !isStarred e) = true) : SE B C fr (.Call (.Name (S "abs") p1) args [] pos) st Q := SE_bi F (u := .builtin "abs") (by decide +kernel) hk (by decide +kernel) h hs
theorem SEb_int (F : Facts B) {p1 pos : Pos} {args : List Expr} {Q : V → St → Prop} (hk : C.sc.names.lookup (S "int") = some .globalImplicit)
    (h : SEs B C fr args st fun vs st1 => SCall B C.d (.type "int") vs st1 Q) (hs : (args.all fun e => !isStarred e) = true) : SE B C fr (.Call (.Name (S "int") p1) args [] pos) st Q := SE_bi F (u := .type "int") (by decide +kernel) hk (by decide +kernel) h hs
theorem SEb_list (F : Facts B) {p1 pos : Pos} {args : List Expr} {Q : V → St → Prop} (hk : C.sc.names.lookup (S "list") = some .globalImplicit)
    (h : SEs B C fr args st fun vs st1 => SCall B C.d (.type "list") vs st1 Q) (hs : (args.all fun e => !isStarred e) = true) : SE B C fr (.Call (.Name (S "list") p1) args [] pos) st Q := SE_bi F (u := .type "list") (by decide +kernel) hk (by decide +kernel) h hs
theorem SEb_tuple (F : Facts B) {p1 pos : Pos} {args : List Expr} {Q : V → St → Prop} (hk : C.sc.names.lookup (S "tuple") = some .globalImplicit)
    (h : SEs B C fr args st fun vs st1 => SCall B C.d (.type "tuple") vs st1 Q) (hs : (args.all fun e => !isStarred e) = true) : SE B C fr (.Call (.Name (S "tuple") p1) args [] pos) st Q := SE_bi F (u := .type "tuple") (by decide +kernel) hk (by decide +kernel) h hs
theorem SEb_range (F : Facts B) {p1 pos : Pos} {args : List Expr} {Q : V → St → Prop} (hk : C.sc.names.lookup (S "range") = some .globalImplicit)
    (h : SEs B C fr args st fun vs st1 => SCall B C.d (.type "range") vs st1 Q) (hs : (args.all fun e => !isStarred e) = true) : SE B C fr (.Call (.Name (S "range") p1) args [] pos) st Q := SE_bi F (u := .type "range") (by decide +kernel) hk (by decide +kernel) h hs
end
section
/-! the head: what stands in the heap when the law is called -/
noncomputable def hK (P : Params) : Frag :=
  [(3, (Obj.mk (Value.type "dict") (none) (Data.dict #[(DictEntry.mk (PyData.keyHash P (S "__name__")) (Value.str (S "__name__") 165) (Value.str (S "law_sj0057_01") 666)), (DictEntry.mk (PyData.keyHash P (S "__doc__")) (Value.str (S "__doc__") 166) Value.none), (DictEntry.mk (PyData.keyHash P (S "__package__")) (Value.str (S "__package__") 167) Value.none), (DictEntry.mk (PyData.keyHash P (S "__loader__")) (Value.str (S "__loader__") 168) (Value.builtin "__main__.__loader__#opaque")), (DictEntry.mk (PyData.keyHash P (S "__spec__")) (Value.str (S "__spec__") 169) Value.none), (DictEntry.mk (PyData.keyHash P (S "__annotations__")) (Value.str (S "__annotations__") 170) (Value.ref 6)), (DictEntry.mk (PyData.keyHash P (S "__builtins__")) (Value.str (S "__builtins__") 171) (Value.ref 4)), (DictEntry.mk (PyData.keyHash P (S "__file__")) (Value.str (S "__file__") 173) (Value.str (S "/claim/cut.py") 172)), (DictEntry.mk (PyData.keyHash P (S "__cached__")) (Value.str (S "__cached__") 174) Value.none), (DictEntry.mk (PyData.keyHash P (S "Report")) (Value.str (S "Report") 230) (Value.ref 38)), (DictEntry.mk (PyData.keyHash P (S "NameTable")) (Value.str (S "NameTable") 260) (Value.ref 59)), (DictEntry.mk (PyData.keyHash P (S "find")) (Value.str (S "find") 268) (Value.ref 70)), (DictEntry.mk (PyData.keyHash P (S "find_routine")) (Value.str (S "find_routine") 277) (Value.ref 77)), (DictEntry.mk (PyData.keyHash P (S "add_name")) (Value.str (S "add_name") 289) (Value.ref 84)), (DictEntry.mk (PyData.keyHash P (S "add_label")) (Value.str (S "add_label") 301) (Value.ref 91)), (DictEntry.mk (PyData.keyHash P (S "add_port")) (Value.str (S "add_port") 316) (Value.ref 98)), (DictEntry.mk (PyData.keyHash P (S "add_signal")) (Value.str (S "add_signal") 330) (Value.ref 105)), (DictEntry.mk (PyData.keyHash P (S "declare_item")) (Value.str (S "declare_item") 345) (Value.ref 112)), (DictEntry.mk (PyData.keyHash P (S "check_expr")) (Value.str (S "check_expr") 355) (Value.ref 119)), (DictEntry.mk (PyData.keyHash P (S "check_each")) (Value.str (S "check_each") 365) (Value.ref 126)), (DictEntry.mk (PyData.keyHash P (S "check_optional")) (Value.str (S "check_optional") 374) (Value.ref 133)), (DictEntry.mk (PyData.keyHash P (S "check_range")) (Value.str (S "check_range") 383) (Value.ref 140)), (DictEntry.mk (PyData.keyHash P (S "check_path")) (Value.str (S "check_path") 394) (Value.ref 147)), (DictEntry.mk (PyData.keyHash P (S "check_call")) (Value.str (S "check_call") 404) (Value.ref 154)), (DictEntry.mk (PyData.keyHash P (S "check_declaration")) (Value.str (S "check_declaration") 415) (Value.ref 161)), (DictEntry.mk (PyData.keyHash P (S "check_target")) (Value.str (S "check_target") 428) (Value.ref 169)), (DictEntry.mk (PyData.keyHash P (S "check_target_name")) (Value.str (S "check_target_name") 441) (Value.ref 177)), (DictEntry.mk (PyData.keyHash P (S "declare_labels")) (Value.str (S "declare_labels") 455) (Value.ref 184)), (DictEntry.mk (PyData.keyHash P (S "check_stmt")) (Value.str (S "check_stmt") 469) (Value.ref 191)), (DictEntry.mk (PyData.keyHash P (S "check_block")) (Value.str (S "check_block") 482) (Value.ref 198)), (DictEntry.mk (PyData.keyHash P (S "check_case")) (Value.str (S "check_case") 495) (Value.ref 205)), (DictEntry.mk (PyData.keyHash P (S "check_control")) (Value.str (S "check_control") 504) (Value.ref 212)), (DictEntry.mk (PyData.keyHash P (S "check_events")) (Value.str (S "check_events") 515) (Value.ref 219)), (DictEntry.mk (PyData.keyHash P (S "check_trigger")) (Value.str (S "check_trigger") 525) (Value.ref 226)), (DictEntry.mk (PyData.keyHash P (S "check_disable")) (Value.str (S "check_disable") 535) (Value.ref 233)), (DictEntry.mk (PyData.keyHash P (S "check_task")) (Value.str (S "check_task") 548) (Value.ref 240)), (DictEntry.mk (PyData.keyHash P (S "declare_items")) (Value.str (S "declare_items") 561) (Value.ref 247)), (DictEntry.mk (PyData.keyHash P (S "declare_branch")) (Value.str (S "declare_branch") 573) (Value.ref 254)), (DictEntry.mk (PyData.keyHash P (S "declare_implicit")) (Value.str (S "declare_implicit") 583) (Value.ref 261)), (DictEntry.mk (PyData.keyHash P (S "add_implicit")) (Value.str (S "add_implicit") 592) (Value.ref 268)), (DictEntry.mk (PyData.keyHash P (S "check_items")) (Value.str (S "check_items") 606) (Value.ref 275)), (DictEntry.mk (PyData.keyHash P (S "check_branch")) (Value.str (S "check_branch") 615) (Value.ref 282)), (DictEntry.mk (PyData.keyHash P (S "check_scope")) (Value.str (S "check_scope") 626) (Value.ref 289)), (DictEntry.mk (PyData.keyHash P (S "check_routine")) (Value.str (S "check_routine") 637) (Value.ref 296)), (DictEntry.mk (PyData.keyHash P (S "check_gate")) (Value.str (S "check_gate") 650) (Value.ref 303)), (DictEntry.mk (PyData.keyHash P (S "check_instance")) (Value.str (S "check_instance") 665) (Value.ref 310)), (DictEntry.mk (PyData.keyHash P (S "_law_feed")) (Value.str (S "_law_feed") 673) (Value.ref 315)), (DictEntry.mk (PyData.keyHash P (S "_law_pick")) (Value.str (S "_law_pick") 682) (Value.ref 322)), (DictEntry.mk (PyData.keyHash P (S "_law_mark")) (Value.str (S "_law_mark") 689) (Value.ref 329)), (DictEntry.mk (PyData.keyHash P (S "_law_name")) (Value.str (S "_law_name") 696) (Value.ref 336)), (DictEntry.mk (PyData.keyHash P (S "_law_use")) (Value.str (S "_law_use") 703) (Value.ref 343)), (DictEntry.mk (PyData.keyHash P (S "_law_end")) (Value.str (S "_law_end") 710) (Value.ref 350)), (DictEntry.mk (PyData.keyHash P (S "_law_value")) (Value.str (S "_law_value") 717) (Value.ref 357)), (DictEntry.mk (PyData.keyHash P (S "_law_items")) (Value.str (S "_law_items") 728) (Value.ref 364)), (DictEntry.mk (PyData.keyHash P (S "_law_block")) (Value.str (S "_law_block") 738) (Value.ref 371)), (DictEntry.mk (PyData.keyHash P (S "_law_branch")) (Value.str (S "_law_branch") 747) (Value.ref 378)), (DictEntry.mk (PyData.keyHash P (S "_law_item")) (Value.str (S "_law_item") 760) (Value.ref 385)), (DictEntry.mk (PyData.keyHash P (S "_law_arms")) (Value.str (S "_law_arms") 767) (Value.ref 392)), (DictEntry.mk (PyData.keyHash P (S "_law_tests")) (Value.str (S "_law_tests") 774) (Value.ref 399)), (DictEntry.mk (PyData.keyHash P (S "_law_words")) (Value.str (S "_law_words") 781) (Value.ref 406)), (DictEntry.mk (PyData.keyHash P (S "_law_nearest")) (Value.str (S "_law_nearest") 791) (Value.ref 413)), (DictEntry.mk (PyData.keyHash P (S "_law_due")) (Value.str (S "_law_due") 818) (Value.ref 420)), (DictEntry.mk (PyData.keyHash P (S "law")) (Value.str (S "law") 832) (Value.ref 427))] 63) #[])),
   (27, (Obj.mk (Value.type "code") (none) (Data.fields #[(Value.str (S "__init__") 201), (Value.str (S "Report.__init__") 202), (Value.str (S "/claim/cut.py") 203), (Value.int 4 0), (Value.int 3 0), (Value.int 0 0), (Value.int 0 0), (Value.int 3 0), (Value.ref 22), (Value.bool Bool.true), (Value.int 181 0), (Value.ref 23), Value.none, (Value.ref 24), (Value.ref 25), (Value.ref 26), (Value.int 207 0), (Value.int 4 0), (Value.str (S "/claim/cut.py") 208)]) #[])),
   (28, (Obj.mk (Value.type "function") (none) (Data.func (FuncData.mk (S "__init__") (S "Report.__init__") (fParams (meth 1 0)) (.stmts (fBody (meth 1 0))) (fScope (meth 1 0)) 3 [] Value.none Value.none Value.none (Value.str (S "gateloom.checknames") 187) (none) (Value.ref 27) Value.none 0)) #[])),
   (34, (Obj.mk (Value.type "code") (none) (Data.fields #[(Value.str (S "add") 210), (Value.str (S "Report.add") 211), (Value.str (S "/claim/cut.py") 212), (Value.int 9 0), (Value.int 4 0), (Value.int 0 0), (Value.int 0 0), (Value.int 3 0), (Value.ref 29), (Value.bool Bool.true), (Value.int 181 0), (Value.ref 30), Value.none, (Value.ref 31), (Value.ref 32), (Value.ref 33), (Value.int 217 0), (Value.int 9 0), (Value.str (S "/claim/cut.py") 218)]) #[])),
   (35, (Obj.mk (Value.type "function") (none) (Data.func (FuncData.mk (S "add") (S "Report.add") (fParams (meth 1 1)) (.stmts (fBody (meth 1 1))) (fScope (meth 1 1)) 3 [] Value.none Value.none Value.none (Value.str (S "gateloom.checknames") 187) (none) (Value.ref 34) Value.none 0)) #[])),
   (37, (Obj.mk (Value.type "dict") (none) (Data.dict #[(DictEntry.mk (PyData.keyHash P (S "__module__")) (Value.str (S "__module__") 196) (Value.str (S "gateloom.checknames") 187)), (DictEntry.mk (PyData.keyHash P (S "__firstlineno__")) (Value.str (S "__firstlineno__") 200) (Value.int 2 199)), (DictEntry.mk (PyData.keyHash P (S "__init__")) (Value.str (S "__init__") 209) (Value.ref 28)), (DictEntry.mk (PyData.keyHash P (S "add")) (Value.str (S "add") 219) (Value.ref 35)), (DictEntry.mk (PyData.keyHash P (S "__static_attributes__")) (Value.str (S "__static_attributes__") 223) (Value.ref 36)), (DictEntry.mk (PyData.keyHash P (S "__dict__")) (Value.str (S "__dict__") 225) (Value.ref 39)), (DictEntry.mk (PyData.keyHash P (S "__weakref__")) (Value.str (S "__weakref__") 227) (Value.ref 40)), (DictEntry.mk (PyData.keyHash P (S "__doc__")) (Value.str (S "__doc__") 228) Value.none)] 4) #[])),
   (38, (Obj.mk (Value.type "type") (none) (Data.cls (ClassData.mk (S "Report") [(Value.type "object")] [(Value.ref 38), (Value.type "object")] 37 (S "Report") Bool.true [] [] Bool.false (none) Bool.false)) #[(none), (none), (Option.some (Value.str (S "Report") 189)), (Option.some (Value.str (S "Report") 197)), (Option.some (Value.builtin "object.__new__")), (Option.some (Value.bool Bool.true))])),
   (55, (Obj.mk (Value.type "code") (none) (Data.fields #[(Value.str (S "__init__") 243), (Value.str (S "NameTable.__init__") 244), (Value.str (S "/claim/cut.py") 245), (Value.int 13 0), (Value.int 2 0), (Value.int 0 0), (Value.int 0 0), (Value.int 3 0), (Value.ref 50), (Value.bool Bool.true), (Value.int 181 0), (Value.ref 51), Value.none, (Value.ref 52), (Value.ref 53), (Value.ref 54), (Value.int 248 0), (Value.int 13 0), (Value.str (S "/claim/cut.py") 249)]) #[])),
   (56, (Obj.mk (Value.type "function") (none) (Data.func (FuncData.mk (S "__init__") (S "NameTable.__init__") (fParams (meth 2 0)) (.stmts (fBody (meth 2 0))) (fScope (meth 2 0)) 3 [] Value.none Value.none Value.none (Value.str (S "gateloom.checknames") 187) (none) (Value.ref 55) Value.none 0)) #[])),
   (58, (Obj.mk (Value.type "dict") (none) (Data.dict #[(DictEntry.mk (PyData.keyHash P (S "__module__")) (Value.str (S "__module__") 238) (Value.str (S "gateloom.checknames") 187)), (DictEntry.mk (PyData.keyHash P (S "__firstlineno__")) (Value.str (S "__firstlineno__") 242) (Value.int 11 241)), (DictEntry.mk (PyData.keyHash P (S "__init__")) (Value.str (S "__init__") 250) (Value.ref 56)), (DictEntry.mk (PyData.keyHash P (S "__static_attributes__")) (Value.str (S "__static_attributes__") 253) (Value.ref 57)), (DictEntry.mk (PyData.keyHash P (S "__dict__")) (Value.str (S "__dict__") 255) (Value.ref 60)), (DictEntry.mk (PyData.keyHash P (S "__weakref__")) (Value.str (S "__weakref__") 257) (Value.ref 61)), (DictEntry.mk (PyData.keyHash P (S "__doc__")) (Value.str (S "__doc__") 258) Value.none)] 4) #[])),
   (59, (Obj.mk (Value.type "type") (none) (Data.cls (ClassData.mk (S "NameTable") [(Value.type "object")] [(Value.ref 59), (Value.type "object")] 58 (S "NameTable") Bool.true [] [] Bool.false (none) Bool.false)) #[(none), (none), (Option.some (Value.str (S "NameTable") 231)), (Option.some (Value.str (S "NameTable") 239)), (Option.some (Value.builtin "object.__new__")), (Option.some (Value.bool Bool.true))])),
   (69, (Obj.mk (Value.type "code") (none) (Data.fields #[(Value.str (S "find") 261), (Value.str (S "find") 262), (Value.str (S "/claim/cut.py") 263), (Value.int 16 0), (Value.int 2 0), (Value.int 0 0), (Value.int 0 0), (Value.int 3 0), (Value.ref 64), (Value.bool Bool.true), (Value.int 181 0), (Value.ref 65), Value.none, (Value.ref 66), (Value.ref 67), (Value.ref 68), (Value.int 266 0), (Value.int 16 0), (Value.str (S "/claim/cut.py") 267)]) #[])),
   (70, (Obj.mk (Value.type "function") (none) (Data.func (FuncData.mk (S "find") (S "find") (fParams (top 3)) (.stmts (fBody (top 3))) (fScope (top 3)) 3 [] Value.none Value.none Value.none (Value.str (S "gateloom.checknames") 187) (none) (Value.ref 69) Value.none 0)) #[])),
   (83, (Obj.mk (Value.type "code") (none) (Data.fields #[(Value.str (S "add_name") 278), (Value.str (S "add_name") 279), (Value.str (S "/claim/cut.py") 280), (Value.int 30 0), (Value.int 6 0), (Value.int 0 0), (Value.int 0 0), (Value.int 3 0), (Value.ref 78), (Value.bool Bool.true), (Value.int 181 0), (Value.ref 79), Value.none, (Value.ref 80), (Value.ref 81), (Value.ref 82), (Value.int 287 0), (Value.int 30 0), (Value.str (S "/claim/cut.py") 288)]) #[])),
   (84, (Obj.mk (Value.type "function") (none) (Data.func (FuncData.mk (S "add_name") (S "add_name") (fParams (top 5)) (.stmts (fBody (top 5))) (fScope (top 5)) 3 [] Value.none Value.none Value.none (Value.str (S "gateloom.checknames") 187) (none) (Value.ref 83) Value.none 0)) #[])),
   (90, (Obj.mk (Value.type "code") (none) (Data.fields #[(Value.str (S "add_label") 290), (Value.str (S "add_label") 291), (Value.str (S "/claim/cut.py") 292), (Value.int 35 0), (Value.int 5 0), (Value.int 0 0), (Value.int 0 0), (Value.int 3 0), (Value.ref 85), (Value.bool Bool.true), (Value.int 181 0), (Value.ref 86), Value.none, (Value.ref 87), (Value.ref 88), (Value.ref 89), (Value.int 299 0), (Value.int 35 0), (Value.str (S "/claim/cut.py") 300)]) #[])),
   (91, (Obj.mk (Value.type "function") (none) (Data.func (FuncData.mk (S "add_label") (S "add_label") (fParams (top 6)) (.stmts (fBody (top 6))) (fScope (top 6)) 3 [] Value.none Value.none Value.none (Value.str (S "gateloom.checknames") 187) (none) (Value.ref 90) Value.none 0)) #[])),
   (104, (Obj.mk (Value.type "code") (none) (Data.fields #[(Value.str (S "add_signal") 317), (Value.str (S "add_signal") 318), (Value.str (S "/claim/cut.py") 319), (Value.int 56 0), (Value.int 6 0), (Value.int 0 0), (Value.int 0 0), (Value.int 3 0), (Value.ref 99), (Value.bool Bool.true), (Value.int 181 0), (Value.ref 100), Value.none, (Value.ref 101), (Value.ref 102), (Value.ref 103), (Value.int 328 0), (Value.int 56 0), (Value.str (S "/claim/cut.py") 329)]) #[])),
   (105, (Obj.mk (Value.type "function") (none) (Data.func (FuncData.mk (S "add_signal") (S "add_signal") (fParams (top 8)) (.stmts (fBody (top 8))) (fScope (top 8)) 3 [] Value.none Value.none Value.none (Value.str (S "gateloom.checknames") 187) (none) (Value.ref 104) Value.none 0)) #[])),
   (111, (Obj.mk (Value.type "code") (none) (Data.fields #[(Value.str (S "declare_item") 331), (Value.str (S "declare_item") 332), (Value.str (S "/claim/cut.py") 333), (Value.int 68 0), (Value.int 4 0), (Value.int 0 0), (Value.int 0 0), (Value.int 3 0), (Value.ref 106), (Value.bool Bool.true), (Value.int 181 0), (Value.ref 107), Value.none, (Value.ref 108), (Value.ref 109), (Value.ref 110), (Value.int 343 0), (Value.int 68 0), (Value.str (S "/claim/cut.py") 344)]) #[])),
   (112, (Obj.mk (Value.type "function") (none) (Data.func (FuncData.mk (S "declare_item") (S "declare_item") (fParams (top 9)) (.stmts (fBody (top 9))) (fScope (top 9)) 3 [] Value.none Value.none Value.none (Value.str (S "gateloom.checknames") 187) (none) (Value.ref 111) Value.none 0)) #[])),
   (118, (Obj.mk (Value.type "code") (none) (Data.fields #[(Value.str (S "check_expr") 346), (Value.str (S "check_expr") 347), (Value.str (S "/claim/cut.py") 348), (Value.int 95 0), (Value.int 3 0), (Value.int 0 0), (Value.int 0 0), (Value.int 3 0), (Value.ref 113), (Value.bool Bool.true), (Value.int 181 0), (Value.ref 114), Value.none, (Value.ref 115), (Value.ref 116), (Value.ref 117), (Value.int 353 0), (Value.int 95 0), (Value.str (S "/claim/cut.py") 354)]) #[])),
   (119, (Obj.mk (Value.type "function") (none) (Data.func (FuncData.mk (S "check_expr") (S "check_expr") (fParams (top 10)) (.stmts (fBody (top 10))) (fScope (top 10)) 3 [] Value.none Value.none Value.none (Value.str (S "gateloom.checknames") 187) (none) (Value.ref 118) Value.none 0)) #[])),
   (125, (Obj.mk (Value.type "code") (none) (Data.fields #[(Value.str (S "check_each") 356), (Value.str (S "check_each") 357), (Value.str (S "/claim/cut.py") 358), (Value.int 118 0), (Value.int 3 0), (Value.int 0 0), (Value.int 0 0), (Value.int 3 0), (Value.ref 120), (Value.bool Bool.true), (Value.int 181 0), (Value.ref 121), Value.none, (Value.ref 122), (Value.ref 123), (Value.ref 124), (Value.int 363 0), (Value.int 118 0), (Value.str (S "/claim/cut.py") 364)]) #[])),
   (126, (Obj.mk (Value.type "function") (none) (Data.func (FuncData.mk (S "check_each") (S "check_each") (fParams (top 11)) (.stmts (fBody (top 11))) (fScope (top 11)) 3 [] Value.none Value.none Value.none (Value.str (S "gateloom.checknames") 187) (none) (Value.ref 125) Value.none 0)) #[])),
   (132, (Obj.mk (Value.type "code") (none) (Data.fields #[(Value.str (S "check_optional") 366), (Value.str (S "check_optional") 367), (Value.str (S "/claim/cut.py") 368), (Value.int 121 0), (Value.int 3 0), (Value.int 0 0), (Value.int 0 0), (Value.int 3 0), (Value.ref 127), (Value.bool Bool.true), (Value.int 181 0), (Value.ref 128), Value.none, (Value.ref 129), (Value.ref 130), (Value.ref 131), (Value.int 372 0), (Value.int 121 0), (Value.str (S "/claim/cut.py") 373)]) #[])),
   (133, (Obj.mk (Value.type "function") (none) (Data.func (FuncData.mk (S "check_optional") (S "check_optional") (fParams (top 12)) (.stmts (fBody (top 12))) (fScope (top 12)) 3 [] Value.none Value.none Value.none (Value.str (S "gateloom.checknames") 187) (none) (Value.ref 132) Value.none 0)) #[])),
   (139, (Obj.mk (Value.type "code") (none) (Data.fields #[(Value.str (S "check_range") 375), (Value.str (S "check_range") 376), (Value.str (S "/claim/cut.py") 377), (Value.int 124 0), (Value.int 3 0), (Value.int 0 0), (Value.int 0 0), (Value.int 3 0), (Value.ref 134), (Value.bool Bool.true), (Value.int 181 0), (Value.ref 135), Value.none, (Value.ref 136), (Value.ref 137), (Value.ref 138), (Value.int 381 0), (Value.int 124 0), (Value.str (S "/claim/cut.py") 382)]) #[])),
   (140, (Obj.mk (Value.type "function") (none) (Data.func (FuncData.mk (S "check_range") (S "check_range") (fParams (top 13)) (.stmts (fBody (top 13))) (fScope (top 13)) 3 [] Value.none Value.none Value.none (Value.str (S "gateloom.checknames") 187) (none) (Value.ref 139) Value.none 0)) #[])),
   (160, (Obj.mk (Value.type "code") (none) (Data.fields #[(Value.str (S "check_declaration") 405), (Value.str (S "check_declaration") 406), (Value.str (S "/claim/cut.py") 407), (Value.int 137 0), (Value.int 3 0), (Value.int 0 0), (Value.int 0 0), (Value.int 3 0), (Value.ref 155), (Value.bool Bool.true), (Value.int 181 0), (Value.ref 156), Value.none, (Value.ref 157), (Value.ref 158), (Value.ref 159), (Value.int 413 0), (Value.int 137 0), (Value.str (S "/claim/cut.py") 414)]) #[])),
   (161, (Obj.mk (Value.type "function") (none) (Data.func (FuncData.mk (S "check_declaration") (S "check_declaration") (fParams (top 16)) (.stmts (fBody (top 16))) (fScope (top 16)) 3 [] Value.none Value.none Value.none (Value.str (S "gateloom.checknames") 187) (none) (Value.ref 160) Value.none 0)) #[])),
   (162, (Obj.mk (Value.type "tuple") (none) (Data.seq #[(Value.bool Bool.false)] 0) #[])),
   (168, (Obj.mk (Value.type "code") (none) (Data.fields #[(Value.str (S "check_target") 416), (Value.str (S "check_target") 417), (Value.str (S "/claim/cut.py") 418), (Value.int 156 0), (Value.int 5 0), (Value.int 0 0), (Value.int 0 0), (Value.int 3 0), (Value.ref 163), (Value.bool Bool.true), (Value.int 181 0), (Value.ref 164), Value.none, (Value.ref 165), (Value.ref 166), (Value.ref 167), (Value.int 426 0), (Value.int 156 0), (Value.str (S "/claim/cut.py") 427)]) #[])),
   (169, (Obj.mk (Value.type "function") (none) (Data.func (FuncData.mk (S "check_target") (S "check_target") (fParams (top 17)) (.stmts (fBody (top 17))) (fScope (top 17)) 3 [] (Value.ref 162) Value.none Value.none (Value.str (S "gateloom.checknames") 187) (none) (Value.ref 168) Value.none 0)) #[])),
   (170, (Obj.mk (Value.type "tuple") (none) (Data.seq #[(Value.bool Bool.false)] 0) #[])),
   (176, (Obj.mk (Value.type "code") (none) (Data.fields #[(Value.str (S "check_target_name") 429), (Value.str (S "check_target_name") 430), (Value.str (S "/claim/cut.py") 431), (Value.int 170 0), (Value.int 6 0), (Value.int 0 0), (Value.int 0 0), (Value.int 3 0), (Value.ref 171), (Value.bool Bool.true), (Value.int 181 0), (Value.ref 172), Value.none, (Value.ref 173), (Value.ref 174), (Value.ref 175), (Value.int 439 0), (Value.int 170 0), (Value.str (S "/claim/cut.py") 440)]) #[])),
   (177, (Obj.mk (Value.type "function") (none) (Data.func (FuncData.mk (S "check_target_name") (S "check_target_name") (fParams (top 18)) (.stmts (fBody (top 18))) (fScope (top 18)) 3 [] (Value.ref 170) Value.none Value.none (Value.str (S "gateloom.checknames") 187) (none) (Value.ref 176) Value.none 0)) #[])),
   (246, (Obj.mk (Value.type "code") (none) (Data.fields #[(Value.str (S "declare_items") 551), (Value.str (S "declare_items") 552), (Value.str (S "/claim/cut.py") 553), (Value.int 319 0), (Value.int 3 0), (Value.int 0 0), (Value.int 0 0), (Value.int 3 0), (Value.ref 241), (Value.bool Bool.true), (Value.int 181 0), (Value.ref 242), Value.none, (Value.ref 243), (Value.ref 244), (Value.ref 245), (Value.int 559 0), (Value.int 319 0), (Value.str (S "/claim/cut.py") 560)]) #[])),
   (247, (Obj.mk (Value.type "function") (none) (Data.func (FuncData.mk (S "declare_items") (S "declare_items") (fParams (top 30)) (.stmts (fBody (top 30))) (fScope (top 30)) 3 [] Value.none Value.none Value.none (Value.str (S "gateloom.checks") 549) (none) (Value.ref 246) Value.none 0)) #[])),
   (253, (Obj.mk (Value.type "code") (none) (Data.fields #[(Value.str (S "declare_branch") 562), (Value.str (S "declare_branch") 563), (Value.str (S "/claim/cut.py") 564), (Value.int 335 0), (Value.int 4 0), (Value.int 0 0), (Value.int 0 0), (Value.int 3 0), (Value.ref 248), (Value.bool Bool.true), (Value.int 181 0), (Value.ref 249), Value.none, (Value.ref 250), (Value.ref 251), (Value.ref 252), (Value.int 571 0), (Value.int 335 0), (Value.str (S "/claim/cut.py") 572)]) #[])),
   (254, (Obj.mk (Value.type "function") (none) (Data.func (FuncData.mk (S "declare_branch") (S "declare_branch") (fParams (top 31)) (.stmts (fBody (top 31))) (fScope (top 31)) 3 [] Value.none Value.none Value.none (Value.str (S "gateloom.checks") 549) (none) (Value.ref 253) Value.none 0)) #[])),
   (260, (Obj.mk (Value.type "code") (none) (Data.fields #[(Value.str (S "declare_implicit") 574), (Value.str (S "declare_implicit") 575), (Value.str (S "/claim/cut.py") 576), (Value.int 347 0), (Value.int 2 0), (Value.int 0 0), (Value.int 0 0), (Value.int 3 0), (Value.ref 255), (Value.bool Bool.true), (Value.int 181 0), (Value.ref 256), Value.none, (Value.ref 257), (Value.ref 258), (Value.ref 259), (Value.int 581 0), (Value.int 347 0), (Value.str (S "/claim/cut.py") 582)]) #[])),
   (261, (Obj.mk (Value.type "function") (none) (Data.func (FuncData.mk (S "declare_implicit") (S "declare_implicit") (fParams (top 32)) (.stmts (fBody (top 32))) (fScope (top 32)) 3 [] Value.none Value.none Value.none (Value.str (S "gateloom.checks") 549) (none) (Value.ref 260) Value.none 0)) #[])),
   (267, (Obj.mk (Value.type "code") (none) (Data.fields #[(Value.str (S "add_implicit") 584), (Value.str (S "add_implicit") 585), (Value.str (S "/claim/cut.py") 586), (Value.int 357 0), (Value.int 2 0), (Value.int 0 0), (Value.int 0 0), (Value.int 3 0), (Value.ref 262), (Value.bool Bool.true), (Value.int 181 0), (Value.ref 263), Value.none, (Value.ref 264), (Value.ref 265), (Value.ref 266), (Value.int 590 0), (Value.int 357 0), (Value.str (S "/claim/cut.py") 591)]) #[])),
   (268, (Obj.mk (Value.type "function") (none) (Data.func (FuncData.mk (S "add_implicit") (S "add_implicit") (fParams (top 33)) (.stmts (fBody (top 33))) (fScope (top 33)) 3 [] Value.none Value.none Value.none (Value.str (S "gateloom.checks") 549) (none) (Value.ref 267) Value.none 0)) #[])),
   (274, (Obj.mk (Value.type "code") (none) (Data.fields #[(Value.str (S "check_items") 593), (Value.str (S "check_items") 594), (Value.str (S "/claim/cut.py") 595), (Value.int 363 0), (Value.int 3 0), (Value.int 0 0), (Value.int 0 0), (Value.int 3 0), (Value.ref 269), (Value.bool Bool.true), (Value.int 181 0), (Value.ref 270), Value.none, (Value.ref 271), (Value.ref 272), (Value.ref 273), (Value.int 604 0), (Value.int 363 0), (Value.str (S "/claim/cut.py") 605)]) #[])),
   (275, (Obj.mk (Value.type "function") (none) (Data.func (FuncData.mk (S "check_items") (S "check_items") (fParams (top 34)) (.stmts (fBody (top 34))) (fScope (top 34)) 3 [] Value.none Value.none Value.none (Value.str (S "gateloom.checks") 549) (none) (Value.ref 274) Value.none 0)) #[])),
   (281, (Obj.mk (Value.type "code") (none) (Data.fields #[(Value.str (S "check_branch") 607), (Value.str (S "check_branch") 608), (Value.str (S "/claim/cut.py") 609), (Value.int 403 0), (Value.int 3 0), (Value.int 0 0), (Value.int 0 0), (Value.int 3 0), (Value.ref 276), (Value.bool Bool.true), (Value.int 181 0), (Value.ref 277), Value.none, (Value.ref 278), (Value.ref 279), (Value.ref 280), (Value.int 613 0), (Value.int 403 0), (Value.str (S "/claim/cut.py") 614)]) #[])),
   (282, (Obj.mk (Value.type "function") (none) (Data.func (FuncData.mk (S "check_branch") (S "check_branch") (fParams (top 35)) (.stmts (fBody (top 35))) (fScope (top 35)) 3 [] Value.none Value.none Value.none (Value.str (S "gateloom.checks") 549) (none) (Value.ref 281) Value.none 0)) #[])),
   (288, (Obj.mk (Value.type "code") (none) (Data.fields #[(Value.str (S "check_scope") 616), (Value.str (S "check_scope") 617), (Value.str (S "/claim/cut.py") 618), (Value.int 412 0), (Value.int 3 0), (Value.int 0 0), (Value.int 0 0), (Value.int 3 0), (Value.ref 283), (Value.bool Bool.true), (Value.int 181 0), (Value.ref 284), Value.none, (Value.ref 285), (Value.ref 286), (Value.ref 287), (Value.int 624 0), (Value.int 412 0), (Value.str (S "/claim/cut.py") 625)]) #[])),
   (289, (Obj.mk (Value.type "function") (none) (Data.func (FuncData.mk (S "check_scope") (S "check_scope") (fParams (top 36)) (.stmts (fBody (top 36))) (fScope (top 36)) 3 [] Value.none Value.none Value.none (Value.str (S "gateloom.checks") 549) (none) (Value.ref 288) Value.none 0)) #[])),
   (302, (Obj.mk (Value.type "code") (none) (Data.fields #[(Value.str (S "check_gate") 638), (Value.str (S "check_gate") 639), (Value.str (S "/claim/cut.py") 640), (Value.int 433 0), (Value.int 3 0), (Value.int 0 0), (Value.int 0 0), (Value.int 3 0), (Value.ref 297), (Value.bool Bool.true), (Value.int 181 0), (Value.ref 298), Value.none, (Value.ref 299), (Value.ref 300), (Value.ref 301), (Value.int 648 0), (Value.int 433 0), (Value.str (S "/claim/cut.py") 649)]) #[])),
   (303, (Obj.mk (Value.type "function") (none) (Data.func (FuncData.mk (S "check_gate") (S "check_gate") (fParams (top 38)) (.stmts (fBody (top 38))) (fScope (top 38)) 3 [] Value.none Value.none Value.none (Value.str (S "gateloom.checks") 549) (none) (Value.ref 302) Value.none 0)) #[])),
   (314, (Obj.mk (Value.type "code") (none) (Data.fields #[(Value.str (S "_law_feed") 668), (Value.str (S "_law_feed") 669), (Value.str (S "/claim/cut.py") 670), (Value.int 471 0), (Value.int 1 0), (Value.int 0 0), (Value.int 0 0), (Value.int 3 0), (Value.ref 311), (Value.bool Bool.true), (Value.int 181 0), (Value.ref 312), Value.none, Value.none, Value.none, (Value.ref 313), (Value.int 671 0), (Value.int 471 0), (Value.str (S "/claim/cut.py") 672)]) #[])),
   (315, (Obj.mk (Value.type "function") (none) (Data.func (FuncData.mk (S "_law_feed") (S "_law_feed") (fParams (top 41)) (.stmts (fBody (top 41))) (fScope (top 41)) 3 [] Value.none Value.none Value.none (Value.str (S "law_sj0057_01") 666) (none) (Value.ref 314) Value.none 0)) #[])),
   (321, (Obj.mk (Value.type "code") (none) (Data.fields #[(Value.str (S "_law_pick") 674), (Value.str (S "_law_pick") 675), (Value.str (S "/claim/cut.py") 676), (Value.int 474 0), (Value.int 2 0), (Value.int 0 0), (Value.int 0 0), (Value.int 3 0), (Value.ref 316), (Value.bool Bool.true), (Value.int 181 0), (Value.ref 317), Value.none, (Value.ref 318), (Value.ref 319), (Value.ref 320), (Value.int 680 0), (Value.int 474 0), (Value.str (S "/claim/cut.py") 681)]) #[])),
   (322, (Obj.mk (Value.type "function") (none) (Data.func (FuncData.mk (S "_law_pick") (S "_law_pick") (fParams (top 42)) (.stmts (fBody (top 42))) (fScope (top 42)) 3 [] Value.none Value.none Value.none (Value.str (S "law_sj0057_01") 666) (none) (Value.ref 321) Value.none 0)) #[])),
   (328, (Obj.mk (Value.type "code") (none) (Data.fields #[(Value.str (S "_law_mark") 683), (Value.str (S "_law_mark") 684), (Value.str (S "/claim/cut.py") 685), (Value.int 484 0), (Value.int 1 0), (Value.int 0 0), (Value.int 0 0), (Value.int 3 0), (Value.ref 323), (Value.bool Bool.true), (Value.int 181 0), (Value.ref 324), Value.none, (Value.ref 325), (Value.ref 326), (Value.ref 327), (Value.int 687 0), (Value.int 484 0), (Value.str (S "/claim/cut.py") 688)]) #[])),
   (329, (Obj.mk (Value.type "function") (none) (Data.func (FuncData.mk (S "_law_mark") (S "_law_mark") (fParams (top 43)) (.stmts (fBody (top 43))) (fScope (top 43)) 3 [] Value.none Value.none Value.none (Value.str (S "law_sj0057_01") 666) (none) (Value.ref 328) Value.none 0)) #[])),
   (335, (Obj.mk (Value.type "code") (none) (Data.fields #[(Value.str (S "_law_name") 690), (Value.str (S "_law_name") 691), (Value.str (S "/claim/cut.py") 692), (Value.int 487 0), (Value.int 1 0), (Value.int 0 0), (Value.int 0 0), (Value.int 3 0), (Value.ref 330), (Value.bool Bool.true), (Value.int 181 0), (Value.ref 331), Value.none, (Value.ref 332), (Value.ref 333), (Value.ref 334), (Value.int 694 0), (Value.int 487 0), (Value.str (S "/claim/cut.py") 695)]) #[])),
   (336, (Obj.mk (Value.type "function") (none) (Data.func (FuncData.mk (S "_law_name") (S "_law_name") (fParams (top 44)) (.stmts (fBody (top 44))) (fScope (top 44)) 3 [] Value.none Value.none Value.none (Value.str (S "law_sj0057_01") 666) (none) (Value.ref 335) Value.none 0)) #[])),
   (342, (Obj.mk (Value.type "code") (none) (Data.fields #[(Value.str (S "_law_use") 697), (Value.str (S "_law_use") 698), (Value.str (S "/claim/cut.py") 699), (Value.int 489 0), (Value.int 1 0), (Value.int 0 0), (Value.int 0 0), (Value.int 3 0), (Value.ref 337), (Value.bool Bool.true), (Value.int 181 0), (Value.ref 338), Value.none, (Value.ref 339), (Value.ref 340), (Value.ref 341), (Value.int 701 0), (Value.int 489 0), (Value.str (S "/claim/cut.py") 702)]) #[])),
   (343, (Obj.mk (Value.type "function") (none) (Data.func (FuncData.mk (S "_law_use") (S "_law_use") (fParams (top 45)) (.stmts (fBody (top 45))) (fScope (top 45)) 3 [] Value.none Value.none Value.none (Value.str (S "law_sj0057_01") 666) (none) (Value.ref 342) Value.none 0)) #[])),
   (349, (Obj.mk (Value.type "code") (none) (Data.fields #[(Value.str (S "_law_end") 704), (Value.str (S "_law_end") 705), (Value.str (S "/claim/cut.py") 706), (Value.int 491 0), (Value.int 1 0), (Value.int 0 0), (Value.int 0 0), (Value.int 3 0), (Value.ref 344), (Value.bool Bool.true), (Value.int 181 0), (Value.ref 345), Value.none, (Value.ref 346), (Value.ref 347), (Value.ref 348), (Value.int 708 0), (Value.int 491 0), (Value.str (S "/claim/cut.py") 709)]) #[])),
   (350, (Obj.mk (Value.type "function") (none) (Data.func (FuncData.mk (S "_law_end") (S "_law_end") (fParams (top 46)) (.stmts (fBody (top 46))) (fScope (top 46)) 3 [] Value.none Value.none Value.none (Value.str (S "law_sj0057_01") 666) (none) (Value.ref 349) Value.none 0)) #[])),
   (356, (Obj.mk (Value.type "code") (none) (Data.fields #[(Value.str (S "_law_value") 711), (Value.str (S "_law_value") 712), (Value.str (S "/claim/cut.py") 713), (Value.int 495 0), (Value.int 1 0), (Value.int 0 0), (Value.int 0 0), (Value.int 3 0), (Value.ref 351), (Value.bool Bool.true), (Value.int 181 0), (Value.ref 352), Value.none, (Value.ref 353), (Value.ref 354), (Value.ref 355), (Value.int 715 0), (Value.int 495 0), (Value.str (S "/claim/cut.py") 716)]) #[])),
   (357, (Obj.mk (Value.type "function") (none) (Data.func (FuncData.mk (S "_law_value") (S "_law_value") (fParams (top 47)) (.stmts (fBody (top 47))) (fScope (top 47)) 3 [] Value.none Value.none Value.none (Value.str (S "law_sj0057_01") 666) (none) (Value.ref 356) Value.none 0)) #[])),
   (363, (Obj.mk (Value.type "code") (none) (Data.fields #[(Value.str (S "_law_items") 718), (Value.str (S "_law_items") 719), (Value.str (S "/claim/cut.py") 720), (Value.int 499 0), (Value.int 3 0), (Value.int 0 0), (Value.int 0 0), (Value.int 3 0), (Value.ref 358), (Value.bool Bool.true), (Value.int 181 0), (Value.ref 359), Value.none, (Value.ref 360), (Value.ref 361), (Value.ref 362), (Value.int 726 0), (Value.int 499 0), (Value.str (S "/claim/cut.py") 727)]) #[])),
   (364, (Obj.mk (Value.type "function") (none) (Data.func (FuncData.mk (S "_law_items") (S "_law_items") (fParams (top 48)) (.stmts (fBody (top 48))) (fScope (top 48)) 3 [] Value.none Value.none Value.none (Value.str (S "law_sj0057_01") 666) (none) (Value.ref 363) Value.none 0)) #[])),
   (370, (Obj.mk (Value.type "code") (none) (Data.fields #[(Value.str (S "_law_block") 729), (Value.str (S "_law_block") 730), (Value.str (S "/claim/cut.py") 731), (Value.int 505 0), (Value.int 2 0), (Value.int 0 0), (Value.int 0 0), (Value.int 3 0), (Value.ref 365), (Value.bool Bool.true), (Value.int 181 0), (Value.ref 366), Value.none, (Value.ref 367), (Value.ref 368), (Value.ref 369), (Value.int 736 0), (Value.int 505 0), (Value.str (S "/claim/cut.py") 737)]) #[])),
   (371, (Obj.mk (Value.type "function") (none) (Data.func (FuncData.mk (S "_law_block") (S "_law_block") (fParams (top 49)) (.stmts (fBody (top 49))) (fScope (top 49)) 3 [] Value.none Value.none Value.none (Value.str (S "law_sj0057_01") 666) (none) (Value.ref 370) Value.none 0)) #[])),
   (377, (Obj.mk (Value.type "code") (none) (Data.fields #[(Value.str (S "_law_branch") 739), (Value.str (S "_law_branch") 740), (Value.str (S "/claim/cut.py") 741), (Value.int 509 0), (Value.int 2 0), (Value.int 0 0), (Value.int 0 0), (Value.int 3 0), (Value.ref 372), (Value.bool Bool.true), (Value.int 181 0), (Value.ref 373), Value.none, (Value.ref 374), (Value.ref 375), (Value.ref 376), (Value.int 745 0), (Value.int 509 0), (Value.str (S "/claim/cut.py") 746)]) #[])),
   (378, (Obj.mk (Value.type "function") (none) (Data.func (FuncData.mk (S "_law_branch") (S "_law_branch") (fParams (top 50)) (.stmts (fBody (top 50))) (fScope (top 50)) 3 [] Value.none Value.none Value.none (Value.str (S "law_sj0057_01") 666) (none) (Value.ref 377) Value.none 0)) #[])),
   (384, (Obj.mk (Value.type "code") (none) (Data.fields #[(Value.str (S "_law_item") 748), (Value.str (S "_law_item") 749), (Value.str (S "/claim/cut.py") 750), (Value.int 516 0), (Value.int 2 0), (Value.int 0 0), (Value.int 0 0), (Value.int 3 0), (Value.ref 379), (Value.bool Bool.true), (Value.int 181 0), (Value.ref 380), Value.none, (Value.ref 381), (Value.ref 382), (Value.ref 383), (Value.int 758 0), (Value.int 516 0), (Value.str (S "/claim/cut.py") 759)]) #[])),
   (385, (Obj.mk (Value.type "function") (none) (Data.func (FuncData.mk (S "_law_item") (S "_law_item") (fParams (top 51)) (.stmts (fBody (top 51))) (fScope (top 51)) 3 [] Value.none Value.none Value.none (Value.str (S "law_sj0057_01") 666) (none) (Value.ref 384) Value.none 0)) #[])),
   (391, (Obj.mk (Value.type "code") (none) (Data.fields #[(Value.str (S "_law_arms") 761), (Value.str (S "_law_arms") 762), (Value.str (S "/claim/cut.py") 763), (Value.int 542 0), (Value.int 1 0), (Value.int 0 0), (Value.int 0 0), (Value.int 3 0), (Value.ref 386), (Value.bool Bool.true), (Value.int 181 0), (Value.ref 387), Value.none, (Value.ref 388), (Value.ref 389), (Value.ref 390), (Value.int 765 0), (Value.int 542 0), (Value.str (S "/claim/cut.py") 766)]) #[])),
   (392, (Obj.mk (Value.type "function") (none) (Data.func (FuncData.mk (S "_law_arms") (S "_law_arms") (fParams (top 52)) (.stmts (fBody (top 52))) (fScope (top 52)) 3 [] Value.none Value.none Value.none (Value.str (S "law_sj0057_01") 666) (none) (Value.ref 391) Value.none 0)) #[])),
   (398, (Obj.mk (Value.type "code") (none) (Data.fields #[(Value.str (S "_law_tests") 768), (Value.str (S "_law_tests") 769), (Value.str (S "/claim/cut.py") 770), (Value.int 552 0), (Value.int 1 0), (Value.int 0 0), (Value.int 0 0), (Value.int 3 0), (Value.ref 393), (Value.bool Bool.true), (Value.int 181 0), (Value.ref 394), Value.none, (Value.ref 395), (Value.ref 396), (Value.ref 397), (Value.int 772 0), (Value.int 552 0), (Value.str (S "/claim/cut.py") 773)]) #[])),
   (399, (Obj.mk (Value.type "function") (none) (Data.func (FuncData.mk (S "_law_tests") (S "_law_tests") (fParams (top 53)) (.stmts (fBody (top 53))) (fScope (top 53)) 3 [] Value.none Value.none Value.none (Value.str (S "law_sj0057_01") 666) (none) (Value.ref 398) Value.none 0)) #[])),
   (405, (Obj.mk (Value.type "code") (none) (Data.fields #[(Value.str (S "_law_words") 775), (Value.str (S "_law_words") 776), (Value.str (S "/claim/cut.py") 777), (Value.int 558 0), (Value.int 1 0), (Value.int 0 0), (Value.int 0 0), (Value.int 3 0), (Value.ref 400), (Value.bool Bool.true), (Value.int 181 0), (Value.ref 401), Value.none, (Value.ref 402), (Value.ref 403), (Value.ref 404), (Value.int 779 0), (Value.int 558 0), (Value.str (S "/claim/cut.py") 780)]) #[])),
   (406, (Obj.mk (Value.type "function") (none) (Data.func (FuncData.mk (S "_law_words") (S "_law_words") (fParams (top 54)) (.stmts (fBody (top 54))) (fScope (top 54)) 3 [] Value.none Value.none Value.none (Value.str (S "law_sj0057_01") 666) (none) (Value.ref 405) Value.none 0)) #[])),
   (412, (Obj.mk (Value.type "code") (none) (Data.fields #[(Value.str (S "_law_nearest") 782), (Value.str (S "_law_nearest") 783), (Value.str (S "/claim/cut.py") 784), (Value.int 564 0), (Value.int 2 0), (Value.int 0 0), (Value.int 0 0), (Value.int 3 0), (Value.ref 407), (Value.bool Bool.true), (Value.int 181 0), (Value.ref 408), Value.none, (Value.ref 409), (Value.ref 410), (Value.ref 411), (Value.int 789 0), (Value.int 564 0), (Value.str (S "/claim/cut.py") 790)]) #[])),
   (413, (Obj.mk (Value.type "function") (none) (Data.func (FuncData.mk (S "_law_nearest") (S "_law_nearest") (fParams (top 55)) (.stmts (fBody (top 55))) (fScope (top 55)) 3 [] Value.none Value.none Value.none (Value.str (S "law_sj0057_01") 666) (none) (Value.ref 412) Value.none 0)) #[])),
   (419, (Obj.mk (Value.type "code") (none) (Data.fields #[(Value.str (S "_law_due") 792), (Value.str (S "_law_due") 793), (Value.str (S "/claim/cut.py") 794), (Value.int 570 0), (Value.int 2 0), (Value.int 0 0), (Value.int 0 0), (Value.int 3 0), (Value.ref 414), (Value.bool Bool.true), (Value.int 181 0), (Value.ref 415), Value.none, (Value.ref 416), (Value.ref 417), (Value.ref 418), (Value.int 816 0), (Value.int 570 0), (Value.str (S "/claim/cut.py") 817)]) #[])),
   (420, (Obj.mk (Value.type "function") (none) (Data.func (FuncData.mk (S "_law_due") (S "_law_due") (fParams (top 56)) (.stmts (fBody (top 56))) (fScope (top 56)) 3 [] Value.none Value.none Value.none (Value.str (S "law_sj0057_01") 666) (none) (Value.ref 419) Value.none 0)) #[]))]
noncomputable def hAs : List Addr := [3, 27, 28, 34, 35, 37, 38, 55, 56, 58, 59, 69, 70, 83, 84, 90, 91, 104, 105, 111, 112, 118, 119, 125, 126, 132, 133, 139, 140, 160, 161, 162, 168, 169, 170, 176, 177, 246, 247, 253, 254, 260, 261, 267, 268, 274, 275, 281, 282, 288, 289, 302, 303, 314, 315, 321, 322, 328, 329, 335, 336, 342, 343, 349, 350, 356, 357, 363, 364, 370, 371, 377, 378, 384, 385, 391, 392, 398, 399, 405, 406, 412, 413, 419, 420]
theorem hAs_is (P : Params) : hAs = (hK P).map (·.1) := by kernel_rfl
noncomputable def vw : Program := { PySem.Challenge.pw_sj0057_01 with main := { PySem.Challenge.pw_sj0057_01.main with body := [top 57] } }
noncomputable def hLoose : List PySem.Str := (["Report", "NameTable", "find", "find_routine", "add_name", "add_label", "add_port", "add_signal", "declare_item", "check_expr", "check_each", "check_optional", "check_range", "check_path", "check_call", "check_declaration", "check_target", "check_target_name", "declare_labels", "check_stmt", "check_block", "check_case", "check_control", "check_events", "check_trigger", "check_disable", "check_task", "declare_items", "declare_branch", "declare_implicit", "add_implicit", "check_items", "check_branch", "check_scope", "check_routine", "check_gate", "check_instance", "_law_feed", "_law_pick", "_law_mark", "_law_name", "_law_use", "_law_end", "_law_value", "_law_items", "_law_block", "_law_branch", "_law_item", "_law_arms", "_law_tests", "_law_words", "_law_nearest", "_law_due"] : List String).map Str.ofString
noncomputable def hH : Hook := kHook hK hAs hAs_is
/-! the head's run, upon a tree of objects, with the kit's quicker twins of the machine's step -/
noncomputable def topRunG (stp : SharedT → Thread → Option (SharedT × Thread)) (ok : Thread → Bool) : Nat → SharedT → Thread → Option SharedT
  | 0, _, _ => none
  | n + 1, s, t => match through t with
    | true => some s
    | false => match ok t with
      | false => none
      | true => match stp s t with
        | some (s', t') => topRunG stp ok n s' t'
        | none => none
theorem topRunG_of {p : Program} {w : World} {n₀ : Nat} {ann : Option Value} {stp : SharedT → Thread → Option (SharedT × Thread)} {ok : Thread → Bool} (h1 : stepT (denote treeTable) p w = stp) (h2 : stepOk n₀ ann = ok) : ∀ {n : Nat} {s s' : SharedT} {t : Thread}, topRunG stp ok n s t = some s' → topRun treeTable p w n₀ ann n s.abs t = some s'.abs
  | 0, _, _, _, h => by cases h
  | n + 1, s, s', t, h => by
    unfold topRunG at h
    unfold topRun
    cases he : through t with
    | true => rw [he] at h; cases h; rfl
    | false =>
      rw [he] at h
      rw [← h2] at h
      cases hk : stepOk n₀ ann t with
      | false => rw [hk] at h; cases h
      | true =>
        rw [hk] at h
        rw [← h1] at h
        cases hs : stepT (denote treeTable) p w s t with
        | none => rw [hs] at h; cases h
        | some r => obtain ⟨s₂, t₂⟩ := r; rw [hs] at h; rw [stepT_spec hs]; exact topRunG_of rfl rfl (by rw [h1, h2]; rw [← h1, ← h2]; exact h)
noncomputable def toBT (l : List Obj) : BT := (l.zipIdx).foldl (fun t x => t.ins x.2 x.1) .nil
noncomputable def bootS (w : World) (os : OsState) : SharedT := ⟨toBT (boot_heap w.params).objs.toList, (boot_heap w.params).objs.size, (boot_heap w.params).life, #[], boot_drawn, boot_toks, os⟩
theorem bootS_abs (w : World) (os : OsState) : (bootS w os).abs = ⟨boot_heap w.params, #[], boot_drawn, boot_toks, os⟩ := by kernel_rfl
theorem boot_ns (w : World) : (boot_heap w.params).isNs mainGlobals = true := by kernel_rfl
theorem left_of_run {p q : Program} {loose : List PySem.Str} {Xt : Shared → Bool} {α : Type} {Yf : Shared → α} {Ya : World → α} {N : Nat}
    (hopen : ∀ w : World, (fencedOpening treeTable p w N).map (fun s => (s.heap, s.gens, s.drawn, s.toks)) = some (boot_heap w.params, Array.mk [], boot_drawn, boot_toks))
    {stp : World → SharedT → Thread → Option (SharedT × Thread)} {ok : World → Thread → Bool}
    (h1 : ∀ w, stepT (denote treeTable) p w = stp w) (h2 : ∀ w, stepOk (boot_heap w.params).objs.size ((boot_heap w.params).nsMap mainGlobals "__annotations__") = ok w)
    (run : ∀ w os, (topRunG (stp w) (ok w) N (bootS w os) (topStub p)).map (fun s => (staticsOk (importedModules p.main.body) (boot_heap w.params) s.abs.heap && namesBound p s.abs.heap && gensDone s.abs && laidKept (boot_heap w.params) s.abs.heap,
      openSeen q loose (importedModules p.main.body) Xt true s.abs, Yf s.abs)) = some (true, openGood q loose, Ya w)) : LeftO p q loose Xt Yf Ya N := fun w => by
  obtain ⟨⟨h, gs, d, k, os⟩, e, e'⟩ := Option.map_eq_some_iff.mp (hopen w)
  simp only [Prod.mk.injEq] at e'
  obtain ⟨rfl, rfl, rfl, rfl⟩ := e'
  obtain ⟨s1, r, e2⟩ := Option.map_eq_some_iff.mp (run w os)
  simp only [Prod.mk.injEq] at e2
  obtain ⟨l1, l2, l3⟩ := e2
  have r' := topRunG_of (h1 w) (h2 w) r
  rw [bootS_abs] at r'
  have t : topFrom treeTable p w N ⟨boot_heap w.params, #[], boot_drawn, boot_toks, os⟩ = some s1.abs := by
    unfold topFrom
    dsimp only
    rw [boot_ns w, r']
    show (match staticsOk (importedModules p.main.body) (boot_heap w.params) s1.abs.heap && namesBound p s1.abs.heap && gensDone s1.abs && laidKept (boot_heap w.params) s1.abs.heap with | true => _ | false => _) = _
    rw [l1]
  unfold openEnds
  rw [e]
  show (topFrom treeTable p w N _).map _ = _
  rw [t]
  exact congrArg some (Prod.ext l2 l3)
theorem opens_plain : ∀ w : World, (fencedOpening treeTable PySem.Challenge.rw_sj0057_01.row.prog w 4582).map (fun s => (s.heap, s.gens, s.drawn, s.toks)) = some (boot_heap w.params, Array.mk [], boot_drawn, boot_toks) := boot_open (by kernel_rfl) (by decide) (fun s => by kernel_rfl)
noncomputable def stepQ (w : World) : SharedT → Thread → Option (SharedT × Thread) := PySem.W.Fast.tw10156331382660048174 (PySem.W.Fast.tw11892475500146522536 PySem.W.Fast.tw14364793385576792824) PySem.Challenge.rw_sj0057_01.row.prog w
noncomputable def okQ (w : World) : Thread → Bool := PySem.W.Fast.tw6613529449190102663 (boot_heap w.params).objs.size ((boot_heap w.params).nsMap mainGlobals "__annotations__")
theorem stepQ_is (w : World) : stepT (denote treeTable) PySem.Challenge.rw_sj0057_01.row.prog w = stepQ w :=
  congrFun (congrFun (congr PySem.W.Fast.te10156331382660048174 (congr PySem.W.Fast.te11892475500146522536 PySem.W.Fast.te14364793385576792824)) _) _
theorem okQ_is (w : World) : stepOk (boot_heap w.params).objs.size ((boot_heap w.params).nsMap mainGlobals "__annotations__") = okQ w :=
  congrFun (congrFun PySem.W.Fast.te6613529449190102663 _) _
theorem hd_run : ∀ w os, (topRunG (stepQ w) (okQ w) 4582 (bootS w os) (topStub PySem.Challenge.rw_sj0057_01.row.prog)).map (fun s => (staticsOk (importedModules PySem.Challenge.rw_sj0057_01.row.prog.main.body) (boot_heap w.params) s.abs.heap && namesBound PySem.Challenge.rw_sj0057_01.row.prog s.abs.heap && gensDone s.abs && laidKept (boot_heap w.params) s.abs.heap,
      PySem.W.Fast.tw4187177175401517315 vw hLoose (importedModules PySem.Challenge.rw_sj0057_01.row.prog.main.body) (fun s => xlAt vw [] s && recOk (RowW.records PySem.Challenge.rw_sj0057_01.row.toRowW) s) true s.abs, Hook.obs hH s.abs)) = some (true, openGood vw hLoose, Hook.val hH w) := fun w os => by kernel_rfl
theorem hd_left : LeftO PySem.Challenge.rw_sj0057_01.row.prog vw hLoose (fun s => xlAt vw [] s && recOk (RowW.records PySem.Challenge.rw_sj0057_01.row.toRowW) s) (Hook.obs hH) (Hook.val hH) 4582 :=
  left_of_run opens_plain stepQ_is okQ_is (by rw [PySem.W.Fast.te4187177175401517315]; exact hd_run)
theorem said_names : namesResolve PySem.Challenge.rw_sj0057_01.row.prog = true := (congrFun PySem.W.Fast.te8377067652309620493 _).trans (by kernel_rfl)
theorem reads_vars : readsOut PySem.Challenge.rw_sj0057_01.row.prog PySem.Challenge.rw_sj0057_01.row.prog.main.body "vars" = false := by
  rw [PySem.W.Fast.te13343964577679436407]
  kernel_rfl
theorem reads_dir : readsOut PySem.Challenge.rw_sj0057_01.row.prog PySem.Challenge.rw_sj0057_01.row.prog.main.body "dir" = false := by
  rw [PySem.W.Fast.te13343964577679436407]
  kernel_rfl
theorem reads_locals : readsOut PySem.Challenge.rw_sj0057_01.row.prog PySem.Challenge.rw_sj0057_01.row.prog.main.body "locals" = false := by
  rw [PySem.W.Fast.te13343964577679436407]
  kernel_rfl
theorem roads_bare : (["vars", "dir", "locals"] : List PySem.Str).filter (readsOut PySem.Challenge.rw_sj0057_01.row.prog PySem.Challenge.rw_sj0057_01.row.prog.main.body) = [] := by
  rw [List.filter_cons_of_neg (by rw [reads_vars]; exact Bool.false_ne_true), List.filter_cons_of_neg (by rw [reads_dir]; exact Bool.false_ne_true), List.filter_cons_of_neg (by rw [reads_locals]; exact Bool.false_ne_true)]
  rfl
theorem roads_strict : (!(importedModules PySem.Challenge.rw_sj0057_01.row.prog.main.body).all cThrough.contains) = false := by kernel_rfl
theorem roads_0 : noRoadLSs { strict := false, foot := none, bare := [] } PySem.Challenge.rw_sj0057_01.row.prog.main.body = true := by
  rw [PySem.W.Fast.te8326940854005059898]
  kernel_rfl
theorem said_roads : noRoadLSs { strict := !(importedModules PySem.Challenge.rw_sj0057_01.row.prog.main.body).all cThrough.contains, foot := none, bare := (["vars", "dir", "locals"] : List PySem.Str).filter (readsOut PySem.Challenge.rw_sj0057_01.row.prog PySem.Challenge.rw_sj0057_01.row.prog.main.body) } PySem.Challenge.rw_sj0057_01.row.prog.main.body = true := by
  rw [roads_strict, roads_bare]
  exact roads_0
theorem said_attrs : (namesMeet PySem.Challenge.rw_sj0057_01.row.prog PySem.Challenge.rw_sj0057_01.row.prog.main.body fun _ n => attrL n) = true := by
  rw [PySem.W.Fast.te17119622794617984870, PySem.W.Fast.te17868728402115742887]
  kernel_rfl
set_option maxHeartbeats 8000000 in
theorem said_ok : OpenLaw.wellSaid PySem.Challenge.rw_sj0057_01 = true := by
  delta OpenLaw.wellSaid OpenRow.wellSaid OpenRow.partSaid looksOpen
  repeat' (with_reducible refine look_both ?_ ?_)
  all_goals first | with_reducible exact said_names | with_reducible exact said_roads | with_reducible exact said_attrs | decide +kernel
theorem wSs_app (top : Scope) (cx : TablesWhole.Ctx) (sc : Scope) : ∀ a b : List Stmt, TablesWhole.wSs TablesWhole.holds top cx sc a = true → TablesWhole.wSs TablesWhole.holds top cx sc b = true → TablesWhole.wSs TablesWhole.holds top cx sc (a ++ b) = true
  | [], b, _, h => h
  | s :: a, b, h1, h2 => by
    have h1 : (TablesWhole.wS TablesWhole.holds top cx sc s && TablesWhole.wSs TablesWhole.holds top cx sc a) = true := h1
    show (TablesWhole.wS TablesWhole.holds top cx sc s && TablesWhole.wSs TablesWhole.holds top cx sc (a ++ b)) = true
    obtain ⟨x, y⟩ := Bool.and_eq_true_iff.mp h1
    rw [x, wSs_app top cx sc a b y h2]; rfl
theorem wSs_cut (n : Nat) (top : Scope) (cx : TablesWhole.Ctx) (sc : Scope) (l : List Stmt) (h1 : TablesWhole.wSs TablesWhole.holds top cx sc (l.take n) = true) (h2 : TablesWhole.wSs TablesWhole.holds top cx sc (l.drop n) = true) : TablesWhole.wSs TablesWhole.holds top cx sc l = true := by
  have := wSs_app top cx sc _ _ h1 h2
  rwa [List.take_append_drop] at this
theorem wModule_of {m : Module} (h0 : TablesWhole.wSs TablesWhole.gather m.scope ⟨m.scope, [], [], [], none⟩ m.scope m.body = []) (h1 : TablesWhole.noTwice m.scope = true) (h2 : TablesWhole.wSs TablesWhole.holds m.scope ⟨m.scope, [], [], [], none⟩ m.scope m.body = true) : TablesWhole.wModule TablesWhole.holds m = true := by
  unfold TablesWhole.wModule
  rw [h0]
  show (true && (TablesWhole.noTwice m.scope && (TablesWhole.wSs TablesWhole.holds m.scope ⟨m.scope, [], [], [], none⟩ m.scope m.body && true))) = true
  rw [h1, h2]
  rfl
theorem tables_of {p : Program} (h : TablesWhole.wModule TablesWhole.holds p.main = true) (hm : p.modules = []) (hp : p.parses = []) (hh : p.harvested = []) : p.tablesWhole = true := by
  unfold Program.tablesWhole TablesWhole.wProgram
  rw [hm, hp, hh]
  show (TablesWhole.wModule TablesWhole.holds p.main && true) = true
  rw [h]
  rfl
theorem told_nil : TablesWhole.wSs TablesWhole.gather PySem.Challenge.rw_sj0057_01.row.prog.main.scope ⟨PySem.Challenge.rw_sj0057_01.row.prog.main.scope, [], [], [], none⟩ PySem.Challenge.rw_sj0057_01.row.prog.main.scope PySem.Challenge.rw_sj0057_01.row.prog.main.body = [] := by kernel_rfl
noncomputable def tbc (l : List Stmt) : Bool := TablesWhole.wSs TablesWhole.holds PySem.Challenge.rw_sj0057_01.row.prog.main.scope ⟨PySem.Challenge.rw_sj0057_01.row.prog.main.scope, [], [], [], none⟩ PySem.Challenge.rw_sj0057_01.row.prog.main.scope l
theorem tbc1 : tbc (PySem.Challenge.rw_sj0057_01.row.prog.main.body.take 36) = true := by kernel_rfl
theorem tbc2 : tbc (PySem.Challenge.rw_sj0057_01.row.prog.main.body.drop 36) = true := by kernel_rfl
theorem no_twice : TablesWhole.noTwice PySem.Challenge.rw_sj0057_01.row.prog.main.scope = true := by kernel_rfl
theorem main_whole : TablesWhole.wModule TablesWhole.holds PySem.Challenge.rw_sj0057_01.row.prog.main = true := wModule_of told_nil no_twice (wSs_cut 36 _ _ _ _ tbc1 tbc2)
theorem tables_whole : PySem.Challenge.rw_sj0057_01.row.prog.tablesWhole = true := tables_of main_whole (by kernel_rfl) (by kernel_rfl) (by kernel_rfl)
theorem bare_ok : PySem.Challenge.rw_sj0057_01.row.prog.bare := ⟨by kernel_rfl, by kernel_rfl, by kernel_rfl, by kernel_rfl, by kernel_rfl, tables_whole⟩
end
section
/-! the data, plainly -/

structure Row where
  k : PySem.Str
  pl : Int
  n : PySem.Str
  deriving DecidableEq
noncomputable def Row.enc (r : Row) : V := .tup [.str r.k, .int r.pl, .str r.n]

structure Use where
  pl : Int
  n : PySem.Str
noncomputable def Use.enc (u : Use) : V := .tup [.str "id", .int u.pl, .str u.n]
inductive Ex where
  | num
  | id (u : Use)
  | cat (m : Int) (u v : Use)
  | un (m : Int) (u : Use)
noncomputable def Ex.enc : Ex → V
  | .num => .tup [.str "num", .int 1, .tup [.int 1, .int 1, .int 0], .bool false, .bool true]
  | .id u => u.enc
  | .cat m u v => .tup [.str "cat", .int m, .tup [u.enc, v.enc]]
  | .un m u => .tup [.str "un", .int m, .str "~", u.enc]
/-- what may be assigned -/
inductive Tg where
  | id (u : Use)
  | cat (m : Int) (u v : Use)
noncomputable def Tg.ex : Tg → Ex
  | .id u => .id u
  | .cat m u v => .cat m u v

inductive Item where
  | nop
  | cassign (m : Int) (t : Tg) (v : Ex)
  | gate (m : Int) (t : Tg) (v : Ex)
  | net (m : Int) (n : PySem.Str)
  | var (m : Int) (n : PySem.Str)
  | param (m : Int) (n : PySem.Str)
  | event (m : Int) (n : PySem.Str)
  | block (m : Int) (l : Option PySem.Str) (is : List Item)
  | gfor (m : Int) (g : PySem.Str) (bm : Int) (bl : Option PySem.Str) (is : List Item)
  | gcase (m : Int) (c l : Use) (x y : Item)
  | gif (m : Int) (c : Ex) (x y : Item)

noncomputable def encLab : Option PySem.Str → V
  | none => .none
  | some s => .str s
noncomputable def numV : V := Ex.num.enc
mutual
noncomputable def Item.enc : Item → V
  | .nop => .none
  | .cassign m t v => .tup [.str "cassign", .int m, .none, .none, t.ex.enc, v.enc]
  | .gate m t v => .tup [.str "gate", .int m, .str "and", .none, .none, .none, .none, .tup [t.ex.enc, v.enc]]
  | .net m n => .tup [.str "net", .int m, .str "wire", .bool false, .none, .none, .str n, .tup [], .none, .none]
  | .var m n => .tup [.str "var", .int m, .str "reg", .bool false, .none, .str n, .tup [], .none]
  | .param m n => .tup [.str "param", .int m, .str "localparam", .bool false, .none, .str n, numV]
  | .event m n => .tup [.str "event", .int m, .str n]
  | .block m l is => .tup [.str "genblock", .int m, encLab l, .tup (encs is)]
  | .gfor m g bm bl is => .tup [.str "genfor", .int m, .str g, numV, numV, numV, .tup [.str "genblock", .int bm, encLab bl, .tup (encs is)]]
  | .gcase m c l x y => .tup [.str "gencase", .int m, c.enc, .tup [.tup [.tup [l.enc], x.enc], .tup [.none, y.enc]]]
  | .gif m c x y => .tup [.str "genif", .int m, c.enc, x.enc, y.enc]
noncomputable def encs : List Item → List V
  | [] => []
  | i :: is => i.enc :: encs is
end

/-- entries of a table -/
inductive Ent where
  | net (pl : Int)
  | var (pl : Int)
  | param (pl : Int)
  | event (pl : Int)
  | genvar (pl : Int)
  | block (pl g : Int)
noncomputable def sigV : V := .tup [.str "", .bool false, .bool true]
noncomputable def Ent.enc : Ent → V
  | .net m => .tup [.str "net", .int m, sigV]
  | .var m => .tup [.str "var", .int m, sigV]
  | .param m => .tup [.str "param", .int m, .int (-1)]
  | .event m => .tup [.str "event", .int m, .int (-1)]
  | .genvar m => .tup [.str "genvar", .int m, .int (-1)]
  | .block m g => .tup [.str "block", .int m, .int g]
abbrev Sc := List (PySem.Str × Ent)
noncomputable def encSc (sc : Sc) : List (PySem.Str × V) := sc.map fun p => (p.1, p.2.enc)
noncomputable def look (sc : Sc) (n : PySem.Str) : Option Ent := (sc.find? fun p => p.1 = n).map (·.2)
noncomputable def lookEnv : List Sc → PySem.Str → Option Ent
  | [], _ => none
  | sc :: env, n => match look sc n with
    | some e => some e
    | none => lookEnv env n

/-! what the checker does, plainly -/
noncomputable def addName (n : PySem.Str) (m : Int) (e : Ent) (p : List Row × Sc) : List Row × Sc := match look p.2 n with
  | some _ => (p.1 ++ [⟨"duplicate", m, n⟩], p.2)
  | none => (p.1, p.2 ++ [(n, e)])
noncomputable def addLabel (n : PySem.Str) (m g : Int) (p : List Row × Sc) : List Row × Sc := match look p.2 n with
  | none => (p.1, p.2 ++ [(n, .block m g)])
  | some (.block _ g') => if g < 0 ∨ g' ≠ g then (p.1 ++ [⟨"duplicate_label", m, n⟩], p.2) else p
  | some _ => (p.1 ++ [⟨"duplicate_label", m, n⟩], p.2)
noncomputable def addLab (l : Option PySem.Str) (m g : Int) (p : List Row × Sc) : List Row × Sc := match l with
  | none => p
  | some n => addLabel n m g p
noncomputable def declBranch (g : Int) : Item → List Row × Sc → List Row × Sc
  | .block m l _, p => addLab l m g p
  | .gif _ _ x y, p => declBranch g y (declBranch g x p)
  | .gcase _ _ _ x y, p => declBranch g y (declBranch g x p)
  | .nop, p => p
  | .cassign _ _ _, p => p
  | .gate _ _ _, p => p
  | .net _ _, p => p
  | .var _ _, p => p
  | .param _ _, p => p
  | .event _ _, p => p
  | .gfor _ _ _ _ _, p => p
noncomputable def declItem : Item → List Row × Sc → List Row × Sc
  | .net m n, p => addName n m (.net m) p
  | .var m n, p => addName n m (.var m) p
  | .param m n, p => addName n m (.param m) p
  | .event m n, p => addName n m (.event m) p
  | .block m l _, p => addLab l m (-1) p
  | .gfor _ _ bm bl _, p => addLab bl bm (-1) p
  | .gif m c x y, p => declBranch m (.gif m c x y) p
  | .gcase m c l x y, p => declBranch m (.gcase m c l x y) p
  | .nop, p => p
  | .cassign _ _ _, p => p
  | .gate _ _ _, p => p
noncomputable def addUse (env : List Sc) (u : Use) (sc : Sc) : Sc := match lookEnv (sc :: env) u.n with
  | none => sc ++ [(u.n, .net u.pl)]
  | some _ => sc
noncomputable def addImpl (env : List Sc) : Ex → Sc → Sc
  | .id u, sc => addUse env u sc
  | .cat _ u v, sc => addUse env v (addUse env u sc)
  | _, sc => sc
noncomputable def declImpl (env : List Sc) : Item → Sc → Sc
  | .cassign _ t _, sc => addImpl env t.ex sc
  | .gate _ t v, sc => addImpl env v (addImpl env t.ex sc)
  | .nop, sc => sc
  | .net _ _, sc => sc
  | .var _ _, sc => sc
  | .param _ _, sc => sc
  | .event _ _, sc => sc
  | .block _ _ _, sc => sc
  | .gfor _ _ _ _ _, sc => sc
  | .gcase _ _ _ _ _, sc => sc
  | .gif _ _ _ _, sc => sc
noncomputable def declAll (is : List Item) (p : List Row × Sc) : List Row × Sc := is.foldl (fun p i => declItem i p) p
noncomputable def implAll (env : List Sc) (is : List Item) (sc : Sc) : Sc := is.foldl (fun sc i => declImpl env i sc) sc
/-- the rows of the declarations, and the table behind them -/
noncomputable def declScope (wired : Bool) (env : List Sc) (is : List Item) : List Row × Sc :=
  let p := declAll is ([], [])
  (p.1, if wired then implAll env is p.2 else p.2)

noncomputable def useRows (env : List Sc) (u : Use) : List Row := match lookEnv env u.n with
  | none => [⟨"undeclared", u.pl, u.n⟩]
  | some _ => []
noncomputable def exRows (env : List Sc) : Ex → List Row
  | .num => []
  | .id u => useRows env u
  | .cat _ u v => useRows env u ++ useRows env v
  | .un _ u => useRows env u
noncomputable def tgtRow (env : List Sc) (u : Use) : List Row := match lookEnv env u.n with
  | none => [⟨"undeclared", u.pl, u.n⟩]
  | some (.param _) => [⟨"constant_assigned", u.pl, u.n⟩]
  | some (.genvar _) => [⟨"constant_assigned", u.pl, u.n⟩]
  | some (.var _) => [⟨"assign_to_variable", u.pl, u.n⟩]
  | some (.net _) => []
  | some (.event _) => [⟨"not_assignable", u.pl, u.n⟩]
  | some (.block _ _) => [⟨"not_assignable", u.pl, u.n⟩]
noncomputable def tgtRows (env : List Sc) : Tg → List Row
  | .id u => tgtRow env u
  | .cat _ u v => tgtRow env u ++ tgtRow env v
noncomputable def forRow (env : List Sc) (m : Int) (g : PySem.Str) : List Row := match lookEnv env g with
  | none => [⟨"undeclared", m, g⟩]
  | some (.genvar _) => []
  | some _ => [⟨"not_a_genvar", m, g⟩]

mutual
noncomputable def Item.wt : Item → Nat
  | .cassign _ _ _ => 4
  | .gate _ _ _ => 4
  | .block _ _ is => wts is + 1
  | .gfor _ _ _ _ is => wts is + 2
  | .gcase _ _ _ x y => x.wt + y.wt + 2
  | .gif _ _ x y => x.wt + y.wt + 2
  | .nop => 1
  | .net _ _ => 1
  | .var _ _ => 1
  | .param _ _ => 1
  | .event _ _ => 1
noncomputable def wts : List Item → Nat
  | [] => 0
  | i :: is => i.wt + wts is
end

theorem Item.wt_pos : ∀ i : Item, 0 < i.wt := by intro i; cases i <;> simp [Item.wt]
mutual
/-- no hole where an item is asked -/
noncomputable def Item.gd : Item → Bool
  | .block _ _ is => gds is
  | .gfor _ _ _ _ is => gds is
  | .gcase _ _ _ x y => x.gd && y.gd
  | .gif _ _ x y => x.gd && y.gd
  | .nop => true
  | .cassign _ _ _ => true
  | .gate _ _ _ => true
  | .net _ _ => true
  | .var _ _ => true
  | .param _ _ => true
  | .event _ _ => true
noncomputable def gds : List Item → Bool
  | [] => true
  | i :: is => (match i with | .nop => false | _ => true) && i.gd && gds is
end
mutual
noncomputable def ckItem (wired : Bool) (env : List Sc) : Item → List Row
  | .cassign _ t v => tgtRows env t ++ exRows env v
  | .gate _ t v => tgtRows env t ++ exRows env v
  | .block _ _ is => ckScope wired env is
  | .gfor m g _ _ is => forRow env m g ++ ckScope wired env is
  | .gcase _ c l x y => useRows env c ++ useRows env l ++ ckBranch wired env x ++ ckBranch wired env y
  | .gif _ c x y => exRows env c ++ ckBranch wired env x ++ ckBranch wired env y
  | .nop => []
  | .net _ _ => []
  | .var _ _ => []
  | .param _ _ => []
  | .event _ _ => []
  termination_by i => 3 * i.wt
  decreasing_by
    all_goals (simp only [Item.wt])
    all_goals try (first | lia -abstractProof | omega)
    all_goals have h := Item.wt_pos
    all_goals have hx := h x
    all_goals have hy := h y
    all_goals (first | lia -abstractProof | omega)
noncomputable def ckBranch (wired : Bool) (env : List Sc) : Item → List Row
  | .nop => []
  | .block _ _ is => ckScope wired env is
  | .gcase m c l x y => ckItem wired env (.gcase m c l x y)
  | .gif m c x y => ckItem wired env (.gif m c x y)
  | .cassign x y z => ckScope wired env [.cassign x y z]
  | .gate x y z => ckScope wired env [.gate x y z]
  | .net x y => ckScope wired env [.net x y]
  | .var x y => ckScope wired env [.var x y]
  | .param x y => ckScope wired env [.param x y]
  | .event x y => ckScope wired env [.event x y]
  | .gfor x y z u v => ckScope wired env [.gfor x y z u v]
  termination_by i => 3 * i.wt + 4
  decreasing_by all_goals (simp only [Item.wt, wts]; try (first | lia -abstractProof | omega))
noncomputable def ckScope (wired : Bool) (env : List Sc) (is : List Item) : List Row :=
  (declScope wired env is).1 ++ ckItems wired ((declScope wired env is).2 :: env) is
  termination_by 3 * wts is + 2
  decreasing_by (first | lia -abstractProof | omega)
noncomputable def ckItems (wired : Bool) (env : List Sc) : List Item → List Row
  | [] => []
  | i :: is => ckItem wired env i ++ ckItems wired env is
  termination_by is => 3 * wts is + 1
  decreasing_by all_goals (simp only [wts]; have := Item.wt_pos i; (first | lia -abstractProof | omega))
end
end
section
variable {B : Base} {C : Cfg} {fr : Fr'} {st : St}
theorem ncont {x : PySem.Str} {l : List PySem.Str} (h : l.contains x = false) : x ∉ l := by simpa using h
inductive PutS : Fr' → PySem.Str → V → Fr' → Prop
  | hit (x u v r) : PutS ((x, u) :: r) x v ((x, v) :: r)
  | skip {a r x v r'} : PutS r x v r' → PutS (a :: r) x v (a :: r')
inductive PutE (C : Cfg) : List PySem.Str → Fr' → PySem.Str → V → Fr' → Prop
  | nil {ns x v} : C.sc.names.lookup x = some .local → (x == ("__debug__" : PySem.Str)) = false → ns.contains x = false → PutE C ns [] x v [(x, v)]
  | skip {ns y u r x v r'} : PutE C (y :: ns) r x v r' → PutE C ns ((y, u) :: r) x v ((y, u) :: r')
theorem PutS.mem {fr fr' : Fr'} {x : PySem.Str} {v : V} (h : PutS fr x v fr') : x ∈ fr.map (·.1) := by
  induction h with
  | hit => simp
  | skip _ ih => exact .tail _ ih
theorem Put.ofS {x : PySem.Str} {v : V} {fr' : Fr'} (h : PutS fr x v fr') : Put C fr x v fr' := by
  induction h with
  | hit x u v r => exact fun _ => .hit x u v r
  | skip hs ih =>
    intro nd
    simp only [List.map_cons, List.nodup_cons] at nd
    exact .skip _ _ _ _ _ _ (fun e => nd.1 (by rw [e]; exact hs.mem)) (ih nd.2)
theorem PutE.ok {ns : List PySem.Str} {fr fr' : Fr'} {x : PySem.Str} {v : V} (h : PutE C ns fr x v fr') : x ∉ ns ∧ Put0 C fr x v fr' := by
  induction h with
  | nil hk hd hn => exact ⟨ncont hn, .new _ _ hk hd⟩
  | skip _ ih =>
    simp only [List.mem_cons, not_or] at ih
    exact ⟨ih.1.2, .skip _ _ _ _ _ _ (Ne.symm ih.1.1) ih.2⟩
theorem Put.ofE {x : PySem.Str} {v : V} {fr' : Fr'} (h : PutE C [] fr x v fr') : Put C fr x v fr' := fun _ => h.ok.2
theorem Idx.mono {x y : V} {P P' : V → Prop} (h : Idx st x y P) (k : ∀ e, P e → P' e) : Idx st x y P' := by
  rcases h with ⟨l, i, e, a, b, c, d, f, g⟩ | ⟨a, l, i, e, a1, b, c, d, d2, f, g⟩ | ⟨a, d, i, e, a1, b, c, f, g⟩
  · exact .inl ⟨l, i, e, a, b, c, d, f, k _ g⟩
  · exact .inr (.inl ⟨a, l, i, e, a1, b, c, d, d2, f, k _ g⟩)
  · exact .inr (.inr ⟨a, d, i, e, a1, b, c, f, k _ g⟩)
/-- x[k], x of the frame -/
theorem SE_item {x : PySem.Str} {v : V} {k : Int} {j : Nat} {p1 p2 p3 : Pos} {Q : V → St → Prop} (hm : (x, v) ∈ fr) (h : Idx st v (.int k) fun e => Q e st) : SE B C fr (.Subscript (.Name x p1) (.Constant (.int k) j p2) p3) st Q :=
  SE_idx (SE_loc hm (SE_int h)) (by intro _ _; with_unfolding_all rfl)
theorem SE_items {x s : PySem.Str} {v : V} {j : Nat} {p1 p2 p3 : Pos} {Q : V → St → Prop} (hm : (x, v) ∈ fr) (h : Idx st v (.str s) fun e => Q e st) : SE B C fr (.Subscript (.Name x p1) (.Constant (.str s) j p2) p3) st Q :=
  SE_idx (SE_loc hm (SE_str h)) (by intro _ _; with_unfolding_all rfl)
theorem SEs_l {x : PySem.Str} {v : V} {p : Pos} {es : List Expr} {Q : List V → St → Prop} (hm : (x, v) ∈ fr) (h : SEs B C fr es st fun xs st2 => Q (v :: xs) st2) : SEs B C fr (.Name x p :: es) st Q := SEs_cons (SE_loc hm h) (fun _ => rfl)
theorem SEs_l1 {x : PySem.Str} {v : V} {p : Pos} {Q : List V → St → Prop} (hm : (x, v) ∈ fr) (h : Q [v] st) : SEs B C fr [.Name x p] st Q := SEs_cons (SE_loc hm (SEs_nil h)) (fun _ => rfl)
theorem SEs_s {x : PySem.Str} {k : Nat} {p : Pos} {es : List Expr} {Q : List V → St → Prop} (h : SEs B C fr es st fun xs st2 => Q (.str x :: xs) st2) : SEs B C fr (.Constant (.str x) k p :: es) st Q := SEs_cons (SE_str h) (fun _ => rfl)
theorem SEs_i {x : Int} {k : Nat} {p : Pos} {es : List Expr} {Q : List V → St → Prop} (h : SEs B C fr es st fun xs st2 => Q (.int x :: xs) st2) : SEs B C fr (.Constant (.int x) k p :: es) st Q := SEs_cons (SE_int h) (fun _ => rfl)
theorem SEs_i1 {x : Int} {k : Nat} {p : Pos} {Q : List V → St → Prop} (h : Q [.int x] st) : SEs B C fr [.Constant (.int x) k p] st Q := SEs_cons (SE_int (SEs_nil h)) (fun _ => rfl)
theorem SEs_n {k : Nat} {p : Pos} {es : List Expr} {Q : List V → St → Prop} (h : SEs B C fr es st fun xs st2 => Q (.none :: xs) st2) : SEs B C fr (.Constant .none k p :: es) st Q := SEs_cons (SE_none h) (fun _ => rfl)
theorem SEs_b {b : Bool} {k : Nat} {p : Pos} {es : List Expr} {Q : List V → St → Prop} (h : SEs B C fr es st fun xs st2 => Q (.bool b :: xs) st2) : SEs B C fr (.Constant (.bool b) k p :: es) st Q := SEs_cons (SE_bool h) (fun _ => rfl)
theorem SEs_x {x : PySem.Str} {v : V} {k : Int} {j : Nat} {p1 p2 p3 : Pos} {es : List Expr} {Q : List V → St → Prop} (hm : (x, v) ∈ fr) (h : Idx st v (.int k) fun e => SEs B C fr es st fun xs st2 => Q (e :: xs) st2) : SEs B C fr (.Subscript (.Name x p1) (.Constant (.int k) j p2) p3 :: es) st Q := SEs_cons (SE_item hm h) (fun _ => rfl)
theorem ST_item_s {x s : PySem.Str} {v : V} {k : Int} {j j2 : Nat} {p1 p2 p3 p4 p5 : Pos} {op : CmpOp} {Qt Qf : St → Prop} (hm : (x, v) ∈ fr) (h : Idx st v (.int k) fun e => SC B C op e (.str s) st Qt Qf)
    (ho : behindInMarks op (.Constant (.str s) j2 p4) = false) : ST B C fr (.Compare (.Subscript (.Name x p1) (.Constant (.int k) j p2) p3) [op] [.Constant (.str s) j2 p4] p5) st Qt Qf := ST_cmp (SE_item hm (Idx.mono h fun _ h => SE_str h)) ho
theorem ST_item_n {x : PySem.Str} {v : V} {k : Int} {j j2 : Nat} {p1 p2 p3 p4 p5 : Pos} {op : CmpOp} {Qt Qf : St → Prop} (hm : (x, v) ∈ fr) (h : Idx st v (.int k) fun e => SC B C op e .none st Qt Qf)
    (ho : behindInMarks op (.Constant .none j2 p4) = false) : ST B C fr (.Compare (.Subscript (.Name x p1) (.Constant (.int k) j p2) p3) [op] [.Constant .none j2 p4] p5) st Qt Qf := ST_cmp (SE_item hm (Idx.mono h fun _ h => SE_none h)) ho
theorem ST_name_s {x s : PySem.Str} {j2 : Nat} {e : V} {p1 p4 p5 : Pos} {op : CmpOp} {Qt Qf : St → Prop} (hm : (x, e) ∈ fr) (h : SC B C op e (.str s) st Qt Qf)
    (ho : behindInMarks op (.Constant (.str s) j2 p4) = false) : ST B C fr (.Compare (.Name x p1) [op] [.Constant (.str s) j2 p4] p5) st Qt Qf := ST_cmp (SE_loc hm (SE_str h)) ho
theorem ST_name_n {x : PySem.Str} {j2 : Nat} {e : V} {p1 p4 p5 : Pos} {op : CmpOp} {Qt Qf : St → Prop} (hm : (x, e) ∈ fr) (h : SC B C op e .none st Qt Qf)
    (ho : behindInMarks op (.Constant .none j2 p4) = false) : ST B C fr (.Compare (.Name x p1) [op] [.Constant .none j2 p4] p5) st Qt Qf := ST_cmp (SE_loc hm (SE_none h)) ho
theorem SX1_asg_item {y x : PySem.Str} {v : V} {k : Int} {j : Nat} {p1 p2 p3 p4 p5 : Pos} {Kn : Fr' → St → Prop} {Kr : V → St → Prop} (hm : (x, v) ∈ fr) (h : Idx st v (.int k) fun e => ∃ fr1, Put C fr y e fr1 ∧ Kn fr1 st)
    (hs : swapsWith (.Subscript (.Name x p1) (.Constant (.int k) j p2) p3) (some (.Name y p4)) p5.line C.env = pure false) : SX1 B C fr (.Assign [.Name y p4] (.Subscript (.Name x p1) (.Constant (.int k) j p2) p3) p5) st Kn Kr := SX1_assign (SE_item hm h) hs
theorem SC_eq_lit {a b : String} {Qt Qf : St → Prop} (hs : (Str.ofString a == Str.ofString b) = false) (h : Qf st) : SC B C .Eq (.str (Str.ofString a)) (.str (Str.ofString b)) st Qt Qf := SC_eq_str (fun e => by rw [e] at hs; simp at hs) (fun _ => h)
theorem SC_ne_lit {a b : String} {Qt Qf : St → Prop} (hs : (Str.ofString a == Str.ofString b) = false) (h : Qt st) : SC B C .NotEq (.str (Str.ofString a)) (.str (Str.ofString b)) st Qt Qf := SC_ne_str (fun _ => h) (fun e => by rw [e] at hs; simp at hs)
theorem SX_if1 {t : Expr} {b1 b2 : List Stmt} {pos : Pos} {Kn : Fr' → St → Prop} {Kr : V → St → Prop} (h : ST B C fr t st (fun st1 => SX B C fr b1 st1 Kn Kr) (fun st1 => SX B C fr b2 st1 Kn Kr)) : SX B C fr [.If t b1 b2 pos] st Kn Kr := SX_one (SX1_if h)
theorem SX_if2 {t : Expr} {b1 b2 ss : List Stmt} {pos : Pos} {Kn : Fr' → St → Prop} {Kr : V → St → Prop} (h : ST B C fr t st (fun st1 => SX B C fr b1 st1 (fun fr1 st1 => SX B C fr1 ss st1 Kn Kr) Kr) (fun st1 => SX B C fr b2 st1 (fun fr1 st1 => SX B C fr1 ss st1 Kn Kr) Kr)) : SX B C fr (.If t b1 b2 pos :: ss) st Kn Kr := SX_cons (SX1_if h)
theorem SX_ret1 {e : Expr} {pos : Pos} {Kn : Fr' → St → Prop} {Kr : V → St → Prop} (h : SE B C fr e st Kr) : SX B C fr [.Return (some e) pos] st Kn Kr := SX_one (SX1_ret h)
theorem SX_expr1 {e : Expr} {pos : Pos} {Kn : Fr' → St → Prop} {Kr : V → St → Prop} (h : SE B C fr e st fun v st1 => v = .none ∧ Kn fr st1) (hs : swapsWith e none pos.line C.env = pure false) : SX B C fr [.Expr e pos] st Kn Kr := SX_one (SX1_expr h hs)
theorem Idx_t {l : List V} {k : Int} {e : V} {P : V → Prop} (hb : (decide (0 ≤ k) && decide (k < 2 ^ 40)) = true) (he : l[k.toNat]? = some e) (h : P e) : Idx st (.tup l) (.int k) P := by
  simp only [Bool.and_eq_true, decide_eq_true_eq] at hb
  exact Idx.tup hb.1 hb.2 he h
/-- a test of a known word: the branch is plain -/
theorem SX_tag_eq {x s : PySem.Str} {l : List V} {j j2 : Nat} {p1 p2 p3 p4 p5 p6 : Pos} {b1 b2 : List Stmt} {Kn : Fr' → St → Prop} {Kr : V → St → Prop} (hm : (x, V.tup (.str s :: l)) ∈ fr) (h : SX B C fr b1 st Kn Kr) :
    SX B C fr [.If (.Compare (.Subscript (.Name x p1) (.Constant (.int 0) j p2) p3) [.Eq] [.Constant (.str s) j2 p4] p5) b1 b2 p6] st Kn Kr := SX_one (SX1_if (ST_item_s hm (Idx_t rfl rfl (SC_eq_str (fun _ => h) (fun e => absurd rfl e))) (by with_unfolding_all rfl)))
theorem SX_tag_ne {x : PySem.Str} {a s : String} {l : List V} {j j2 : Nat} {p1 p2 p3 p4 p5 p6 : Pos} {b1 b2 : List Stmt} {Kn : Fr' → St → Prop} {Kr : V → St → Prop} (hm : (x, V.tup (.str (Str.ofString a) :: l)) ∈ fr) (hs : (Str.ofString a == Str.ofString s) = false) (h : SX B C fr b2 st Kn Kr) :
    SX B C fr [.If (.Compare (.Subscript (.Name x p1) (.Constant (.int 0) j p2) p3) [.Eq] [.Constant (.str (Str.ofString s)) j2 p4] p5) b1 b2 p6] st Kn Kr := SX_one (SX1_if (ST_item_s hm (Idx_t rfl rfl (SC_eq_lit hs h)) (by with_unfolding_all rfl)))
theorem SX_tag_eqc {x s : PySem.Str} {l : List V} {j j2 : Nat} {p1 p2 p3 p4 p5 p6 : Pos} {b1 b2 ss : List Stmt} {Kn : Fr' → St → Prop} {Kr : V → St → Prop} (hm : (x, V.tup (.str s :: l)) ∈ fr) (h : SX B C fr b1 st (fun fr1 st1 => SX B C fr1 ss st1 Kn Kr) Kr) :
    SX B C fr (.If (.Compare (.Subscript (.Name x p1) (.Constant (.int 0) j p2) p3) [.Eq] [.Constant (.str s) j2 p4] p5) b1 b2 p6 :: ss) st Kn Kr := SX_cons (SX1_if (ST_item_s hm (Idx_t rfl rfl (SC_eq_str (fun _ => h) (fun e => absurd rfl e))) (by with_unfolding_all rfl)))
theorem SX_tag_nec {x : PySem.Str} {a s : String} {l : List V} {j j2 : Nat} {p1 p2 p3 p4 p5 p6 : Pos} {b1 b2 ss : List Stmt} {Kn : Fr' → St → Prop} {Kr : V → St → Prop} (hm : (x, V.tup (.str (Str.ofString a) :: l)) ∈ fr) (hs : (Str.ofString a == Str.ofString s) = false) (h : SX B C fr b2 st (fun fr1 st1 => SX B C fr1 ss st1 Kn Kr) Kr) :
    SX B C fr (.If (.Compare (.Subscript (.Name x p1) (.Constant (.int 0) j p2) p3) [.Eq] [.Constant (.str (Str.ofString s)) j2 p4] p5) b1 b2 p6 :: ss) st Kn Kr := SX_cons (SX1_if (ST_item_s hm (Idx_t rfl rfl (SC_eq_lit hs h)) (by with_unfolding_all rfl)))
theorem SX_nam_eq {x s : PySem.Str} {j2 : Nat} {p1 p4 p5 p6 : Pos} {b1 b2 : List Stmt} {Kn : Fr' → St → Prop} {Kr : V → St → Prop} (hm : (x, V.str s) ∈ fr) (h : SX B C fr b1 st Kn Kr) :
    SX B C fr [.If (.Compare (.Name x p1) [.Eq] [.Constant (.str s) j2 p4] p5) b1 b2 p6] st Kn Kr := SX_one (SX1_if (ST_name_s hm (SC_eq_str (fun _ => h) (fun e => absurd rfl e)) (by with_unfolding_all rfl)))
theorem SX_nam_ne {x : PySem.Str} {a s : String} {j2 : Nat} {p1 p4 p5 p6 : Pos} {b1 b2 : List Stmt} {Kn : Fr' → St → Prop} {Kr : V → St → Prop} (hm : (x, V.str (Str.ofString a)) ∈ fr) (hs : (Str.ofString a == Str.ofString s) = false) (h : SX B C fr b2 st Kn Kr) :
    SX B C fr [.If (.Compare (.Name x p1) [.Eq] [.Constant (.str (Str.ofString s)) j2 p4] p5) b1 b2 p6] st Kn Kr := SX_one (SX1_if (ST_name_s hm (SC_eq_lit hs h) (by with_unfolding_all rfl)))
end
section Walks
theorem tools : True := by
  (k_with "rel" => ((repeat (first | with_reducible exact List.mem_cons_self | with_reducible refine List.mem_cons_of_mem _ ?_))))
  (k_with "put" => (first | ((with_reducible apply Put.ofS); (repeat (first | with_reducible exact PutS.hit _ _ _ _ | with_reducible apply PutS.skip)); done) | ((with_reducible apply Put.ofE); (repeat with_reducible apply PutE.skip); (with_reducible exact PutE.nil (kindOk (by assumption) (by kernel_rfl)) (by kernel_rfl) (by kernel_rfl)))))
  (k_with "om" => (first | assumption | exact Nat.le_of_add_right_le (by assumption) | exact Nat.le_of_add_left_le (by assumption) | exact Nat.le_of_ble_eq_true rfl | ((refine (?_ : _ ≤ Cfg.d _)); (rw [(by assumption : Cfg.d _ = _)]); (simp +arith only; done)) | ((refine (?_ : _ ≤ Cfg.d _)); (refine Nat.le_trans ?_ (by assumption : _ ≤ Cfg.d _)); (simp +arith only; done)) | lia -abstractProof | omega))
  (k_with "oma" => (first | assumption | exact Nat.le_of_add_right_le (by assumption) | exact Nat.le_of_add_left_le (by assumption) | exact Nat.le_of_ble_eq_true rfl | ((refine (?_ : _ ≤ Cfg.d _)); (rw [(by assumption : Cfg.d _ = _)]); (simp +arith only; done)) | ((refine (?_ : _ ≤ Cfg.d _)); (refine Nat.le_trans ?_ (by assumption : _ ≤ Cfg.d _)); (simp +arith only; done)) | lia | omega))
  (k_with "gSE" => ((first | ((with_reducible refine (?_ : SE _ _ _ (.Name _ _) _ _)); (with_reducible refine SE_loc (by k_extra "rel") ?_)) | ((with_reducible refine (?_ : SE _ _ _ (.Subscript (.Name _ _) (.Constant (.int _) _ _) _) _ _)); (with_reducible refine SE_item (by k_extra "rel") ?_)) | ((with_reducible refine (?_ : SE _ _ _ (.Subscript (.Name _ _) (.Constant (.str _) _ _) _) _ _)); (with_reducible refine SE_items (by k_extra "rel") ?_)) | ((with_reducible refine SE_idx ?_ ?hs); (case hs => intro _ _; with_unfolding_all rfl)) | with_reducible refine SE_int ?_ | with_reducible refine SE_str ?_ | ((with_reducible refine SE_fn ?hF ?hm ?hk ?hd ?_ ?hs); (case hF => assumption); (case hm => decide +kernel); (case hk => exact kindOk (by assumption) (by kernel_rfl)); (case hd => kernel_rfl); (case hs => exact rfl)) | with_reducible refine SE_Tuple ?_ | with_reducible refine SE_none ?_ | with_reducible refine SE_bool ?_ | with_reducible refine SE_cmp ?_ | with_reducible refine SE_BinOp ?_ | with_reducible refine SE_neg ?_ | with_reducible refine SE_IfExp ?_ | ((with_reducible refine SEb_len ?hF ?hk ?_ ?hs); (case hF => assumption); (case hk => exact kindOk (by assumption) (by kernel_rfl)); (case hs => exact rfl)) | ((with_reducible refine SEb_range ?hF ?hk ?_ ?hs); (case hF => assumption); (case hk => exact kindOk (by assumption) (by kernel_rfl)); (case hs => exact rfl)) | ((with_reducible refine SEb_int ?hF ?hk ?_ ?hs); (case hF => assumption); (case hk => exact kindOk (by assumption) (by kernel_rfl)); (case hs => exact rfl)) | ((with_reducible refine SEb_tuple ?hF ?hk ?_ ?hs); (case hF => assumption); (case hk => exact kindOk (by assumption) (by kernel_rfl)); (case hs => exact rfl)) | ((with_reducible refine SEb_list ?hF ?hk ?_ ?hs); (case hF => assumption); (case hk => exact kindOk (by assumption) (by kernel_rfl)); (case hs => exact rfl)))))
  (k_with "gSEs" => ((first | ((with_reducible refine (?_ : SEs _ _ _ [.Name _ _] _ _)); (with_reducible refine SEs_l1 (by k_extra "rel") ?_)) | ((with_reducible refine (?_ : SEs _ _ _ (.Name _ _ :: _) _ _)); (with_reducible refine SEs_l (by k_extra "rel") ?_)) | with_reducible refine SEs_i1 ?_ | with_reducible refine SEs_s ?_ | with_reducible refine SEs_i ?_ | with_reducible refine SEs_n ?_ | with_reducible refine SEs_b ?_ | ((with_reducible refine (?_ : SEs _ _ _ (.Subscript (.Name _ _) (.Constant (.int _) _ _) _ :: _) _ _)); (with_reducible refine SEs_x (by k_extra "rel") ?_)) | ((with_reducible refine SEs_cons ?_ ?hs); (case hs => exact fun _ => rfl)) | with_reducible refine SEs_nil ?_)))
  (k_with "gSX" => ((first | with_reducible refine SX_nil ?_ | ((with_reducible refine (?_ : SX _ _ _ [.If (.Compare (.Subscript (.Name _ _) (.Constant (.int 0) _ _) _) [.Eq] [.Constant (.str _) _ _] _) _ _ _] _ _ _)); (first | ((with_reducible apply SX_tag_eq); (case hm => k_extra "rel"; done)) | ((with_reducible apply SX_tag_ne); (case hm => k_extra "rel"; done); (case hs => kernel_rfl)))) | ((with_reducible refine (?_ : SX _ _ _ (.If (.Compare (.Subscript (.Name _ _) (.Constant (.int 0) _ _) _) [.Eq] [.Constant (.str _) _ _] _) _ _ _ :: _) _ _ _)); (first | ((with_reducible apply SX_tag_eqc); (case hm => k_extra "rel"; done)) | ((with_reducible apply SX_tag_nec); (case hm => k_extra "rel"; done); (case hs => kernel_rfl)))) | ((with_reducible refine (?_ : SX _ _ _ [.If (.Compare (.Name _ _) [.Eq] [.Constant (.str _) _ _] _) _ _ _] _ _ _)); (first | ((with_reducible apply SX_nam_eq); (case hm => k_extra "rel"; done)) | ((with_reducible apply SX_nam_ne); (case hm => k_extra "rel"; done); (case hs => kernel_rfl)))) | with_reducible refine SX_if1 ?_ | with_reducible refine SX_ret1 ?_ | ((with_reducible refine SX_expr1 ?_ ?hs); (case hs => exact rfl)) | with_reducible refine SX_if2 ?_ | with_reducible refine SX_one ?_ | with_reducible refine SX_cons ?_)))
  (k_with "gSX1" => ((first | with_reducible refine SX1_if ?_ | ((with_reducible refine (?_ : SX1 _ _ _ (.Assign [.Name _ _] (.Subscript (.Name _ _) (.Constant (.int _) _ _) _) _) _ _ _)); (with_reducible refine SX1_asg_item (by k_extra "rel") ?_ ?hs); (case hs => exact rfl)) | ((with_reducible refine SX1_assign ?_ ?hs); (case hs => exact rfl)) | ((with_reducible refine SX1_expr ?_ ?hs); (case hs => exact rfl)) | with_reducible refine SX1_ret ?_ | with_reducible refine SX1_retNone ?_ | ((with_reducible refine SX1_unpack ?_ ?hs ?hw); (case hs => exact rfl); (case hw => exact rfl)) | ((with_reducible refine SX1_for_tup (iter := .Subscript _ _ _) ?_ ?ht ?hs); (case ht => first | exact .name _ _ | exact .tuple _ _ _); (case hs => intro _; rfl)))))
  (k_with "gST" => ((first | ((with_reducible refine (?_ : ST _ _ _ (.Compare (.Subscript (.Name _ _) (.Constant (.int _) _ _) _) [_] [.Constant (.str _) _ _] _) _ _ _)); (with_reducible refine ST_item_s (by k_extra "rel") ?_ ?ho); (case ho => with_unfolding_all rfl)) | ((with_reducible refine (?_ : ST _ _ _ (.Compare (.Subscript (.Name _ _) (.Constant (.int _) _ _) _) [_] [.Constant .none _ _] _) _ _ _)); (with_reducible refine ST_item_n (by k_extra "rel") ?_ ?ho); (case ho => with_unfolding_all rfl)) | ((with_reducible refine (?_ : ST _ _ _ (.Compare (.Name _ _) [_] [.Constant (.str _) _ _] _) _ _ _)); (with_reducible refine ST_name_s (by k_extra "rel") ?_ ?ho); (case ho => with_unfolding_all rfl)) | ((with_reducible refine (?_ : ST _ _ _ (.Compare (.Name _ _) [_] [.Constant .none _ _] _) _ _ _)); (with_reducible refine ST_name_n (by k_extra "rel") ?_ ?ho); (case ho => with_unfolding_all rfl)) | with_reducible refine ST_cmp ?_ | with_reducible refine ST_not ?_ | with_reducible refine ST_andNil ?_ | with_reducible refine ST_orNil ?_ | with_reducible refine ST_and ?_ | with_reducible refine ST_or ?_ | ((with_reducible refine ST_name (b := false) ?hs (fun h => by cases h) (fun _ => ?_)); (case hs => k_extra "rel"; done)) | ((with_reducible refine ST_name (b := true) ?hs (fun _ => ?_) (fun h => by cases h)); (case hs => k_extra "rel"; done)))))
  (k_with "gSC" => ((first | with_reducible refine SC_eq_str (fun _ => ?_) (fun h => absurd rfl h) | ((with_reducible refine SC_eq_lit ?hs ?_); (case hs => kernel_rfl)) | with_reducible refine SC_ne_str (fun h => absurd rfl h) (fun _ => ?_) | ((with_reducible refine SC_ne_lit ?hs ?_); (case hs => kernel_rfl)) | with_reducible refine SC_is_none (fun _ => ?_) (fun h => absurd rfl h) (fun _ h => by cases h) | with_reducible refine SC_is_none (fun h => by cases h) (fun _ => ?_) (fun _ h => by cases h) | with_reducible refine SC_isNot_none (fun h => absurd rfl h) (fun _ => ?_) (fun _ h => by cases h) | with_reducible refine SC_isNot_none (fun _ => ?_) (fun h => by cases h) (fun _ h => by cases h) | ((with_reducible refine SC_in_lit ?hs (fun _ => ?_) (fun h => absurd (by decide +kernel) h)); (case hs => exact rfl)) | ((with_reducible refine SC_in_lit ?hs (fun h => absurd h (by decide +kernel)) (fun _ => ?_)); (case hs => exact rfl)) | ((with_reducible refine SC_notIn_lit ?hs (fun _ => ?_) (fun h => absurd h (by decide +kernel))); (case hs => exact rfl)) | ((with_reducible refine SC_notIn_lit ?hs (fun h => absurd (by decide +kernel) h) (fun _ => ?_)); (case hs => exact rfl)) | with_reducible refine SC_eq_int (fun _ => ?_) (fun h => absurd rfl h) | with_reducible refine SC_eq_int (fun h => absurd h (by decide)) (fun _ => ?_))))
  (k_with "gAS" => ((first | ((with_reducible refine (?_ : AS _ _ _ (.Name _ _) _ _ _)); (with_reducible refine AS_name (by k_extra "put") ?_)) | ((with_reducible refine (?_ : AS _ _ _ (.Tuple _ _ _) _ _ _)); (with_reducible refine AS_pair (by k_extra "put") (by k_extra "put") ?_)))))
  (k_with "gLoop" => ((first | with_reducible refine Loop_consT ?_ | with_reducible refine Loop_nilT ?_)))
  (k_with "gIdx" => ((first | ((with_reducible apply Idx_t); (focus exact rfl); (focus exact rfl)))))
  (k_with "tb" => (first   | ((with_reducible refine (?_ : SE _ _ _ _ _ _)); k_extra "gSE")   | ((with_reducible refine (?_ : SEs _ _ _ _ _ _)); k_extra "gSEs")   | ((with_reducible refine (?_ : SX _ _ _ _ _ _ _)); k_extra "gSX")   | ((with_reducible refine (?_ : SX1 _ _ _ _ _ _ _)); k_extra "gSX1")   | ((with_reducible refine (?_ : ST _ _ _ _ _ _ _)); k_extra "gST")   | ((with_reducible refine (?_ : SC _ _ _ _ _ _ _ _)); k_extra "gSC")   | ((with_reducible refine (?_ : AS _ _ _ _ _ _ _)); k_extra "gAS")   | ((with_reducible refine (?_ : Loop _ _ _ _ _ _ _ _ _ _)); k_extra "gLoop")   | ((with_reducible refine (?_ : Idx _ _ _ _)); k_extra "gIdx")   | with_reducible refine ex_tup ?_   | ((with_reducible refine small_go ?hs ?_); (case hs => exact Nat.le_of_ble_eq_true rfl))   | ((with_reducible refine (?_ : ∃ fr1, Put _ _ _ _ fr1 ∧ _)); (with_reducible refine Put.go (by k_extra "put") ?_))))
  (k_with "hb" => ((intro us name qual kV doc pm an cdv ct hu; first   | (obtain ⟨a0, e⟩ := len1 hu; subst e; rfl) | (obtain ⟨a0, a1, e⟩ := len2 hu; subst e; rfl) | (obtain ⟨a0, a1, a2, e⟩ := len3 hu; subst e; rfl) | (obtain ⟨a0, a1, a2, a3, e⟩ := len4 hu; subst e; rfl)   | (obtain ⟨a0, a1, a2, a3, a4, e⟩ := len5 hu; subst e; rfl) | (obtain ⟨a0, a1, a2, a3, a4, a5, e⟩ := len6 hu; subst e; rfl) | (obtain ⟨a0, a1, a2, a3, a4, a5, a6, e⟩ := len7 hu; subst e; rfl))))
  (k_with "hfr" => (((dsimp only [List.zip_cons_cons, List.zip_nil_left, List.zip_nil_right]); exact rfl)))
  (k_with "fn" => (((case hb => k_extra "hb"); (case hfr => k_extra "hfr"))))
  (k_with "sub" => ((repeat (first | with_reducible exact sub_nil | with_reducible refine sub_cons (by k_extra "rel") ?_))))
  (k_with "nd" => (((simp only [List.map_cons, List.map_nil]); decide +kernel)))
  trivial
section
variable {B : Base} {C : Cfg} {fr : Fr'} {st : St}

/-! the tables -/
structure Tb where
  a : Addr
  dx : Addr
  e : Addr
  sc : Sc
noncomputable def tabD (p : V) (e : Addr) : List (PySem.Str × V) := [("parent", p), ("entries", .ref e)]
noncomputable def ChainAt (cnt : Addr) (st : St) : V → List Tb → Prop
  | v, [] => v = .none
  | v, t :: r => v = .ref t.a ∧ st t.a = some (.inst cnt t.dx) ∧ ∃ p, st t.dx = some (.dict (tabD p t.e)) ∧ st t.e = some (.dict (encSc t.sc)) ∧ ChainAt cnt st p r
theorem ChainAt.noGlob {cnt : Addr} {v : V} : ∀ {c : List Tb}, ChainAt cnt st v c → ∀ u, v ≠ .glob u
  | [], h, u, e => by
    have h : v = .none := h
    rw [h] at e; cases e
  | t :: r, h, u, e => by rw [h.1] at e; cases e
noncomputable def envOfT (c : List Tb) : List Sc := c.map (·.sc)
noncomputable def optV : Option Ent → V
  | none => .none
  | some e => e.enc
theorem lookD_enc (sc : Sc) (k : PySem.Str) : lookD (encSc sc) k = (look sc k).map Ent.enc := by
  induction sc with
  | nil => rfl
  | cons p sc ih =>
    obtain ⟨n, e⟩ := p
    by_cases h : n = k
    · simp [lookD, look, encSc, h]
    · simp only [lookD, look, encSc, List.map_cons, List.find?_cons, h, decide_false] at ih ⊢
      exact ih

theorem find_spec (F : Facts B) {v : V} {c : List Tb} {x : PySem.Str} {Q : V → St → Prop} (hc : ChainAt F.tab st v c) (h : Q (optV (lookEnv (envOfT c) x)) st) : SCode B 1 (gval B "find") [v, .str x] st Q := by
  refine SCode_at F (k := 3) (fr0 := ?fr) ["table", "name"] (by kernel_rfl) rfl ?hb (by decide +kernel) (by kernel_rfl) (by kernel_rfl) ?hfr ?h
  k_extra "fn"
  intro C hsc hd
  refine SX_cons ?_
  refine SX1_while (fun n fr' st' => ∃ v' c', c'.length = n ∧ st' = st ∧ fr' = ([("table", v'), ("name", .str x)] : Fr') ∧ ChainAt F.tab st v' c' ∧ lookEnv (envOfT c') x = lookEnv (envOfT c) x) c.length ⟨v, c, rfl, rfl, rfl, hc, rfl⟩ ?_
  rintro n _ _ ⟨v', c', rfl, rfl, rfl, hc', hf⟩
  cases c' with
  | nil =>
    have hv : v' = .none := hc'
    subst hv
    repeat k_extra "tb"
    rw [← hf] at h
    exact h
  | cons t r =>
    obtain ⟨rfl, h1, p, h2, h3, h4⟩ := hc'
    repeat k_extra "tb"
    refine SE_attr ?_
    repeat k_extra "tb"
    refine ⟨_, _, _, _, _, rfl, h1, h2, F.tabGet _ (by decide +kernel), rfl, (fun _ e => by cases e), ?_⟩
    refine SC_in_dict h3 (fun y hy => ?_) (fun hn => ?_)
    · repeat k_extra "tb"
      refine SE_attr ?_
      repeat k_extra "tb"
      refine ⟨_, _, _, _, _, rfl, h1, h2, F.tabGet _ (by decide +kernel), rfl, (fun _ e => by cases e), ?_⟩
      repeat k_extra "tb"
      refine Idx.dict h3 hy ?_
      repeat k_extra "tb"
      rw [← hf] at h
      rw [lookD_enc] at hy
      obtain ⟨e, he, rfl⟩ := Option.map_eq_some_iff.mp hy
      simpa [envOfT, lookEnv, he, optV] using h
    · repeat k_extra "tb"
      refine SE_attr ?_
      repeat k_extra "tb"
      refine ⟨_, _, _, _, _, rfl, h1, h2, F.tabGet _ (by decide +kernel), rfl, h4.noGlob, ?_⟩
      repeat k_extra "tb"
      refine ⟨r.length, by simp, p, r, rfl, rfl, rfl, h4, ?_⟩
      rw [← hf]
      rw [lookD_enc, Option.map_eq_none_iff] at hn
      simp [envOfT, lookEnv, hn]

/-! the report -/
noncomputable def repD (nn w : Addr) (wired : Bool) : List (PySem.Str × V) := [("names", .ref nn), ("nettype", .str (if wired then "wire" else "none")), ("rows", .ref w)]
structure RepAt (F : Facts B) (st : St) (r rdx nn w : Addr) (wired : Bool) (rows : List V) : Prop where
  rep : st r = some (.inst F.rep rdx)
  repd : st rdx = some (.dict (repD nn w wired))
  rows : st w = some (.list rows)

theorem add_spec (F : Facts B) {r rdx nn w : Addr} {wired : Bool} {rows : List V} {k n : PySem.Str} {m : Int} {Q : V → St → Prop} (R : RepAt F st r rdx nn w wired rows) (hz : rows.length ≤ 1000000)
    (h : Q .none (st.set w (.list (rows ++ [Row.enc ⟨k, m, n⟩])))) : SCode B 1 (.ref F.repAdd) [.ref r, .str k, .int m, .str n] st Q := by
  refine SCode_fn (t := meth 1 1) (fr0 := ?fr) ["self", "kind", "at", "detail"] F.repAddIs rfl ?hb (by decide +kernel) (by kernel_rfl) (by kernel_rfl) ?hfr ?h
  k_extra "fn"
  intro C hsc hd
  refine SX_one ?_
  repeat k_extra "tb"
  refine SE_append ?_
  refine SE_attr ?_
  repeat k_extra "tb"
  refine ⟨_, _, _, _, _, rfl, R.rep, R.repd, F.repGet _ (by decide +kernel), rfl, (fun _ e => by cases e), ?_⟩
  refine ⟨w, rfl, ⟨_, R.rows⟩, ?_⟩
  repeat k_extra "tb"
  refine ⟨_, R.rows, by k_extra "om", rfl, ?_⟩
  repeat k_extra "tb"
  exact h

theorem rep_meth (F : Facts B) {r rdx nn w : Addr} {wired : Bool} {rows : List V} (R : RepAt F st r rdx nn w wired rows) {pl : Sem Bool} :
    ∀ s v (P : Value × List Value → Shared → Prop), Inv B s st → RV s.heap (.ref r) v → P (.ref F.repAdd, [v]) s → wpAny (Mod B) C.A (getMethod v "add" pl) P Bad s := fun s v P I rv h => by
  simp only [RV] at rv
  subst rv
  obtain ⟨_, gx⟩ := I.tr _ _ R.rep
  obtain ⟨_, kvs, hkv, hr⟩ := I.tr _ _ R.repd
  obtain ⟨od, god, hlk⟩ := lookIn_of "add" hkv
  obtain ⟨m1, m2, m3, m4⟩ := F.repMeth
  have hno : valueAt kvs "add" = none := (hr.look "add").2 (by cases wired <;> rfl)
  have II : InstAt s.heap r (instObj F.rep rdx) F.rep (some od) := ⟨gx, rfl, rfl, god⟩
  exact method_fn (B.X.keeps I.base) II m1 m2 m3 m4 (by show (lookIn _ od).map _ = _; rw [hlk, hno]; rfl) h
theorem plainAdd (F : Facts B) : Plain B (.ref F.repAdd) := F.repAddIs.plain

/-- report.add(k, m, n) -/
theorem SE_add (F : Facts B) {r rdx nn w : Addr} {wired : Bool} {p0 p1 pos : Pos} {args : List Expr} {pl : Sem Bool} {Q : V → St → Prop} (hr : (S "report", V.ref r) ∈ fr) (hd : 1 ≤ C.d)
    (h : SEs B C fr args st fun vs st1 => ∃ rows k m n, vs = [.str k, .int m, .str n] ∧ RepAt F st1 r rdx nn w wired rows ∧ rows.length ≤ 1000000 ∧ Q .none (st1.set w (.list (rows ++ [Row.enc ⟨k, m, n⟩]))))
    (R0 : ∃ rows, RepAt F st r rdx nn w wired rows)
    (hs : (args.all fun e => !isStarred e) = true := by rfl)
    (he : eval (.Call (.Attribute (.Name "report" p0) "add" p1) args [] pos) C.env = (do
      let ov ← eval (.Name "report" p0) C.env
      standAt p1.atName
      let (f, first) ← holding [ov] (getMethod ov "add" pl)
      callWith pos f first (backTo pos (starEach args C.env)) []) := by rfl) : SE B C fr (.Call (.Attribute (.Name "report" p0) "add" p1) args [] pos) st Q := by
  obtain ⟨rows0, R0⟩ := R0
  refine SE_meth (pl := pl) (SE_loc hr ⟨.ref F.repAdd, plainAdd F, rep_meth F R0, ?_⟩) hs he
  exact fun s pos ok I Fr hL => wpAny_mono (h s pos ok I Fr hL) (fun vs s1 ⟨xs, st1, r1, I1, e1, rows, k, m, n, hv, R, hz, hq⟩ => ⟨xs, st1, r1, I1, e1, by
    subst hv
    exact ((add_spec F R hz hq).less hd).call⟩) fun _ _ x => x
end
section
variable {B : Base} {C : Cfg} {fr : Fr'} {st : St}

/-! contexts -/
noncomputable def encR (rows : List Row) : MObj := .list (rows.map Row.enc)
set_option genInjectivity false in
set_option genSizeOfSpec false in
structure Ctx where
  r : Addr
  rdx : Addr
  nn : Addr
  w : Addr
  wired : Bool
  v : V
  c : List Tb
noncomputable abbrev Ctx.env (X : Ctx) : List Sc := envOfT X.c
/-- the check's context: whatever the rows are -/
noncomputable def CX (F : Facts B) (X : Ctx) (st : St) : Prop := ∀ rows : List Row, RepAt F (st.set X.w (encR rows)) X.r X.rdx X.nn X.w X.wired (rows.map Row.enc) ∧ ChainAt F.tab (st.set X.w (encR rows)) X.v X.c
theorem CX.rep {F : Facts B} {X : Ctx} (h : CX F X st) (rows : List Row) : RepAt F (st.set X.w (encR rows)) X.r X.rdx X.nn X.w X.wired (rows.map Row.enc) := (h rows).1
theorem CX.chain {F : Facts B} {X : Ctx} (h : CX F X st) (rows : List Row) : ChainAt F.tab (st.set X.w (encR rows)) X.v X.c := (h rows).2
@[simp] theorem set_set (st : St) (a : Addr) (m m' : MObj) : (st.set a m).set a m' = st.set a m' := by
  funext b; unfold St.set; split <;> rfl
theorem set_comm (st : St) {a b : Addr} (m m' : MObj) (h : a ≠ b) : (st.set a m).set b m' = (st.set b m').set a m := by
  funext c; unfold St.set
  by_cases h1 : c = b
  · subst h1; simp [Ne.symm h]
  · simp [h1]

/-- report.add(k, m, n), in a context -/
theorem SE_addC (F : Facts B) {X : Ctx} {rows : List Row} {p0 p1 pos : Pos} {args : List Expr} {pl : Sem Bool} {Q : V → St → Prop} (hr : (S "report", V.ref X.r) ∈ fr) (hd : 1 ≤ C.d) (hst : CX F X st) (hz : rows.length ≤ 1000000)
    (h : SEs B C fr args (st.set X.w (encR rows)) fun vs st1 => st1 = st.set X.w (encR rows) ∧ ∃ k m n, vs = [.str k, .int m, .str n] ∧ Q .none (st.set X.w (encR (rows ++ [⟨k, m, n⟩]))))
    (hs : (args.all fun e => !isStarred e) = true := by rfl)
    (he : eval (.Call (.Attribute (.Name "report" p0) "add" p1) args [] pos) C.env = (do
      let ov ← eval (.Name "report" p0) C.env
      standAt p1.atName
      let (f, first) ← holding [ov] (getMethod ov "add" pl)
      callWith pos f first (backTo pos (starEach args C.env)) []) := by rfl) : SE B C fr (.Call (.Attribute (.Name "report" p0) "add" p1) args [] pos) (st.set X.w (encR rows)) Q := by
  refine SE_add F hr hd (fun s pos ok I Fr hL => wpAny_mono (h s pos ok I Fr hL) (fun vs s1 ⟨xs, st1, r1, I1, e1, hst1, k, m, n, hv, hq⟩ => ⟨xs, st1, r1, I1, e1, rows.map Row.enc, k, m, n, hv, ?_⟩) fun _ _ x => x) ⟨_, hst.rep rows⟩ hs he
  subst hst1
  refine ⟨hst.rep rows, by simpa using hz, ?_⟩
  rw [set_set]
  simpa [encR] using hq

/-- the declarations' state: rows and the table that is filled -/
noncomputable def stD (st : St) (w e : Addr) (p : List Row × Sc) : St := (st.set w (encR p.1)).set e (.dict (encSc p.2))
structure DX (F : Facts B) (X : Ctx) (a dx e : Addr) (st : St) : Prop where
  ne : X.w ≠ e
  rep : ∀ p, RepAt F (stD st X.w e p) X.r X.rdx X.nn X.w X.wired (p.1.map Row.enc)
  chain : ∀ p, ChainAt F.tab (stD st X.w e p) X.v X.c
  tab : ∀ p, stD st X.w e p a = some (.inst F.tab dx)
  tabd : ∀ p, stD st X.w e p dx = some (.dict (tabD X.v e))
theorem DX.ent {F : Facts B} {X : Ctx} {a dx e : Addr} (h : DX F X a dx e st) (p : List Row × Sc) : stD st X.w e p e = some (.dict (encSc p.2)) := by simp [stD]
theorem DX.all {F : Facts B} {X : Ctx} {a dx e : Addr} (h : DX F X a dx e st) (p : List Row × Sc) : ChainAt F.tab (stD st X.w e p) (.ref a) (⟨a, dx, e, p.2⟩ :: X.c) :=
  ⟨rfl, h.tab p, X.v, h.tabd p, h.ent p, h.chain p⟩
theorem DX.toCX {F : Facts B} {X : Ctx} {a dx e : Addr} (h : DX F X a dx e st) (sc : Sc) : CX F { X with v := .ref a, c := ⟨a, dx, e, sc⟩ :: X.c } (st.set e (.dict (encSc sc))) := fun rows => by
  have := h.rep (rows, sc)
  have h2 := h.all (rows, sc)
  unfold stD at this h2
  rw [set_comm _ _ _ h.ne] at this h2
  exact ⟨this, h2⟩
theorem DX.stD_eq {F : Facts B} {X : Ctx} {a dx e : Addr} (h : DX F X a dx e st) (rows : List Row) (sc : Sc) : stD st X.w e (rows, sc) = (st.set e (.dict (encSc sc))).set X.w (encR rows) := by
  unfold stD; rw [set_comm _ _ _ h.ne]
theorem stD_e (st : St) (w e : Addr) (p : List Row × Sc) (sc : Sc) : (stD st w e p).set e (.dict (encSc sc)) = stD st w e (p.1, sc) := by simp [stD]
theorem stD_w (st : St) {w e : Addr} (hn : w ≠ e) (p : List Row × Sc) (rows : List Row) : (stD st w e p).set w (encR rows) = stD st w e (rows, p.2) := by
  unfold stD; rw [set_comm _ _ _ hn.symm, set_set]

/-- table.entries, of the table that is filled -/
theorem SE_entries (F : Facts B) {X : Ctx} {a dx e : Addr} {p : List Row × Sc} {p1 p2 : Pos} {Q : V → St → Prop} (hD : DX F X a dx e st) (hm : (S "table", V.ref a) ∈ fr)  (h : Q (.ref e) (stD st X.w e p))
    (he : eval (.Attribute (.Name "table" p1) "entries" p2) C.env = (do
      let o ← eval (.Name "table" p1) C.env
      standAt p2.atName
      let r ← holding [o] (getAttr o "entries" true)
      letTemporaryGo (.Name "table" p1) o r
      pure r) := by with_unfolding_all rfl) : SE B C fr (.Attribute (.Name "table" p1) "entries" p2) (stD st X.w e p) Q := by
  refine SE_attr (SE_loc hm ⟨_, _, _, _, _, rfl, hD.tab p, hD.tabd p, F.tabGet _ (by decide +kernel), rfl, (fun _ e => by cases e), h⟩) he
theorem SE_addD (F : Facts B) {X : Ctx} {a dx e : Addr} {p : List Row × Sc} {p0 p1 pos : Pos} {args : List Expr} {pl : Sem Bool} {Q : V → St → Prop} (hD : DX F X a dx e st) (hr : (S "report", V.ref X.r) ∈ fr) (hd : 1 ≤ C.d) (hz : p.1.length ≤ 1000000)
    (h : SEs B C fr args (stD st X.w e p) fun vs st1 => st1 = stD st X.w e p ∧ ∃ k m n, vs = [.str k, .int m, .str n] ∧ Q .none (stD st X.w e (p.1 ++ [⟨k, m, n⟩], p.2)))
    (hs : (args.all fun e => !isStarred e) = true := by rfl)
    (he : eval (.Call (.Attribute (.Name "report" p0) "add" p1) args [] pos) C.env = (do
      let ov ← eval (.Name "report" p0) C.env
      standAt p1.atName
      let (f, first) ← holding [ov] (getMethod ov "add" pl)
      callWith pos f first (backTo pos (starEach args C.env)) []) := by rfl) : SE B C fr (.Call (.Attribute (.Name "report" p0) "add" p1) args [] pos) (stD st X.w e p) Q := by
  refine SE_add F hr hd (fun s pos ok I Fr hL => wpAny_mono (h s pos ok I Fr hL) (fun vs s1 ⟨xs, st1, r1, I1, e1, hst1, k, m, n, hv, hq⟩ => ⟨xs, st1, r1, I1, e1, p.1.map Row.enc, k, m, n, hv, ?_⟩) fun _ _ x => x) ⟨_, hD.rep p⟩ hs he
  subst hst1
  refine ⟨hD.rep p, by simpa using hz, ?_⟩
  have : (.list (p.1.map Row.enc ++ [Row.enc ⟨k, m, n⟩]) : MObj) = encR (p.1 ++ [⟨k, m, n⟩]) := by simp [encR]
  rw [this, stD_w _ hD.ne]
  exact hq
theorem storeD_new {sc : Sc} {n : PySem.Str} {t : Ent} (h : look sc n = none) : storeD (encSc sc) n t.enc = encSc (sc ++ [(n, t)]) := by
  have : ((encSc sc).any fun p => p.1 = n) = false := by
    unfold look at h
    rw [Option.map_eq_none_iff, List.find?_eq_none] at h
    rw [List.any_eq_false]
    intro q hq
    simp only [encSc, List.mem_map] at hq
    obtain ⟨q', hq', rfl⟩ := hq
    exact h q' hq'
  unfold storeD
  rw [this]
  simp [encSc]
theorem lookD_some {sc : Sc} {n : PySem.Str} {x : V} (h : lookD (encSc sc) n = some x) : ∃ t, look sc n = some t ∧ x = t.enc := by
  rw [lookD_enc] at h
  obtain ⟨t, ht, rfl⟩ := Option.map_eq_some_iff.mp h
  exact ⟨t, ht, rfl⟩
theorem lookD_none {sc : Sc} {n : PySem.Str} (h : lookD (encSc sc) n = none) : look sc n = none := by
  rw [lookD_enc] at h
  exact Option.map_eq_none_iff.mp h

/-- table.entries[name] = .. -/
theorem SX1_entry (F : Facts B) {X : Ctx} {a dx e : Addr} {p : List Row × Sc} {n : PySem.Str} {value : Expr} {p0 p1 p2 : Pos} {ie : Expr} {p3 : Pos} {Kn : Fr' → St → Prop} {Kr : V → St → Prop} (hD : DX F X a dx e st) (hm : (S "table", V.ref a) ∈ fr) (hz : p.2.length ≤ 1000) (hl : look p.2 n = none)
    (h : SE B C fr value (stD st X.w e p) fun x st1 => st1 = stD st X.w e p ∧ SE B C fr ie (stD st X.w e p) fun z st2 => st2 = stD st X.w e p ∧ z = .str n ∧ ∃ t : Ent, x = t.enc ∧ Kn fr (stD st X.w e (p.1, p.2 ++ [(n, t)])))
    (hs : swapsWith value (some (.Subscript (.Attribute (.Name "table" p0) "entries" p1) ie p2)) p3.line C.env = pure false)
    (he : eval (.Attribute (.Name "table" p0) "entries" p1) C.env = (do
      let o ← eval (.Name "table" p0) C.env
      standAt p1.atName
      let r ← holding [o] (getAttr o "entries" true)
      letTemporaryGo (.Name "table" p0) o r
      pure r)) : SX1 B C fr (.Assign [.Subscript (.Attribute (.Name "table" p0) "entries" p1) ie p2] value p3) (stD st X.w e p) Kn Kr := by
  refine SX1_setItem (h.mono fun x st1 ⟨h1, h2⟩ => ?_) hs
  subst h1
  refine SE_entries F hD hm (h2.mono fun z st2 ⟨h3, h4, t, h5, h6⟩ => ?_) he
  subst h3 h4 h5
  refine .inl ⟨e, encSc p.2, n, rfl, rfl, hD.ent p, by simpa [encSc] using hz, ?_⟩
  rw [storeD_new hl, stD_e]
  exact h6

theorem add_name_spec (F : Facts B) {X : Ctx} {a dx e : Addr} {p : List Row × Sc} {n what : PySem.Str} {m : Int} {info : V} {t : Ent} {Q : V → St → Prop} (hD : DX F X a dx e st) (hz1 : p.1.length ≤ 1000000) (hz2 : p.2.length ≤ 1000) (ht : t.enc = .tup [.str what, .int m, info])
    (h : Q .none (stD st X.w e (addName n m t p))) : SCode B 2 (gval B "add_name") [.ref X.r, .ref a, .str n, .str what, .int m, info] (stD st X.w e p) Q := by
  refine SCode_at F (k := 5) (fr0 := ?fr) ["report", "table", "name", "what", "at", "info"] (by kernel_rfl) rfl ?hb (by decide +kernel) (by kernel_rfl) (by kernel_rfl) ?hfr ?h
  k_extra "fn"
  intro C hsc hd
  refine SX_one ?_
  repeat k_extra "tb"
  refine SE_entries F hD (by k_extra "rel") ?_
  refine SC_in_dict (hD.ent p) (fun x hx => ?_) (fun hn => ?_)
  · repeat k_extra "tb"
    refine SE_addD F hD (by k_extra "rel") (by k_extra "om") hz1 ?_
    repeat k_extra "tb"
    refine ⟨rfl, _, _, _, rfl, rfl, ?_⟩
    repeat k_extra "tb"
    obtain ⟨t', h1, _⟩ := lookD_some hx
    simpa [addName, h1] using h
  · have hn := lookD_none hn
    refine SX_one ?_
    refine SX1_entry F hD (by k_extra "rel") hz2 hn ?_ rfl (by with_unfolding_all rfl)
    repeat k_extra "tb"
    refine ⟨rfl, ?_⟩
    repeat k_extra "tb"
    refine ⟨rfl, rfl, t, ht.symm, ?_⟩
    simpa [addName, hn] using h
end
section
variable {B : Base} {C : Cfg} {fr : Fr'} {st : St}
theorem ST_sub {value slice : Expr} {pos : Pos} {Qt Qf : St → Prop} (h : SE B C fr (.Subscript value slice pos) st fun v st1 => ∃ b, v = .bool b ∧ (b = true → Qt st1) ∧ (b = false → Qf st1)) : ST B C fr (.Subscript value slice pos) st Qt Qf := fun s ok I F hL =>
  isTrue_plain (wpAny_mono (h s ok I F hL) (fun v s1 ⟨x, st1, r1, I1, e1, b, hx, h1, h2⟩ => by
    subst hx; simp only [RV] at r1; subst r1
    exact wpAny_truthy_bool ⟨st1, I1, e1, by cases b <;> simp_all⟩) fun _ _ x => x)

theorem add_label_spec (F : Facts B) {X : Ctx} {a dx e : Addr} {p : List Row × Sc} {n : PySem.Str} {m g : Int} {Q : V → St → Prop} (hD : DX F X a dx e st) (hz1 : p.1.length ≤ 1000000) (hz2 : p.2.length ≤ 1000)
    (h : Q .none (stD st X.w e (addLabel n m g p))) : SCode B 2 (gval B "add_label") [.ref X.r, .ref a, .str n, .int m, .int g] (stD st X.w e p) Q := by
  refine SCode_at F (k := 6) (fr0 := ?fr) ["report", "table", "name", "at", "group"] (by kernel_rfl) rfl ?hb (by decide +kernel) (by kernel_rfl) (by kernel_rfl) ?hfr ?h
  k_extra "fn"
  intro C hsc hd
  refine SX_cons ?_
  repeat k_extra "tb"
  refine SE_entries F hD (by k_extra "rel") ?_
  refine SC_notIn_dict (hD.ent p) (fun hn => ?_) (fun x hx => ?_)
  · have hn := lookD_none hn
    refine SX_cons ?_
    refine SX1_entry F hD (by k_extra "rel") hz2 hn ?_ rfl (by with_unfolding_all rfl)
    repeat k_extra "tb"
    refine ⟨rfl, ?_⟩
    repeat k_extra "tb"
    refine ⟨rfl, rfl, .block m g, rfl, ?_⟩
    repeat k_extra "tb"
    simpa [addLabel, hn] using h
  · obtain ⟨t, ht, rfl⟩ := lookD_some hx
    repeat k_extra "tb"
    refine SE_entries F hD (by k_extra "rel") ?_
    repeat k_extra "tb"
    refine Idx.dict (hD.ent p) hx ?_
    cases t
    all_goals dsimp only [Ent.enc, sigV]
    case block m' g' =>
      repeat k_extra "tb"
      refine SC_lt_int (fun hg => ?_) (fun hg => ?_)
      · repeat k_extra "tb"
        refine SE_addD F hD (by k_extra "rel") (by k_extra "om") hz1 ?_
        repeat k_extra "tb"
        refine ⟨rfl, _, _, _, rfl, rfl, ?_⟩
        repeat k_extra "tb"
        simpa [addLabel, ht, hg] using h
      · repeat k_extra "tb"
        refine SC_ne_int (fun hne => ?_) (fun hne => ?_)
        · repeat k_extra "tb"
          refine SE_addD F hD (by k_extra "rel") (by k_extra "om") hz1 ?_
          repeat k_extra "tb"
          refine ⟨rfl, _, _, _, rfl, rfl, ?_⟩
          repeat k_extra "tb"
          simpa [addLabel, ht, hne] using h
        · repeat k_extra "tb"
          have hg' : ¬ (g < 0 ∨ g' ≠ g) := by k_extra "om"
          simp only [addLabel, ht, hg', if_false] at h
          exact h
    all_goals
      repeat k_extra "tb"
      refine SE_addD F hD (by k_extra "rel") (by k_extra "om") hz1 ?_
      repeat k_extra "tb"
      refine ⟨rfl, _, _, _, rfl, rfl, ?_⟩
      repeat k_extra "tb"
      simpa [addLabel, ht] using h
noncomputable def sigEnt (b : Bool) (m : Int) : Ent := if b then .net m else .var m
theorem add_signal_spec (F : Facts B) {X : Ctx} {a dx e : Addr} {p : List Row × Sc} {n : PySem.Str} {m : Int} {what : PySem.Str} {t : Ent} {Q : V → St → Prop} (hD : DX F X a dx e st) (hz1 : p.1.length ≤ 1000000) (hz2 : p.2.length ≤ 1000) (ht : t.enc = .tup [.str what, .int m, sigV])
    (h : Q .none (stD st X.w e (addName n m t p))) : SCode B 2 (gval B "add_signal") [.ref X.r, .ref a, .str n, .str what, .int m, .bool false] (stD st X.w e p) Q := by
  refine SCode_at F (k := 8) (fr0 := ?fr) ["report", "table", "name", "what", "at", "in_routine"] (by kernel_rfl) rfl ?hb (by decide +kernel) (by kernel_rfl) (by kernel_rfl) ?hfr ?h
  k_extra "fn"
  intro C hsc hd
  refine SX_cons ?_
  repeat k_extra "tb"
  refine SE_entries F hD (by k_extra "rel") ?_
  refine SC_notIn_dict (hD.ent p) (fun hn => ?_) (fun x hx => ?_)
  · have hn := lookD_none hn
    refine SX_cons ?_
    refine SX1_entry F hD (by k_extra "rel") hz2 hn ?_ rfl (by with_unfolding_all rfl)
    repeat k_extra "tb"
    refine ⟨rfl, ?_⟩
    repeat k_extra "tb"
    refine ⟨rfl, rfl, t, ht.symm, ?_⟩
    repeat k_extra "tb"
    simpa [addName, hn] using h
  · obtain ⟨t, ht, rfl⟩ := lookD_some hx
    repeat k_extra "tb"
    refine SE_entries F hD (by k_extra "rel") ?_
    repeat k_extra "tb"
    refine Idx.dict (hD.ent p) hx ?_
    cases t
    all_goals dsimp only [Ent.enc, sigV]
    case net m' =>
      repeat k_extra "tb"
      refine ST_sub ?_
      repeat k_extra "tb"
      refine ⟨_, rfl, fun _ => ?_, fun h => by cases h⟩
      repeat k_extra "tb"
      refine SE_addD F hD (by k_extra "rel") (by k_extra "om") hz1 ?_
      repeat k_extra "tb"
      refine ⟨rfl, _, _, _, rfl, rfl, ?_⟩
      repeat k_extra "tb"
      simpa [addName, ht] using h
    case var m' =>
      repeat k_extra "tb"
      refine ST_sub ?_
      repeat k_extra "tb"
      refine ⟨_, rfl, fun _ => ?_, fun h => by cases h⟩
      repeat k_extra "tb"
      refine SE_addD F hD (by k_extra "rel") (by k_extra "om") hz1 ?_
      repeat k_extra "tb"
      refine ⟨rfl, _, _, _, rfl, rfl, ?_⟩
      repeat k_extra "tb"
      simpa [addName, ht] using h
    all_goals
      repeat k_extra "tb"
      refine SE_addD F hD (by k_extra "rel") (by k_extra "om") hz1 ?_
      repeat k_extra "tb"
      refine ⟨rfl, _, _, _, rfl, rfl, ?_⟩
      repeat k_extra "tb"
      simpa [addName, ht] using h

noncomputable def Item.leaf : Item → Bool
  | .cassign _ _ _ => true
  | .gate _ _ _ => true
  | .net _ _ => true
  | .var _ _ => true
  | .param _ _ => true
  | .event _ _ => true
  | .nop => false
  | .block _ _ _ => false
  | .gfor _ _ _ _ _ => false
  | .gcase _ _ _ _ _ => false
  | .gif _ _ _ _ => false
theorem declare_item_spec (F : Facts B) {X : Ctx} {a dx e : Addr} {p : List Row × Sc} {i : Item} {Q : V → St → Prop} (hi : i.leaf = true) (hD : DX F X a dx e st) (hz1 : p.1.length ≤ 1000000) (hz2 : p.2.length ≤ 1000)
    (h : Q .none (stD st X.w e (declItem i p))) : SCode B 3 (gval B "declare_item") [.ref X.r, .ref a, i.enc, .bool false] (stD st X.w e p) Q := by
  refine SCode_at F (k := 9) (fr0 := ?fr) ["report", "table", "item", "in_routine"] (by kernel_rfl) rfl ?hb (by decide +kernel) (by kernel_rfl) (by kernel_rfl) ?hfr ?h
  k_extra "fn"
  intro C hsc hd
  cases i <;> try (exact absurd hi Bool.false_ne_true)
  case cassign m u v =>
    simp only [Item.enc]
    refine SX_cons ?_
    repeat k_extra "tb"
    exact h
  case gate m u v =>
    simp only [Item.enc]
    refine SX_cons ?_
    repeat k_extra "tb"
    exact h
  case net m n =>
    simp only [Item.enc]
    refine SX_cons ?_
    repeat k_extra "tb"
    refine ((add_signal_spec F hD hz1 hz2 (t := .net m) rfl ?_).less (by k_extra "om")).call
    refine ⟨rfl, ?_⟩
    repeat k_extra "tb"
    exact h
  case var m n =>
    simp only [Item.enc]
    refine SX_cons ?_
    repeat k_extra "tb"
    refine ((add_signal_spec F hD hz1 hz2 (t := .var m) rfl ?_).less (by k_extra "om")).call
    refine ⟨rfl, ?_⟩
    repeat k_extra "tb"
    exact h
  case param m n =>
    simp only [Item.enc]
    refine SX_cons ?_
    repeat k_extra "tb"
    refine ((add_name_spec F hD hz1 hz2 (t := .param m) rfl ?_).less (by k_extra "om")).call
    refine ⟨rfl, ?_⟩
    repeat k_extra "tb"
    exact h
  case event m n =>
    simp only [Item.enc]
    refine SX_cons ?_
    repeat k_extra "tb"
    refine ((add_name_spec F hD hz1 hz2 (t := .event m) rfl ?_).less (by k_extra "om")).call
    refine ⟨rfl, ?_⟩
    repeat k_extra "tb"
    exact h
end
section
variable {B : Base} {C : Cfg} {fr : Fr'} {st : St}

theorem addName_len (n : PySem.Str) (m : Int) (t : Ent) (p : List Row × Sc) : (addName n m t p).1.length ≤ p.1.length + 1 ∧ (addName n m t p).2.length ≤ p.2.length + 1 := by
  unfold addName; split <;> simp
theorem addLabel_len (n : PySem.Str) (m g : Int) (p : List Row × Sc) : (addLabel n m g p).1.length ≤ p.1.length + 1 ∧ (addLabel n m g p).2.length ≤ p.2.length + 1 := by
  unfold addLabel; split <;> (try split) <;> simp
theorem addLab_len (l : Option PySem.Str) (m g : Int) (p : List Row × Sc) : (addLab l m g p).1.length ≤ p.1.length + 1 ∧ (addLab l m g p).2.length ≤ p.2.length + 1 := by
  unfold addLab; split
  · simp
  · exact addLabel_len ..
theorem declBranch_len (g : Int) : ∀ (i : Item) (p : List Row × Sc), (declBranch g i p).1.length ≤ p.1.length + i.wt ∧ (declBranch g i p).2.length ≤ p.2.length + i.wt
  | .block m l is, p => by
    have := addLab_len l m g p
    simp only [declBranch, Item.wt]; k_extra "om"
  | .gif m c x y, p => by
    have h1 := declBranch_len g x p
    have h2 := declBranch_len g y (declBranch g x p)
    simp only [declBranch, Item.wt]; k_extra "om"
  | .gcase m c l x y, p => by
    have h1 := declBranch_len g x p
    have h2 := declBranch_len g y (declBranch g x p)
    simp only [declBranch, Item.wt]; k_extra "om"
  | .nop, p => by simp [declBranch]
  | .cassign _ _ _, p => by simp [declBranch]
  | .gate _ _ _, p => by simp [declBranch]
  | .net _ _, p => by simp [declBranch]
  | .var _ _, p => by simp [declBranch]
  | .param _ _, p => by simp [declBranch]
  | .event _ _, p => by simp [declBranch]
  | .gfor _ _ _ _ _, p => by simp [declBranch]
theorem declItem_len (i : Item) (p : List Row × Sc) : (declItem i p).1.length ≤ p.1.length + i.wt ∧ (declItem i p).2.length ≤ p.2.length + i.wt := by
  cases i
  case block m l is => have := addLab_len l m (-1) p; simp only [declItem, Item.wt]; k_extra "om"
  case gfor m g bm bl is => have := addLab_len bl bm (-1) p; simp only [declItem, Item.wt]; k_extra "om"
  case gif m c x y => exact declBranch_len m _ p
  case gcase m c l x y => exact declBranch_len m _ p
  case net m n => exact addName_len ..
  case var m n => exact addName_len ..
  case param m n => exact addName_len ..
  case event m n => exact addName_len ..
  all_goals simp [declItem]
theorem declAll_len : ∀ (is : List Item) (p : List Row × Sc), (declAll is p).1.length ≤ p.1.length + wts is ∧ (declAll is p).2.length ≤ p.2.length + wts is
  | [], p => by simp [declAll]
  | i :: is, p => by
    have h1 := declItem_len i p
    have h2 := declAll_len is (declItem i p)
    simp only [declAll, List.foldl_cons, wts] at h2 ⊢; k_extra "om"
theorem addUse_len (env : List Sc) (u : Use) (sc : Sc) : (addUse env u sc).length ≤ sc.length + 1 := by
  unfold addUse; split <;> simp
theorem addImpl_len (env : List Sc) (x : Ex) (sc : Sc) : (addImpl env x sc).length ≤ sc.length + 2 := by
  cases x
  case cat m u v =>
    have h1 := addUse_len env u sc
    have h2 := addUse_len env v (addUse env u sc)
    simp only [addImpl]; k_extra "om"
  case id u => have h1 := addUse_len env u sc; simp only [addImpl]; k_extra "om"
  all_goals simp [addImpl]
theorem declImpl_len (env : List Sc) (i : Item) (sc : Sc) : (declImpl env i sc).length ≤ sc.length + i.wt := by
  cases i
  case cassign m t v => have h1 := addImpl_len env t.ex sc; simp only [declImpl, Item.wt]; k_extra "om"
  case gate m t v =>
    have h1 := addImpl_len env t.ex sc
    have h2 := addImpl_len env v (addImpl env t.ex sc)
    simp only [declImpl, Item.wt]; k_extra "om"
  all_goals simp [declImpl]
set_option maxHeartbeats 1000000 in
theorem declare_branch_spec (F : Facts B) {X : Ctx} {a dx e : Addr} (hD : DX F X a dx e st) : ∀ (i : Item) (g : Int) (p : List Row × Sc) (Q : V → St → Prop), p.1.length + i.wt ≤ 1000000 → p.2.length + i.wt ≤ 1000 →
    Q .none (stD st X.w e (declBranch g i p)) → SCode B (i.wt + 3) (gval B "declare_branch") [.ref X.r, .ref a, i.enc, .int g] (stD st X.w e p) Q := fun i g p Q hz1 hz2 h => by
  refine SCode_at F (k := 31) (fr0 := ?fr) ["report", "table", "item", "group"] (by kernel_rfl) rfl ?hb (by decide +kernel) (by kernel_rfl) (by kernel_rfl) ?hfr ?h
  k_extra "fn"
  intro C hsc hd
  cases hi : i
  case nop =>
    subst hi
    simp only [Item.enc]
    refine SX_cons ?_
    repeat k_extra "tb"
    exact h
  case block m l is =>
    subst hi
    have hw : 1 ≤ (Item.block m l is).wt := Item.wt_pos _
    simp only [Item.enc]
    refine SX_cons ?_
    cases l with
    | none =>
      dsimp only [encLab]
      repeat k_extra "tb"
      exact h
    | some n =>
      dsimp only [encLab]
      repeat k_extra "tb"
      refine ((add_label_spec F hD (by k_extra "oma") (by k_extra "oma") ?_).less (by k_extra "oma")).call
      refine ⟨rfl, ?_⟩
      repeat k_extra "tb"
      exact h
  case gif m c x y =>
    subst hi
    have hx : x.wt + y.wt + 2 = (Item.gif m c x y).wt := by simp [Item.wt]
    have hx1 := x.wt_pos
    have hy1 := y.wt_pos
    have hl := declBranch_len g x p
    simp only [Item.enc]
    refine SX_cons ?_
    repeat k_extra "tb"
    refine ((declare_branch_spec F hD x g p _ (by k_extra "oma") (by k_extra "oma") ?_).less (by k_extra "oma")).call
    refine ⟨rfl, ?_⟩
    repeat k_extra "tb"
    refine ((declare_branch_spec F hD y g _ _ (by k_extra "oma") (by k_extra "oma") ?_).less (by k_extra "oma")).call
    refine ⟨rfl, ?_⟩
    repeat k_extra "tb"
    exact h
  case gcase m c l x y =>
    subst hi
    have hx : x.wt + y.wt + 2 = (Item.gcase m c l x y).wt := by simp [Item.wt]
    have hx1 := x.wt_pos
    have hy1 := y.wt_pos
    have hl := declBranch_len g x p
    simp only [Item.enc]
    refine SX_cons ?_
    repeat k_extra "tb"
    refine ((declare_branch_spec F hD x g p _ (by k_extra "oma") (by k_extra "oma") ?_).less (by k_extra "oma")).call
    refine ⟨rfl, ?_⟩
    repeat k_extra "tb"
    refine ((declare_branch_spec F hD y g _ _ (by k_extra "oma") (by k_extra "oma") ?_).less (by k_extra "oma")).call
    refine ⟨rfl, ?_⟩
    repeat k_extra "tb"
    exact h
  all_goals
    subst hi
    simp only [Item.enc]
    refine SX_cons ?_
    repeat k_extra "tb"
    exact h
termination_by i => i.wt
decreasing_by all_goals (subst_vars; omega)
end
section
variable {B : Base} {C : Cfg} {fr : Fr'} {st : St}

theorem lookEnv_none {sc : Sc} {env : List Sc} {n : PySem.Str} (h : lookEnv (sc :: env) n = none) : look sc n = none := by
  unfold lookEnv at h
  cases q : look sc n with
  | none => rfl
  | some t => rw [q] at h; cases h
theorem optV_glob {o : Option Ent} : ∀ u, optV o ≠ .glob u := fun u e => by
  cases o with
  | none => cases e
  | some t => cases t <;> cases e
theorem optV_none {o : Option Ent} (h : optV o = .none) : o = none := by
  cases o with
  | none => rfl
  | some t => cases t <;> cases h

theorem add_implicit_use (F : Facts B) {X : Ctx} {a dx e : Addr} (hD : DX F X a dx e st) {u : Use} {p : List Row × Sc} {Q : V → St → Prop} (hz2 : p.2.length ≤ 1000)
    (h : Q .none (stD st X.w e (p.1, addUse X.env u p.2))) : SCode B 2 (gval B "add_implicit") [.ref a, u.enc] (stD st X.w e p) Q := by
  refine SCode_at F (k := 33) (fr0 := ?fr) ["table", "e"] (by kernel_rfl) rfl ?hb (by decide +kernel) (by kernel_rfl) (by kernel_rfl) ?hfr ?h
  k_extra "fn"
  intro C hsc hd
  simp only [Use.enc]
  refine SX_one ?_
  repeat k_extra "tb"
  refine ((find_spec F (hD.all p) ?_).less (by k_extra "om")).call
  have hE : envOfT (⟨a, dx, e, p.2⟩ :: X.c) = p.2 :: X.env := rfl
  rw [hE]
  repeat k_extra "tb"
  refine SC_is_none (fun hn => ?_) (fun hn => ?_) optV_glob
  · have hn := optV_none hn
    repeat k_extra "tb"
    refine SX1_entry F hD (by k_extra "rel") hz2 (lookEnv_none hn) ?_ rfl (by with_unfolding_all rfl)
    repeat k_extra "tb"
    refine ⟨rfl, ?_⟩
    repeat k_extra "tb"
    refine ⟨rfl, rfl, .net u.pl, rfl, ?_⟩
    simpa [addUse, hn] using h
  · cases q : lookEnv (p.2 :: X.env) u.n with
    | none => rw [q] at hn; exact absurd rfl hn
    | some t =>
      repeat k_extra "tb"
      simpa [addUse, q] using h

noncomputable def isId : Ex → Bool
  | .id _ => true
  | _ => false
theorem add_implicit_spec (F : Facts B) {X : Ctx} {a dx e : Addr} (hD : DX F X a dx e st) {x : Ex} {p : List Row × Sc} {Q : V → St → Prop} (hz2 : p.2.length + 2 ≤ 1000)
    (h : Q .none (stD st X.w e (p.1, addImpl X.env x p.2))) : SCode B 3 (gval B "add_implicit") [.ref a, x.enc] (stD st X.w e p) Q := by
  by_cases hx : isId x = true
  · cases x <;> first | (cases hx; done) | exact (add_implicit_use F hD (by k_extra "om") h).less (by k_extra "om")
  refine SCode_at F (k := 33) (fr0 := ?fr) ["table", "e"] (by kernel_rfl) rfl ?hb (by decide +kernel) (by kernel_rfl) (by kernel_rfl) ?hfr ?h
  k_extra "fn"
  intro C hsc hd
  cases x
  case id u => exact absurd rfl hx
  case cat m u v =>
    simp only [Ex.enc]
    refine SX_one ?_
    repeat k_extra "tb"
    have hl := addUse_len X.env u p.2
    refine ((add_implicit_use F hD (by k_extra "om") ?_).less (by k_extra "om")).call
    refine ⟨rfl, ?_⟩
    repeat k_extra "tb"
    refine ((add_implicit_use F hD (by simp only; k_extra "om") ?_).less (by k_extra "om")).call
    refine ⟨rfl, ?_⟩
    repeat k_extra "tb"
    exact h
  all_goals
    simp only [Ex.enc]
    refine SX_one ?_
    repeat k_extra "tb"
    exact h

theorem declare_implicit_spec (F : Facts B) {X : Ctx} {a dx e : Addr} (hD : DX F X a dx e st) {i : Item} {p : List Row × Sc} {Q : V → St → Prop} (hi : i ≠ .nop) (hz2 : p.2.length + 4 ≤ 1000)
    (h : Q .none (stD st X.w e (p.1, declImpl X.env i p.2))) : SCode B 4 (gval B "declare_implicit") [.ref a, i.enc] (stD st X.w e p) Q := by
  refine SCode_at F (k := 32) (fr0 := ?fr) ["table", "item"] (by kernel_rfl) rfl ?hb (by decide +kernel) (by kernel_rfl) (by kernel_rfl) ?hfr ?h
  k_extra "fn"
  intro C hsc hd
  cases i
  case nop => exact absurd rfl hi
  case cassign m t v =>
    simp only [Item.enc]
    refine SX_one ?_
    repeat k_extra "tb"
    refine ((add_implicit_spec F hD (by k_extra "om") ?_).less (by k_extra "om")).call
    refine ⟨rfl, ?_⟩
    exact h
  case gate m t v =>
    have hl := addImpl_len X.env t.ex p.2
    simp only [Item.enc]
    refine SX_one ?_
    repeat k_extra "tb"
    refine ((add_implicit_spec F hD (by k_extra "om") ?_).less (by k_extra "om")).call
    refine ⟨rfl, ?_⟩
    repeat k_extra "tb"
    refine ((add_implicit_spec F hD (by simp only; k_extra "om") ?_).less (by k_extra "om")).call
    refine ⟨rfl, ?_⟩
    repeat k_extra "tb"
    exact h
  all_goals
    simp only [Item.enc]
    refine SX_one ?_
    repeat k_extra "tb"
    exact h
end
section
variable {B : Base} {C : Cfg} {fr : Fr'} {st : St}

theorem gds_cons {i : Item} {is : List Item} (h : gds (i :: is) = true) : i ≠ .nop ∧ i.gd = true ∧ gds is = true := by
  simp only [gds, Bool.and_eq_true] at h
  refine ⟨fun e => ?_, h.1.2, h.2⟩
  subst e; exact absurd h.1.1 (by simp)
noncomputable def declFin (wired : Bool) (env : List Sc) (is : List Item) (p : List Row × Sc) : List Row × Sc :=
  ((declAll is p).1, if wired then implAll env is (declAll is p).2 else (declAll is p).2)

theorem declare_item_skip (F : Facts B) {X : Ctx} {a dx e : Addr} {p : List Row × Sc} {m : Int} {l : V} {is : V} {Q : V → St → Prop} (hD : DX F X a dx e st)
    (h : Q .none (stD st X.w e p)) : SCode B 3 (gval B "declare_item") [.ref X.r, .ref a, .tup [.str "genblock", .int m, l, is], .bool false] (stD st X.w e p) Q := by
  refine SCode_at F (k := 9) (fr0 := ?fr) ["report", "table", "item", "in_routine"] (by kernel_rfl) rfl ?hb (by decide +kernel) (by kernel_rfl) (by kernel_rfl) ?hfr ?h
  k_extra "fn"
  intro C hsc hd
  refine SX_cons ?_
  repeat k_extra "tb"
  exact h

set_option maxHeartbeats 1000000 in
/-- one turn of the declaring loop -/
theorem declare_turn (F : Facts B) {X : Ctx} {a dx e : Addr} (hD : DX F X a dx e st) {i : Item} (hi : i ≠ .nop) {p : List Row × Sc} {items : V} {Kn : Fr' → St → Prop} {Kr : V → St → Prop} (hsc : C.sc = fScope (top 30)) (hd : i.wt + 3 ≤ C.d) (hz1 : p.1.length + i.wt ≤ 1000000) (hz2 : p.2.length + i.wt ≤ 1000)
    (h : ∀ tag, Kn [("report", .ref X.r), ("table", .ref a), ("items", items), ("item", i.enc), ("tag", tag)] (stD st X.w e (declItem i p))) :
    ∀ body, forB ((fBody (top 30)).headD (.Pass default)) = body → SX B C [("report", .ref X.r), ("table", .ref a), ("items", items), ("item", i.enc)] body (stD st X.w e p) Kn Kr := by
  intro body hb
  subst hb
  have hw := i.wt_pos
  cases hq : i
  case nop => exact absurd hq hi
  case block m l is =>
    subst hq
    simp only [Item.enc] at h ⊢
    refine SX_cons ?_
    cases l with
    | none =>
      dsimp only [encLab] at h ⊢
      repeat k_extra "tb"
      refine ((declare_item_skip F hD ?_).less (by k_extra "om")).call
      refine ⟨rfl, ?_⟩
      repeat k_extra "tb"
      exact h _
    | some n =>
      dsimp only [encLab] at h ⊢
      repeat k_extra "tb"
      refine ((add_label_spec F hD (by k_extra "om") (by k_extra "om") ?_).less (by k_extra "om")).call
      refine ⟨rfl, ?_⟩
      repeat k_extra "tb"
      exact h _
  case gfor m g bm bl is =>
    subst hq
    have e1 : (Item.gfor m g bm bl is).wt = wts is + 2 := by simp [Item.wt]
    have e2 : (Item.block bm bl is).wt = wts is + 1 := by simp [Item.wt]
    have hB := fun Q => declare_branch_spec F hD (.block bm bl is) (-1) p Q (by k_extra "om") (by k_extra "om")
    simp only [Item.enc] at h hB ⊢
    refine SX_cons ?_
    repeat k_extra "tb"
    refine ((hB _ ?_).less (by k_extra "om")).call
    refine ⟨rfl, ?_⟩
    repeat k_extra "tb"
    exact h _
  case gif m c x y =>
    subst hq
    have hB := fun Q => declare_branch_spec F hD (.gif m c x y) m p Q (by k_extra "om") (by k_extra "om")
    simp only [Item.enc] at h hB ⊢
    refine SX_cons ?_
    repeat k_extra "tb"
    refine ((hB _ ?_).less (by k_extra "om")).call
    refine ⟨rfl, ?_⟩
    repeat k_extra "tb"
    exact h _
  case gcase m c l x y =>
    subst hq
    have hB := fun Q => declare_branch_spec F hD (.gcase m c l x y) m p Q (by k_extra "om") (by k_extra "om")
    simp only [Item.enc] at h hB ⊢
    refine SX_cons ?_
    repeat k_extra "tb"
    refine ((hB _ ?_).less (by k_extra "om")).call
    refine ⟨rfl, ?_⟩
    repeat k_extra "tb"
    exact h _
  case cassign m t v =>
    subst hq
    have hB := fun Q => declare_item_spec F (Q := Q) (i := .cassign m t v) rfl hD (p := p) (by k_extra "om") (by k_extra "om")
    simp only [Item.enc] at h hB ⊢
    refine SX_cons ?_
    repeat k_extra "tb"
    refine ((hB _ ?_).less (by k_extra "om")).call
    refine ⟨rfl, ?_⟩
    repeat k_extra "tb"
    exact h _
  case gate m t v =>
    subst hq
    have hB := fun Q => declare_item_spec F (Q := Q) (i := .gate m t v) rfl hD (p := p) (by k_extra "om") (by k_extra "om")
    simp only [Item.enc] at h hB ⊢
    refine SX_cons ?_
    repeat k_extra "tb"
    refine ((hB _ ?_).less (by k_extra "om")).call
    refine ⟨rfl, ?_⟩
    repeat k_extra "tb"
    exact h _
  case net m n =>
    subst hq
    have hB := fun Q => declare_item_spec F (Q := Q) (i := .net m n) rfl hD (p := p) (by k_extra "om") (by k_extra "om")
    simp only [Item.enc] at h hB ⊢
    refine SX_cons ?_
    repeat k_extra "tb"
    refine ((hB _ ?_).less (by k_extra "om")).call
    refine ⟨rfl, ?_⟩
    repeat k_extra "tb"
    exact h _
  case var m n =>
    subst hq
    have hB := fun Q => declare_item_spec F (Q := Q) (i := .var m n) rfl hD (p := p) (by k_extra "om") (by k_extra "om")
    simp only [Item.enc] at h hB ⊢
    refine SX_cons ?_
    repeat k_extra "tb"
    refine ((hB _ ?_).less (by k_extra "om")).call
    refine ⟨rfl, ?_⟩
    repeat k_extra "tb"
    exact h _
  case param m n =>
    subst hq
    have hB := fun Q => declare_item_spec F (Q := Q) (i := .param m n) rfl hD (p := p) (by k_extra "om") (by k_extra "om")
    simp only [Item.enc] at h hB ⊢
    refine SX_cons ?_
    repeat k_extra "tb"
    refine ((hB _ ?_).less (by k_extra "om")).call
    refine ⟨rfl, ?_⟩
    repeat k_extra "tb"
    exact h _
  case event m n =>
    subst hq
    have hB := fun Q => declare_item_spec F (Q := Q) (i := .event m n) rfl hD (p := p) (by k_extra "om") (by k_extra "om")
    simp only [Item.enc] at h hB ⊢
    refine SX_cons ?_
    repeat k_extra "tb"
    refine ((hB _ ?_).less (by k_extra "om")).call
    refine ⟨rfl, ?_⟩
    repeat k_extra "tb"
    exact h _

theorem declare_items_spec (F : Facts B) {X : Ctx} {a dx e : Addr} (hD : DX F X a dx e st) {is : List Item} (hg : gds is = true) {p : List Row × Sc} {Q : V → St → Prop} (hz1 : p.1.length + wts is ≤ 1000000) (hz2 : p.2.length + 2 * wts is + 4 ≤ 1000)
    (h : Q .none (stD st X.w e (declFin X.wired X.env is p))) : SCode B (wts is + 5) (gval B "declare_items") [.ref X.r, .ref a, .tup (encs is)] (stD st X.w e p) Q := by
  refine SCode_at F (k := 30) (fr0 := ?fr) ["report", "table", "items"] (by kernel_rfl) rfl ?hb (by decide +kernel) (by kernel_rfl) (by kernel_rfl) ?hfr ?h
  k_extra "fn"
  intro C hsc hd
  refine SX_cons ?_
  refine SX1_for_tup ?_ (.name _ _) (by intro _; rfl)
  repeat k_extra "tb"
  refine Loop.invF [("report", .ref X.r), ("table", .ref a), ("items", .tup (encs is))] (by k_extra "nd") (fun l s => ∃ is' p', l = encs is' ∧ s = stD st X.w e p' ∧ gds is' = true ∧ declAll is' p' = declAll is p ∧ wts is' ≤ wts is ∧ p'.1.length + wts is' ≤ 1000000 ∧ p'.2.length + wts is' ≤ 1000)
    (fun _ _ _ => trivial) ?_ ?_ (by k_extra "sub") ⟨is, p, rfl, rfl, hg, rfl, by k_extra "om", by k_extra "om", by k_extra "om"⟩
  · rintro x l s ⟨is', p', hl, rfl, hg', hp, hw, h1, h2⟩
    cases is' with
    | nil => cases hl
    | cons i is' =>
      simp only [encs, List.cons.injEq] at hl
      obtain ⟨rfl, rfl⟩ := hl
      obtain ⟨hi, _, hgs⟩ := gds_cons hg'
      simp only [wts] at hw h1 h2
      have hl := declItem_len i p'
      refine AS_name (by k_extra "put") ?_
      refine declare_turn F hD hi (p := p') hsc (by k_extra "om") (by k_extra "om") (by k_extra "om") ?_ _ rfl
      intro tag
      exact ⟨by k_extra "sub", is', declItem i p', rfl, rfl, hgs, hp, by k_extra "om", by k_extra "om", by k_extra "om"⟩
  · rintro fr s hs ⟨is', p', hl, rfl, -, hp, -⟩
    cases is' with
    | cons i is' => cases hl
    | nil =>
      have hp : p' = declAll is p := hp
      subst hp
      have hlen := declAll_len is p
      refine SX_forget hs (by k_extra "nd") ?_
      refine SX_one ?_
      repeat k_extra "tb"
      refine SE_attr (SE_loc (by k_extra "rel") ?_)
      refine ⟨_, _, _, _, _, rfl, (hD.rep _).rep, (hD.rep _).repd, F.repGet _ (by decide +kernel), rfl, (fun _ e => by cases e), ?_⟩
      unfold declFin at h
      cases hwd : X.wired with
      | false =>
        rw [hwd] at h
        simp only [Bool.false_eq_true, if_false] at h ⊢
        repeat k_extra "tb"
        exact h
      | true =>
        rw [hwd] at h
        simp only [if_true] at h ⊢
        repeat k_extra "tb"
        refine SX1_for_tup ?_ (.name _ _) (by intro _; rfl)
        repeat k_extra "tb"
        refine Loop.invF [("report", .ref X.r), ("table", .ref a), ("items", .tup (encs is))] (by k_extra "nd") (fun l s => ∃ is' sc, l = encs is' ∧ s = stD st X.w e ((declAll is p).1, sc) ∧ gds is' = true ∧ implAll X.env is' sc = implAll X.env is (declAll is p).2 ∧ sc.length + wts is' + 4 ≤ 1000)
          (fun _ _ _ => trivial) ?_ ?_ (by k_extra "sub") ⟨is, (declAll is p).2, rfl, rfl, hg, rfl, by k_extra "om"⟩
        · rintro x l s ⟨is', sc, hl, rfl, hg', hp, h2⟩
          cases is' with
          | nil => cases hl
          | cons i is' =>
            simp only [encs, List.cons.injEq] at hl
            obtain ⟨rfl, rfl⟩ := hl
            obtain ⟨hi, _, hgs⟩ := gds_cons hg'
            simp only [wts] at h2
            have hl := declImpl_len X.env i sc
            repeat k_extra "tb"
            refine ((declare_implicit_spec F hD hi (by simp only; k_extra "om") ?_).less (by k_extra "om")).call
            refine ⟨rfl, ?_⟩
            repeat k_extra "tb"
            exact ⟨by k_extra "sub", is', declImpl X.env i sc, rfl, rfl, hgs, hp, by k_extra "om"⟩
        · rintro fr' s hs ⟨is', sc, hl, rfl, -, hp, -⟩
          cases is' with
          | cons i is' => cases hl
          | nil =>
            have hp : sc = _ := hp
            subst hp
            repeat k_extra "tb"
            exact h
end
section
variable {B : Base} {C : Cfg} {fr : Fr'} {st : St}

theorem check_expr_use (F : Facts B) {X : Ctx} (hX : CX F X st) {u : Use} {rows : List Row} {Q : V → St → Prop} (hz : (rows ++ useRows X.env u).length ≤ 1000000)
    (h : Q .none (st.set X.w (encR (rows ++ useRows X.env u)))) : SCode B 2 (gval B "check_expr") [.ref X.r, X.v, u.enc] (st.set X.w (encR rows)) Q := by
  refine SCode_at F (k := 10) (fr0 := ?fr) ["report", "table", "e"] (by kernel_rfl) rfl ?hb (by decide +kernel) (by kernel_rfl) (by kernel_rfl) ?hfr ?h
  k_extra "fn"
  intro C hsc hd
  simp only [Use.enc]
  refine SX_cons ?_
  repeat k_extra "tb"
  refine ((find_spec F (hX.chain rows) ?_).less (by k_extra "om")).call
  repeat k_extra "tb"
  simp only [List.length_append] at hz
  refine SC_is_none (fun hn => ?_) (fun hn => ?_) optV_glob
  · have hn := optV_none hn
    repeat k_extra "tb"
    refine SE_addC F (by k_extra "rel") (by k_extra "om") hX (by k_extra "om") ?_
    repeat k_extra "tb"
    refine ⟨rfl, _, _, _, rfl, rfl, ?_⟩
    have hn : lookEnv X.env u.n = none := hn
    simpa [useRows, hn] using h
  · repeat k_extra "tb"
    cases q : lookEnv X.env u.n with
    | none => have q : lookEnv (envOfT X.c) u.n = none := q; rw [q] at hn; exact absurd rfl hn
    | some t => simpa [useRows, q] using h

theorem check_each_gen (F : Facts B) {X : Ctx} {d : Nat} {l : List Ex} (hE : ∀ x ∈ l, ∀ (rows : List Row) (Q : V → St → Prop), (rows ++ exRows X.env x).length ≤ 1000000 → Q .none (st.set X.w (encR (rows ++ exRows X.env x))) → SCode B d (gval B "check_expr") [.ref X.r, X.v, x.enc] (st.set X.w (encR rows)) Q)
    {rows : List Row} {Q : V → St → Prop} (hz : (rows ++ l.flatMap (exRows X.env)).length ≤ 1000000)
    (h : Q .none (st.set X.w (encR (rows ++ l.flatMap (exRows X.env))))) : SCode B (d + 1) (gval B "check_each") [.ref X.r, X.v, .tup (l.map Ex.enc)] (st.set X.w (encR rows)) Q := by
  refine SCode_at F (k := 11) (fr0 := ?fr) ["report", "table", "items"] (by kernel_rfl) rfl ?hb (by decide +kernel) (by kernel_rfl) (by kernel_rfl) ?hfr ?h
  k_extra "fn"
  intro C hsc hd
  refine SX_one ?_
  refine SX1_for_tup ?_ (.name _ _) (by intro _; rfl)
  repeat k_extra "tb"
  refine Loop.invF [("report", .ref X.r), ("table", X.v), ("items", .tup (l.map Ex.enc))] (by k_extra "nd") (fun l' s => ∃ xs rows', l' = xs.map Ex.enc ∧ (∀ x ∈ xs, x ∈ l) ∧ s = st.set X.w (encR rows') ∧ rows' ++ xs.flatMap (exRows X.env) = rows ++ l.flatMap (exRows X.env))
    (fun _ _ _ => trivial) ?_ ?_ (by k_extra "sub") ⟨l, rows, rfl, fun _ h => h, rfl, rfl⟩
  · rintro x l' s ⟨xs, rows', hl, hs, rfl, hr⟩
    cases xs with
    | nil => cases hl
    | cons y xs =>
      simp only [List.map_cons, List.cons.injEq] at hl
      obtain ⟨rfl, rfl⟩ := hl
      simp only [List.flatMap_cons, ← List.append_assoc] at hr
      have hlen := congrArg List.length hr
      simp only [List.length_append] at hlen hz
      repeat k_extra "tb"
      refine ((hE y (hs y (.head _)) rows' _ (by simp only [List.length_append]; k_extra "om") ?_).less (by k_extra "om")).call
      refine ⟨rfl, ?_⟩
      repeat k_extra "tb"
      exact ⟨by k_extra "sub", xs, _, rfl, fun x hx => hs x (.tail _ hx), rfl, hr⟩
  · rintro fr' s hs ⟨xs, rows', hl, -, rfl, hr⟩
    cases xs with
    | cons y xs => cases hl
    | nil =>
      simp only [List.flatMap_nil, List.append_nil] at hr
      subst hr
      exact h
theorem use_ex (u : Use) : u.enc = (Ex.id u).enc := rfl
theorem check_each_uses (F : Facts B) {X : Ctx} (hX : CX F X st) (us : List Use) {l : List V} (hl : l = us.map Use.enc) {rows : List Row} {Q : V → St → Prop} (hz : (rows ++ us.flatMap (useRows X.env)).length ≤ 1000000)
    (h : Q .none (st.set X.w (encR (rows ++ us.flatMap (useRows X.env))))) : SCode B 3 (gval B "check_each") [.ref X.r, X.v, .tup l] (st.set X.w (encR rows)) Q := by
  have e1 : us.map Use.enc = (us.map Ex.id).map Ex.enc := by rw [List.map_map]; rfl
  have e2 : us.flatMap (useRows X.env) = (us.map Ex.id).flatMap (exRows X.env) := by rw [List.flatMap_map]; rfl
  rw [hl, e1]
  rw [e2] at hz h
  refine check_each_gen F (fun x hx rows Q hz h => ?_) hz h
  obtain ⟨u, _, rfl⟩ := List.mem_map.mp hx
  exact check_expr_use F hX hz h

theorem check_expr_spec (F : Facts B) {X : Ctx} (hX : CX F X st) {x : Ex} {rows : List Row} {Q : V → St → Prop} (hz : (rows ++ exRows X.env x).length ≤ 1000000)
    (h : Q .none (st.set X.w (encR (rows ++ exRows X.env x)))) : SCode B 4 (gval B "check_expr") [.ref X.r, X.v, x.enc] (st.set X.w (encR rows)) Q := by
  by_cases hx : isId x = true
  · cases x <;> first | (cases hx; done) | exact (check_expr_use F hX hz h).less (by k_extra "om")
  refine SCode_at F (k := 10) (fr0 := ?fr) ["report", "table", "e"] (by kernel_rfl) rfl ?hb (by decide +kernel) (by kernel_rfl) (by kernel_rfl) ?hfr ?h
  k_extra "fn"
  intro C hsc hd
  cases x
  case id u => exact absurd rfl hx
  case num =>
    simp only [Ex.enc]
    refine SX_cons ?_
    repeat k_extra "tb"
    simpa [exRows] using h
  case un m u =>
    simp only [Ex.enc]
    refine SX_cons ?_
    repeat k_extra "tb"
    refine ((check_expr_use F hX hz ?_).less (by k_extra "om")).call
    refine ⟨rfl, ?_⟩
    repeat k_extra "tb"
    exact h
  case cat m u v =>
    simp only [Ex.enc]
    refine SX_cons ?_
    repeat k_extra "tb"
    have e : exRows X.env (.cat m u v) = [u, v].flatMap (useRows X.env) := by simp [exRows]
    rw [e] at hz h
    refine ((check_each_uses F hX [u, v] rfl hz ?_).less (by k_extra "om")).call
    refine ⟨rfl, ?_⟩
    repeat k_extra "tb"
    exact h

theorem check_num (F : Facts B) {X : Ctx} (hX : CX F X st) {rows : List Row} {Q : V → St → Prop} (hz : rows.length ≤ 1000000) (h : Q .none (st.set X.w (encR rows))) : SCode B 4 (gval B "check_expr") [.ref X.r, X.v, numV] (st.set X.w (encR rows)) Q :=
  check_expr_spec F hX (x := .num) (by simpa [exRows] using hz) (by simpa [exRows] using h)
theorem check_each_nums (F : Facts B) {X : Ctx} (hX : CX F X st) {rows : List Row} {Q : V → St → Prop} (hz : rows.length ≤ 1000000)
    (h : Q .none (st.set X.w (encR rows))) : SCode B 5 (gval B "check_each") [.ref X.r, X.v, .tup [numV, numV, numV]] (st.set X.w (encR rows)) Q :=
  check_each_gen F (l := [.num, .num, .num]) (fun x hx rows Q hz h => check_expr_spec F hX hz h) (by simpa [exRows] using hz) (by simpa [exRows] using h)

theorem check_range_none (F : Facts B) {r v : V} {Q : V → St → Prop} (h : Q .none st) : SCode B 1 (gval B "check_range") [r, v, .none] st Q := by
  refine SCode_at F (k := 13) (fr0 := ?fr) ["report", "table", "bounds"] (by kernel_rfl) rfl ?hb (by decide +kernel) (by kernel_rfl) (by kernel_rfl) ?hfr ?h
  k_extra "fn"
  intro C hsc hd
  refine SX_one ?_
  repeat k_extra "tb"
  exact h
theorem check_optional_none (F : Facts B) {r v : V} {Q : V → St → Prop} (h : Q .none st) : SCode B 1 (gval B "check_optional") [r, v, .none] st Q := by
  refine SCode_at F (k := 12) (fr0 := ?fr) ["report", "table", "e"] (by kernel_rfl) rfl ?hb (by decide +kernel) (by kernel_rfl) (by kernel_rfl) ?hfr ?h
  k_extra "fn"
  intro C hsc hd
  refine SX_one ?_
  repeat k_extra "tb"
  exact h
noncomputable def Item.decl : Item → Bool
  | .net _ _ => true
  | .var _ _ => true
  | .param _ _ => true
  | .nop => false
  | .cassign _ _ _ => false
  | .gate _ _ _ => false
  | .event _ _ => false
  | .block _ _ _ => false
  | .gfor _ _ _ _ _ => false
  | .gcase _ _ _ _ _ => false
  | .gif _ _ _ _ => false
theorem check_declaration_spec (F : Facts B) {X : Ctx} (hX : CX F X st) {i : Item} (hi : i.decl = true) {rows : List Row} {Q : V → St → Prop} (hz : rows.length ≤ 1000000)
    (h : Q .none (st.set X.w (encR rows))) : SCode B 5 (gval B "check_declaration") [.ref X.r, X.v, i.enc] (st.set X.w (encR rows)) Q := by
  refine SCode_at F (k := 16) (fr0 := ?fr) ["report", "table", "item"] (by kernel_rfl) rfl ?hb (by decide +kernel) (by kernel_rfl) (by kernel_rfl) ?hfr ?h
  k_extra "fn"
  intro C hsc hd
  cases i <;> try (exact absurd hi Bool.false_ne_true)
  case net m n =>
    simp only [Item.enc]
    refine SX_cons ?_
    repeat k_extra "tb"
    refine ((check_range_none F ?_).less (by k_extra "om")).call
    refine ⟨rfl, ?_⟩
    repeat k_extra "tb"
    refine ((check_optional_none F ?_).less (by k_extra "om")).call
    refine ⟨rfl, ?_⟩
    repeat k_extra "tb"
    exact h
  case var m n =>
    simp only [Item.enc]
    refine SX_cons ?_
    repeat k_extra "tb"
    refine ((check_range_none F ?_).less (by k_extra "om")).call
    refine ⟨rfl, ?_⟩
    repeat k_extra "tb"
    refine ((check_optional_none F ?_).less (by k_extra "om")).call
    refine ⟨rfl, ?_⟩
    repeat k_extra "tb"
    exact h
  case param m n =>
    simp only [Item.enc]
    refine SX_cons ?_
    repeat k_extra "tb"
    refine ((check_range_none F ?_).less (by k_extra "om")).call
    refine ⟨rfl, ?_⟩
    repeat k_extra "tb"
    refine ((check_num F hX hz ?_).less (by k_extra "om")).call
    refine ⟨rfl, ?_⟩
    repeat k_extra "tb"
    exact h
end
section
variable {B : Base} {C : Cfg} {fr : Fr'} {st : St}

/-- a function with one default (False), all or all but one given -/
theorem SCode_fnD {u : Value} {t : Stmt} {d : Nat} {dfl : Addr} (hD : B.h₀.get? dfl = some (tupObj [.bool false] 0)) (names : List PySem.Str) {vs xs : List V} {fr0 : Fr'} {Q : V → St → Prop} (hF : FnIn B u (fParams t) (fBody t) (fScope t) (.ref dfl))
    (hx : xs = [] ∨ xs = [.bool false])
    (hb : ∀ us ds name qual kV doc pm an cdv ct, us.length = vs.length → (ds.length = xs.length) → (ds = [] ∨ ds = [.bool false]) → ∃ k, bindArgs (fnOf name qual (fParams t) (fBody t) (fScope t) (.ref dfl) kV doc pm an cdv ct) ⟨us, []⟩ = (seqItems? (.ref dfl) >>= k) ∧ k (some #[.bool false]) = pure (names.zip (us ++ ds)))
    (h1 : names.Nodup) (h2 : (names.all fun n => decide ((fScope t).names.lookup n = some .local) && !(n == ("__debug__" : PySem.Str))) = true)
    (h3 : ((fScope t).kind == .function && !(fScope t).isCoroutine && !(fScope t).isGenerator && (fScope t).names.all fun x => x.2 != .cell) = true)
    (hfr : names.zip (vs ++ xs) = fr0) (h : ∀ C : Cfg, C.sc = fScope t → C.d = d → SX B C fr0 (fBody t) st (fun _ st' => Q .none st') Q) : SCode B (d + 1) u vs st Q := by
  subst hfr
  refine SCode_def hF (names := names) (xs := xs) (fun s us name qual kV doc pm an cdv ct I hu => ?_) h1 h2 h3 h
  rcases hx with rfl | rfl
  · obtain ⟨k, e1, e2⟩ := hb us [] name qual kV doc pm an cdv ct hu rfl (.inl rfl)
    exact ⟨[], by simp [RVs], BindsTo.of_defaults rfl (I.base _ _ hD) rfl e1 e2⟩
  · obtain ⟨k, e1, e2⟩ := hb us [.bool false] name qual kV doc pm an cdv ct hu rfl (.inr rfl)
    exact ⟨[.bool false], by simp [RVs, RV], BindsTo.of_defaults rfl (I.base _ _ hD) rfl e1 e2⟩

theorem check_target_name_spec (F : Facts B) {X : Ctx} (hX : CX F X st) {u : Use} {b : Bool} {rows : List Row} {Q : V → St → Prop} (hz : (rows ++ tgtRow X.env u).length ≤ 1000000)
    (h : Q .none (st.set X.w (encR (rows ++ tgtRow X.env u)))) : SCode B 2 (gval B "check_target_name") [.ref X.r, X.v, .int u.pl, .str u.n, .bool false, .bool b] (st.set X.w (encR rows)) Q := by
  refine SCode_fnD F.dflt2Is (t := top 18) (xs := []) (fr0 := ?fr) ["report", "table", "at", "name", "procedural", "inputs"] F.ctn.2 (.inl rfl) ?hb (by decide +kernel) (by decide +kernel) (by decide +kernel) ?hfr ?h
  case hb =>
    intro us ds name qual kV doc pm an cdv ct hu hd _
    obtain ⟨a0, a1, a2, a3, a4, a5, e⟩ := len6 hu
    have := len0 hd
    subst e this
    exact ⟨_, rfl, rfl⟩
  case hfr =>
    simp only [List.append_nil, List.zip_cons_cons, List.zip_nil_right]
    exact rfl
  intro C hsc hd
  refine SX_cons ?_
  repeat k_extra "tb"
  refine ((find_spec F (hX.chain rows) ?_).less (by k_extra "om")).call
  have hE : envOfT X.c = X.env := rfl
  rw [hE]
  repeat k_extra "tb"
  simp only [List.length_append] at hz
  cases q : lookEnv X.env u.n with
  | none =>
    simp only [tgtRow, q] at h
    dsimp only [optV]
    repeat k_extra "tb"
    refine SE_addC F (by k_extra "rel") (by k_extra "om") hX (by k_extra "om") ?_
    repeat k_extra "tb"
    refine ⟨rfl, _, _, _, rfl, rfl, ?_⟩
    repeat k_extra "tb"
    exact h
  | some t =>
    cases t
    case net m =>
      simp only [tgtRow, q, List.append_nil] at h
      dsimp only [optV, Ent.enc, sigV]
      repeat k_extra "tb"
      exact h
    all_goals
      simp only [tgtRow, q] at h
      dsimp only [optV, Ent.enc, sigV]
      repeat k_extra "tb"
      refine SE_addC F (by k_extra "rel") (by k_extra "om") hX (by k_extra "om") ?_
      repeat k_extra "tb"
      refine ⟨rfl, _, _, _, rfl, rfl, ?_⟩
      repeat k_extra "tb"
      exact h

/-- the text of check_target, at a name -/
theorem check_target_body (F : Facts B) {X : Ctx} (hX : CX F X st) {u : Use} {b : Bool} {rows : List Row} {Q : V → St → Prop} (hz : (rows ++ tgtRow X.env u).length ≤ 1000000)
    (h : Q .none (st.set X.w (encR (rows ++ tgtRow X.env u)))) (C : Cfg) (hsc : C.sc = fScope (top 17)) (hd : 2 ≤ C.d) :
    SX B C [("report", .ref X.r), ("table", X.v), ("lv", u.enc), ("procedural", .bool false), ("inputs", .bool b)] (fBody (top 17)) (st.set X.w (encR rows)) (fun _ st' => Q .none st') Q := by
  simp only [Use.enc]
  refine SX_cons ?_
  repeat k_extra "tb"
  refine SE_call (kindOk (by assumption) (by kernel_rfl)) (by decide +kernel) (.inl F.ctn.1) F.ctn.2.plain ?_
  repeat k_extra "tb"
  refine ((check_target_name_spec F hX hz ?_).less (by k_extra "om")).call
  refine ⟨rfl, ?_⟩
  exact h
theorem check_target_use (F : Facts B) {X : Ctx} (hX : CX F X st) {u : Use} {b : Bool} {rows : List Row} {Q : V → St → Prop} (hz : (rows ++ tgtRow X.env u).length ≤ 1000000)
    (h : Q .none (st.set X.w (encR (rows ++ tgtRow X.env u)))) : SCode B 3 (gval B "check_target") [.ref X.r, X.v, u.enc, .bool false, .bool b] (st.set X.w (encR rows)) Q := by
  refine SCode_fnD F.dfltIs (t := top 17) (xs := []) (fr0 := ?fr) ["report", "table", "lv", "procedural", "inputs"] F.ct.2 (.inl rfl) ?hb (by decide +kernel) (by decide +kernel) (by decide +kernel) ?hfr ?h
  case hb =>
    intro us ds name qual kV doc pm an cdv ct hu hd _
    obtain ⟨a0, a1, a2, a3, a4, e⟩ := len5 hu
    have := len0 hd
    subst e this
    exact ⟨_, rfl, rfl⟩
  case hfr =>
    simp only [List.append_nil, List.zip_cons_cons, List.zip_nil_right]
    exact rfl
  intro C hsc hd
  exact check_target_body F hX hz h C hsc (by k_extra "om")
theorem check_target_bodyT (F : Facts B) {X : Ctx} (hX : CX F X st) {t : Tg} {b : Bool} {rows : List Row} {Q : V → St → Prop} (hz : (rows ++ tgtRows X.env t).length ≤ 1000000)
    (h : Q .none (st.set X.w (encR (rows ++ tgtRows X.env t)))) (C : Cfg) (hsc : C.sc = fScope (top 17)) (hd : 3 ≤ C.d) :
    SX B C [("report", .ref X.r), ("table", X.v), ("lv", t.ex.enc), ("procedural", .bool false), ("inputs", .bool b)] (fBody (top 17)) (st.set X.w (encR rows)) (fun _ st' => Q .none st') Q := by
  cases t with
  | id u => exact check_target_body F hX hz h C hsc (by k_extra "om")
  | cat m u v =>
    simp only [tgtRows, ← List.append_assoc] at hz h
    have hlen := hz
    simp only [List.length_append] at hlen
    simp only [Tg.ex, Ex.enc]
    refine SX_cons ?_
    repeat k_extra "tb"
    refine SE_call (kindOk (by assumption) (by kernel_rfl)) (by decide +kernel) (.inl F.ct.1) F.ct.2.plain ?_
    repeat k_extra "tb"
    refine ((check_target_use F hX (by simp only [List.length_append]; k_extra "om") ?_).less (by k_extra "om")).call
    refine ⟨rfl, ?_⟩
    repeat k_extra "tb"
    refine SE_call (kindOk (by assumption) (by kernel_rfl)) (by decide +kernel) (.inl F.ct.1) F.ct.2.plain ?_
    repeat k_extra "tb"
    refine ((check_target_use F hX hz ?_).less (by k_extra "om")).call
    refine ⟨rfl, ?_⟩
    repeat k_extra "tb"
    exact h
theorem check_target5 (F : Facts B) {X : Ctx} (hX : CX F X st) {t : Tg} {b : Bool} {rows : List Row} {Q : V → St → Prop} (hz : (rows ++ tgtRows X.env t).length ≤ 1000000)
    (h : Q .none (st.set X.w (encR (rows ++ tgtRows X.env t)))) : SCode B 4 (gval B "check_target") [.ref X.r, X.v, t.ex.enc, .bool false, .bool b] (st.set X.w (encR rows)) Q := by
  refine SCode_fnD F.dfltIs (t := top 17) (xs := []) (fr0 := ?fr) ["report", "table", "lv", "procedural", "inputs"] F.ct.2 (.inl rfl) ?hb (by decide +kernel) (by decide +kernel) (by decide +kernel) ?hfr ?h
  case hb =>
    intro us ds name qual kV doc pm an cdv ct hu hd _
    obtain ⟨a0, a1, a2, a3, a4, e⟩ := len5 hu
    have := len0 hd
    subst e this
    exact ⟨_, rfl, rfl⟩
  case hfr =>
    simp only [List.append_nil, List.zip_cons_cons, List.zip_nil_right]
    exact rfl
  intro C hsc hd
  exact check_target_bodyT F hX hz h C hsc (by k_extra "om")
theorem check_target4 (F : Facts B) {X : Ctx} (hX : CX F X st) {t : Tg} {rows : List Row} {Q : V → St → Prop} (hz : (rows ++ tgtRows X.env t).length ≤ 1000000)
    (h : Q .none (st.set X.w (encR (rows ++ tgtRows X.env t)))) : SCode B 4 (gval B "check_target") [.ref X.r, X.v, t.ex.enc, .bool false] (st.set X.w (encR rows)) Q := by
  refine SCode_fnD F.dfltIs (t := top 17) (xs := [.bool false]) (fr0 := ?fr) ["report", "table", "lv", "procedural", "inputs"] F.ct.2 (.inr rfl) ?hb (by decide +kernel) (by decide +kernel) (by decide +kernel) ?hfr ?h
  case hb =>
    intro us ds name qual kV doc pm an cdv ct hu hd hor
    obtain ⟨a0, a1, a2, a3, e⟩ := len4 hu
    rcases hor with e2 | e2
    · subst e2; cases hd
    · subst e e2
      exact ⟨_, rfl, rfl⟩
  case hfr =>
    simp only [List.cons_append, List.nil_append, List.zip_cons_cons, List.zip_nil_right]
    exact rfl
  intro C hsc hd
  exact check_target_bodyT F hX hz h C hsc (by k_extra "om")

theorem check_gate_spec (F : Facts B) {X : Ctx} (hX : CX F X st) {m : Int} {t : Tg} {v : Ex} {rows : List Row} {Q : V → St → Prop} (hz : (rows ++ (tgtRows X.env t ++ exRows X.env v)).length ≤ 1000000)
    (h : Q .none (st.set X.w (encR (rows ++ (tgtRows X.env t ++ exRows X.env v))))) : SCode B 5 (gval B "check_gate") [.ref X.r, X.v, (Item.gate m t v).enc] (st.set X.w (encR rows)) Q := by
  refine SCode_at F (k := 38) (fr0 := ?fr) ["report", "table", "item"] (by kernel_rfl) rfl ?hb (by decide +kernel) (by kernel_rfl) (by kernel_rfl) ?hfr ?h
  k_extra "fn"
  intro C hsc hd
  rw [← List.append_assoc] at hz h
  have hlen := hz
  simp only [List.length_append] at hlen
  simp only [Item.enc]
  refine SX_cons ?_
  repeat k_extra "tb"
  refine SE_or ?_
  repeat k_extra "tb"
  refine ⟨_, rfl, (fun h => by cases h), fun _ => SE_orNil ?_⟩
  repeat k_extra "tb"
  refine ((check_range_none F ?_).less (by k_extra "om")).call
  refine ⟨rfl, ?_⟩
  repeat k_extra "tb"
  refine SX1_for_range ?_ (by intro _; rfl)
  repeat k_extra "tb"
  refine SCall_len_tup (by simp) ?_
  repeat k_extra "tb"
  refine SCall_range ?_
  refine ⟨_, rfl, (by show ((2 : Nat) : Int) < 2 ^ 40; decide), (by show (-2 ^ 40 : Int) < ((2 : Nat) : Int); decide), ?_⟩
  have e : rangeV (([t.ex.enc, v.enc] : List V).length : Int) = [.int 0, .int 1] := rfl
  rw [e]
  repeat k_extra "tb"
  refine SC_lt_int (fun _ => ?_) (fun h => absurd (by decide) h)
  repeat k_extra "tb"
  refine SE_call (kindOk (by assumption) (by kernel_rfl)) (by decide +kernel) (.inl F.ct.1) F.ct.2.plain ?_
  repeat k_extra "tb"
  refine ((check_target5 F hX (by simp only [List.length_append]; k_extra "om") ?_).less (by k_extra "om")).call
  refine ⟨rfl, ?_⟩
  repeat k_extra "tb"
  refine SC_lt_int (fun h => absurd h (by decide)) (fun _ => ?_)
  repeat k_extra "tb"
  refine ((check_expr_spec F hX hz ?_).less (by k_extra "om")).call
  refine ⟨rfl, ?_⟩
  repeat k_extra "tb"
  exact h
end
section
variable {prog : Program} {w : World} {A : Around} {E : Value → Shared → Prop} {s : Shared}
theorem sliceApplied_36 {sl : Addr} {u u' : Tok} {Q : Int × Int × Nat → Shared → Prop} (hs : s.heap.IsSliceOf sl (.int 3 u) (.int 6 u') .none) (h : Q (3, 1, 3) s) :
    wpAny (model prog w) A (Builtin.Slice.sliceApplied (.ref sl) (pure (7 : Int))) Q E s := by
  obtain ⟨os, hos, hcs, hds⟩ := id hs
  unfold Builtin.Slice.sliceApplied Builtin.Slice.sliceFields
  refine wpAny_bind (wpAny_bind (wpAny_field hos hds (x := .int 3 u) rfl (wpAny_bind (wpAny_field hos hds (x := .int 6 u') rfl (wpAny_bind (wpAny_field hos hds (x := .none) rfl (wpAny_pure ?_)))))))
  refine wpAny_bind (slicePart_none ?_)
  show wpAny _ _ (if ((1 : Int) == 0) = true then _ else _) _ _ s
  rw [if_neg (by decide)]
  refine wpAny_bind (slicePart_int (wpAny_bind (slicePart_int (wpAny_bind (wpAny_pure ?_)))))
  exact wpAny_pure h
theorem getItem_tuple_36 {t sl : Addr} {x0 x1 x2 x3 x4 x5 x6 : Value} {u u' : Tok} {Q : Value → Shared → Prop} (ht : IsTup s.heap t #[x0, x1, x2, x3, x4, x5, x6]) (hs : s.heap.IsSliceOf sl (.int 3 u) (.int 6 u') .none)
    (h : Q (.ref s.heap.objs.size) { s with heap := s.heap.push { cls := .type "tuple", data := .seq #[x3, x4, x5] } }) : wpAny (model prog w) A (getItem (.ref t) (.ref sl)) Q E s := by
  have hdrop : sizeOk (.seq #[x3, x4, x5]) := by
    show (#[x3, x4, x5] : Array Value).size ≤ sizeLine
    rw [sizeLine_eq]; simp
  obtain ⟨os, hos, hcs, hds⟩ := id hs
  have hTs : s.TypeIs (.ref sl) "slice" := ⟨os, hos, hcs⟩
  unfold getItem
  try with_reducible refine wpAny_holding ?_
  first | refine wpAny_bind (wpAny_pure ?_) | skip
  refine wpAny_bind (wpAny_sequenceKey ht.typeIs (by decide) ?_)
  refine wpAny_bind (wpAny_callSpecial?_slot (name := Str.ofString "__getitem__") ht.typeIs slot_tuple_getitem
    (wpAny_call_entry slot_tuple_getitem ht.typeIs entry_tuple_getitem ?_ (args_tuple_getitem _ _)))
  show wpAny _ _ (Builtin.Tuple.tupleItemsOf (.ref t) >>= _) _ _ s
  refine wpAny_bind (tupleItemsOf_ ht ?_)
  refine wpAny_bind (wpAny_typeOf hTs ?_)
  rw [if_pos (by decide)]
  refine wpAny_bind (sliceApplied_36 hs ?_)
  have e : ((List.range 3).filterMap fun (k : Nat) => (#[x0, x1, x2, x3, x4, x5, x6] : Array Value)[((3 : Int) + (k : Int) * 1).toNat]?).toArray = #[x3, x4, x5] := rfl
  show wpAny _ _ (if ((3 : Int) == 0 && (1 : Int) == 1 && (3 == (7 : Nat))) = true then _ else _) _ _ s
  rw [if_neg (by decide), e]
  first
    | exact wpAny_bind (m := Builtin.Tuple.tupleExact _) (wpAny_newObj_type (wpAny_pure ⟨_, rfl, wpAny_pure h⟩) hdrop)
    | exact wpAny_bind (m := Builtin.Tuple.tupleExact _) (wpAny_newObj_type (wpAny_bind (wpAny_pure (wpAny_pure ⟨_, rfl, wpAny_pure h⟩))) hdrop)
    | exact wpAny_bind (wpAny_bind (m := Builtin.Tuple.tupleExact _) (wpAny_newObj_type (wpAny_pure (wpAny_pure ⟨_, rfl, wpAny_pure h⟩)) hdrop))
    | exact wpAny_bind (wpAny_bind (m := Builtin.Tuple.tupleExact _) (wpAny_newObj_type (wpAny_pure ⟨_, rfl, wpAny_pure h⟩) hdrop))
end
section
variable {B : Base} {C : Cfg} {fr : Fr'} {st : St}
theorem SE_slice36 {x : PySem.Str} {p0 p1 p2 p3 pos : Pos} {k1 k2 : Nat} {y0 y1 y2 y3 y4 y5 y6 : V} {Q : V → St → Prop} (hm : (x, V.tup [y0, y1, y2, y3, y4, y5, y6]) ∈ fr) (h : Q (.tup [y3, y4, y5]) st) :
    SE B C fr (.Subscript (.Name x p0) (.Slice (some (.Constant (.int 3) k1 p1)) (some (.Constant (.int 6) k2 p2)) none p3) pos) st Q := fun s ok I F hL => by
  refine wpAny_Subscript_Slice (T := "tuple") slot_tuple_getitem.lookup ?_
  refine wpAny_mono (SE_loc (Q := fun v st' => v = _ ∧ st' = st) hm ⟨rfl, rfl⟩ s ok I F hL) (fun v s1 hq0 => ?_) fun _ _ x => x
  obtain ⟨z, st1, r1, I1, e1, hz, hst⟩ := hq0
  subst hz hst
  simp only [RV, RVs] at r1
  obtain ⟨a, xs, n, rfl, g, v0, q0, rfl, r0, v1, q1, rfl, r1, v2, q2, rfl, r2, v3, q3, rfl, r3, v4, q4, rfl, r4, v5, q5, rfl, r5, v6, q6, rfl, r6, rfl⟩ := r1
  refine wpAny_Slice ?_
  rw [evalPart_some, evalPart_some, evalPart_none]
  refine wpAny_Constant_int (wpAny_Constant_int (wpAny_pure ?_))
  have k1 : ∀ (o : Obj) b ob, s1.heap.get? b = some ob → (s1.heap.push o).get? b = some ob := fun o b ob e => Heap.get?_push_of_some _ e
  refine ⟨⟨_, k1 _ _ _ g, rfl⟩, getItem_tuple_36 ((isTup_of g).keeps (k1 _)) (Heap.IsSliceOf.new ..) ?_⟩
  have k2 : ∀ b ob, s1.heap.get? b = some ob → ((s1.heap.push { cls := .type "slice", data := .fields #[.int 3 s1.toks, .int 6 (s1.toks + 1), .none] }).push (tupObj [v3, v4, v5] 0)).get? b = some ob := fun b ob e => Heap.get?_push_of_some _ (k1 _ b ob e)
  have kT : KeepT s1.heap ((s1.heap.push { cls := .type "slice", data := .fields #[.int 3 s1.toks, .int 6 (s1.toks + 1), .none] }).push (tupObj [v3, v4, v5] 0)) := fun b o e _ => k2 b o e
  refine ⟨.tup [y3, y4, y5], st1, ?_, I1.keeps k2, e1.trans (.keeps k2), h⟩
  simp only [RV, RVs]
  exact ⟨_, [v3, v4, v5], 0, rfl, Heap.get?_push_size _ rfl, v3, _, rfl, r3.mono kT, v4, _, rfl, r4.mono kT, v5, _, rfl, r5.mono kT, rfl⟩
end
section
variable {B : Base} {C : Cfg} {fr : Fr'} {st : St}

/-- what is not a list is kept -/
noncomputable def GrowN (sA sB : St) : Prop := ∀ b m, sA b = some m → (∀ l, m ≠ .list l) → sB b = some m
theorem ChainAt.grow {cnt : Addr} {sA sB : St} (g : GrowN sA sB) : ∀ {c : List Tb} {v : V}, ChainAt cnt sA v c → ChainAt cnt sB v c
  | [], _, h => h
  | t :: r, _, ⟨h1, h2, p, h3, h4, h5⟩ => ⟨h1, g _ _ h2 (fun _ e => by cases e), p, g _ _ h3 (fun _ e => by cases e), g _ _ h4 (fun _ e => by cases e), h5.grow g⟩
theorem RepAt.grow {F : Facts B} {sA sB : St} {r rdx nn w : Addr} {wired : Bool} {rows rows' : List V} (R : RepAt F sA r rdx nn w wired rows) (g : GrowN sA sB) (hw : sB w = some (.list rows')) : RepAt F sB r rdx nn w wired rows' :=
  ⟨g _ _ R.rep (fun _ e => by cases e), g _ _ R.repd (fun _ e => by cases e), hw⟩
/-- everything but w is kept -/
noncomputable def Grow (w : Addr) (sA sB : St) : Prop := ∀ b m, sA b = some m → b ≠ w → sB b = some m
theorem Grow.refl {w : Addr} : Grow w st st := fun _ _ h _ => h
theorem Grow.trans {w : Addr} {sA sB sC : St} (a : Grow w sA sB) (b : Grow w sB sC) : Grow w sA sC := fun x m h n => b x m (a x m h n) n
theorem Grow.toN {w : Addr} {sA sB : St} (g : Grow w sA sB) (r r' : List Row) : GrowN (sA.set w (encR r)) (sB.set w (encR r')) := fun b m h hn => by
  by_cases hb : b = w
  · subst hb; rw [St.set_same] at h; cases h; exact absurd rfl (hn _)
  · rw [St.set_ne _ _ hb] at h ⊢; exact g b m h hb
theorem CX.grow {F : Facts B} {X : Ctx} {sA sB : St} (hX : CX F X sA) (g : Grow X.w sA sB) : CX F X sB := fun rows =>
  ⟨(hX.rep rows).grow (g.toN rows rows) (by simp [encR]), (hX.chain rows).grow (g.toN rows rows)⟩
theorem set_eq {a : Addr} {m : MObj} (h : st a = some m) : st.set a m = st := by
  funext b; unfold St.set
  by_cases e : b = a
  · subst e; rw [if_pos rfl, h]
  · rw [if_neg e]

theorem plainTab (F : Facts B) : Plain B (.ref F.tab) := plain_K F.tabIs.2.keep
/-- NameTable(v) -/
theorem new_table (F : Facts B) {v : V} {Q : V → St → Prop} (h : ∀ a dx e st', st a = none → st dx = none → st e = none → dx ≠ a → e ≠ a → e ≠ dx → st' a = some (.inst F.tab dx) → st' dx = some (.dict (tabD v e)) → st' e = some (.dict []) → (∀ b, b ≠ a → b ≠ dx → b ≠ e → st' b = st b) → Q (.ref a) st') :
    SCode B 2 (.ref F.tab) [v] st Q := by
  refine SCode_cls F.tabIs.2 (fun a dx hdx ha hne => ?_)
  refine SCode_fn (t := meth 2 0) (fr0 := ?fr) ["self", "parent"] F.tabInitIs rfl ?hb (by decide +kernel) (by kernel_rfl) (by kernel_rfl) ?hfr ?h
  k_extra "fn"
  intro C hsc hd
  refine SX_cons ?_
  refine SX1_setAttr ?_
  repeat k_extra "tb"
  refine ⟨a, F.tab, dx, [], by k_extra "rel", by simp, by rw [St.set_ne _ _ hne]; simp, F.tabSet _ (by decide +kernel), rfl, by decide, ?_⟩
  refine SX_one ?_
  refine SX1_setAttr ?_
  refine SE_DictE (fun e he => ?_)
  have hea : e ≠ a := fun q => by subst q; rw [St.set_ne _ _ (Ne.symm hne), St.set_same] at he; cases he
  have hed : e ≠ dx := fun q => by subst q; rw [St.set_same] at he; cases he
  refine ⟨a, F.tab, dx, [("parent", v)], by k_extra "rel", ?_, ?_, F.tabSet _ (by decide +kernel), by rfl, Nat.le_of_ble_eq_true rfl, ?_⟩
  · rw [St.set_ne _ _ (Ne.symm hea), St.set_ne _ _ (Ne.symm hne)]; simp
  · rw [St.set_ne _ _ (Ne.symm hed)]; simp
  refine ⟨rfl, h a dx e _ ha hdx ?_ hne hea hed ?_ ?_ ?_ ?_⟩
  · rw [St.set_ne _ _ hed, St.set_ne _ _ hea, St.set_ne _ _ hed] at he; exact he
  · rw [St.set_ne _ _ (Ne.symm hne), St.set_ne _ _ (Ne.symm hea), St.set_ne _ _ (Ne.symm hne)]; simp
  · simp [tabD]
  · rw [St.set_ne _ _ hed]; simp
  · intro b h1 h2 h3
    rw [St.set_ne _ _ h2, St.set_ne _ _ h3, St.set_ne _ _ h2, St.set_ne _ _ h1, St.set_ne _ _ h2]

theorem new_DX (F : Facts B) {X : Ctx} (hX : CX F X st) {rows : List Row} {a dx e : Addr} {st' : St} (ha : (st.set X.w (encR rows)) a = none) (hdx : (st.set X.w (encR rows)) dx = none) (he : (st.set X.w (encR rows)) e = none) (h1 : dx ≠ a) (h2 : e ≠ a) (h3 : e ≠ dx)
    (ga : st' a = some (.inst F.tab dx)) (gd : st' dx = some (.dict (tabD X.v e))) (ge : st' e = some (.dict [])) (hk : ∀ b, b ≠ a → b ≠ dx → b ≠ e → st' b = (st.set X.w (encR rows)) b) :
    DX F X a dx e st' ∧ st' = stD st' X.w e (rows, []) ∧ ∀ sc, Grow X.w st (st'.set e (.dict (encSc sc))) := by
  have hw : ∀ b, (st.set X.w (encR rows)) b = none → b ≠ X.w := fun b h q => by subst q; rw [St.set_same] at h; cases h
  have wne := Ne.symm (hw e he)
  have gw : st' X.w = some (encR rows) := by rw [hk _ (Ne.symm (hw a ha)) (Ne.symm (hw dx hdx)) wne]; simp
  have gN : ∀ p, GrowN (st.set X.w (encR rows)) (stD st' X.w e p) := fun p b m h hn => by
    have hba : b ≠ a := fun q => by subst q; rw [ha] at h; cases h
    have hbd : b ≠ dx := fun q => by subst q; rw [hdx] at h; cases h
    have hbe : b ≠ e := fun q => by subst q; rw [he] at h; cases h
    have hbw : b ≠ X.w := fun q => by subst q; rw [St.set_same] at h; cases h; exact absurd rfl (hn _)
    unfold stD
    rw [St.set_ne _ _ hbe, St.set_ne _ _ hbw, hk b hba hbd hbe]; exact h
  refine ⟨⟨wne, fun p => (hX.rep rows).grow (gN p) ?_, fun p => (hX.chain rows).grow (gN p), fun p => ?_, fun p => ?_⟩, ?_, fun sc b m h hb => ?_⟩
  · unfold stD; rw [St.set_ne _ _ wne]; simp [encR]
  · unfold stD; rw [St.set_ne _ _ (Ne.symm h2), St.set_ne _ _ (hw a ha)]; exact ga
  · unfold stD; rw [St.set_ne _ _ (Ne.symm h3), St.set_ne _ _ (hw dx hdx)]; exact gd
  · unfold stD
    rw [set_eq gw, set_eq]
    simpa [encSc] using ge
  · have h' : (st.set X.w (encR rows)) b = some m := by rw [St.set_ne _ _ hb]; exact h
    have hba : b ≠ a := fun q => by subst q; rw [ha] at h'; cases h'
    have hbd : b ≠ dx := fun q => by subst q; rw [hdx] at h'; cases h'
    have hbe : b ≠ e := fun q => by subst q; rw [he] at h'; cases h'
    rw [St.set_ne _ _ hbe, hk b hba hbd hbe]; exact h'

/-- the declarations on top of rows that are there -/
theorem addName_app (R : List Row) (n : PySem.Str) (m : Int) (t : Ent) (p : List Row × Sc) : addName n m t (R ++ p.1, p.2) = (R ++ (addName n m t p).1, (addName n m t p).2) := by
  unfold addName
  cases q : look p.2 n <;> simp [q]
theorem addLabel_app (R : List Row) (n : PySem.Str) (m g : Int) (p : List Row × Sc) : addLabel n m g (R ++ p.1, p.2) = (R ++ (addLabel n m g p).1, (addLabel n m g p).2) := by
  unfold addLabel
  cases q : look p.2 n with
  | none => simp [q]
  | some t =>
    cases t <;> simp only [q] <;> first | (split <;> simp) | simp
theorem addLab_app (R : List Row) (l : Option PySem.Str) (m g : Int) (p : List Row × Sc) : addLab l m g (R ++ p.1, p.2) = (R ++ (addLab l m g p).1, (addLab l m g p).2) := by
  cases l with
  | none => rfl
  | some n => exact addLabel_app R n m g p
theorem declBranch_app (R : List Row) (g : Int) : ∀ (i : Item) (p : List Row × Sc), declBranch g i (R ++ p.1, p.2) = (R ++ (declBranch g i p).1, (declBranch g i p).2)
  | .block m l is, p => addLab_app R l m g p
  | .gif m c x y, p => by simp only [declBranch]; rw [declBranch_app R g x p, declBranch_app R g y]
  | .gcase m c l x y, p => by simp only [declBranch]; rw [declBranch_app R g x p, declBranch_app R g y]
  | .nop, p => by simp [declBranch]
  | .cassign _ _ _, p => by simp [declBranch]
  | .gate _ _ _, p => by simp [declBranch]
  | .net _ _, p => by simp [declBranch]
  | .var _ _, p => by simp [declBranch]
  | .param _ _, p => by simp [declBranch]
  | .event _ _, p => by simp [declBranch]
  | .gfor _ _ _ _ _, p => by simp [declBranch]
theorem declItem_app (R : List Row) (i : Item) (p : List Row × Sc) : declItem i (R ++ p.1, p.2) = (R ++ (declItem i p).1, (declItem i p).2) := by
  cases i
  case block m l is => exact addLab_app R l m (-1) p
  case gfor m g bm bl is => exact addLab_app R bl bm (-1) p
  case gif m c x y => exact declBranch_app R m _ p
  case gcase m c l x y => exact declBranch_app R m _ p
  case net m n => exact addName_app ..
  case var m n => exact addName_app ..
  case param m n => exact addName_app ..
  case event m n => exact addName_app ..
  all_goals simp [declItem]
theorem declAll_app (R : List Row) : ∀ (is : List Item) (p : List Row × Sc), declAll is (R ++ p.1, p.2) = (R ++ (declAll is p).1, (declAll is p).2)
  | [], p => rfl
  | i :: is, p => by
    have := declAll_app R is (declItem i p)
    simp only [declAll, List.foldl_cons] at this ⊢
    rw [declItem_app, this]
theorem declFin_app (R : List Row) (wired : Bool) (env : List Sc) (is : List Item) : declFin wired env is (R, []) = (R ++ (declScope wired env is).1, (declScope wired env is).2) := by
  have := declAll_app R is ([], [])
  simp only [List.append_nil] at this
  simp only [declFin, declScope, this]
end
section
variable {B : Base} {C : Cfg} {fr : Fr'} {st : St}

noncomputable def PostC (w : Addr) (st : St) (rows : List Row) (Q : V → St → Prop) : Prop := ∀ st', Grow w st st' → Q .none (st'.set w (encR rows))
noncomputable def ItemsSpec (B : Base) (F : Facts B) (is : List Item) : Prop := ∀ (X : Ctx) (st : St) (rows : List Row) (Q : V → St → Prop), CX F X st → gds is = true → wts is ≤ 400 → (rows ++ ckItems X.wired X.env is).length ≤ 100000 →
  PostC X.w st (rows ++ ckItems X.wired X.env is) Q → SCode B (3 * wts is + 7) (gval B "check_items") [.ref X.r, X.v, .tup (encs is)] (st.set X.w (encR rows)) Q
noncomputable def ScopeSpec (B : Base) (F : Facts B) (is : List Item) : Prop := ∀ (X : Ctx) (st : St) (rows : List Row) (Q : V → St → Prop), CX F X st → gds is = true → wts is ≤ 400 → (rows ++ ckScope X.wired X.env is).length ≤ 100000 →
  PostC X.w st (rows ++ ckScope X.wired X.env is) Q → SCode B (3 * wts is + 8) (gval B "check_scope") [.ref X.r, X.v, .tup (encs is)] (st.set X.w (encR rows)) Q
noncomputable def BranchSpec (B : Base) (F : Facts B) (i : Item) : Prop := ∀ (X : Ctx) (st : St) (rows : List Row) (Q : V → St → Prop), CX F X st → i.gd = true → i.wt ≤ 400 → (rows ++ ckBranch X.wired X.env i).length ≤ 100000 →
  PostC X.w st (rows ++ ckBranch X.wired X.env i) Q → SCode B (3 * i.wt + 9) (gval B "check_branch") [.ref X.r, X.v, i.enc] (st.set X.w (encR rows)) Q

theorem PostC.of {w : Addr} {rows : List Row} {Q : V → St → Prop} (h : ∀ st', Grow w st st' → Q .none (st'.set w (encR rows))) : PostC w st rows Q := h


noncomputable def elseOf (l : List Stmt) : List Stmt := ifE (l.headD (.Pass default))
noncomputable def thenOf (l : List Stmt) : List Stmt := ifT (l.headD (.Pass default))
noncomputable def forBody (l : List Stmt) : List Stmt := forB (l.headD (.Pass default))
noncomputable def gforText : List Stmt := (thenOf (elseOf (elseOf (elseOf (elseOf (elseOf (elseOf (elseOf (elseOf (elseOf ((forBody (fBody (top 34))).drop 1))))))))))).drop 2
theorem gfor_tail (F : Facts B) {X : Ctx} {m : Int} {n : PySem.Str} {bm : Int} {bl : Option PySem.Str} {is : List Item} (hS : ScopeSpec B F is) (hX : CX F X st) (hg : gds is = true) (hw : wts is + 2 ≤ 400) {rows : List Row} {items tag entry : V} {Kn : Fr' → St → Prop} {Kr : V → St → Prop} (hsc : C.sc = fScope (top 34)) (hd : 3 * (wts is + 2) + 6 ≤ C.d)
    (hz : (rows ++ ckScope X.wired X.env is).length ≤ 100000)
    (h : ∀ fr' st', (∀ p ∈ ([("report", .ref X.r), ("table", X.v), ("items", items)] : Fr'), p ∈ fr') → Grow X.w st st' → Kn fr' (st'.set X.w (encR (rows ++ ckScope X.wired X.env is)))) :
    ∀ body, gforText = body → SX B C [("report", .ref X.r), ("table", X.v), ("items", items), ("item", (Item.gfor m n bm bl is).enc), ("tag", tag), ("entry", entry)] body (st.set X.w (encR rows)) Kn Kr := by
  intro body hb
  subst hb
  have hlen := hz
  simp only [List.length_append] at hlen
  simp only [Item.enc]
  refine SX_cons ?_
  repeat k_extra "tb"
  refine SE_slice36 (by k_extra "rel") ?_
  repeat k_extra "tb"
  refine ((check_each_nums F hX (by k_extra "om") ?_).less (by k_extra "om")).call
  refine ⟨rfl, ?_⟩
  repeat k_extra "tb"
  refine ((hS X _ _ _ hX hg (by k_extra "om") hz (PostC.of fun st' g => ?_)).less (by k_extra "om")).call
  refine ⟨rfl, ?_⟩
  repeat k_extra "tb"
  exact h _ _ (by k_extra "sub") g

set_option maxHeartbeats 1000000 in
/-- one turn of the checking loop -/
theorem check_turn (F : Facts B) {X : Ctx} {i : Item} (hS : ∀ is, wts is + 1 ≤ i.wt → ScopeSpec B F is) (hB : ∀ j : Item, j.wt + 2 ≤ i.wt → BranchSpec B F j) (hX : CX F X st) (hi : i ≠ .nop) (hg : i.gd = true) (hw : i.wt ≤ 400) {rows : List Row} {items : V} {Kn : Fr' → St → Prop} {Kr : V → St → Prop} (hsc : C.sc = fScope (top 34)) (hd : 3 * i.wt + 6 ≤ C.d)
    (hz : (rows ++ ckItem X.wired X.env i).length ≤ 100000)
    (h : ∀ fr' st', (∀ p ∈ ([("report", .ref X.r), ("table", X.v), ("items", items)] : Fr'), p ∈ fr') → Grow X.w st st' → Kn fr' (st'.set X.w (encR (rows ++ ckItem X.wired X.env i)))) :
    ∀ body, forB ((fBody (top 34)).headD (.Pass default)) = body → SX B C [("report", .ref X.r), ("table", X.v), ("items", items), ("item", i.enc)] body (st.set X.w (encR rows)) Kn Kr := by
  intro body hb
  subst hb
  have hw0 := i.wt_pos
  cases hq : i
  case nop => exact absurd hq hi
  case event m n =>
    subst hq
    simp only [ckItem, List.append_nil] at h hz
    simp only [Item.enc]
    refine SX_cons ?_
    repeat k_extra "tb"
    exact h _ _ (by k_extra "sub") .refl
  case net m n =>
    subst hq
    simp only [ckItem, List.append_nil] at h hz
    have hC := fun Q => check_declaration_spec F hX (i := .net m n) rfl (rows := rows) (Q := Q) (by k_extra "om")
    simp only [Item.enc] at hC ⊢
    refine SX_cons ?_
    repeat k_extra "tb"
    refine ((hC _ ?_).less (by k_extra "om")).call
    refine ⟨rfl, ?_⟩
    repeat k_extra "tb"
    exact h _ _ (by k_extra "sub") .refl
  case var m n =>
    subst hq
    simp only [ckItem, List.append_nil] at h hz
    have hC := fun Q => check_declaration_spec F hX (i := .var m n) rfl (rows := rows) (Q := Q) (by k_extra "om")
    simp only [Item.enc] at hC ⊢
    refine SX_cons ?_
    repeat k_extra "tb"
    refine ((hC _ ?_).less (by k_extra "om")).call
    refine ⟨rfl, ?_⟩
    repeat k_extra "tb"
    exact h _ _ (by k_extra "sub") .refl
  case param m n =>
    subst hq
    simp only [ckItem, List.append_nil] at h hz
    have hC := fun Q => check_declaration_spec F hX (i := .param m n) rfl (rows := rows) (Q := Q) (by k_extra "om")
    simp only [Item.enc] at hC ⊢
    refine SX_cons ?_
    repeat k_extra "tb"
    refine ((hC _ ?_).less (by k_extra "om")).call
    refine ⟨rfl, ?_⟩
    repeat k_extra "tb"
    exact h _ _ (by k_extra "sub") .refl
  case cassign m t v =>
    subst hq
    simp only [ckItem, ← List.append_assoc] at h hz
    have hlen := hz
    simp only [List.length_append] at hlen
    simp only [Item.enc]
    refine SX_cons ?_
    repeat k_extra "tb"
    refine SE_call (kindOk (by assumption) (by kernel_rfl)) (by decide +kernel) (.inl F.ct.1) F.ct.2.plain ?_
    repeat k_extra "tb"
    refine ((check_target4 F hX (by simp only [List.length_append]; k_extra "om") ?_).less (by k_extra "om")).call
    refine ⟨rfl, ?_⟩
    repeat k_extra "tb"
    refine ((check_expr_spec F hX (by k_extra "om") ?_).less (by k_extra "om")).call
    refine ⟨rfl, ?_⟩
    repeat k_extra "tb"
    exact h _ _ (by k_extra "sub") .refl
  case gate m t v =>
    subst hq
    simp only [ckItem] at h hz
    have hC := fun Q => check_gate_spec F hX (m := m) (t := t) (v := v) (rows := rows) (Q := Q) (by k_extra "om")
    simp only [Item.enc] at hC ⊢
    refine SX_cons ?_
    repeat k_extra "tb"
    refine ((hC _ ?_).less (by k_extra "om")).call
    refine ⟨rfl, ?_⟩
    repeat k_extra "tb"
    exact h _ _ (by k_extra "sub") .refl
  case block m l is =>
    subst hq
    simp only [ckItem] at h hz
    simp only [Item.gd] at hg
    have e1 : (Item.block m l is).wt = wts is + 1 := by simp [Item.wt]
    simp only [Item.enc]
    refine SX_cons ?_
    repeat k_extra "tb"
    refine ((hS is (by k_extra "om") X _ rows _ hX hg (by k_extra "om") hz (PostC.of fun st' g => ?_)).less (by k_extra "om")).call
    refine ⟨rfl, ?_⟩
    repeat k_extra "tb"
    exact h _ _ (by k_extra "sub") g
  case gif m c x y =>
    subst hq
    simp only [ckItem, ← List.append_assoc] at h hz
    simp only [Item.gd, Bool.and_eq_true] at hg
    have e1 : (Item.gif m c x y).wt = x.wt + y.wt + 2 := by simp [Item.wt]
    have hx1 := x.wt_pos
    have hy1 := y.wt_pos
    have hlen := hz
    simp only [List.length_append] at hlen
    simp only [Item.enc]
    refine SX_cons ?_
    repeat k_extra "tb"
    refine ((check_expr_spec F hX (by simp only [List.length_append]; k_extra "om") ?_).less (by k_extra "om")).call
    refine ⟨rfl, ?_⟩
    repeat k_extra "tb"
    refine ((hB x (by k_extra "om") X _ _ _ hX hg.1 (by k_extra "om") (by simp only [List.length_append]; k_extra "om") (PostC.of fun st1 g1 => ?_)).less (by k_extra "om")).call
    refine ⟨rfl, ?_⟩
    repeat k_extra "tb"
    refine ((hB y (by k_extra "om") X _ _ _ (hX.grow g1) hg.2 (by k_extra "om") (by k_extra "om") (PostC.of fun st2 g2 => ?_)).less (by k_extra "om")).call
    refine ⟨rfl, ?_⟩
    repeat k_extra "tb"
    exact h _ _ (by k_extra "sub") (g1.trans g2)
  case gcase m c l x y =>
    subst hq
    simp only [ckItem, ← List.append_assoc] at h hz
    simp only [Item.gd, Bool.and_eq_true] at hg
    have e1 : (Item.gcase m c l x y).wt = x.wt + y.wt + 2 := by simp [Item.wt]
    have hx1 := x.wt_pos
    have hy1 := y.wt_pos
    have hlen := hz
    simp only [List.length_append] at hlen
    simp only [Item.enc]
    refine SX_cons ?_
    repeat k_extra "tb"
    refine ((check_expr_use F hX (by simp only [List.length_append]; k_extra "om") ?_).less (by k_extra "om")).call
    refine ⟨rfl, ?_⟩
    repeat k_extra "tb"
    have hU := fun rows Q hz h => check_each_uses F hX [l] (l := [l.enc]) rfl (rows := rows) (Q := Q) hz h
    simp only [List.flatMap_cons, List.flatMap_nil, List.append_nil] at hU
    refine ((hU _ _ (by simp only [List.length_append]; k_extra "om") ?_).less (by k_extra "om")).call
    refine ⟨rfl, ?_⟩
    repeat k_extra "tb"
    refine ((hB x (by k_extra "om") X _ _ _ hX hg.1 (by k_extra "om") (by simp only [List.length_append]; k_extra "om") (PostC.of fun st1 g1 => ?_)).less (by k_extra "om")).call
    refine ⟨rfl, ?_⟩
    repeat k_extra "tb"
    refine ((hB y (by k_extra "om") X _ _ _ (hX.grow g1) hg.2 (by k_extra "om") (by k_extra "om") (PostC.of fun st2 g2 => ?_)).less (by k_extra "om")).call
    refine ⟨rfl, ?_⟩
    repeat k_extra "tb"
    exact h _ _ (by k_extra "sub") (g1.trans g2)
  case gfor m n bm bl is =>
    subst hq
    simp only [ckItem, ← List.append_assoc] at h hz
    simp only [Item.gd] at hg
    have e1 : (Item.gfor m n bm bl is).wt = wts is + 2 := by simp [Item.wt]
    have hlen := hz
    simp only [List.length_append] at hlen
    have hT := fun rows Kn entry hz h => gfor_tail (C := C) (Kr := Kr) (items := items) (entry := entry) (tag := .str "genfor") F (m := m) (n := n) (bm := bm) (bl := bl) (hS is (by k_extra "om")) hX hg (by k_extra "om") (rows := rows) (Kn := Kn) hsc (by k_extra "om") hz h
    simp only [Item.enc] at hT ⊢
    refine SX_cons ?_
    repeat k_extra "tb"
    refine ((find_spec F (hX.chain rows) ?_).less (by k_extra "om")).call
    have hE : envOfT X.c = X.env := rfl
    rw [hE]
    cases q : lookEnv X.env n with
    | none =>
      simp only [forRow, q, List.length_cons, List.length_nil] at h hz hlen
      dsimp only [optV]
      repeat k_extra "tb"
      refine SE_addC F (by k_extra "rel") (by k_extra "om") hX (by k_extra "om") ?_
      repeat k_extra "tb"
      refine ⟨rfl, _, _, _, rfl, rfl, ?_⟩
      exact hT _ _ _ hz h _ rfl
    | some t =>
      cases t
      case genvar m' =>
        simp only [forRow, q, List.append_nil, List.length_nil] at h hz hlen
        dsimp only [optV, Ent.enc]
        refine Put.go (by k_extra "put") ?_
        refine SX_cons ?_
        refine SX1_if ?_
        refine ST_cmp ?_
        iterate 2 k_extra "tb"
        refine SC_is_none (fun h => by cases h) (fun _ => ?_) (fun _ h => by cases h)
        refine SX_one ?_
        refine SX1_if ?_
        refine ST_cmp ?_
        iterate 3 k_extra "tb"
        refine SC_ne_str (fun h => absurd rfl h) (fun _ => ?_)
        refine SX_nil ?_
        exact hT _ _ _ hz h _ rfl
      all_goals
        simp only [forRow, q, List.length_cons, List.length_nil] at h hz hlen
        dsimp only [optV, Ent.enc, sigV]
        repeat k_extra "tb"
        refine SE_addC F (by k_extra "rel") (by k_extra "om") hX (by k_extra "om") ?_
        repeat k_extra "tb"
        refine ⟨rfl, _, _, _, rfl, rfl, ?_⟩
        exact hT _ _ _ hz h _ rfl
end
section
variable {B : Base} {C : Cfg} {fr : Fr'} {st : St}

theorem items_spec_of (F : Facts B) {is : List Item} (hS : ∀ js, wts js + 1 ≤ wts is → ScopeSpec B F js) (hB : ∀ j : Item, j.wt + 2 ≤ wts is → BranchSpec B F j) : ItemsSpec B F is := fun X st rows Q hX hg hw hz h => by
  refine SCode_at F (k := 34) (fr0 := ?fr) ["report", "table", "items"] (by kernel_rfl) rfl ?hb (by decide +kernel) (by kernel_rfl) (by kernel_rfl) ?hfr ?h
  k_extra "fn"
  intro C hsc hd
  refine SX_one ?_
  refine SX1_for_tup ?_ (.name _ _) (by intro _; rfl)
  repeat k_extra "tb"
  refine Loop.invF [("report", .ref X.r), ("table", X.v), ("items", .tup (encs is))] (by k_extra "nd") (fun l s => ∃ js st' rows', l = encs js ∧ s = st'.set X.w (encR rows') ∧ Grow X.w st st' ∧ gds js = true ∧ rows' ++ ckItems X.wired X.env js = rows ++ ckItems X.wired X.env is ∧ wts js ≤ wts is)
    (fun _ _ _ => trivial) ?_ ?_ (by k_extra "sub") ⟨is, st, rows, rfl, rfl, .refl, hg, rfl, Nat.le_refl _⟩
  · rintro x l s ⟨js, st', rows', hl, rfl, g, hg', hr, hw'⟩
    cases js with
    | nil => cases hl
    | cons i js =>
      simp only [encs, List.cons.injEq] at hl
      obtain ⟨rfl, rfl⟩ := hl
      obtain ⟨hi, hgi, hgs⟩ := gds_cons hg'
      simp only [wts] at hw'
      simp only [ckItems, ← List.append_assoc] at hr
      have hlen := congrArg List.length hr
      simp only [List.length_append] at hlen hz
      refine AS_name (by k_extra "put") ?_
      refine check_turn F (i := i) (rows := rows') (fun js h => hS js (by k_extra "om")) (fun j h => hB j (by k_extra "om")) (hX.grow g) hi hgi (by k_extra "om") hsc (by k_extra "om") (by simp only [List.length_append]; k_extra "om") ?_ _ rfl
      intro fr' st2 hs g2
      exact ⟨hs, js, st2, _, rfl, rfl, g.trans g2, hgs, hr, by k_extra "om"⟩
  · rintro fr' s hs ⟨js, st', rows', hl, rfl, g, -, hr, -⟩
    cases js with
    | cons i js => cases hl
    | nil =>
      simp only [ckItems, List.append_nil] at hr
      subst hr
      exact h st' g
theorem scope_spec_of (F : Facts B) {is : List Item} (hI : ItemsSpec B F is) : ScopeSpec B F is := fun X st rows Q hX hg hw hz h => by
  refine SCode_at F (k := 36) (fr0 := ?fr) ["report", "table", "items"] (by kernel_rfl) rfl ?hb (by decide +kernel) (by kernel_rfl) (by kernel_rfl) ?hfr ?h
  k_extra "fn"
  intro C hsc hd
  refine SX_cons ?_
  repeat k_extra "tb"
  refine SE_call (kindOk (by assumption) (by kernel_rfl)) (by decide +kernel) (.inl F.tabIs.1) (plainTab F) ?_
  repeat k_extra "tb"
  refine ((new_table F (fun a dx e st' ha hdx he h1 h2 h3 ga gd ge hk => ?_)).less (by k_extra "om")).call
  obtain ⟨hD, hst, gr⟩ := new_DX F hX ha hdx he h1 h2 h3 ga gd ge hk
  rw [ckScope] at hz h
  have hfin := declFin_app rows X.wired X.env is
  have hbound := declAll_len is (rows, [])
  have hl1 : (declFin X.wired X.env is (rows, [])).1.length ≤ rows.length + wts is := hbound.1
  rw [hst]
  repeat k_extra "tb"
  simp only [List.length_append] at hz
  refine ((declare_items_spec F hD hg (by simp only; k_extra "om") (by simp only [List.length_nil]; k_extra "om") ?_).less (by k_extra "om")).call
  refine ⟨rfl, ?_⟩
  repeat k_extra "tb"
  refine SX1_for_tup ?_ (.name _ _) (by intro _; rfl)
  repeat k_extra "tb"
  refine Loop.invF [("report", .ref X.r), ("table", X.v), ("items", .tup (encs is)), ("inner", .ref a)] (by k_extra "nd") (fun l s => ∃ js, l = encs js ∧ s = stD st' X.w e (declFin X.wired X.env is (rows, [])) ∧ gds js = true)
    (fun _ _ _ => trivial) ?_ ?_ (by k_extra "sub") ⟨is, rfl, rfl, hg⟩
  · rintro x l s ⟨js, hl, rfl, hg'⟩
    cases js with
    | nil => cases hl
    | cons i js =>
      simp only [encs, List.cons.injEq] at hl
      obtain ⟨rfl, rfl⟩ := hl
      obtain ⟨hi, hgi, hgs⟩ := gds_cons hg'
      refine AS_name (by k_extra "put") ?_
      cases i
      case nop => exact absurd rfl hi
      all_goals
        simp only [Item.enc]
        refine SX_one ?_
        repeat k_extra "tb"
        exact ⟨by k_extra "sub", js, rfl, rfl, hgs⟩
  · rintro fr' s hs ⟨js, hl, rfl, -⟩
    refine SX_forget hs (by k_extra "nd") ?_
    rw [hfin, hD.stD_eq]
    refine SX_one ?_
    repeat k_extra "tb"
    have hc := hI { X with v := .ref a, c := ⟨a, dx, e, (declScope X.wired X.env is).2⟩ :: X.c } (st'.set e (.dict (encSc (declScope X.wired X.env is).2))) (rows ++ (declScope X.wired X.env is).1)
    have hE : envOfT (⟨a, dx, e, (declScope X.wired X.env is).2⟩ :: X.c) = (declScope X.wired X.env is).2 :: X.env := rfl
    simp only [Ctx.env, hE] at hc
    rw [show envOfT X.c = X.env from rfl] at hc
    refine ((hc _ (hD.toCX _) hg hw (by simp only [List.length_append]; k_extra "om") (PostC.of fun st2 g2 => ?_)).less (by k_extra "om")).call
    refine ⟨rfl, ?_⟩
    rw [List.append_assoc]
    exact h st2 ((gr _).trans g2)
noncomputable def Item.oth : Item → Bool
  | .nop => false
  | .block _ _ _ => false
  | .gif _ _ _ _ => false
  | .gcase _ _ _ _ _ => false
  | .cassign _ _ _ => true
  | .gate _ _ _ => true
  | .net _ _ => true
  | .var _ _ => true
  | .param _ _ => true
  | .event _ _ => true
  | .gfor _ _ _ _ _ => true
theorem ckBranch_oth (wired : Bool) (env : List Sc) {i : Item} (h : i.oth = true) : ckBranch wired env i = ckScope wired env [i] := by
  cases i <;> first | (exact absurd h Bool.false_ne_true) | simp [ckBranch]
theorem branch_spec_of (F : Facts B) {i : Item} (hS : ∀ is, wts is ≤ i.wt → ScopeSpec B F is) (hI : ∀ is, wts is ≤ i.wt → ItemsSpec B F is) : BranchSpec B F i := fun X st rows Q hX hg hw hz h => by
  refine SCode_at F (k := 35) (fr0 := ?fr) ["report", "table", "item"] (by kernel_rfl) rfl ?hb (by decide +kernel) (by kernel_rfl) (by kernel_rfl) ?hfr ?h
  k_extra "fn"
  intro C hsc hd
  have hw1 : wts [i] = i.wt := by simp [wts]
  cases hq : i
  case nop =>
    subst hq
    simp only [ckBranch, List.append_nil] at h hz
    simp only [Item.enc]
    refine SX_cons ?_
    repeat k_extra "tb"
    exact h _ .refl
  case block m l is =>
    subst hq
    simp only [ckBranch] at h hz
    simp only [Item.gd] at hg
    have e1 : (Item.block m l is).wt = wts is + 1 := by simp [Item.wt]
    simp only [Item.enc]
    refine SX_cons ?_
    repeat k_extra "tb"
    refine ((hS is (by k_extra "om") X _ rows _ hX hg (by k_extra "om") hz (PostC.of fun st' g => ?_)).less (by k_extra "om")).call
    refine ⟨rfl, ?_⟩
    repeat k_extra "tb"
    exact h _ g
  case gif m c x y =>
    subst hq
    simp only [ckBranch] at h hz
    have hc := hI [.gif m c x y] (by k_extra "om") X st rows
    simp only [ckItems, List.append_nil, encs, Item.enc, hw1] at hc
    simp only [Item.enc]
    refine SX_cons ?_
    repeat k_extra "tb"
    refine ((hc _ hX (by simpa [gds] using hg) (by k_extra "om") (by k_extra "om") (PostC.of fun st' g => ?_)).less (by k_extra "om")).call
    refine ⟨rfl, ?_⟩
    repeat k_extra "tb"
    exact h _ g
  case gcase m c l x y =>
    subst hq
    simp only [ckBranch] at h hz
    have hc := hI [.gcase m c l x y] (by k_extra "om") X st rows
    simp only [ckItems, List.append_nil, encs, Item.enc, hw1] at hc
    simp only [Item.enc]
    refine SX_cons ?_
    repeat k_extra "tb"
    refine ((hc _ hX (by simpa [gds] using hg) (by k_extra "om") (by k_extra "om") (PostC.of fun st' g => ?_)).less (by k_extra "om")).call
    refine ⟨rfl, ?_⟩
    repeat k_extra "tb"
    exact h _ g
  case cassign m t v =>
    subst hq
    rw [ckBranch_oth _ _ rfl] at h hz
    have hc := hS [.cassign m t v] (by k_extra "om") X st rows
    simp only [encs, Item.enc, hw1] at hc
    simp only [Item.enc]
    refine SX_cons ?_
    repeat k_extra "tb"
    refine ((hc _ hX (by simpa [gds] using hg) (by k_extra "om") hz (PostC.of fun st' g => ?_)).less (by k_extra "om")).call
    refine ⟨rfl, ?_⟩
    repeat k_extra "tb"
    exact h _ g
  case gate m t v =>
    subst hq
    rw [ckBranch_oth _ _ rfl] at h hz
    have hc := hS [.gate m t v] (by k_extra "om") X st rows
    simp only [encs, Item.enc, hw1] at hc
    simp only [Item.enc]
    refine SX_cons ?_
    repeat k_extra "tb"
    refine ((hc _ hX (by simpa [gds] using hg) (by k_extra "om") hz (PostC.of fun st' g => ?_)).less (by k_extra "om")).call
    refine ⟨rfl, ?_⟩
    repeat k_extra "tb"
    exact h _ g
  case net m n =>
    subst hq
    rw [ckBranch_oth _ _ rfl] at h hz
    have hc := hS [.net m n] (by k_extra "om") X st rows
    simp only [encs, Item.enc, hw1] at hc
    simp only [Item.enc]
    refine SX_cons ?_
    repeat k_extra "tb"
    refine ((hc _ hX (by simpa [gds] using hg) (by k_extra "om") hz (PostC.of fun st' g => ?_)).less (by k_extra "om")).call
    refine ⟨rfl, ?_⟩
    repeat k_extra "tb"
    exact h _ g
  case var m n =>
    subst hq
    rw [ckBranch_oth _ _ rfl] at h hz
    have hc := hS [.var m n] (by k_extra "om") X st rows
    simp only [encs, Item.enc, hw1] at hc
    simp only [Item.enc]
    refine SX_cons ?_
    repeat k_extra "tb"
    refine ((hc _ hX (by simpa [gds] using hg) (by k_extra "om") hz (PostC.of fun st' g => ?_)).less (by k_extra "om")).call
    refine ⟨rfl, ?_⟩
    repeat k_extra "tb"
    exact h _ g
  case param m n =>
    subst hq
    rw [ckBranch_oth _ _ rfl] at h hz
    have hc := hS [.param m n] (by k_extra "om") X st rows
    simp only [encs, Item.enc, hw1] at hc
    simp only [Item.enc]
    refine SX_cons ?_
    repeat k_extra "tb"
    refine ((hc _ hX (by simpa [gds] using hg) (by k_extra "om") hz (PostC.of fun st' g => ?_)).less (by k_extra "om")).call
    refine ⟨rfl, ?_⟩
    repeat k_extra "tb"
    exact h _ g
  case event m n =>
    subst hq
    rw [ckBranch_oth _ _ rfl] at h hz
    have hc := hS [.event m n] (by k_extra "om") X st rows
    simp only [encs, Item.enc, hw1] at hc
    simp only [Item.enc]
    refine SX_cons ?_
    repeat k_extra "tb"
    refine ((hc _ hX (by simpa [gds] using hg) (by k_extra "om") hz (PostC.of fun st' g => ?_)).less (by k_extra "om")).call
    refine ⟨rfl, ?_⟩
    repeat k_extra "tb"
    exact h _ g
  case gfor m n bm bl is =>
    subst hq
    rw [ckBranch_oth _ _ rfl] at h hz
    have hc := hS [.gfor m n bm bl is] (by k_extra "om") X st rows
    simp only [encs, Item.enc, hw1] at hc
    simp only [Item.enc]
    refine SX_cons ?_
    repeat k_extra "tb"
    refine ((hc _ hX (by simpa [gds] using hg) (by k_extra "om") hz (PostC.of fun st' g => ?_)).less (by k_extra "om")).call
    refine ⟨rfl, ?_⟩
    repeat k_extra "tb"
    exact h _ g

theorem all_specs (F : Facts B) : ∀ n, (∀ is, wts is ≤ n → ItemsSpec B F is ∧ ScopeSpec B F is) ∧ (∀ i : Item, i.wt ≤ n → BranchSpec B F i)
  | 0 => by
    have h1 : ∀ is, wts is ≤ 0 → ItemsSpec B F is := fun is h => items_spec_of F (fun js h2 => absurd h2 (by k_extra "om")) fun j h2 => absurd h2 (by k_extra "om")
    exact ⟨fun is h => ⟨h1 is h, scope_spec_of F (h1 is h)⟩, fun i h => absurd i.wt_pos (by k_extra "om")⟩
  | n + 1 => by
    obtain ⟨ih1, ih2⟩ := all_specs F n
    have h1 : ∀ is, wts is ≤ n + 1 → ItemsSpec B F is := fun is h => items_spec_of F (fun js h2 => (ih1 js (by k_extra "om")).2) fun j h2 => ih2 j (by k_extra "om")
    have h2 : ∀ is, wts is ≤ n + 1 → ScopeSpec B F is := fun is h => scope_spec_of F (h1 is h)
    exact ⟨fun is h => ⟨h1 is h, h2 is h⟩, fun i h => branch_spec_of F (fun is h3 => h2 is (by k_extra "om")) fun is h3 => h1 is (by k_extra "om")⟩
theorem check_scope_spec (F : Facts B) (is : List Item) : ScopeSpec B F is := ((all_specs F (wts is)).1 is (Nat.le_refl _)).2
end
section
variable {B : Base} {C : Cfg} {fr : Fr'} {st : St}

theorem RVs.ints {h : Heap} : ∀ {ns : List Int} {vs : List Value}, RVs h (ns.map V.int) vs → IntsAre vs ns
  | [], _, r => by simp only [List.map_nil, RVs] at r; subst r; exact .nil
  | n :: ns, _, r => by
    simp only [List.map_cons, RVs, RV] at r
    obtain ⟨v, q, rfl, ⟨t, rfl⟩, b⟩ := r
    exact .cons _ _ (RVs.ints b)
theorem shaped_ints (ns : List Int) : SeqAt.shaped (.list (ns.map PyData.int)) = true := by
  have h1 : ∀ ns : List Int, PyData.canLayAll0 (ns.map PyData.int) = true := fun ns => by
    induction ns with
    | nil => rfl
    | cons n ns ih => simp only [List.map_cons, PyData.canLayAll0, PyData.canLay0, Bool.true_and]; exact ih
  have h2 : ∀ ns : List Int, PyData.depthAll (ns.map PyData.int) ≤ 1 := fun ns => by
    induction ns with
    | nil => simp [PyData.depthAll]
    | cons n ns ih => simp only [List.map_cons, PyData.depthAll, PyData.depth]; k_extra "om"
  unfold SeqAt.shaped
  have h3 := h2 ns
  have h4 : (PyData.list (ns.map PyData.int)).depth ≤ 64 := by simp only [PyData.depth]; k_extra "om"
  rw [decide_eq_true h4]
  simp only [PyData.canLay0, h1, Bool.true_and]
theorem Nat.lt_of_ble {a b : Nat} (h : Nat.ble (a + 1) b = true) : a < b := Nat.le_of_ble_eq_true h
theorem SC_eq_nil {a b : Addr} {ns : List Int} {Qt Qf : St → Prop} (hd : 1 ≤ C.d) (ha : IsL st a (ns.map V.int)) (hb : IsL st b []) (h1 : ns = [] → Qt st) (h2 : ns ≠ [] → Qf st) : SC B C .Eq (.ref a) (.ref b) st Qt Qf := fun s v u ok I r1 r2 => by
  simp only [RV] at r1 r2
  subst r1 r2
  obtain ⟨xs, ⟨oa, ga, ca, na, da⟩, ra⟩ := ha.rep I
  obtain ⟨ys, ⟨ob, gb, cb, nb, db⟩, rb⟩ := hb.rep I
  have rb' : ys = [] := by simpa only [RVs] using rb
  subst rb'
  have hu := ok.room.units
  refine eq_dataH (reads_list_at ga ca da (xs := ns.map PyData.int) (by simpa using ints_readAll _ ra.ints)) (reads_list_at gb cb db (xs := []) (by simpa using ReadsAll.nil)) (shaped_ints ns) (shaped_ints []) (by k_extra "om") ⟨_, rfl, ?_⟩
  refine postB_of I (fun e => ?_) fun e => ?_
  · cases ns with
    | nil => exact h1 rfl
    | cons n ns => simp [PyData.eqv, PyData.eqvAll] at e
  · cases ns with
    | nil => simp [PyData.eqv, PyData.eqvAll] at e
    | cons n ns => exact h2 (by simp)

theorem meth_pop {a : Addr} {l : List V} (ha : st a = some (.list l)) {pl : Sem Bool} : ∀ s v (P : Value × List Value → Shared → Prop), Inv B s st → RV s.heap (.ref a) v → P (.builtin "list.pop", [v]) s → wpAny (Mod B) C.A (getMethod v "pop" pl) P Bad s := fun s v P I r h => by
  simp only [RV] at r
  subst r
  obtain ⟨_, vs, n, g, rs⟩ := I.tr _ _ ha
  exact getMethod_builtin ⟨_, g, rfl⟩ PySem.F.plainAttrs_list PySem.F.slot_list_pop PySem.F.type_list_pop (fun a e => by cases e; exact ⟨_, g, rfl⟩) h
/-- o.pop(0) -/
theorem SE_pop0 {o e : Expr} {p1 pos : Pos} {pl : Sem Bool} {Q : V → St → Prop} (h : SE B C fr o st fun x st1 => ∃ a, x = .ref a ∧ (∃ l, st1 a = some (.list l)) ∧ SE B C fr e st1 fun y st2 => ∃ z l, y = .int 0 ∧ st2 a = some (.list (z :: l)) ∧ l.length ≤ 1000000 ∧ Q z (st2.set a (.list l)))
    (hs : isStarred e = false)
    (he : eval (.Call (.Attribute o "pop" p1) [e] [] pos) C.env = (do
      let ov ← eval o C.env
      standAt p1.atName
      let (f, first) ← holding [ov] (getMethod ov "pop" pl)
      callWith pos f first (backTo pos (starEach [e] C.env)) [])) : SE B C fr (.Call (.Attribute o "pop" p1) [e] [] pos) st Q :=
  SE_meth (pl := pl) (h.mono fun x st1 ⟨a, hx, ⟨l, hl⟩, h1⟩ => by
    subst hx
    refine ⟨.builtin "list.pop", plain_builtin _, meth_pop hl, SEs_cons (h1.mono fun y st2 ⟨z, l2, hy, hl2, hz, hq⟩ => by subst hy; exact SEs_nil (popFirst hl2 hz hq)) (by intro env; cases e <;> first | rfl | (simp [isStarred] at hs))⟩) (by simp [hs]) he

noncomputable def wdD (f : Addr) (k room : Int) : List (PySem.Str × V) := [("feed", .ref f), ("at", .int k), ("room", .int room)]
/-- the world of the drawing -/
structure Wld (st : St) (wd f c : Addr) (room : Int) : Prop where
  wd : ∃ k : Int, st wd = some (.dict (wdD f k room))
  f : ∃ a b : Int, IsL st f [.ref c, .int a, .int b] ∧ 0 ≤ b ∧ b < 2 ^ 31
  c : ∃ ns : List Int, st c = some (.list (ns.map V.int)) ∧ ns.length ≤ 1000
theorem Wld.fc {wd f c : Addr} {room : Int} (W : Wld st wd f c room) : f ≠ c := fun e => by
  subst e
  obtain ⟨a, b, h, _⟩ := W.f
  obtain ⟨ns, hc, _⟩ := W.c
  rcases h with h | h <;> rw [hc] at h
  · simp only [Option.some.injEq, MObj.list.injEq] at h
    cases ns with
    | nil => cases h
    | cons n ns => simp only [List.map_cons, List.cons.injEq] at h; cases h.1
  · cases h
theorem Wld.wf {wd f c : Addr} {room : Int} (W : Wld st wd f c room) : wd ≠ f ∧ wd ≠ c := by
  obtain ⟨k, hk⟩ := W.wd
  obtain ⟨a, b, h, _⟩ := W.f
  obtain ⟨ns, hc, _⟩ := W.c
  refine ⟨fun e => ?_, fun e => ?_⟩
  · subst e; rcases h with h | h <;> rw [hk] at h <;> cases h
  · subst e; rw [hk] at hc; cases hc
/-- everything but the world is kept -/
noncomputable def GrowW (wd f c : Addr) (sA sB : St) : Prop := ∀ b m, sA b = some m → b ≠ wd → b ≠ f → b ≠ c → sB b = some m
theorem GrowW.refl {wd f c : Addr} : GrowW wd f c st st := fun _ _ h _ _ _ => h
theorem GrowW.trans {wd f c : Addr} {s1 s2 s3 : St} (a : GrowW wd f c s1 s2) (b : GrowW wd f c s2 s3) : GrowW wd f c s1 s3 := fun x m h h1 h2 h3 => b x m (a x m h h1 h2 h3) h1 h2 h3

theorem law_pick_spec (F : Facts B) {wd f c : Addr} {room : Int} {many : Int} {Q : V → St → Prop} (W : Wld st wd f c room) (hm : 0 < many) (hm2 : many < 1000)
    (h : ∀ (r : Int) st', 0 ≤ r → r < many → Wld st' wd f c room → GrowW wd f c st st' → Q (.int r) st') : SCode B 2 (gval B "_law_pick") [.ref f, .int many] st Q := by
  refine SCode_at F (k := 42) (fr0 := ?fr) ["feed", "many"] (by kernel_rfl) rfl ?hb (by decide +kernel) (by kernel_rfl) (by kernel_rfl) ?hfr ?h
  k_extra "fn"
  intro C hsc hd
  have hfc := W.fc
  obtain ⟨hwf, hwc⟩ := W.wf
  obtain ⟨k, hk⟩ := W.wd
  obtain ⟨a, b, hf, hb0, hb1⟩ := W.f
  obtain ⟨ns, hc, hns⟩ := W.c
  -- the tail
  have tail : ∀ (a : Int) (st1 : St), IsL st1 f [.ref c, .int a, .int b] ∨ (∃ b', IsL st1 f [.ref c, .int a, .int b'] ∧ 0 ≤ b' ∧ b' < 2 ^ 31) → st1 wd = st wd → (∃ ns : List Int, st1 c = some (.list (ns.map V.int)) ∧ ns.length ≤ 1000) → GrowW wd f c st st1 →
      SX B C [("feed", .ref f), ("many", .int many)] ((fBody (top 42)).drop 1) st1 (fun _ st' => Q .none st') Q := by
    intro a st1 hf1 hw1 hc1 g1
    obtain ⟨b', hf1, hb0', hb1'⟩ : ∃ b', IsL st1 f [.ref c, .int a, .int b'] ∧ 0 ≤ b' ∧ b' < 2 ^ 31 := by
      rcases hf1 with h | h
      · exact ⟨b, h, hb0, hb1⟩
      · exact h
    refine SX_cons ?_
    repeat k_extra "tb"
    refine Idx.list hf1 (by decide) (by decide) rfl ?_
    repeat k_extra "tb"
    refine SCall_int ?_
    repeat k_extra "tb"
    refine SOp_mod (by k_extra "om") ?_
    repeat k_extra "tb"
    refine SX1_setItem ?_ rfl
    repeat k_extra "tb"
    refine Idx.list hf1 (by decide) (by decide) rfl ?_
    repeat k_extra "tb"
    refine SOp_div hm (by k_extra "om") ?_
    repeat k_extra "tb"
    refine .inr ⟨f, _, 1, rfl, rfl, hf1, by decide, by decide, Nat.lt_of_ble rfl, ?_⟩
    repeat k_extra "tb"
    refine h _ _ (Int.fmod_nonneg_of_pos _ hm) (Int.fmod_lt_of_pos _ hm) ⟨⟨k, ?_⟩, ⟨a.fdiv many, b', .inr (by simp), hb0', hb1'⟩, ?_⟩ ?_
    · rw [St.set_ne _ _ hwf, hw1]; exact hk
    · obtain ⟨ns', h1, h2⟩ := hc1
      exact ⟨ns', by rw [St.set_ne _ _ (Ne.symm hfc)]; exact h1, h2⟩
    · intro x m hx h1 h2 h3
      rw [St.set_ne _ _ h2]; exact g1 x m hx h1 h2 h3
  refine SX_cons ?_
  repeat k_extra "tb"
  refine Idx.list hf (by decide) (by decide) rfl ?_
  repeat k_extra "tb"
  refine SC_eq_int (fun ha => ?_) (fun ha => ?_)
  · repeat k_extra "tb"
    refine Idx.list hf (by decide) (by decide) rfl ?_
    repeat k_extra "tb"
    refine SE_List (SEs_nil ⟨by decide, fun e he => ?_⟩)
    have hec : c ≠ e := fun q => by subst q; rw [hc] at he; cases he
    have hef : f ≠ e := fun q => by subst q; rcases hf with hf | hf <;> rw [hf] at he <;> cases he
    have hew : wd ≠ e := fun q => by subst q; rw [hk] at he; cases he
    have hc' : (st.set e (.list [])) c = some (.list (ns.map V.int)) := by rw [St.set_ne _ _ hec]; exact hc
    have hf' : IsL (st.set e (.list [])) f [.ref c, .int a, .int b] := by unfold IsL; rw [St.set_ne _ _ hef]; exact hf
    have g' : GrowW wd f c st (st.set e (.list [])) := fun x m hx _ _ _ => by rw [St.set_ne _ _ (fun q => by subst q; rw [he] at hx; cases hx)]; exact hx
    refine SC_eq_nil (by k_extra "om") (.inl hc') (.inl (by simp)) (fun hn => ?_) (fun hn => ?_)
    · repeat k_extra "tb"
      refine SX1_setItem ?_ rfl
      repeat k_extra "tb"
      refine Idx.list hf' (by decide) (by decide) rfl ?_
      repeat k_extra "tb"
      refine SCall_int ?_
      repeat k_extra "tb"
      refine SOp_mul hb0 (by k_extra "om") (by decide) (by decide) ?_
      repeat k_extra "tb"
      refine SOp_mod (by decide) ?_
      repeat k_extra "tb"
      refine .inr ⟨f, _, 2, rfl, rfl, hf', by decide, by decide, Nat.lt_of_ble rfl, ?_⟩
      refine SX_one ?_
      refine SX1_setItem ?_ rfl
      repeat k_extra "tb"
      refine Idx.list (l := [.ref c, .int a, .int ((b * 48271).fmod 2147483647)]) (.inr (by simp)) (by decide) (by decide) rfl ?_
      repeat k_extra "tb"
      refine SOp_div (by decide) (by decide) ?_
      repeat k_extra "tb"
      refine .inr ⟨f, [.ref c, .int a, .int ((b * 48271).fmod 2147483647)], 1, rfl, rfl, .inr (by simp), by decide, by decide, Nat.lt_of_ble rfl, ?_⟩
      refine tail (((b * 48271).fmod 2147483647).fdiv 5) _ (.inr ⟨(b * 48271).fmod 2147483647, .inr (by simp), Int.fmod_nonneg_of_pos _ (by decide), ?_⟩) ?_ ⟨ns, ?_, hns⟩ ?_
      · have := Int.fmod_lt_of_pos (b * 48271) (show (0 : Int) < 2147483647 by decide); k_extra "om"
      · rw [St.set_ne _ _ hwf, St.set_ne _ _ hwf, St.set_ne _ _ hew]
      · rw [St.set_ne _ _ (Ne.symm hfc), St.set_ne _ _ (Ne.symm hfc)]; exact hc'
      · intro x m hx h1 h2 h3
        rw [St.set_ne _ _ h2, St.set_ne _ _ h2]; exact g' x m hx h1 h2 h3
    · cases ns with
      | nil => exact absurd rfl hn
      | cons n ns =>
        refine SX_one ?_
        refine SX1_setItem ?_ rfl
        refine SE_pop0 ?_ rfl rfl
        repeat k_extra "tb"
        refine Idx.list hf' (by decide) (by decide) rfl ?_
        refine ⟨c, rfl, ⟨_, hc'⟩, ?_⟩
        repeat k_extra "tb"
        refine ⟨.int n, ns.map V.int, rfl, hc', by simp at hns ⊢; k_extra "om", ?_⟩
        repeat k_extra "tb"
        have hf2 : IsL ((st.set e (.list [])).set c (.list (ns.map V.int))) f [.ref c, .int a, .int b] := by unfold IsL; rw [St.set_ne _ _ hfc]; exact hf'
        refine .inr ⟨f, _, 1, rfl, rfl, hf2, by decide, by decide, Nat.lt_of_ble rfl, ?_⟩
        refine tail n _ (.inl (.inr (by simp))) ?_ ⟨ns, ?_, by simp at hns; k_extra "om"⟩ ?_
        · rw [St.set_ne _ _ hwf, St.set_ne _ _ hwc, St.set_ne _ _ hew]
        · rw [St.set_ne _ _ (Ne.symm hfc)]; simp
        · intro x m hx h1 h2 h3
          rw [St.set_ne _ _ h2, St.set_ne _ _ h3]; exact g' x m hx h1 h2 h3
  · refine SX_nil ?_
    exact tail a st (.inl hf) rfl ⟨ns, hc, hns⟩ .refl
end
section
variable {B : Base} {C : Cfg} {fr : Fr'} {st : St}

/-! names that a comparison can read -/
noncomputable def okS (n : PySem.Str) : Bool := PyData.strOk n
noncomputable def okL : Option PySem.Str → Bool
  | none => true
  | some n => okS n
noncomputable def Use.nm (u : Use) : Bool := okS u.n
noncomputable def Ex.nm : Ex → Bool
  | .num => true
  | .id u => u.nm
  | .cat _ u v => u.nm && v.nm
  | .un _ u => u.nm
noncomputable def Tg.nm (t : Tg) : Bool := t.ex.nm
mutual
noncomputable def Item.nm : Item → Bool
  | .nop => true
  | .cassign _ t v => t.nm && v.nm
  | .gate _ t v => t.nm && v.nm
  | .net _ n => okS n
  | .var _ n => okS n
  | .param _ n => okS n
  | .event _ n => okS n
  | .block _ l is => okL l && nms is
  | .gfor _ g _ bl is => okS g && okL bl && nms is
  | .gcase _ c l x y => c.nm && l.nm && x.nm && y.nm
  | .gif _ c x y => c.nm && x.nm && y.nm
noncomputable def nms : List Item → Bool
  | [] => true
  | i :: is => i.nm && nms is
end

/-! the drawing -/
theorem law_mark_spec (F : Facts B) {wd f c : Addr} {room : Int} {Q : V → St → Prop} (W : Wld st wd f c room) (h : ∀ (m : Int) st', Wld st' wd f c room → GrowW wd f c st st' → Q (.int m) st') : SCode B 1 (gval B "_law_mark") [.ref wd] st Q := by
  refine SCode_at F (k := 43) (fr0 := ?fr) ["world"] (by kernel_rfl) rfl ?hb (by decide +kernel) (by kernel_rfl) (by kernel_rfl) ?hfr ?h
  k_extra "fn"
  intro C hsc hd
  obtain ⟨hwf, hwc⟩ := W.wf
  obtain ⟨k, hk⟩ := W.wd
  refine SX_cons ?_
  refine SX1_setItem ?_ rfl
  repeat k_extra "tb"
  refine Idx.dict hk rfl ?_
  repeat k_extra "tb"
  refine SOp_add ?_
  repeat k_extra "tb"
  refine .inl ⟨wd, _, _, rfl, rfl, hk, Nat.le_of_ble_eq_true rfl, ?_⟩
  have hs : storeD (wdD f k room) ("at" : PySem.Str) (.int (k + 2)) = wdD f (k + 2) room := by rfl
  rw [hs]
  repeat k_extra "tb"
  refine Idx.dict (d := wdD f (k + 2) room) (by simp) rfl ?_
  refine h _ _ ⟨⟨k + 2, by simp⟩, ?_, ?_⟩ fun x m hx h1 h2 h3 => by rw [St.set_ne _ _ h1]; exact hx
  · obtain ⟨a, b, hf, hb⟩ := W.f
    exact ⟨a, b, by unfold IsL; rw [St.set_ne _ _ (Ne.symm hwf)]; exact hf, hb⟩
  · obtain ⟨ns, hc, hn⟩ := W.c
    exact ⟨ns, by rw [St.set_ne _ _ (Ne.symm hwc)]; exact hc, hn⟩

/-- world['feed'] -/
theorem Wld.feed {wd f c : Addr} {room : Int} (W : Wld st wd f c room) {P : V → Prop} (h : P (.ref f)) : Idx st (.ref wd) (.str (S "feed")) P := let ⟨_, hk⟩ := W.wd; Idx.dict hk rfl h
theorem Wld.roomI {wd f c : Addr} {room : Int} (W : Wld st wd f c room) {P : V → Prop} (h : P (.int room)) : Idx st (.ref wd) (.str (S "room")) P := let ⟨_, hk⟩ := W.wd; Idx.dict hk rfl h
theorem Wld.tracked {wd f c : Addr} {room : Int} (W : Wld st wd f c room) {a : Addr} (h : st a = none) : a ≠ wd ∧ a ≠ f ∧ a ≠ c := by
  obtain ⟨k, hk⟩ := W.wd
  obtain ⟨x, y, hf, _⟩ := W.f
  obtain ⟨ns, hc, _⟩ := W.c
  refine ⟨fun e => ?_, fun e => ?_, fun e => ?_⟩
  · subst e; rw [hk] at h; cases h
  · subst e; rcases hf with hf | hf <;> rw [hf] at h <;> cases h
  · subst e; rw [hc] at h; cases h
theorem Wld.alloc {wd f c : Addr} {room : Int} (W : Wld st wd f c room) {a : Addr} {m : MObj} (h : st a = none) : Wld (st.set a m) wd f c room := by
  obtain ⟨h1, h2, h3⟩ := W.tracked h
  obtain ⟨k, hk⟩ := W.wd
  obtain ⟨x, y, hf, hb⟩ := W.f
  obtain ⟨ns, hc, hn⟩ := W.c
  exact ⟨⟨k, by rw [St.set_ne _ _ (Ne.symm h1)]; exact hk⟩, ⟨x, y, by unfold IsL; rw [St.set_ne _ _ (Ne.symm h2)]; exact hf, hb⟩, ⟨ns, by rw [St.set_ne _ _ (Ne.symm h3)]; exact hc, hn⟩⟩
theorem GrowW.alloc {wd f c : Addr} {a : Addr} {m : MObj} (h : st a = none) : GrowW wd f c st (st.set a m) := fun x q hx _ _ _ => by
  rw [St.set_ne _ _ (fun e => by subst e; rw [h] at hx; cases hx)]; exact hx

theorem law_name_spec (F : Facts B) {wd f c : Addr} {room : Int} {Q : V → St → Prop} (W : Wld st wd f c room) (h : ∀ (n : PySem.Str) st', okS n = true → Wld st' wd f c room → GrowW wd f c st st' → Q (.str n) st') : SCode B 3 (gval B "_law_name") [.ref wd] st Q := by
  refine SCode_at F (k := 44) (fr0 := ?fr) ["world"] (by kernel_rfl) rfl ?hb (by decide +kernel) (by kernel_rfl) (by kernel_rfl) ?hfr ?h
  k_extra "fn"
  intro C hsc hd
  refine SX_one ?_
  repeat k_extra "tb"
  refine SE_List ?_
  repeat k_extra "tb"
  intro e he
  repeat k_extra "tb"
  refine (W.alloc he).feed ?_
  repeat k_extra "tb"
  refine ((law_pick_spec F (W.alloc he) (by decide) (by decide) (fun r st' h0 h6 W' g => ?_)).less (by k_extra "om")).call
  obtain ⟨t1, t2, t3⟩ := W.tracked he
  have hl : IsL st' e [.str "n", .str "v", .str "p", .str "e", .str "L", .str "M"] := .inl (g e _ (by simp) t1 t2 t3)
  have hcs : r = 0 ∨ r = 1 ∨ r = 2 ∨ r = 3 ∨ r = 4 ∨ r = 5 := by k_extra "om"
  rcases hcs with e1 | e1 | e1 | e1 | e1 | e1 <;> subst e1 <;> exact Idx.list hl (by decide) (by decide) rfl (h _ _ (by decide +kernel) W' ((GrowW.alloc he).trans g))
theorem law_use_spec (F : Facts B) {wd f c : Addr} {room : Int} {Q : V → St → Prop} (W : Wld st wd f c room) (h : ∀ (u : Use) st', u.nm = true → Wld st' wd f c room → GrowW wd f c st st' → Q u.enc st') : SCode B 4 (gval B "_law_use") [.ref wd] st Q := by
  refine SCode_at F (k := 45) (fr0 := ?fr) ["world"] (by kernel_rfl) rfl ?hb (by decide +kernel) (by kernel_rfl) (by kernel_rfl) ?hfr ?h
  k_extra "fn"
  intro C hsc hd
  refine SX_one ?_
  repeat k_extra "tb"
  refine ((law_mark_spec F W (fun m st1 W1 g1 => ?_)).less (by k_extra "om")).call
  repeat k_extra "tb"
  refine ((law_name_spec F W1 (fun n st2 hn W2 g2 => ?_)).less (by k_extra "om")).call
  repeat k_extra "tb"
  exact h ⟨m, n⟩ _ hn W2 (g1.trans g2)
theorem law_end_spec (F : Facts B) {wd f c : Addr} {room : Int} {Q : V → St → Prop} (W : Wld st wd f c room) (h : ∀ (t : Tg) st', t.nm = true → Wld st' wd f c room → GrowW wd f c st st' → Q t.ex.enc st') : SCode B 5 (gval B "_law_end") [.ref wd] st Q := by
  refine SCode_at F (k := 46) (fr0 := ?fr) ["world"] (by kernel_rfl) rfl ?hb (by decide +kernel) (by kernel_rfl) (by kernel_rfl) ?hfr ?h
  k_extra "fn"
  intro C hsc hd
  refine SX_cons ?_
  repeat k_extra "tb"
  refine W.feed ?_
  repeat k_extra "tb"
  refine ((law_pick_spec F W (by decide) (by decide) (fun r st1 h0 h6 W1 g1 => ?_)).less (by k_extra "om")).call
  repeat k_extra "tb"
  refine SC_eq_int (fun _ => ?_) (fun _ => ?_)
  · repeat k_extra "tb"
    refine ((law_mark_spec F W1 (fun m st2 W2 g2 => ?_)).less (by k_extra "om")).call
    repeat k_extra "tb"
    refine ((law_use_spec F W2 (fun u st3 hu W3 g3 => ?_)).less (by k_extra "om")).call
    repeat k_extra "tb"
    refine ((law_use_spec F W3 (fun v st4 hv W4 g4 => ?_)).less (by k_extra "om")).call
    repeat k_extra "tb"
    exact h (.cat m u v) _ (by simp [Tg.nm, Tg.ex, Ex.nm, hu, hv]) W4 (((g1.trans g2).trans g3).trans g4)
  · repeat k_extra "tb"
    refine ((law_use_spec F W1 (fun u st2 hu W2 g2 => ?_)).less (by k_extra "om")).call
    exact h (.id u) _ hu W2 (g1.trans g2)
theorem law_value_spec (F : Facts B) {wd f c : Addr} {room : Int} {Q : V → St → Prop} (W : Wld st wd f c room) (h : ∀ (x : Ex) st', x.nm = true → Wld st' wd f c room → GrowW wd f c st st' → Q x.enc st') : SCode B 6 (gval B "_law_value") [.ref wd] st Q := by
  refine SCode_at F (k := 47) (fr0 := ?fr) ["world"] (by kernel_rfl) rfl ?hb (by decide +kernel) (by kernel_rfl) (by kernel_rfl) ?hfr ?h
  k_extra "fn"
  intro C hsc hd
  refine SX_cons ?_
  repeat k_extra "tb"
  refine W.feed ?_
  repeat k_extra "tb"
  refine ((law_pick_spec F W (by decide) (by decide) (fun r st1 h0 h6 W1 g1 => ?_)).less (by k_extra "om")).call
  repeat k_extra "tb"
  refine SC_eq_int (fun _ => ?_) (fun _ => ?_)
  · repeat k_extra "tb"
    refine ((law_mark_spec F W1 (fun m st2 W2 g2 => ?_)).less (by k_extra "om")).call
    repeat k_extra "tb"
    refine ((law_use_spec F W2 (fun u st3 hu W3 g3 => ?_)).less (by k_extra "om")).call
    repeat k_extra "tb"
    exact h (.un m u) _ hu W3 ((g1.trans g2).trans g3)
  · repeat k_extra "tb"
    refine ((law_end_spec F W1 (fun t st2 ht W2 g2 => ?_)).less (by k_extra "om")).call
    exact h t.ex _ ht W2 (g1.trans g2)
end
section
variable {B : Base} {C : Cfg} {fr : Fr'} {st : St}

noncomputable def ItemP (B : Base) (n : Nat) : Prop := ∀ (st : St) (wd f c : Addr) (room : Int) (Q : V → St → Prop), Wld st wd f c room → 1 ≤ room → room ≤ 10 →
  (∀ (i : Item) (room' : Int) st', i ≠ .nop → i.gd = true → i.nm = true → (i.wt : Int) ≤ 4 * (room - room') → 0 ≤ room' → Wld st' wd f c room' → GrowW wd f c st st' → Q i.enc st') → SCode B (8 * n + 8) (gval B "_law_item") [.ref wd, .int n] st Q
noncomputable def ItemsP (B : Base) (n : Nat) : Prop := ∀ (st : St) (wd f c : Addr) (room most : Int) (Q : V → St → Prop), Wld st wd f c room → 0 ≤ room → room ≤ 10 → 0 ≤ most → most ≤ 10 →
  (∀ (is : List Item) (room' : Int) st', gds is = true → nms is = true → (wts is : Int) ≤ 4 * (room - room') → 0 ≤ room' → Wld st' wd f c room' → GrowW wd f c st st' → Q (.tup (encs is)) st') → SCode B (8 * n + 9) (gval B "_law_items") [.ref wd, .int n, .int most] st Q
noncomputable def BlockP (B : Base) (n : Nat) : Prop := ∀ (st : St) (wd f c : Addr) (room : Int) (Q : V → St → Prop), Wld st wd f c room → 0 ≤ room → room ≤ 10 →
  (∀ (m : Int) (l : Option PySem.Str) (is : List Item) (room' : Int) st', okL l = true → gds is = true → nms is = true → (wts is : Int) ≤ 4 * (room - room') → 0 ≤ room' → Wld st' wd f c room' → GrowW wd f c st st' → Q (Item.block m l is).enc st') → SCode B (8 * n + 2) (gval B "_law_block") [.ref wd, .int n] st Q
noncomputable def BranchP (B : Base) (n : Nat) : Prop := ∀ (st : St) (wd f c : Addr) (room : Int) (Q : V → St → Prop), Wld st wd f c room → 0 ≤ room → room ≤ 10 →
  (∀ (i : Item) (room' : Int) st', i.gd = true → i.nm = true → (i.wt : Int) ≤ 1 + 4 * (room - room') → 0 ≤ room' → Wld st' wd f c room' → GrowW wd f c st st' → Q i.enc st') → SCode B (8 * n + 3) (gval B "_law_branch") [.ref wd, .int n] st Q

theorem encs_append (is js : List Item) : encs (is ++ js) = encs is ++ encs js := by
  induction is with
  | nil => rfl
  | cons i is ih => simp only [List.cons_append, encs, ih]
theorem wts_append (is js : List Item) : wts (is ++ js) = wts is + wts js := by
  induction is with
  | nil => simp [wts]
  | cons i is ih => simp only [List.cons_append, wts, ih]; k_extra "om"
theorem gds_append {is : List Item} {i : Item} (h : gds is = true) (hi : i ≠ .nop) (hg : i.gd = true) : gds (is ++ [i]) = true := by
  induction is with
  | nil =>
    cases i <;> first | (exact absurd rfl hi) | simpa [gds] using hg
  | cons j is ih =>
    simp only [gds, Bool.and_eq_true] at h
    simp only [List.cons_append, gds, Bool.and_eq_true]
    exact ⟨h.1, ih h.2⟩
theorem nms_append {is : List Item} {i : Item} (h : nms is = true) (hi : i.nm = true) : nms (is ++ [i]) = true := by
  induction is with
  | nil => simpa [nms] using hi
  | cons j is ih =>
    simp only [nms, Bool.and_eq_true] at h
    simp only [List.cons_append, nms, Bool.and_eq_true]
    exact ⟨h.1, ih h.2⟩
theorem encs_length (is : List Item) : (encs is).length ≤ wts is := by
  induction is with
  | nil => simp [encs, wts]
  | cons i is ih => have := i.wt_pos; simp only [encs, wts, List.length_cons]; k_extra "om"

theorem items_of (F : Facts B) {n : Nat} (hI : ItemP B n) : ItemsP B n := fun st wd f c room most Q W h0 h10 hm0 hm h => by
  refine SCode_at F (k := 48) (fr0 := ?fr) ["world", "depth", "most"] (by kernel_rfl) rfl ?hb (by decide +kernel) (by kernel_rfl) (by kernel_rfl) ?hfr ?h
  k_extra "fn"
  intro C hsc hd
  refine SX_cons ?_
  repeat k_extra "tb"
  refine SE_List ?_
  repeat k_extra "tb"
  intro e he
  repeat k_extra "tb"
  refine SX1_for_range ?_ (by intro _; rfl)
  repeat k_extra "tb"
  refine SCall_range ?_
  refine ⟨_, rfl, by k_extra "om", by k_extra "om", ?_⟩
  refine Loop.invF [("world", .ref wd), ("depth", .int n), ("most", .int most), ("items", .ref e)] (by k_extra "nd") (fun l s => ∃ (is : List Item) (room' : Int), s e = some (.list (encs is)) ∧ gds is = true ∧ nms is = true ∧ (wts is : Int) ≤ 4 * (room - room') ∧ 0 ≤ room' ∧ room' ≤ room ∧ Wld s wd f c room' ∧ GrowW wd f c st s)
    (fun _ _ _ => trivial) ?_ ?_ (by k_extra "sub") ⟨[], room, by simp [encs], rfl, rfl, by simp [wts], h0, Int.le_refl _, W.alloc he, .alloc he⟩
  · rintro x l s ⟨is, room', hs, hg, hn, hw, hr0, hr, W', g⟩
    refine AS_name (by k_extra "put") ?_
    refine SX_one ?_
    repeat k_extra "tb"
    refine W'.roomI ?_
    repeat k_extra "tb"
    refine SC_gt_int (fun hp => ?_) (fun _ => ?_)
    · refine SX_one ?_
      refine SX1_expr (SE_append ?_)
      repeat k_extra "tb"
      refine ⟨e, rfl, ⟨_, hs⟩, ?_⟩
      repeat k_extra "tb"
      refine ((hI s wd f c room' _ W' (by k_extra "om") (by k_extra "om") (fun i room2 st2 hi hgi hni hwi hr2 W2 g2 => ?_)).less (by k_extra "om")).call
      obtain ⟨t1, t2, t3⟩ := W.tracked he
      have hs2 := g2 e _ hs t1 t2 t3
      refine ⟨_, hs2, by have := encs_length is; k_extra "om", rfl, ?_⟩
      have e1 : encs is ++ [i.enc] = encs (is ++ [i]) := by rw [encs_append]; rfl
      rw [e1]
      refine ⟨by k_extra "sub", is ++ [i], room2, by simp, gds_append hg hi hgi, nms_append hn hni, ?_, hr2, by have := i.wt_pos; k_extra "om", ⟨?_, ?_, ?_⟩, ?_⟩
      · rw [wts_append]; simp only [wts]; k_extra "om"
      · obtain ⟨k, hk⟩ := W2.wd; exact ⟨k, by rw [St.set_ne _ _ (Ne.symm t1)]; exact hk⟩
      · obtain ⟨x, y, hf, hb⟩ := W2.f; exact ⟨x, y, by unfold IsL; rw [St.set_ne _ _ (Ne.symm t2)]; exact hf, hb⟩
      · obtain ⟨ns, hc, hb⟩ := W2.c; exact ⟨ns, by rw [St.set_ne _ _ (Ne.symm t3)]; exact hc, hb⟩
      · intro y m hy a1 a2 a3
        rw [St.set_ne _ _ (fun q => by subst q; rw [he] at hy; cases hy)]
        exact (g.trans g2) y m hy a1 a2 a3
    · repeat k_extra "tb"
      exact ⟨by k_extra "sub", is, room', hs, hg, hn, hw, hr0, hr, W', g⟩
  · rintro fr' s hs ⟨is, room', hse, hg, hn, hw, hr0, hr, W', g⟩
    refine SX_forget hs (by k_extra "nd") ?_
    refine SX_one ?_
    repeat k_extra "tb"
    refine SCall_tuple (.inl hse) (by have := encs_length is; k_extra "om") ?_
    exact h is room' s hg hn hw hr0 W' g

theorem block_of (F : Facts B) {n : Nat} (hI : ItemsP B n) : BlockP B (n + 1) := fun st wd f c room Q W h0 h10 h => by
  refine SCode_at F (k := 49) (fr0 := ?fr) ["world", "depth"] (by kernel_rfl) rfl ?hb (by decide +kernel) (by kernel_rfl) (by kernel_rfl) ?hfr ?h
  k_extra "fn"
  intro C hsc hd
  have en : ((n + 1 : Nat) : Int) - 1 = (n : Nat) := by k_extra "om"
  refine SX_cons ?_
  repeat k_extra "tb"
  refine ((law_mark_spec F W (fun m st1 W1 g1 => ?_)).less (by k_extra "om")).call
  repeat k_extra "tb"
  refine SE_List ?_
  repeat k_extra "tb"
  intro e he
  repeat k_extra "tb"
  refine (W1.alloc he).feed ?_
  repeat k_extra "tb"
  refine ((law_pick_spec F (W1.alloc he) (by decide) (by decide) (fun r st2 hr0 hr4 W2 g2 => ?_)).less (by k_extra "om")).call
  obtain ⟨t1, t2, t3⟩ := W1.tracked he
  have hl : IsL st2 e [.str "L", .none, .str "M", .str "n"] := .inl (g2 e _ (by simp) t1 t2 t3)
  have g12 := g1.trans ((GrowW.alloc he).trans g2)
  have rest : ∀ (l : Option PySem.Str), okL l = true → SX B C [("world", .ref wd), ("depth", .int (n + 1 : Nat)), ("mark", .int m), ("label", encLab l)] ((fBody (top 49)).drop 2) st2 (fun _ st' => Q .none st') Q := by
    intro l hl
    refine SX_one ?_
    repeat k_extra "tb"
    refine SOp_sub ?_
    rw [en]
    repeat k_extra "tb"
    refine W2.feed ?_
    repeat k_extra "tb"
    refine ((law_pick_spec F W2 (by decide) (by decide) (fun r2 st3 hq0 hq4 W3 g3 => ?_)).less (by k_extra "om")).call
    repeat k_extra "tb"
    refine ((hI st3 wd f c room r2 _ W3 h0 h10 hq0 (by k_extra "om") (fun is room' st4 hg hn hw hr' W4 g4 => ?_)).less (by k_extra "om")).call
    repeat k_extra "tb"
    exact h m l is room' st4 hl hg hn hw hr' W4 ((g12.trans g3).trans g4)
  have hcs : r = 0 ∨ r = 1 ∨ r = 2 ∨ r = 3 := by k_extra "om"
  rcases hcs with e1 | e1 | e1 | e1 <;> subst e1 <;> refine Idx.list hl (by decide) (by decide) rfl ?_ <;> refine Put.go (by k_extra "put") ?_
  · exact rest (some "L") (by decide +kernel)
  · exact rest none rfl
  · exact rest (some "M") (by decide +kernel)
  · exact rest (some "n") (by decide +kernel)

theorem branch_of (F : Facts B) {n : Nat} (hB : BlockP B (n + 1)) (hI : ItemP B n) : BranchP B (n + 1) := fun st wd f c room Q W h0 h10 h => by
  refine SCode_at F (k := 50) (fr0 := ?fr) ["world", "depth"] (by kernel_rfl) rfl ?hb (by decide +kernel) (by kernel_rfl) (by kernel_rfl) ?hfr ?h
  k_extra "fn"
  intro C hsc hd
  have en : ((n + 1 : Nat) : Int) - 1 = (n : Nat) := by k_extra "om"
  refine SX_cons ?_
  repeat k_extra "tb"
  refine W.feed ?_
  repeat k_extra "tb"
  refine ((law_pick_spec F W (by decide) (by decide) (fun r st1 hr0 hr6 W1 g1 => ?_)).less (by k_extra "om")).call
  have blk : SX B C [("world", .ref wd), ("depth", .int (n + 1 : Nat)), ("sort", .int r)] (thenOf [((fBody (top 50)).drop 1).headD (.Pass default)]) st1 (fun fr1 st1 => SX B C fr1 ((fBody (top 50)).drop 2) st1 (fun _ st' => Q .none st') Q) Q := by
    refine SX_one ?_
    repeat k_extra "tb"
    refine ((hB st1 wd f c room _ W1 h0 h10 (fun m l is room' st2 hl hg hn hw hr' W2 g2 => ?_)).less (by k_extra "om")).call
    refine h (.block m l is) room' st2 (by simpa [Item.gd] using hg) (by simp [Item.nm, hl, hn]) (by simp only [Item.wt]; k_extra "om") hr' W2 (g1.trans g2)
  repeat k_extra "tb"
  refine SC_lt_int (fun _ => ?_) (fun _ => ?_)
  · exact blk
  · repeat k_extra "tb"
    refine W1.roomI ?_
    repeat k_extra "tb"
    refine SC_lt_int (fun _ => ?_) (fun hp => ?_)
    · exact blk
    · repeat k_extra "tb"
      refine SC_eq_int (fun _ => ?_) (fun _ => ?_)
      · repeat k_extra "tb"
        exact h .nop room st1 rfl rfl (by simp only [Item.wt]; k_extra "om") h0 W1 g1
      · repeat k_extra "tb"
        refine SOp_sub ?_
        rw [en]
        repeat k_extra "tb"
        refine ((hI st1 wd f c room _ W1 (by k_extra "om") h10 (fun i room' st2 hi hg hn hw hr' W2 g2 => ?_)).less (by k_extra "om")).call
        exact h i room' st2 hg hn (by k_extra "om") hr' W2 (g1.trans g2)
end
section
variable {B : Base} {C : Cfg} {fr : Fr'} {st : St}

set_option maxHeartbeats 1000000 in
theorem item_of (F : Facts B) {n : Nat} (hB : 0 < n → BlockP B n ∧ BranchP B n) : ItemP B n := fun st wd f c room Q W h1 h10 h => by
  refine SCode_at F (k := 51) (fr0 := ?fr) ["world", "depth"] (by kernel_rfl) rfl ?hb (by decide +kernel) (by kernel_rfl) (by kernel_rfl) ?hfr ?h
  k_extra "fn"
  intro C hsc hd
  obtain ⟨hwf, hwc⟩ := W.wf
  refine SX_cons ?_
  refine SX1_setItem ?_ rfl
  repeat k_extra "tb"
  refine W.roomI ?_
  repeat k_extra "tb"
  refine SOp_sub ?_
  repeat k_extra "tb"
  obtain ⟨k, hk⟩ := W.wd
  have W0 : Wld (st.set wd (.dict (wdD f k (room - 1)))) wd f c (room - 1) := by
    refine ⟨⟨k, by simp⟩, ?_, ?_⟩
    · obtain ⟨a, b, hf, hb⟩ := W.f
      exact ⟨a, b, by unfold IsL; rw [St.set_ne _ _ (Ne.symm hwf)]; exact hf, hb⟩
    · obtain ⟨ns, hc, hn⟩ := W.c
      exact ⟨ns, by rw [St.set_ne _ _ (Ne.symm hwc)]; exact hc, hn⟩
  have g0 : GrowW wd f c st (st.set wd (.dict (wdD f k (room - 1)))) := fun x m hx h1 h2 h3 => by rw [St.set_ne _ _ h1]; exact hx
  refine .inl ⟨wd, _, _, rfl, rfl, hk, Nat.le_of_ble_eq_true rfl, ?_⟩
  have hs : storeD (wdD f k room) (S "room") (.int (room - 1)) = wdD f k (room - 1) := by rfl
  rw [hs]
  repeat k_extra "tb"
  refine W0.feed ?_
  repeat k_extra "tb"
  refine ((law_mark_spec F W0 (fun m st1 W1 g1 => ?_)).less (by k_extra "om")).call
  have g01 := g0.trans g1
  clear hs
  have key : ∀ (r : Int) st2, 0 ≤ r → r < 10 → (5 ≤ r → 0 < n) → Wld st2 wd f c (room - 1) → GrowW wd f c st1 st2 →
      SX B C [("world", .ref wd), ("depth", .int n), ("feed", .ref f), ("mark", .int m), ("one", numV), ("sort", .int r)] ((fBody (top 51)).drop 5) st2 (fun _ st' => Q .none st') Q := by
    intro r st2 hr0 hr10 hn W2 g2
    have g02 := g01.trans g2
    have hcs : r = 0 ∨ r = 1 ∨ r = 2 ∨ r = 3 ∨ r = 4 ∨ r = 5 ∨ r = 6 ∨ r = 7 ∨ r = 8 ∨ r = 9 := by k_extra "om"
    rcases hcs with e1 | e1 | e1 | e1 | e1 | e1 | e1 | e1 | e1 | e1
    · subst e1
      refine SX_cons ?_
      repeat k_extra "tb"
      refine ((law_end_spec F W2 (fun t st3 ht W3 g3 => ?_)).less (by k_extra "om")).call
      repeat k_extra "tb"
      refine ((law_value_spec F W3 (fun v st4 hv W4 g4 => ?_)).less (by k_extra "om")).call
      repeat k_extra "tb"
      exact h (.cassign m t v) (room - 1) st4 (by simp) rfl (by simp [Item.nm, ht, hv]) (by simp only [Item.wt]; k_extra "om") (by k_extra "om") W4 ((g02.trans g3).trans g4)
    · subst e1
      refine SX_cons ?_
      repeat k_extra "tb"
      refine ((law_end_spec F W2 (fun t st3 ht W3 g3 => ?_)).less (by k_extra "om")).call
      repeat k_extra "tb"
      refine ((law_value_spec F W3 (fun v st4 hv W4 g4 => ?_)).less (by k_extra "om")).call
      repeat k_extra "tb"
      exact h (.gate m t v) (room - 1) st4 (by simp) rfl (by simp [Item.nm, ht, hv]) (by simp only [Item.wt]; k_extra "om") (by k_extra "om") W4 ((g02.trans g3).trans g4)
    · subst e1
      refine SX_cons ?_
      repeat k_extra "tb"
      refine ((law_name_spec F W2 (fun nm st3 hn3 W3 g3 => ?_)).less (by k_extra "om")).call
      repeat k_extra "tb"
      exact h (.net m nm) (room - 1) st3 (by simp) rfl hn3 (by simp only [Item.wt]; k_extra "om") (by k_extra "om") W3 (g02.trans g3)
    · subst e1
      refine SX_cons ?_
      repeat k_extra "tb"
      refine ((law_name_spec F W2 (fun nm st3 hn3 W3 g3 => ?_)).less (by k_extra "om")).call
      repeat k_extra "tb"
      exact h (.var m nm) (room - 1) st3 (by simp) rfl hn3 (by simp only [Item.wt]; k_extra "om") (by k_extra "om") W3 (g02.trans g3)
    · subst e1
      refine SX_cons ?_
      repeat k_extra "tb"
      refine ((law_pick_spec F W2 (by decide) (by decide) (fun r2 st3 hq0 hq4 W3 g3 => ?_)).less (by k_extra "om")).call
      repeat k_extra "tb"
      refine SC_eq_int (fun _ => ?_) (fun _ => ?_)
      · repeat k_extra "tb"
        refine ((law_name_spec F W3 (fun nm st4 hn4 W4 g4 => ?_)).less (by k_extra "om")).call
        repeat k_extra "tb"
        exact h (.param m nm) (room - 1) st4 (by simp) rfl hn4 (by simp only [Item.wt]; k_extra "om") (by k_extra "om") W4 ((g02.trans g3).trans g4)
      · repeat k_extra "tb"
        refine ((law_name_spec F W3 (fun nm st4 hn4 W4 g4 => ?_)).less (by k_extra "om")).call
        repeat k_extra "tb"
        exact h (.event m nm) (room - 1) st4 (by simp) rfl hn4 (by simp only [Item.wt]; k_extra "om") (by k_extra "om") W4 ((g02.trans g3).trans g4)
    · subst e1
      refine SX_cons ?_
      repeat k_extra "tb"
      obtain ⟨hBl, hBr⟩ := hB (hn (by k_extra "om"))
      refine ((hBl st2 wd f c (room - 1) _ W2 (by k_extra "om") (by k_extra "om") (fun mm l is room' st3 hl hg hnn hw hr' W3 g3 => ?_)).less (by k_extra "om")).call
      exact h (.block mm l is) room' st3 (by simp) (by simpa [Item.gd] using hg) (by simp [Item.nm, hl, hnn]) (by simp only [Item.wt]; k_extra "om") hr' W3 (g02.trans g3)
    · subst e1
      refine SX_cons ?_
      repeat k_extra "tb"
      obtain ⟨hBl, hBr⟩ := hB (hn (by k_extra "om"))
      refine SE_List ?_
      repeat k_extra "tb"
      intro e he
      repeat k_extra "tb"
      refine ((law_pick_spec F (W2.alloc he) (by decide) (by decide) (fun r2 st3 hq0 hq4 W3 g3 => ?_)).less (by k_extra "om")).call
      obtain ⟨t1, t2, t3⟩ := W2.tracked he
      have hl : IsL st3 e [.str "g", .str "v"] := .inl (g3 e _ (by simp) t1 t2 t3)
      have g03 := g02.trans ((GrowW.alloc he).trans g3)
      have hcs : r2 = 0 ∨ r2 = 1 := by k_extra "om"
      rcases hcs with e1 | e1 <;> subst e1 <;> refine Idx.list hl (by decide) (by decide) rfl ?_ <;> repeat k_extra "tb"
      · refine ((hBl st3 wd f c (room - 1) _ W3 (by k_extra "om") (by k_extra "om") (fun mm l is room' st4 hl hg hnn hw hr' W4 g4 => ?_)).less (by k_extra "om")).call
        repeat k_extra "tb"
        exact h (.gfor m "g" mm l is) room' st4 (by simp) (by simpa [Item.gd] using hg) (by simp only [Item.nm, hl, hnn, Bool.and_true]; decide +kernel) (by simp only [Item.wt]; k_extra "om") hr' W4 (g03.trans g4)
      · refine ((hBl st3 wd f c (room - 1) _ W3 (by k_extra "om") (by k_extra "om") (fun mm l is room' st4 hl hg hnn hw hr' W4 g4 => ?_)).less (by k_extra "om")).call
        repeat k_extra "tb"
        exact h (.gfor m "v" mm l is) room' st4 (by simp) (by simpa [Item.gd] using hg) (by simp only [Item.nm, hl, hnn, Bool.and_true]; decide +kernel) (by simp only [Item.wt]; k_extra "om") hr' W4 (g03.trans g4)
    · subst e1
      refine SX_cons ?_
      repeat k_extra "tb"
      obtain ⟨hBl, hBr⟩ := hB (hn (by k_extra "om"))
      refine ((law_use_spec F W2 (fun l st3 hl W3 g3 => ?_)).less (by k_extra "om")).call
      repeat k_extra "tb"
      refine ((hBr st3 wd f c (room - 1) _ W3 (by k_extra "om") (by k_extra "om") (fun x room2 st4 hgx hnx hwx hr2 W4 g4 => ?_)).less (by k_extra "om")).call
      have := x.wt_pos
      repeat k_extra "tb"
      refine ((hBr st4 wd f c room2 _ W4 (by k_extra "om") (by k_extra "om") (fun y room3 st5 hgy hny hwy hr3 W5 g5 => ?_)).less (by k_extra "om")).call
      have := y.wt_pos
      repeat k_extra "tb"
      refine ((law_use_spec F W5 (fun cc st6 hcc W6 g6 => ?_)).less (by k_extra "om")).call
      repeat k_extra "tb"
      exact h (.gcase m cc l x y) room3 st6 (by simp) (by simp [Item.gd, hgx, hgy]) (by simp [Item.nm, hcc, hl, hnx, hny]) (by simp only [Item.wt]; k_extra "om") hr3 W6 ((((g02.trans g3).trans g4).trans g5).trans g6)
    · subst e1
      refine SX_cons ?_
      repeat k_extra "tb"
      obtain ⟨hBl, hBr⟩ := hB (hn (by k_extra "om"))
      refine ((law_use_spec F W2 (fun cc st3 hcc W3 g3 => ?_)).less (by k_extra "om")).call
      repeat k_extra "tb"
      refine ((hBr st3 wd f c (room - 1) _ W3 (by k_extra "om") (by k_extra "om") (fun x room2 st4 hgx hnx hwx hr2 W4 g4 => ?_)).less (by k_extra "om")).call
      have := x.wt_pos
      repeat k_extra "tb"
      refine ((hBr st4 wd f c room2 _ W4 (by k_extra "om") (by k_extra "om") (fun y room3 st5 hgy hny hwy hr3 W5 g5 => ?_)).less (by k_extra "om")).call
      have := y.wt_pos
      repeat k_extra "tb"
      exact h (.gif m (.id cc) x y) room3 st5 (by simp) (by simp [Item.gd, hgx, hgy]) (by simp [Item.nm, Ex.nm, hcc, hnx, hny]) (by simp only [Item.wt]; k_extra "om") hr3 W5 (((g02.trans g3).trans g4).trans g5)
    · subst e1
      refine SX_cons ?_
      repeat k_extra "tb"
      obtain ⟨hBl, hBr⟩ := hB (hn (by k_extra "om"))
      refine ((law_use_spec F W2 (fun cc st3 hcc W3 g3 => ?_)).less (by k_extra "om")).call
      repeat k_extra "tb"
      refine ((hBr st3 wd f c (room - 1) _ W3 (by k_extra "om") (by k_extra "om") (fun x room2 st4 hgx hnx hwx hr2 W4 g4 => ?_)).less (by k_extra "om")).call
      have := x.wt_pos
      repeat k_extra "tb"
      refine ((hBr st4 wd f c room2 _ W4 (by k_extra "om") (by k_extra "om") (fun y room3 st5 hgy hny hwy hr3 W5 g5 => ?_)).less (by k_extra "om")).call
      have := y.wt_pos
      repeat k_extra "tb"
      exact h (.gif m (.id cc) x y) room3 st5 (by simp) (by simp [Item.gd, hgx, hgy]) (by simp [Item.nm, Ex.nm, hcc, hnx, hny]) (by simp only [Item.wt]; k_extra "om") hr3 W5 (((g02.trans g3).trans g4).trans g5)
  repeat k_extra "tb"
  cases n with
  | zero =>
    refine SC_gt_int (fun h => absurd h (by decide)) (fun _ => ?_)
    repeat k_extra "tb"
    refine ((law_pick_spec F W1 (by decide) (by decide) (fun r st2 hr0 hr4 W2 g2 => ?_)).less (by k_extra "om")).call
    refine Put.go (by k_extra "put") ?_
    exact key r st2 hr0 (by k_extra "om") (fun h => by k_extra "om") W2 g2
  | succ n =>
    refine SC_gt_int (fun _ => ?_) (fun h => absurd (by show (0 : Int) < ((n + 1 : Nat) : Int); k_extra "om") h)
    repeat k_extra "tb"
    refine ((law_pick_spec F W1 (by decide) (by decide) (fun r st2 hr0 hr4 W2 g2 => ?_)).less (by k_extra "om")).call
    refine Put.go (by k_extra "put") ?_
    exact key r st2 hr0 hr4 (fun _ => by k_extra "om") W2 g2

theorem draw_all (F : Facts B) : ∀ n, ItemP B n ∧ ItemsP B n
  | 0 => by
    have h := item_of F (n := 0) fun h => absurd h (by k_extra "om")
    exact ⟨h, items_of F h⟩
  | n + 1 => by
    obtain ⟨h1, h2⟩ := draw_all F n
    have hb := block_of F h2
    have h := item_of F (n := n + 1) fun _ => ⟨hb, branch_of F hb h1⟩
    exact ⟨h, items_of F h⟩
end
section
variable {B : Base} {C : Cfg} {fr : Fr'} {st : St}

/-! the law's own reckoning: helpers -/
structure Arm where
  m : Int
  l : Option PySem.Str
  is : List Item
noncomputable def Arm.enc (a : Arm) : V := (Item.block a.m a.l a.is).enc
noncomputable def Item.at : Item → Int
  | .nop => 0
  | .cassign m _ _ => m
  | .gate m _ _ => m
  | .net m _ => m
  | .var m _ => m
  | .param m _ => m
  | .event m _ => m
  | .block m _ _ => m
  | .gfor m _ _ _ _ => m
  | .gcase m _ _ _ _ => m
  | .gif m _ _ _ => m
noncomputable def arms : Item → List Arm
  | .nop => []
  | .gif _ _ x y => arms x ++ arms y
  | .gcase _ _ _ x y => arms x ++ arms y
  | .block m l is => [⟨m, l, is⟩]
  | .cassign x y z => [⟨(Item.cassign x y z).at, none, [.cassign x y z]⟩]
  | .gate x y z => [⟨(Item.gate x y z).at, none, [.gate x y z]⟩]
  | .net x y => [⟨(Item.net x y).at, none, [.net x y]⟩]
  | .var x y => [⟨(Item.var x y).at, none, [.var x y]⟩]
  | .param x y => [⟨(Item.param x y).at, none, [.param x y]⟩]
  | .event x y => [⟨(Item.event x y).at, none, [.event x y]⟩]
  | .gfor x y z u v => [⟨(Item.gfor x y z u v).at, none, [.gfor x y z u v]⟩]
noncomputable def tests : Item → List Ex
  | .gif _ c x y => c :: (tests x ++ tests y)
  | .gcase _ c l x y => .id c :: .id l :: (tests x ++ tests y)
  | .nop => []
  | .cassign _ _ _ => []
  | .gate _ _ _ => []
  | .net _ _ => []
  | .var _ _ => []
  | .param _ _ => []
  | .event _ _ => []
  | .block _ _ _ => []
  | .gfor _ _ _ _ _ => []
noncomputable def words : Ex → List Use
  | .num => []
  | .id u => [u]
  | .cat _ u v => [u, v]
  | .un _ u => [u]
/-- every tracked thing is kept -/
noncomputable def Keep (sA sB : St) : Prop := ∀ b m, sA b = some m → sB b = some m
theorem Keep.refl : Keep st st := fun _ _ h => h
theorem Keep.trans {s1 s2 s3 : St} (a : Keep s1 s2) (b : Keep s2 s3) : Keep s1 s3 := fun x m h => b x m (a x m h)
theorem Keep.alloc {a : Addr} {m : MObj} (h : st a = none) : Keep st (st.set a m) := fun x q hx => by
  rw [St.set_ne _ _ (fun e => by subst e; rw [h] at hx; cases hx)]; exact hx
theorem Keep.none {sA sB : St} {a : Addr} (k : Keep sA sB) (h : sB a = none) : sA a = none := by
  cases q : sA a with
  | none => rfl
  | some m => rw [k a m q] at h; cases h
/-- a new list is given back -/
noncomputable def PostL (st : St) (l : List V) (Q : V → St → Prop) : Prop := ∀ a st', st a = none → st' a = some (.list l) → Keep st st' → Q (.ref a) st'
theorem PostL.new {l : List V} {Q : V → St → Prop} (h : PostL st l Q) : ∀ a, st a = none → Q (.ref a) (st.set a (.list l)) := fun a ha => h a _ ha (by simp) (.alloc ha)
theorem PostL.of {l : List V} {Q : V → St → Prop} (h : ∀ a st', st a = none → st' a = some (.list l) → Keep st st' → Q (.ref a) st') : PostL st l Q := h

theorem arms_len : ∀ i : Item, (arms i).length ≤ i.wt
  | .gif _ _ x y => by have := arms_len x; have := arms_len y; simp only [arms, Item.wt, List.length_append]; k_extra "oma"
  | .gcase _ _ _ x y => by have := arms_len x; have := arms_len y; simp only [arms, Item.wt, List.length_append]; k_extra "oma"
  | .nop => by simp [arms]
  | .block _ _ _ => by simp [arms, Item.wt]
  | .cassign _ _ _ => by simp [arms, Item.wt]
  | .gate _ _ _ => by simp [arms, Item.wt]
  | .net _ _ => by simp [arms, Item.wt]
  | .var _ _ => by simp [arms, Item.wt]
  | .param _ _ => by simp [arms, Item.wt]
  | .event _ _ => by simp [arms, Item.wt]
  | .gfor _ _ _ _ _ => by simp [arms, Item.wt]
theorem tests_len : ∀ i : Item, (tests i).length ≤ i.wt
  | .gif _ _ x y => by have := tests_len x; have := tests_len y; simp only [tests, Item.wt, List.length_append, List.length_cons]; k_extra "oma"
  | .gcase _ _ _ x y => by have := tests_len x; have := tests_len y; simp only [tests, Item.wt, List.length_append, List.length_cons]; k_extra "oma"
  | .nop => by simp [tests]
  | .block _ _ _ => by simp [tests]
  | .cassign _ _ _ => by simp [tests]
  | .gate _ _ _ => by simp [tests]
  | .net _ _ => by simp [tests]
  | .var _ _ => by simp [tests]
  | .param _ _ => by simp [tests]
  | .event _ _ => by simp [tests]
  | .gfor _ _ _ _ _ => by simp [tests]

set_option maxHeartbeats 1000000 in
theorem law_arms_spec (F : Facts B) : ∀ (i : Item) (st : St) (Q : V → St → Prop), i.wt ≤ 400 → PostL st ((arms i).map Arm.enc) Q → SCode B (i.wt + 1) (gval B "_law_arms") [i.enc] st Q := fun i st Q hw h => by
  refine SCode_at F (k := 52) (fr0 := ?fr) ["item"] (by kernel_rfl) rfl ?hb (by decide +kernel) (by kernel_rfl) (by kernel_rfl) ?hfr ?h
  k_extra "fn"
  intro C hsc hd
  cases hq : i
  case nop =>
    subst hq
    simp only [arms, List.map_nil] at h
    simp only [Item.enc]
    refine SX_cons ?_
    repeat k_extra "tb"
    refine SE_List (SEs_nil ⟨by decide, h.new⟩)
  case block m l is =>
    subst hq
    simp only [arms, List.map_cons, List.map_nil, Arm.enc, Item.enc] at h
    simp only [Item.enc]
    refine SX_cons ?_
    repeat k_extra "tb"
    refine SE_List ?_
    repeat k_extra "tb"
    exact h.new
  case gif m c x y =>
    subst hq
    have hx : x.wt + y.wt + 2 = (Item.gif m c x y).wt := by simp [Item.wt]
    have hx1 := x.wt_pos
    have hy1 := y.wt_pos
    have hl1 := arms_len x
    have hl2 := arms_len y
    simp only [arms, List.map_append] at h
    simp only [Item.enc]
    refine SX_cons ?_
    repeat k_extra "tb"
    refine ((law_arms_spec F x st _ (by k_extra "oma") (PostL.of fun a1 st1 f1 e1 k1 => ?_)).less (by k_extra "oma")).call
    repeat k_extra "tb"
    refine ((law_arms_spec F y st1 _ (by k_extra "oma") (PostL.of fun a2 st2 f2 e2 k2 => ?_)).less (by k_extra "oma")).call
    refine SOp_list (.inl (k2 _ _ e1)) (.inl e2) (by simp only [List.length_map]; k_extra "oma") (fun a3 f3 => ?_)
    exact h a3 _ ((k1.trans k2).none f3) (by simp) ((k1.trans k2).trans (.alloc f3))
  case gcase m c l x y =>
    subst hq
    have hx : x.wt + y.wt + 2 = (Item.gcase m c l x y).wt := by simp [Item.wt]
    have hx1 := x.wt_pos
    have hy1 := y.wt_pos
    have hl1 := arms_len x
    have hl2 := arms_len y
    simp only [arms, List.map_append] at h
    simp only [Item.enc]
    refine SX_cons ?_
    repeat k_extra "tb"
    refine ((law_arms_spec F x st _ (by k_extra "oma") (PostL.of fun a1 st1 f1 e1 k1 => ?_)).less (by k_extra "oma")).call
    repeat k_extra "tb"
    refine ((law_arms_spec F y st1 _ (by k_extra "oma") (PostL.of fun a2 st2 f2 e2 k2 => ?_)).less (by k_extra "oma")).call
    refine SOp_list (.inl (k2 _ _ e1)) (.inl e2) (by simp only [List.length_map]; k_extra "oma") (fun a3 f3 => ?_)
    exact h a3 _ ((k1.trans k2).none f3) (by simp) ((k1.trans k2).trans (.alloc f3))
  all_goals
    subst hq
    simp only [arms, List.map_cons, List.map_nil, Arm.enc, Item.enc, encs, encLab, Item.at] at h
    simp only [Item.enc]
    refine SX_cons ?_
    repeat k_extra "tb"
    refine SE_List ?_
    repeat k_extra "tb"
    exact h.new
termination_by i => i.wt
decreasing_by all_goals (subst_vars; omega)

set_option maxHeartbeats 1000000 in
theorem law_tests_spec (F : Facts B) : ∀ (i : Item) (st : St) (Q : V → St → Prop), i.wt ≤ 400 → PostL st ((tests i).map Ex.enc) Q → SCode B (i.wt + 1) (gval B "_law_tests") [i.enc] st Q := fun i st Q hw h => by
  refine SCode_at F (k := 53) (fr0 := ?fr) ["item"] (by kernel_rfl) rfl ?hb (by decide +kernel) (by kernel_rfl) (by kernel_rfl) ?hfr ?h
  k_extra "fn"
  intro C hsc hd
  cases hq : i
  case gif m c x y =>
    subst hq
    have hx : x.wt + y.wt + 2 = (Item.gif m c x y).wt := by simp [Item.wt]
    have hx1 := x.wt_pos
    have hy1 := y.wt_pos
    have hl1 := tests_len x
    have hl2 := tests_len y
    simp only [tests, List.map_append, List.map_cons] at h
    simp only [Item.enc]
    refine SX_cons ?_
    repeat k_extra "tb"
    refine SE_List ?_
    repeat k_extra "tb"
    intro a0 f0
    have k0 : Keep st _ := Keep.alloc (m := .list [c.enc]) f0
    repeat k_extra "tb"
    refine ((law_tests_spec F x _ _ (by k_extra "oma") (PostL.of fun a1 st1 f1 e1 k1 => ?_)).less (by k_extra "oma")).call
    refine SOp_list (l := [c.enc]) (.inl (k1 _ _ (by simp))) (.inl e1) (by simp only [List.length_map, List.length_cons, List.length_nil]; k_extra "oma") (fun a3 f3 => ?_)
    have k3 : Keep st _ := (k0.trans k1).trans (Keep.alloc (m := .list ([c.enc] ++ (tests x).map Ex.enc)) f3)
    repeat k_extra "tb"
    refine ((law_tests_spec F y _ _ (by k_extra "oma") (PostL.of fun a2 st2 f2 e2 k2 => ?_)).less (by k_extra "oma")).call
    refine SOp_list (l := [c.enc] ++ (tests x).map Ex.enc) (.inl (k2 _ _ (by simp))) (.inl e2) (by simp only [List.length_append, List.length_map, List.length_cons, List.length_nil]; k_extra "oma") (fun a4 f4 => ?_)
    exact h a4 _ ((k3.trans k2).none f4) (by simp) ((k3.trans k2).trans (.alloc f4))
  case gcase m c l x y =>
    subst hq
    have hx : x.wt + y.wt + 2 = (Item.gcase m c l x y).wt := by simp [Item.wt]
    have hx1 := x.wt_pos
    have hy1 := y.wt_pos
    have hl1 := tests_len x
    have hl2 := tests_len y
    simp only [tests, List.map_append, List.map_cons, Ex.enc] at h
    simp only [Item.enc]
    refine SX_cons ?_
    repeat k_extra "tb"
    refine SE_List ?_
    repeat k_extra "tb"
    intro a0 f0
    have k0 : Keep st _ := Keep.alloc (m := .list [c.enc, l.enc]) f0
    repeat k_extra "tb"
    refine ((law_tests_spec F x _ _ (by k_extra "oma") (PostL.of fun a1 st1 f1 e1 k1 => ?_)).less (by k_extra "oma")).call
    refine SOp_list (l := [c.enc, l.enc]) (.inl (k1 _ _ (by simp))) (.inl e1) (by simp only [List.length_map, List.length_cons, List.length_nil]; k_extra "oma") (fun a3 f3 => ?_)
    have k3 : Keep st _ := (k0.trans k1).trans (Keep.alloc (m := .list ([c.enc, l.enc] ++ (tests x).map Ex.enc)) f3)
    repeat k_extra "tb"
    refine ((law_tests_spec F y _ _ (by k_extra "oma") (PostL.of fun a2 st2 f2 e2 k2 => ?_)).less (by k_extra "oma")).call
    refine SOp_list (l := [c.enc, l.enc] ++ (tests x).map Ex.enc) (.inl (k2 _ _ (by simp))) (.inl e2) (by simp only [List.length_append, List.length_map, List.length_cons, List.length_nil]; k_extra "oma") (fun a4 f4 => ?_)
    exact h a4 _ ((k3.trans k2).none f4) (by simp) ((k3.trans k2).trans (.alloc f4))
  all_goals
    subst hq
    simp only [tests, List.map_nil] at h
    simp only [Item.enc]
    refine SX_cons ?_
    repeat k_extra "tb"
    refine SE_List (SEs_nil ⟨by decide, h.new⟩)
termination_by i => i.wt
decreasing_by all_goals (subst_vars; omega)

theorem law_words_spec (F : Facts B) (x : Ex) {st : St} {Q : V → St → Prop} (h : PostL st ((words x).map Use.enc) Q) : SCode B 1 (gval B "_law_words") [x.enc] st Q := by
  refine SCode_at F (k := 54) (fr0 := ?fr) ["e"] (by kernel_rfl) rfl ?hb (by decide +kernel) (by kernel_rfl) (by kernel_rfl) ?hfr ?h
  k_extra "fn"
  intro C hsc hd
  cases x
  case num =>
    simp only [words, List.map_nil] at h
    simp only [Ex.enc]
    refine SX_cons ?_
    repeat k_extra "tb"
    refine SE_List (SEs_nil ⟨by decide, h.new⟩)
  case id u =>
    simp only [words, List.map_nil, List.map_cons] at h
    simp only [Ex.enc, Use.enc] at h ⊢
    refine SX_cons ?_
    repeat k_extra "tb"
    refine SE_List ?_
    repeat k_extra "tb"
    exact h.new
  case un m u =>
    simp only [words, List.map_nil, List.map_cons] at h
    simp only [Ex.enc]
    refine SX_cons ?_
    repeat k_extra "tb"
    refine SE_List ?_
    repeat k_extra "tb"
    exact h.new
  case cat m u v =>
    simp only [words, List.map_nil, List.map_cons] at h
    simp only [Ex.enc]
    refine SX_cons ?_
    repeat k_extra "tb"
    exact SCall_list (Nat.le_of_ble_eq_true rfl) h.new

/-! the law's tables -/
noncomputable def Ent.sort : Ent → PySem.Str
  | .net _ => "net"
  | .var _ => "var"
  | .param _ => "param"
  | .event _ => "event"
  | .genvar _ => "genvar"
  | .block _ _ => "block"
noncomputable def Ent.grp : Ent → Int
  | .block _ g => g
  | _ => -1
noncomputable def Ent.lenc (e : Ent) : V := .tup [.str e.sort, .int e.grp]
noncomputable def lsc (sc : Sc) : List (PySem.Str × V) := sc.map fun p => (p.1, p.2.lenc)
/-- innermost first -/
noncomputable def LC (st : St) : List Addr → List Sc → Prop
  | [], [] => True
  | d :: ds, sc :: env => st d = some (.dict (lsc sc)) ∧ LC st ds env
  | _, _ => False
noncomputable def sortV : Option Ent → PySem.Str
  | none => ""
  | some e => e.sort
noncomputable def nearF (n : PySem.Str) (l : List Sc) (acc : PySem.Str) : PySem.Str := l.foldl (fun acc sc => match look sc n with | some e => e.sort | none => acc) acc
theorem nearF_rev (n : PySem.Str) : ∀ env : List Sc, nearF n env.reverse "" = sortV (lookEnv env n)
  | [] => rfl
  | sc :: env => by
    have ih := nearF_rev n env
    unfold nearF at ih ⊢
    rw [List.reverse_cons, List.foldl_append, ih]
    simp only [List.foldl_cons, List.foldl_nil, lookEnv]
    cases look sc n <;> rfl
/-- outermost first -/
noncomputable def LO (st : St) : List Addr → List Sc → Prop
  | [], [] => True
  | d :: ds, sc :: env => st d = some (.dict (lsc sc)) ∧ LO st ds env
  | _, _ => False
theorem LO.append : ∀ {ds : List Addr} {env : List Sc} {d : Addr} {sc : Sc}, LO st ds env → st d = some (.dict (lsc sc)) → LO st (ds ++ [d]) (env ++ [sc])
  | [], [], _, _, _, h => ⟨h, trivial⟩
  | _ :: _, _ :: _, _, _, ⟨h1, h2⟩, h => ⟨h1, LO.append h2 h⟩
  | [], _ :: _, _, _, h, _ => h.elim
  | _ :: _, [], _, _, h, _ => h.elim
theorem LC.toO : ∀ {ds : List Addr} {env : List Sc}, LC st ds env → LO st ds.reverse env.reverse
  | [], [], _ => trivial
  | d :: ds, sc :: env, ⟨h1, h2⟩ => by rw [List.reverse_cons, List.reverse_cons]; exact LO.append (LC.toO h2) h1
  | [], _ :: _, h => h.elim
  | _ :: _, [], h => h.elim
theorem lookD_lsc (sc : Sc) (k : PySem.Str) : lookD (lsc sc) k = (look sc k).map Ent.lenc := by
  induction sc with
  | nil => rfl
  | cons p sc ih =>
    obtain ⟨n, e⟩ := p
    by_cases h : n = k
    · simp [lookD, look, lsc, h]
    · simp only [lookD, look, lsc, List.map_cons, List.find?_cons, h, decide_false] at ih ⊢
      exact ih
/-- a loop whose frame holds values that move -/
theorem Loop.invP {T : Type} {Chk : St → Prop} {tgt : Expr} {body : List Stmt} {Kn : Fr' → St → Prop} {Kr : V → St → Prop} (fr0 : T → Fr') (nd : ∀ t, ((fr0 t).map (·.1)).Nodup) (J : List V → T → St → Prop) (hc : ∀ l t st, J l t st → Chk st)
    (step : ∀ x l t st, J (x :: l) t st → AS B C (fr0 t) tgt x st fun fr1 st1 => SX B C fr1 body st1 (fun fr2 st2 => ∃ t', (∀ p ∈ fr0 t', p ∈ fr2) ∧ J l t' st2) Kr) (fin : ∀ fr t st, (∀ p ∈ fr0 t, p ∈ fr) → J [] t st → Kn fr st) {l : List V} {fr : Fr'} {st : St} (t : T) (hs : ∀ p ∈ fr0 t, p ∈ fr) (h : J l t st) : Loop B C Chk tgt body l fr st Kn Kr :=
  Loop.inv (fun l fr st => ∃ t, (∀ p ∈ fr0 t, p ∈ fr) ∧ J l t st) (fun l fr st ⟨t, _, h⟩ => hc l t st h) (fun x l fr st ⟨t, h1, h2⟩ => (step x l t st h2).forget h1 (nd t)) (fun fr st ⟨t, h1, h2⟩ => fin fr t st h1 h2) l fr st ⟨t, hs, h⟩

theorem law_nearest_spec (F : Facts B) {c : Addr} {ds : List Addr} {env : List Sc} {n : PySem.Str} {st : St} {Q : V → St → Prop} (hc : st c = some (.list (ds.reverse.map V.ref))) (hL : LC st ds env) (h : Q (.str (sortV (lookEnv env n))) st) : SCode B 1 (gval B "_law_nearest") [.ref c, .str n] st Q := by
  refine SCode_at F (k := 55) (fr0 := ?fr) ["chain", "name"] (by kernel_rfl) rfl ?hb (by decide +kernel) (by kernel_rfl) (by kernel_rfl) ?hfr ?h
  k_extra "fn"
  intro C hsc hd
  have hO := hL.toO
  rw [← nearF_rev] at h
  refine SX_cons ?_
  repeat k_extra "tb"
  refine SX1_for_list ?_ (.name _ _) (by intro _; rfl)
  repeat k_extra "tb"
  refine ⟨c, _, rfl, hc, ?_⟩
  refine Loop.invP (T := PySem.Str) (fun t => [("chain", .ref c), ("name", .str n), ("sort", .str t)]) (fun t => by k_extra "nd") (fun l t s => ∃ ds' env', l = ds'.map V.ref ∧ s = st ∧ LO st ds' env' ∧ nearF n env' t = nearF n env.reverse "")
    (fun _ _ _ ⟨_, _, _, hs, _⟩ => by subst hs; exact hc) ?_ ?_ "" (by k_extra "sub") ⟨ds.reverse, env.reverse, rfl, rfl, hO, rfl⟩
  · rintro x l t s ⟨ds', env', hl, rfl, hLO, hn⟩
    cases ds' with
    | nil => cases hl
    | cons d ds' =>
      simp only [List.map_cons, List.cons.injEq] at hl
      obtain ⟨rfl, rfl⟩ := hl
      cases env' with
      | nil => exact hLO.elim
      | cons sc env' =>
        obtain ⟨h1, h2⟩ := hLO
        have hstep : nearF n (sc :: env') t = nearF n env' (match look sc n with | some e => e.sort | none => t) := rfl
        rw [hstep] at hn
        refine AS_name (by k_extra "put") ?_
        refine SX_one ?_
        repeat k_extra "tb"
        refine SC_in_dict h1 (fun x hx => ?_) (fun hx => ?_)
        · have hx' := hx
          rw [lookD_lsc, Option.map_eq_some_iff] at hx'
          obtain ⟨e, he, rfl⟩ := hx'
          rw [he] at hn
          repeat k_extra "tb"
          refine Idx.dict h1 hx ?_
          dsimp only [Ent.lenc]
          repeat k_extra "tb"
          exact ⟨e.sort, by k_extra "sub", ds', env', rfl, rfl, h2, hn⟩
        · rw [lookD_lsc, Option.map_eq_none_iff] at hx
          rw [hx] at hn
          repeat k_extra "tb"
          exact ⟨t, by k_extra "sub", ds', env', rfl, rfl, h2, hn⟩
  · rintro fr' t s hs ⟨ds', env', hl, rfl, hLO, hn⟩
    cases ds' with
    | cons d ds' => cases hl
    | nil =>
      cases env' with
      | cons sc env' => exact hLO.elim
      | nil =>
        have hn : t = _ := hn
        subst hn
        refine SX_forget hs (by k_extra "nd") ?_
        repeat k_extra "tb"
        exact h
end
section
variable {B : Base} {C : Cfg} {fr : Fr'} {st : St}

theorem SC_in_dict_yes {k : PySem.Str} {a : Addr} {d : List (PySem.Str × V)} {x : V} {Qt Qf : St → Prop} (hd : st a = some (.dict d)) (hx : lookD d k = some x) (h : Qt st) : SC B C .In (.str k) (.ref a) st Qt Qf :=
  SC_in_dict hd (fun _ _ => h) (fun e => by rw [hx] at e; cases e)
theorem SC_in_dict_no {k : PySem.Str} {a : Addr} {d : List (PySem.Str × V)} {Qt Qf : St → Prop} (hd : st a = some (.dict d)) (hx : lookD d k = none) (h : Qf st) : SC B C .In (.str k) (.ref a) st Qt Qf :=
  SC_in_dict hd (fun _ e => by rw [hx] at e; cases e) (fun _ => h)
theorem SC_notIn_dict_yes {k : PySem.Str} {a : Addr} {d : List (PySem.Str × V)} {x : V} {Qt Qf : St → Prop} (hd : st a = some (.dict d)) (hx : lookD d k = some x) (h : Qf st) : SC B C .NotIn (.str k) (.ref a) st Qt Qf :=
  SC_notIn_dict hd (fun e => by rw [hx] at e; cases e) (fun _ _ => h)
theorem SC_notIn_dict_no {k : PySem.Str} {a : Addr} {d : List (PySem.Str × V)} {Qt Qf : St → Prop} (hd : st a = some (.dict d)) (hx : lookD d k = none) (h : Qt st) : SC B C .NotIn (.str k) (.ref a) st Qt Qf :=
  SC_notIn_dict hd (fun _ => h) (fun _ e => by rw [hx] at e; cases e)

/-- a pair (text, int) against another -/
theorem SC_ne_pair {a b : PySem.Str} {m n : Int} {Qt Qf : St → Prop} (hd : 1 ≤ C.d) (oa : PyData.strOk a = true) (ob : PyData.strOk b = true) (h1 : ¬ (a = b ∧ m = n) → Qt st) (h2 : a = b → m = n → Qf st) : SC B C .NotEq (.tup [.str a, .int m]) (.tup [.str b, .int n]) st Qt Qf := fun s v u ok I r1 r2 => by
  simp only [RV, RVs] at r1 r2
  obtain ⟨x, xs, i, rfl, gx, v1, q1, rfl, ⟨t1, rfl⟩, v2, q2, rfl, ⟨t2, rfl⟩, rfl⟩ := r1
  obtain ⟨y, ys, j, rfl, gy, u1, p1, rfl, ⟨t3, rfl⟩, u2, p2, rfl, ⟨t4, rfl⟩, rfl⟩ := r2
  have hu := ok.room.units
  have sh : ∀ (a : PySem.Str) (m : Int), PyData.strOk a = true → SeqAt.shaped (.tuple [.str a, .int m]) = true := fun a m h => by
    unfold SeqAt.shaped
    have h4 : (PyData.tuple [.str a, .int m]).depth ≤ 64 := by simp [PyData.depth, PyData.depthAll]
    rw [decide_eq_true h4]
    simp [PyData.canLay0, PyData.canLayAll0, h]
  refine ne_dataH (reads_tuple_at (xs := [.str a, .int m]) gx rfl rfl (.cons (.str a t1) (.cons (.int m t2) .nil))) (reads_tuple_at (xs := [.str b, .int n]) gy rfl rfl (.cons (.str b t3) (.cons (.int n t4) .nil))) (sh a m oa) (sh b n ob) (by k_extra "om") ⟨_, rfl, ?_⟩
  refine postB_of I (fun e => h1 fun ⟨q1, q2⟩ => ?_) fun e => ?_
  · subst q1 q2; simp [PyData.eqv, PyData.eqvAll] at e
  · simp only [PyData.eqv, PyData.eqvAll, Bool.and_true, Bool.not_eq_false', Bool.and_eq_true, beq_iff_eq] at e
    exact h2 e.1 e.2

/-! one step of the law's reckoning -/
set_option genInjectivity false in
set_option genSizeOfSpec false in
structure Stp where
  T : Addr
  W : Addr
  nm : Addr
  ch : Addr
  ds : List Addr
  env : List Sc
  wired : Bool
structure Stp.Ok (P : Stp) : Prop where
  TW : P.T ≠ P.W
  Tn : P.T ≠ P.nm
  Wn : P.W ≠ P.nm
  cT : P.ch ≠ P.T
  cW : P.ch ≠ P.W
  cn : P.ch ≠ P.nm
  dT : ∀ d ∈ P.ds, d ≠ P.T ∧ d ≠ P.W ∧ d ≠ P.nm
structure SD (P : Stp) (st1 : St) (rows : List Row) (sc : Sc) (wk : List V) (st : St) : Prop where
  T : st P.T = some (encR rows)
  W : st P.W = some (.list wk)
  nm : st P.nm = some (.dict (lsc sc))
  ch : st P.ch = some (.list ((P.nm :: P.ds).reverse.map V.ref))
  lc : LC st P.ds P.env
  gr : ∀ b m, st1 b = some m → b ≠ P.T → b ≠ P.W → b ≠ P.nm → st b = some m
theorem LC.set {a : Addr} {m : MObj} : ∀ {ds : List Addr} {env : List Sc}, LC st ds env → (∀ d ∈ ds, d ≠ a) → LC (st.set a m) ds env
  | [], [], _, _ => trivial
  | d :: ds, sc :: env, ⟨h1, h2⟩, h => ⟨by rw [St.set_ne _ _ (h d (.head _))]; exact h1, LC.set h2 fun d hd => h d (.tail _ hd)⟩
  | [], _ :: _, h, _ => h.elim
  | _ :: _, [], h, _ => h.elim
theorem LC.keep {st' : St} (k : Keep st st') : ∀ {ds : List Addr} {env : List Sc}, LC st ds env → LC st' ds env
  | [], [], _ => trivial
  | d :: ds, sc :: env, ⟨h1, h2⟩ => ⟨k _ _ h1, LC.keep k h2⟩
  | [], _ :: _, h => h.elim
  | _ :: _, [], h => h.elim
section
variable {P : Stp} {st1 : St} {rows : List Row} {sc : Sc} {wk : List V}
theorem SD.told (h : SD P st1 rows sc wk st) (ok : P.Ok) (r : Row) : SD P st1 (rows ++ [r]) sc wk (st.set P.T (encR (rows ++ [r]))) :=
  ⟨by simp, by rw [St.set_ne _ _ (Ne.symm ok.TW)]; exact h.W, by rw [St.set_ne _ _ (Ne.symm ok.Tn)]; exact h.nm, by rw [St.set_ne _ _ ok.cT]; exact h.ch, h.lc.set fun d hd => (ok.dT d hd).1,
   fun b m hb h1 h2 h3 => by rw [St.set_ne _ _ h1]; exact h.gr b m hb h1 h2 h3⟩
theorem SD.work (h : SD P st1 rows sc wk st) (ok : P.Ok) (wk' : List V) : SD P st1 rows sc wk' (st.set P.W (.list wk')) :=
  ⟨by rw [St.set_ne _ _ ok.TW]; exact h.T, by simp, by rw [St.set_ne _ _ (Ne.symm ok.Wn)]; exact h.nm, by rw [St.set_ne _ _ ok.cW]; exact h.ch, h.lc.set fun d hd => (ok.dT d hd).2.1,
   fun b m hb h1 h2 h3 => by rw [St.set_ne _ _ h2]; exact h.gr b m hb h1 h2 h3⟩
theorem SD.name (h : SD P st1 rows sc wk st) (ok : P.Ok) (sc' : Sc) : SD P st1 rows sc' wk (st.set P.nm (.dict (lsc sc'))) :=
  ⟨by rw [St.set_ne _ _ ok.Tn]; exact h.T, by rw [St.set_ne _ _ ok.Wn]; exact h.W, by simp, by rw [St.set_ne _ _ ok.cn]; exact h.ch, h.lc.set fun d hd => (ok.dT d hd).2.2,
   fun b m hb h1 h2 h3 => by rw [St.set_ne _ _ h3]; exact h.gr b m hb h1 h2 h3⟩
theorem SD.keep {st' : St} (h : SD P st1 rows sc wk st) (k : Keep st st') : SD P st1 rows sc wk st' :=
  ⟨k _ _ h.T, k _ _ h.W, k _ _ h.nm, k _ _ h.ch, h.lc.keep k, fun b m hb h1 h2 h3 => k _ _ (h.gr b m hb h1 h2 h3)⟩
theorem SD.alloc {a : Addr} {m : MObj} (h : SD P st1 rows sc wk st) (ha : st a = none) : SD P st1 rows sc wk (st.set a m) := h.keep (.alloc ha)
theorem SD.fresh {a : Addr} (h : SD P st1 rows sc wk st) (ha : st a = none) : a ≠ P.T ∧ a ≠ P.W ∧ a ≠ P.nm :=
  ⟨fun e => (by rw [e, h.T] at ha; cases ha), fun e => (by rw [e, h.W] at ha; cases ha), fun e => (by rw [e, h.nm] at ha; cases ha)⟩
end
theorem storeD_lsc {sc : Sc} {n : PySem.Str} {t : Ent} (h : look sc n = none) : storeD (lsc sc) n t.lenc = lsc (sc ++ [(n, t)]) := by
  have : ((lsc sc).any fun p => p.1 = n) = false := by
    unfold look at h
    rw [Option.map_eq_none_iff, List.find?_eq_none] at h
    rw [List.any_eq_false]
    intro q hq
    simp only [lsc, List.mem_map] at hq
    obtain ⟨q', hq', rfl⟩ := hq
    exact h q' hq'
  unfold storeD
  rw [this]
  simp [lsc]
theorem lsc_some {sc : Sc} {n : PySem.Str} {t : Ent} (h : look sc n = some t) : lookD (lsc sc) n = some t.lenc := by rw [lookD_lsc, h]; rfl
theorem lsc_none {sc : Sc} {n : PySem.Str} (h : look sc n = none) : lookD (lsc sc) n = none := by rw [lookD_lsc, h]; rfl
theorem sort_ok (t : Ent) : PyData.strOk t.sort = true := by cases t <;> (simp only [Ent.sort]; decide +kernel)

/-- told.append((k, m, n)) -/
theorem SE_told {P : Stp} {st1 : St} {rows : List Row} {sc : Sc} {wk : List V} {e : Expr} {p0 p1 pos : Pos} {pl : Sem Bool} {Q : V → St → Prop} (hS : SD P st1 rows sc wk st) (hm : (S "told", V.ref P.T) ∈ fr) (hz : rows.length ≤ 1000000)
    (h : SE B C fr e st fun y st2 => st2 = st ∧ ∃ r : Row, y = r.enc ∧ Q .none (st.set P.T (encR (rows ++ [r]))))
    (hs : isStarred e = false)
    (he : eval (.Call (.Attribute (.Name (S "told") p0) "append" p1) [e] [] pos) C.env = (do
      let ov ← eval (.Name (S "told") p0) C.env
      standAt p1.atName
      let (f, first) ← holding [ov] (getMethod ov "append" pl)
      callWith pos f first (backTo pos (starEach [e] C.env)) [])) : SE B C fr (.Call (.Attribute (.Name (S "told") p0) "append" p1) [e] [] pos) st Q := by
  refine SE_append (SE_loc hm ⟨P.T, rfl, ⟨_, hS.T⟩, h.mono fun y st2 ⟨h1, r, h2, h3⟩ => ?_⟩) hs he
  subst h1 h2
  refine ⟨rows.map Row.enc, hS.T, by simp; k_extra "om", ?_⟩
  have : (.list (rows.map Row.enc ++ [r.enc]) : MObj) = encR (rows ++ [r]) := by simp [encR]
  rw [this]; exact h3
/-- names[n] = (sort, group) -/
theorem SX1_name {P : Stp} {st1 : St} {rows : List Row} {sc : Sc} {wk : List V} {n : PySem.Str} {value ie : Expr} {p0 p2 p3 : Pos} {Kn : Fr' → St → Prop} {Kr : V → St → Prop} (hS : SD P st1 rows sc wk st) (hm : (S "names", V.ref P.nm) ∈ fr) (hz : sc.length ≤ 1000) (hl : look sc n = none)
    (h : SE B C fr value st fun x st2 => st2 = st ∧ SE B C fr ie st fun z st3 => st3 = st ∧ z = .str n ∧ ∃ t : Ent, x = t.lenc ∧ Kn fr (st.set P.nm (.dict (lsc (sc ++ [(n, t)])))))
    (hs : swapsWith value (some (.Subscript (.Name (S "names") p0) ie p2)) p3.line C.env = pure false) : SX1 B C fr (.Assign [.Subscript (.Name (S "names") p0) ie p2] value p3) st Kn Kr := by
  refine SX1_setItem (h.mono fun x st2 ⟨h1, h2⟩ => ?_) hs
  subst h1
  refine SE_loc hm (h2.mono fun z st3 ⟨h3, h4, t, h5, h6⟩ => ?_)
  subst h3 h4 h5
  refine .inl ⟨P.nm, lsc sc, n, rfl, rfl, hS.nm, by simpa [lsc] using hz, ?_⟩
  rw [storeD_lsc hl]
  exact h6

noncomputable def dueWhile : List Stmt := match (fBody (top 56)).getD 3 (.Pass default) with | .While _ b _ _ => b | _ => []
noncomputable def dueFor (j : Nat) : List Stmt := forB (dueWhile.getD (4 + j) (.Pass default))
noncomputable def armText : List Stmt := forB ((dueFor 0).getD 5 (.Pass default))
noncomputable def base9 (P : Stp) (vit : V) (k : Int) (c : Addr) (inside : V) : Fr' := [("items", vit), ("wired", .bool P.wired), ("told", .ref P.T), ("work", .ref P.W), ("step", .int k), ("above", .ref c), ("inside", inside), ("names", .ref P.nm), ("chain", .ref P.ch)]
noncomputable def foldArms (g : Int) (as : List Arm) (p : List Row × Sc) : List Row × Sc := as.foldl (fun p a => addLab a.l a.m g p) p
noncomputable def pendV (ch : Addr) (is : List Item) : V := .tup [.ref ch, .tup (encs is)]

/-- one turn over the arms -/
theorem arm_turn (F : Facts B) {P : Stp} (ok : P.Ok) {st1 : St} {p : List Row × Sc} {wk : List V} {a : Arm} {g : Int} {vit : V} {k : Int} {c : Addr} {inside : V} {Kn : Fr' → St → Prop} {Kr : V → St → Prop} (hd : 1 ≤ C.d) (hS : SD P st1 p.1 p.2 wk st) (hz1 : p.1.length ≤ 1000000) (hz2 : p.2.length ≤ 1000) (hz3 : wk.length ≤ 1000000)
    (h : ∀ st', SD P st1 (addLab a.l a.m g p).1 (addLab a.l a.m g p).2 (wk ++ [pendV P.ch a.is]) st' → (∀ b, b ≠ P.T → b ≠ P.W → b ≠ P.nm → st' b = st b) → Kn (base9 P vit k c inside ++ ([("group", .int g), ("arm", a.enc)] : Fr')) st') :
    ∀ body, armText = body → SX B C (base9 P vit k c inside ++ ([("group", .int g), ("arm", a.enc)] : Fr')) body st Kn Kr := by
  intro body hb
  subst hb
  simp only [base9, List.cons_append, List.nil_append, Arm.enc, Item.enc] at h ⊢
  refine SX_cons ?_
  refine SX1_expr ?_ rfl
  refine SE_append ?_ rfl rfl
  repeat k_extra "tb"
  refine ⟨P.W, rfl, ⟨_, hS.W⟩, ?_⟩
  repeat k_extra "tb"
  refine ⟨wk, hS.W, by k_extra "om", rfl, ?_⟩
  have ep : V.tup [.ref P.ch, .tup (encs a.is)] = pendV P.ch a.is := rfl
  rw [ep]
  have S2 := hS.work ok (wk ++ [pendV P.ch a.is])
  have fin : ∀ st', SD P st1 (addLab a.l a.m g p).1 (addLab a.l a.m g p).2 (wk ++ [pendV P.ch a.is]) st' → (∀ b, b ≠ P.T → b ≠ P.W → b ≠ P.nm → st' b = (st.set P.W (.list (wk ++ [pendV P.ch a.is]))) b) → _ := fun st' h1 h2 => h st' h1 (fun b q1 q2 q3 => by rw [h2 b q1 q2 q3, St.set_ne _ _ q2])
  cases ha : a.l with
  | none =>
    rw [ha] at fin
    dsimp only [encLab] at fin ⊢
    repeat k_extra "tb"
    exact fin _ (by simpa [addLab] using S2) (fun _ _ _ _ => rfl)
  | some n =>
    rw [ha] at fin
    simp only [addLab] at fin
    dsimp only [encLab] at fin ⊢
    cases hl : look p.2 n with
    | none =>
      simp only [addLabel, hl] at fin
      repeat k_extra "tb"
      refine SC_notIn_dict_no S2.nm (lsc_none hl) ?_
      repeat k_extra "tb"
      refine SX1_name S2 (by k_extra "rel") hz2 hl ?_ rfl
      repeat k_extra "tb"
      refine ⟨rfl, ?_⟩
      repeat k_extra "tb"
      refine ⟨rfl, rfl, .block a.m g, rfl, ?_⟩
      exact fin _ (S2.name ok _) (fun b q1 q2 q3 => by rw [St.set_ne _ _ q3])
    | some t =>
      repeat k_extra "tb"
      refine SC_notIn_dict_yes S2.nm (lsc_some hl) ?_
      repeat k_extra "tb"
      have bad : addLabel n a.m g p = (p.1 ++ [⟨"duplicate_label", a.m, n⟩], p.2) → SX B C [("items", vit), ("wired", .bool P.wired), ("told", .ref P.T), ("work", .ref P.W), ("step", .int k), ("above", .ref c), ("inside", inside), ("names", .ref P.nm), ("chain", .ref P.ch), ("group", .int g), ("arm", .tup [.str "genblock", .int a.m, .str n, .tup (encs a.is)])]
          (thenOf (elseOf [armText.getD 1 (.Pass default)])) (st.set P.W (.list (wk ++ [pendV P.ch a.is]))) Kn Kr := by
        intro e
        rw [e] at fin
        refine SX_one ?_
        refine SX1_expr ?_ rfl
        refine SE_told S2 (by k_extra "rel") hz1 ?_ rfl rfl
        repeat k_extra "tb"
        refine ⟨rfl, ⟨"duplicate_label", a.m, n⟩, rfl, rfl, ?_⟩
        exact fin _ (S2.told ok _) (fun b q1 q2 q3 => by rw [St.set_ne _ _ q1])
      refine SC_lt_int (fun hg => ?_) (fun hg => ?_)
      · refine ST_andNil (bad ?_)
        cases t <;> simp [addLabel, hl, hg]
      · repeat k_extra "tb"
        refine Idx.dict S2.nm (lsc_some hl) ?_
        dsimp only [Ent.lenc]
        repeat k_extra "tb"
        refine SC_ne_pair hd (sort_ok t) (by decide +kernel) (fun hne => ?_) (fun e1 e2 => ?_)
        · refine ST_andNil (bad ?_)
          cases t <;> simp only [addLabel, hl]
          rename_i m' g'
          have : g' ≠ g := fun q => hne ⟨rfl, q⟩
          simp [hg, this]
        · repeat k_extra "tb"
          have hp : addLabel n a.m g p = p := by
            cases t
            case block m' g' =>
              have e2 : g' = g := e2
              have : ¬ (g < 0 ∨ g' ≠ g) := by k_extra "om"
              simp only [addLabel, hl, this, if_false]
            all_goals exact absurd e1 (by simp only [Ent.sort]; decide +kernel)
          rw [hp] at fin
          exact fin _ S2 (fun _ _ _ _ => rfl)
end
section
variable {B : Base} {C : Cfg} {fr : Fr'} {st : St}

theorem armsL (F : Facts B) {P : Stp} (ok : P.Ok) {st1 : St} {p : List Row × Sc} {wk : List V} {as : List Arm} {ar : Addr} {g : Int} {vit : V} {k : Int} {c : Addr} {inside : V} {fr : Fr'} {Kn : Fr' → St → Prop} {Kr : V → St → Prop} (hd : 1 ≤ C.d)
    (hS : SD P st1 p.1 p.2 wk st) (har : st ar = some (.list (as.map Arm.enc))) (ne : ar ≠ P.T ∧ ar ≠ P.W ∧ ar ≠ P.nm) (hz1 : p.1.length + as.length ≤ 1000000) (hz2 : p.2.length + as.length ≤ 1000) (hz3 : wk.length + as.length ≤ 1000000)
    (hs : ∀ q ∈ base9 P vit k c inside ++ ([("group", .int g)] : Fr'), q ∈ fr)
    (h : ∀ fr' st', (∀ q ∈ base9 P vit k c inside, q ∈ fr') → SD P st1 (foldArms g as p).1 (foldArms g as p).2 (wk ++ as.map fun a => pendV P.ch a.is) st' → Kn fr' st') {x : PySem.Str} {xp : Pos} (hx : x = S "arm") (hsc : C.sc = fScope (top 56)) :
    Loop B C (fun s => s ar = some (.list (as.map Arm.enc))) (.Name x xp) armText (as.map Arm.enc) fr st Kn Kr := by
  subst hx
  refine Loop.invF (base9 P vit k c inside ++ ([("group", .int g)] : Fr')) (by simp only [base9, List.cons_append, List.nil_append, List.map_cons, List.map_nil]; decide +kernel) (fun l s => ∃ as' p' wk', l = as'.map Arm.enc ∧ s ar = some (.list (as.map Arm.enc)) ∧ SD P st1 p'.1 p'.2 wk' s ∧ foldArms g as' p' = foldArms g as p ∧ wk' ++ (as'.map fun a => pendV P.ch a.is) = wk ++ (as.map fun a => pendV P.ch a.is)
      ∧ p'.1.length + as'.length ≤ 1000000 ∧ p'.2.length + as'.length ≤ 1000 ∧ wk'.length + as'.length ≤ 1000000)
    (fun _ _ ⟨_, _, _, _, h, _⟩ => h) ?_ ?_ hs ⟨as, p, wk, rfl, har, hS, rfl, rfl, hz1, hz2, hz3⟩
  · rintro v l s ⟨as', p', wk', hl, hr, hS', hf, hw, z1, z2, z3⟩
    cases as' with
    | nil => cases hl
    | cons a as' =>
      simp only [List.map_cons, List.cons.injEq] at hl
      obtain ⟨rfl, rfl⟩ := hl
      simp only [List.length_cons] at z1 z2 z3
      have hb : base9 P vit k c inside ++ ([("group", .int g)] : Fr') = ([("items", vit), ("wired", .bool P.wired), ("told", .ref P.T), ("work", .ref P.W), ("step", .int k), ("above", .ref c), ("inside", inside), ("names", .ref P.nm), ("chain", .ref P.ch), ("group", .int g)] : Fr') := rfl
      rw [hb]
      refine AS_name (by k_extra "put") ?_
      refine arm_turn F ok (p := p') hd hS' (by k_extra "om") (by k_extra "om") (by k_extra "om") (fun st' S' kk => ?_) _ rfl
      have hlen := addLab_len a.l a.m g p'
      refine ⟨by unfold base9; simp only [List.cons_append, List.nil_append]; k_extra "sub", as', addLab a.l a.m g p', wk' ++ [pendV P.ch a.is], rfl, by rw [kk ar ne.1 ne.2.1 ne.2.2]; exact hr, S', hf, ?_, by k_extra "om", by k_extra "om", by simp only [List.length_append, List.length_cons, List.length_nil]; k_extra "om"⟩
      rw [← hw]; simp
  · rintro fr' s hs' ⟨as', p', wk', hl, hr, hS', hf, hw, z1, z2, z3⟩
    cases as' with
    | cons a as' => cases hl
    | nil =>
      have hf : p' = _ := hf
      simp only [List.map_nil, List.append_nil] at hw
      rw [hf, hw] at hS'
      exact h fr' s (fun q hq => hs' q (List.mem_append_left _ hq)) hS'

theorem foldArms_append (g : Int) (as bs : List Arm) (p : List Row × Sc) : foldArms g (as ++ bs) p = foldArms g bs (foldArms g as p) := by simp [foldArms, List.foldl_append]
theorem declBranch_arms (g : Int) : ∀ (i : Item) (p : List Row × Sc), declBranch g i p = foldArms g (arms i) p
  | .gif m c x y, p => by simp only [declBranch, arms]; rw [foldArms_append, declBranch_arms g x, declBranch_arms g y]
  | .gcase m c l x y, p => by simp only [declBranch, arms]; rw [foldArms_append, declBranch_arms g x, declBranch_arms g y]
  | .block m l is, p => by simp [declBranch, arms, foldArms]
  | .nop, p => by simp [declBranch, arms, foldArms]
  | .cassign _ _ _, p => by simp [declBranch, arms, foldArms, addLab]
  | .gate _ _ _, p => by simp [declBranch, arms, foldArms, addLab]
  | .net _ _, p => by simp [declBranch, arms, foldArms, addLab]
  | .var _ _, p => by simp [declBranch, arms, foldArms, addLab]
  | .param _ _, p => by simp [declBranch, arms, foldArms, addLab]
  | .event _ _, p => by simp [declBranch, arms, foldArms, addLab]
  | .gfor _ _ _ _ _, p => by simp [declBranch, arms, foldArms, addLab]
/-- the scopes that an item opens -/
noncomputable def kidArms : Item → List Arm
  | .block m l is => [⟨m, l, is⟩]
  | .gfor _ _ bm bl is => [⟨bm, bl, is⟩]
  | .gif m c x y => arms (.gif m c x y)
  | .gcase m c l x y => arms (.gcase m c l x y)
  | .nop => []
  | .cassign _ _ _ => []
  | .gate _ _ _ => []
  | .net _ _ => []
  | .var _ _ => []
  | .param _ _ => []
  | .event _ _ => []
theorem kidArms_len (i : Item) : (kidArms i).length ≤ i.wt := by
  cases i
  case gif m c x y => exact arms_len _
  case gcase m c l x y => exact arms_len _
  all_goals simp [kidArms, Item.wt]

noncomputable def spotsD : List (PySem.Str × V) := [("net", .int 6), ("var", .int 5), ("param", .int 5), ("event", .int 2)]
set_option maxHeartbeats 1000000 in
/-- the rest of the turn for an item without arms -/
theorem due_plain (F : Facts B) {P : Stp} (ok : P.Ok) {st1 : St} {p : List Row × Sc} {wk : List V} {i : Item} {vit : V} {k : Int} {c : Addr} {inside : V} {Kn : Fr' → St → Prop} {Kr : V → St → Prop} (hsc : C.sc = fScope (top 56)) (hw : i.wt ≤ 300) (hd : i.wt + 1 ≤ C.d)
    (hz1 : p.1.length + i.wt ≤ 1000000) (hz2 : p.2.length + i.wt ≤ 1000) (hz3 : wk.length + i.wt ≤ 1000000)
    (h : ∀ fr' st', (∀ q ∈ base9 P vit k c inside, q ∈ fr') → SD P st1 (declItem i p).1 (declItem i p).2 (wk ++ (kidArms i).map fun a => pendV P.ch a.is) st' → Kn fr' st')
    {a : String} {l : List V} {s : St} {q : List Row × Sc} (hs : SD P st1 q.1 q.2 wk s) (hq : q = declItem i p) (hkk : kidArms i = [])
    (t1 : (Str.ofString a == Str.ofString "genblock") = false) (t2 : (Str.ofString a == Str.ofString "genfor") = false) (t3 : (Str.ofString a == Str.ofString "genif") = false) (t4 : (Str.ofString a == Str.ofString "gencase") = false) :
    ∀ body, (dueFor 0).drop 2 = body → SX B C (base9 P vit k c inside ++ ([("item", .tup (.str (Str.ofString a) :: l))] : Fr')) body s Kn Kr := by
  intro body hb
  subst hb
  have hw0 := i.wt_pos
  simp only [base9, List.cons_append, List.nil_append]
  refine SX_cons ?_
  repeat k_extra "tb"
  refine SE_List (SEs_nil ⟨by decide, fun e he => ?_⟩)
  refine Put.go (by k_extra "put") ?_
  refine SX_tag_nec (by k_extra "rel") t1 ?_
  refine SX_tag_ne (by k_extra "rel") t2 ?_
  refine SX_if1 ?_
  refine ST_cmp ?_
  repeat k_extra "tb"
  refine SC_in_lit rfl (fun hm => ?_) (fun _ => ?_)
  · simp only [strsOf, List.mem_cons, List.not_mem_nil, or_false] at hm
    rcases hm with e1 | e1
    · rw [e1] at t3; simp at t3
    · rw [e1] at t4; simp at t4
  refine SX_nil ?_
  refine SX_one ?_
  refine SX1_for_list ?_ (.name _ _) (by intro _; rfl)
  repeat k_extra "tb"
  refine ⟨e, [], rfl, by simp, ?_⟩
  refine armsL F ok (as := []) (by k_extra "om") (hs.alloc he) (by simp) (hs.fresh he) (by subst hq; have := declItem_len i p; simp; k_extra "om") (by subst hq; have := declItem_len i p; simp; k_extra "om") (by simp; k_extra "om") (by simp only [base9, List.cons_append, List.nil_append]; k_extra "sub") (fun fr'' s' h1 h2 => ?_) rfl hsc
  refine h fr'' s' h1 ?_
  rw [hkk]
  have : foldArms (-1) [] q = declItem i p := hq
  rw [this] at h2
  exact h2
theorem due_fin (F : Facts B) {P : Stp} (ok : P.Ok) {st1 : St} {p : List Row × Sc} {wk : List V} {i : Item} {vit : V} {k : Int} {c : Addr} {inside : V} {Kn : Fr' → St → Prop} {Kr : V → St → Prop} (hsc : C.sc = fScope (top 56)) (hw : i.wt ≤ 300) (hd : i.wt + 1 ≤ C.d)
    (hz1 : p.1.length + i.wt ≤ 1000000) (hz2 : p.2.length + i.wt ≤ 1000) (hz3 : wk.length + i.wt ≤ 1000000)
    (h : ∀ fr' st', (∀ q ∈ base9 P vit k c inside, q ∈ fr') → SD P st1 (declItem i p).1 (declItem i p).2 (wk ++ (kidArms i).map fun a => pendV P.ch a.is) st' → Kn fr' st')
    {a : String} {l : List V} {s : St} {q : List Row × Sc} (hs : SD P st1 q.1 q.2 wk s) (hq : q = declItem i p) (hkk : kidArms i = [])
    (t1 : (Str.ofString a == Str.ofString "genblock") = false) (t2 : (Str.ofString a == Str.ofString "genfor") = false) (t3 : (Str.ofString a == Str.ofString "genif") = false) (t4 : (Str.ofString a == Str.ofString "gencase") = false)
    {fr' : Fr'} (hsub : ∀ y ∈ base9 P vit k c inside ++ ([("item", .tup (.str (Str.ofString a) :: l))] : Fr'), y ∈ fr') : ∀ body, (dueFor 0).drop 2 = body → SX B C fr' body s Kn Kr := fun body hb =>
  SX_forget hsub (by simp only [base9, List.cons_append, List.nil_append]; k_extra "nd") (due_plain F ok hsc hw hd hz1 hz2 hz3 h hs hq hkk t1 t2 t3 t4 body hb)
/-- the turn for an item that declares a name -/
theorem due_spot (F : Facts B) {P : Stp} (ok : P.Ok) {st1 : St} {p : List Row × Sc} {wk : List V} {i : Item} {vit : V} {k : Int} {c : Addr} {inside : V} {Kn : Fr' → St → Prop} {Kr : V → St → Prop} (hsc : C.sc = fScope (top 56)) (hw : i.wt ≤ 300) (hd : i.wt + 1 ≤ C.d)
    (hz1 : p.1.length + i.wt ≤ 1000000) (hz2 : p.2.length + i.wt ≤ 1000) (hz3 : wk.length + i.wt ≤ 1000000)
    (h : ∀ fr' st', (∀ q ∈ base9 P vit k c inside, q ∈ fr') → SD P st1 (declItem i p).1 (declItem i p).2 (wk ++ (kidArms i).map fun a => pendV P.ch a.is) st' → Kn fr' st')
    {a : String} {z : Int} {l : List V} {m : Int} {n : PySem.Str} {en : Ent} {s : St} {sp : Addr} (S0 : SD P st1 p.1 p.2 wk s) (hspots : s sp = some (.dict spotsD)) (hkk : kidArms i = [])
    (hz : lookD spotsD (Str.ofString a) = some (.int z)) (hzz : (decide (0 ≤ z) && decide (z < 2 ^ 40)) = true) (hn : (V.str (Str.ofString a) :: .int m :: l)[z.toNat]? = some (.str n))
    (hen : V.tup [.str (Str.ofString a), .int (-1)] = en.lenc)
    (q1 : ∀ t, look p.2 n = some t → (p.1 ++ [⟨"duplicate", m, n⟩], p.2) = declItem i p) (q2 : look p.2 n = none → (p.1, p.2 ++ [(n, en)]) = declItem i p)
    (t1 : (Str.ofString a == Str.ofString "genblock") = false) (t2 : (Str.ofString a == Str.ofString "genfor") = false) (t3 : (Str.ofString a == Str.ofString "genif") = false) (t4 : (Str.ofString a == Str.ofString "gencase") = false) :
    ∀ body, (dueFor 0).drop 1 = body → SX B C (base9 P vit k c inside ++ ([("item", .tup (.str (Str.ofString a) :: .int m :: l)), ("spots", .ref sp)] : Fr')) body s Kn Kr := by
  intro body hb
  subst hb
  have hw0 := i.wt_pos
  simp only [base9, List.cons_append, List.nil_append]
  refine SX_cons ?_
  repeat k_extra "tb"
  refine SC_in_dict_yes hspots hz ?_
  repeat k_extra "tb"
  refine Idx.dict hspots hz ?_
  repeat k_extra "tb"
  refine Idx_t hzz hn ?_
  repeat k_extra "tb"
  cases hl : look p.2 n with
  | some t =>
    refine SC_in_dict_yes S0.nm (lsc_some hl) ?_
    refine SX_one ?_
    refine SX1_expr ?_ rfl
    refine SE_told S0 (by k_extra "rel") (by k_extra "om") ?_ rfl rfl
    repeat k_extra "tb"
    refine ⟨rfl, ⟨"duplicate", m, n⟩, rfl, rfl, ?_⟩
    have S1 := S0.told ok ⟨"duplicate", m, n⟩
    with_reducible refine due_fin F ok (q := (p.1 ++ [⟨"duplicate", m, n⟩], p.2)) (a := a) (l := .int m :: l) hsc hw hd hz1 hz2 hz3 h S1 (q1 t hl) hkk t1 t2 t3 t4 ?hsub _ ?hbody
    case hbody => exact rfl
    case hsub => simp only [base9, List.cons_append, List.nil_append]; k_extra "sub"
  | none =>
    refine SC_in_dict_no S0.nm (lsc_none hl) ?_
    refine SX_one ?_
    refine SX1_name S0 (by k_extra "rel") (by k_extra "om") hl ?_ rfl
    repeat k_extra "tb"
    refine ⟨rfl, ?_⟩
    repeat k_extra "tb"
    refine ⟨rfl, rfl, en, hen, ?_⟩
    have S1 := S0.name ok (p.2 ++ [(n, en)])
    with_reducible refine due_fin F ok (q := (p.1, p.2 ++ [(n, en)])) (a := a) (l := .int m :: l) hsc hw hd hz1 hz2 hz3 h S1 (q2 hl) hkk t1 t2 t3 t4 ?hsub _ ?hbody
    case hbody => exact rfl
    case hsub => simp only [base9, List.cons_append, List.nil_append]; k_extra "sub"
set_option maxHeartbeats 1000000 in
/-- one turn of the law's declaring loop -/
theorem due_turn1 (F : Facts B) {P : Stp} (ok : P.Ok) {st1 : St} {p : List Row × Sc} {wk : List V} {i : Item} {vit : V} {k : Int} {c : Addr} {inside : V} {Kn : Fr' → St → Prop} {Kr : V → St → Prop} (hsc : C.sc = fScope (top 56)) (hi : i ≠ .nop) (hw : i.wt ≤ 300) (hd : i.wt + 1 ≤ C.d)
    (hS : SD P st1 p.1 p.2 wk st) (hz1 : p.1.length + i.wt ≤ 1000000) (hz2 : p.2.length + i.wt ≤ 1000) (hz3 : wk.length + i.wt ≤ 1000000)
    (h : ∀ fr' st', (∀ q ∈ base9 P vit k c inside, q ∈ fr') → SD P st1 (declItem i p).1 (declItem i p).2 (wk ++ (kidArms i).map fun a => pendV P.ch a.is) st' → Kn fr' st') :
    ∀ body, dueFor 0 = body → SX B C (base9 P vit k c inside ++ ([("item", i.enc)] : Fr')) body st Kn Kr := by
  intro body hb
  subst hb
  have hw0 := i.wt_pos
  have hk := kidArms_len i
  simp only [base9, List.cons_append, List.nil_append]
  refine SX_cons ?_
  with_reducible refine SX1_assign (SE_Dict ?_ ?h1 ?h2 ?h3 ?h4) ?h5
  case h1 => exact rfl
  case h2 => exact rfl
  case h3 => simp
  case h4 => exact Nat.le_of_ble_eq_true rfl
  case h5 => exact rfl
  refine SPs_cons ?_
  repeat k_extra "tb"
  refine SPs_cons ?_
  repeat k_extra "tb"
  refine SPs_cons ?_
  repeat k_extra "tb"
  refine SPs_cons ?_
  repeat k_extra "tb"
  refine SPs_nil ⟨by k_extra "nd", fun sp hsp => ?_⟩
  have S0 := hS.alloc (m := .dict spotsD) hsp
  have hspots : (st.set sp (.dict spotsD)) sp = some (.dict spotsD) := by simp
  have eD : (.dict [("net", .int 6), ("var", .int 5), ("param", .int 5), ("event", .int 2)] : MObj) = .dict spotsD := rfl
  -- what a plain item leaves: nothing for the arms
  have noArms : ∀ (s : St) (q : List Row × Sc) (e : Addr) (fr' : Fr'), s e = none → SD P st1 q.1 q.2 wk s → q = declItem i p → kidArms i = [] → (∀ x ∈ base9 P vit k c inside ++ ([("group", .int (-1))] : Fr'), x ∈ fr') → ∀ {xp : Pos},
      Loop B C (fun s' => s' e = some (.list [])) (.Name (S "arm") xp) armText [] fr' (s.set e (.list [])) Kn Kr := by
    intro s q e fr' he hs hq hkk hfr xp
    refine armsL F ok (as := []) (by k_extra "om") (hs.alloc he) (by simp) (hs.fresh he) (by subst hq; have := declItem_len i p; simp; k_extra "om") (by subst hq; have := declItem_len i p; simp; k_extra "om") (by simp; k_extra "om") hfr (fun fr'' s' h1 h2 => ?_) rfl hsc
    refine h fr'' s' h1 ?_
    rw [hkk]
    have : foldArms (-1) [] q = declItem i p := hq
    rw [this] at h2
    exact h2
  rw [eD]
  refine Put.go (by k_extra "put") ?_
  cases hq : i
  case nop => exact absurd hq hi
  case net m n =>
    subst hq
    simp only [Item.enc]
    exact due_spot F ok (a := "net") (z := 6) (m := m) (n := n) (en := .net m) hsc hw hd hz1 hz2 hz3 h S0 hspots rfl rfl rfl rfl rfl (fun t hl => by simp only [declItem, addName, hl]) (fun hl => by simp only [declItem, addName, hl]) (by kernel_rfl) (by kernel_rfl) (by kernel_rfl) (by kernel_rfl) _ rfl
  case var m n =>
    subst hq
    simp only [Item.enc]
    exact due_spot F ok (a := "var") (z := 5) (m := m) (n := n) (en := .var m) hsc hw hd hz1 hz2 hz3 h S0 hspots rfl rfl rfl rfl rfl (fun t hl => by simp only [declItem, addName, hl]) (fun hl => by simp only [declItem, addName, hl]) (by kernel_rfl) (by kernel_rfl) (by kernel_rfl) (by kernel_rfl) _ rfl
  case param m n =>
    subst hq
    simp only [Item.enc]
    exact due_spot F ok (a := "param") (z := 5) (m := m) (n := n) (en := .param m) hsc hw hd hz1 hz2 hz3 h S0 hspots rfl rfl rfl rfl rfl (fun t hl => by simp only [declItem, addName, hl]) (fun hl => by simp only [declItem, addName, hl]) (by kernel_rfl) (by kernel_rfl) (by kernel_rfl) (by kernel_rfl) _ rfl
  case event m n =>
    subst hq
    simp only [Item.enc]
    exact due_spot F ok (a := "event") (z := 2) (m := m) (n := n) (en := .event m) hsc hw hd hz1 hz2 hz3 h S0 hspots rfl rfl rfl rfl rfl (fun t hl => by simp only [declItem, addName, hl]) (fun hl => by simp only [declItem, addName, hl]) (by kernel_rfl) (by kernel_rfl) (by kernel_rfl) (by kernel_rfl) _ rfl
  case cassign m t v =>
    subst hq
    simp only [Item.enc]
    refine SX_cons ?_
    repeat k_extra "tb"
    refine SC_in_dict_no hspots rfl ?_
    refine SX_nil ?_
    with_reducible refine due_fin F ok (q := p) (a := "cassign") (l := [.int m, .none, .none, t.ex.enc, v.enc]) hsc hw hd hz1 hz2 hz3 h S0 rfl rfl (by kernel_rfl) (by kernel_rfl) (by kernel_rfl) (by kernel_rfl) ?hsub _ ?hbody
    case hbody => exact rfl
    case hsub => simp only [base9, List.cons_append, List.nil_append]; k_extra "sub"
  case gate m t v =>
    subst hq
    simp only [Item.enc]
    refine SX_cons ?_
    repeat k_extra "tb"
    refine SC_in_dict_no hspots rfl ?_
    refine SX_nil ?_
    with_reducible refine due_fin F ok (q := p) (a := "gate") (l := [.int m, .str "and", .none, .none, .none, .none, .tup [t.ex.enc, v.enc]]) hsc hw hd hz1 hz2 hz3 h S0 rfl rfl (by kernel_rfl) (by kernel_rfl) (by kernel_rfl) (by kernel_rfl) ?hsub _ ?hbody
    case hbody => exact rfl
    case hsub => simp only [base9, List.cons_append, List.nil_append]; k_extra "sub"
  case block m l is =>
    subst hq
    simp only [Item.enc]
    refine SX_cons ?_
    repeat k_extra "tb"
    refine SC_in_dict_no hspots rfl ?_
    repeat k_extra "tb"
    refine SE_List (SEs_nil ⟨by decide, fun e he => ?_⟩)
    have S1 := S0.alloc (m := .list []) he
    repeat k_extra "tb"
    refine SE_List ?_
    repeat k_extra "tb"
    intro e2 he2
    have S2 := S1.alloc (m := .list ([(⟨m, l, is⟩ : Arm)].map Arm.enc)) he2
    repeat k_extra "tb"
    refine SX1_for_list ?_ (.name _ _) (by intro _; rfl)
    repeat k_extra "tb"
    refine ⟨e2, [(⟨m, l, is⟩ : Arm)].map Arm.enc, rfl, by rw [St.set_same]; rfl, ?_⟩
    refine armsL F ok (p := p) (wk := wk) (as := [⟨m, l, is⟩]) (by k_extra "om") S2 (by rw [St.set_same]) (S1.fresh he2) (by simp only [List.length_cons, List.length_nil]; k_extra "om") (by simp only [List.length_cons, List.length_nil]; k_extra "om") (by simp only [List.length_cons, List.length_nil]; k_extra "om") (by simp only [base9, List.cons_append, List.nil_append]; k_extra "sub") (fun fr'' s' h1 h2 => ?_) rfl hsc
    exact h fr'' s' h1 h2
  case gfor m n bm bl is =>
    subst hq
    simp only [Item.enc]
    refine SX_cons ?_
    repeat k_extra "tb"
    refine SC_in_dict_no hspots rfl ?_
    repeat k_extra "tb"
    refine SE_List (SEs_nil ⟨by decide, fun e he => ?_⟩)
    have S1 := S0.alloc (m := .list []) he
    repeat k_extra "tb"
    refine SE_List ?_
    repeat k_extra "tb"
    intro e2 he2
    have S2 := S1.alloc (m := .list ([(⟨bm, bl, is⟩ : Arm)].map Arm.enc)) he2
    repeat k_extra "tb"
    refine SX1_for_list ?_ (.name _ _) (by intro _; rfl)
    repeat k_extra "tb"
    refine ⟨e2, [(⟨bm, bl, is⟩ : Arm)].map Arm.enc, rfl, by rw [St.set_same]; rfl, ?_⟩
    refine armsL F ok (p := p) (wk := wk) (as := [⟨bm, bl, is⟩]) (by k_extra "om") S2 (by rw [St.set_same]) (S1.fresh he2) (by simp only [List.length_cons, List.length_nil]; k_extra "om") (by simp only [List.length_cons, List.length_nil]; k_extra "om") (by simp only [List.length_cons, List.length_nil]; k_extra "om") (by simp only [base9, List.cons_append, List.nil_append]; k_extra "sub") (fun fr'' s' h1 h2 => ?_) rfl hsc
    exact h fr'' s' h1 h2
  case gif m cc x y =>
    subst hq
    have hA := fun st Q hp => law_arms_spec F (.gif m cc x y) st Q (by k_extra "om") hp
    have hB : ∀ p, declBranch m (.gif m cc x y) p = foldArms m (arms (.gif m cc x y)) p := declBranch_arms m (.gif m cc x y)
    have hlen := arms_len (.gif m cc x y)
    simp only [Item.enc] at hA ⊢
    refine SX_cons ?_
    repeat k_extra "tb"
    refine SC_in_dict_no hspots rfl ?_
    repeat k_extra "tb"
    refine SE_List (SEs_nil ⟨by decide, fun e he => ?_⟩)
    have S1 := S0.alloc (m := .list []) he
    repeat k_extra "tb"
    refine ((hA _ _ (PostL.of fun a2 s2 f2 e2 k2 => ?_)).less (by k_extra "om")).call
    have S2 := S1.keep k2
    repeat k_extra "tb"
    refine SX1_for_list ?_ (.name _ _) (by intro _; rfl)
    repeat k_extra "tb"
    refine ⟨a2, _, rfl, e2, ?_⟩
    refine armsL F ok (p := p) (wk := wk) (as := arms (.gif m cc x y)) (by k_extra "om") S2 e2 (S1.fresh f2) (by k_extra "om") (by k_extra "om") (by k_extra "om") (by simp only [base9, List.cons_append, List.nil_append]; k_extra "sub") (fun fr'' s' h1 h2 => ?_) rfl hsc
    refine h fr'' s' h1 ?_
    have e3 : declItem (.gif m cc x y) p = foldArms m (arms (.gif m cc x y)) p := hB p
    rw [e3]
    exact h2
  case gcase m cc l x y =>
    subst hq
    have hA := fun st Q hp => law_arms_spec F (.gcase m cc l x y) st Q (by k_extra "om") hp
    have hB : ∀ p, declBranch m (.gcase m cc l x y) p = foldArms m (arms (.gcase m cc l x y)) p := declBranch_arms m (.gcase m cc l x y)
    have hlen := arms_len (.gcase m cc l x y)
    simp only [Item.enc] at hA ⊢
    refine SX_cons ?_
    repeat k_extra "tb"
    refine SC_in_dict_no hspots rfl ?_
    repeat k_extra "tb"
    refine SE_List (SEs_nil ⟨by decide, fun e he => ?_⟩)
    have S1 := S0.alloc (m := .list []) he
    repeat k_extra "tb"
    refine ((hA _ _ (PostL.of fun a2 s2 f2 e2 k2 => ?_)).less (by k_extra "om")).call
    have S2 := S1.keep k2
    repeat k_extra "tb"
    refine SX1_for_list ?_ (.name _ _) (by intro _; rfl)
    repeat k_extra "tb"
    refine ⟨a2, _, rfl, e2, ?_⟩
    refine armsL F ok (p := p) (wk := wk) (as := arms (.gcase m cc l x y)) (by k_extra "om") S2 e2 (S1.fresh f2) (by k_extra "om") (by k_extra "om") (by k_extra "om") (by simp only [base9, List.cons_append, List.nil_append]; k_extra "sub") (fun fr'' s' h1 h2 => ?_) rfl hsc
    refine h fr'' s' h1 ?_
    have e3 : declItem (.gcase m cc l x y) p = foldArms m (arms (.gcase m cc l x y)) p := hB p
    rw [e3]
    exact h2
end
section
variable {B : Base} {C : Cfg} {fr : Fr'} {st : St}

/-- the full chain, the step's own table ahead -/
theorem SD.near {P : Stp} {st1 : St} {rows : List Row} {sc : Sc} {wk : List V} (h : SD P st1 rows sc wk st) : LC st (P.nm :: P.ds) (sc :: P.env) := ⟨h.nm, h.lc⟩

noncomputable def wordText : List Stmt := forB ((dueFor 1).getD 2 (.Pass default))
noncomputable def addUses (env : List Sc) (us : List Use) (sc : Sc) : Sc := us.foldl (fun sc u => addUse env u sc) sc
theorem addImpl_words (env : List Sc) (x : Ex) (sc : Sc) (hx : ∀ m u, x ≠ .un m u) : addImpl env x sc = addUses env (words x) sc := by
  cases x <;> simp [addImpl, addUses, words]
  exact absurd rfl (hx _ _)

/-- for word in ends: .. -/
theorem wordsL (F : Facts B) {P : Stp} (ok : P.Ok) {st1 : St} {rows : List Row} {sc : Sc} {wk : List V} {us : List Use} {ar : Addr} {vit : V} {k : Int} {c : Addr} {inside : V} {fr : Fr'} {Kn : Fr' → St → Prop} {Kr : V → St → Prop} (hsc : C.sc = fScope (top 56)) (hd : 1 ≤ C.d)
    (hS : SD P st1 rows sc wk st) (har : st ar = some (.list (us.map Use.enc))) (ne : ar ≠ P.nm) (hz2 : sc.length + us.length ≤ 1000)
    (hs : ∀ q ∈ base9 P vit k c inside, q ∈ fr)
    (h : ∀ fr' st', (∀ q ∈ base9 P vit k c inside, q ∈ fr') → SD P st1 rows (addUses P.env us sc) wk st' → Kn fr' st') {x : PySem.Str} {xp : Pos} (hx : x = S "word") :
    Loop B C (fun s => s ar = some (.list (us.map Use.enc))) (.Name x xp) wordText (us.map Use.enc) fr st Kn Kr := by
  subst hx
  refine Loop.invF (base9 P vit k c inside) (by simp only [base9, List.map_cons, List.map_nil]; decide +kernel) (fun l s => ∃ us' sc', l = us'.map Use.enc ∧ s ar = some (.list (us.map Use.enc)) ∧ SD P st1 rows sc' wk s ∧ addUses P.env us' sc' = addUses P.env us sc ∧ sc'.length + us'.length ≤ 1000)
    (fun _ _ ⟨_, _, _, h, _⟩ => h) ?_ ?_ hs ⟨us, sc, rfl, har, hS, rfl, hz2⟩
  · rintro v l s ⟨us', sc', hl, hr, hS', hf, z2⟩
    cases us' with
    | nil => cases hl
    | cons u us' =>
      simp only [List.map_cons, List.cons.injEq] at hl
      obtain ⟨rfl, rfl⟩ := hl
      simp only [List.length_cons] at z2
      have hlen := addUse_len P.env u sc'
      simp only [base9]
      refine AS_name (by k_extra "put") ?_
      simp only [Use.enc]
      refine SX_one ?_
      repeat k_extra "tb"
      refine ((law_nearest_spec F hS'.ch hS'.near ?_).less (by k_extra "om")).call
      repeat k_extra "tb"
      cases hq : lookEnv (sc' :: P.env) u.n with
      | none =>
        have e1 : addUse P.env u sc' = sc' ++ [(u.n, .net u.pl)] := by simp [addUse, hq]
        refine SC_eq_str (fun _ => ?_) (fun hne => absurd rfl hne)
        refine SX_one ?_
        refine SX1_name hS' (by k_extra "rel") (by k_extra "om") (lookEnv_none hq) ?_ rfl
        repeat k_extra "tb"
        refine ⟨rfl, ?_⟩
        repeat k_extra "tb"
        refine ⟨rfl, rfl, .net u.pl, rfl, ?_⟩
        rw [← e1]
        exact ⟨by k_extra "sub", us', addUse P.env u sc', rfl, by rw [St.set_ne _ _ ne]; exact hr, hS'.name ok _, hf, by k_extra "om"⟩
      | some t =>
        have e1 : addUse P.env u sc' = sc' := by simp [addUse, hq]
        have hne : t.sort ≠ "" := by cases t <;> (simp only [Ent.sort]; decide +kernel)
        refine SC_eq_str (fun he => absurd he hne) (fun _ => ?_)
        repeat k_extra "tb"
        exact ⟨by k_extra "sub", us', sc', rfl, hr, hS', by rw [← hf]; show _ = addUses P.env us' (addUse P.env u sc'); rw [e1], by k_extra "om"⟩
  · rintro fr' s hs' ⟨us', sc', hl, hr, hS', hf, z2⟩
    cases us' with
    | cons a as' => cases hl
    | nil =>
      have hf : sc' = _ := hf
      rw [hf] at hS'
      exact h fr' s hs' hS'
theorem addUses_append (env : List Sc) (us vs : List Use) (sc : Sc) : addUses env (us ++ vs) sc = addUses env vs (addUses env us sc) := by simp [addUses, List.foldl_append]
theorem words_len (x : Ex) : (words x).length ≤ 2 := by cases x <;> simp [words]

noncomputable def wordsN : Ex → List Use
  | .un _ _ => []
  | x => words x
theorem wordsN_len (x : Ex) : (wordsN x).length ≤ 2 := by cases x <;> simp [wordsN, words]
theorem addImpl_wordsN (env : List Sc) (x : Ex) (sc : Sc) : addImpl env x sc = addUses env (wordsN x) sc := by
  cases x <;> simp [addImpl, addUses, words, wordsN]
noncomputable def endsText : List Stmt := forB ((thenOf (elseOf [(dueFor 1).getD 1 (.Pass default)])).headD (.Pass default))
theorem ends_turn (F : Facts B) {P : Stp} {x : Ex} {a : Addr} {us : List Use} {vit : V} {k : Int} {c : Addr} {inside iv : V} {Kn : Fr' → St → Prop} {Kr : V → St → Prop} (hsc : C.sc = fScope (top 56)) (hd : 1 ≤ C.d) (ha : st a = some (.list (us.map Use.enc))) (hz : us.length ≤ 100)
    (h : ∀ b st', st b = none → st' b = some (.list ((us ++ wordsN x).map Use.enc)) → Keep st st' → Kn (base9 P vit k c inside ++ ([("item", iv), ("ends", .ref b), ("e", x.enc)] : Fr')) st') :
    ∀ body, endsText = body → SX B C (base9 P vit k c inside ++ ([("item", iv), ("ends", .ref a), ("e", x.enc)] : Fr')) body st Kn Kr := by
  intro body hb
  subst hb
  have hl := wordsN_len x
  simp only [base9, List.cons_append, List.nil_append] at h ⊢
  have fin : ∀ (d : Addr) (s2 : St), s2 d = some (.list ((wordsN x).map Use.enc)) → Keep st s2 → SOp B C .Add (.ref a) (.ref d) s2 fun v st1 => ∃ fr1, Put C [("items", vit), ("wired", .bool P.wired), ("told", .ref P.T), ("work", .ref P.W), ("step", .int k), ("above", .ref c), ("inside", inside), ("names", .ref P.nm), ("chain", .ref P.ch), ("item", iv), ("ends", .ref a), ("e", x.enc)] (S "ends") v fr1 ∧ Kn fr1 st1 := by
    intro d s2 h2 k2
    refine SOp_list (.inl (k2 _ _ ha)) (.inl h2) (by simp only [List.length_map]; k_extra "om") (fun b f3 => ?_)
    refine Put.go (by k_extra "put") ?_
    exact h b _ (k2.none f3) (by rw [St.set_same, List.map_append]) (k2.trans (.alloc f3))
  cases x
  case un m u =>
    simp only [Ex.enc] at fin ⊢
    refine SX_one ?_
    repeat k_extra "tb"
    refine SE_List (SEs_nil ⟨by decide, fun d hd => ?_⟩)
    exact fin d _ (by simp [wordsN]) (.alloc hd)
  case num =>
    have hW := fun Q hp => law_words_spec F .num (st := st) (Q := Q) hp
    simp only [Ex.enc] at fin hW ⊢
    refine SX_one ?_
    repeat k_extra "tb"
    refine ((hW _ (PostL.of fun d s2 f2 e2 k2 => ?_)).less (by k_extra "om")).call
    exact fin d s2 e2 k2
  case id u =>
    have hW := fun Q hp => law_words_spec F (.id u) (st := st) (Q := Q) hp
    simp only [Ex.enc, Use.enc] at fin hW ⊢
    refine SX_one ?_
    repeat k_extra "tb"
    refine ((hW _ (PostL.of fun d s2 f2 e2 k2 => ?_)).less (by k_extra "om")).call
    exact fin d s2 e2 k2
  case cat m u v =>
    have hW := fun Q hp => law_words_spec F (.cat m u v) (st := st) (Q := Q) hp
    simp only [Ex.enc] at fin hW ⊢
    refine SX_one ?_
    repeat k_extra "tb"
    refine ((hW _ (PostL.of fun d s2 f2 e2 k2 => ?_)).less (by k_extra "om")).call
    exact fin d s2 e2 k2

set_option maxHeartbeats 1000000 in
/-- one turn of the law's implicit-net loop -/
theorem due_turn2 (F : Facts B) {P : Stp} (ok : P.Ok) {st1 : St} {rows : List Row} {sc : Sc} {wk : List V} {i : Item} {vit : V} {k : Int} {c : Addr} {inside : V} {Kn : Fr' → St → Prop} {Kr : V → St → Prop} (hsc : C.sc = fScope (top 56)) (hi : i ≠ .nop) (hd : 1 ≤ C.d)
    (hS : SD P st1 rows sc wk st) (hz2 : sc.length + i.wt ≤ 1000)
    (h : ∀ fr' st', (∀ q ∈ base9 P vit k c inside, q ∈ fr') → SD P st1 rows (if P.wired then declImpl P.env i sc else sc) wk st' → Kn fr' st') :
    ∀ body, dueFor 1 = body → SX B C (base9 P vit k c inside ++ ([("item", i.enc)] : Fr')) body st Kn Kr := by
  intro body hb
  subst hb
  have sub9 : ∀ {fr' : Fr'}, (∀ q ∈ ([("items", vit), ("wired", .bool P.wired), ("told", .ref P.T), ("work", .ref P.W), ("step", .int k), ("above", .ref c), ("inside", inside), ("names", .ref P.nm), ("chain", .ref P.ch)] : Fr'), q ∈ fr') → ∀ q ∈ base9 P vit k c inside, q ∈ fr' := fun h => h
  -- nothing is asked
  have none' : (if P.wired then declImpl P.env i sc else sc) = sc → ∀ (s : St) (e : Addr) (fr' : Fr'), s e = none → SD P st1 rows sc wk s → (∀ q ∈ base9 P vit k c inside, q ∈ fr') → ∀ {xp : Pos},
      Loop B C (fun s' => s' e = some (.list [])) (.Name (S "word") xp) wordText [] fr' (s.set e (.list [])) Kn Kr := fun e0 s e fr' he hs hfr xp => by
    refine wordsL F ok (us := []) hsc hd (hs.alloc he) (by simp) (hs.fresh he).2.2 (by simp; have := i.wt_pos; k_extra "om") hfr (fun fr'' s' h1 h2 => ?_) rfl
    refine h fr'' s' h1 ?_
    rw [e0]; exact h2
  simp only [base9, List.cons_append, List.nil_append]
  refine SX_cons ?_
  repeat k_extra "tb"
  refine SE_List (SEs_nil ⟨by decide, fun e he => ?_⟩)
  have S0 := hS.alloc (m := .list []) he
  repeat k_extra "tb"
  cases hw : P.wired
  case false =>
    have e0 : (if P.wired then declImpl P.env i sc else sc) = sc := by rw [hw]; rfl
    rw [hw] at sub9
    repeat k_extra "tb"
    refine SX1_for_list ?_ (.name _ _) (by intro _; rfl)
    repeat k_extra "tb"
    refine ⟨e, [], rfl, by simp, ?_⟩
    exact none' e0 st e _ he hS (by unfold base9; rw [hw]; k_extra "sub")
  case true =>
    rw [hw] at sub9 h
    simp only [if_true] at h
    cases hq : i
    case nop => exact absurd hq hi
    case cassign m t v =>
      subst hq
      simp only [Item.enc]
      repeat k_extra "tb"
      refine ((law_words_spec F t.ex (PostL.of fun a2 s2 f2 e2 k2 => ?_)).less (by k_extra "om")).call
      have S2 := S0.keep k2
      have e3 : declImpl P.env (.cassign m t v) sc = addUses P.env (words t.ex) sc := addImpl_words _ _ _ (by intro _ _; cases t <;> simp [Tg.ex])
      have := words_len t.ex
      have hw4 : (Item.cassign m t v).wt = 4 := rfl
      repeat k_extra "tb"
      refine SX1_for_list ?_ (.name _ _) (by intro _; rfl)
      repeat k_extra "tb"
      refine ⟨a2, _, rfl, e2, ?_⟩
      refine wordsL F ok (us := words t.ex) hsc hd S2 e2 (S0.fresh f2).2.2 (by k_extra "om") (by unfold base9; rw [hw]; k_extra "sub") (fun fr'' s' h1 h2 => ?_) rfl
      refine h fr'' s' h1 ?_
      rw [e3]; exact h2
    case gate m t v =>
      subst hq
      have e3 : declImpl P.env (.gate m t v) sc = addUses P.env (wordsN t.ex ++ wordsN v) sc := by
        rw [addUses_append, ← addImpl_wordsN, ← addImpl_wordsN]; rfl
      have hl1 := wordsN_len t.ex
      have hl2 := wordsN_len v
      have hw4 : (Item.gate m t v).wt = 4 := rfl
      have hT := fun x a us Kn st ha hz h => ends_turn (C := C) (st := st) (P := P) (Kr := Kr) (k := k) (c := c) (inside := inside) (vit := vit) F (x := x) (a := a) (us := us) (Kn := Kn) (iv := (Item.gate m t v).enc) hsc hd ha hz h
      simp only [base9, hw, List.cons_append, List.nil_append, Item.enc] at hT
      simp only [Item.enc]
      iterate 20 k_extra "tb"
      refine hT t.ex e [] _ _ (by simp) (by simp) (fun b st2 f2 e2 k2 => ?_) _ rfl
      refine Loop_consT ?_
      refine AS_name (by k_extra "put") ?_
      refine hT v b _ _ _ e2 (by simp; k_extra "om") (fun b2 st3 f3 e3' k3 => ?_) _ rfl
      refine Loop_nilT ?_
      have S2 := (S0.keep k2).keep k3
      simp only [List.nil_append] at e3'
      repeat k_extra "tb"
      refine SX1_for_list ?_ (.name _ _) (by intro _; rfl)
      repeat k_extra "tb"
      refine ⟨b2, _, rfl, e3', ?_⟩
      refine wordsL F ok (us := wordsN t.ex ++ wordsN v) hsc hd S2 e3' ((S0.keep k2).fresh f3).2.2 (by simp only [List.length_append]; k_extra "om") (by unfold base9; rw [hw]; k_extra "sub") (fun fr'' s' h1 h2 => ?_) rfl
      refine h fr'' s' h1 ?_
      rw [e3]; exact h2
    all_goals
      have e0 : (if P.wired then declImpl P.env i sc else sc) = sc := by rw [hw, hq]; rfl
      subst hq
      simp only [Item.enc]
      repeat k_extra "tb"
      refine SX1_for_list ?_ (.name _ _) (by intro _; rfl)
      repeat k_extra "tb"
      refine ⟨e, [], rfl, by simp, ?_⟩
      exact none' e0 st e _ he hS (by unfold base9; rw [hw]; k_extra "sub")
end
section
variable {B : Base} {C : Cfg} {fr : Fr'} {st : St}

noncomputable def goalText : List Stmt := forB ((dueFor 2).getD 3 (.Pass default))
noncomputable def seenText : List Stmt := forB ((dueFor 2).getD 4 (.Pass default))
noncomputable def seenWordText : List Stmt := forB (seenText.headD (.Pass default))
noncomputable def wordRows (env : List Sc) (x : Ex) : List Row := (words x).flatMap (useRows env)
theorem wordRows_ex (env : List Sc) (x : Ex) : wordRows env x = exRows env x := by cases x <;> simp [wordRows, words, exRows]

/-- for word in goals: .. -/
theorem goalsL (F : Facts B) {P : Stp} (ok : P.Ok) {st1 : St} {rows : List Row} {sc : Sc} {wk : List V} {us : List Use} {ar sn : Addr} {vit : V} {k : Int} {c : Addr} {inside : V} {fr : Fr'} {Kn : Fr' → St → Prop} {Kr : V → St → Prop} (hsc : C.sc = fScope (top 56)) (hd : 1 ≤ C.d)
    (hS : SD P st1 rows sc wk st) (har : st ar = some (.list (us.map Use.enc))) (ne : ar ≠ P.T) (hz : (rows ++ us.flatMap (tgtRow (sc :: P.env))).length ≤ 1000000)
    (hs : ∀ q ∈ base9 P vit k c inside ++ ([("seen", .ref sn)] : Fr'), q ∈ fr)
    (h : ∀ fr' st', (∀ q ∈ base9 P vit k c inside ++ ([("seen", .ref sn)] : Fr'), q ∈ fr') → SD P st1 (rows ++ us.flatMap (tgtRow (sc :: P.env))) sc wk st' → (∀ b, b ≠ P.T → st' b = st b) → Kn fr' st') {x : PySem.Str} {xp : Pos} (hx : x = S "word") :
    Loop B C (fun s => s ar = some (.list (us.map Use.enc))) (.Name x xp) goalText (us.map Use.enc) fr st Kn Kr := by
  subst hx
  refine Loop.invF (base9 P vit k c inside ++ ([("seen", .ref sn)] : Fr')) (by simp only [base9, List.cons_append, List.nil_append, List.map_cons, List.map_nil]; decide +kernel) (fun l s => ∃ us' rows', l = us'.map Use.enc ∧ (∀ b, b ≠ P.T → s b = st b) ∧ SD P st1 rows' sc wk s ∧ rows' ++ us'.flatMap (tgtRow (sc :: P.env)) = rows ++ us.flatMap (tgtRow (sc :: P.env)))
    (fun _ s ⟨_, _, _, h, _⟩ => by rw [h ar ne]; exact har) ?_ ?_ hs ⟨us, rows, rfl, fun _ _ => rfl, hS, rfl⟩
  · rintro v l s ⟨us', rows', hl, hk, hS', hr⟩
    cases us' with
    | nil => cases hl
    | cons u us' =>
      simp only [List.map_cons, List.cons.injEq] at hl
      obtain ⟨rfl, rfl⟩ := hl
      simp only [List.flatMap_cons, ← List.append_assoc] at hr
      have hlen := congrArg List.length hr
      simp only [List.length_append] at hlen hz
      simp only [base9, List.cons_append, List.nil_append]
      refine AS_name (by k_extra "put") ?_
      simp only [Use.enc]
      refine SX_cons ?_
      repeat k_extra "tb"
      refine ((law_nearest_spec F hS'.ch hS'.near ?_).less (by k_extra "om")).call
      cases hq : lookEnv (sc :: P.env) u.n with
      | none =>
        have e1 : tgtRow (sc :: P.env) u = [⟨"undeclared", u.pl, u.n⟩] := by simp [tgtRow, hq]
        rw [e1] at hr
        simp only [sortV]
        repeat k_extra "tb"
        refine SE_told hS' (by k_extra "rel") (by k_extra "om") ?_ rfl rfl
        repeat k_extra "tb"
        refine ⟨rfl, ⟨"undeclared", u.pl, u.n⟩, rfl, rfl, ?_⟩
        exact ⟨by k_extra "sub", us', _, rfl, fun b hb => by rw [St.set_ne _ _ hb]; exact hk b hb, hS'.told ok _, hr⟩
      | some t =>
        cases t
        case net m =>
          have e1 : tgtRow (sc :: P.env) u = [] := by simp [tgtRow, hq]
          rw [e1, List.append_nil] at hr
          simp only [sortV, Ent.sort]
          repeat k_extra "tb"
          exact ⟨by k_extra "sub", us', rows', rfl, hk, hS', hr⟩
        case var m =>
          have e1 : tgtRow (sc :: P.env) u = [⟨"assign_to_variable", u.pl, u.n⟩] := by simp [tgtRow, hq]
          rw [e1] at hr
          simp only [sortV, Ent.sort]
          repeat k_extra "tb"
          refine SE_told hS' (by k_extra "rel") (by k_extra "om") ?_ rfl rfl
          repeat k_extra "tb"
          refine ⟨rfl, ⟨"assign_to_variable", u.pl, u.n⟩, rfl, rfl, ?_⟩
          exact ⟨by k_extra "sub", us', _, rfl, fun b hb => by rw [St.set_ne _ _ hb]; exact hk b hb, hS'.told ok _, hr⟩
        case param m =>
          have e1 : tgtRow (sc :: P.env) u = [⟨"constant_assigned", u.pl, u.n⟩] := by simp [tgtRow, hq]
          rw [e1] at hr
          simp only [sortV, Ent.sort]
          repeat k_extra "tb"
          refine SE_told hS' (by k_extra "rel") (by k_extra "om") ?_ rfl rfl
          repeat k_extra "tb"
          refine ⟨rfl, ⟨"constant_assigned", u.pl, u.n⟩, rfl, rfl, ?_⟩
          exact ⟨by k_extra "sub", us', _, rfl, fun b hb => by rw [St.set_ne _ _ hb]; exact hk b hb, hS'.told ok _, hr⟩
        case genvar m =>
          have e1 : tgtRow (sc :: P.env) u = [⟨"constant_assigned", u.pl, u.n⟩] := by simp [tgtRow, hq]
          rw [e1] at hr
          simp only [sortV, Ent.sort]
          repeat k_extra "tb"
          refine SE_told hS' (by k_extra "rel") (by k_extra "om") ?_ rfl rfl
          repeat k_extra "tb"
          refine ⟨rfl, ⟨"constant_assigned", u.pl, u.n⟩, rfl, rfl, ?_⟩
          exact ⟨by k_extra "sub", us', _, rfl, fun b hb => by rw [St.set_ne _ _ hb]; exact hk b hb, hS'.told ok _, hr⟩
        all_goals
          have e1 : tgtRow (sc :: P.env) u = [⟨"not_assignable", u.pl, u.n⟩] := by simp [tgtRow, hq]
          rw [e1] at hr
          simp only [sortV, Ent.sort]
          repeat k_extra "tb"
          refine SE_told hS' (by k_extra "rel") (by k_extra "om") ?_ rfl rfl
          repeat k_extra "tb"
          refine ⟨rfl, ⟨"not_assignable", u.pl, u.n⟩, rfl, rfl, ?_⟩
          exact ⟨by k_extra "sub", us', _, rfl, fun b hb => by rw [St.set_ne _ _ hb]; exact hk b hb, hS'.told ok _, hr⟩
  · rintro fr' s hs' ⟨us', rows', hl, hk, hS', hr⟩
    cases us' with
    | cons a as' => cases hl
    | nil =>
      simp only [List.flatMap_nil, List.append_nil] at hr
      rw [hr] at hS'
      exact h fr' s hs' hS' hk

/-- for word in _law_words(e): .. -/
theorem seenWordsL (F : Facts B) {P : Stp} (ok : P.Ok) {st1 : St} {rows : List Row} {sc : Sc} {wk : List V} {us : List Use} {ar : Addr} {vit : V} {k : Int} {c : Addr} {inside : V} {fr : Fr'} {Kn : Fr' → St → Prop} {Kr : V → St → Prop} (hsc : C.sc = fScope (top 56)) (hd : 1 ≤ C.d)
    (hS : SD P st1 rows sc wk st) (har : st ar = some (.list (us.map Use.enc))) (ne : ar ≠ P.T) (hz : (rows ++ us.flatMap (useRows (sc :: P.env))).length ≤ 1000000)
    (hs : ∀ q ∈ base9 P vit k c inside, q ∈ fr)
    (h : ∀ fr' st', (∀ q ∈ base9 P vit k c inside, q ∈ fr') → SD P st1 (rows ++ us.flatMap (useRows (sc :: P.env))) sc wk st' → (∀ b, b ≠ P.T → st' b = st b) → Kn fr' st') {x : PySem.Str} {xp : Pos} (hx : x = S "word") :
    Loop B C (fun s => s ar = some (.list (us.map Use.enc))) (.Name x xp) seenWordText (us.map Use.enc) fr st Kn Kr := by
  subst hx
  refine Loop.invF (base9 P vit k c inside) (by simp only [base9, List.map_cons, List.map_nil]; decide +kernel) (fun l s => ∃ us' rows', l = us'.map Use.enc ∧ (∀ b, b ≠ P.T → s b = st b) ∧ SD P st1 rows' sc wk s ∧ rows' ++ us'.flatMap (useRows (sc :: P.env)) = rows ++ us.flatMap (useRows (sc :: P.env)))
    (fun _ s ⟨_, _, _, h, _⟩ => by rw [h ar ne]; exact har) ?_ ?_ hs ⟨us, rows, rfl, fun _ _ => rfl, hS, rfl⟩
  · rintro v l s ⟨us', rows', hl, hk, hS', hr⟩
    cases us' with
    | nil => cases hl
    | cons u us' =>
      simp only [List.map_cons, List.cons.injEq] at hl
      obtain ⟨rfl, rfl⟩ := hl
      simp only [List.flatMap_cons, ← List.append_assoc] at hr
      have hlen := congrArg List.length hr
      simp only [List.length_append] at hlen hz
      simp only [base9]
      refine AS_name (by k_extra "put") ?_
      simp only [Use.enc]
      refine SX_one ?_
      repeat k_extra "tb"
      refine ((law_nearest_spec F hS'.ch hS'.near ?_).less (by k_extra "om")).call
      repeat k_extra "tb"
      cases hq : lookEnv (sc :: P.env) u.n with
      | none =>
        have e1 : useRows (sc :: P.env) u = [⟨"undeclared", u.pl, u.n⟩] := by simp [useRows, hq]
        rw [e1] at hr
        refine SC_eq_str (fun _ => ?_) (fun hne => absurd rfl hne)
        repeat k_extra "tb"
        refine SE_told hS' (by k_extra "rel") (by k_extra "om") ?_ rfl rfl
        repeat k_extra "tb"
        refine ⟨rfl, ⟨"undeclared", u.pl, u.n⟩, rfl, rfl, ?_⟩
        exact ⟨by k_extra "sub", us', _, rfl, fun b hb => by rw [St.set_ne _ _ hb]; exact hk b hb, hS'.told ok _, hr⟩
      | some t =>
        have e1 : useRows (sc :: P.env) u = [] := by simp [useRows, hq]
        rw [e1, List.append_nil] at hr
        have hne : t.sort ≠ "" := by cases t <;> (simp only [Ent.sort]; decide +kernel)
        refine SC_eq_str (fun he => absurd he hne) (fun _ => ?_)
        repeat k_extra "tb"
        exact ⟨by k_extra "sub", us', rows', rfl, hk, hS', hr⟩
  · rintro fr' s hs' ⟨us', rows', hl, hk, hS', hr⟩
    cases us' with
    | cons a as' => cases hl
    | nil =>
      simp only [List.flatMap_nil, List.append_nil] at hr
      rw [hr] at hS'
      exact h fr' s hs' hS' hk

/-- for e in seen: .. -/
theorem seenL (F : Facts B) {P : Stp} (ok : P.Ok) {st1 : St} {rows : List Row} {sc : Sc} {wk : List V} {xs : List Ex} {ar : Addr} {vit : V} {k : Int} {c : Addr} {inside : V} {fr : Fr'} {Kn : Fr' → St → Prop} {Kr : V → St → Prop} (hsc : C.sc = fScope (top 56)) (hd : 1 ≤ C.d)
    (hS : SD P st1 rows sc wk st) (har : st ar = some (.list (xs.map Ex.enc))) (ne : ar ≠ P.T) (hz : (rows ++ xs.flatMap (exRows (sc :: P.env))).length ≤ 1000000)
    (hs : ∀ q ∈ base9 P vit k c inside, q ∈ fr)
    (h : ∀ fr' st', (∀ q ∈ base9 P vit k c inside, q ∈ fr') → SD P st1 (rows ++ xs.flatMap (exRows (sc :: P.env))) sc wk st' → Kn fr' st') {x : PySem.Str} {xp : Pos} (hx : x = S "e") :
    Loop B C (fun s => s ar = some (.list (xs.map Ex.enc))) (.Name x xp) seenText (xs.map Ex.enc) fr st Kn Kr := by
  subst hx
  refine Loop.invF (base9 P vit k c inside) (by simp only [base9, List.map_cons, List.map_nil]; decide +kernel) (fun l s => ∃ xs' rows', l = xs'.map Ex.enc ∧ s ar = some (.list (xs.map Ex.enc)) ∧ SD P st1 rows' sc wk s ∧ rows' ++ xs'.flatMap (exRows (sc :: P.env)) = rows ++ xs.flatMap (exRows (sc :: P.env)))
    (fun _ s ⟨_, _, _, h, _⟩ => h) ?_ ?_ hs ⟨xs, rows, rfl, har, hS, rfl⟩
  · rintro v l s ⟨xs', rows', hl, hk, hS', hr⟩
    cases xs' with
    | nil => cases hl
    | cons y xs' =>
      simp only [List.map_cons, List.cons.injEq] at hl
      obtain ⟨rfl, rfl⟩ := hl
      simp only [List.flatMap_cons, ← List.append_assoc] at hr
      have hlen := congrArg List.length hr
      simp only [List.length_append] at hlen hz
      simp only [base9]
      refine AS_name (by k_extra "put") ?_
      refine SX_one ?_
      refine SX1_for_list ?_ (.name _ _) (by intro _; rfl)
      repeat k_extra "tb"
      refine ((law_words_spec F y (PostL.of fun a2 s2 f2 e2 k2 => ?_)).less (by k_extra "om")).call
      refine ⟨a2, _, rfl, e2, ?_⟩
      have hT := hS'.fresh f2
      refine seenWordsL F ok (us := words y) hsc hd (hS'.keep k2) e2 hT.1 (by rw [show (words y).flatMap (useRows (sc :: P.env)) = exRows (sc :: P.env) y from wordRows_ex _ y]; simp only [List.length_append]; k_extra "om") (by unfold base9; k_extra "sub") (fun fr' s3 h1 h2 h3 => ?_) rfl
      rw [show (words y).flatMap (useRows (sc :: P.env)) = exRows (sc :: P.env) y from wordRows_ex _ y] at h2
      exact ⟨fun q hq => h1 q hq, xs', _, rfl, by rw [h3 ar ne]; exact k2 _ _ hk, h2, hr⟩
  · rintro fr' s hs' ⟨xs', rows', hl, hk, hS', hr⟩
    cases xs' with
    | cons a as' => cases hl
    | nil =>
      simp only [List.flatMap_nil, List.append_nil] at hr
      rw [hr] at hS'
      exact h fr' s hs' hS'

/-- what the law reckons for one item -/
noncomputable def itemRows (env : List Sc) : Item → List Row
  | .cassign _ t v => (words t.ex).flatMap (tgtRow env) ++ exRows env v
  | .gate _ t v => (words t.ex).flatMap (tgtRow env) ++ exRows env v
  | .gfor m g _ _ _ => forRow env m g
  | i => (tests i).flatMap (exRows env)
end
section
variable {B : Base} {C : Cfg} {fr : Fr'} {st : St}

theorem due_tail (F : Facts B) {P : Stp} (ok : P.Ok) {st1 : St} {rows : List Row} {sc : Sc} {wk : List V} {us : List Use} {xs : List Ex} {gl sn : Addr} {vit : V} {k : Int} {c : Addr} {inside : V} {Kn : Fr' → St → Prop} {Kr : V → St → Prop} (hsc : C.sc = fScope (top 56)) (hd : 1 ≤ C.d)
    (hS : SD P st1 rows sc wk st) (hg : st gl = some (.list (us.map Use.enc))) (hs : st sn = some (.list (xs.map Ex.enc))) (ng : gl ≠ P.T) (ns : sn ≠ P.T) (hz : (rows ++ (us.flatMap (tgtRow (sc :: P.env)) ++ xs.flatMap (exRows (sc :: P.env)))).length ≤ 1000000)
    (h : ∀ fr' st', (∀ q ∈ base9 P vit k c inside, q ∈ fr') → SD P st1 (rows ++ (us.flatMap (tgtRow (sc :: P.env)) ++ xs.flatMap (exRows (sc :: P.env)))) sc wk st' → Kn fr' st') {fr : Fr'}
    (hfr : ∀ q ∈ base9 P vit k c inside ++ ([("goals", .ref gl), ("seen", .ref sn)] : Fr'), q ∈ fr) : ∀ body, (dueFor 2).drop 3 = body → SX B C fr body st Kn Kr := by
  intro body hb
  subst hb
  refine SX_forget hfr (by simp only [base9, List.cons_append, List.nil_append, List.map_cons, List.map_nil]; decide +kernel) ?_
  rw [← List.append_assoc] at hz h
  have hlen := hz
  simp only [List.length_append] at hlen
  simp only [base9, List.cons_append, List.nil_append]
  refine SX_cons ?_
  refine SX1_for_list ?_ (.name _ _) (by intro _; rfl)
  repeat k_extra "tb"
  refine ⟨gl, _, rfl, hg, ?_⟩
  refine goalsL F ok (us := us) (sn := sn) (vit := vit) (k := k) (c := c) (inside := inside) hsc hd hS hg ng (by simp only [List.length_append]; k_extra "om") (by simp only [base9, List.cons_append, List.nil_append]; k_extra "sub") (fun fr' st2 h1 S2 k2 => ?_) rfl
  refine SX_forget h1 (by simp only [base9, List.cons_append, List.nil_append, List.map_cons, List.map_nil]; decide +kernel) ?_
  simp only [base9, List.cons_append, List.nil_append]
  refine SX_one ?_
  refine SX1_for_list ?_ (.name _ _) (by intro _; rfl)
  repeat k_extra "tb"
  have hs2 : st2 sn = some (.list (xs.map Ex.enc)) := by rw [k2 sn ns]; exact hs
  refine ⟨sn, _, rfl, hs2, ?_⟩
  exact seenL F ok (xs := xs) hsc hd S2 hs2 ns hz (by unfold base9; k_extra "sub") (fun fr' st3 h1 h2 => h fr' st3 h1 h2) rfl

set_option maxHeartbeats 1000000 in
/-- one turn of the law's checking loop -/
theorem due_turn3 (F : Facts B) {P : Stp} (ok : P.Ok) {st1 : St} {rows : List Row} {sc : Sc} {wk : List V} {i : Item} {vit : V} {k : Int} {c : Addr} {inside : V} {Kn : Fr' → St → Prop} {Kr : V → St → Prop} (hsc : C.sc = fScope (top 56)) (hi : i ≠ .nop) (hw : i.wt ≤ 300) (hd : i.wt + 1 ≤ C.d)
    (hS : SD P st1 rows sc wk st) (hz : (rows ++ itemRows (sc :: P.env) i).length ≤ 1000000)
    (h : ∀ fr' st', (∀ q ∈ base9 P vit k c inside, q ∈ fr') → SD P st1 (rows ++ itemRows (sc :: P.env) i) sc wk st' → Kn fr' st') :
    ∀ body, dueFor 2 = body → SX B C (base9 P vit k c inside ++ ([("item", i.enc)] : Fr')) body st Kn Kr := by
  intro body hb
  subst hb
  have hw0 := i.wt_pos
  have hT := fun st Q hp => law_tests_spec F i st Q (by k_extra "om") hp
  have tail : ∀ {st2 : St} {rows2 : List Row} {us : List Use} {xs : List Ex} {gl sn : Addr} {fr : Fr'}, SD P st1 rows2 sc wk st2 → st2 gl = some (.list (us.map Use.enc)) → st2 sn = some (.list (xs.map Ex.enc)) → gl ≠ P.T → sn ≠ P.T → rows2 ++ (us.flatMap (tgtRow (sc :: P.env)) ++ xs.flatMap (exRows (sc :: P.env))) = rows ++ itemRows (sc :: P.env) i →
      (∀ q ∈ base9 P vit k c inside ++ ([("goals", .ref gl), ("seen", .ref sn)] : Fr'), q ∈ fr) → SX B C fr ((dueFor 2).drop 3) st2 Kn Kr := fun h1 h2 h3 h4 h5 h6 h7 =>
    due_tail F ok hsc (by k_extra "om") h1 h2 h3 h4 h5 (by rw [h6]; exact hz) (fun fr' st' a b => h fr' st' a (by rw [← h6]; exact b)) h7 _ rfl
  simp only [base9, List.cons_append, List.nil_append]
  refine SX_cons ?_
  repeat k_extra "tb"
  refine SE_List (SEs_nil ⟨by decide, fun e he => ?_⟩)
  have S0 := hS.alloc (m := .list []) he
  have ge0 : (st.set e (.list [])) e = some (.list (([] : List Use).map Use.enc)) := by simp
  have n0 := (hS.fresh he).1
  repeat k_extra "tb"
  refine ((hT _ _ (PostL.of fun a2 s2 f2 e2 k2 => ?_)).less (by k_extra "om")).call
  have S2 := S0.keep k2
  have n2 := (S0.fresh f2).1
  refine Put.go (by k_extra "put") ?_
  cases hq : i
  case nop => exact absurd hq hi
  case cassign m t v =>
    subst hq
    simp only [Item.enc]
    refine SX_cons ?_
    repeat k_extra "tb"
    refine ((law_words_spec F t.ex (PostL.of fun a3 s3 f3 e3 k3 => ?_)).less (by k_extra "om")).call
    have S3 := S2.keep k3
    have n3 := (S2.fresh f3).1
    repeat k_extra "tb"
    refine SE_List ?_
    repeat k_extra "tb"
    intro a4 f4
    refine Put.go (by k_extra "put") ?_
    refine tail (us := words t.ex) (xs := [v]) (S3.alloc f4) (Keep.alloc f4 _ _ e3) (by rw [St.set_same]; rfl) n3 (S3.fresh f4).1 (by simp [itemRows]) ?_
    simp only [base9, List.cons_append, List.nil_append]
    k_extra "sub"
  case gate m t v =>
    subst hq
    simp only [Item.enc]
    refine SX_cons ?_
    repeat k_extra "tb"
    refine ((law_words_spec F t.ex (PostL.of fun a3 s3 f3 e3 k3 => ?_)).less (by k_extra "om")).call
    have S3 := S2.keep k3
    have n3 := (S2.fresh f3).1
    repeat k_extra "tb"
    refine SE_List ?_
    repeat k_extra "tb"
    intro a4 f4
    refine Put.go (by k_extra "put") ?_
    refine tail (us := words t.ex) (xs := [v]) (S3.alloc f4) (Keep.alloc f4 _ _ e3) (by rw [St.set_same]; rfl) n3 (S3.fresh f4).1 (by simp [itemRows]) ?_
    simp only [base9, List.cons_append, List.nil_append]
    k_extra "sub"
  case net m n =>
    subst hq
    simp only [Item.enc]
    refine SX_cons ?_
    refine SX1_if ?_
    refine ST_cmp ?_
    iterate 3 k_extra "tb"
    refine SC_eq_str (fun h => absurd h (by decide +kernel)) (fun _ => ?_)
    refine SX_one ?_
    refine SX1_if ?_
    refine ST_cmp ?_
    iterate 3 k_extra "tb"
    refine SC_eq_str (fun h => absurd h (by decide +kernel)) (fun _ => ?_)
    refine SX_one ?_
    refine SX1_if ?_
    refine ST_cmp ?_
    iterate 3 k_extra "tb"
    refine SC_eq_str (fun h => absurd h (by decide +kernel)) (fun _ => ?_)
    refine SX_nil ?_
    refine tail (us := []) (xs := tests (.net m n)) S2 (k2 _ _ ge0) e2 n0 n2 (by simp [itemRows]) ?_
    simp only [base9, List.cons_append, List.nil_append]
    k_extra "sub"
  case var m n =>
    subst hq
    simp only [Item.enc]
    refine SX_cons ?_
    refine SX1_if ?_
    refine ST_cmp ?_
    iterate 3 k_extra "tb"
    refine SC_eq_str (fun h => absurd h (by decide +kernel)) (fun _ => ?_)
    refine SX_one ?_
    refine SX1_if ?_
    refine ST_cmp ?_
    iterate 3 k_extra "tb"
    refine SC_eq_str (fun h => absurd h (by decide +kernel)) (fun _ => ?_)
    refine SX_one ?_
    refine SX1_if ?_
    refine ST_cmp ?_
    iterate 3 k_extra "tb"
    refine SC_eq_str (fun h => absurd h (by decide +kernel)) (fun _ => ?_)
    refine SX_nil ?_
    refine tail (us := []) (xs := tests (.var m n)) S2 (k2 _ _ ge0) e2 n0 n2 (by simp [itemRows]) ?_
    simp only [base9, List.cons_append, List.nil_append]
    k_extra "sub"
  case param m n =>
    subst hq
    simp only [Item.enc]
    refine SX_cons ?_
    refine SX1_if ?_
    refine ST_cmp ?_
    iterate 3 k_extra "tb"
    refine SC_eq_str (fun h => absurd h (by decide +kernel)) (fun _ => ?_)
    refine SX_one ?_
    refine SX1_if ?_
    refine ST_cmp ?_
    iterate 3 k_extra "tb"
    refine SC_eq_str (fun h => absurd h (by decide +kernel)) (fun _ => ?_)
    refine SX_one ?_
    refine SX1_if ?_
    refine ST_cmp ?_
    iterate 3 k_extra "tb"
    refine SC_eq_str (fun h => absurd h (by decide +kernel)) (fun _ => ?_)
    refine SX_nil ?_
    refine tail (us := []) (xs := tests (.param m n)) S2 (k2 _ _ ge0) e2 n0 n2 (by simp [itemRows]) ?_
    simp only [base9, List.cons_append, List.nil_append]
    k_extra "sub"
  case event m n =>
    subst hq
    simp only [Item.enc]
    refine SX_cons ?_
    refine SX1_if ?_
    refine ST_cmp ?_
    iterate 3 k_extra "tb"
    refine SC_eq_str (fun h => absurd h (by decide +kernel)) (fun _ => ?_)
    refine SX_one ?_
    refine SX1_if ?_
    refine ST_cmp ?_
    iterate 3 k_extra "tb"
    refine SC_eq_str (fun h => absurd h (by decide +kernel)) (fun _ => ?_)
    refine SX_one ?_
    refine SX1_if ?_
    refine ST_cmp ?_
    iterate 3 k_extra "tb"
    refine SC_eq_str (fun h => absurd h (by decide +kernel)) (fun _ => ?_)
    refine SX_nil ?_
    refine tail (us := []) (xs := tests (.event m n)) S2 (k2 _ _ ge0) e2 n0 n2 (by simp [itemRows]) ?_
    simp only [base9, List.cons_append, List.nil_append]
    k_extra "sub"
  case block m l is =>
    subst hq
    simp only [Item.enc]
    refine SX_cons ?_
    refine SX1_if ?_
    refine ST_cmp ?_
    iterate 3 k_extra "tb"
    refine SC_eq_str (fun h => absurd h (by decide +kernel)) (fun _ => ?_)
    refine SX_one ?_
    refine SX1_if ?_
    refine ST_cmp ?_
    iterate 3 k_extra "tb"
    refine SC_eq_str (fun h => absurd h (by decide +kernel)) (fun _ => ?_)
    refine SX_one ?_
    refine SX1_if ?_
    refine ST_cmp ?_
    iterate 3 k_extra "tb"
    refine SC_eq_str (fun h => absurd h (by decide +kernel)) (fun _ => ?_)
    refine SX_nil ?_
    refine tail (us := []) (xs := tests (.block m l is)) S2 (k2 _ _ ge0) e2 n0 n2 (by simp [itemRows]) ?_
    simp only [base9, List.cons_append, List.nil_append]
    k_extra "sub"
  case gif m cc x y =>
    subst hq
    simp only [Item.enc]
    refine SX_cons ?_
    refine SX1_if ?_
    refine ST_cmp ?_
    iterate 3 k_extra "tb"
    refine SC_eq_str (fun h => absurd h (by decide +kernel)) (fun _ => ?_)
    refine SX_one ?_
    refine SX1_if ?_
    refine ST_cmp ?_
    iterate 3 k_extra "tb"
    refine SC_eq_str (fun h => absurd h (by decide +kernel)) (fun _ => ?_)
    refine SX_one ?_
    refine SX1_if ?_
    refine ST_cmp ?_
    iterate 3 k_extra "tb"
    refine SC_eq_str (fun h => absurd h (by decide +kernel)) (fun _ => ?_)
    refine SX_nil ?_
    refine tail (us := []) (xs := tests (.gif m cc x y)) S2 (k2 _ _ ge0) e2 n0 n2 (by simp [itemRows]) ?_
    simp only [base9, List.cons_append, List.nil_append]
    k_extra "sub"
  case gcase m cc l x y =>
    subst hq
    simp only [Item.enc]
    refine SX_cons ?_
    refine SX1_if ?_
    refine ST_cmp ?_
    iterate 3 k_extra "tb"
    refine SC_eq_str (fun h => absurd h (by decide +kernel)) (fun _ => ?_)
    refine SX_one ?_
    refine SX1_if ?_
    refine ST_cmp ?_
    iterate 3 k_extra "tb"
    refine SC_eq_str (fun h => absurd h (by decide +kernel)) (fun _ => ?_)
    refine SX_one ?_
    refine SX1_if ?_
    refine ST_cmp ?_
    iterate 3 k_extra "tb"
    refine SC_eq_str (fun h => absurd h (by decide +kernel)) (fun _ => ?_)
    refine SX_nil ?_
    refine tail (us := []) (xs := tests (.gcase m cc l x y)) S2 (k2 _ _ ge0) e2 n0 n2 (by simp [itemRows]) ?_
    simp only [base9, List.cons_append, List.nil_append]
    k_extra "sub"
  case gfor m n bm bl is =>
    subst hq
    simp only [Item.enc]
    refine SX_cons ?_
    repeat k_extra "tb"
    refine ((law_nearest_spec F S2.ch S2.near ?_).less (by k_extra "om")).call
    have hlen := hz
    simp only [itemRows, List.length_append] at hlen
    have sub2 : ∀ {x : V}, ∀ q ∈ base9 P vit k c inside ++ ([("goals", .ref e), ("seen", .ref a2)] : Fr'), q ∈ ([("items", vit), ("wired", .bool P.wired), ("told", .ref P.T), ("work", .ref P.W), ("step", .int k), ("above", .ref c), ("inside", inside), ("names", .ref P.nm), ("chain", .ref P.ch), ("item", .tup [.str "genfor", .int m, .str n, numV, numV, numV, .tup [.str "genblock", .int bm, encLab bl, .tup (encs is)]]), ("goals", .ref e), ("seen", .ref a2), ("sort", x)] : Fr') := by
      intro x
      simp only [base9, List.cons_append, List.nil_append]
      k_extra "sub"
    cases hq : lookEnv (sc :: P.env) n with
    | none =>
      have e1 : forRow (sc :: P.env) m n = [⟨"undeclared", m, n⟩] := by simp [forRow, hq]
      rw [e1] at hlen
      simp only [sortV]
      refine Put.go (by k_extra "put") ?_
      refine SX_one ?_
      refine SX1_if ?_
      refine ST_cmp ?_
      iterate 2 k_extra "tb"
      refine SC_ne_str (fun _ => ?_) (fun h => absurd h (by decide +kernel))
      refine SX_one ?_
      refine SX1_expr ?_ rfl
      refine SE_told S2 (by k_extra "rel") (by k_extra "om") ?_ rfl rfl
      repeat k_extra "tb"
      refine ⟨rfl, ⟨"undeclared", m, n⟩, rfl, rfl, ?_⟩
      exact tail (us := []) (xs := []) (S2.told ok _) (by rw [St.set_ne _ _ n0]; exact k2 _ _ ge0) (by rw [St.set_ne _ _ n2]; exact e2) n0 n2 (by simp [itemRows, e1]) sub2
    | some t =>
      cases t
      case genvar m' =>
        have e1 : forRow (sc :: P.env) m n = [] := by simp [forRow, hq]
        simp only [sortV, Ent.sort]
        refine Put.go (by k_extra "put") ?_
        refine SX_one ?_
        refine SX1_if ?_
        refine ST_cmp ?_
        iterate 2 k_extra "tb"
        refine SC_ne_str (fun h => absurd rfl h) (fun _ => ?_)
        refine SX_nil ?_
        exact tail (us := []) (xs := []) S2 (k2 _ _ ge0) e2 n0 n2 (by simp [itemRows, e1]) sub2
      all_goals
        have e1 : forRow (sc :: P.env) m n = [⟨"not_a_genvar", m, n⟩] := by simp [forRow, hq]
        rw [e1] at hlen
        simp only [sortV, Ent.sort]
        refine Put.go (by k_extra "put") ?_
        refine SX_one ?_
        refine SX1_if ?_
        refine ST_cmp ?_
        iterate 2 k_extra "tb"
        refine SC_ne_str (fun _ => ?_) (fun h => absurd h (by decide +kernel))
        refine SX_one ?_
        refine SX1_expr ?_ rfl
        refine SE_told S2 (by k_extra "rel") (by k_extra "om") ?_ rfl rfl
        repeat k_extra "tb"
        refine ⟨rfl, ⟨"not_a_genvar", m, n⟩, rfl, rfl, ?_⟩
        exact tail (us := []) (xs := []) (S2.told ok _) (by rw [St.set_ne _ _ n0]; exact k2 _ _ ge0) (by rw [St.set_ne _ _ n2]; exact e2) n0 n2 (by simp [itemRows, e1]) sub2
end
section
variable {B : Base} {C : Cfg} {fr : Fr'} {st : St}

noncomputable def kids (is : List Item) : List (List Item) := (is.flatMap kidArms).map (·.is)
noncomputable def locRows (wired : Bool) (env : List Sc) (is : List Item) : List Row := (declScope wired env is).1 ++ is.flatMap (itemRows ((declScope wired env is).2 :: env))
theorem arms_gd : ∀ (i : Item), i.gd = true → ∀ a ∈ arms i, gds a.is = true
  | .gif _ _ x y, h, a, ha => by
    simp only [Item.gd, Bool.and_eq_true] at h
    simp only [arms, List.mem_append] at ha
    rcases ha with ha | ha
    · exact arms_gd x h.1 a ha
    · exact arms_gd y h.2 a ha
  | .gcase _ _ _ x y, h, a, ha => by
    simp only [Item.gd, Bool.and_eq_true] at h
    simp only [arms, List.mem_append] at ha
    rcases ha with ha | ha
    · exact arms_gd x h.1 a ha
    · exact arms_gd y h.2 a ha
  | .nop, h, a, ha => by simp [arms] at ha
  | .block _ _ _, h, a, ha => by simp only [arms, List.mem_singleton] at ha; subst ha; simpa [Item.gd] using h
  | .cassign _ _ _, h, a, ha => by simp only [arms, List.mem_singleton] at ha; subst ha; simp [gds, Item.gd]
  | .gate _ _ _, h, a, ha => by simp only [arms, List.mem_singleton] at ha; subst ha; simp [gds, Item.gd]
  | .net _ _, h, a, ha => by simp only [arms, List.mem_singleton] at ha; subst ha; simp [gds, Item.gd]
  | .var _ _, h, a, ha => by simp only [arms, List.mem_singleton] at ha; subst ha; simp [gds, Item.gd]
  | .param _ _, h, a, ha => by simp only [arms, List.mem_singleton] at ha; subst ha; simp [gds, Item.gd]
  | .event _ _, h, a, ha => by simp only [arms, List.mem_singleton] at ha; subst ha; simp [gds, Item.gd]
  | .gfor _ _ _ _ _, h, a, ha => by simp only [arms, List.mem_singleton] at ha; subst ha; simpa [gds, Item.gd] using h
theorem kidArms_gd {i : Item} (h : i.gd = true) : ∀ a ∈ kidArms i, gds a.is = true := by
  cases i
  case gif m c x y => exact arms_gd _ h
  case gcase m c l x y => exact arms_gd _ h
  case block m l is => intro a ha; simp only [kidArms, List.mem_singleton] at ha; subst ha; simpa [Item.gd] using h
  case gfor m g bm bl is => intro a ha; simp only [kidArms, List.mem_singleton] at ha; subst ha; simpa [Item.gd] using h
  all_goals (intro a ha; simp [kidArms] at ha)
theorem kids_gd : ∀ {is : List Item}, gds is = true → ∀ js ∈ kids is, gds js = true
  | [], _, js, h => by simp [kids] at h
  | i :: is, hg, js, h => by
    obtain ⟨_, h1, h2⟩ := gds_cons hg
    simp only [kids, List.flatMap_cons, List.map_append, List.mem_append] at h
    rcases h with h | h
    · obtain ⟨a, ha, rfl⟩ := List.mem_map.mp h; exact kidArms_gd h1 a ha
    · exact kids_gd h2 js h
set_option maxHeartbeats 4000000 in
theorem dueLoops (F : Facts B) {P : Stp} (ok : P.Ok) {st1 : St} {rows : List Row} {wk : List V} {is : List Item} {vit : V} {k : Int} {c : Addr} {Kn : Fr' → St → Prop} {Kr : V → St → Prop} (hsc : C.sc = fScope (top 56)) (hg : gds is = true) (hw : wts is ≤ 300) (hd : wts is + 1 ≤ C.d) (hd1 : 1 ≤ C.d)
    (hS : SD P st1 rows [] wk st) (hz : (rows ++ locRows P.wired P.env is).length ≤ 1000000 - 400) (hz3 : wk.length + wts is ≤ 1000000)
    (h : ∀ fr' st', (∀ q ∈ base9 P vit k c (.tup (encs is)), q ∈ fr') → SD P st1 (rows ++ locRows P.wired P.env is) (declScope P.wired P.env is).2 (wk ++ (is.flatMap kidArms).map fun a => pendV P.ch a.is) st' → Kn fr' st') :
    ∀ body, dueWhile.drop 4 = body → SX B C (base9 P vit k c (.tup (encs is))) body st Kn Kr := by
  intro body hb
  subst hb
  have hfin := declFin_app rows P.wired P.env is
  have hb9 : base9 P vit k c (.tup (encs is)) = ([("items", vit), ("wired", .bool P.wired), ("told", .ref P.T), ("work", .ref P.W), ("step", .int k), ("above", .ref c), ("inside", .tup (encs is)), ("names", .ref P.nm), ("chain", .ref P.ch)] : Fr') := rfl
  have nd9 : ((base9 P vit k c (.tup (encs is))).map (·.1)).Nodup := by simp only [base9, List.map_cons, List.map_nil]; decide +kernel
  have hlen := hz
  simp only [locRows, List.length_append] at hlen
  rw [hb9]
  refine SX_cons ?_
  refine SX1_for_tup ?_ (.name _ _) (by intro _; rfl)
  repeat k_extra "tb"
  refine Loop.invF (base9 P vit k c (.tup (encs is))) nd9 (fun l s => ∃ is' p' wk', l = encs is' ∧ SD P st1 p'.1 p'.2 wk' s ∧ declAll is' p' = declAll is (rows, []) ∧ wk' ++ ((is'.flatMap kidArms).map fun a => pendV P.ch a.is) = wk ++ ((is.flatMap kidArms).map fun a => pendV P.ch a.is) ∧ gds is' = true ∧ wts is' ≤ wts is
      ∧ p'.1.length + wts is' ≤ 1000000 ∧ p'.2.length + wts is' ≤ 400 ∧ wk'.length + wts is' ≤ 1000000)
    (fun _ _ _ => trivial) ?_ ?_ (by unfold base9; k_extra "sub") ⟨is, (rows, []), wk, rfl, hS, rfl, rfl, hg, Nat.le_refl _, by simp only; k_extra "om", by simp only [List.length_nil]; k_extra "om", hz3⟩
  · rintro v l s ⟨is', p', wk', hl, hS', hp, hk, hg', hw', z1, z2, z3⟩
    cases is' with
    | nil => cases hl
    | cons i is' =>
      simp only [encs, List.cons.injEq] at hl
      obtain ⟨rfl, rfl⟩ := hl
      obtain ⟨hi, hgi, hgs⟩ := gds_cons hg'
      simp only [wts] at hw' z1 z2 z3
      have h1 := declItem_len i p'
      have h2 := kidArms_len i
      rw [hb9]
      refine AS_name (by k_extra "put") ?_
      show SX B C (base9 P vit k c (.tup (encs is)) ++ ([("item", i.enc)] : Fr')) _ _ _ _
      with_reducible refine due_turn1 F ok (p := p') (wk := wk') (vit := vit) (k := k) (c := c) (inside := .tup (encs is)) hsc hi (by k_extra "om") (by k_extra "om") hS' (by k_extra "om") (by k_extra "om") (by k_extra "om") (fun fr' st' s1 s2 => ?hcont1) _ ?hbody1
      case hbody1 => exact rfl
      refine ⟨s1, is', declItem i p', _, rfl, s2, hp, ?_, hgs, by k_extra "om", by k_extra "om", by k_extra "om", by simp only [List.length_append, List.length_map]; k_extra "om"⟩
      rw [← hk]; simp
  · rintro fr' s hs ⟨is', p', wk', hl, hS', hp, hk, -, -, -, -⟩
    cases is' with
    | cons i is' => cases hl
    | nil =>
      have hp : p' = _ := hp
      simp only [List.flatMap_nil, List.map_nil, List.append_nil] at hk
      subst hp hk
      have hl1 := declAll_len is (rows, [])
      refine SX_forget hs nd9 ?_
      rw [hb9]
      refine SX_cons ?_
      refine SX1_for_tup ?_ (.name _ _) (by intro _; rfl)
      repeat k_extra "tb"
      refine Loop.invF (base9 P vit k c (.tup (encs is))) nd9 (fun l s => ∃ is' sc', l = encs is' ∧ SD P st1 (declAll is (rows, [])).1 sc' (wk ++ ((is.flatMap kidArms).map fun a => pendV P.ch a.is)) s ∧ (if P.wired then implAll P.env is' sc' else sc') = (declFin P.wired P.env is (rows, [])).2 ∧ gds is' = true ∧ wts is' ≤ wts is ∧ sc'.length + wts is' ≤ 1000)
        (fun _ _ _ => trivial) ?_ ?_ (by unfold base9; k_extra "sub") ⟨is, (declAll is (rows, [])).2, rfl, hS', rfl, hg, Nat.le_refl _, by simp only [List.length_nil] at hl1; k_extra "om"⟩
      · rintro v l s ⟨is', sc', hl, hS'', hp, hg', hw', z2⟩
        cases is' with
        | nil => cases hl
        | cons i is' =>
          simp only [encs, List.cons.injEq] at hl
          obtain ⟨rfl, rfl⟩ := hl
          obtain ⟨hi, hgi, hgs⟩ := gds_cons hg'
          simp only [wts] at hw' z2
          have h1 := declImpl_len P.env i sc'
          rw [hb9]
          refine AS_name (by k_extra "put") ?_
          show SX B C (base9 P vit k c (.tup (encs is)) ++ ([("item", i.enc)] : Fr')) _ _ _ _
          with_reducible refine due_turn2 F ok (vit := vit) (k := k) (c := c) (inside := .tup (encs is)) hsc hi hd1 hS'' (by k_extra "om") (fun fr' st' s1 s2 => ?hcont2) _ ?hbody2
          case hbody2 => exact rfl
          refine ⟨s1, is', _, rfl, s2, ?_, hgs, by k_extra "om", by split <;> k_extra "om"⟩
          rw [← hp]
          cases P.wired <;> simp [implAll]
      · rintro fr' s hs ⟨is', sc', hl, hS'', hp, -, -⟩
        cases is' with
        | cons i is' => cases hl
        | nil =>
          have hp : sc' = (declFin P.wired P.env is (rows, [])).2 := by rw [← hp]; simp [implAll]
          rw [hfin] at hp
          have hr : (declAll is (rows, [])).1 = rows ++ (declScope P.wired P.env is).1 := by
            have := congrArg Prod.fst hfin
            exact this
          subst hp
          rw [hr] at hS''
          refine SX_forget hs nd9 ?_
          rw [hb9]
          refine SX_one ?_
          refine SX1_for_tup ?_ (.name _ _) (by intro _; rfl)
          repeat k_extra "tb"
          refine Loop.invF (base9 P vit k c (.tup (encs is))) nd9 (fun l s => ∃ is' rows', l = encs is' ∧ SD P st1 rows' (declScope P.wired P.env is).2 (wk ++ ((is.flatMap kidArms).map fun a => pendV P.ch a.is)) s ∧ rows' ++ is'.flatMap (itemRows ((declScope P.wired P.env is).2 :: P.env)) = rows ++ locRows P.wired P.env is ∧ gds is' = true ∧ wts is' ≤ wts is)
            (fun _ _ _ => trivial) ?_ ?_ (by unfold base9; k_extra "sub") ⟨is, _, rfl, hS'', by simp [locRows], hg, Nat.le_refl _⟩
          · rintro v l s ⟨is', rows', hl, hS3, hp, hg', hw'⟩
            cases is' with
            | nil => cases hl
            | cons i is' =>
              simp only [encs, List.cons.injEq] at hl
              obtain ⟨rfl, rfl⟩ := hl
              obtain ⟨hi, hgi, hgs⟩ := gds_cons hg'
              simp only [wts] at hw'
              simp only [List.flatMap_cons, ← List.append_assoc] at hp
              have hl2 := congrArg List.length hp
              simp only [List.length_append] at hl2 hz
              rw [hb9]
              refine AS_name (by k_extra "put") ?_
              show SX B C (base9 P vit k c (.tup (encs is)) ++ ([("item", i.enc)] : Fr')) _ _ _ _
              with_reducible refine due_turn3 F ok (vit := vit) (k := k) (c := c) (inside := .tup (encs is)) hsc hi (by k_extra "om") (by k_extra "om") hS3 (by simp only [List.length_append]; k_extra "om") (fun fr' st' s1 s2 => ?hcont3) _ ?hbody3
              case hbody3 => exact rfl
              exact ⟨s1, is', _, rfl, s2, hp, hgs, by k_extra "om"⟩
          · rintro fr' s hs ⟨is', rows', hl, hS3, hp, -⟩
            cases is' with
            | cons i is' => cases hl
            | nil =>
              simp only [List.flatMap_nil, List.append_nil] at hp
              subst hp
              exact h fr' s hs hS3
end
section
variable {B : Base} {C : Cfg} {fr : Fr'} {st : St}

theorem arms_wt : ∀ (i : Item), ∀ a ∈ arms i, wts a.is ≤ i.wt
  | .gif _ _ x y, a, ha => by
    simp only [arms, List.mem_append] at ha
    simp only [Item.wt]
    rcases ha with ha | ha
    · have := arms_wt x a ha; k_extra "om"
    · have := arms_wt y a ha; k_extra "om"
  | .gcase _ _ _ x y, a, ha => by
    simp only [arms, List.mem_append] at ha
    simp only [Item.wt]
    rcases ha with ha | ha
    · have := arms_wt x a ha; k_extra "om"
    · have := arms_wt y a ha; k_extra "om"
  | .nop, a, ha => by simp [arms] at ha
  | .block _ _ _, a, ha => by simp only [arms, List.mem_singleton] at ha; subst ha; simp [Item.wt]
  | .cassign _ _ _, a, ha => by simp only [arms, List.mem_singleton] at ha; subst ha; simp [wts]
  | .gate _ _ _, a, ha => by simp only [arms, List.mem_singleton] at ha; subst ha; simp [wts]
  | .net _ _, a, ha => by simp only [arms, List.mem_singleton] at ha; subst ha; simp [wts]
  | .var _ _, a, ha => by simp only [arms, List.mem_singleton] at ha; subst ha; simp [wts]
  | .param _ _, a, ha => by simp only [arms, List.mem_singleton] at ha; subst ha; simp [wts]
  | .event _ _, a, ha => by simp only [arms, List.mem_singleton] at ha; subst ha; simp [wts]
  | .gfor _ _ _ _ _, a, ha => by simp only [arms, List.mem_singleton] at ha; subst ha; simp [wts]
theorem kidArms_wt (i : Item) : ∀ a ∈ kidArms i, wts a.is + 1 ≤ i.wt := by
  cases i
  case gif m c x y =>
    intro a ha
    simp only [kidArms, arms, List.mem_append] at ha
    simp only [Item.wt]
    have hx := x.wt_pos
    have hy := y.wt_pos
    rcases ha with ha | ha
    · have := arms_wt x a ha; k_extra "om"
    · have := arms_wt y a ha; k_extra "om"
  case gcase m c l x y =>
    intro a ha
    simp only [kidArms, arms, List.mem_append] at ha
    simp only [Item.wt]
    rcases ha with ha | ha
    · have := arms_wt x a ha; k_extra "om"
    · have := arms_wt y a ha; k_extra "om"
  case block m l is => intro a ha; simp only [kidArms, List.mem_singleton] at ha; subst ha; simp [Item.wt]
  case gfor m g bm bl is => intro a ha; simp only [kidArms, List.mem_singleton] at ha; subst ha; simp [Item.wt]
  all_goals (intro a ha; simp [kidArms] at ha)
theorem kids_wt : ∀ {is : List Item}, ∀ js ∈ kids is, wts js + 1 ≤ wts is
  | [], js, h => by simp [kids] at h
  | i :: is, js, h => by
    simp only [kids, List.flatMap_cons, List.map_append, List.mem_append] at h
    simp only [wts]
    rcases h with h | h
    · obtain ⟨a, ha, rfl⟩ := List.mem_map.mp h; have := kidArms_wt i a ha; k_extra "om"
    · have := kids_wt (is := is) js h; k_extra "om"
theorem LC.length : ∀ {ds : List Addr} {env : List Sc}, LC st ds env → ds.length = env.length
  | [], [], _ => rfl
  | d :: ds, sc :: env, ⟨_, h⟩ => by simp [LC.length h]
  | [], _ :: _, h => h.elim
  | _ :: _, [], h => h.elim
/-- a scope that waits -/
structure Pd where
  c : Addr
  env : List Sc
  is : List Item
noncomputable def Pd.enc (q : Pd) : V := pendV q.c q.is
noncomputable def PdOk (T W : Addr) (st : St) (q : Pd) : Prop := ∃ ds, st q.c = some (.list (ds.reverse.map V.ref)) ∧ LC st ds q.env ∧ q.c ≠ T ∧ q.c ≠ W ∧ gds q.is = true ∧ q.env.length + wts q.is ≤ 300
/-- everything but told and work is kept -/
noncomputable def Grow2 (T W : Addr) (sA sB : St) : Prop := ∀ b m, sA b = some m → b ≠ T → b ≠ W → sB b = some m
theorem LC.grow {T W : Addr} {sA sB : St} {lT lW : List V} (g : Grow2 T W sA sB) (hT : sA T = some (.list lT)) (hW : sA W = some (.list lW)) : ∀ {ds : List Addr} {env : List Sc}, LC sA ds env → LC sB ds env
  | [], [], _ => trivial
  | d :: ds, sc :: env, ⟨h1, h2⟩ => ⟨g _ _ h1 (fun e => by rw [e, hT] at h1; cases h1) (fun e => by rw [e, hW] at h1; cases h1), LC.grow g hT hW h2⟩
  | [], _ :: _, h => h.elim
  | _ :: _, [], h => h.elim
theorem PdOk.grow {T W : Addr} {sA sB : St} {lT lW : List V} {q : Pd} (h : PdOk T W sA q) (g : Grow2 T W sA sB) (hT : sA T = some (.list lT)) (hW : sA W = some (.list lW)) : PdOk T W sB q := by
  obtain ⟨ds, h1, h2, h3, h4, h5, h6⟩ := h
  exact ⟨ds, g _ _ h1 h3 h4, h2.grow g hT hW, h3, h4, h5, h6⟩
theorem LC.notIn {ds : List Addr} {env : List Sc} {a : Addr} : LC st ds env → (∀ d, st a ≠ some (.dict d)) → ∀ d ∈ ds, d ≠ a := by
  induction ds generalizing env with
  | nil => intro _ _ d hd; cases hd
  | cons x ds ih =>
    intro h hn d hd e
    cases env with
    | nil => exact h.elim
    | cons sc env =>
      rcases List.mem_cons.mp hd with q | q
      · subst q; subst e; exact hn _ h.1
      · exact ih h.2 hn d q e

noncomputable def base5 (vit : V) (wired : Bool) (T W : Addr) (k : Int) : Fr' := [("items", vit), ("wired", .bool wired), ("told", .ref T), ("work", .ref W), ("step", .int k)]
set_option maxHeartbeats 4000000 in
theorem due_step (F : Facts B) {T W : Addr} {wired : Bool} {vit : V} {rows : List Row} {dn : List V} {todo : List Pd} {q : Pd} {Kn : Fr' → St → Prop} {Kr : V → St → Prop} (hsc : C.sc = fScope (top 56)) (hTW : T ≠ W) (hT : st T = some (encR rows)) (hW : st W = some (.list (dn ++ (q :: todo).map Pd.enc)))
    (hq : PdOk T W st q) (hw : wts q.is ≤ 300) (hd : wts q.is + 1 ≤ C.d) (hd1 : 1 ≤ C.d) (hdn : dn.length ≤ 500000) (hz : (rows ++ locRows wired q.env q.is).length ≤ 1000000 - 400) (hz3 : dn.length + (todo.length + 1) + wts q.is ≤ 1000000)
    (h : ∀ fr' st' ch, (∀ x ∈ base5 vit wired T W (dn.length + 1), x ∈ fr') → st' T = some (encR (rows ++ locRows wired q.env q.is)) → st' W = some (.list (dn ++ (q :: todo).map Pd.enc ++ (kids q.is).map (pendV ch))) → Grow2 T W st st' →
      (∀ js ∈ kids q.is, PdOk T W st' ⟨ch, (declScope wired q.env q.is).2 :: q.env, js⟩) → Kn fr' st') :
    ∀ body, dueWhile = body → SX B C (base5 vit wired T W dn.length) body st Kn Kr := by
  intro body hb
  subst hb
  obtain ⟨ds, hc, hL, hcT, hcW, hgd, hlim⟩ := hq
  have hdl := hL.length
  have hb5 : base5 vit wired T W dn.length = ([("items", vit), ("wired", .bool wired), ("told", .ref T), ("work", .ref W), ("step", .int dn.length)] : Fr') := rfl
  rw [hb5]
  refine SX_cons ?_
  repeat k_extra "tb"
  have hget : (dn ++ (q :: todo).map Pd.enc)[((dn.length : Nat) : Int).toNat]? = some q.enc := by
    rw [Int.toNat_natCast, List.getElem?_append_right (Nat.le_refl _), Nat.sub_self]; rfl
  refine Idx.list (.inl hW) (by k_extra "om") (by k_extra "om") hget ?_
  unfold Pd.enc pendV
  repeat k_extra "tb"
  refine SOp_add ?_
  repeat k_extra "tb"
  refine SE_DictE (fun nm hnm => ?_)
  repeat k_extra "tb"
  refine SE_List ?_
  repeat k_extra "tb"
  intro e he
  have hne : e ≠ nm := fun z => by subst z; rw [St.set_same] at he; cases he
  have he0 : st e = none := by rw [St.set_ne _ _ hne] at he; exact he
  have hnc : nm ≠ q.c := fun z => by subst z; rw [hc] at hnm; cases hnm
  have hec : e ≠ q.c := fun z => by subst z; rw [hc] at he0; cases he0
  refine SOp_list (l := ds.reverse.map V.ref) (l' := [.ref nm]) (.inl (by rw [St.set_ne _ _ (Ne.symm hec), St.set_ne _ _ (Ne.symm hnc)]; exact hc)) (.inl (by rw [St.set_same])) (by simp; k_extra "om") (fun ch hch => ?_)
  refine Put.go (by k_extra "put") ?_
  have hce : ch ≠ e := fun z => by subst z; rw [St.set_same] at hch; cases hch
  have hcn : ch ≠ nm := fun z => by subst z; rw [St.set_ne _ _ hce, St.set_same] at hch; cases hch
  have hch0 : st ch = none := by rw [St.set_ne _ _ hce, St.set_ne _ _ hcn] at hch; exact hch
  have hTn : T ≠ nm := fun z => by subst z; rw [hT] at hnm; cases hnm
  have hWn : W ≠ nm := fun z => by subst z; rw [hW] at hnm; cases hnm
  have hTe : T ≠ e := fun z => by subst z; rw [hT] at he0; cases he0
  have hWe : W ≠ e := fun z => by subst z; rw [hW] at he0; cases he0
  have hTc : T ≠ ch := fun z => by subst z; rw [hT] at hch0; cases hch0
  have hWc : W ≠ ch := fun z => by subst z; rw [hW] at hch0; cases hch0
  have nT := hL.notIn (a := T) (fun d z => by rw [hT] at z; cases z)
  have nW := hL.notIn (a := W) (fun d z => by rw [hW] at z; cases z)
  have nn := hL.notIn (a := nm) (fun d z => by rw [hnm] at z; cases z)
  have ne' := hL.notIn (a := e) (fun d z => by rw [he0] at z; cases z)
  have nc := hL.notIn (a := ch) (fun d z => by rw [hch0] at z; cases z)
  have ok : Stp.Ok ⟨T, W, nm, ch, ds, q.env, wired⟩ := ⟨hTW, hTn, hWn, Ne.symm hTc, Ne.symm hWc, hcn, fun d hd => ⟨nT d hd, nW d hd, nn d hd⟩⟩
  have el : (ds.reverse.map V.ref) ++ [V.ref nm] = (nm :: ds).reverse.map V.ref := by simp
  rw [el]
  have gst : Grow2 T W st ((((st.set nm (.dict [])).set e (.list [.ref nm])).set ch (.list ((nm :: ds).reverse.map V.ref)))) := fun b m hb h1 h2 => by
    rw [St.set_ne _ _ (fun z => by subst z; rw [hch0] at hb; cases hb), St.set_ne _ _ (fun z => by subst z; rw [he0] at hb; cases hb), St.set_ne _ _ (fun z => by subst z; rw [hnm] at hb; cases hb)]
    exact hb
  have S1 : SD ⟨T, W, nm, ch, ds, q.env, wired⟩ st rows [] (dn ++ (q :: todo).map Pd.enc) ((((st.set nm (.dict [])).set e (.list [.ref nm])).set ch (.list ((nm :: ds).reverse.map V.ref)))) := by
    refine ⟨?_, ?_, ?_, by simp, ((hL.set nn).set ne').set nc, fun b m hb h1 h2 h3 => gst b m hb h1 h2⟩
    · show St.set _ _ _ T = _
      rw [St.set_ne _ _ hTc, St.set_ne _ _ hTe, St.set_ne _ _ hTn]; exact hT
    · show St.set _ _ _ W = _
      rw [St.set_ne _ _ hWc, St.set_ne _ _ hWe, St.set_ne _ _ hWn]; exact hW
    · show St.set _ _ _ nm = _
      rw [St.set_ne _ _ (Ne.symm hcn), St.set_ne _ _ (Ne.symm hne), St.set_same]; rfl
  refine dueLoops F ok (vit := vit) (k := dn.length + 1) (c := q.c) hsc hgd hw hd hd1 S1 hz (by simp only [List.length_append, List.length_map, List.length_cons]; k_extra "om") (fun fr' st' s1 S2 => ?_) _ rfl
  refine h fr' st' ch (fun x hx => s1 x ?_) S2.T ?_ (fun b m hb h1 h2 => S2.gr b m hb h1 h2 (fun z => by subst z; rw [hnm] at hb; cases hb)) (fun js hjs => ⟨nm :: ds, S2.ch, S2.near, Ne.symm hTc, Ne.symm hWc, kids_gd hgd js hjs, by have := kids_wt js hjs; simp only [List.length_cons]; k_extra "om"⟩)
  · revert x; unfold base5 base9; k_extra "sub"
  · have := S2.W
    rw [this, kids, List.map_map]; rfl
end
/-! the plain law: what the checker tells is what the law reckons, in another order -/
theorem ckBranch_perm (wired : Bool) (env : List Sc) : ∀ x : Item, (ckBranch wired env x).Perm ((tests x).flatMap (exRows env) ++ (arms x).flatMap fun a => ckScope wired env a.is)
  | .nop => by simp [ckBranch, tests, arms]
  | .block m l is => by simp [ckBranch, tests, arms]
  | .gif m c x y => by
    have hx := ckBranch_perm wired env x
    have hy := ckBranch_perm wired env y
    simp only [ckBranch, ckItem, tests, arms, List.flatMap_cons, List.flatMap_append]
    rw [List.append_assoc, List.append_assoc]
    refine List.Perm.append_left _ ?_
    refine (hx.append hy).trans ?_
    simp only [List.append_assoc]
    refine List.Perm.append_left _ ?_
    rw [← List.append_assoc, ← List.append_assoc]
    exact List.Perm.append_right _ List.perm_append_comm
  | .gcase m c l x y => by
    have hx := ckBranch_perm wired env x
    have hy := ckBranch_perm wired env y
    simp only [ckBranch, ckItem, tests, arms, List.flatMap_cons, List.flatMap_append, exRows]
    simp only [List.append_assoc]
    refine List.Perm.append_left _ (List.Perm.append_left _ ?_)
    refine (hx.append hy).trans ?_
    simp only [List.append_assoc]
    refine List.Perm.append_left _ ?_
    rw [← List.append_assoc, ← List.append_assoc]
    exact List.Perm.append_right _ List.perm_append_comm
  | .cassign m t v => by rw [ckBranch_oth _ _ rfl]; simp [tests, arms]
  | .gate m t v => by rw [ckBranch_oth _ _ rfl]; simp [tests, arms]
  | .net m n => by rw [ckBranch_oth _ _ rfl]; simp [tests, arms]
  | .var m n => by rw [ckBranch_oth _ _ rfl]; simp [tests, arms]
  | .param m n => by rw [ckBranch_oth _ _ rfl]; simp [tests, arms]
  | .event m n => by rw [ckBranch_oth _ _ rfl]; simp [tests, arms]
  | .gfor m n bm bl is => by rw [ckBranch_oth _ _ rfl]; simp [tests, arms]
theorem tgtRows_words (env : List Sc) (t : Tg) : tgtRows env t = (words t.ex).flatMap (tgtRow env) := by cases t <;> simp [tgtRows, words, Tg.ex]
theorem ckItem_perm (wired : Bool) (env : List Sc) (i : Item) (hi : i ≠ .nop) : (ckItem wired env i).Perm (itemRows env i ++ (kidArms i).flatMap fun a => ckScope wired env a.is) := by
  cases i
  case nop => exact absurd rfl hi
  case cassign m t v => simp [ckItem, itemRows, kidArms, tgtRows_words]
  case gate m t v => simp [ckItem, itemRows, kidArms, tgtRows_words]
  case block m l is => simp [ckItem, itemRows, kidArms, tests]
  case gfor m g bm bl is => simp [ckItem, itemRows, kidArms]
  case gif m c x y =>
    have := ckBranch_perm wired env (.gif m c x y)
    simp only [ckBranch] at this
    exact this
  case gcase m c l x y =>
    have := ckBranch_perm wired env (.gcase m c l x y)
    simp only [ckBranch] at this
    exact this
  all_goals simp [ckItem, itemRows, kidArms, tests]
theorem ckItems_perm (wired : Bool) (env : List Sc) : ∀ is : List Item, gds is = true → (ckItems wired env is).Perm (is.flatMap (itemRows env) ++ (is.flatMap kidArms).flatMap fun a => ckScope wired env a.is)
  | [], _ => by simp [ckItems]
  | i :: is, h => by
    obtain ⟨hi, _, hg⟩ := gds_cons h
    have h1 := ckItem_perm wired env i hi
    have h2 := ckItems_perm wired env is hg
    simp only [ckItems, List.flatMap_cons, List.flatMap_append]
    refine (h1.append h2).trans ?_
    simp only [List.append_assoc]
    refine List.Perm.append_left _ ?_
    rw [← List.append_assoc, ← List.append_assoc]
    exact List.Perm.append_right _ List.perm_append_comm
theorem ckScope_perm (wired : Bool) (env : List Sc) (is : List Item) (h : gds is = true) : (ckScope wired env is).Perm (locRows wired env is ++ (kids is).flatMap fun js => ckScope wired ((declScope wired env is).2 :: env) js) := by
  rw [ckScope]
  have h1 := ckItems_perm wired ((declScope wired env is).2 :: env) is h
  unfold locRows kids
  rw [List.flatMap_map, List.append_assoc]
  exact List.Perm.append_left _ h1
/-! the measure -/
noncomputable def mes (is : List Item) : Nat := 2 * wts is + 1
theorem arms_mes : ∀ i : Item, ((arms i).map fun a => mes a.is).sum ≤ 2 * i.wt + 1
  | .gif _ _ x y => by
    have := arms_mes x
    have := arms_mes y
    simp only [arms, List.map_append, List.sum_append, Item.wt]; k_extra "om"
  | .gcase _ _ _ x y => by
    have := arms_mes x
    have := arms_mes y
    simp only [arms, List.map_append, List.sum_append, Item.wt]; k_extra "om"
  | .nop => by simp [arms]
  | .block _ _ is => by simp only [arms, List.map_cons, List.map_nil, List.sum_cons, List.sum_nil, mes, Item.wt]; k_extra "om"
  | .cassign _ _ _ => by simp [arms, mes, wts, Item.wt]
  | .gate _ _ _ => by simp [arms, mes, wts, Item.wt]
  | .net _ _ => by simp [arms, mes, wts, Item.wt]
  | .var _ _ => by simp [arms, mes, wts, Item.wt]
  | .param _ _ => by simp [arms, mes, wts, Item.wt]
  | .event _ _ => by simp [arms, mes, wts, Item.wt]
  | .gfor _ _ _ _ is => by simp [arms, mes, wts, Item.wt]
theorem kidArms_mes (i : Item) : ((kidArms i).map fun a => mes a.is).sum ≤ 2 * i.wt := by
  cases i
  case gif m c x y =>
    have := arms_mes x
    have := arms_mes y
    simp only [kidArms, arms, List.map_append, List.sum_append, Item.wt]; k_extra "om"
  case gcase m c l x y =>
    have := arms_mes x
    have := arms_mes y
    simp only [kidArms, arms, List.map_append, List.sum_append, Item.wt]; k_extra "om"
  case block m l is => simp only [kidArms, List.map_cons, List.map_nil, List.sum_cons, List.sum_nil, mes, Item.wt]; k_extra "om"
  case gfor m g bm bl is => simp only [kidArms, List.map_cons, List.map_nil, List.sum_cons, List.sum_nil, mes, Item.wt]; k_extra "om"
  all_goals simp [kidArms]
theorem kids_mes : ∀ is : List Item, ((kids is).map mes).sum ≤ 2 * wts is
  | [] => by simp [kids]
  | i :: is => by
    have h1 := kidArms_mes i
    have h2 := kids_mes is
    simp only [kids, List.flatMap_cons, List.map_append, List.sum_append, List.map_map, wts] at h2 ⊢
    have e : ((kidArms i).map fun a => mes a.is) = (kidArms i).map (mes ∘ fun a => a.is) := rfl
    rw [e] at h1
    k_extra "om"
/-! how many rows there are -/
theorem useRows_len (env : List Sc) (u : Use) : (useRows env u).length ≤ 1 := by unfold useRows; split <;> simp
theorem exRows_len (env : List Sc) (x : Ex) : (exRows env x).length ≤ 2 := by
  cases x
  case cat m u v => have := useRows_len env u; have := useRows_len env v; simp only [exRows, List.length_append]; k_extra "om"
  case id u => have := useRows_len env u; simp only [exRows]; k_extra "om"
  case un m u => have := useRows_len env u; simp only [exRows]; k_extra "om"
  case num => simp [exRows]
theorem tgtRow_len (env : List Sc) (u : Use) : (tgtRow env u).length ≤ 1 := by unfold tgtRow; split <;> simp
theorem tgtRows_len (env : List Sc) (t : Tg) : (tgtRows env t).length ≤ 2 := by
  cases t
  case id u => have := tgtRow_len env u; simp only [tgtRows]; k_extra "om"
  case cat m u v => have := tgtRow_len env u; have := tgtRow_len env v; simp only [tgtRows, List.length_append]; k_extra "om"
theorem forRow_len (env : List Sc) (m : Int) (g : PySem.Str) : (forRow env m g).length ≤ 1 := by unfold forRow; split <;> simp
/-- the labels of a branch -/
noncomputable def labs : Item → Nat
  | .block _ _ _ => 1
  | .gif _ _ x y => labs x + labs y
  | .gcase _ _ _ x y => labs x + labs y
  | .nop => 0
  | .cassign _ _ _ => 0
  | .gate _ _ _ => 0
  | .net _ _ => 0
  | .var _ _ => 0
  | .param _ _ => 0
  | .event _ _ => 0
  | .gfor _ _ _ _ _ => 0
theorem declBranch_labs (g : Int) : ∀ (i : Item) (p : List Row × Sc), (declBranch g i p).1.length ≤ p.1.length + labs i
  | .gif m c x y, p => by
    have h1 := declBranch_labs g x p
    have h2 := declBranch_labs g y (declBranch g x p)
    simp only [declBranch, labs]; k_extra "om"
  | .gcase m c l x y, p => by
    have h1 := declBranch_labs g x p
    have h2 := declBranch_labs g y (declBranch g x p)
    simp only [declBranch, labs]; k_extra "om"
  | .block m l is, p => by have := addLab_len l m g p; simp only [declBranch, labs]; k_extra "om"
  | .nop, p => by simp [declBranch]
  | .cassign _ _ _, p => by simp [declBranch]
  | .gate _ _ _, p => by simp [declBranch]
  | .net _ _, p => by simp [declBranch]
  | .var _ _, p => by simp [declBranch]
  | .param _ _, p => by simp [declBranch]
  | .event _ _, p => by simp [declBranch]
  | .gfor _ _ _ _ _, p => by simp [declBranch]
/-- what the declaring of an item can tell -/
noncomputable def decls : Item → Nat
  | .net _ _ => 1
  | .var _ _ => 1
  | .param _ _ => 1
  | .event _ _ => 1
  | .gfor _ _ _ _ _ => 1
  | .nop => labs (.nop)
  | .cassign x y z => labs (.cassign x y z)
  | .gate x y z => labs (.gate x y z)
  | .block x y z => labs (.block x y z)
  | .gcase x y z u v => labs (.gcase x y z u v)
  | .gif x y z u => labs (.gif x y z u)
noncomputable def declsAll : List Item → Nat
  | [] => 0
  | i :: is => decls i + declsAll is
theorem declItem_rows (i : Item) (p : List Row × Sc) : (declItem i p).1.length ≤ p.1.length + decls i := by
  cases i
  case block m l is => have := addLab_len l m (-1) p; simp only [declItem, decls, labs]; k_extra "om"
  case gfor m g bm bl is => have := addLab_len bl bm (-1) p; simp only [declItem, decls]; k_extra "om"
  case gif m c x y => exact declBranch_labs m _ p
  case gcase m c l x y => exact declBranch_labs m _ p
  case net m n => exact (addName_len ..).1
  case var m n => exact (addName_len ..).1
  case param m n => exact (addName_len ..).1
  case event m n => exact (addName_len ..).1
  all_goals simp [declItem]
theorem declAll_rows : ∀ (is : List Item) (p : List Row × Sc), (declAll is p).1.length ≤ p.1.length + declsAll is
  | [], p => by simp [declAll]
  | i :: is, p => by
    have h1 := declItem_rows i p
    have h2 := declAll_rows is (declItem i p)
    simp only [declAll, List.foldl_cons, declsAll] at h2 ⊢; k_extra "om"
theorem ck_bound (wired : Bool) : ∀ n : Nat, (∀ env is, 3 * wts is + 2 ≤ n → (ckScope wired env is).length ≤ wts is) ∧ (∀ env is, 3 * wts is + 1 ≤ n → (ckItems wired env is).length + declsAll is ≤ wts is) ∧
    (∀ env i, 3 * i.wt ≤ n → (ckItem wired env i).length + decls i ≤ i.wt) ∧ (∀ env i, 3 * i.wt + 4 ≤ n → (ckBranch wired env i).length + labs i ≤ i.wt) := by
  intro n
  induction n using Nat.strongRecOn with
  | _ n ih =>
    refine ⟨fun env is hn => ?_, fun env is hn => ?_, fun env i hn => ?_, fun env i hn => ?_⟩
    · rw [ckScope]
      have h1 := (ih (3 * wts is + 1) (by k_extra "om")).2.1 ((declScope wired env is).2 :: env) is (Nat.le_refl _)
      have h2 := declAll_rows is ([], [])
      have h3 : (declScope wired env is).1 = (declAll is ([], [])).1 := rfl
      simp only [List.length_append, h3]
      simp only [List.length_nil] at h2
      k_extra "om"
    · cases is with
      | nil => simp [ckItems, declsAll]
      | cons i is =>
        have hp := i.wt_pos
        simp only [wts] at hn
        have h1 := (ih (3 * i.wt) (by k_extra "om")).2.2.1 env i (Nat.le_refl _)
        have h2 := (ih (3 * wts is + 1) (by k_extra "om")).2.1 env is (Nat.le_refl _)
        simp only [ckItems, List.length_append, declsAll, wts]
        k_extra "om"
    · cases i
      case cassign m t v =>
        have := tgtRows_len env t
        have := exRows_len env v
        simp only [ckItem, List.length_append, decls, labs, Item.wt]; k_extra "om"
      case gate m t v =>
        have := tgtRows_len env t
        have := exRows_len env v
        simp only [ckItem, List.length_append, decls, labs, Item.wt]; k_extra "om"
      case block m l is =>
        simp only [Item.wt] at hn
        have := (ih (3 * wts is + 2) (by k_extra "om")).1 env is (Nat.le_refl _)
        simp only [ckItem, decls, labs, Item.wt]; k_extra "om"
      case gfor m g bm bl is =>
        simp only [Item.wt] at hn
        have := (ih (3 * wts is + 2) (by k_extra "om")).1 env is (Nat.le_refl _)
        have := forRow_len env m g
        simp only [ckItem, List.length_append, decls, Item.wt]; k_extra "om"
      case gif m c x y =>
        have hx := x.wt_pos
        have hy := y.wt_pos
        simp only [Item.wt] at hn
        have h1 := (ih (3 * x.wt + 4) (by k_extra "om")).2.2.2 env x (Nat.le_refl _)
        have h2 := (ih (3 * y.wt + 4) (by k_extra "om")).2.2.2 env y (Nat.le_refl _)
        have := exRows_len env c
        simp only [ckItem, List.length_append, decls, labs, Item.wt]; k_extra "om"
      case gcase m c l x y =>
        have hx := x.wt_pos
        have hy := y.wt_pos
        simp only [Item.wt] at hn
        have h1 := (ih (3 * x.wt + 4) (by k_extra "om")).2.2.2 env x (Nat.le_refl _)
        have h2 := (ih (3 * y.wt + 4) (by k_extra "om")).2.2.2 env y (Nat.le_refl _)
        have := useRows_len env c
        have := useRows_len env l
        simp only [ckItem, List.length_append, decls, labs, Item.wt]; k_extra "om"
      all_goals simp [ckItem, decls, labs, Item.wt]
    · by_cases ho : i.oth = true
      · rw [ckBranch_oth _ _ ho]
        have hw : wts [i] = i.wt := by simp [wts]
        have := (ih (3 * i.wt + 2) (by k_extra "om")).1 env [i] (by k_extra "om")
        have hl : labs i = 0 := by cases i <;> first | (exact absurd ho Bool.false_ne_true) | rfl
        k_extra "om"
      · cases i <;> first | (exact absurd rfl ho) | skip
        case nop => simp [ckBranch, labs]
        case block m l is =>
          simp only [Item.wt] at hn
          have := (ih (3 * wts is + 2) (by k_extra "om")).1 env is (Nat.le_refl _)
          simp only [ckBranch, labs, Item.wt]; k_extra "om"
        case gif m c x y =>
          have := (ih (3 * (Item.gif m c x y).wt) (by k_extra "om")).2.2.1 env (.gif m c x y) (Nat.le_refl _)
          simp only [ckBranch]
          exact this
        case gcase m c l x y =>
          have := (ih (3 * (Item.gcase m c l x y).wt) (by k_extra "om")).2.2.1 env (.gcase m c l x y) (Nat.le_refl _)
          simp only [ckBranch]
          exact this
theorem ckScope_len (wired : Bool) (env : List Sc) (is : List Item) : (ckScope wired env is).length ≤ wts is := (ck_bound wired (3 * wts is + 2)).1 env is (Nat.le_refl _)
section
variable {B : Base} {C : Cfg} {fr : Fr'} {st : St}

noncomputable def gSc : Sc := [("g", .genvar 1)]
noncomputable def totalOf (wired : Bool) (todo : List Pd) : List Row := todo.flatMap fun q => ckScope wired q.env q.is
noncomputable def mesAll (todo : List Pd) : Nat := (todo.map fun q => mes q.is).sum
theorem mesAll_len (todo : List Pd) : todo.length ≤ mesAll todo := by
  induction todo with
  | nil => simp
  | cons q todo ih => simp only [mesAll, List.map_cons, List.sum_cons, List.length_cons, mes] at ih ⊢; k_extra "om"
set_option maxHeartbeats 1000000 in
theorem law_due_spec (F : Facts B) {is : List Item} {wired : Bool} {d : Nat} {Q : V → St → Prop} (hg : gds is = true) (hw : wts is ≤ 250) (hd : wts is + 10 ≤ d)
    (h : ∀ a st' rows, rows.Perm (ckScope wired [gSc] is) → st a = none → st' a = some (encR rows) → Keep st st' → Q (.ref a) st') : SCode B (d + 1) (gval B "_law_due") [.tup (encs is), .bool wired] st Q := by
  refine SCode_at F (k := 56) (fr0 := ?fr) ["items", "wired"] (by kernel_rfl) rfl ?hb (by decide +kernel) (by kernel_rfl) (by kernel_rfl) ?hfr ?h
  k_extra "fn"
  intro C hsc hd'
  refine SX_cons ?_
  repeat k_extra "tb"
  with_reducible refine SE_List ?_
  repeat k_extra "tb"
  intro T hT
  repeat k_extra "tb"
  with_reducible refine SE_List ?_
  repeat k_extra "tb"
  with_reducible refine SE_List ?_
  repeat k_extra "tb"
  with_reducible refine SE_Dict ?_ ?h1 ?h2 ?h3 ?h4
  case h1 => exact rfl
  case h2 => exact rfl
  case h3 => simp
  case h4 => exact Nat.le_of_ble_eq_true rfl
  refine SPs_cons ?_
  repeat k_extra "tb"
  refine SPs_nil ⟨by k_extra "nd", fun g hgn => ?_⟩
  repeat k_extra "tb"
  intro ch hch
  repeat k_extra "tb"
  intro W hW
  repeat k_extra "tb"
  have hgT : g ≠ T := fun z => by subst z; rw [St.set_same] at hgn; cases hgn
  have hcg : ch ≠ g := fun z => by subst z; rw [St.set_same] at hch; cases hch
  have hcT : ch ≠ T := fun z => by subst z; rw [St.set_ne _ _ hcg, St.set_same] at hch; cases hch
  have hWc : W ≠ ch := fun z => by subst z; rw [St.set_same] at hW; cases hW
  have hWg : W ≠ g := fun z => by subst z; rw [St.set_ne _ _ hWc, St.set_same] at hW; cases hW
  have hWT : W ≠ T := fun z => by subst z; rw [St.set_ne _ _ hWc, St.set_ne _ _ hWg, St.set_same] at hW; cases hW
  have hW0 : st W = none := by rw [St.set_ne _ _ hWc, St.set_ne _ _ hWg, St.set_ne _ _ hWT] at hW; exact hW
  have hc0 : st ch = none := by rw [St.set_ne _ _ hcg, St.set_ne _ _ hcT] at hch; exact hch
  have hg0 : st g = none := by rw [St.set_ne _ _ hgT] at hgn; exact hgn
  refine SX1_while (fun n fr' s => ∃ dn todo rows, n = mesAll todo ∧ (∀ x ∈ base5 (.tup (encs is)) wired T W ((dn : List V).length : Nat), x ∈ fr') ∧ s T = some (encR rows) ∧ s W = some (.list (dn ++ todo.map Pd.enc)) ∧ (∀ q ∈ todo, PdOk T W s q) ∧ (∀ q ∈ todo, wts q.is ≤ wts is) ∧
      (rows ++ totalOf wired todo).Perm (ckScope wired [gSc] is) ∧ (∀ b m, st b = some m → s b = some m) ∧ dn.length + n ≤ 600) (mes is) ?_ ?_
  · refine ⟨[], [⟨ch, [gSc], is⟩], [], by simp [mesAll], (by show ∀ x ∈ base5 (.tup (encs is)) wired T W 0, x ∈ _; unfold base5; k_extra "sub"), ?_, ?_, ?_, by simp, by simp [totalOf], ?_, by simp only [List.length_nil, mes]; k_extra "om"⟩
    · rw [St.set_ne _ _ (Ne.symm hWT), St.set_ne _ _ (Ne.symm hcT), St.set_ne _ _ (Ne.symm hgT)]; simp [encR]
    · rw [St.set_same]; rfl
    · intro q hq
      simp only [List.mem_singleton] at hq
      subst hq
      refine ⟨[g], ?_, ⟨?_, trivial⟩, hcT, Ne.symm hWc, hg, by simp only [List.length_singleton]; k_extra "om"⟩
      · rw [St.set_ne _ _ (Ne.symm hWc), St.set_same]; rfl
      · rw [St.set_ne _ _ (Ne.symm hWg), St.set_ne _ _ (Ne.symm hcg), St.set_same]; rfl
    · intro b m hb
      rw [St.set_ne _ _ (fun z => by subst z; rw [hW0] at hb; cases hb), St.set_ne _ _ (fun z => by subst z; rw [hc0] at hb; cases hb), St.set_ne _ _ (fun z => by subst z; rw [hg0] at hb; cases hb), St.set_ne _ _ (fun z => by subst z; rw [hT] at hb; cases hb)]
      exact hb
  · rintro n fr' s ⟨dn, todo, rows, rfl, hs, gT, gW, hP, hwt, hR, hK, hlim⟩
    have ndb : ((base5 (.tup (encs is)) wired T W (dn.length : Nat)).map (·.1)).Nodup := by simp only [base5, List.map_cons, List.map_nil]; decide +kernel
    refine ST.forget hs ndb ?_
    unfold base5
    repeat k_extra "tb"
    refine SCall_len_list (.inl gW) (by have := mesAll_len todo; simp only [List.length_append, List.length_map]; k_extra "om") ?_
    refine SC_lt_int (fun hlt => ?_) (fun hnl => ?_)
    · cases todo with
      | nil => simp only [List.map_nil, List.append_nil] at hlt; k_extra "om"
      | cons q todo =>
        have hml := mesAll_len todo
        have hlen := hR.length_eq
        have hq := hP q (.head _)
        have hgq : gds q.is = true := by obtain ⟨_, _, _, _, _, h5, _⟩ := hq; exact h5
        have hp := ckScope_perm wired q.env q.is hgq
        have hpl := hp.length_eq
        have htot := ckScope_len wired [gSc] is
        have hwq := hwt q (.head _)
        have hm : mesAll (q :: todo) = mes q.is + mesAll todo := by simp [mesAll]
        have hT2 : totalOf wired (q :: todo) = ckScope wired q.env q.is ++ totalOf wired todo := by simp [totalOf]
        rw [hT2] at hR hlen
        simp only [List.length_append] at hlen hpl
        rw [hm] at hlim ⊢
        simp only [mes] at hlim
        refine SX_forget hs ndb ?_
        refine due_step F (q := q) (todo := todo) (dn := dn) (rows := rows) hsc (Ne.symm hWT) gT gW hq (by k_extra "om") (by k_extra "om") (by k_extra "om") (by k_extra "om") (by simp only [List.length_append]; k_extra "om") (by k_extra "om") (fun fr2 s2 c2 a1 a2 a3 a4 a5 => ?_) _ rfl
        have hmk := kids_mes q.is
        refine ⟨mesAll (todo ++ (kids q.is).map fun js => ⟨c2, (declScope wired q.env q.is).2 :: q.env, js⟩), ?_, dn ++ [q.enc], todo ++ (kids q.is).map fun js => ⟨c2, (declScope wired q.env q.is).2 :: q.env, js⟩, rows ++ locRows wired q.env q.is, rfl, ?_, a2, ?_, ?_, ?_, ?_, ?_, ?_⟩
        · have e : mesAll (todo ++ (kids q.is).map fun js => (⟨c2, (declScope wired q.env q.is).2 :: q.env, js⟩ : Pd)) = mesAll todo + ((kids q.is).map mes).sum := by simp [mesAll, Function.comp_def]
          rw [e]; simp only [mes]; k_extra "om"
        · have e : (((dn ++ [q.enc]).length : Nat) : Int) = (dn.length : Int) + 1 := by simp
          rw [e]; exact a1
        · rw [a3]; simp [Function.comp_def, Pd.enc]
        · intro r hr
          rcases List.mem_append.mp hr with hr | hr
          · exact (hP r (.tail _ hr)).grow a4 gT gW
          · obtain ⟨js, hjs, rfl⟩ := List.mem_map.mp hr; exact a5 js hjs
        · intro r hr
          rcases List.mem_append.mp hr with hr | hr
          · exact hwt r (.tail _ hr)
          · obtain ⟨js, hjs, rfl⟩ := List.mem_map.mp hr
            have := kids_wt js hjs
            simp only; k_extra "om"
        · refine List.Perm.trans ?_ hR
          have e : totalOf wired (todo ++ (kids q.is).map fun js => (⟨c2, (declScope wired q.env q.is).2 :: q.env, js⟩ : Pd)) = totalOf wired todo ++ (kids q.is).flatMap fun js => ckScope wired ((declScope wired q.env q.is).2 :: q.env) js := by
            simp [totalOf, List.flatMap_append, List.flatMap_map]
          rw [e, List.append_assoc]
          refine List.Perm.append_left _ ?_
          refine List.Perm.trans ?_ (List.Perm.append_right _ hp.symm)
          rw [List.append_assoc]
          exact List.Perm.append_left _ List.perm_append_comm
        · intro b m hb
          refine a4 b m (hK b m hb) (fun z => by subst z; rw [hT] at hb; cases hb) (fun z => by subst z; rw [hW0] at hb; cases hb)
        · have e : mesAll (todo ++ (kids q.is).map fun js => (⟨c2, (declScope wired q.env q.is).2 :: q.env, js⟩ : Pd)) = mesAll todo + ((kids q.is).map mes).sum := by simp [mesAll, Function.comp_def]
          rw [e]
          simp only [List.length_append, List.length_singleton]; k_extra "om"
    · cases todo with
      | cons q todo => exact absurd (show ((dn.length : Nat) : Int) < ((dn ++ (q :: todo).map Pd.enc).length : Nat) by simp only [List.length_append, List.length_map, List.length_cons]; k_extra "om") hnl
      | nil =>
        simp only [totalOf, List.flatMap_nil, List.append_nil] at hR
        refine SX_forget hs ndb ?_
        unfold base5
        repeat k_extra "tb"
        exact h T s rows hR hT gT hK
end
/-! sorting: the kit's tree of questions kas_sort, answered by ranks, ends in a sorted order -/
section
open PySem.W
noncomputable def KAll (n : Nat) (lt : Nat → Nat → Bool) {α : Type} (R : α → Prop) : KasT α → Prop
  | .ret a => R a
  | .ask i j k => i < n ∧ j < n ∧ KAll n lt R (k (lt i j))
variable {n : Nat} {κ : Nat → Nat}
abbrev ltK (κ : Nat → Nat) (i j : Nat) : Bool := decide (κ i < κ j)
theorem KAll.bind {lt : Nat → Nat → Bool} {α β : Type} {f : α → KasT β} {R : β → Prop} : ∀ (t : KasT α), KAll n lt (fun a => KAll n lt R (f a)) t → KAll n lt R (t.bind f)
  | .ret a, h => h
  | .ask i j k, ⟨h1, h2, h3⟩ => ⟨h1, h2, KAll.bind _ h3⟩
structure PB (n : Nat) (p : Array Nat) : Prop where
  size : p.size = n
  perm : p.toList.Perm (List.range n)
theorem PB.lt {p : Array Nat} (h : PB n p) (h0 : 0 < n) (i : Nat) : p.getD i 0 < n := by
  rw [Array.getD_eq_getD_getElem?]
  by_cases hi : i < p.size
  · rw [Array.getElem?_eq_getElem hi]
    have : p[i] ∈ p.toList := by simp
    have := h.perm.mem_iff.mp this
    simpa using this
  · rw [Array.getElem?_eq_none (by (k_extra "om"))]; exact h0
theorem PB.of {p q : Array Nat} (h : PB n p) (hq : q.Perm p) : PB n q := ⟨by rw [← h.size]; exact hq.size_eq, (Array.perm_iff_toList_perm.mp hq).trans h.perm⟩
theorem rev_getD {p : Array Nat} {i j : Nat} (hj : j ≤ p.size) (k : Nat) : (kas_rev p i j).getD k 0 = if i ≤ k ∧ k < j then p.getD (i + j - 1 - k) 0 else p.getD k 0 := by
  simp only [Array.getD_eq_getD_getElem?]
  unfold kas_rev
  rw [getElem?_mirror_all hj]
  split <;> rfl
theorem PB.rev {p : Array Nat} (h : PB n p) (i j : Nat) : PB n (kas_rev p i j) := h.of (mirror_perm _ _ _ _)
theorem bub_getD {p : Array Nat} {src d : Nat} (hs : src < p.size) (hd : d ≤ src) (k : Nat) : (bubble p src d).getD k 0 = if k = src - d then p.getD src 0 else if src - d < k ∧ k ≤ src then p.getD (k - 1) 0 else p.getD k 0 := by
  simp only [Array.getD_eq_getD_getElem?]
  rw [getElem?_bubble hs d hd]
  repeat' split
  all_goals rfl
noncomputable def Srt (κ : Nat → Nat) (p : Array Nat) (m : Nat) : Prop := ∀ i j, i ≤ j → j < m → κ (p.getD i 0) ≤ κ (p.getD j 0)
noncomputable def NonI (κ : Nat → Nat) (p : Array Nat) (m : Nat) : Prop := ∀ i j, i ≤ j → j < m → κ (p.getD j 0) ≤ κ (p.getD i 0)

theorem asc_all {p : Array Nat} (hp : PB n p) {R : Nat → Prop} : ∀ f m, 1 ≤ m → m + f ≤ n → Srt κ p m → (∀ r, m ≤ r → r ≤ m + f → Srt κ p r → (r = m + f ∨ κ (p.getD r 0) < κ (p.getD (r - 1) 0)) → R r) → KAll n (ltK κ) R (kas_asc p f m)
  | 0, m, h1, h2, hs, h => h m (Nat.le_refl _) (Nat.le_refl _) hs (.inl rfl)
  | f + 1, m, h1, h2, hs, h => by
    refine ⟨hp.lt (by (k_extra "om")) _, hp.lt (by (k_extra "om")) _, ?_⟩
    by_cases hc : κ (p.getD m 0) < κ (p.getD (m - 1) 0)
    · have e : ltK κ (p.getD m 0) (p.getD (m - 1) 0) = true := decide_eq_true hc
      rw [e]; simp only [if_true]
      exact h m (Nat.le_refl _) (by (k_extra "om")) hs (.inr hc)
    · have e : ltK κ (p.getD m 0) (p.getD (m - 1) 0) = false := decide_eq_false hc
      rw [e]; simp only [Bool.false_eq_true, if_false]
      refine asc_all hp f (m + 1) (by (k_extra "om")) (by (k_extra "om")) (fun i j hij hj => ?_) (fun r hr1 hr2 hs' ho => h r (by (k_extra "om")) (by (k_extra "om")) hs' (by rcases ho with ho | ho; exact .inl (by (k_extra "om")); exact .inr ho))
      by_cases hjm : j < m
      · exact hs i j hij hjm
      · have : j = m := by (k_extra "om")
        subst this
        by_cases hi : i = j
        · subst hi; exact Nat.le_refl _
        · have := hs i (j - 1) (by (k_extra "om")) (by (k_extra "om")); (k_extra "om")

/-- a run of equals turned round is the same to the ranks -/
theorem rev_eq {p : Array Nat} {i j : Nat} (hj : j ≤ p.size) (h : ∀ k, i ≤ k → k < j → κ (p.getD k 0) = κ (p.getD (j - 1) 0)) (k : Nat) : κ ((kas_rev p i j).getD k 0) = κ (p.getD k 0) := by
  rw [rev_getD hj]
  split
  · next hk => rw [h (i + j - 1 - k) (by (k_extra "om")) (by (k_extra "om")), h k hk.1 hk.2]
  · rfl
theorem desc_all {R : Array Nat × Nat × Nat → Prop} : ∀ f (p : Array Nat) m q, PB n p → q + 1 ≤ m → m + f ≤ n → NonI κ p m → (∀ i, m - (q + 1) ≤ i → i < m → κ (p.getD i 0) = κ (p.getD (m - 1) 0)) →
    (∀ p' m' q', PB n p' → q' + 1 ≤ m' → m ≤ m' → m' ≤ m + f → NonI κ p' m' → (∀ i, m' - (q' + 1) ≤ i → i < m' → κ (p'.getD i 0) = κ (p'.getD (m' - 1) 0)) → R (p', m', q')) → KAll n (ltK κ) R (kas_desc f p m q)
  | 0, p, m, q, hp, hq, hm, hN, he, h => h p m q hp hq (Nat.le_refl _) (Nat.le_refl _) hN he
  | f + 1, p, m, q, hp, hq, hm, hN, he, h => by
    refine ⟨hp.lt (by (k_extra "om")) _, hp.lt (by (k_extra "om")) _, ?_⟩
    have step : ∀ p' : Array Nat, (∀ k, κ (p'.getD k 0) = κ (p.getD k 0)) → κ (p.getD m 0) ≤ κ (p.getD (m - 1) 0) → NonI κ p' (m + 1) := fun p' hk hle i j hij hj => by
      rw [hk, hk]
      by_cases hjm : j < m
      · exact hN i j hij hjm
      · have : j = m := by (k_extra "om")
        subst this
        by_cases hi : i = j
        · subst hi; exact Nat.le_refl _
        · have := hN i (j - 1) (by (k_extra "om")) (by (k_extra "om")); (k_extra "om")
    by_cases hc : κ (p.getD m 0) < κ (p.getD (m - 1) 0)
    · have e : ltK κ (p.getD m 0) (p.getD (m - 1) 0) = true := decide_eq_true hc
      rw [e]; simp only [if_true]
      by_cases hq0 : q > 0
      · rw [if_pos hq0]
        have hr := rev_eq (κ := κ) (p := p) (i := m - (q + 1)) (j := m) (by rw [hp.size]; (k_extra "om")) he
        exact desc_all f _ (m + 1) 0 (hp.rev _ _) (by (k_extra "om")) (by (k_extra "om")) (step _ hr (by (k_extra "om"))) (fun i h1 h2 => by rw [show i = m + 1 - 1 by (k_extra "om")]) (fun p' m' q' a b c d => h p' m' q' a b (by (k_extra "om")) (by (k_extra "om")))
      · rw [if_neg hq0]
        exact desc_all f _ (m + 1) 0 hp (by (k_extra "om")) (by (k_extra "om")) (step _ (fun _ => rfl) (by (k_extra "om"))) (fun i h1 h2 => by rw [show i = m + 1 - 1 by (k_extra "om")]) (fun p' m' q' a b c d => h p' m' q' a b (by (k_extra "om")) (by (k_extra "om")))
    · have e : ltK κ (p.getD m 0) (p.getD (m - 1) 0) = false := decide_eq_false hc
      rw [e]; simp only [Bool.false_eq_true, if_false]
      refine ⟨hp.lt (by (k_extra "om")) _, hp.lt (by (k_extra "om")) _, ?_⟩
      by_cases hc2 : κ (p.getD (m - 1) 0) < κ (p.getD m 0)
      · have e : ltK κ (p.getD (m - 1) 0) (p.getD m 0) = true := decide_eq_true hc2
        rw [e]; simp only [if_true]
        exact h p m q hp hq (Nat.le_refl _) (by (k_extra "om")) hN he
      · have e : ltK κ (p.getD (m - 1) 0) (p.getD m 0) = false := decide_eq_false hc2
        rw [e]; simp only [Bool.false_eq_true, if_false]
        refine desc_all f p (m + 1) (q + 1) hp (by (k_extra "om")) (by (k_extra "om")) (step _ (fun _ => rfl) (by (k_extra "om"))) (fun i h1 h2 => ?_) (fun p' m' q' a b c d => h p' m' q' a b (by (k_extra "om")) (by (k_extra "om")))
        have e2 : m + 1 - 1 = m := by (k_extra "om")
        rw [e2]
        by_cases hi : i = m
        · rw [hi]
        · have := he i (by (k_extra "om")) (by (k_extra "om")); (k_extra "om")
theorem tail3_all {R : Nat × Array Nat → Prop} {p : Array Nat} {m : Nat} (hp : PB n p) (h1 : 1 ≤ m) (h2 : m ≤ n) (hN : NonI κ p m) (h : ∀ r p', PB n p' → 1 ≤ r → r ≤ n → Srt κ p' r → R (r, p')) : KAll n (ltK κ) R (kas_tail3 m n p) := by
  unfold kas_tail3
  refine KAll.bind _ (asc_all (hp.rev _ _) _ _ h1 (by (k_extra "om")) (fun i j hij hj => ?_) (fun r a b c d => h r _ (hp.rev _ _) (by (k_extra "om")) (by (k_extra "om")) c))
  rw [rev_getD (by rw [hp.size]; (k_extra "om")), rev_getD (by rw [hp.size]; (k_extra "om")), if_pos (by (k_extra "om")), if_pos (by (k_extra "om"))]
  exact hN _ _ (by (k_extra "om")) (by (k_extra "om"))
theorem descPart_all {R : Nat × Array Nat → Prop} {p : Array Nat} {m : Nat} (hp : PB n p) (h1 : 1 ≤ m) (h2 : m + 1 ≤ n) (hN : NonI κ p (m + 1)) (h : ∀ r p', PB n p' → 1 ≤ r → r ≤ n → Srt κ p' r → R (r, p')) : KAll n (ltK κ) R (kas_descPart m n p) := by
  unfold kas_descPart
  refine KAll.bind _ (desc_all _ _ _ _ hp (by omega) (by omega) hN (fun i a b => by have : i = m + 1 - 1 := by omega
                                                                                    rw [this]) (fun p' m' q' hp' hq' hm1 hm2 hN' he' => ?_))
  dsimp only
  split
  · have hr := rev_eq (κ := κ) (p := p') (i := m' - (q' + 1)) (j := m') (by rw [hp'.size]; (k_extra "om")) he'
    exact tail3_all (hp'.rev _ _) (by (k_extra "om")) (by (k_extra "om")) (fun i j hij hj => by rw [hr, hr]; exact hN' i j hij hj) h
  · exact tail3_all hp' (by (k_extra "om")) (by (k_extra "om")) hN' h
theorem count_all {R : Nat × Array Nat → Prop} {p : Array Nat} (hp : PB n p) (h1 : 1 ≤ n) (h : ∀ r p', PB n p' → 1 ≤ r → r ≤ n → Srt κ p' r → R (r, p')) : KAll n (ltK κ) R (kas_count n p) := by
  unfold kas_count
  refine KAll.bind _ (asc_all hp _ _ (Nat.le_refl _) (by omega) (fun i j hij hj => by have h1 : i = 0 := by omega
                                                                                      have h2 : j = 0 := by omega
                                                                                      rw [h1, h2]; exact Nat.le_refl _) (fun r a b hs ho => ?_))
  by_cases hr : r = n
  · rw [if_pos (by simpa using hr)]
    exact h r p hp a (by (k_extra "om")) hs
  · rw [if_neg (by simpa using hr)]
    have hlt : κ (p.getD r 0) < κ (p.getD (r - 1) 0) := by rcases ho with ho | ho; exact absurd (by (k_extra "om")) hr; exact ho
    split
    · refine ⟨hp.lt (by (k_extra "om")) _, hp.lt (by (k_extra "om")) _, ?_⟩
      by_cases hc : κ (p.getD 0 0) < κ (p.getD (r - 1) 0)
      · have e : ltK κ (p.getD 0 0) (p.getD (r - 1) 0) = true := decide_eq_true hc
        rw [e]; simp only [if_true]
        exact h r p hp a (by (k_extra "om")) hs
      · have e : ltK κ (p.getD 0 0) (p.getD (r - 1) 0) = false := decide_eq_false hc
        rw [e]; simp only [Bool.false_eq_true, if_false]
        have heq : ∀ k, 0 ≤ k → k < r → κ (p.getD k 0) = κ (p.getD (r - 1) 0) := fun k _ hk => by
          have a1 := hs 0 k (by (k_extra "om")) hk
          have a2 := hs k (r - 1) (by (k_extra "om")) (by (k_extra "om"))
          (k_extra "om")
        have hr2 := rev_eq (κ := κ) (p := p) (i := 0) (j := r) (by rw [hp.size]; (k_extra "om")) heq
        refine descPart_all (hp.rev _ _) a (by (k_extra "om")) (fun i j hij hj => ?_) h
        rw [hr2, hr2]
        by_cases hj' : j < r
        · have := heq i (by (k_extra "om")) (by (k_extra "om")); have := heq j (by (k_extra "om")) hj'; (k_extra "om")
        · have : j = r := by (k_extra "om")
          subst this
          by_cases hi : i = j
          · subst hi; exact Nat.le_refl _
          · have := heq i (by (k_extra "om")) (by (k_extra "om")); (k_extra "om")
    · refine descPart_all hp a (by (k_extra "om")) (fun i j hij hj => ?_) h
      have : r = 1 := by (k_extra "om")
      subst this
      by_cases hi : i = j
      · subst hi; exact Nat.le_refl _
      · have h1 : i = 0 := by (k_extra "om")
        have h2 : j = 1 := by (k_extra "om")
        subst h1 h2; exact Nat.le_of_lt hlt
theorem place_all {R : Nat → Prop} {p : Array Nat} {k : Nat} (hp : PB n p) (hk : k < n) (hs : Srt κ p k) (h : ∀ l, l ≤ k → (∀ i, i < l → κ (p.getD i 0) ≤ κ (p.getD k 0)) → (∀ i, l ≤ i → i < k → κ (p.getD k 0) < κ (p.getD i 0)) → R l) :
    ∀ f l r, l ≤ r → r ≤ k → r - l ≤ f → (∀ i, i < l → κ (p.getD i 0) ≤ κ (p.getD k 0)) → (∀ i, r ≤ i → i < k → κ (p.getD k 0) < κ (p.getD i 0)) → KAll n (ltK κ) R (kas_place p k f l r)
  | 0, l, r, hlr, hrk, hf, h1, h2 => h l (by (k_extra "om")) h1 (fun i a b => h2 i (by (k_extra "om")) b)
  | f + 1, l, r, hlr, hrk, hf, h1, h2 => by
    unfold kas_place
    split
    · exact h l (by (k_extra "om")) h1 (fun i a b => h2 i (by (k_extra "om")) b)
    · next hlt =>
      refine ⟨hp.lt (by (k_extra "om")) _, hp.lt (by (k_extra "om")) _, ?_⟩
      by_cases hc : κ (p.getD k 0) < κ (p.getD ((l + r) / 2) 0)
      · have e : ltK κ (p.getD k 0) (p.getD ((l + r) / 2) 0) = true := decide_eq_true hc
        rw [e]; simp only [if_true]
        exact place_all hp hk hs h f _ _ (by (k_extra "om")) (by (k_extra "om")) (by (k_extra "om")) h1 (fun i a b => by have := hs ((l + r) / 2) i a b; (k_extra "om"))
      · have e : ltK κ (p.getD k 0) (p.getD ((l + r) / 2) 0) = false := decide_eq_false hc
        rw [e]; simp only [Bool.false_eq_true, if_false]
        exact place_all hp hk hs h f _ _ (by (k_extra "om")) (by (k_extra "om")) (by (k_extra "om")) (fun i a => by have := hs i ((l + r) / 2) (by (k_extra "om")) (by (k_extra "om")); (k_extra "om")) h2
theorem bin_all {R : Array Nat → Prop} (h : ∀ p, PB n p → Srt κ p n → R p) : ∀ f (p : Array Nat) k, PB n p → k + f = n → Srt κ p k → KAll n (ltK κ) R (kas_bin f p k)
  | 0, p, k, hp, hk, hs => h p hp (by have : k = n := by omega
                                      rw [← this]; exact hs)
  | f + 1, p, k, hp, hk, hs => by
    unfold kas_bin
    refine KAll.bind _ (place_all hp (by (k_extra "om")) hs (fun l hl a1 a2 => ?_) _ _ _ (Nat.zero_le _) (Nat.le_refl _) (by (k_extra "om")) (fun i hi => absurd hi (by (k_extra "om"))) (fun i a b => absurd a (by (k_extra "om"))))
    refine bin_all h f _ (k + 1) (hp.of (bubble_perm _ _ _)) (by (k_extra "om")) (fun i j hij hj => ?_)
    have hb := fun i => bub_getD (p := p) (src := k) (d := k - l) (by rw [hp.size]; (k_extra "om")) (by (k_extra "om")) i
    rw [hb, hb]
    have el : k - (k - l) = l := by (k_extra "om")
    rw [el]
    repeat' split
    all_goals first
      | exact Nat.le_refl _
      | (exfalso; (k_extra "om"))
      | exact a1 _ (by (k_extra "om"))
      | exact Nat.le_of_lt (a2 _ (by (k_extra "om")) (by (k_extra "om")))
      | exact hs _ _ (by (k_extra "om")) (by (k_extra "om"))
theorem sort_all (h1 : 1 ≤ n) {R : Array Nat → Prop} (h : ∀ p, PB n p → Srt κ p n → R p) : KAll n (ltK κ) R (kas_sort n) := by
  unfold kas_sort
  have hp : PB n (List.toArray (List.range n)) := ⟨by simp, by simp⟩
  refine KAll.bind _ (count_all hp h1 (fun r p' hp' a b hs => ?_))
  dsimp only
  split
  · have e : max r 1 = r := by (k_extra "om")
    rw [e]
    exact bin_all h _ _ _ hp' (by (k_extra "om")) hs
  · have : r = n := by (k_extra "om")
    subst this
    exact h p' hp' hs
end
/-! the order of rows -/
theorem str_ext {a b : PySem.Str} (h : a.cps.toList = b.cps.toList) : a = b := by
  obtain ⟨a⟩ := a; obtain ⟨b⟩ := b
  simp only at h
  rw [Array.toList_inj.mp h]
noncomputable def rlt (r s : Row) : Bool := if r.k = s.k then (if r.pl = s.pl then (if r.n = s.n then false else decide (r.n.cps.toList < s.n.cps.toList)) else decide (r.pl < s.pl)) else decide (r.k.cps.toList < s.k.cps.toList)
theorem lt_str_irrefl (a : List Nat) : ¬ a < a := List.lt_irrefl a
theorem rlt_irrefl (r : Row) : rlt r r = false := by simp [rlt]
theorem rlt_total {r s : Row} (h1 : rlt r s = false) (h2 : rlt s r = false) : r = s := by
  obtain ⟨k, p, n⟩ := r; obtain ⟨k', p', n'⟩ := s
  simp only [rlt] at h1 h2
  by_cases hk : k = k'
  · subst hk
    simp only [if_true] at h1 h2
    by_cases hp : p = p'
    · subst hp
      simp only [if_true] at h1 h2
      by_cases hn : n = n'
      · subst hn; rfl
      · rw [if_neg hn] at h1
        rw [if_neg (Ne.symm hn)] at h2
        simp only [decide_eq_false_iff_not] at h1 h2
        exact absurd (str_ext (List.le_antisymm (List.not_lt.mp h2) (List.not_lt.mp h1))) hn
    · rw [if_neg hp] at h1
      rw [if_neg (Ne.symm hp)] at h2
      simp only [decide_eq_false_iff_not] at h1 h2
      exact absurd (by k_extra "om") hp
  · rw [if_neg hk] at h1
    rw [if_neg (Ne.symm hk)] at h2
    simp only [decide_eq_false_iff_not] at h1 h2
    exact absurd (str_ext (List.le_antisymm (List.not_lt.mp h2) (List.not_lt.mp h1))) hk
theorem rlt_trans {r s t : Row} (h1 : rlt r s = true) (h2 : rlt s t = true) : rlt r t = true := by
  obtain ⟨k, p, n⟩ := r; obtain ⟨k', p', n'⟩ := s; obtain ⟨k2, p2, n2⟩ := t
  simp only [rlt] at h1 h2 ⊢
  by_cases hk : k = k'
  · subst hk
    by_cases hk2 : k = k2
    · subst hk2
      simp only [if_true] at h1 h2 ⊢
      by_cases hp : p = p'
      · subst hp
        by_cases hp2 : p = p2
        · subst hp2
          simp only [if_true] at h1 h2 ⊢
          by_cases hn : n = n'
          · subst hn; simp at h1
          · by_cases hn2 : n' = n2
            · subst hn2; simp at h2
            · rw [if_neg hn] at h1; rw [if_neg hn2] at h2
              simp only [decide_eq_true_eq] at h1 h2
              have h3 := List.lt_trans h1 h2
              have hne : n ≠ n2 := fun e => by subst e; exact lt_str_irrefl _ h3
              rw [if_neg hne]; simpa using h3
        · simp only [if_true, if_neg hp2] at h1 h2 ⊢; exact h2
      · rw [if_neg hp] at h1
        by_cases hp2 : p' = p2
        · subst hp2; rw [if_neg hp]; exact h1
        · rw [if_neg hp2] at h2
          simp only [decide_eq_true_eq] at h1 h2
          rw [if_neg (by k_extra "om")]; simp only [decide_eq_true_eq]; k_extra "om"
    · simp only [if_neg hk2] at h2 ⊢; exact h2
  · rw [if_neg hk] at h1
    by_cases hk2 : k' = k2
    · subst hk2; rw [if_neg hk]; exact h1
    · rw [if_neg hk2] at h2
      simp only [decide_eq_true_eq] at h1 h2
      have h3 := List.lt_trans h1 h2
      have hne : k ≠ k2 := fun e => by subst e; exact lt_str_irrefl _ h3
      rw [if_neg hne]; simpa using h3
noncomputable def rank (l : List Row) (r : Row) : Nat := l.countP fun x => rlt x r
theorem countP_le_of {α : Type} {p q : α → Bool} : ∀ (l : List α), (∀ x, p x = true → q x = true) → l.countP p ≤ l.countP q
  | [], _ => by simp
  | x :: l, h => by
    have ih := countP_le_of l h
    simp only [List.countP_cons]
    cases hp : p x with
    | false => simp; k_extra "om"
    | true => rw [h x hp]; simp; k_extra "om"
theorem countP_lt_of {α : Type} {p q : α → Bool} : ∀ (l : List α), (∀ x, p x = true → q x = true) → (∃ x ∈ l, q x = true ∧ p x = false) → l.countP p < l.countP q
  | [], _, ⟨_, h, _⟩ => by cases h
  | x :: l, h, ⟨y, hy, h1, h2⟩ => by
    simp only [List.countP_cons]
    rcases List.mem_cons.mp hy with e | hy
    · subst e
      have ih := countP_le_of l h
      rw [h1, h2]; simp; k_extra "om"
    · have ih := countP_lt_of l h ⟨y, hy, h1, h2⟩
      cases hp : p x with
      | false => simp; k_extra "om"
      | true => rw [h x hp]; simp; k_extra "om"
theorem rank_lt {l : List Row} {r s : Row} (hr : r ∈ l) (h : rlt r s = true) : rank l r < rank l s :=
  countP_lt_of l (fun x hx => rlt_trans hx h) ⟨r, hr, h, rlt_irrefl r⟩
theorem rank_ge {l : List Row} {r s : Row} (h : rlt r s = false) : rank l s ≤ rank l r := by
  by_cases e : rlt s r = true
  · exact countP_le_of l (fun x hx => rlt_trans hx e)
  · have : r = s := rlt_total h (by simpa using e)
    subst this; exact Nat.le_refl _
theorem rank_iff {l : List Row} {r s : Row} (hr : r ∈ l) : decide (rank l r < rank l s) = rlt r s := by
  cases h : rlt r s with
  | true => exact decide_eq_true (rank_lt hr h)
  | false => exact decide_eq_false (by have := rank_ge (l := l) h; k_extra "om")
theorem rank_perm {l l' : List Row} (h : l.Perm l') (r : Row) : rank l r = rank l' r := h.countP_eq _
/-- rows in order: unique -/
noncomputable def Ord (l : List Row) (r s : Row) : Prop := rank l r ≤ rank l s
theorem sorted_unique {l a b : List Row} (ha : a.Perm l) (hb : b.Perm l) (sa : a.Pairwise (Ord l)) (sb : b.Pairwise (Ord l)) : a = b := by
  refine (ha.trans hb.symm).eq_of_pairwise (fun x y hx hy h1 h2 => ?_) sa sb
  have hx' := ha.mem_iff.mp hx
  have hy' := hb.mem_iff.mp hy
  refine rlt_total ?_ ?_
  · cases e : rlt x y with
    | false => rfl
    | true => have := rank_lt hx' e; unfold Ord at h2; k_extra "om"
  · cases e : rlt y x with
    | false => rfl
    | true => have := rank_lt hy' e; unfold Ord at h1; k_extra "om"

/-! the questions of the tree are answered by the rows' order -/
section
open PySem.W
variable {prog : Program} {w : World} {A : Around} {s : Shared}
theorem row_open {h : Heap} {r : Row} {v : Value} (q : RV h r.enc v) : ∃ a n t1 t2 t3, v = .ref a ∧ h.get? a = some (tupObj [.str r.k t1, .int r.pl t2, .str r.n t3] n) := by
  simp only [Row.enc, RV, RVs] at q
  obtain ⟨x, xs, i, rfl, gx, v1, q1, rfl, ⟨t1, rfl⟩, v2, q2, rfl, ⟨t2, rfl⟩, v3, q3, rfl, ⟨t3, rfl⟩, rfl⟩ := q
  exact ⟨x, i, t1, t2, t3, rfl, gx⟩
noncomputable def SameH (s s' : Shared) : Prop := ∃ tk, s' = { s with toks := tk }
theorem row_lt {r r' : Row} {v v' : Value} {C : Bool → Shared → Prop} (h1 : RV s.heap r.enc v) (h2 : RV s.heap r'.enc v') (h : ∀ s', SameH s s' → C (rlt r r') s') : wpAny (model prog w) A (keyLt' (tuples' true) v v') C (fun _ _ => False) s := by
  obtain ⟨a, n, t1, t2, t3, rfl, g⟩ := row_open h1
  obtain ⟨b, n', u1, u2, u3, rfl, g'⟩ := row_open h2
  have hs : ∀ c, rlt r r' = c → C c s := fun c e => by rw [← e]; exact h s ⟨s.toks, rfl⟩
  refine kat_lt g rfl g' rfl ?_
  show KatLex prog w A true false C [(.str r.k t1, .str r'.k u1), (.int r.pl t2, .int r'.pl u2), (.str r.n t3, .str r'.n u3)] 0 s
  refine kat_cons (eqBool_str ?_)
  refine kat_go (fun e1 => ?_) (fun e1 => ?_)
  · have e1 : r.k = r'.k := by simpa using e1
    refine kat_yes (kat_cons (PySem.wpAny_eqBool_int ?_))
    refine kat_go (fun e2 => ?_) (fun e2 => ?_)
    · have e2 : r.pl = r'.pl := by simpa using e2
      refine kat_yes (kat_cons (eqBool_str ?_))
      refine kat_go (fun e3 => ?_) (fun e3 => ?_)
      · have e3 : r.n = r'.n := by simpa using e3
        refine kat_yes (kat_nil (hs false ?_))
        simp [rlt, e1, e2, e3]
      · have e3 : r.n ≠ r'.n := by simpa using e3
        refine kat_no ?_
        have e : rlt r r' = decide (r.n.cps.toList < r'.n.cps.toList) := by simp [rlt, e1, e2, e3]
        refine kat_one _ _ (lt_str ?_)
        show C (decide (r.n.cps.toList < r'.n.cps.toList)) _
        rw [← e]
        exact h _ ⟨_, rfl⟩
    · have e2 : r.pl ≠ r'.pl := by simpa using e2
      refine kat_no ?_
      have e : rlt r r' = decide (r.pl < r'.pl) := by simp [rlt, e1, e2]
      refine kat_one _ _ (lt_int ?_)
      show C (decide (r.pl < r'.pl)) _
      rw [← e]
      exact h _ ⟨_, rfl⟩
  · have e1 : r.k ≠ r'.k := by simpa using e1
    refine kat_no ?_
    have e : rlt r r' = decide (r.k.cps.toList < r'.k.cps.toList) := by simp [rlt, e1]
    exact oneLt_str (by rw [← e]; exact h s ⟨s.toks, rfl⟩)
end
section
open PySem.W
variable {prog : Program} {w : World} {A : Around} {s : Shared}
theorem SameH.refl : SameH s s := ⟨s.toks, rfl⟩
theorem SameH.trans {s1 s2 : Shared} (a : SameH s s1) (b : SameH s1 s2) : SameH s s2 := by
  obtain ⟨t, rfl⟩ := a; obtain ⟨u, rfl⟩ := b; exact ⟨u, rfl⟩
theorem SameH.heap {s1 : Shared} (a : SameH s s1) : s1.heap = s.heap := by obtain ⟨t, rfl⟩ := a; rfl
theorem RVs.getDV {h : Heap} {rows : List Row} {vs : List Value} (q : RVs h (rows.map Row.enc) vs) {i : Nat} (hi : i < rows.length) : RV h (rows.getD i ⟨"", 0, ""⟩).enc (vs.getD i Value.none) := by
  have hg : (rows.map Row.enc)[i]? = some (rows.getD i ⟨"", 0, ""⟩).enc := by
    rw [List.getElem?_map, List.getD_eq_getElem?_getD, List.getElem?_eq_getElem hi]; rfl
  obtain ⟨v, e, r⟩ := RVs.get q hg
  have e2 : vs.getD i Value.none = v := by rw [List.getD_eq_getElem?_getD, e]; rfl
  rw [e2]
  exact r
/-- the tree's run over rows -/
theorem kas_rows {rows : List Row} {vs : List Value} (q : RVs s.heap (rows.map Row.enc) vs) {α : Type} {R : α → Prop} {G : α → Shared → Prop} : ∀ (t : KasT α) (s' : Shared), SameH s s' →
    KAll rows.length (fun i j => rlt (rows.getD i ⟨"", 0, ""⟩) (rows.getD j ⟨"", 0, ""⟩)) R t → (∀ a s'', R a → SameH s s'' → G a s'') → t.kasWp (kas_ask prog w A (tuples' true) vs) G s'
  | .ret a, s', hs, hk, hg => hg a s' hk hs
  | .ask i j k, s', hs, ⟨hi, hj, hk⟩, hg => by
    show wpAny (model prog w) A (keyLt' (tuples' true) (vs.getD i Value.none) (vs.getD j Value.none)) (fun b s'' => (k b).kasWp (kas_ask prog w A (tuples' true) vs) G s'') (fun _ _ => False) s'
    refine row_lt (by rw [hs.heap]; exact q.getDV hi) (by rw [hs.heap]; exact q.getDV hj) (fun s2 h2 => ?_)
    exact kas_rows q _ s2 (hs.trans h2) hk hg
theorem KAll.mono {n : Nat} {lt lt' : Nat → Nat → Bool} {α : Type} {R : α → Prop} (h : ∀ i j, i < n → j < n → lt i j = lt' i j) : ∀ (t : KasT α), KAll n lt R t → KAll n lt' R t
  | .ret a, h1 => h1
  | .ask i j k, ⟨h1, h2, h3⟩ => ⟨h1, h2, by rw [← h i j h1 h2]; exact KAll.mono h _ h3⟩
noncomputable def sortRows (rows : List Row) (p : Array Nat) : List Row := p.toList.map fun i => rows.getD i ⟨"", 0, ""⟩
theorem sortRows_perm {rows : List Row} {p : Array Nat} (hp : PB rows.length p) : (sortRows rows p).Perm rows := by
  have := hp.perm.map fun i => rows.getD i ⟨"", 0, ""⟩
  refine this.trans (List.Perm.of_eq ?_)
  apply List.ext_getElem?
  intro i
  rw [List.getElem?_map]
  by_cases hi : i < rows.length
  · rw [List.getElem?_range hi, List.getElem?_eq_getElem hi]
    simp [hi]
  · rw [List.getElem?_eq_none (by simpa using hi), List.getElem?_eq_none (by k_extra "om")]; rfl
theorem getD_mem {rows : List Row} {i : Nat} (hi : i < rows.length) : rows.getD i ⟨"", 0, ""⟩ ∈ rows := by
  rw [List.getD_eq_getElem?_getD, List.getElem?_eq_getElem hi]; simp
theorem sortRows_sorted {rows : List Row} {p : Array Nat} (hp : PB rows.length p) (hs : Srt (fun i => rank rows (rows.getD i ⟨"", 0, ""⟩)) p rows.length) : (sortRows rows p).Pairwise (Ord rows) := by
  rw [List.pairwise_iff_getElem]
  intro i j hi hj hij
  have hl : (sortRows rows p).length = rows.length := by simp [sortRows, hp.size]
  have := hs i j (by k_extra "om") (by k_extra "om")
  have e : ∀ k (hk : k < (sortRows rows p).length), (sortRows rows p)[k] = rows.getD (p.getD k 0) ⟨"", 0, ""⟩ := fun k hk => by
    have hk' : k < p.size := by rw [hp.size]; k_extra "om"
    simp [sortRows, Array.getD, hk']
  unfold Ord
  rw [e i hi, e j hj]
  exact this
theorem sortRows_rep {h : Heap} {rows : List Row} {vs : List Value} {p : Array Nat} (q : RVs h (rows.map Row.enc) vs) (hp : PB rows.length p) (h0 : 0 < rows.length) : RVs h ((sortRows rows p).map Row.enc) (p.toList.map fun i => vs.getD i Value.none) := by
  have hall : ∀ i ∈ p.toList, i < rows.length := fun i hi => by have := hp.perm.mem_iff.mp hi; simpa using this
  unfold sortRows
  generalize p.toList = l at hall
  induction l with
  | nil => simp [RVs]
  | cons i l ih =>
    simp only [List.map_cons, RVs]
    exact ⟨_, _, rfl, q.getDV (hall i (.head _)), ih fun j hj => hall j (.tail _ hj)⟩
end
section
open PySem.W
variable {prog : Program} {w : World} {A : Around} {E : Value → Shared → Prop} {s : Shared}
theorem kat_of_rows {h : Heap} : ∀ {rows : List Row} {vs : List Value}, RVs h (rows.map Row.enc) vs → ∃ fs, KatTups h vs fs ∧ fs.length = rows.length ∧ ∀ v ∈ fs, ∃ x t, v = Value.str x t
  | [], _, q => by simp only [List.map_nil, RVs] at q; subst q; exact ⟨[], .nil, rfl, fun _ h => by cases h⟩
  | r :: rows, _, q => by
    simp only [List.map_cons, RVs] at q
    obtain ⟨v, vs, rfl, q1, q2⟩ := q
    obtain ⟨a, n, t1, t2, t3, rfl, g⟩ := row_open q1
    obtain ⟨fs, k1, k2, k3⟩ := kat_of_rows q2
    refine ⟨.str r.k t1 :: fs, .cons g rfl rfl rfl k1, by simp [k2], fun v hv => ?_⟩
    rcases List.mem_cons.mp hv with e | hv
    · exact ⟨_, _, e⟩
    · exact k3 v hv
noncomputable def outOf (vs : List Value) (p : Array Nat) : Array Value := List.toArray (p.toList.map fun i => vs.getD i Value.none)
theorem rows_list_sort {a : Addr} {vs : List Value} {rows : List Row} {n : Nat} {P : PySem.Fin → Shared → Prop} (ho : s.heap.get? a = some (seqObj "list" vs.toArray n)) (q : RVs s.heap (rows.map Row.enc) vs) (h1 : 1 ≤ rows.length) (h64 : rows.length < 64)
    (h : ∀ p s', PB rows.length p → Srt (fun i => rank rows (rows.getD i ⟨"", 0, ""⟩)) p rows.length → SameH { s with heap := sortedHeap s.heap a vs (outOf vs p) } s' → P (.done (.ret .none)) s') :
    wpAny (model prog w) A (Builtin.«list.sort» ⟨[.ref a], []⟩) P E s := by
  have hlen : vs.length = rows.length := by have := q.length; simpa using this
  rw [list_sort_plain]
  have ha : a < s.heap.objs.size := Heap.lt_size ho
  refine wpAny_bind (listItems_at ho rfl ?_)
  refine wpAny_bind (listUpdate_at ho rfl ?_ (by rw [List.size_toArray, sizeLine_eq]; k_extra "om") (Nat.zero_le _))
  obtain ⟨e1, ho1⟩ : ∃ e1, (s.heap.update a (Obj.mapSeq fun _ => (#[] : Array Value))).get? a = some (seqObj "list" #[] e1) := ⟨_, get?_update_seq ho (fun _ => #[])⟩
  refine wpAny_bind (seqEpoch_at ho1 rfl ?_)
  refine wpAny_bind (wpAny_newTuple ?_ (by show vs.length ≤ _; rw [sizeLine_eq]; k_extra "om"))
  refine wpAny_bind (wpAny_newList ?_ (Nat.zero_le _))
  refine wpAny_holding ?_
  have ho6 : (((s.heap.update a (Obj.mapSeq fun _ => (#[] : Array Value))).push (seqObj "tuple" vs.toArray 0)).push (seqObj "list" #[] 0)).get? a = some (seqObj "list" #[] e1) := by
    rw [Heap.get?_push_ne _ _ _ (by rw [size_push', Heap.size_update]; exact Nat.ne_of_lt (Nat.lt_succ_of_lt ha)), Heap.get?_push_ne _ _ _ (by rw [Heap.size_update]; exact Nat.ne_of_lt ha)]
    exact ho1
  show wpAny (model prog w) A _ P E { s with heap := ((s.heap.update a (Obj.mapSeq fun _ => (#[] : Array Value))).push (seqObj "tuple" vs.toArray 0)).push (seqObj "list" #[] 0) }
  have kT : KeepT s.heap (((s.heap.update a (Obj.mapSeq fun _ => (#[] : Array Value))).push (seqObj "tuple" vs.toArray 0)).push (seqObj "list" #[] 0)) := fun b o g c => by
    have hb : b ≠ a := fun e => by subst e; rw [ho] at g; cases g; rcases c.1 with c | c <;> simp at c
    exact Heap.get?_push_of_some _ (Heap.get?_push_of_some _ (by rw [Heap.get?_update_ne _ _ _ _ hb]; exact g))
  have q6 := q.mono kT
  dsimp only
  by_cases h2 : vs.toArray.size < 2
  · rw [if_pos h2, if_pos h2]
    have hr1 : rows.length = 1 := by rw [List.size_toArray] at h2; k_extra "om"
    obtain ⟨v, rfl⟩ : ∃ v, vs = [v] := by
      match vs, hlen with
      | [v], _ => exact ⟨v, rfl⟩
      | [], hl => simp at hl; k_extra "om"
      | _ :: _ :: _, hl => simp at hl; k_extra "om"
    refine wpAny_bind (wpAny_pure ?_)
    rw [StateT.run_pure]
    refine wpAny_bind (wpAny_pure ?_)
    dsimp only
    refine wpAny_bind (seqEpoch_at ho6 rfl ?_)
    have hm : Array.map (fun x : Keyed => x.2) (arrOf (SortSt.mk' general' (([v] : List Value).toArray.zip ([v] : List Value).toArray) #[] 7 none)) = #[v] := by
      show Array.map (fun x : Keyed => x.2) (([v] : List Value).toArray.zip ([v] : List Value).toArray) = _
      simp
    rw [hm]
    refine wpAny_bind (listUpdate_at ho6 rfl ?_ (Nat.zero_le _) (by rw [sizeLine_eq]; simp))
    simp only [bne_self_eq_false, Bool.false_eq_true, if_false]
    refine wpAny_pure (h #[0] _ ⟨by rw [hr1]; rfl, by rw [hr1]; simp⟩ (fun i j hij hj => ?_) ?_)
    · have h1 : i = 0 := by k_extra "om"
      have h2 : j = 0 := by k_extra "om"
      rw [h1, h2]; exact Nat.le_refl _
    · exact ⟨s.toks, rfl⟩
  · rw [if_neg h2, if_neg h2]
    obtain ⟨fs, k1, k2, k3⟩ := kat_of_rows q6
    have hrun : wpAny (model prog w) A (keyKind' vs.toArray) (fun κ s' => κ = tuples' true ∧ s' = { s with heap := ((s.heap.update a (Obj.mapSeq fun _ => (#[] : Array Value))).push (seqObj "tuple" vs.toArray 0)).push (seqObj "list" #[] 0) }) (fun _ _ => False) { s with heap := ((s.heap.update a (Obj.mapSeq fun _ => (#[] : Array Value))).push (seqObj "tuple" vs.toArray 0)).push (seqObj "list" #[] 0) } := by
      refine kat_kind (T := .type "str") k1 (by k_extra "om") (fun v hv => ?_) (by decide) ⟨by congr 1, rfl⟩
      obtain ⟨x, t, rfl⟩ := k3 v hv
      exact .now
    refine wpAny_bind (wpAny_mono hrun (fun κ s0 hq0 => ?_) fun _ _ x => x.elim)
    obtain ⟨e1', e2'⟩ := hq0
    subst e1' e2'
    have hrows : KAll rows.length (fun i j => rlt (rows.getD i ⟨"", 0, ""⟩) (rows.getD j ⟨"", 0, ""⟩)) (fun p => PB rows.length p ∧ Srt (fun i => rank rows (rows.getD i ⟨"", 0, ""⟩)) p rows.length) (kas_sort rows.length) :=
      KAll.mono (fun i j hi hj => rank_iff (getD_mem hi)) _ (sort_all (κ := fun i => rank rows (rows.getD i ⟨"", 0, ""⟩)) h1 fun p a b => ⟨a, b⟩)
    have hwp := kas_rows (prog := prog) (w := w) (A := A) (s := { s with heap := ((s.heap.update a (Obj.mapSeq fun _ => (#[] : Array Value))).push (seqObj "tuple" vs.toArray 0)).push (seqObj "list" #[] 0) }) (G := fun p s' => (PB rows.length p ∧ Srt (fun i => rank rows (rows.getD i ⟨"", 0, ""⟩)) p rows.length) ∧ SameH { s with heap := ((s.heap.update a (Obj.mapSeq fun _ => (#[] : Array Value))).push (seqObj "tuple" vs.toArray 0)).push (seqObj "list" #[] 0) } s') q6 _ _ SameH.refl hrows (fun p s' a b => ⟨a, b⟩)
    rw [← hlen] at hwp
    refine wpAny_bind (wpAny_mono (kat_run (Q := fun st' s' => ∃ p : Array Nat, arrOf st' = p.map (kas_item (vs.toArray.zip vs.toArray)) ∧ failedOf st' = none ∧ (PB vs.length p ∧ Srt (fun i => rank rows (rows.getD i ⟨"", 0, ""⟩)) p vs.length) ∧ SameH { s with heap := ((s.heap.update a (Obj.mapSeq fun _ => (#[] : Array Value))).push (seqObj "tuple" vs.toArray 0)).push (seqObj "list" #[] 0) } s')
      rfl (by rw [List.size_toArray] at h2; k_extra "om") (by k_extra "om") (fun p' st' s' a1 a2 a3 a4 => ⟨p', a2, a3, a4.1, a4.2⟩) hwp) ?_ fun _ _ e => e)
    rintro ⟨⟨⟩, st'⟩ s' ⟨p, har, hf, ⟨hp, hsr⟩, hsame⟩
    dsimp only
    have hh := hsame.heap
    obtain ⟨tk, rfl⟩ := hsame
    have hout := kat_snds rfl har
    refine wpAny_bind (seqEpoch_at ho6 rfl ?_)
    rw [hout]
    refine wpAny_bind (listUpdate_at ho6 rfl ?_ (Nat.zero_le _) (by rw [List.size_toArray, List.length_map, Array.length_toList, hp.size, sizeLine_eq]; k_extra "om"))
    rw [hf]
    simp only [bne_self_eq_false, Bool.false_eq_true, if_false]
    rw [hlen] at hp hsr
    exact wpAny_pure (h p _ hp hsr ⟨tk, rfl⟩)
end
section
variable {B : Base} {st : St}
theorem SCall_sorted {d : Nat} {a : Addr} {rows : List Row} {Q : V → St → Prop} (ha : IsL st a (rows.map Row.enc)) (h1 : 1 ≤ rows.length) (h64 : rows.length < 64)
    (h : ∀ D rows', st D = none → rows'.Perm rows → rows'.Pairwise (Ord rows) → Q (.ref D) (st.set D (encR rows'))) : SCall B d (.builtin "sorted") [.ref a] st Q := fun A s us hr I r => by
  obtain ⟨v, rfl, r1⟩ := r.one
  simp only [RV] at r1
  subst r1
  obtain ⟨vs, hl, rs⟩ := ha.rep I
  have hlen : vs.length = rows.length := by have := rs.length; simpa using this
  refine Calls.call_function_entry kind_sorted plain_sorted entry_sorted (args_sorted1 _) ?_
  unfold Builtin.«sorted»
  refine wpAny_bind (m := checkCount "sorted" 1 1 _) (wpAny_pure ?_)
  refine wpAny_bind (collect_list hl ?_ (by rw [sizeLine_eq]; k_extra "om"))
  refine wpAny_bind (wpAny_newList ?_ (by rw [sizeLine_eq]; k_extra "om"))
  have hsz : ((s.heap.push (seqObj "list" #[] 0)).update s.heap.objs.size (Obj.mapSeq (· ++ vs.toArray))).objs.size = s.heap.objs.size + 1 := by
    rw [Heap.size_update, size_push']
  have hoL : (((s.heap.push (seqObj "list" #[] 0)).update s.heap.objs.size (Obj.mapSeq (· ++ vs.toArray))).push (seqObj "list" vs.toArray 0)).get? (s.heap.objs.size + 1) = some (seqObj "list" vs.toArray 0) := by
    rw [← hsz]; exact Heap.get?_push_size _ rfl
  have keep : ∀ b o, s.heap.get? b = some o → (((s.heap.push (seqObj "list" #[] 0)).update s.heap.objs.size (Obj.mapSeq (· ++ vs.toArray))).push (seqObj "list" vs.toArray 0)).get? b = some o := fun b o q => by
    have hlt : b < s.heap.objs.size := Heap.lt_size q
    rw [Heap.get?_push_ne _ _ _ (by rw [hsz]; exact Nat.ne_of_lt (Nat.lt_succ_of_lt hlt)), Heap.get?_update_ne _ _ _ _ (Nat.ne_of_lt hlt), Heap.get?_push_ne _ _ _ (Nat.ne_of_lt hlt)]
    exact q
  show wpAny _ _ _ _ _ { s with heap := ((s.heap.push (seqObj "list" #[] 0)).update s.heap.objs.size (Obj.mapSeq (· ++ vs.toArray))).push (seqObj "list" vs.toArray 0) }
  rw [hsz]
  refine wpAny_bind (wpAny_holding (wpAny_call_entry slot_list_sort ⟨_, hoL, rfl⟩ entry_list_sort ?body (args_list_sort _)))
  refine rows_list_sort (rows := rows) (s := { s with heap := ((s.heap.push (seqObj "list" #[] 0)).update s.heap.objs.size (Obj.mapSeq (· ++ vs.toArray))).push (seqObj "list" vs.toArray 0) }) hoL (rs.mono fun b o g _ => keep b o g) h1 h64 (fun p s' hp hs hsame => ?_)
  refine ⟨_, rfl, wpAny_pure ⟨_, rfl, ?_⟩⟩
  obtain ⟨tk, rfl⟩ := hsame
  -- the final heap
  have hm := (((s.heap.push (seqObj "list" #[] 0)).update s.heap.objs.size (Obj.mapSeq (· ++ vs.toArray))).push (seqObj "list" vs.toArray 0))
  obtain ⟨e1, ho1⟩ : ∃ e1, ((((s.heap.push (seqObj "list" #[] 0)).update s.heap.objs.size (Obj.mapSeq (· ++ vs.toArray))).push (seqObj "list" vs.toArray 0)).update (s.heap.objs.size + 1) (Obj.mapSeq fun _ => (#[] : Array Value))).get? (s.heap.objs.size + 1) = some (seqObj "list" #[] e1) := ⟨_, get?_update_seq hoL (fun _ => #[])⟩
  have hszM : (((s.heap.push (seqObj "list" #[] 0)).update s.heap.objs.size (Obj.mapSeq (· ++ vs.toArray))).push (seqObj "list" vs.toArray 0)).objs.size = s.heap.objs.size + 2 := by rw [size_push', hsz]
  have ho6 : ((((((s.heap.push (seqObj "list" #[] 0)).update s.heap.objs.size (Obj.mapSeq (· ++ vs.toArray))).push (seqObj "list" vs.toArray 0)).update (s.heap.objs.size + 1) (Obj.mapSeq fun _ => (#[] : Array Value))).push (seqObj "tuple" vs.toArray 0)).push (seqObj "list" #[] 0)).get? (s.heap.objs.size + 1) = some (seqObj "list" #[] e1) :=
    Heap.get?_push_of_some _ (Heap.get?_push_of_some _ ho1)
  have hD : (sortedHeap (((s.heap.push (seqObj "list" #[] 0)).update s.heap.objs.size (Obj.mapSeq (· ++ vs.toArray))).push (seqObj "list" vs.toArray 0)) (s.heap.objs.size + 1) vs (outOf vs p)).get? (s.heap.objs.size + 1) = some (seqObj "list" (outOf vs p) (if (outOf vs p).size == (#[] : Array Value).size then e1 else e1 + 1)) := get?_update_seq ho6 (fun _ => outOf vs p)
  have keep2 : ∀ b o, s.heap.get? b = some o → (sortedHeap (((s.heap.push (seqObj "list" #[] 0)).update s.heap.objs.size (Obj.mapSeq (· ++ vs.toArray))).push (seqObj "list" vs.toArray 0)) (s.heap.objs.size + 1) vs (outOf vs p)).get? b = some o := fun b o q => by
    have hb : b ≠ s.heap.objs.size + 1 := Nat.ne_of_lt (Nat.lt_succ_of_lt (Heap.lt_size q))
    unfold sortedHeap
    rw [Heap.get?_update_ne _ _ _ _ hb]
    exact Heap.get?_push_of_some _ (Heap.get?_push_of_some _ (by rw [Heap.get?_update_ne _ _ _ _ hb]; exact keep b o q))
  have fr : st (s.heap.objs.size + 1) = none := by
    cases q : st (s.heap.objs.size + 1) with
    | none => rfl
    | some m =>
      obtain ⟨o, g⟩ := (I.tr _ m q).2.there
      exact absurd (Heap.lt_size g) (Nat.not_lt.mpr (Nat.le_succ _))
  refine ⟨.ref (s.heap.objs.size + 1), _, by simp [RV], I.alloc (tk := tk) (m := encR (sortRows rows p)) keep2 (Nat.le_succ _) ⟨p.toList.map fun i => vs.getD i Value.none, _, hD, (sortRows_rep rs hp h1).mono fun b o g _ => keep2 b o g⟩, .alloc keep2 (Nat.le_succ _), h _ _ fr (sortRows_perm hp) (sortRows_sorted hp hs)⟩
end
section
variable {B : Base} {C : Cfg} {fr : Fr'} {st : St}
noncomputable def Row.py (r : Row) : PyData := .tuple [.str r.k, .int r.pl, .str r.n]
noncomputable def Row.ok (r : Row) : Bool := PyData.strOk r.k && PyData.strOk r.n
theorem rows_reads {h : Heap} : ∀ {rows : List Row} {vs : List Value}, RVs h (rows.map Row.enc) vs → ∃ as, ReadsAll h vs (rows.map Row.py) as
  | [], _, q => by simp only [List.map_nil, RVs] at q; subst q; exact ⟨_, .nil⟩
  | r :: rows, _, q => by
    simp only [List.map_cons, RVs] at q
    obtain ⟨v, vs, rfl, q1, q2⟩ := q
    obtain ⟨a, n, t1, t2, t3, rfl, g⟩ := row_open q1
    obtain ⟨as, k⟩ := rows_reads q2
    exact ⟨_, .cons (reads_tuple_at (xs := [.str r.k, .int r.pl, .str r.n]) g rfl rfl (.cons (.str _ _) (.cons (.int _ _) (.cons (.str _ _) .nil)))) k⟩
theorem rows_shaped {rows : List Row} (h : ∀ r ∈ rows, r.ok = true) : SeqAt.shaped (.list (rows.map Row.py)) = true := by
  have h1 : PyData.canLayAll0 (rows.map Row.py) = true := by
    induction rows with
    | nil => rfl
    | cons r rows ih =>
      have hr := h r (.head _)
      simp only [Row.ok, Bool.and_eq_true] at hr
      simp only [List.map_cons, PyData.canLayAll0, Row.py, PyData.canLay0, hr.1, hr.2, Bool.and_true, Bool.true_and]
      exact ih fun r hm => h r (.tail _ hm)
  have h2 : PyData.depthAll (rows.map Row.py) ≤ 3 := by
    clear h h1
    induction rows with
    | nil => simp [PyData.depthAll]
    | cons r rows ih =>
      simp only [List.map_cons, PyData.depthAll, Row.py, PyData.depth]
      have ih' := ih
      have e : (PyData.depthAll [.str r.k, .int r.pl, .str r.n]) ≤ 1 := by simp [PyData.depthAll, PyData.depth]
      simp only [PyData.depthAll, PyData.depth] at e
      k_extra "om"
  unfold SeqAt.shaped
  have h4 : (PyData.list (rows.map Row.py)).depth ≤ 64 := by simp only [PyData.depth]; k_extra "om"
  rw [decide_eq_true h4]
  simp only [PyData.canLay0, h1, Bool.true_and]
theorem rows_eqv : ∀ rows : List Row, PyData.eqvAll (rows.map Row.py) (rows.map Row.py) = true
  | [] => rfl
  | r :: rows => by simp [PyData.eqvAll, PyData.eqv, Row.py, rows_eqv rows]
theorem SC_eq_rows {a b : Addr} {rows : List Row} {Qt Qf : St → Prop} (hd : 1 ≤ C.d) (ha : IsL st a (rows.map Row.enc)) (hb : IsL st b (rows.map Row.enc)) (hok : ∀ r ∈ rows, r.ok = true) (h : Qt st) : SC B C .Eq (.ref a) (.ref b) st Qt Qf := fun s v u ok I r1 r2 => by
  simp only [RV] at r1 r2
  subst r1 r2
  obtain ⟨xs, ⟨oa, ga, ca, na, da⟩, ra⟩ := ha.rep I
  obtain ⟨ys, ⟨ob, gb, cb, nb, db⟩, rb⟩ := hb.rep I
  obtain ⟨as, qa⟩ := rows_reads ra
  obtain ⟨bs, qb⟩ := rows_reads rb
  have hu := ok.room.units
  refine eq_dataH (reads_list_at ga ca da (xs := rows.map Row.py) (by simpa using qa)) (reads_list_at gb cb db (xs := rows.map Row.py) (by simpa using qb)) (rows_shaped hok) (rows_shaped hok) (by k_extra "om") ⟨_, rfl, ?_⟩
  refine postB_of I (fun _ => h) fun e => ?_
  simp only [PyData.eqv, rows_eqv] at e
  cases e
end
/-! every row is readable by a comparison -/
noncomputable def AllOk (rows : List Row) : Prop := ∀ r ∈ rows, r.ok = true
theorem AllOk.nil : AllOk [] := fun _ h => by cases h
theorem AllOk.append {a b : List Row} (h1 : AllOk a) (h2 : AllOk b) : AllOk (a ++ b) := fun r h => by
  rcases List.mem_append.mp h with h | h
  · exact h1 r h
  · exact h2 r h
theorem AllOk.one {k n : PySem.Str} {m : Int} (hk : PyData.strOk k = true) (hn : okS n = true) : AllOk [⟨k, m, n⟩] := fun r h => by
  simp only [List.mem_singleton] at h
  subst h
  have hn : PyData.strOk n = true := hn
  simp [Row.ok, hk, hn]
theorem addName_ok {n : PySem.Str} {m : Int} {t : Ent} {p : List Row × Sc} (hn : okS n = true) (h : AllOk p.1) : AllOk (addName n m t p).1 := by
  unfold addName
  split
  · exact h.append (.one (by decide +kernel) hn)
  · exact h
theorem addLabel_ok {n : PySem.Str} {m g : Int} {p : List Row × Sc} (hn : okS n = true) (h : AllOk p.1) : AllOk (addLabel n m g p).1 := by
  unfold addLabel
  split
  · exact h
  · split
    · exact h.append (.one (by decide +kernel) hn)
    · exact h
  · exact h.append (.one (by decide +kernel) hn)
theorem addLab_ok {l : Option PySem.Str} {m g : Int} {p : List Row × Sc} (hn : okL l = true) (h : AllOk p.1) : AllOk (addLab l m g p).1 := by
  cases l with
  | none => exact h
  | some n => exact addLabel_ok hn h
theorem declBranch_ok (g : Int) : ∀ (i : Item) (p : List Row × Sc), i.nm = true → AllOk p.1 → AllOk (declBranch g i p).1
  | .gif m c x y, p, hi, h => by
    simp only [Item.nm, Bool.and_eq_true] at hi
    exact declBranch_ok g y _ hi.2 (declBranch_ok g x p hi.1.2 h)
  | .gcase m c l x y, p, hi, h => by
    simp only [Item.nm, Bool.and_eq_true] at hi
    exact declBranch_ok g y _ hi.2 (declBranch_ok g x p hi.1.2 h)
  | .block m l is, p, hi, h => by
    simp only [Item.nm, Bool.and_eq_true] at hi
    exact addLab_ok hi.1 h
  | .nop, p, _, h => by simpa [declBranch] using h
  | .cassign _ _ _, p, _, h => by simpa [declBranch] using h
  | .gate _ _ _, p, _, h => by simpa [declBranch] using h
  | .net _ _, p, _, h => by simpa [declBranch] using h
  | .var _ _, p, _, h => by simpa [declBranch] using h
  | .param _ _, p, _, h => by simpa [declBranch] using h
  | .event _ _, p, _, h => by simpa [declBranch] using h
  | .gfor _ _ _ _ _, p, _, h => by simpa [declBranch] using h
theorem declItem_ok {i : Item} {p : List Row × Sc} (hi : i.nm = true) (h : AllOk p.1) : AllOk (declItem i p).1 := by
  cases i
  case block m l is => simp only [Item.nm, Bool.and_eq_true] at hi; exact addLab_ok hi.1 h
  case gfor m g bm bl is => simp only [Item.nm, Bool.and_eq_true] at hi; exact addLab_ok hi.1.2 h
  case gif m c x y => exact declBranch_ok m _ p hi h
  case gcase m c l x y => exact declBranch_ok m _ p hi h
  case net m n => exact addName_ok hi h
  case var m n => exact addName_ok hi h
  case param m n => exact addName_ok hi h
  case event m n => exact addName_ok hi h
  all_goals simpa [declItem] using h
theorem declAll_ok : ∀ {is : List Item} {p : List Row × Sc}, nms is = true → AllOk p.1 → AllOk (declAll is p).1
  | [], p, _, h => h
  | i :: is, p, hn, h => by
    simp only [nms, Bool.and_eq_true] at hn
    exact declAll_ok (is := is) hn.2 (declItem_ok hn.1 h)
theorem useRows_ok {env : List Sc} {u : Use} (h : u.nm = true) : AllOk (useRows env u) := by
  unfold useRows
  split
  · exact .one (by decide +kernel) h
  · exact .nil
theorem exRows_ok {env : List Sc} {x : Ex} (h : x.nm = true) : AllOk (exRows env x) := by
  cases x
  case num => exact .nil
  case id u => exact useRows_ok h
  case un m u => exact useRows_ok h
  case cat m u v =>
    simp only [Ex.nm, Bool.and_eq_true] at h
    exact (useRows_ok h.1).append (useRows_ok h.2)
theorem tgtRow_ok {env : List Sc} {u : Use} (h : u.nm = true) : AllOk (tgtRow env u) := by
  unfold tgtRow
  split <;> first | exact .nil | exact .one (by decide +kernel) h
theorem tgtRows_ok {env : List Sc} {t : Tg} (h : t.nm = true) : AllOk (tgtRows env t) := by
  cases t
  case id u => exact tgtRow_ok h
  case cat m u v =>
    simp only [Tg.nm, Tg.ex, Ex.nm, Bool.and_eq_true] at h
    exact (tgtRow_ok h.1).append (tgtRow_ok h.2)
theorem forRow_ok {env : List Sc} {m : Int} {g : PySem.Str} (h : okS g = true) : AllOk (forRow env m g) := by
  unfold forRow
  split <;> first | exact .nil | exact .one (by decide +kernel) h
theorem ck_ok (wired : Bool) : ∀ n : Nat, (∀ env is, 3 * wts is + 2 ≤ n → nms is = true → AllOk (ckScope wired env is)) ∧ (∀ env is, 3 * wts is + 1 ≤ n → nms is = true → AllOk (ckItems wired env is)) ∧
    (∀ env i, 3 * i.wt ≤ n → i.nm = true → AllOk (ckItem wired env i)) ∧ (∀ env i, 3 * i.wt + 4 ≤ n → i.nm = true → AllOk (ckBranch wired env i)) := by
  intro n
  induction n using Nat.strongRecOn with
  | _ n ih =>
    refine ⟨fun env is hn h => ?_, fun env is hn h => ?_, fun env i hn h => ?_, fun env i hn h => ?_⟩
    · rw [ckScope]
      exact (declAll_ok (p := ([], [])) h .nil).append ((ih (3 * wts is + 1) (by k_extra "om")).2.1 _ is (Nat.le_refl _) h)
    · cases is with
      | nil => simp only [ckItems]; exact .nil
      | cons i is =>
        have hp := i.wt_pos
        simp only [wts] at hn
        simp only [nms, Bool.and_eq_true] at h
        simp only [ckItems]
        exact ((ih (3 * i.wt) (by k_extra "om")).2.2.1 env i (Nat.le_refl _) h.1).append ((ih (3 * wts is + 1) (by k_extra "om")).2.1 env is (Nat.le_refl _) h.2)
    · cases i
      case cassign m t v =>
        simp only [Item.nm, Bool.and_eq_true] at h
        simp only [ckItem]; exact (tgtRows_ok h.1).append (exRows_ok h.2)
      case gate m t v =>
        simp only [Item.nm, Bool.and_eq_true] at h
        simp only [ckItem]; exact (tgtRows_ok h.1).append (exRows_ok h.2)
      case block m l is =>
        simp only [Item.nm, Bool.and_eq_true] at h
        simp only [Item.wt] at hn
        simp only [ckItem]; exact (ih (3 * wts is + 2) (by k_extra "om")).1 env is (Nat.le_refl _) h.2
      case gfor m g bm bl is =>
        simp only [Item.nm, Bool.and_eq_true] at h
        simp only [Item.wt] at hn
        simp only [ckItem]; exact (forRow_ok h.1.1).append ((ih (3 * wts is + 2) (by k_extra "om")).1 env is (Nat.le_refl _) h.2)
      case gif m c x y =>
        have hx := x.wt_pos
        have hy := y.wt_pos
        simp only [Item.nm, Bool.and_eq_true] at h
        simp only [Item.wt] at hn
        simp only [ckItem]
        exact ((exRows_ok h.1.1).append ((ih (3 * x.wt + 4) (by k_extra "om")).2.2.2 env x (Nat.le_refl _) h.1.2)).append ((ih (3 * y.wt + 4) (by k_extra "om")).2.2.2 env y (Nat.le_refl _) h.2)
      case gcase m c l x y =>
        have hx := x.wt_pos
        have hy := y.wt_pos
        simp only [Item.nm, Bool.and_eq_true] at h
        simp only [Item.wt] at hn
        simp only [ckItem]
        exact (((useRows_ok h.1.1.1).append (useRows_ok h.1.1.2)).append ((ih (3 * x.wt + 4) (by k_extra "om")).2.2.2 env x (Nat.le_refl _) h.1.2)).append ((ih (3 * y.wt + 4) (by k_extra "om")).2.2.2 env y (Nat.le_refl _) h.2)
      all_goals (simp only [ckItem]; exact .nil)
    · by_cases ho : i.oth = true
      · rw [ckBranch_oth _ _ ho]
        have hw : wts [i] = i.wt := by simp [wts]
        exact (ih (3 * i.wt + 2) (by k_extra "om")).1 env [i] (by k_extra "om") (by simpa [nms] using h)
      · cases i <;> first | (exact absurd rfl ho) | skip
        case nop => simp only [ckBranch]; exact .nil
        case block m l is =>
          simp only [Item.nm, Bool.and_eq_true] at h
          simp only [Item.wt] at hn
          simp only [ckBranch]; exact (ih (3 * wts is + 2) (by k_extra "om")).1 env is (Nat.le_refl _) h.2
        case gif m c x y =>
          simp only [ckBranch]
          exact (ih (3 * (Item.gif m c x y).wt) (by k_extra "om")).2.2.1 env (.gif m c x y) (Nat.le_refl _) h
        case gcase m c l x y =>
          simp only [ckBranch]
          exact (ih (3 * (Item.gcase m c l x y).wt) (by k_extra "om")).2.2.1 env (.gcase m c l x y) (Nat.le_refl _) h
theorem ckScope_ok {wired : Bool} {env : List Sc} {is : List Item} (h : nms is = true) : AllOk (ckScope wired env is) := (ck_ok wired (3 * wts is + 2)).1 env is (Nat.le_refl _) h
section
variable {B : Base} {C : Cfg} {fr : Fr'} {st : St}
theorem plainRep (F : Facts B) : Plain B (.ref F.rep) := plain_K F.repIs.2.keep
/-- Report(names, nettype) -/
theorem new_report (F : Facts B) {nn : Addr} {wired : Bool} {Q : V → St → Prop} (h : ∀ r rdx w st', st r = none → st rdx = none → st w = none → st' r = some (.inst F.rep rdx) → st' rdx = some (.dict (repD nn w wired)) → st' w = some (.list []) → (∀ b, b ≠ r → b ≠ rdx → b ≠ w → st' b = st b) → Q (.ref r) st') :
    SCode B 2 (.ref F.rep) [.ref nn, .str (if wired then "wire" else "none")] st Q := by
  refine SCode_cls F.repIs.2 (fun a dx hdx ha hne => ?_)
  refine SCode_fn (t := meth 1 0) (fr0 := ?fr) ["self", "names", "nettype"] F.repInitIs rfl ?hb (by decide +kernel) (by kernel_rfl) (by kernel_rfl) ?hfr ?h
  k_extra "fn"
  intro C hsc hd
  refine SX_cons ?_
  refine SX1_setAttr ?_
  repeat k_extra "tb"
  refine ⟨a, F.rep, dx, [], by k_extra "rel", by simp, by rw [St.set_ne _ _ hne]; simp, F.repSet _ (by decide +kernel), rfl, by decide, ?_⟩
  refine SX_cons ?_
  refine SX1_setAttr ?_
  repeat k_extra "tb"
  refine ⟨a, F.rep, dx, [("names", .ref nn)], by k_extra "rel", by rw [St.set_ne _ _ (Ne.symm hne)]; simp, by simp, F.repSet _ (by decide +kernel), rfl, Nat.le_of_ble_eq_true rfl, ?_⟩
  refine SX_one ?_
  refine SX1_setAttr ?_
  refine SE_List (SEs_nil ⟨by decide, fun w hw => ?_⟩)
  have hwd : w ≠ dx := fun q => by subst q; rw [St.set_same] at hw; cases hw
  have hwa : w ≠ a := fun q => by subst q; rw [St.set_ne _ _ (Ne.symm hne), St.set_ne _ _ (Ne.symm hne), St.set_same] at hw; cases hw
  have hw0 : st w = none := by rw [St.set_ne _ _ hwd, St.set_ne _ _ hwd, St.set_ne _ _ hwa, St.set_ne _ _ hwd] at hw; exact hw
  refine ⟨a, F.rep, dx, [("names", .ref nn), ("nettype", .str (if wired then "wire" else "none"))], by k_extra "rel", ?_, ?_, F.repSet _ (by decide +kernel), rfl, Nat.le_of_ble_eq_true rfl, ?_⟩
  · rw [St.set_ne _ _ (Ne.symm hwa), St.set_ne _ _ (Ne.symm hne), St.set_ne _ _ (Ne.symm hne)]; simp
  · rw [St.set_ne _ _ (Ne.symm hwd)]; simp
  refine ⟨rfl, h a dx w _ ha hdx hw0 ?_ ?_ ?_ ?_⟩
  · rw [St.set_ne _ _ (Ne.symm hne), St.set_ne _ _ (Ne.symm hwa), St.set_ne _ _ (Ne.symm hne), St.set_ne _ _ (Ne.symm hne)]; simp
  · simp [repD]
  · rw [St.set_ne _ _ hwd]; simp
  · intro b h1 h2 h3
    rw [St.set_ne _ _ h2, St.set_ne _ _ h3, St.set_ne _ _ h2, St.set_ne _ _ h2, St.set_ne _ _ h1, St.set_ne _ _ h2]
end
section
open PySem.W
variable {B : Base} {C : Cfg} {fr : Fr'} {st : St}
/-- two tables of one entry (text, int, int), the same -/
theorem SC_eq_gdict {a b : Addr} {k x : PySem.Str} {m n : Int} {Qt Qf : St → Prop} (hd : 2 ≤ C.d) (ha : st a = some (.dict [(k, .tup [.str x, .int m, .int n])])) (hb : st b = some (.dict [(k, .tup [.str x, .int m, .int n])])) (hx : PyData.strOk x = true) (h : Qt st) : SC B C .Eq (.ref a) (.ref b) st Qt Qf := fun s v u ok I r1 r2 => by
  simp only [RV] at r1 r2
  subst r1 r2
  obtain ⟨_, ka, da, ra⟩ := I.tr _ _ ha
  obtain ⟨_, kb, db, rb⟩ := I.tr _ _ hb
  obtain ⟨va, qa, rfl, ra1, rfl⟩ := ra
  obtain ⟨vb, qb, rfl, rb1, rfl⟩ := rb
  simp only [RV, RVs] at ra1 rb1
  obtain ⟨x1, xs, i, rfl, gx, v1, q1, rfl, ⟨t1, rfl⟩, v2, q2, rfl, ⟨t2, rfl⟩, v3, q3, rfl, ⟨t3, rfl⟩, rfl⟩ := ra1
  obtain ⟨y1, ys, j, rfl, gy, u1, p1, rfl, ⟨w1, rfl⟩, u2, p2, rfl, ⟨w2, rfl⟩, u3, p3, rfl, ⟨w3, rfl⟩, rfl⟩ := rb1
  have hu := ok.room.units
  have sh : SeqAt.shaped (.tuple [.str x, .int m, .int n]) = true := by
    unfold SeqAt.shaped
    have h4 : (PyData.tuple [.str x, .int m, .int n]).depth ≤ 64 := by simp [PyData.depth, PyData.depthAll]
    rw [decide_eq_true h4]
    simp [PyData.canLay0, PyData.canLayAll0, hx]
  have hin : C.A.in1.units ≤ C.A.units + 2 := by show C.A.units + _ ≤ _; k_extra "om"
  have e := keq_at (A := C.A) (reads_tuple_at (xs := [.str x, .int m, .int n]) gx rfl rfl (.cons (.str _ t1) (.cons (.int _ t2) (.cons (.int _ t3) .nil)))) (reads_tuple_at (xs := [.str x, .int m, .int n]) gy rfl rfl (.cons (.str _ w1) (.cons (.int _ w2) (.cons (.int _ w3) .nil)))) sh sh (by k_extra "om")
  have ee : PyData.eqv (.tuple [.str x, .int m, .int n]) (.tuple [.str x, .int m, .int n]) = true := by simp [PyData.eqv, PyData.eqvAll]
  rw [ee] at e
  refine keq_eq (r := true && true) (MRep.notModules I ha) (MRep.notModules I hb) da db (by k_extra "om") (fun _ => .hit (y := .ref y1) (by simp [valueAt]) e .nil) ⟨_, rfl, ?_⟩
  exact postB_of I (fun _ => h) fun e => by simp at e
end
section
variable {B : Base} {C : Cfg} {fr : Fr'} {st : St}
/-- what _law_feed gives, the script being the raw value u -/
noncomputable def FeedP (B : Base) (u : Value) : Prop := ∀ (d : Nat) (Q : V → St → Prop), 5 ≤ d → (∀ (f c : Addr) (b : Int) (ns : List Int) (st' : St), IsL st' f [.ref c, .int 0, .int b] → 0 ≤ b → b < 2 ^ 31 → st' c = some (.list (ns.map V.int)) → ns.length ≤ 1000 → Q (.ref f) st') → SCall B d (gval B "_law_feed") [.glob u] (fun _ => none) Q
noncomputable def behindI : Item := .gif 4 .num (.block 5 (some "L") []) .nop
noncomputable def firstI : List Item := [.gif 2 .num (.block 3 (some "L") []) behindI, .block 6 (some "L") []]
theorem GrowW.list {wd f c : Addr} {s1 s2 : St} (g : GrowW wd f c s1 s2) : ∀ b m, s1 b = some m → b ≠ wd → b ≠ f → b ≠ c → s2 b = some m := g

set_option maxHeartbeats 4000000 in
/-- the end of the law: the two readings agree -/
theorem law_end (F : Facts B) {C : Cfg} {r rdx nn w a dx e wd : Addr} {wired : Bool} {is : List Item} {st : St} {su : V} {one beh : V} (hsc : C.sc = fScope (top 57)) (hd : 200 ≤ C.d) (hg : gds is = true) (hn : nms is = true) (hw : wts is ≤ 60) (h1 : 1 ≤ (ckScope wired [gSc] is).length)
    (gr : st r = some (.inst F.rep rdx)) (grd : st rdx = some (.dict (repD nn w wired))) (gw : st w = some (encR (ckScope wired [gSc] is))) (ga : st a = some (.inst F.tab dx)) (gd : st dx = some (.dict (tabD .none e))) (ge : st e = some (.dict (encSc gSc))) :
    ∀ body, [(fBody (top 57)).getD 10 (.Pass default)] = body → SX B C [("script", su), ("world", .ref wd), ("wired", .bool wired), ("one", one), ("behind", beh), ("items", .tup (encs is)), ("notes", .ref r), ("outer", .ref a)] body st (fun _ _ => False) (fun v _ => v = .bool true) := by
  intro body hb
  subst hb
  have hlen := ckScope_len wired [gSc] is
  refine SX_one ?_
  refine SX1_ret ?_
  refine SE_and ?_
  refine SE_cmp ?_
  refine SEb_sorted F (kindOk hsc (by kernel_rfl)) ?_ rfl
  refine SEs_cons ?_ (fun _ => rfl)
  refine SE_attr (SE_loc (by k_extra "rel") ⟨_, _, _, _, _, rfl, gr, grd, F.repGet _ (by decide +kernel), rfl, (fun _ e => by cases e), ?_⟩)
  refine SEs_nil ?_
  refine SCall_sorted (rows := ckScope wired [gSc] is) (.inl gw) h1 (by k_extra "om") (fun D1 rows1 f1 p1 s1 => ?_)
  have k1 : Keep st (st.set D1 (encR rows1)) := .alloc f1
  refine SEb_sorted F (kindOk hsc (by kernel_rfl)) ?_ rfl
  refine SEs_cons ?_ (fun _ => rfl)
  repeat k_extra "tb"
  refine ((law_due_spec F hg (by k_extra "om") (d := wts is + 10) (by k_extra "om") (fun D2 st2 rows2 p2 f2 e2 k2 => ?_)).less (by k_extra "om")).call
  repeat k_extra "tb"
  have hl2 := p2.length_eq
  refine SCall_sorted (rows := rows2) (.inl e2) (by k_extra "om") (by k_extra "om") (fun D3 rows3 f3 p3 s3 => ?_)
  have hord : ∀ r s, Ord rows2 r s → Ord (ckScope wired [gSc] is) r s := fun r s h => by unfold Ord at h ⊢; rw [← rank_perm p2, ← rank_perm p2]; exact h
  have heq : rows3 = rows1 := sorted_unique (l := ckScope wired [gSc] is) (p3.trans p2) p1 (s3.imp fun h => hord _ _ h) s1
  subst heq
  have k3 : Keep st2 (st2.set D3 (encR rows3)) := .alloc f3
  have hok : ∀ r ∈ rows3, r.ok = true := fun r hr => ckScope_ok hn r (p1.mem_iff.mp hr)
  refine SC_eq_rows (rows := rows3) (by k_extra "om") (.inl (k3 _ _ (k2 _ _ (by rw [St.set_same]; rfl)))) (.inl (by rw [St.set_same]; rfl)) hok ?_
  have kk := (k1.trans k2).trans k3
  refine ⟨true, rfl, fun _ => SE_andNil ?_, fun h => by cases h⟩
  refine SE_cmp ?_
  refine SE_attr (SE_loc (by k_extra "rel") ⟨_, _, _, _, _, rfl, kk _ _ ga, kk _ _ gd, F.tabGet _ (by decide +kernel), rfl, (fun _ e => by cases e), ?_⟩)
  with_reducible refine SE_Dict ?_ ?h1 ?h2 ?h3 ?h4
  case h1 => exact rfl
  case h2 => exact rfl
  case h3 => simp
  case h4 => exact Nat.le_of_ble_eq_true rfl
  refine SPs_cons ?_
  repeat k_extra "tb"
  refine SPs_nil ⟨by k_extra "nd", fun D4 f4 => ?_⟩
  exact SC_eq_gdict (k := "g") (x := "genvar") (m := 1) (n := -1) (by k_extra "om") (Keep.alloc f4 _ _ (kk _ _ ge)) (by rw [St.set_same]) (by decide +kernel) rfl
end
section
variable {B : Base} {C : Cfg} {fr : Fr'} {st : St}
theorem first_row (wired : Bool) (more : List Item) : 1 ≤ (ckScope wired [gSc] (firstI ++ more)).length := by
  rw [ckScope]
  have e : (declScope wired [gSc] (firstI ++ more)).1 = (declAll more (declAll firstI ([], []))).1 := by simp [declScope, declAll, List.foldl_append]
  have e2 : (declAll firstI ([], [])).1 = [⟨"duplicate_label", 6, "L"⟩] := by decide +kernel
  rw [e]
  have h := declAll_app [⟨"duplicate_label", 6, "L"⟩] more ([], (declAll firstI ([], [])).2)
  have e3 : declAll firstI ([], []) = ([⟨"duplicate_label", 6, "L"⟩] ++ ([] : List Row), (declAll firstI ([], [])).2) := by rw [List.append_nil, ← e2]
  rw [e3, h]
  simp
theorem first_wts : wts firstI = 8 := by decide +kernel
theorem gds_app : ∀ {is js : List Item}, gds is = true → gds js = true → gds (is ++ js) = true
  | [], js, _, h => h
  | i :: is, js, h1, h2 => by
    simp only [gds, Bool.and_eq_true] at h1
    simp only [List.cons_append, gds, Bool.and_eq_true]
    exact ⟨h1.1, gds_app h1.2 h2⟩
theorem nms_app : ∀ {is js : List Item}, nms is = true → nms js = true → nms (is ++ js) = true
  | [], js, _, h => h
  | i :: is, js, h1, h2 => by
    simp only [nms, Bool.and_eq_true] at h1
    simp only [List.cons_append, nms, Bool.and_eq_true]
    exact ⟨h1.1, nms_app h1.2 h2⟩
end
section
variable {B : Base} {C : Cfg} {fr : Fr'} {st : St}
theorem Inv.fresh_of {B : Base} {s : Shared} {st : St} (I : Inv B s st) {a : Addr} (h : s.heap.objs.size ≤ a) : st a = none := by
  cases q : st a with
  | none => rfl
  | some m => obtain ⟨o, g⟩ := (I.tr _ _ q).2.there; exact absurd (Heap.lt_size g) (Nat.not_lt.mpr h)
theorem newList_at {M : Model} {A : Around} {Ψ : Value → Shared → Prop} {E : Value → Shared → Prop} {s : Shared} (h : wpAny M A (newList []) Ψ E s) : wpAny M A (newList []) (fun acc s' => acc = .ref s.heap.objs.size ∧ Ψ acc s') E s := fun Γ p hΓ => by
  have h1 := h Γ p hΓ
  exact ⟨rfl, h1⟩
abbrev cScope : Scope := { kind := .function, names := [(S ".0", .local), (S "cell", .local), (S "abs", .globalImplicit), (S "int", .globalImplicit)], isGenerator := false, isCoroutine := false }
theorem cell_abs {A : Around} {s : Shared} {n : Int} {t : Tok} {m₃ : PySem.Str → Option Value} {D : Addr} {env : Env} {E' : Value → Shared → Prop} {p1 p2 p3 p4 p5 : Pos} (F : Facts B) (hg : env.globals = mainGlobals) (hb : env.builtins = builtinsNs)
    (ng : s.heap.Ns mainGlobals B.mg) (nb : s.heap.Ns builtinsNs B.mb) (hn : s.heap.Ns D m₃) (hv : m₃ (S "cell") = some (.int n t)) :
    wpAny (Mod B) A (eval (.Call (.Name (S "abs") p1) [.Call (.Name (S "int") p2) [.Name (S "cell") p3] [] p4] [] p5) (compEnvC cScope [] D env)) (fun y s₄ => (∃ t', y = .int (if n < 0 then -n else n) t') ∧ Keeps s s₄) E' s := by
  have g1 := F.bi (S "abs", .builtin "abs") (by decide +kernel)
  have g2 := F.bi (S "int", .type "int") (by decide +kernel)
  refine wpAny_Call_Name_kw (Name_function_global rfl rfl (loadGlobal_builtin (mg := B.mg) (mb := B.mb) (by show s.heap.Ns env.globals _; rw [hg]; exact ng) g1.1 (by show s.heap.Ns env.builtins _; rw [hb]; exact nb) g1.2 ?_) (by decide +kernel))
  refine callWith_builtin rfl (evalArgs_plain (spliced_cons ?_))
  refine wpAny_Call_Name_kw (Name_function_global rfl rfl (loadGlobal_builtin (mg := B.mg) (mb := B.mb) (by show s.heap.Ns env.globals _; rw [hg]; exact ng) g2.1 (by show s.heap.Ns env.builtins _; rw [hb]; exact nb) g2.2 ?_) (by decide +kernel))
  refine PySem.callWith_type rfl (evalArgs_plain (spliced_cons ?_))
  refine wpAny_Name (wpAny_loadName_local rfl rfl hn hv ?_) (by decide +kernel)
  refine spliced_nil ?_
  refine call_int_int ?_
  refine spliced_nil ?_
  exact call_abs_int fun u tk => ⟨⟨u, rfl⟩, ⟨s.heap, tk, rfl, fun _ _ e => e⟩⟩
theorem paired_ints {vs : List Value} {js : List Int} (hi : IntsAre vs js) : ∀ {vs' ys : List Value}, vs' = vs → Paired (fun v y => ∃ n t t', v = Value.int n t ∧ y = Value.int (if n < 0 then -n else n) t') vs' ys → ∀ h : Heap, RVs h ((js.map fun n : Int => if n < 0 then -n else n).map V.int) ys := by
  induction hi with
  | nil => intro vs' ys e p h; subst e; cases p; simp [RVs]
  | cons n t hi ih =>
    intro vs' ys e p h
    subst e
    cases p with
    | cons q p =>
      obtain ⟨n', t0, t', e1, e2⟩ := q
      cases e1
      simp only [List.map_cons, RVs, RV]
      exact ⟨_, _, rfl, ⟨t', e2⟩, ih rfl p h⟩
theorem intsAre_at {vs : List Value} {js : List Int} (hi : IntsAre vs js) : ∀ {i : Nat} {v : Value}, vs[i]? = some v → ∃ n t, v = Value.int n t := by
  induction hi with
  | nil => intro i v e; simp at e
  | cons n t hi ih =>
    intro i v e
    cases i with
    | zero => simp at e; exact ⟨n, t, e.symm⟩
    | succ i => simp at e; exact ih e
theorem filter_true {vs : List Value} : vs.filter (fun _ => true) = vs := by simp
set_option maxHeartbeats 4000000 in
theorem SX1_absComp (F : Facts B) {l : Addr} {vs : List Value} {js : List Int} (hl : B.h₀.IsList l vs.toArray) (hi : IntsAre vs js) (hz : vs.length ≤ 1000) {p1 p2 p3 p4 p5 p6 p7 p8 p9 p10 p11 p12 p13 : Pos} {k : Nat} {Kn : Fr' → St → Prop} {Kr : V → St → Prop}
    (hpos : (p1.line == p12.line) = true) (hk1 : C.sc.names.lookup (S "script") = some .local) (hk2 : C.sc.names.lookup (S "cells") = some .local)
    (h : ∀ (c : Addr) (ns : List Int), ns.length ≤ 40 → st c = none → Kn [(S "script", .glob (.ref l)), (S "cells", .ref c)] (st.set c (.list (ns.map V.int)))) :
    SX1 B C [(S "script", .glob (.ref l))] (.Assign [.Name (S "cells") p1] (.ListComp (.Call (.Name (S "abs") p2) [.Call (.Name (S "int") p3) [.Name (S "cell") p4] [] p5] [] p6) [⟨.Name (S "cell") p7, .Subscript (.Name (S "script") p8) (.Slice none (some (.Constant (.int 40) k p9)) none p10) p11, [], 0⟩] cScope p12) p13) st Kn Kr := fun s ok I Fr hL => by
  have hbk : C.env.blockKind = .function := by unfold Env.blockKind; rw [show C.env.scope.kind = .function from ok.kind]; rfl
  have hsw : swapsWith (.ListComp (.Call (.Name (S "abs") p2) [.Call (.Name (S "int") p3) [.Name (S "cell") p4] [] p5] [] p6) [⟨.Name (S "cell") p7, .Subscript (.Name (S "script") p8) (.Slice none (some (.Constant (.int 40) k p9)) none p10) p11, [], 0⟩] cScope p12) (some (.Name (S "cells") p1)) p13.line C.env = pure true := by
    show (pure (C.env.blockKind == .function && C.env.kindOf (S "cells") == some .local && p1.line == p12.line && !(cScope.names.any fun (n, k) => n == (S "cells") && (k == .local || k == .cell))) : Sem Bool) = pure true
    rw [hbk, show C.env.kindOf (S "cells") = some .local from hk2, hpos]
    rfl
  rw [exec_Assign_Name_used _ _ _ _ hsw]
  refine wpAny_bind (wpAny_standAt (wpAny_bind ?_))
  show wpAny _ C.A (do let _ ← comprehension (.ListComp (.Call (.Name (S "abs") p2) [.Call (.Name (S "int") p3) [.Name (S "cell") p4] [] p5] [] p6) [⟨.Name (S "cell") p7, .Subscript (.Name (S "script") p8) (.Slice none (some (.Constant (.int 40) k p9)) none p10) p11, [], 0⟩] cScope p12) cScope C.env _ (newList []) false (eval (.Subscript (.Name (S "script") p8) (.Slice none (some (.Constant (.int 40) k p9)) none p10) p11) C.env) (some (assign (.Name (S "cells") p1) C.env))) _ _ s
  refine wpAny_bind (wpAny_mono (wpAny_comprehension_free (E := Bad) (use := some (assign (.Name (S "cells") p1) C.env)) (Q := fun _ s' => PostX B C s st Kn Kr .next s') rfl (by intro _; rfl) (closureFor_none (by decide +kernel)) rfl (by decide +kernel) ?_) (fun _ s' hq => wpAny_pure (wpAny_pure hq)) fun _ _ e => e)
  refine wpAny_Subscript_Slice (T := "list") slot_list_getitem.lookup ?_
  refine wpAny_mono (SE_loc (Q := fun v st' => v = _ ∧ st' = st) (List.mem_singleton.mpr rfl) ⟨rfl, rfl⟩ s ok I Fr hL) (fun v s1 hq0 => ?_) fun _ _ x => x
  obtain ⟨z, st1, r1, I1, e1, hz1, hst⟩ := hq0
  subst hz1 hst
  simp only [RV] at r1
  subst r1
  obtain ⟨F1, hL1⟩ := Fr.ext I e1 hL
  refine wpAny_Slice ?_
  rw [evalPart_none, evalPart_some]
  refine wpAny_pure (wpAny_Constant_int (wpAny_pure ?_))
  have hl1 : s1.heap.IsList l vs.toArray := let ⟨o, e, r⟩ := hl; ⟨o, I1.base _ _ e, r⟩
  have k1 : ∀ (h : Heap) (o : Obj) b ob, h.get? b = some ob → (h.push o).get? b = some ob := fun h o b ob e => Heap.get?_push_of_some _ e
  refine ⟨(hl1.push _).typeIs, wpAny_getItem_list_slice (hl1.push _) (Heap.IsSliceOf.new ..) .none (.int 40 _) .none (by simp) ?_ (by simp [sizeLine_eq]; k_extra "om")⟩
  have hip : IntsAre (slicePick vs.toArray none (some 40) none).toList (js.take 40) := slice_ints_uptoW hi (by decide)
  generalize hit : slicePick vs.toArray none (some 40) none = items at hip ⊢
  generalize hH : (s1.heap.push { cls := .type "slice", data := .fields #[Value.none, .int 40 s1.toks, .none] }) = H0
  have hk0 : ∀ b o, s1.heap.get? b = some o → H0.get? b = some o := fun b o e => by rw [← hH]; exact k1 _ _ b o e
  have hs0 : s1.heap.objs.size ≤ H0.objs.size := by rw [← hH, Heap.size_push]; k_extra "om"
  have hl2 : (H0.push { cls := .type "list", data := .seq items }).IsList H0.objs.size items := ⟨_, Heap.get?_push_size _ rfl, rfl, 0, rfl⟩
  refine wpAny_pyIter_list hl2 ?_
  generalize hH1 : (H0.push { cls := .type "list", data := .seq items }) = H1 at hl2 ⊢
  have hk1' : ∀ b o, s1.heap.get? b = some o → H1.get? b = some o := fun b o e => by rw [← hH1]; exact k1 _ _ b o (hk0 b o e)
  have hs1 : H0.objs.size < H1.objs.size := by rw [← hH1, Heap.size_push]; k_extra "om"
  dsimp only
  have hIL : (H1.push { cls := .type "list_iterator", data := .fields #[.ref H0.objs.size, .int 0 0] }).IsListIter H1.objs.size H0.objs.size 0 := ⟨_, Heap.get?_push_size _ rfl, rfl, rfl⟩
  have hl3 := hl2.push { cls := .type "list_iterator", data := .fields #[.ref H0.objs.size, .int 0 0] }
  generalize hH2 : (H1.push { cls := .type "list_iterator", data := .fields #[.ref H0.objs.size, .int 0 0] }) = H2 at hIL hl3 ⊢
  have hk2' : ∀ b o, s1.heap.get? b = some o → H2.get? b = some o := fun b o e => by rw [← hH2]; exact k1 _ _ b o (hk1' b o e)
  have hs2 : H1.objs.size < H2.objs.size := by rw [← hH2, Heap.size_push]; k_extra "om"
  have hlen : items.size ≤ 40 := by have := hip.length; simp at this; k_extra "om"
  have W := Walks.list (prog := B.prog) (w := B.w) (A := C.A) ok.room.handled H1.objs.size H0.objs.size (Nat.ne_of_lt hs1) items
  have offI : ∀ b o, s1.heap.get? b = some o → b ∉ [H1.objs.size] := fun b o e hm => by
    rw [List.mem_singleton] at hm
    subst hm
    exact absurd (Heap.lt_size e) (Nat.not_lt.mpr (Nat.le_trans hs0 (Nat.le_of_lt hs1)))
  have key := comp_block_walkC (prog := B.prog) (w := B.w) (A := C.A) (env := C.env) (E := Bad) (elt := .Call (.Name (S "abs") p2) [.Call (.Name (S "int") p3) [.Name (S "cell") p4] [] p5] [] p6) (iter := .Subscript (.Name (S "script") p8) (.Slice none (some (.Constant (.int 40) k p9)) none p10) p11) (x := S "cell") (px := p7) (ifs := []) (scope := cScope) (cl := []) (pos := p12) (s₂ := { s1 with heap := H2, toks := s1.toks + 1 })
    W (by rw [sizeLine_eq]; k_extra "om") (fun _ => true) (fun v y => ∃ n t t', v = Value.int n t ∧ y = Value.int (if n < 0 then -n else n) t')
    (RR := fun acc C' r s' => acc = .ref H2.objs.size → compPost (Mod B) C.A Bad (some (assign (.Name (S "cells") p1) C.env)) (fun _ s' => PostX B C s st1 Kn Kr .next s') acc C' r s') (by decide +kernel) rfl (by decide +kernel) ⟨hIL, hl3⟩ ?_ ?_ ?_
  · refine wpAny_mono (newList_at key) (fun acc s3 ⟨e, h3⟩ => wpAny_mono h3 (fun cenv s4 h4 => codeAny_mono h4 fun r s5 h5 => h5 e) fun _ _ x => x) fun _ _ x => x
  · intro b hb
    rcases List.mem_cons.mp hb with rfl | hb
    · exact hs2
    · rw [List.mem_singleton.mp hb]; exact Nat.lt_trans hs1 hs2
  · refine ⟨fun C' i v s3 m3 E' hC hP hn hm hkp htk => ?_, fun C' i v s3 m3 E' hC hP hp hn hm hkp htk => ?_⟩
    · exact wpAny_pure ⟨rfl, ⟨s3.heap, s3.toks, rfl, fun _ _ e => e⟩⟩
    · obtain ⟨n, t, rfl⟩ : ∃ n t, v = Value.int n t := by
        have hv : items.toList[i]? = some v := by simpa using hP
        exact intsAre_at hip hv
      have kb : ∀ b o, B.h₀.get? b = some o → s3.heap.get? b = some o := fun b o e => hkp b o (offI _ _ (I1.base _ _ e)) (hk2' _ _ (I1.base _ _ e))
      exact wpAny_mono (cell_abs F rfl rfl (B.g.keeps kb) (B.b.keeps kb) hn hm) (fun y s4 ⟨⟨t', hy⟩, hk⟩ => ⟨⟨n, t, t', rfl, hy⟩, hk⟩) fun _ _ x => x
  · intro D C' h' tk m' ys vs' hD hC' hDC hn hlD hpl hlen' hP hF hkp e
    cases e
    have ev : vs' = items.toList := list_of_places hlen' hP
    subst ev
    rw [filter_true] at hF
    have hys := paired_ints hip rfl hF
    have hD0 : s1.heap.objs.size ≤ H2.objs.size := Nat.le_trans hs0 (Nat.le_trans (Nat.le_of_lt hs1) (Nat.le_of_lt hs2))
    have kh : ∀ b o, s1.heap.get? b = some o → h'.get? b = some o := fun b o e => hkp b o (offI b o e) (hk2' b o e)
    obtain ⟨nn, hD'⟩ := hpl
    have I3 : Inv B { s1 with heap := h', toks := tk } (st1.set H2.objs.size (.list (((js.take 40).map fun n : Int => if n < 0 then -n else n).map V.int))) := I1.alloc kh hD0 ⟨ys.toList, nn, by simpa using hD', hys h'⟩
    have eA : Ext NoX s1.heap st1 h' (st1.set H2.objs.size (.list (((js.take 40).map fun n : Int => if n < 0 then -n else n).map V.int))) := .alloc kh hD0
    have F3 := F1.keeps kh
    have new2 : ∀ b o, s1.heap.get? b = some o → b ≠ C' := fun b o e q => by
      subst q
      have := hk2' b o e
      rw [hC'] at this; cases this
    obtain ⟨oL, gL⟩ := F1.there
    have hLD := (eA _ _ gL hL1).1
    show wpAny (Mod B) C.A (assign (.Name (S "cells") p1) C.env (.ref H2.objs.size)) (fun _ s'' => ∃ m, s''.heap.Ns C' m ∧ ∀ h'', Heap.SameBut C' s''.heap h'' → PostX B C s st1 Kn Kr .next { s'' with heap := h'' }) Bad _
    refine wpAny_assign_Name (store_ ok I3 F3 hLD (X := .ref H2.objs.size) (fun _ => Put0.skip _ _ _ _ _ _ (by decide +kernel) (Put0.new _ _ hk2 (by decide +kernel))) (by simp only [RV]) fun s4 I4 F4 e4 => ?_)
    have hCL : C' ≠ C.L := (new2 _ _ gL).symm
    have hst : (st1.set H2.objs.size (.list (((js.take 40).map fun n : Int => if n < 0 then -n else n).map V.int))) C' = none := by
      rw [St.set_ne _ _ (Ne.symm hDC)]
      cases q : st1 C' with
      | none => rfl
      | some m => obtain ⟨o, g⟩ := (I1.tr _ _ q).2.there; exact absurd rfl (new2 _ _ g)
    obtain ⟨oC, es, ep, gC, rC⟩ := id hn
    obtain ⟨_, oC', gC', kC'⟩ := e4 C' oC gC hst
    have kC' := kC' hCL
    subst kC'
    refine ⟨m', ⟨_, es, ep, gC', rC⟩, fun h'' hs'' => ?_⟩
    have nC : s4.heap.Ns C' m' := ⟨_, es, ep, gC', rC⟩
    have kT := keepT_frame hs'' fun o e => Ns.notStill nC e
    refine ⟨_, _, ⟨fun b o e => ?_, I4.gens, I4.os, fun b mb e => ?_, ?_⟩, ⟨F4.nd, F4.kind, ?_⟩, fun b o e e' => ?_, h H2.objs.size ((js.take 40).map fun n : Int => if n < 0 then -n else n) (by rw [List.length_map, List.length_take]; k_extra "om") (I1.fresh_of hD0)⟩
    · exact (hs''.2 b (new2 _ _ (I1.base _ _ e))).trans (I4.base _ _ e)
    · have hb : b ≠ C' := fun q => by subst q; rw [hst] at e; cases e
      obtain ⟨p, q⟩ := I4.tr b mb e
      exact ⟨p, q.mono kT (hs''.2 b hb)⟩
    · obtain ⟨o, e⟩ := I1.alive
      obtain ⟨o', e'⟩ := I4.alive
      exact ⟨o', (hs''.2 _ (new2 _ _ e)).trans e'⟩
    · obtain ⟨m4, n4, k4⟩ := F4.ns
      exact ⟨m4, n4.sameBut hs'' hCL.symm, fun q hq => let ⟨v, a, b⟩ := k4 q hq; ⟨v, a, b.mono kT⟩⟩
    · obtain ⟨q1, o1, g1, q2⟩ := e1 b o e e'
      have q2 := q2 id
      subst q2
      obtain ⟨r1, o2, g2, r2⟩ := eA b _ g1 q1
      have r2 := r2 id
      subst r2
      obtain ⟨t1, o3, g3, t2⟩ := e4 b _ g2 r1
      exact ⟨t1, o3, (hs''.2 _ (new2 _ _ g1)).trans g3, t2⟩
theorem SCall_sum {d : Nat} {c : Addr} {ns : List Int} {Q : V → St → Prop} (hc : IsL st c (ns.map V.int)) (h : Q (.int ns.sum) st) : SCall B d (.builtin "sum") [.ref c] st Q := fun A s us hr I r => by
  obtain ⟨v, rfl, r1⟩ := r.one
  simp only [RV] at r1
  subst r1
  obtain ⟨vs, g, rs⟩ := hc.rep I
  have hi := rs.ints
  obtain ⟨xs, hx⟩ := hi.allInts.items
  have hl' : s.heap.IsList c (intItems xs) := hx ▸ g
  refine sum_intListG hr.handled hl' fun h' tk t' hk => ?_
  have e1 : ns = xs.toList.map (·.1) := by
    rw [← nums_intItems, ← hx]
    exact (show numsOf vs.toArray.toList = ns from hi.numsOf).symm
  have e2 : preSum (numAt xs) xs.size = ns.sum := by
    rw [preSum_eq, List.take_of_length_le (by simp), e1]
  rw [e2]
  exact ⟨.int ns.sum, st, by simp [RV], I.keeps hk, .keeps hk, h⟩
set_option maxHeartbeats 4000000 in
theorem feed_spec (F : Facts B) {l : Addr} {vs : List Value} {js : List Int} (hl : B.h₀.IsList l vs.toArray) (hi : IntsAre vs js) (hz : vs.length ≤ 1000) (d : Nat) (Q : V → St → Prop)
    (h : ∀ (f c : Addr) (b : Int) (ns : List Int) (st' : St), IsL st' f [.ref c, .int 0, .int b] → 0 ≤ b → b < 2 ^ 31 → st' c = some (.list (ns.map V.int)) → ns.length ≤ 1000 → Q (.ref f) st') : SCode B (d + 3) (gval B "_law_feed") [.glob (.ref l)] (fun _ => none) Q := by
  refine SCode_at F (k := 41) (fr0 := ?fr) ["script"] (by kernel_rfl) rfl ?hb (by decide +kernel) (by kernel_rfl) (by kernel_rfl) ?hfr ?h
  k_extra "fn"
  intro C hsc hd
  refine SX_cons ?_
  refine SX1_absComp F hl hi hz rfl (kindOk hsc (by kernel_rfl)) (kindOk hsc (by kernel_rfl)) (fun c ns hns hc => ?_)
  refine SX_one ?_
  refine SX1_ret ?_
  refine SE_List ?_
  repeat k_extra "tb"
  refine SEb_sum F (kindOk hsc (by kernel_rfl)) ?_ rfl
  repeat k_extra "tb"
  refine SCall_sum (.inl (by rw [St.set_same])) ?_
  repeat k_extra "tb"
  refine SCall_int ?_
  repeat k_extra "tb"
  refine SOp_mod (by decide) ?_
  refine SOp_add ?_
  repeat k_extra "tb"
  have m0 := Int.fmod_nonneg_of_pos ns.sum (show (0 : Int) < 1000003 by decide)
  have m1 := Int.fmod_lt_of_pos ns.sum (show (0 : Int) < 1000003 by decide)
  intro a ha
  have hac : c ≠ a := fun e => by subst e; rw [St.set_same] at ha; cases ha
  exact h a c _ ns _ (.inl (by rw [St.set_same])) (by k_extra "om") (by k_extra "om") (by rw [St.set_ne _ _ hac, St.set_same]) (by k_extra "om")
end
section
variable {B : Base} {C : Cfg} {fr : Fr'} {st : St}
theorem encs_len : ∀ is : List Item, (encs is).length ≤ wts is
  | [] => Nat.le_refl _
  | i :: is => by
    have h1 := i.wt_pos
    have h2 := encs_len is
    simp only [encs, wts, List.length_cons]
    k_extra "om"
theorem SE_ifw {x s1 s2 : PySem.Str} {b : Bool} {k1 k2 : Nat} {p0 p1 p2 p3 : Pos} {Q : V → St → Prop} (hm : (x, .bool b) ∈ fr) (h : Q (.str (if b then s1 else s2)) st) : SE B C fr (.IfExp (.Name x p0) (.Constant (.str s1) k1 p1) (.Constant (.str s2) k2 p2) p3) st Q :=
  SE_IfExp (ST_name (b := b) hm (fun e => by subst e; exact SE_str h) (fun e => by subst e; exact SE_str h))
set_option maxHeartbeats 4000000 in
theorem law_tail (F : Facts B) {C : Cfg} {su one beh : V} {wd : Addr} {wired : Bool} {is : List Item} {st : St} (hsc : C.sc = fScope (top 57)) (hd : 250 ≤ C.d) (hg : gds is = true) (hn : nms is = true) (hw : wts is ≤ 60) (h1 : 1 ≤ (ckScope wired [gSc] is).length) :
    ∀ body, (fBody (top 57)).drop 6 = body → SX B C [("script", su), ("world", .ref wd), ("wired", .bool wired), ("one", one), ("behind", beh), ("items", .tup (encs is))] body st (fun _ _ => False) (fun v _ => v = .bool true) := by
  intro body hb
  subst hb
  have hlen := ckScope_len wired [gSc] is
  refine SX_cons ?_
  refine SX1_assign ?_ rfl
  refine SE_call (kindOk hsc (by kernel_rfl)) (by decide +kernel) (.inl F.repIs.1) (plainRep F) ?_
  refine SEs_cons (SE_DictE (fun nn hnn => ?_)) (fun _ => rfl)
  refine SEs_cons (SE_ifw (by k_extra "rel") ?_) (fun _ => rfl)
  refine SEs_nil ?_
  refine ((new_report F (nn := nn) (wired := wired) (fun r rdx w st1 hr hrd hw1 gr1 grd1 gw1 hk1 => ?_)).less (by k_extra "om")).call
  refine Put.go (by k_extra "put") ?_
  refine SX_cons ?_
  refine SX1_assign ?_ rfl
  refine SE_call (kindOk hsc (by kernel_rfl)) (by decide +kernel) (.inl F.tabIs.1) (plainTab F) ?_
  repeat k_extra "tb"
  refine ((new_table F (fun a dx e st2 ha hdx he n1 n2 n3 ga gd ge hk2 => ?_)).less (by k_extra "om")).call
  refine Put.go (by k_extra "put") ?_
  have c1 : ∀ b m, st1 b = some m → st2 b = some m := fun b m h => by
    rw [hk2 b (fun z => by subst z; rw [ha] at h; cases h) (fun z => by subst z; rw [hdx] at h; cases h) (fun z => by subst z; rw [he] at h; cases h)]; exact h
  have gr := c1 _ _ gr1
  have grd := c1 _ _ grd1
  have gw := c1 _ _ gw1
  refine SX_cons ?_
  refine SX1_setItem ?_ rfl
  repeat k_extra "tb"
  refine SE_attr (SE_loc (by k_extra "rel") ⟨_, _, _, _, _, rfl, ga, gd, F.tabGet _ (by decide +kernel), rfl, (fun _ e => by cases e), ?_⟩)
  repeat k_extra "tb"
  refine .inl ⟨e, [], _, rfl, rfl, ge, by decide, ?_⟩
  have eG : (.dict (storeD [] (Str.ofString "g") (.tup [.str (Str.ofString "genvar"), .int 1, .int (-1)])) : MObj) = .dict (encSc gSc) := rfl
  rw [eG]
  have st1e : ∀ b m, st1 b = some m → b ≠ e := fun b m h z => by subst z; rw [he] at h; cases h
  have nwe : w ≠ e := st1e _ _ gw1
  have ge3 : st2.set e (.dict (encSc gSc)) e = some (.dict (encSc gSc)) := by rw [St.set_same]
  have gr3 : st2.set e (.dict (encSc gSc)) r = some (.inst F.rep rdx) := by rw [St.set_ne _ _ (st1e _ _ gr1)]; exact gr
  have grd3 : st2.set e (.dict (encSc gSc)) rdx = some (.dict (repD nn w wired)) := by rw [St.set_ne _ _ (st1e _ _ grd1)]; exact grd
  have gw3 : st2.set e (.dict (encSc gSc)) w = some (.list []) := by rw [St.set_ne _ _ nwe]; exact gw
  have ga3 : st2.set e (.dict (encSc gSc)) a = some (.inst F.tab dx) := by rw [St.set_ne _ _ n2.symm]; exact ga
  have gd3 : st2.set e (.dict (encSc gSc)) dx = some (.dict (tabD .none e)) := by rw [St.set_ne _ _ n3.symm]; exact gd
  generalize st2.set e (.dict (encSc gSc)) = st3 at ge3 gr3 grd3 gw3 ga3 gd3 ⊢
  have nw : ∀ b m, st3 b = some m → (∀ l, m ≠ .list l) → b ≠ w := fun b m h hl z => by subst z; rw [gw3] at h; cases h; exact hl _ rfl
  have hX : CX F ⟨r, rdx, nn, w, wired, .ref a, [⟨a, dx, e, gSc⟩]⟩ st3 := fun rows =>
    ⟨⟨by rw [St.set_ne _ _ (nw _ _ gr3 (fun _ z => by cases z))]; exact gr3, by rw [St.set_ne _ _ (nw _ _ grd3 (fun _ z => by cases z))]; exact grd3, by rw [St.set_same]; rfl⟩,
     ⟨rfl, by rw [St.set_ne _ _ (nw _ _ ga3 (fun _ z => by cases z))]; exact ga3, .none, by rw [St.set_ne _ _ (nw _ _ gd3 (fun _ z => by cases z))]; exact gd3, by rw [St.set_ne _ _ (nw _ _ ge3 (fun _ z => by cases z))]; exact ge3, rfl⟩⟩
  refine SX_cons ?_
  repeat k_extra "tb"
  rw [← set_eq (a := w) (m := encR []) gw3]
  refine ((check_scope_spec F is ⟨r, rdx, nn, w, wired, .ref a, [⟨a, dx, e, gSc⟩]⟩ st3 [] _ hX hg (by k_extra "om") (by show (ckScope wired [gSc] is).length ≤ 100000; k_extra "om") (.of fun st4 g4 => ?_)).less (by show _ ≤ C.d; k_extra "om")).call
  refine ⟨rfl, ?_⟩
  have keep : ∀ b m, st3 b = some m → (∀ l, m ≠ .list l) → st4.set w (encR (ckScope wired [gSc] is)) b = some m := fun b m h hl => by
    rw [St.set_ne _ _ (nw b m h hl)]; exact g4 b m h (nw b m h hl)
  exact law_end F hsc (by k_extra "om") hg hn hw h1 (keep _ _ gr3 (fun _ z => by cases z)) (keep _ _ grd3 (fun _ z => by cases z)) (by rw [St.set_same]) (keep _ _ ga3 (fun _ z => by cases z)) (keep _ _ gd3 (fun _ z => by cases z)) (keep _ _ ge3 (fun _ z => by cases z)) _ rfl
set_option maxHeartbeats 4000000 in
theorem law_rest (F : Facts B) {C : Cfg} {su : V} {wd f c : Addr} {wired : Bool} {st : St} (hsc : C.sc = fScope (top 57)) (hd : 250 ≤ C.d) (W : Wld st wd f c 10) :
    ∀ body, (fBody (top 57)).drop 2 = body → SX B C [("script", su), ("world", .ref wd), ("wired", .bool wired)] body st (fun _ _ => False) (fun v _ => v = .bool true) := by
  intro body hb
  subst hb
  have hitems := (draw_all F 3).2
  refine SX_cons ?_
  repeat k_extra "tb"
  refine W.feed ?_
  repeat k_extra "tb"
  refine ((law_pick_spec F W (by decide) (by decide) (fun q st1 hq0 hq1 W1 g1 => ?_)).less (by k_extra "om")).call
  refine SOp_add ?_
  repeat k_extra "tb"
  refine ((hitems st1 wd f c 10 (2 + q) _ W1 (by decide) (by decide) (by k_extra "om") (by k_extra "om") (fun is room' st2 hg hn hw hr W2 g2 => ?_)).less (by k_extra "om")).call
  refine SOp_tup ?hz ?_
  case hz => have := encs_len is; show 2 + (encs is).length ≤ _; k_extra "om"
  refine Put.go (by k_extra "put") ?_
  have hb : wts (firstI ++ is) ≤ 60 := by rw [wts_append, first_wts]; k_extra "om"
  have eI : encs (firstI ++ is) = encs firstI ++ encs is := encs_append _ _
  have h := law_tail F (su := su) (wd := wd) (one := .tup [.str (S "num"), .int 1, .tup [.int 1, .int 1, .int 0], .bool false, .bool true]) (beh := behindI.enc) (st := st2) hsc hd (gds_app (is := firstI) rfl hg) (nms_app (is := firstI) (by decide +kernel) hn) hb (first_row wired is) _ rfl
  rw [eI] at h
  exact h
set_option maxHeartbeats 4000000 in
theorem law_body (F : Facts B) {C : Cfg} {u : Value} (hF : FeedP B u) (hsc : C.sc = fScope (top 57)) (hd : 250 ≤ C.d) :
    ∀ body, fBody (top 57) = body → SX B C [("script", .glob u)] body (fun _ => none) (fun _ _ => False) (fun v _ => v = .bool true) := by
  intro body hbody
  subst hbody
  have hitems := (draw_all F 3).2
  refine SX_cons ?_
  with_reducible refine SX1_assign (SE_Dict ?_ ?h1 ?h2 ?h3 ?h4) ?h5
  case h1 => exact rfl
  case h2 => exact rfl
  case h3 => simp
  case h4 => exact Nat.le_of_ble_eq_true rfl
  case h5 => exact rfl
  refine SPs_cons ?_
  repeat k_extra "tb"
  refine hF _ _ (by k_extra "om") (fun f c b ns st1 hf hb0 hb1 hc hns => ?_)
  refine SPs_cons ?_
  repeat k_extra "tb"
  refine SPs_cons ?_
  repeat k_extra "tb"
  refine SPs_nil ⟨by k_extra "nd", fun wd hwd => ?_⟩
  have W : Wld (st1.set wd (.dict (wdD f 10 10))) wd f c 10 := by
    have hfw : f ≠ wd := fun z => by subst z; rcases hf with hf | hf <;> rw [hf] at hwd <;> cases hwd
    have hcw : c ≠ wd := fun z => by subst z; rw [hc] at hwd; cases hwd
    exact ⟨⟨10, by simp⟩, ⟨0, b, by unfold IsL; rw [St.set_ne _ _ hfw]; exact hf, hb0, hb1⟩, ⟨ns, by rw [St.set_ne _ _ hcw]; exact hc, hns⟩⟩
  have eW : (.dict [("feed", .ref f), ("at", .int 10), ("room", .int 10)] : MObj) = .dict (wdD f 10 10) := rfl
  rw [eW]
  generalize st1.set wd (.dict (wdD f 10 10)) = st2 at W
  repeat k_extra "tb"
  refine W.feed ?_
  repeat k_extra "tb"
  refine ((law_pick_spec F W (by decide) (by decide) (fun r st3 hr0 hr1 W3 g3 => ?_)).less (by k_extra "om")).call
  repeat k_extra "tb"
  refine SC_gt_int (fun _ => ?_) (fun _ => ?_)
  · refine Put.go (by k_extra "put") ?_
    with_reducible refine law_rest F hsc hd W3 _ ?_
    exact rfl
  · refine Put.go (by k_extra "put") ?_
    with_reducible refine law_rest F hsc hd W3 _ ?_
    exact rfl
end
end Walks
section
/-! the facts of the heap -/
noncomputable def fdK (K : Frag) (a : Addr) : FuncData := match K.lookup a with | some ⟨_, _, .func fd, _⟩ => fd | _ => default
noncomputable def obK (K : Frag) (a : Addr) : Obj := (K.lookup a).getD default
noncomputable def cdK (K : Frag) (a : Addr) : Addr := match (fdK K a).code with | .ref c => c | _ => 0
noncomputable def vsK (K : Frag) (c : Addr) : Array Value := match K.lookup c with | some ⟨_, _, .fields vs, _⟩ => vs | _ => #[]
noncomputable def tkK (K : Frag) (c : Addr) : Tok := match (vsK K c).toList with | _ :: Value.str _ t :: _ => t | _ => 0
structure FnK (K : Frag) (a : Addr) (params : Arguments) (body : List Stmt) (sc : Scope) (dV : Value) : Prop where
  f : K.lookup a = some ⟨(obK K a).cls, (obK K a).dict, .func (fnOf (fdK K a).name (fdK K a).qualname params body sc dV (fdK K a).kwdefaults (fdK K a).doc (fdK K a).pyModule (fdK K a).annotations (.ref (cdK K a)) (fdK K a).closureTuple), (obK K a).slots⟩
  c : K.lookup (cdK K a) = some ⟨(obK K (cdK K a)).cls, (obK K (cdK K a)).dict, .fields (vsK K (cdK K a)), (obK K (cdK K a)).slots⟩
  q : (vsK K (cdK K a))[1]? = some (.str (fdK K a).qualname (tkK K (cdK K a)))
theorem FnK.fnIn {B : Base} {a : Addr} {params : Arguments} {body : List Stmt} {sc : Scope} {dV : Value} (h : FnK B.K a params body sc dV) : FnIn B (.ref a) params body sc dV :=
  ⟨a, _, _, _, _, _, _, _, _, _, _, _, rfl, B.X _ _ h.f, ⟨_, _, _, _, rfl, B.X _ _ h.c, rfl, h.q⟩⟩
noncomputable def fnTable3 : List (Nat × PySem.Str × Addr) := ([(3, "find", 70), (5, "add_name", 84), (6, "add_label", 91), (8, "add_signal", 105), (9, "declare_item", 112), (10, "check_expr", 119), (11, "check_each", 126), (12, "check_optional", 133), (13, "check_range", 140), (16, "check_declaration", 161),
  (30, "declare_items", 247), (31, "declare_branch", 254), (32, "declare_implicit", 261), (33, "add_implicit", 268), (34, "check_items", 275), (35, "check_branch", 282), (36, "check_scope", 289), (38, "check_gate", 303),
  (41, "_law_feed", 315), (42, "_law_pick", 322), (43, "_law_mark", 329), (44, "_law_name", 336), (45, "_law_use", 343), (46, "_law_end", 350), (47, "_law_value", 357), (48, "_law_items", 364), (49, "_law_block", 371), (50, "_law_branch", 378), (51, "_law_item", 385), (52, "_law_arms", 392), (53, "_law_tests", 399),
  (54, "_law_words", 406), (55, "_law_nearest", 413), (56, "_law_due", 420)] : List (Nat × String × Addr)).map fun p => (p.1, PySem.Str.ofString p.2.1, p.2.2)
theorem fnTable3_is : fnTable = fnTable3.map fun p => (p.1, p.2.1) := by kernel_rfl
set_option maxHeartbeats 8000000 in
theorem fns_K (P : Params) : ∀ q ∈ fnTable3, nsIn (hK P) mainGlobals q.2.1 = some (some (.ref q.2.2)) ∧ FnK (hK P) q.2.2 (fParams (top q.1)) (fBody (top q.1)) (fScope (top q.1)) .none := by
  repeat (refine List.forall_mem_cons.mpr ⟨⟨by kernel_rfl, ⟨by kernel_rfl, by kernel_rfl, by kernel_rfl⟩⟩, ?_⟩)
  exact fun q h => absurd h List.not_mem_nil
theorem gval_of {B : Base} {x : PySem.Str} {v : Value} (h : B.mg x = some v) : B.mg x = some (gval B x) ∧ gval B x = v := by
  unfold gval; rw [h]; exact ⟨rfl, rfl⟩
theorem bi_K (P : Params) : ∀ p ∈ biNames, nsIn (hK P) mainGlobals p.1 = some none := by
  repeat (refine List.forall_mem_cons.mpr ⟨by kernel_rfl, ?_⟩)
  exact fun q h => absurd h List.not_mem_nil
theorem bi_boot : ∀ p ∈ biNames, p.1 ≠ (S "__name__") ∧ bootBuiltins p.1 = some p.2 := by
  repeat (refine List.forall_mem_cons.mpr ⟨⟨by decide +kernel, by decide +kernel⟩, ?_⟩)
  exact fun q h => absurd h List.not_mem_nil
theorem rep_main (P : Params) : nsIn (hK P) mainGlobals (S "Report") = some (some (.ref 38)) := by kernel_rfl
theorem tab_main (P : Params) : nsIn (hK P) mainGlobals (S "NameTable") = some (some (.ref 59)) := by kernel_rfl
theorem ct_main (P : Params) : nsIn (hK P) mainGlobals (S "check_target") = some (some (.ref 169)) := by kernel_rfl
theorem ctn_main (P : Params) : nsIn (hK P) mainGlobals (S "check_target_name") = some (some (.ref 177)) := by kernel_rfl
theorem ct_K (P : Params) : FnK (hK P) 169 (fParams (top 17)) (fBody (top 17)) (fScope (top 17)) (.ref 162) := ⟨by kernel_rfl, by kernel_rfl, by kernel_rfl⟩
theorem ctn_K (P : Params) : FnK (hK P) 177 (fParams (top 18)) (fBody (top 18)) (fScope (top 18)) (.ref 170) := ⟨by kernel_rfl, by kernel_rfl, by kernel_rfl⟩
theorem dflt_K (P : Params) : List.lookup 162 (hK P) = some (tupObj [.bool false] 0) ∧ List.lookup 170 (hK P) = some (tupObj [.bool false] 0) := ⟨by kernel_rfl, by kernel_rfl⟩
theorem ri_K (P : Params) : FnK (hK P) 28 (fParams (meth 1 0)) (fBody (meth 1 0)) (fScope (meth 1 0)) .none := ⟨by kernel_rfl, by kernel_rfl, by kernel_rfl⟩
theorem ra_K (P : Params) : FnK (hK P) 35 (fParams (meth 1 1)) (fBody (meth 1 1)) (fScope (meth 1 1)) .none := ⟨by kernel_rfl, by kernel_rfl, by kernel_rfl⟩
theorem ti_K (P : Params) : FnK (hK P) 56 (fParams (meth 2 0)) (fBody (meth 2 0)) (fScope (meth 2 0)) .none := ⟨by kernel_rfl, by kernel_rfl, by kernel_rfl⟩
theorem clsIn_K {B : Base} (hK : B.K = hK B.w.params) : ClsIn B 38 28 ∧ ClsIn B 59 56 := by
  refine ⟨⟨?_, ?_, ?_, ?_⟩, ⟨?_, ?_, ?_, ?_⟩⟩ <;> rw [hK] <;> kernel_rfl
theorem set_K {B : Base} (hK : B.K = hK B.w.params) : (∀ n ∈ ([("names" : PySem.Str), ("nettype" : PySem.Str), ("rows" : PySem.Str)] : List PySem.Str), PlainSet B 38 n) ∧ (∀ n ∈ ([("parent" : PySem.Str), ("entries" : PySem.Str)] : List PySem.Str), PlainSet B 59 n) := by
  refine ⟨?_, ?_⟩
  all_goals
    repeat (refine List.forall_mem_cons.mpr ⟨⟨by rw [hK]; kernel_rfl, by rw [hK]; kernel_rfl, by rw [hK]; kernel_rfl, by rw [hK]; kernel_rfl⟩, ?_⟩)
    exact fun q h => absurd h List.not_mem_nil
theorem get_K {B : Base} (hK : B.K = hK B.w.params) : (∀ n ∈ ([("names" : PySem.Str), ("nettype" : PySem.Str), ("rows" : PySem.Str)] : List PySem.Str), PlainAttr B 38 n) ∧ (∀ n ∈ ([("parent" : PySem.Str), ("entries" : PySem.Str)] : List PySem.Str), PlainAttr B 59 n) := by
  have c1 : ∃ cd, clsIn B.K 38 = some cd ∧ cd.hasDict = true := by
    refine ⟨(clsIn B.K 38).getD default, ?_, ?_⟩ <;> rw [hK] <;> kernel_rfl
  have c2 : ∃ cd, clsIn B.K 59 = some cd ∧ cd.hasDict = true := by
    refine ⟨(clsIn B.K 59).getD default, ?_, ?_⟩ <;> rw [hK] <;> kernel_rfl
  refine ⟨?_, ?_⟩
  · repeat (refine List.forall_mem_cons.mpr ⟨⟨by rw [hK]; kernel_rfl, by rw [hK]; kernel_rfl, c1⟩, ?_⟩)
    exact fun q h => absurd h List.not_mem_nil
  · repeat (refine List.forall_mem_cons.mpr ⟨⟨by rw [hK]; kernel_rfl, by rw [hK]; kernel_rfl, c2⟩, ?_⟩)
    exact fun q h => absurd h List.not_mem_nil
theorem meth_K {B : Base} (hK : B.K = hK B.w.params) : findIn B.K (.ref 38) "__getattribute__" = some (some (.builtin "object.__getattribute__")) ∧ findIn B.K (.ref 38) "__getattr__" = some none ∧ findIn B.K (.ref 38) "add" = some (some (.ref 35)) ∧ typeIn B.K (.ref 35) = some (.type "function") := by
  rw [hK]; exact ⟨by kernel_rfl, by kernel_rfl, by kernel_rfl, by kernel_rfl⟩
noncomputable def mkFacts (B : Base) (hK : B.K = hK B.w.params) (hb : ∀ x : PySem.Str, x ≠ "__name__" → B.mb x = bootBuiltins x) : Facts B where
  fn := fun k x h => by
    rw [fnTable3_is] at h
    obtain ⟨q, hq, e⟩ := List.mem_map.mp h
    cases e
    obtain ⟨h1, h2⟩ := fns_K B.w.params q hq
    have hm := mg_of (hK ▸ B.X) B.g h1
    obtain ⟨g1, g2⟩ := gval_of hm
    refine ⟨g1, ?_⟩
    rw [g2]
    exact FnK.fnIn (hK ▸ h2)
  bi := fun p h => ⟨mg_none_of (hK ▸ B.X) B.g (bi_K B.w.params p h), (hb _ (bi_boot p h).1).trans (bi_boot p h).2⟩
  plainT := fun n A s pos args first Q s0 st0 hp h => PyProof.Rows.callWith_type hp (spliced_args hp (wpAny_mono h (fun vs s1 h1 => h1.2) fun _ _ x => x))
  dflt := 162
  dfltIs := B.X _ _ (hK ▸ (dflt_K B.w.params).1)
  ct := by
    have hm := mg_of (hK ▸ B.X) B.g (ct_main B.w.params)
    obtain ⟨g1, g2⟩ := gval_of hm
    refine ⟨g1, ?_⟩
    show FnIn B (gval B (S "check_target")) _ _ _ _
    rw [g2]
    exact FnK.fnIn (hK ▸ ct_K B.w.params)
  dflt2 := 170
  dflt2Is := B.X _ _ (hK ▸ (dflt_K B.w.params).2)
  ctn := by
    have hm := mg_of (hK ▸ B.X) B.g (ctn_main B.w.params)
    obtain ⟨g1, g2⟩ := gval_of hm
    refine ⟨g1, ?_⟩
    show FnIn B (gval B (S "check_target_name")) _ _ _ _
    rw [g2]
    exact FnK.fnIn (hK ▸ ctn_K B.w.params)
  rep := 38
  repInit := 28
  repAdd := 35
  repIs := ⟨mg_of (hK ▸ B.X) B.g (rep_main B.w.params), (clsIn_K hK).1⟩
  repInitIs := FnK.fnIn (hK ▸ ri_K B.w.params)
  repAddIs := FnK.fnIn (hK ▸ ra_K B.w.params)
  repSet := (set_K hK).1
  repGet := (get_K hK).1
  repMeth := meth_K hK
  tab := 59
  tabInit := 56
  tabIs := ⟨mg_of (hK ▸ B.X) B.g (tab_main B.w.params), (clsIn_K hK).2⟩
  tabInitIs := FnK.fnIn (hK ▸ ti_K B.w.params)
  tabSet := (set_K hK).2
  tabGet := (get_K hK).2
end
section
theorem script_kind : (fScope (top 57)).names.lookup (S "script") = some .local ∧ (S "script" == S "__debug__") = false := by decide +kernel
theorem law_kind : (fScope (top 57)).kind = .function := by decide +kernel
theorem SX.run {B : Base} {C : Cfg} {fr : Fr'} {st : St} {ss : List Stmt} {Kn : Fr' → St → Prop} {Kr : V → St → Prop} (h : SX B C fr ss st Kn Kr) {s : Shared} (ok : C.Ok B) (I : Inv B s st) (F : FR s.heap C fr) (hL : st C.L = none) {P : Flow → Shared → Prop} (hP : ∀ f s', PostX B C s st Kn Kr f s' → P f s') :
    wpAny (Mod B) C.A (execs ss C.env) P Bad s := wpAny_mono (h s ok I F hL) hP fun _ _ x => x
theorem walk_B {B : Base} (FB : Facts B) {l : Addr} {vs : List Value} {js : List Int} (hL : B.h₀.IsList l vs.toArray) (hI : IntsAre vs js) (hz : js.length ≤ 63) {h₁ : Heap} {m : PySem.Str → Option Value} (F : Fr B.h₀ B.wit h₁ m) (hm : m (S "script") = some (.ref l)) {A : Around} (hA : RoomA A 250) {nm : PySem.Str} {fa : Addr} {cd : Value} {s : Shared} (hs : s.heap = h₁) (hg : s.gens = B.gens) (ho : s.os = B.os) (body : List Stmt) (hbody : fBody (top 57) = body) :
    wpAny (Mod B) A (execs body (envOf nm (fScope (top 57)) B.wit fa cd)) (fun f s' => f = .ret (.bool true) ∧ (∀ b o, B.h₀.get? b = some o → s'.heap.get? b = some o) ∧ s'.os = B.os ∧ s'.gens = B.gens) Bad s := by
  subst hs
  have hl : vs.length ≤ 1000 := by have := hI.length; omega
  have hF : FeedP B (.ref l) := fun d Q hd5 h => by
    obtain ⟨d', rfl⟩ : ∃ d', d = d' + 3 := ⟨d - 3, by omega⟩
    exact (feed_spec FB (l := l) (vs := vs) (js := js) hL hI hl d' Q h).call
  obtain ⟨oL, es, ep, gL, rL⟩ := id F.ns
  have I : Inv B s (fun _ => none) := ⟨F.keep, hg, ho, (fun a m e => by cases e), ⟨oL, gL⟩⟩
  have FRC : FR s.heap ⟨A, nm, fScope (top 57), B.wit, fa, cd, 250⟩ [(S "script", .glob (.ref l))] := ⟨by simp, fun p hp => by rw [List.mem_singleton.mp hp]; exact script_kind, m, F.ns, fun p hp => by rw [List.mem_singleton.mp hp]; exact ⟨_, hm, rfl⟩⟩
  refine SX.run (C := ⟨A, nm, fScope (top 57), B.wit, fa, cd, 250⟩) (law_body FB hF rfl (Nat.le_refl _) body hbody) ⟨hA, law_kind, F.above⟩ I FRC rfl (fun f s' p => ?_)
  cases f with
  | next => obtain ⟨_, _, _, _, _, hx⟩ := p; exact hx.elim
  | ret v =>
    obtain ⟨x, st', r, I', e, hx⟩ := p
    subst hx
    simp only [RV] at r
    subst r
    exact ⟨rfl, I'.base, I'.os, I'.gens⟩
  | brk => exact p.elim
  | cont => exact p.elim
noncomputable def mkBase (w : World) (s₁ : Shared) (mg mb : PySem.Str → Option Value) (KX : (hK w.params).In s₁.heap) (g : s₁.heap.Ns mainGlobals mg) (b : s₁.heap.Ns builtinsNs mb) (nl : s₁.heap.NoLimit) : Base where
  prog := PySem.Challenge.rw_sj0057_01.row.prog
  w := w
  h₀ := s₁.heap
  gens := s₁.gens
  os := s₁.os
  mg := mg
  mb := mb
  K := hK w.params
  g := g
  b := b
  nolimit := nl
  X := KX
  wit := s₁.heap.objs.size
  hwit := Nat.le_refl _
theorem walk_law {w : World} {s₁ : Shared} {mg mb : PySem.Str → Option Value} (KX : (hK w.params).In s₁.heap) (g : s₁.heap.Ns mainGlobals mg) (b : s₁.heap.Ns builtinsNs mb) (nl : s₁.heap.NoLimit) (hb : ∀ x : PySem.Str, x ≠ "__name__" → mb x = bootBuiltins x)
    {l : Addr} {vs : List Value} {js : List Int} (hL : s₁.heap.IsList l vs.toArray) (hI : IntsAre vs js) (hz : js.length ≤ 63) {h₁ : Heap} {m : PySem.Str → Option Value} (F : Fr s₁.heap s₁.heap.objs.size h₁ m) (hm : m (S "script") = some (.ref l)) {A : Around} (hA : RoomA A 250) {nm : PySem.Str} {fa : Addr} {cd : Value} {s : Shared} (hs : s.heap = h₁) (hg : s.gens = s₁.gens) (ho : s.os = s₁.os) (body : List Stmt) (hbody : fBody (top 57) = body) :
    wpAny (model PySem.Challenge.rw_sj0057_01.row.prog w) A (execs body (envOf nm (fScope (top 57)) s₁.heap.objs.size fa cd)) (fun f s' => f = .ret (.bool true) ∧ (∀ b o, s₁.heap.get? b = some o → s'.heap.get? b = some o) ∧ s'.os = s₁.os ∧ s'.gens = s₁.gens) Bad s :=
  walk_B (B := mkBase w s₁ mg mb KX g b nl) (mkFacts _ rfl hb) hL hI hz F hm hA hs hg ho body hbody
theorem claim_raises (args : List WData) : ∀ cls, PySem.Challenge.rw_sj0057_01.row.claim.raises args cls = false := by intro cls; rfl
theorem claim_post (args : List WData) : PySem.Challenge.rw_sj0057_01.row.claim.post args (.bool true) args = true := by kernel_rfl
theorem good_end {cl : PySem.Str → Option Addr} {mean : ExcName → Option Value} {args : List WData} {s₁ s' : Shared} (hk : ∀ b o, s₁.heap.get? b = some o → s'.heap.get? b = some o) (ho : s'.os = s₁.os) (hg : s'.gens = #[]) :
    GoodW PySem.Challenge.rw_sj0057_01.row.claim cl mean args s₁ (.ok (.ret (.bool true))) s' :=
  ⟨.inl ⟨.bool true, .bool true, [], rfl, claim_raises args, .bool true, claim_post args, fun _ => ⟨.nil, fun a h => absurd h List.not_mem_nil⟩⟩, hk, ho, hg⟩
end
section
theorem law_room (e : Env) : RoomA (callerA.deeper e) 250 := ⟨rfl, by show 1 + claimMargin + 1 + 250 < recursionLimit; decide, by show 4 + 3 + 4 * 250 + 60 < cLine; decide⟩
theorem law_goal {w : World} {s₁ : Shared} {p : Program} {loose : List PySem.Str} {mean : ExcName → Option Value} {mg mb : PySem.Str → Option Value} (KX : (hK w.params).In s₁.heap) (T : Top p loose mean mg mb s₁.heap) (hgens : s₁.gens = #[])
    {l : Addr} {vs : List Value} {js : List Int} (hL : s₁.heap.IsList l vs.toArray) (hI : IntsAre vs js) (hz : js.length ≤ 63) {h₁ : Heap} {m : PySem.Str → Option Value} (F : Fr s₁.heap s₁.heap.objs.size h₁ m) (hm : m (S "script") = some (.ref l)) {e : Env} {nm : PySem.Str} {fa : Addr} {cd : Value} {tk : Tok} {body : List Stmt} {Q : Flow → Shared → Prop} {E : Value → Shared → Prop}
    (hbody : fBody (top 57) = body)
    (hQ : ∀ s', (∀ b o, s₁.heap.get? b = some o → s'.heap.get? b = some o) → s'.os = s₁.os → s'.gens = #[] → Q (.ret (.bool true)) s') :
    wpAny (model PySem.Challenge.rw_sj0057_01.row.prog w) (callerA.deeper e) (execs body (envOf nm (fScope (top 57)) s₁.heap.objs.size fa cd)) Q E { s₁ with heap := h₁, toks := tk } :=
  by
  have hw := walk_law (s := { s₁ with heap := h₁, toks := tk }) (nm := nm) (fa := fa) (cd := cd) KX T.g T.b T.nolimit T.builtins hL hI hz F hm (law_room e) rfl rfl rfl body hbody
  refine wpAny_mono hw (fun f s' h => ?_) (fun _ _ x => False.elim x)
  obtain ⟨hf, hk, ho, hg⟩ := h
  subst hf
  exact hQ s' hk ho (hg.trans hgens)
end
end Mine
local macro_rules | `(tactic| k_qdec) => `(tactic| decide +kernel)
open Mine in
set_option maxRecDepth 100000 in
set_option maxHeartbeats 8000000 in
theorem PySem.Challenge.cw_sj0057_01_holds : PySem.Challenge.rw_sj0057_01.Holds := by
  w_on
  refine holds_law said_ok fun said => ?_
  refine holds_open (q := vw) (loose := hLoose) (Xt := fun s => xlAt vw [] s && recOk (RowW.records PySem.Challenge.rw_sj0057_01.row.toRowW) s) (XP := XL vw []) (Yf := Hook.obs hH) (Ya := Hook.val hH) (YP := Hook.says hH) (N := 4582) hd_left (Hook.of hH) (Hook.keeps hH) (fun s e => xl_of s (Bool.and_eq_true_iff.mp e).1) XL.keeps (by rfl) (by rfl) (by rfl) (fun s e => recFacts_of (Bool.and_eq_true_iff.mp e).2) (by rfl) said (by decide +kernel) bare_ok ?hw ?hc
  case hw => w_witness2
  case hc =>
    k_go0
    all_goals refine law_goal (by assumption) (by assumption) (by assumption) (by assumption) (by assumption) (by omega) (by assumption) (by kernel_rfl) (by kernel_rfl) (fun s' hk ho hg => good_end hk ho hg)

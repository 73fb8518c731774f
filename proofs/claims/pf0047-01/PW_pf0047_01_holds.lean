import PyProof.Rows.All
import Wide.All
import OpenK.KEqL
import OpenK.KLine
import KE.KItem
import KE.KxMul
import KE.KSlice
import KE.IntBitsLaws
import PySem.Challenge.RW_pf0047_01

set_option Elab.async false
set_option maxRecDepth 100000
set_option linter.unusedVariables false
set_option compiler.extract_closed false
set_option linter.unusedSimpArgs false

namespace Mine
open PySem PySem.W PyProof.Rows

/-! Values, and how they lie in the heap. -/
inductive AV where
  | int (n : Int)
  | bool (b : Bool)
  | none
  | ints (xs : List Int)
  | lst (xs : List Int)
  | list (xs : List AV)
  | tup (xs : List AV)
  | box

noncomputable abbrev Bx := Option (Addr × Addr)
noncomputable def inBox (bx : Bx) (a : Addr) : Prop := match bx with
  | Option.none => False
  | some p => a = p.1 ∨ a = p.2

structure BS where
  l : List Int
  c : Int

noncomputable def lid : Nat := 100000

noncomputable def BoxIs (bx : Bx) (h : Heap) (b : BS) : Prop := match bx with
  | Option.none => True
  | some p => p.1 ≠ p.2 ∧ (∃ t, h.PlainList p.1 #[Value.ref p.2, Value.int b.c t]) ∧ ∃ vs : List Value, h.PlainList p.2 vs.toArray ∧ IntsAre vs b.l ∧ b.l.length ≤ lid

mutual
noncomputable def Is (bx : Bx) (O : Addr → Prop) (h : Heap) : AV → Value → Prop
  | .int n, v => ∃ t, v = Value.int n t
  | .bool b, v => v = Value.bool b
  | .none, v => v = Value.none
  | .ints xs, v => ∃ (a : Addr) (vs : List Value), v = Value.ref a ∧ ¬ O a ∧ h.PlainList a vs.toArray ∧ IntsAre vs xs ∧ xs.length ≤ lid
  | .lst xs, v => ∃ (a : Addr) (vs : List Value), v = Value.ref a ∧ ¬ O a ∧ h.IsList a vs.toArray ∧ IntsAre vs xs ∧ xs.length ≤ lid
  | .list xs, v => ∃ (a : Addr) (vs : List Value), v = Value.ref a ∧ ¬ O a ∧ h.PlainList a vs.toArray ∧ IsAll bx O h xs vs
  | .tup xs, v => ∃ (a : Addr) (vs : List Value), v = Value.ref a ∧ ¬ O a ∧ h.IsTuple a vs.toArray ∧ IsAll bx O h xs vs
  | .box, v => ∃ b l, bx = some (b, l) ∧ v = Value.ref b
noncomputable def IsAll (bx : Bx) (O : Addr → Prop) (h : Heap) : List AV → List Value → Prop
  | [], vs => vs = []
  | x :: xs, vs => ∃ v r, vs = v :: r ∧ Is bx O h x v ∧ IsAll bx O h xs r
end

noncomputable def seqCls (o : Obj) : Prop := ∃ xs n, o.data = .seq xs n
/-- what stands outside O (lists and tuples) stands on -/
noncomputable def LeW (O : Addr → Prop) (h : Heap) (O' : Addr → Prop) (h' : Heap) : Prop :=
  ∀ a o, ¬ O a → h.get? a = some o → seqCls o → ¬ O' a ∧ h'.get? a = some o
noncomputable def Le (O : Addr → Prop) (h : Heap) (O' : Addr → Prop) (h' : Heap) : Prop :=
  ∀ a o, ¬ O a → h.get? a = some o → ¬ O' a ∧ h'.get? a = some o
theorem Le.refl (O : Addr → Prop) (h : Heap) : Le O h O h := fun _ _ n e => ⟨n, e⟩
theorem Le.trans {O h O' h' O'' h''} (x : Le O h O' h') (y : Le O' h' O'' h'') : Le O h O'' h'' :=
  fun a o n e => y a o (x a o n e).1 (x a o n e).2
theorem Le.w {O h O' h'} (x : Le O h O' h') : LeW O h O' h' := fun a o n e _ => x a o n e

theorem isList_le {O h O' h'} (L : LeW O h O' h') {a : Addr} {vs} (n : ¬ O a) (x : h.IsList a vs) : ¬ O' a ∧ h'.IsList a vs := by
  obtain ⟨o, e, c, d⟩ := x
  obtain ⟨n', e'⟩ := L a o n e (let ⟨k, d⟩ := d; ⟨_, k, d⟩)
  exact ⟨n', o, e', c, d⟩
theorem plain_le {O h O' h'} (L : LeW O h O' h') {a : Addr} {vs} (n : ¬ O a) (x : h.PlainList a vs) : ¬ O' a ∧ h'.PlainList a vs := by
  obtain ⟨m, e⟩ := x
  obtain ⟨n', e'⟩ := L a _ n e ⟨_, _, rfl⟩
  exact ⟨n', m, e'⟩
theorem isTup_le {O h O' h'} (L : LeW O h O' h') {a : Addr} {vs} (n : ¬ O a) (x : h.IsTuple a vs) : ¬ O' a ∧ h'.IsTuple a vs := by
  obtain ⟨o, e, c, d⟩ := x
  obtain ⟨n', e'⟩ := L a o n e (let ⟨k, d⟩ := d; ⟨_, k, d⟩)
  exact ⟨n', o, e', c, d⟩

mutual
theorem Is.le {bx O h O' h'} (L : LeW O h O' h') : ∀ (x : AV) (v : Value), Is bx O h x v → Is bx O' h' x v
  | .int _, _, i => by simpa only [Is] using i
  | .bool _, _, i => by simpa only [Is] using i
  | .none, _, i => by simpa only [Is] using i
  | .ints _, _, i => by
    simp only [Is] at i ⊢
    obtain ⟨a, vs, e, n, l, j⟩ := i
    obtain ⟨n', l'⟩ := plain_le L n l
    exact ⟨a, vs, e, n', l', j⟩
  | .lst _, _, i => by
    simp only [Is] at i ⊢
    obtain ⟨a, vs, e, n, l, j⟩ := i
    obtain ⟨n', l'⟩ := isList_le L n l
    exact ⟨a, vs, e, n', l', j⟩
  | .list xs, _, i => by
    simp only [Is] at i ⊢
    obtain ⟨a, vs, e, n, l, j⟩ := i
    obtain ⟨n', l'⟩ := plain_le L n l
    exact ⟨a, vs, e, n', l', IsAll.le L xs vs j⟩
  | .tup xs, _, i => by
    simp only [Is] at i ⊢
    obtain ⟨a, vs, e, n, l, j⟩ := i
    obtain ⟨n', l'⟩ := isTup_le L n l
    exact ⟨a, vs, e, n', l', IsAll.le L xs vs j⟩
  | .box, _, i => by simpa only [Is] using i
theorem IsAll.le {bx O h O' h'} (L : LeW O h O' h') : ∀ (xs : List AV) (vs : List Value), IsAll bx O h xs vs → IsAll bx O' h' xs vs
  | [], _, i => by simpa only [IsAll] using i
  | x :: xs, _, i => by
    simp only [IsAll] at i ⊢
    obtain ⟨v, r, e, j, k⟩ := i
    exact ⟨v, r, e, Is.le L x v j, IsAll.le L xs r k⟩
end

/-- the state behind a step that stores into no elder object but the box's -/
structure Ext (bx : Bx) (s s' : Shared) : Prop where
  same : ∃ h tk, s' = { s with heap := h, toks := tk }
  keep : ∀ b o, s.heap.get? b = some o → ¬ inBox bx b → s'.heap.get? b = some o
theorem Ext.refl (bx : Bx) (s : Shared) : Ext bx s s := ⟨⟨s.heap, s.toks, rfl⟩, fun _ _ e _ => e⟩
theorem Ext.trans {bx : Bx} {s s' s'' : Shared} (x : Ext bx s s') (y : Ext bx s' s'') : Ext bx s s'' := by
  obtain ⟨h, tk, rfl⟩ := x.same
  obtain ⟨h', tk', rfl⟩ := y.same
  exact ⟨⟨h', tk', rfl⟩, fun b o e n => y.keep b o (x.keep b o e n) n⟩
theorem Ext.toks (bx : Bx) (s : Shared) (t : Nat) : Ext bx s { s with toks := t } := ⟨⟨s.heap, t, rfl⟩, fun _ _ e _ => e⟩
theorem Ext.of_keeps {bx : Bx} {s : Shared} {h : Heap} {t : Nat} (k : ∀ b o, s.heap.get? b = some o → h.get? b = some o) : Ext bx s { s with heap := h, toks := t } :=
  ⟨⟨h, t, rfl⟩, fun b o e _ => k b o e⟩
theorem Ext.le {bx : Bx} {O : Addr → Prop} {s s' : Shared} (x : Ext bx s s') (hO : ∀ a, inBox bx a → O a) : Le O s.heap O s'.heap :=
  fun a o n e => ⟨n, x.keep a o e fun b => n (hO a b)⟩
theorem Ext.box {bx : Bx} {s : Shared} {h : Heap} {b : BS} (k : ∀ b o, s.heap.get? b = some o → h.get? b = some o) (B : BoxIs bx s.heap b) : BoxIs bx h b := by
  unfold BoxIs at *
  cases bx with
  | none => trivial
  | some p =>
    obtain ⟨n, ⟨t, x⟩, vs, y, z⟩ := B
    exact ⟨n, ⟨t, x.at fun o e => k _ o e⟩, vs, y.at fun o e => k _ o e, z⟩

/-! The frame at hand. -/
structure Cx where
  prog : Program
  w : World
  mg : Str → Option Value
  mb : Str → Option Value
  hG : Heap

noncomputable abbrev theText : Program := PySem.Challenge.pw_pf0047_01
noncomputable def asItem : Stmt → Option DefItem
  | .FunctionDef name args body _ _ _ scope _ _ pos => some ⟨name, args, body, scope, pos⟩
  | _ => Option.none
noncomputable def itemAt (i : Nat) : Option DefItem := theText.main.body[i]?.bind asItem
noncomputable def noItem : DefItem := ⟨⟨#[]⟩, ⟨[], [], Option.none, [], [], Option.none, []⟩, [], ⟨.function, [], false, false, []⟩, default⟩
noncomputable def itemD (i : Nat) : DefItem := (itemAt i).getD noItem

noncomputable def Cx.Fn (C : Cx) (d : DefItem) : Prop := ∃ a o pm code doc, C.mg d.name = some (.ref a) ∧ C.hG.get? a = some o ∧
  o.data = .func (Calls.docDef d.name d.params d.body d.scope pm code doc) ∧ C.hG.CodeRec code d.name

noncomputable def pairsL : List (Int × Int) := [(3, 5), (4, 7), (9, 2), (10, 3), (15, 2), (1, 5), (25, 2), (8, 3), (2, 3)]
structure Cx.Ok (C : Cx) : Prop where
  g : C.hG.Ns mainGlobals C.mg
  b : C.hG.Ns builtinsNs C.mb
  nolimit : C.hG.NoLimit
  builtins : ∀ x : Str, x ≠ "__name__" → C.mb x = bootBuiltins x
  fn : ∀ i d, itemAt i = some d → C.Fn d
  nob : ∀ x ∈ (["len", "abs", "max", "list", "range", "enumerate"] : List Str), C.mg x = Option.none
  pairs : ∃ (l : Addr) (vs : List Value), C.mg "_law_pairs" = some (.ref l) ∧ C.hG.IsTuple l vs.toArray ∧ vs.length = 9 ∧ ∀ (i : Nat) (p : Int × Int), pairsL[i]? = some p → ∃ a t u, vs[i]? = some (.ref a) ∧ C.hG.IsTuple a #[.int p.1 t, .int p.2 u]

structure Room (A : Around) (k : Nat) : Prop where
  handled : A.handled = none
  depth : A.depth + k < 600
  units : A.units + 8 * k < 5000

inductive Slot where
  | av (a : AV)
  | own (xs : List Int)

structure St where
  vars : List (Str × Slot)
  box : BS

structure Fm where
  C : Cx
  bx : Bx
  A : Around
  k : Nat
  env : Env
  h₀ : Addr → Option Obj
  O₀ : Addr → Prop
  s₀ : Shared

structure Fm.Ok (F : Fm) : Prop where
  cx : F.C.Ok
  room : Room F.A F.k
  kind : F.env.scope.kind = .function
  glob : F.env.globals = mainGlobals
  bl : F.env.builtins = builtinsNs
  base : ∀ b o, F.C.hG.get? b = some o → F.h₀ b = some o
  wfree : ∀ a, inBox F.bx a → F.C.hG.get? a = none
  wO : ∀ a, inBox F.bx a → F.O₀ a
  dom₀ : ∀ a, F.O₀ a → ∃ o, F.h₀ a = some o

noncomputable def SlotIs (F : Fm) (O : Addr → Prop) (h : Heap) (ad : Addr) : Slot → Value → Prop
  | .av a, v => Is F.bx O h a v
  | .own xs, v => v = .ref ad ∧ O ad ∧ F.h₀ ad = none ∧ (∃ vs : List Value, h.PlainList ad vs.toArray ∧ IntsAre vs xs ∧ xs.length ≤ lid)

noncomputable def isOwn : Slot → Prop
  | .own _ => True
  | _ => False

structure VarsOk (F : Fm) (vars : List (Str × Slot)) (O : Addr → Prop) (h : Heap) (m cm : Str → Option Value) (ad : Str → Addr) : Prop where
  ns : h.Ns F.env.locals m
  cell : ∀ (x : Str) (c : Addr), F.env.cells.lookup x = some c → O c ∧ h.IsCell c (cm x) ∧ c ≠ F.env.locals ∧ ¬ inBox F.bx c
  var : ∀ (x : Str) (a : Slot), vars.lookup x = some a →
      ∃ v, SlotIs F O h (ad x) a v ∧ ((F.env.kindOf x = some .local ∧ m x = some v) ∨ (F.env.kindOf x = some .cell ∧ (∃ c, F.env.cells.lookup x = some c) ∧ cm x = some v))
  own : ∀ (x : Str) (a : Slot), vars.lookup x = some a → isOwn a → ad x ≠ F.env.locals ∧ (∀ (y : Str) (c : Addr), F.env.cells.lookup y = some c → ad x ≠ c) ∧
      ∀ (y : Str) (b : Slot), vars.lookup y = some b → isOwn b → x ≠ y → ad x ≠ ad y

structure Rep (F : Fm) (σ : St) (O : Addr → Prop) (ad : Str → Addr) (s : Shared) : Prop where
  same : ∃ h tk, s = { F.s₀ with heap := h, toks := tk }
  keep : ∀ b o, F.h₀ b = some o → ¬ inBox F.bx b → s.heap.get? b = some o
  sub : ∀ a, F.O₀ a → O a
  dom : ∀ a, O a → ∃ o, s.heap.get? a = some o
  Lo : O F.env.locals
  Lnew : F.h₀ F.env.locals = none
  vars : ∃ m cm, VarsOk F σ.vars O s.heap m cm ad
  capart : ∀ (x y : Str) (c : Addr), F.env.cells.lookup x = some c → F.env.cells.lookup y = some c → x = y
  box : BoxIs F.bx s.heap σ.box

theorem Rep.base {F : Fm} {σ : St} {O : Addr → Prop} {ad : Str → Addr} {s : Shared} (K : F.Ok) (R : Rep F σ O ad s) : ∀ b o, F.C.hG.get? b = some o → s.heap.get? b = some o := fun b o e =>
  R.keep b o (K.base b o e) fun h => by rw [K.wfree b h] at e; cases e
theorem Rep.wO {F : Fm} {σ : St} {O : Addr → Prop} {ad : Str → Addr} {s : Shared} (K : F.Ok) (R : Rep F σ O ad s) : ∀ a, inBox F.bx a → O a := fun a h => R.sub a (K.wO a h)

theorem box_dom {bx : Bx} {h : Heap} {b : BS} (B : BoxIs bx h b) : ∀ a, inBox bx a → ∃ o, h.get? a = some o := by
  intro a ha
  unfold BoxIs at B
  unfold inBox at ha
  cases bx with
  | none => exact ha.elim
  | some p =>
    obtain ⟨n, ⟨t, m, x⟩, vs, ⟨m', y⟩, z⟩ := B
    rcases ha with rfl | rfl
    · exact ⟨_, x⟩
    · exact ⟨_, y⟩

theorem Fm.Ok.new_box {F : Fm} (K : F.Ok) {a : Addr} (h : F.h₀ a = none) : ¬ inBox F.bx a := fun b => by
  obtain ⟨o, e⟩ := K.dom₀ a (K.wO a b)
  rw [h] at e; cases e

theorem slotIs_le {F : Fm} {O O' : Addr → Prop} {h h' : Heap} {ad : Addr} (L : LeW O h O' h') (hown : ∀ vs, O ad → F.h₀ ad = none → h.PlainList ad vs → O' ad ∧ h'.PlainList ad vs) :
    ∀ (a : Slot) (v : Value), SlotIs F O h ad a v → SlotIs F O' h' ad a v
  | .av a, v, i => Is.le L a v i
  | .own _, _, ⟨e, o, n, vs, p, q⟩ => ⟨e, (hown _ o n p).1, n, vs, (hown _ o n p).2, q⟩

/-- a step that keeps all but the box's objects -/
theorem Rep.ext {F : Fm} {σ : St} {O : Addr → Prop} {ad : Str → Addr} {s s' : Shared} {b : BS} (K : F.Ok) (R : Rep F σ O ad s) (x : Ext F.bx s s') (B : BoxIs F.bx s'.heap b) : Rep F { σ with box := b } O ad s' := by
  obtain ⟨m, cm, V⟩ := R.vars
  have hwO := R.wO K
  have L := (x.le hwO).w
  refine ⟨?_, fun b o e n => x.keep b o (R.keep b o e n) n, R.sub, fun a ha => ?_, R.Lo, R.Lnew, ⟨m, cm, ?_⟩, R.capart, B⟩
  · obtain ⟨h, tk, e⟩ := R.same
    obtain ⟨h', tk', e'⟩ := x.same
    exact ⟨h', tk', by rw [e', e]⟩
  · rcases Classical.em (inBox F.bx a) with hb | hb
    · exact box_dom B a hb
    · obtain ⟨o, e⟩ := R.dom a ha
      exact ⟨o, x.keep a o e hb⟩
  · refine ⟨?_, fun y c hc => ?_, fun y a hy => ?_, V.own⟩
    · obtain ⟨o, es, ep, e, r⟩ := V.ns
      exact ⟨o, es, ep, x.keep _ o e (K.new_box R.Lnew), r⟩
    · obtain ⟨h1, ⟨o, e, d⟩, h3, h4⟩ := V.cell y c hc
      exact ⟨h1, ⟨o, x.keep c o e h4, d⟩, h3, h4⟩
    · obtain ⟨v, hv, r⟩ := V.var y a hy
      exact ⟨v, slotIs_le L (fun vs ho hn p => ⟨ho, p.at fun o e => x.keep _ o e (K.new_box hn)⟩) a v hv, r⟩

/-- loading a name -/
theorem Rep.load {F : Fm} {σ : St} {O : Addr → Prop} {ad : Str → Addr} {s : Shared} {M : Model} {E : Value → Shared → Prop} {Q : Value → Shared → Prop} {x : Str} {a : AV} (K : F.Ok) (R : Rep F σ O ad s)
    (hx : σ.vars.lookup x = some (.av a)) (h : ∀ v, Is F.bx O s.heap a v → Q v s) : wpAny M F.A (loadName F.env x) Q E s := by
  obtain ⟨m, cm, V⟩ := R.vars
  obtain ⟨v, hv, r⟩ := V.var x _ hx
  rcases r with ⟨k, e⟩ | ⟨k, ⟨c, hc⟩, e⟩
  · exact wpAny_loadName_local K.kind k V.ns e (h v hv)
  · exact wpAny_loadName_cell K.kind k hc (e ▸ (V.cell x c hc).2.1) (h v hv)
theorem Rep.loadOwn {F : Fm} {σ : St} {O : Addr → Prop} {ad : Str → Addr} {s : Shared} {M : Model} {E : Value → Shared → Prop} {Q : Value → Shared → Prop} {x : Str} {xs : List Int} (K : F.Ok) (R : Rep F σ O ad s)
    (hx : σ.vars.lookup x = some (.own xs)) (h : ∀ vs, s.heap.PlainList (ad x) vs.toArray → IntsAre vs xs → xs.length ≤ lid → Q (.ref (ad x)) s) : wpAny M F.A (loadName F.env x) Q E s := by
  obtain ⟨m, cm, V⟩ := R.vars
  obtain ⟨v, ⟨rfl, _, _, vs, p, q⟩, r⟩ := V.var x _ hx
  rcases r with ⟨k, e⟩ | ⟨k, ⟨c, hc⟩, e⟩
  · exact wpAny_loadName_local K.kind k V.ns e (h vs p q.1 q.2)
  · exact wpAny_loadName_cell K.kind k hc (e ▸ (V.cell x c hc).2.1) (h vs p q.1 q.2)


/-- where a fresh list may be laid as a name's own -/
structure FreshAd (F : Fm) (vars : List (Str × Slot)) (O : Addr → Prop) (ad : Str → Addr) (x : Str) (d : Addr) : Prop where
  inO : O d
  new : F.h₀ d = none
  loc : d ≠ F.env.locals
  cel : ∀ (y : Str) (c : Addr), F.env.cells.lookup y = some c → d ≠ c
  oth : ∀ (y : Str) (b : Slot), vars.lookup y = some b → isOwn b → x ≠ y → d ≠ ad y

theorem lookup_cons_eq {β : Type} {x y : Str} {b : β} {l : List (Str × β)} : List.lookup y ((x, b) :: l) = if y = x then some b else l.lookup y := by
  rw [List.lookup_cons]
  by_cases h : y = x
  · subst h; simp
  · have : (y == x) = false := by simpa using h
    rw [this, if_neg h]

theorem Rep.store {F : Fm} {σ : St} {O : Addr → Prop} {ad : Str → Addr} {s : Shared} {M : Model} {E : Value → Shared → Prop} {Q : Unit → Shared → Prop} {x : Str} {a : Slot} {v : Value} {d : Addr} (K : F.Ok) (R : Rep F σ O ad s)
    (hk : F.env.kindOf x = some .local ∨ (F.env.kindOf x = some .cell ∧ (F.env.cells.lookup x).isSome = true ∧ ∀ c, F.env.cells.lookup x = some c → F.h₀ c = none))
    (hv : SlotIs F O s.heap d a v) (hd : isOwn a → FreshAd F σ.vars O ad x d)
    (h : ∀ s', Rep F { σ with vars := (x, a) :: σ.vars } O (fun y => if y = x then d else ad y) s' → Le O s.heap O s'.heap → (∃ h tk, s' = { s with heap := h, toks := tk }) →
      (∀ (b : Addr) (o : Obj), b ≠ F.env.locals → (∀ y c, F.env.cells.lookup y = some c → b ≠ c) → s.heap.get? b = some o → s'.heap.get? b = some o) → Q () s') :
    wpAny M F.A (storeName F.env x v) Q E s := by
  obtain ⟨m, cm, V⟩ := R.vars
  have hwO := R.wO K
  -- what both ways share
  have core : ∀ (h' : Heap) (tk : Nat) (z : Addr) (m' cm' : Str → Option Value), O z → F.h₀ z = none → (z = F.env.locals ∨ ∃ y, F.env.cells.lookup y = some z) → Heap.SameBut z s.heap h' → h'.Ns F.env.locals m' →
      (∀ (y : Str) (c : Addr), F.env.cells.lookup y = some c → h'.IsCell c (cm' y)) →
      (∀ y, y ≠ x → F.env.kindOf y = some .local → m' y = m y) → (∀ y, y ≠ x → F.env.kindOf y = some .cell → (∃ c, F.env.cells.lookup y = some c) → cm' y = cm y) →
      ((F.env.kindOf x = some .local ∧ m' x = some v) ∨ (F.env.kindOf x = some .cell ∧ (∃ c, F.env.cells.lookup x = some c) ∧ cm' x = some v)) →
      Q () { s with heap := h', toks := tk } := by
    intro h' tk z m' cm' hz hz₀ hzz hs hn hc hm hcm hx
    have hzb : ¬ inBox F.bx z := K.new_box hz₀
    have keepz : ∀ b o, b ≠ z → s.heap.get? b = some o → h'.get? b = some o := fun b o n e => hs.extBut b o n e
    have L : Le O s.heap O h' := fun b o n e => ⟨n, keepz b o (fun q => n (q ▸ hz)) e⟩
    have dz : ∀ y b, σ.vars.lookup y = some b → isOwn b → ad y ≠ z := fun y b hy hb q => by
      rcases hzz with hzz | ⟨y', hy'⟩
      · exact (V.own y b hy hb).1 (q.trans hzz)
      · exact (V.own y b hy hb).2.1 y' z hy' q
    refine h { s with heap := h', toks := tk } ⟨?_, ?_, R.sub, ?_, R.Lo, R.Lnew, ⟨m', cm', ?_⟩, R.capart, ?_⟩ L ⟨h', tk, rfl⟩ ?_
    · obtain ⟨h₁, tk₁, e⟩ := R.same
      exact ⟨h', tk, by rw [e]⟩
    · exact fun b o e n => keepz b o (fun q => by rw [q, hz₀] at e; cases e) (R.keep b o e n)
    · intro b hb
      by_cases q : b = z
      · subst q
        rcases hzz with hzz | ⟨y', hy'⟩
        · obtain ⟨o, _, _, e, _⟩ := hn
          exact ⟨o, hzz ▸ e⟩
        · obtain ⟨o, e, _⟩ := hc y' _ hy'
          exact ⟨o, e⟩
      · obtain ⟨o, e⟩ := R.dom b hb
        exact ⟨o, keepz b o q e⟩
    · refine ⟨hn, fun y c hy => ⟨(V.cell y c hy).1, hc y c hy, (V.cell y c hy).2.2⟩, fun y b hy => ?_, fun y b hy hb => ?_⟩
      · rw [lookup_cons_eq] at hy
        by_cases q : y = x
        · subst q
          rw [if_pos rfl] at hy
          cases hy
          simp only [if_true]
          refine ⟨v, ?_, hx⟩
          cases a with
          | av b => exact Is.le L.w b v hv
          | own xs =>
            obtain ⟨e1, e2, e3, vs, p, i⟩ := hv
            have D := hd trivial
            refine ⟨e1, e2, e3, vs, p.at fun o e => keepz _ o (fun q => ?_) e, i⟩
            rcases hzz with hzz | ⟨y', hy'⟩
            · exact D.loc (q.trans hzz)
            · exact D.cel y' z hy' q
        · rw [if_neg q] at hy
          simp only [if_neg q]
          obtain ⟨u, hu, r⟩ := V.var y b hy
          refine ⟨u, ?_, ?_⟩
          · cases b with
            | av b => exact Is.le L.w b u hu
            | own xs => 
              obtain ⟨e1, e2, e3, vs, p, i⟩ := hu
              exact ⟨e1, e2, e3, vs, p.at fun o e => keepz _ o (dz y _ hy trivial) e, i⟩
          · rcases r with ⟨k, e⟩ | ⟨k, hc', e⟩
            · exact .inl ⟨k, by rw [hm y q k]; exact e⟩
            · exact .inr ⟨k, hc', by rw [hcm y q k hc']; exact e⟩
      · rw [lookup_cons_eq] at hy
        by_cases q : y = x
        · subst q
          rw [if_pos rfl] at hy
          cases hy
          simp only [if_true]
          have D := hd hb
          refine ⟨D.loc, D.cel, fun y' b' hy' hb' n => ?_⟩
          rw [lookup_cons_eq, if_neg (Ne.symm n)] at hy'
          rw [if_neg (Ne.symm n)]
          exact D.oth y' b' hy' hb' n
        · rw [if_neg q] at hy
          simp only [if_neg q]
          obtain ⟨o1, o2, o3⟩ := V.own y b hy hb
          refine ⟨o1, o2, fun y' b' hy' hb' n => ?_⟩
          rw [lookup_cons_eq] at hy'
          by_cases q' : y' = x
          · subst q'
            rw [if_pos rfl] at hy'
            cases hy'
            rw [if_pos rfl]
            exact Ne.symm ((hd hb').oth y b hy hb (Ne.symm q))
          · rw [if_neg q'] at hy'
            rw [if_neg q']
            exact o3 y' b' hy' hb' n
    · have B := R.box
      unfold BoxIs at B ⊢
      cases hbx : F.bx with
      | none => trivial
      | some p =>
        rw [hbx] at B
        simp only at B ⊢
        have nb : ∀ q, inBox (some p) q → q ≠ z := fun q hq e => hzb (by rw [hbx, ← e]; exact hq)
        obtain ⟨n, ⟨t, y⟩, vs, y', i⟩ := B
        exact ⟨n, ⟨t, y.at fun o e => keepz _ o (nb _ (.inl rfl)) e⟩, vs, y'.at fun o e => keepz _ o (nb _ (.inr rfl)) e, i⟩
    · exact fun b o n1 n2 e => keepz b o (fun q => by
        rcases hzz with hzz | ⟨y', hy'⟩
        · exact n1 (q.trans hzz)
        · exact n2 y' z hy' q) e
  rcases hk with hl | ⟨hl, hc, hcn⟩
  · refine wpAny_storeName_local hl V.ns (fun h' hn hs => ?_) (by rw [K.kind]; rfl)
    refine core h' _ F.env.locals _ cm R.Lo R.Lnew (.inl rfl) hs hn (fun y c hy => (V.cell y c hy).2.1.sameBut hs (V.cell y c hy).2.2.1) (fun y n _ => by simp [n]) (fun _ _ _ _ => rfl) (.inl ⟨hl, by simp⟩)
  · obtain ⟨c, hc⟩ := Option.isSome_iff_exists.mp hc
    refine wpAny_storeName_cell K.kind hl hc (V.cell x c hc).2.1 fun h' hc' hs => ?_
    refine core h' _ c m (fun y => if y = x then some v else cm y) (V.cell x c hc).1 (hcn c hc) (.inr ⟨x, hc⟩) hs (V.ns.sameBut hs (Ne.symm (V.cell x c hc).2.2.1)) (fun y c' hy => ?_) (fun _ _ _ => rfl) (fun y n _ _ => by simp [n]) (.inr ⟨hl, ⟨c, hc⟩, by simp⟩)
    by_cases q : y = x
    · subst q
      rw [hc] at hy; cases hy
      simpa using hc'
    · rw [if_neg q]
      exact (V.cell y c' hy).2.1.sameBut hs fun e => q (R.capart y x c (e ▸ hy) hc)

/-- what the top's view must say -/
structure ViewOk (p : Program) : Prop where
  recs : recsOf p = ((List.range 56).filterMap itemAt).map fun d => (⟨d.name, d.params, d.body, d.scope, d.pos⟩ : DefRec)
  lits : (wlitsOf p).lookup (Str.ofString "_law_pairs") = some (WData.tuple (pairsL.map fun p => WData.tuple [.int p.1, .int p.2]))
  free : ∀ x ∈ (["len", "abs", "max", "list", "range", "enumerate"] : List Str), x ∉ startupNames ∧ x ∉ looseW p [] ∧ x ∉ (recsOf p).map (·.name) ∧ x ∉ (litsOf p).map (·.1) ∧ x ∉ (clssOf p (looseW p [])).map (·.name)
theorem post_true (args ds : List WData) : PySem.Challenge.rw_pf0047_01.row.claim.post args (.bool true) ds = true := by
  show (WShape.has [] (.bool true) .bool && (WTm.eq .res (.lit (.bool true))).holds [] { args := args, res := some (.bool true), after := ds }) = true
  rw [show WShape.has [] (.bool true) .bool = true from by simp [WShape.has, WShape.arms], Bool.true_and]
  have hv : (WTm.eq .res (.lit (.bool true))).value [] { args := args, res := some (.bool true), after := ds } = some (.bool true) := by
    simp [WTm.value, same]
  unfold WTm.holds
  rw [hv]
noncomputable def isDef : Stmt → Bool
  | .FunctionDef .. => true
  | .ClassDef .. => true
  | .Assign [.Name x _] _ _ => x == Str.ofString "_law_pairs"
  | _ => false
/-- what the head needs of the text -/
noncomputable def viewQ : Program := { theText with main := { theText.main with body := theText.main.body.filter isDef } }
theorem left : LeftO theText viewQ [] (fun s => xlAt viewQ [] s && recOk (RowW.records PySem.Challenge.rw_pf0047_01.row.toRowW) s) (Hook.obs Hook.none) (Hook.val Hook.none) 3566 := by
  intro w
  kernel_rfl
noncomputable def lawD : DefRec := ⟨(itemD 55).name, (itemD 55).params, (itemD 55).body, (itemD 55).scope, (itemD 55).pos⟩
theorem view_ok : ViewOk viewQ := by
  have h1 : recsOf viewQ = ((List.range 56).filterMap itemAt).map fun d => (⟨d.name, d.params, d.body, d.scope, d.pos⟩ : DefRec) := by kernel_rfl
  have h2 : (wlitsOf viewQ).lookup (Str.ofString "_law_pairs") = some (WData.tuple (pairsL.map fun p => WData.tuple [.int p.1, .int p.2])) := by kernel_rfl
  have h3 : ∀ x ∈ (["len", "abs", "max", "list", "range", "enumerate"] : List Str), x ∉ startupNames ∧ x ∉ looseW viewQ [] ∧ x ∉ (((List.range 56).filterMap itemAt).map fun d => d.name) ∧ x ∉ (litsOf viewQ).map (·.1) ∧ x ∉ (clssOf viewQ (looseW viewQ [])).map (·.name) := by decide +kernel
  refine ⟨h1, h2, fun x hx => ?_⟩
  obtain ⟨a, b, c, d, e⟩ := h3 x hx
  refine ⟨a, b, ?_, d, e⟩
  rw [h1, List.map_map]
  exact c
theorem hd0 (walk : WalkO viewQ [] (XL viewQ []) (Hook.says Hook.none) (OpenRow.toRowW PySem.Challenge.rw_pf0047_01.row) lawD [] fun f vs => PySem.call f vs) : PySem.Challenge.rw_pf0047_01.Holds := by
  refine holds_law (by decide +kernel) fun said => ?_
  refine holds_open (q := viewQ) (loose := []) (Xt := fun s => xlAt viewQ [] s && recOk (RowW.records (OpenRow.toRowW PySem.Challenge.rw_pf0047_01.row)) s) (XP := XL viewQ []) (Yf := Hook.obs Hook.none) (Ya := Hook.val Hook.none) (YP := Hook.says Hook.none) (N := 3566) (d := lawD) (kwd := []) left (Hook.of Hook.none) (Hook.keeps Hook.none) (fun s e => xl_of s (Bool.and_eq_true_iff.mp e).1) XL.keeps ?h1 ?h2 ?h3 (fun s e => recFacts_of (Bool.and_eq_true_iff.mp e).2) ?h4 said ?h5 ?h6 ?hw walk
  case h1 => kernel_rfl
  case h2 => kernel_rfl
  case h3 => kernel_rfl
  case h4 => rfl
  case h5 => decide +kernel
  case h6 => exact ⟨rfl, rfl, rfl, rfl, rfl, by decide +kernel⟩
  case hw => w_witness2
/-- what the walk of the law's own frame must bring -/
noncomputable def LawEnd : Prop := ∀ {p prog : Program} {w : World} {mg mb : Str → Option Value} {mean : ExcName → Option Value} {s₁ : Shared} {fa wc : Addr} {l : Addr} {vs : List Value} {ns : List Int} {h₁ : Heap} {tk : Nat} {mm : Str → Option Value}
    (O : ViewOk p) (T : Top p (looseW p []) mean mg mb s₁.heap) (TW : TopW p mg s₁.heap) (hL : s₁.heap.IsList l vs.toArray) (hI : IntsAre vs ns) (hlen : ns.length ≤ 63) (R : Fr s₁.heap s₁.heap.objs.size h₁ mm) (hm : mm "script" = some (.ref l)),
    wpAny (model prog w) (callerA.deeper (envOf (itemD 55).name (itemD 55).scope s₁.heap.objs.size fa (.ref wc))) (execs (itemD 55).body (envOf (itemD 55).name (itemD 55).scope s₁.heap.objs.size fa (.ref wc)))
      (fun f s' => f = .ret (.bool true) ∧ (∀ b o, s₁.heap.get? b = some o → s'.heap.get? b = some o) ∧ ∃ h tk, s' = { s₁ with heap := h, toks := tk }) (fun _ _ => False) { s₁ with heap := h₁, toks := tk }
set_option maxHeartbeats 8000000 in
theorem hd (H : LawEnd) : PySem.Challenge.rw_pf0047_01.Holds := by
  refine hd0 ?_
  intro w s₀ s₁ mg mb G Y fa o pm cd doc dV kV ho hd hcd hD hmg hg args vals as hpre hlay hrd hwl hlo
  refine Ground.open G ?_
  intro T B D TE TW
  clear D
  obtain ⟨_, _, he, B0⟩ := based_of_top T rfl hmg ho hd
  have he' : cd = _ := he
  subst he'
  clear he hmg
  wrow_args hpre hlay hrd hwl hlo
  refine enter_call (codeAny_mono ?_ fun _ _ g => GoodW.toG g)
  w_call any ho hd hcd hD T F
  refine wpAny_mono (H view_ok T TW ‹PySem.Heap.IsList _ _ _› ‹IntsAre _ _› ?hlen ‹Fr _ _ _ _› ?hm) (fun f s' h => ?_) (fun _ _ f => f.elim)
  case hlen => omega
  case hm => rfl
  obtain ⟨rfl, hk, h₂, tk, rfl⟩ := h
  refine ⟨.inl ⟨.bool true, .bool true, [], rfl, fun cls => rfl, .bool true, ?_, fun _ => ⟨List.nodup_nil, fun a h => by cases h⟩⟩, hk, rfl, by assumption⟩
  exact post_true _ _

/-- what an expression's tree gives -/
noncomputable def EPost (F : Fm) (O : Addr → Prop) (s : Shared) (Q : AV → BS → Prop) (v : Value) (s' : Shared) : Prop :=
  ∃ a b, Is F.bx O s'.heap a v ∧ Ext F.bx s s' ∧ BoxIs F.bx s'.heap b ∧ Q a b
noncomputable def TPost (F : Fm) (s : Shared) (Q : Bool → BS → Prop) (v : Bool) (s' : Shared) : Prop :=
  ∃ b, Ext F.bx s s' ∧ BoxIs F.bx s'.heap b ∧ Q v b

noncomputable def AE (F : Fm) (e : Expr) (σ : St) (Q : AV → BS → Prop) : Prop :=
  F.Ok → ∀ O ad s, Rep F σ O ad s → wpAny (model F.C.prog F.C.w) F.A (eval e F.env) (EPost F O s Q) (fun _ _ => False) s
noncomputable def AT (F : Fm) (e : Expr) (σ : St) (Q : Bool → BS → Prop) : Prop :=
  F.Ok → ∀ O ad s, Rep F σ O ad s → wpAny (model F.C.prog F.C.w) F.A (isTrue e F.env (eval e F.env)) (TPost F s Q) (fun _ _ => False) s

/-- a step that keeps all objects -/
noncomputable def PPost (bx : Bx) (O : Addr → Prop) (s : Shared) (Q : AV → Prop) (v : Value) (s' : Shared) : Prop :=
  ∃ a, Is bx O s'.heap a v ∧ (∃ h tk, s' = { s with heap := h, toks := tk }) ∧ (∀ b o, s.heap.get? b = some o → s'.heap.get? b = some o) ∧ Q a

theorem PPost.epost {F : Fm} {O : Addr → Prop} {s₀ s : Shared} {Q : AV → BS → Prop} {b : BS} {v : Value} {s' : Shared} (h : PPost F.bx O s (fun a => Q a b) v s') (x : Ext F.bx s₀ s) (B : BoxIs F.bx s.heap b) :
    EPost F O s₀ Q v s' := by
  obtain ⟨a, i, ⟨h', tk, rfl⟩, k, q⟩ := h
  exact ⟨a, b, i, x.trans ⟨⟨h', tk, rfl⟩, fun b o e _ => k b o e⟩, Ext.box k B, q⟩

theorem AE.mono {F : Fm} {e : Expr} {σ : St} {Q Q' : AV → BS → Prop} (h : AE F e σ Q) (hq : ∀ a b, Q a b → Q' a b) : AE F e σ Q' := fun K O ad s R =>
  wpAny_mono (h K O ad s R) (fun _ _ ⟨a, b, i, x, B, q⟩ => ⟨a, b, i, x, B, hq _ _ q⟩) fun _ _ f => f
theorem AT.mono {F : Fm} {e : Expr} {σ : St} {Q Q' : Bool → BS → Prop} (h : AT F e σ Q) (hq : ∀ a b, Q a b → Q' a b) : AT F e σ Q' := fun K O ad s R =>
  wpAny_mono (h K O ad s R) (fun _ _ ⟨b, x, B, q⟩ => ⟨b, x, B, hq _ _ q⟩) fun _ _ f => f

section
variable {F : Fm} {σ : St} {Q : AV → BS → Prop}

theorem AE_name {x : Str} {pos : Pos} {a : AV} (hx : σ.vars.lookup x = some (.av a)) (h : Q a σ.box) (hd : (x == ("__debug__" : Str)) = false := by decide) : AE F (.Name x pos) σ Q := fun K _ _ s R =>
  wpAny_Name (R.load K hx fun v i => ⟨a, σ.box, i, Ext.refl _ _, R.box, h⟩) hd
theorem AE_int {i : Int} {k : Nat} {pos : Pos} (h : Q (.int i) σ.box) : AE F (.Constant (.int i) k pos) σ Q := fun K O ad s R =>
  wpAny_Constant_int ⟨.int i, σ.box, by simp only [Is]; exact ⟨_, rfl⟩, Ext.toks _ _ _, R.box, h⟩
theorem AE_bool {i : Bool} {k : Nat} {pos : Pos} (h : Q (.bool i) σ.box) : AE F (.Constant (.bool i) k pos) σ Q := fun K O ad s R =>
  wpAny_Constant_bool ⟨.bool i, σ.box, by simp only [Is], Ext.refl _ _, R.box, h⟩
theorem AE_none {k : Nat} {pos : Pos} (h : Q .none σ.box) : AE F (.Constant .none k pos) σ Q := fun K O ad s R =>
  wpAny_Constant_none ⟨.none, σ.box, by simp only [Is], Ext.refl _ _, R.box, h⟩

/-- two in turn -/
theorem seq2 {e₁ e₂ : Expr} {Q' : AV → AV → BS → Prop} (h : AE F e₁ σ fun a b => AE F e₂ { σ with box := b } fun c b' => Q' a c b') {M' : Value → Value → Sem Value} (K : F.Ok) {O ad s} (R : Rep F σ O ad s) {P : Value → Shared → Prop}
    (hm : ∀ a c b v u s', Is F.bx O s'.heap a v → Is F.bx O s'.heap c u → Ext F.bx s s' → BoxIs F.bx s'.heap b → Q' a c b → wpAny (model F.C.prog F.C.w) F.A (M' v u) P (fun _ _ => False) s') :
    wpAny (model F.C.prog F.C.w) F.A (eval e₁ F.env) (fun v s₁ => wpAny (model F.C.prog F.C.w) F.A (eval e₂ F.env) (fun u s₂ => wpAny (model F.C.prog F.C.w) F.A (M' v u) P (fun _ _ => False) s₂) (fun _ _ => False) s₁) (fun _ _ => False) s := by
  refine wpAny_mono (h K O ad s R) (fun v s₁ h₁ => ?_) fun _ _ f => f
  obtain ⟨a, b, i, x, B, h₁⟩ := h₁
  have R₁ := R.ext K x B
  refine wpAny_mono (h₁ K O ad s₁ R₁) (fun u s₂ h₂ => ?_) fun _ _ f => f
  obtain ⟨c, b', j, y, B', q⟩ := h₂
  exact hm a c b' v u s₂ (i.le (y.le (R.wO K)).w) j (x.trans y) B' q

noncomputable def MulOk (x y : Int) : Prop := IntMulOk x y
noncomputable def DivOk (x y : Int) : Prop := Builtin.divisionGoesByPylong x y = false

noncomputable def BinWI (op : Operator) (x y : Int) (Q : AV → Prop) : Prop := match op with
  | .Add => Q (.int (x + y))
  | .Sub => Q (.int (x - y))
  | .Mult => MulOk x y ∧ Q (.int (x * y))
  | .Mod => y ≠ 0 ∧ Q (.int (x.fmod y))
  | .FloorDiv => y ≠ 0 ∧ DivOk x y ∧ Q (.int (x.fdiv y))
  | _ => False
noncomputable def BinWL (op : Operator) (x : List Int) (c : AV) (Q : AV → Prop) : Prop := match c with
  | .ints y => (match op with
    | .Add => x.length + y.length ≤ lid ∧ Q (.ints (x ++ y))
    | _ => False)
  | .int n => (match op with
    | .Mult => n < 2 ^ 62 ∧ -(2 ^ 62) < n ∧ x.length * n.toNat ≤ lid ∧ Q (.ints (List.replicate n.toNat x).flatten)
    | _ => False)
  | _ => False
noncomputable def BinW (op : Operator) (a c : AV) (Q : AV → Prop) : Prop := match a with
  | .int x => (match c with
    | .int y => BinWI op x y Q
    | _ => False)
  | .ints x => BinWL op x c Q
  | _ => False

theorem pInt {bx : Bx} {O : Addr → Prop} {s : Shared} {P : AV → Prop} {n : Int} {t tk : Nat} (h : P (.int n)) : PPost bx O s P (.int n t) { s with toks := tk } :=
  ⟨.int n, by simp only [Is]; exact ⟨_, rfl⟩, ⟨s.heap, tk, rfl⟩, fun _ _ e => e, h⟩
theorem pBool {bx : Bx} {O : Addr → Prop} {s : Shared} {P : AV → Prop} {n : Bool} (h : P (.bool n)) : PPost bx O s P (.bool n) s :=
  ⟨.bool n, by simp only [Is], ⟨s.heap, s.toks, rfl⟩, fun _ _ e => e, h⟩

theorem pNew {bx : Bx} {O : Addr → Prop} {s : Shared} {P : AV → Prop} {vs : List Value} {xs : List Int} {tk : Nat} (hO : ∀ a, O a → ∃ o, s.heap.get? a = some o) (hi : IntsAre vs xs) (hl : xs.length ≤ lid) {its : Array Value} (e : its = vs.toArray) (h : P (.ints xs)) :
    PPost bx O s P (.ref s.heap.objs.size) { s with heap := s.heap.push { cls := .type "list", data := .seq its }, toks := tk } := by
  subst e
  refine ⟨.ints xs, ?_, ⟨_, _, rfl⟩, fun _ _ e => Heap.get?_push_of_some _ e, h⟩
  simp only [Is]
  exact ⟨_, vs, rfl, fun o => let ⟨_, e⟩ := hO _ o; Nat.lt_irrefl _ (Heap.lt_size e), ⟨_, Heap.get?_push_size _ rfl⟩, hi, hl⟩

theorem bin_sound {bx : Bx} {op : Operator} {a c : AV} {P : AV → Prop} {prog : Program} {w : World} {A : Around} {O : Addr → Prop} {s : Shared} {v u : Value} (hO : ∀ a, O a → ∃ o, s.heap.get? a = some o) (h : BinW op a c P) (i : Is bx O s.heap a v) (j : Is bx O s.heap c u) :
    wpAny (model prog w) A (binaryOp op v u) (PPost bx O s P) (fun _ _ => False) s := by
  unfold BinW at h
  split at h
  · split at h
    · simp only [Is] at i j
      obtain ⟨t, rfl⟩ := i; obtain ⟨t', rfl⟩ := j
      unfold BinWI at h
      split at h
      · exact PyProof.Rows.add_int (pInt h)
      · exact PyProof.Rows.sub_int (pInt h)
      · exact PySem.P.mul_int (pInt h.2) h.1
      · exact PyProof.Rows.mod_int h.1 (pInt h.2)
      · exact PyProof.Rows.floordiv_int h.1 (pInt h.2.2) (.inl h.2.1)
      · exact h.elim
    · exact h.elim
  · unfold BinWL at h
    split at h
    · split at h
      · simp only [Is] at i j
        obtain ⟨l, vs, rfl, _, ⟨n, p⟩, hi, _⟩ := i; obtain ⟨l', vs', rfl, _, ⟨n', p'⟩, hi', _⟩ := j
        refine PySem.P.add_list p p' (pNew hO (hi.append hi') (by rw [List.length_append]; exact h.1) (by simp) h.2) ?_
        have e1 := hi.length; have e2 := hi'.length; have e3 := h.1
        simp only [List.size_toArray, sizeLine_eq, lid] at *
        omega
      · exact h.elim
    · split at h
      · rename_i x _ n _
        simp only [Is] at i j
        obtain ⟨l, vs, rfl, _, ⟨k, p⟩, hi, _⟩ := i; obtain ⟨t, rfl⟩ := j
        obtain ⟨h1, h2, h3, h4⟩ := h
        have e1 := hi.length
        have hsz : vs.toArray.size * n.toNat ≤ 2 ^ 24 := by
          simp only [List.size_toArray, e1]; simp only [lid] at h3; omega
        refine wpAny_binaryOp_repeat_ref (T := "list") (U := "int") (by decide) ⟨_, p, rfl⟩ (fun s' => typeIs_int s' n t) noFill_list_mul F.fills_int_mul F.slot_int_rmul repeat_list F.slot_int_index.lookup
          (call_meets F.slot_int_rmul (typeIs_int s n t) F.entry_int_rmul (F.args_int_rmul_2 _ _) (int___rmul___int_list n t l vs.toArray k)
            ⟨p, rfl, ⟨_, p, rfl⟩, call_meets F.slot_list_mul ⟨_, p, rfl⟩ F.entry_list_mul (F.args_list_mul_2 _ _)
              (AutoListH.list___mul___list_int_3 l vs.toArray k n t (by simp [Builtin.List.listFitsIndex]; omega) (by omega) (by simp [Builtin.List.listTooLong, sizeLine] at hsz ⊢; omega))
              ⟨p, pNew hO (PySem.W.KM.ints_rep hi n.toNat) ?_ ?_ h4⟩⟩)
        · simp only [List.length_flatten, List.map_replicate, List.sum_replicate_nat]
          rw [Nat.mul_comm]; exact h3
        · rw [listMul_foldl_if]
      · exact h.elim
    · exact h.elim
  · exact h.elim

theorem AE_bin {l r : Expr} {op : Operator} {pos : Pos} (h : AE F l σ fun a b => AE F r { σ with box := b } fun c b' => BinW op a c fun d => Q d b') : AE F (.BinOp l op r pos) σ Q := fun K O ad s R =>
  wpAny_BinOp (seq2 h (M' := fun v u => binaryOp op v u) K R fun a c b v u s' i j x B q =>
    wpAny_mono (bin_sound (R.ext K x B).dom q i j) (fun _ _ p => p.epost x B) fun _ _ f => f)

noncomputable def UnW (op : UnaryOp) (a : AV) (Q : AV → Prop) : Prop := match op, a with
  | .USub, .int x => Q (.int (-x))
  | .Not, .bool x => Q (.bool (!x))
  | _, _ => False
theorem AE_un {e : Expr} {op : UnaryOp} {pos : Pos} (h : AE F e σ fun a b => UnW op a fun d => Q d b) : AE F (.UnaryOp op e pos) σ Q := fun K O ad s R => by
  refine wpAny_UnaryOp (wpAny_mono (h K O ad s R) (fun v s₁ h₁ => ?_) fun _ _ f => f)
  obtain ⟨a, b, i, x, B, q⟩ := h₁
  unfold UnW at q
  split at q
  · simp only [Is] at i
    obtain ⟨t, rfl⟩ := i
    exact PyProof.Rows.neg_int ((pInt (O := O) q).epost x B)
  · simp only [Is] at i
    subst i
    exact not_of (wpAny_truthy_bool ((pBool (O := O) q).epost x B))
  · exact q.elim

noncomputable def CmpWI (op : CmpOp) (x y : Int) (Q : Bool → Prop) : Prop := match op with
  | .Eq => Q (decide (x = y))
  | .NotEq => Q (!decide (x = y))
  | .Lt => Q (decide (x < y))
  | .LtE => Q (decide (x ≤ y))
  | .Gt => Q (decide (y < x))
  | .GtE => Q (decide (y ≤ x))
  | _ => False
noncomputable def CmpWN (op : CmpOp) (c : AV) (P : Prop) : Prop := match c with
  | .none => (match op with
    | .IsNot => P
    | _ => False)
  | _ => False
noncomputable def CmpWL (op : CmpOp) (x : List Int) (c : AV) (Q : Bool → Prop) : Prop := match c with
  | .ints y => (match op with
    | .Eq => Q (decide (x = y))
    | .NotEq => Q (!decide (x = y))
    | _ => False)
  | d => CmpWN op d (Q true)
noncomputable def CmpWB (op : CmpOp) (x : Bool) (c : AV) (Q : Bool → Prop) : Prop := match c with
  | .bool y => (match op with
    | .Eq => Q (x == y)
    | .NotEq => Q (x != y)
    | _ => False)
  | _ => False
noncomputable def CmpW (op : CmpOp) (a c : AV) (Q : Bool → Prop) : Prop := match a with
  | .int x => (match c with
    | .int y => CmpWI op x y Q
    | _ => False)
  | .ints x => CmpWL op x c Q
  | .bool x => CmpWB op x c Q
  | .none => CmpWN op c (Q false)
  | .tup _ => CmpWN op c (Q true)
  | _ => False
theorem CmpWN.elim {op : CmpOp} {c : AV} {P : Prop} (h : CmpWN op c P) : c = .none ∧ op = .IsNot ∧ P := by
  unfold CmpWN at h
  split at h
  · split at h
    · exact ⟨rfl, rfl, h⟩
    · exact h.elim
  · exact h.elim
theorem room_units {A : Around} {k : Nat} (r : Room A k) : A.units + 64 < cLine := by
  have := r.units
  simp only [cLine]; omega
theorem cmp_sound {bx : Bx} {op : CmpOp} {a c : AV} {P : Bool → Prop} {prog : Program} {w : World} {A : Around} {k : Nat} {O : Addr → Prop} {s : Shared} {v u : Value} (r : Room A k) (h : CmpW op a c P) (i : Is bx O s.heap a v) (j : Is bx O s.heap c u) :
    wpAny (model prog w) A (compareOp op v u) (fun v s' => ∃ c, v = .bool c ∧ s' = s ∧ P c) (fun _ _ => False) s := by
  have hu := room_units r
  unfold CmpW at h
  split at h
  · split at h
    · simp only [Is] at i j
      obtain ⟨t, rfl⟩ := i; obtain ⟨t', rfl⟩ := j
      unfold CmpWI at h
      split at h
      · exact PySem.P.eq_int ⟨_, rfl, rfl, by simpa [Bool.beq_eq_decide_eq] using h⟩
      · refine PySem.P.ne_int ⟨_, rfl, rfl, ?_⟩
        rename_i x _ y _
        have e : (x != y) = !decide (x = y) := by
          by_cases q : x = y <;> simp [q]
        rw [e]; exact h
      · exact PySem.P.lt_int ⟨_, rfl, rfl, h⟩
      · exact PySem.P.le_int ⟨_, rfl, rfl, h⟩
      · exact PySem.P.gt_int ⟨_, rfl, rfl, h⟩
      · exact PySem.P.ge_int ⟨_, rfl, rfl, h⟩
      · exact h.elim
    · exact h.elim
  · simp only [Is] at i
    obtain ⟨a, vs, rfl, _, l, m, _⟩ := i
    unfold CmpWL at h
    split at h
    · simp only [Is] at j
      obtain ⟨a', vs', rfl, _, l', m', _⟩ := j
      split at h
      · exact eq_intsK l.isList m l'.isList m' hu ⟨_, rfl, rfl, h⟩
      · exact ne_intsK l.isList m l'.isList m' hu ⟨_, rfl, rfl, h⟩
      · exact h.elim
    · obtain ⟨rfl, rfl, h⟩ := h.elim
      simp only [Is] at j; subst j
      exact isnot_ref_none ⟨_, rfl, rfl, h⟩
  · simp only [Is] at i
    subst i
    unfold CmpWB at h
    split at h
    · simp only [Is] at j
      subst j
      split at h
      · exact PyProof.Rows.eq_bool ⟨_, rfl, rfl, h⟩
      · exact PyProof.Rows.ne_bool ⟨_, rfl, rfl, h⟩
      · exact h.elim
    · exact h.elim
  · obtain ⟨rfl, rfl, h⟩ := h.elim
    simp only [Is] at i j
    subst i; subst j
    exact isnot_none_none ⟨_, rfl, rfl, h⟩
  · obtain ⟨rfl, rfl, h⟩ := h.elim
    simp only [Is] at i j
    obtain ⟨a, vs, rfl, _, l, m⟩ := i; subst j
    exact isnot_ref_none ⟨_, rfl, rfl, h⟩
  · exact h.elim

theorem AE_cmp {l r : Expr} {op : CmpOp} {pos : Pos} (h : AE F l σ fun a b => AE F r { σ with box := b } fun c b' => CmpW op a c fun d => Q (.bool d) b') (hm : behindInMarks op r = false := by with_unfolding_all rfl) :
    AE F (.Compare l [op] [r] pos) σ Q := fun K O ad s R =>
  wpAny_Compare1 (seq2 h (M' := fun v u => compareOp op v u) K R fun a c b v u s' i j x B q =>
    wpAny_mono (cmp_sound K.room q i j) (fun v s'' p => by obtain ⟨c, rfl, rfl, p⟩ := p; exact (pBool (O := O) p).epost x B) fun _ _ f => f) hm
theorem AT_cmp {l r : Expr} {op : CmpOp} {pos : Pos} {Q : Bool → BS → Prop} (h : AE F l σ fun a b => AE F r { σ with box := b } fun c b' => CmpW op a c fun d => Q d b') (hm : behindInMarks op r = false := by with_unfolding_all rfl) :
    AT F (.Compare l [op] [r] pos) σ Q := fun K O ad s R =>
  wpAny_isTrue_Compare1 (seq2 h (M' := fun v u => compareOp op v u) K R (P := fun c s₃ => wpAny (model F.C.prog F.C.w) F.A (truthy c) (TPost F s Q) (fun _ _ => False) s₃) fun a c b v u s' i j x B q =>
    wpAny_mono (cmp_sound K.room q i j) (fun v s'' p => by obtain ⟨c, rfl, rfl, p⟩ := p; exact wpAny_truthy_bool ⟨b, x, B, p⟩) fun _ _ f => f) hm
end


theorem EPost.trans {F : Fm} {O : Addr → Prop} {s s₁ : Shared} {Q : AV → BS → Prop} (x : Ext F.bx s s₁) {v : Value} {s' : Shared} (h : EPost F O s₁ Q v s') : EPost F O s Q v s' := by
  obtain ⟨a, b, i, y, B, q⟩ := h
  exact ⟨a, b, i, x.trans y, B, q⟩
theorem TPost.trans {F : Fm} {s s₁ : Shared} {Q : Bool → BS → Prop} (x : Ext F.bx s s₁) {v : Bool} {s' : Shared} (h : TPost F s₁ Q v s') : TPost F s Q v s' := by
  obtain ⟨b, y, B, q⟩ := h
  exact ⟨b, x.trans y, B, q⟩

section
variable {F : Fm} {σ : St}

/-! Tests. -/
section
variable {Q : Bool → BS → Prop}
theorem AT_plain {e : Expr} (h : AE F e σ fun a b => ∃ c, a = .bool c ∧ Q c b)
    (he : ∀ whole, isTrue e F.env whole = (do let v ← whole; standAt e.pos; holding [v] (truthy v)) := by intro _; rfl) : AT F e σ Q := fun K O ad s R =>
  isTrue_plain (wpAny_mono (h K O ad s R) (fun v s' h' => by
    obtain ⟨a, b, i, x, B, c, rfl, q⟩ := h'
    simp only [Is] at i
    subst i
    exact wpAny_truthy_bool ⟨b, x, B, q⟩) fun _ _ f => f) (he _)
theorem AT_not {e : Expr} {pos : Pos} (h : AT F e σ fun c b => Q (!c) b) : AT F (.UnaryOp .Not e pos) σ Q := fun K O ad s R => isTrue_not (h K O ad s R)
theorem AT_and_nil {pos : Pos} (h : Q true σ.box) : AT F (.BoolOp .And [] pos) σ Q := fun K O ad s R => isTrue_and_nil ⟨σ.box, Ext.refl _ _, R.box, h⟩
theorem AT_or_nil {pos : Pos} (h : Q false σ.box) : AT F (.BoolOp .Or [] pos) σ Q := fun K O ad s R => isTrue_or_nil ⟨σ.box, Ext.refl _ _, R.box, h⟩
theorem AT_and {e : Expr} {es : List Expr} {pos : Pos} (h : AT F e σ fun c b => if c = true then AT F (.BoolOp .And es pos) { σ with box := b } Q else Q false b) : AT F (.BoolOp .And (e :: es) pos) σ Q := fun K O ad s R => by
  refine isTrue_and (wpAny_mono (h K O ad s R) (fun c s₁ h₁ => ?_) fun _ _ f => f)
  obtain ⟨b, x, B, q⟩ := h₁
  cases c with
  | false => exact ⟨b, x, B, by simpa using q⟩
  | true =>
    simp only [if_true] at q ⊢
    exact wpAny_mono (q K O ad s₁ (R.ext K x B)) (fun _ _ h => h.trans x) fun _ _ f => f
theorem AT_or {e : Expr} {es : List Expr} {pos : Pos} (h : AT F e σ fun c b => if c = true then Q true b else AT F (.BoolOp .Or es pos) { σ with box := b } Q) : AT F (.BoolOp .Or (e :: es) pos) σ Q := fun K O ad s R => by
  refine isTrue_or (wpAny_mono (h K O ad s R) (fun c s₁ h₁ => ?_) fun _ _ f => f)
  obtain ⟨b, x, B, q⟩ := h₁
  cases c with
  | true => exact ⟨b, x, B, by simpa using q⟩
  | false =>
    simp only [Bool.false_eq_true, if_false] at q ⊢
    exact wpAny_mono (q K O ad s₁ (R.ext K x B)) (fun _ _ h => h.trans x) fun _ _ f => f
/-- a chain of two comparisons -/
theorem AT_chain {l r₁ r₂ : Expr} {op₁ op₂ : CmpOp} {pos : Pos}
    (h : AE F l σ fun a b => AE F r₁ { σ with box := b } fun c b₁ => CmpW op₁ a c fun d => if d = true then AE F r₂ { σ with box := b₁ } (fun e b₂ => CmpW op₂ c e fun d => Q d b₂) else Q false b₁)
    (hm : lastMarks [op₁, op₂] [r₁, r₂] = false := by with_unfolding_all rfl) : AT F (.Compare l [op₁, op₂] [r₁, r₂] pos) σ Q := fun K O ad s R => by
  refine isTrue_chain (rs := []) (ops := []) (wpAny_mono (h K O ad s R) (fun v s₁ h₁ => ?_) fun _ _ f => f) hm
  obtain ⟨a, b, i, x, B, h₁⟩ := h₁
  have R₁ := R.ext K x B
  refine test_link (wpAny_mono (h₁ K O ad s₁ R₁) (fun u s₂ h₂ => ?_) fun _ _ f => f)
  obtain ⟨c, b₁, j, y, B₁, q⟩ := h₂
  have R₂ := R₁.ext K y B₁
  refine wpAny_mono (cmp_sound K.room q (i.le (y.le (R.wO K)).w) j) (fun z s₃ h₃ => ?_) fun _ _ f => f
  obtain ⟨d, rfl, rfl, q⟩ := h₃
  refine wpAny_truthy_bool ?_
  cases d with
  | false => exact ⟨b₁, x.trans y, B₁, by simpa using q⟩
  | true =>
    simp only [if_true] at q ⊢
    refine test_last (wpAny_mono (q K O ad s₃ R₂) (fun u₂ s₄ h₄ => ?_) fun _ _ f => f)
    obtain ⟨e, b₂, k, z, B₂, q⟩ := h₄
    refine wpAny_mono (cmp_sound K.room q (j.le (z.le (R.wO K)).w) k) (fun z' s₅ h₅ => ?_) fun _ _ f => f
    obtain ⟨d, rfl, rfl, q⟩ := h₅
    exact wpAny_truthy_bool ⟨b₂, (x.trans y).trans z, B₂, q⟩
end

/-! Values. -/
section
variable {Q : AV → BS → Prop}
theorem AE_ifexp {t e₁ e₂ : Expr} {pos : Pos} (h : AT F t σ fun c b => if c = true then AE F e₁ { σ with box := b } Q else AE F e₂ { σ with box := b } Q) : AE F (.IfExp t e₁ e₂ pos) σ Q := fun K O ad s R => by
  refine wpAny_IfExp (wpAny_mono (h K O ad s R) (fun c s₁ h₁ => ?_) fun _ _ f => f)
  obtain ⟨b, x, B, q⟩ := h₁
  cases c with
  | true =>
    simp only [if_true] at q ⊢
    exact wpAny_mono (q K O ad s₁ (R.ext K x B)) (fun _ _ h => h.trans x) fun _ _ f => f
  | false =>
    simp only [Bool.false_eq_true, if_false] at q ⊢
    exact wpAny_mono (q K O ad s₁ (R.ext K x B)) (fun _ _ h => h.trans x) fun _ _ f => f

/-- «and» as a value -/
theorem AE_and1 {e : Expr} {pos : Pos} (h : AE F e σ Q) : AE F (.BoolOp .And [e] pos) σ Q := fun K O ad s R => by
  show wpAny _ _ (boolOp pos .And [eval e F.env]) _ _ s
  exact h K O ad s R
theorem AE_and {e e' : Expr} {es : List Expr} {pos : Pos} (h : AE F e σ fun a b => ∃ c, a = .bool c ∧ if c = true then AE F (.BoolOp .And (e' :: es) pos) { σ with box := b } Q else Q (.bool false) b) :
    AE F (.BoolOp .And (e :: e' :: es) pos) σ Q := fun K O ad s R => by
  show wpAny _ _ (do
    let v ← eval e F.env
    standAt pos
    let t ← holding [v] (truthy v)
    match BoolOp.And, t with
    | .And, false | .Or, true => pure v
    | _, _ => boolOp pos .And (evalEach (e' :: es) F.env)) _ _ s
  refine wpAny_bind (wpAny_mono (h K O ad s R) (fun v s₁ h₁ => ?_) fun _ _ f => f)
  obtain ⟨a, b, i, x, B, c, rfl, q⟩ := h₁
  simp only [Is] at i
  subst i
  refine wpAny_bind (wpAny_standAt (wpAny_bind (wpAny_holding (wpAny_truthy_bool ?_))))
  cases c with
  | false => exact wpAny_pure ⟨.bool false, b, by simp only [Is], x, B, by simpa using q⟩
  | true =>
    simp only [if_true] at q
    exact wpAny_mono (q K O ad s₁ (R.ext K x B)) (fun _ _ h => h.trans x) fun _ _ f => f

/-- arguments, items of a display -/
noncomputable def AL (F : Fm) (pos : Pos) (es : List Expr) (σ : St) (Q : List AV → BS → Prop) : Prop :=
  F.Ok → ∀ O ad s, Rep F σ O ad s → wpAny (model F.C.prog F.C.w) F.A (spliced (backTo pos (starEach es F.env)))
    (fun vs s' => ∃ as b, IsAll F.bx O s'.heap as vs ∧ Ext F.bx s s' ∧ BoxIs F.bx s'.heap b ∧ Q as b) (fun _ _ => False) s
theorem AL_nil {pos : Pos} {Q : List AV → BS → Prop} (h : Q [] σ.box) : AL F pos [] σ Q := fun K O ad s R =>
  args_nil ⟨[], σ.box, by simp only [IsAll], Ext.refl _ _, R.box, h⟩
theorem AL_cons {e : Expr} {es : List Expr} {pos : Pos} {Q : List AV → BS → Prop} (h : AE F e σ fun a b => AL F pos es { σ with box := b } fun as b' => Q (a :: as) b')
    (he : starEach (e :: es) F.env = (false, eval e F.env) :: starEach es F.env := by rfl) : AL F pos (e :: es) σ Q := fun K O ad s R => by
  refine args_cons (wpAny_mono (h K O ad s R) (fun v s₁ h₁ => ?_) fun _ _ f => f) he
  obtain ⟨a, b, i, x, B, q⟩ := h₁
  refine wpAny_mono (q K O ad s₁ (R.ext K x B)) (fun vs s₂ h₂ => ?_) fun _ _ f => f
  obtain ⟨as, b', j, y, B', q⟩ := h₂
  exact ⟨a :: as, b', by simp only [IsAll]; exact ⟨v, vs, rfl, i.le (y.le (R.wO K)).w, j⟩, x.trans y, B', q⟩

theorem isAll_length {bx : Bx} {O : Addr → Prop} {h : Heap} : ∀ {as : List AV} {vs : List Value}, IsAll bx O h as vs → vs.length = as.length
  | [], _, i => by simp only [IsAll] at i; subst i; rfl
  | _ :: _, _, i => by
    simp only [IsAll] at i
    obtain ⟨v, r, rfl, _, j⟩ := i
    simp [isAll_length j]
theorem isAll_le {bx : Bx} {O O' : Addr → Prop} {h h' : Heap} (L : LeW O h O' h') {as : List AV} {vs : List Value} (i : IsAll bx O h as vs) : IsAll bx O' h' as vs := IsAll.le L as vs i
theorem push_le {O : Addr → Prop} {h : Heap} (o : Obj) : Le O h O (h.push o) := fun _ _ n e => ⟨n, Heap.get?_push_of_some _ e⟩
theorem fresh_not {O : Addr → Prop} {h : Heap} (hO : ∀ a, O a → ∃ o, h.get? a = some o) : ¬ O h.objs.size := fun o => let ⟨_, e⟩ := hO _ o; Nat.lt_irrefl _ (Heap.lt_size e)

theorem AE_tuple {es : List Expr} {k : Nat} {pos : Pos} (h : AL F pos es σ fun as b => as.length ≤ 100 ∧ Q (.tup as) b) : AE F (.Tuple es k pos) σ Q := fun K O ad s R => by
  refine PyProof.Rows.Tuple_ (wpAny_mono (h K O ad s R) (fun vs s₁ h₁ => ?_) fun _ _ f => f)
  obtain ⟨as, b, i, x, B, hl, q⟩ := h₁
  have R₁ := R.ext K x B
  have e1 := isAll_length i
  refine wpAny_newTuple ⟨.tup as, b, ?_, x.trans (Ext.of_keeps fun _ _ e => Heap.get?_push_of_some _ e), Ext.box (fun _ _ e => Heap.get?_push_of_some _ e) B, q⟩ (by rw [sizeLine_eq]; omega)
  simp only [Is]
  exact ⟨_, vs, rfl, fresh_not R₁.dom, ⟨_, Heap.get?_push_size _ rfl, rfl, _, rfl⟩, isAll_le (push_le _).w i⟩

noncomputable def intsOf : List AV → Option (List Int)
  | [] => some []
  | .int n :: r => (intsOf r).map (n :: ·)
  | _ :: _ => none
theorem ints_of {bx : Bx} {O : Addr → Prop} {h : Heap} : ∀ {as : List AV} {vs : List Value} {ns : List Int}, IsAll bx O h as vs → intsOf as = some ns → IntsAre vs ns
  | [], _, _, i, e => by
    simp only [IsAll] at i; subst i
    simp only [intsOf] at e
    cases e; exact .nil
  | a :: as, _, _, i, e => by
    simp only [IsAll] at i
    obtain ⟨v, r, rfl, i, j⟩ := i
    cases a <;> simp only [intsOf] at e <;> try cases e
    simp only [Is] at i
    obtain ⟨t, rfl⟩ := i
    obtain ⟨ns, e', rfl⟩ := Option.map_eq_some_iff.mp e
    exact .cons _ t (ints_of j e')
theorem intsOf_length : ∀ {as : List AV} {ns : List Int}, intsOf as = some ns → ns.length = as.length
  | [], _, e => by simp only [intsOf] at e; cases e; rfl
  | a :: as, _, e => by
    cases a <;> simp only [intsOf] at e <;> try cases e
    obtain ⟨ns, e', rfl⟩ := Option.map_eq_some_iff.mp e
    simp [intsOf_length e']

/-- a display of ints -/
theorem AE_dispI {es : List Expr} {pos : Pos} (h : AL F pos es σ fun as b => ∃ ns, intsOf as = some ns ∧ ns.length ≤ 100 ∧ Q (.ints ns) b) : AE F (.List es pos) σ Q := fun K O ad s R => by
  refine PyProof.Rows.List_ (wpAny_mono (h K O ad s R) (fun vs s₁ h₁ => ?_) fun _ _ f => f)
  obtain ⟨as, b, i, x, B, ns, hn, hl, q⟩ := h₁
  have R₁ := R.ext K x B
  have hi := ints_of i hn
  have e1 := hi.length
  refine wpAny_newList ((pNew (tk := s₁.toks) (P := fun a => Q a b) R₁.dom hi (by simp only [lid]; omega) rfl q).epost x B) (by rw [sizeLine_eq]; omega)
/-- a display of other things -/
theorem AE_dispL {es : List Expr} {pos : Pos} (h : AL F pos es σ fun as b => as.length ≤ 100 ∧ Q (.list as) b) : AE F (.List es pos) σ Q := fun K O ad s R => by
  refine PyProof.Rows.List_ (wpAny_mono (h K O ad s R) (fun vs s₁ h₁ => ?_) fun _ _ f => f)
  obtain ⟨as, b, i, x, B, hl, q⟩ := h₁
  have R₁ := R.ext K x B
  have e1 := isAll_length i
  refine wpAny_newList ⟨.list as, b, ?_, x.trans (Ext.of_keeps fun _ _ e => Heap.get?_push_of_some _ e), Ext.box (fun _ _ e => Heap.get?_push_of_some _ e) B, q⟩ (by rw [sizeLine_eq]; omega)
  simp only [Is]
  exact ⟨_, vs, rfl, fresh_not R₁.dom, ⟨_, Heap.get?_push_size _ rfl⟩, isAll_le (push_le _).w i⟩

/-! Items. -/
noncomputable def SubW (a c : AV) (Q : AV → Prop) : Prop := match a, c with
  | .ints xs, .int k => (if k < 0 then -(xs.length : Int) ≤ k ∧ Q (.int (xs.getD (k + xs.length).toNat 0)) else k < xs.length ∧ Q (.int (xs.getD k.toNat 0)))
  | .tup xs, .int k => ∃ d, 0 ≤ k ∧ xs[k.toNat]? = some d ∧ xs.length ≤ 100 ∧ Q d
  | .list xs, .int k => ∃ d, 0 ≤ k ∧ xs[k.toNat]? = some d ∧ xs.length ≤ 100 ∧ Q d
  | _, _ => False
theorem isAll_get {bx : Bx} {O : Addr → Prop} {h : Heap} : ∀ {as : List AV} {vs : List Value} {i : Nat} {d : AV}, IsAll bx O h as vs → as[i]? = some d → ∃ v, vs[i]? = some v ∧ Is bx O h d v
  | [], _, _, _, _, e => by simp at e
  | a :: as, _, 0, _, j, e => by
    simp only [IsAll] at j
    obtain ⟨v, r, rfl, i, j⟩ := j
    simp at e; subst e
    exact ⟨v, rfl, i⟩
  | a :: as, _, n + 1, _, j, e => by
    simp only [IsAll] at j
    obtain ⟨v, r, rfl, i, j⟩ := j
    simp at e
    obtain ⟨u, e', k⟩ := isAll_get j e
    exact ⟨u, by simpa using e', k⟩

theorem item_of_ints {vs : List Value} {ns : List Int} (hi : IntsAre vs ns) {j : Nat} (hj : j < ns.length) : ∃ t, vs[j]? = some (.int (ns.getD j 0) t) := by
  refine hi.get j _ ?_
  rw [List.getD_eq_getElem?_getD, List.getElem?_eq_getElem hj]
  rfl
theorem get_ints {prog : Program} {w : World} {A : Around} {E : Value → Shared → Prop} {s : Shared} {l : Addr} {vs : List Value} {xs : List Int} {k : Int} {u : Tok} {Q : Value → Shared → Prop} (p : s.heap.IsList l vs.toArray) (hi : IntsAre vs xs) (hl : xs.length ≤ lid)
    (h : if k < 0 then -(xs.length : Int) ≤ k ∧ ∀ t, Q (.int (xs.getD (k + xs.length).toNat 0) t) s else k < xs.length ∧ ∀ t, Q (.int (xs.getD k.toNat 0) t) s) : wpAny (model prog w) A (getItem (.ref l) (.int k u)) Q E s := by
  have e1 := hi.length
  simp only [lid] at hl
  split at h
  · rename_i hk
    obtain ⟨t, ht⟩ := item_of_ints hi (j := (k + xs.length).toNat) (by omega)
    refine wpAny_getItem_list_neg p hk (by simp only [List.size_toArray]; omega) (by omega) (x := .int (xs.getD (k + xs.length).toNat 0) t) ?_ (h.2 t)
    simp only [List.size_toArray, e1]
    simpa using ht
  · rename_i hk
    obtain ⟨t, ht⟩ := item_of_ints hi (j := k.toNat) (by omega)
    exact wpAny_getItem_list p (by omega) (by omega) (x := .int (xs.getD k.toNat 0) t) (by simpa using ht) (h.2 t)

theorem AE_sub {v i : Expr} {pos : Pos} (h : AE F v σ fun a b => AE F i { σ with box := b } fun c b' => SubW a c fun d => Q d b')
    (hs : ∀ o u k, subscripted i false (.ref o) (.int k u) = operate [.ref o, .int k u] (getItem (.ref o) (.int k u)) := by intro _ _ _; with_unfolding_all rfl) : AE F (.Subscript v i pos) σ Q := fun K O ad s R => by
  refine PyProof.Rows.Subscript_ (seq2 h (M' := fun o k => subscriptTail v i o k) K R fun a c b o k s' ia ic x B q => ?_)
  unfold SubW at q
  split at q
  · simp only [Is] at ia ic
    obtain ⟨l, vs, rfl, _, ⟨n, p⟩, hi, hl⟩ := ia; obtain ⟨t, rfl⟩ := ic
    refine tail_any (PySem.IsL.isList (n := n) p).typeIs slot_list_getitem.lookup (get_ints (PySem.IsL.isList (n := n) p) hi hl ?_) (hs _ _ _)
    split at q
    · rename_i hk
      rw [if_pos hk]
      exact ⟨q.1, fun t => (pInt (O := O) (tk := s'.toks) (P := fun d => Q d b) q.2).epost x B⟩
    · rename_i hk
      rw [if_neg hk]
      exact ⟨q.1, fun t => (pInt (O := O) (tk := s'.toks) (P := fun d => Q d b) q.2).epost x B⟩
  · rename_i xs k
    simp only [Is] at ia ic
    obtain ⟨l, vs, rfl, _, p, ia⟩ := ia; obtain ⟨t, rfl⟩ := ic
    obtain ⟨d, h0, hd, hl, q⟩ := q
    obtain ⟨u, hu, iu⟩ := isAll_get ia hd
    have e1 := isAll_length ia
    have hlt := (List.getElem?_eq_some_iff.mp hd).1
    refine tail_any p.typeIs slot_tuple_getitem.lookup (getItem_tuple (j := k.toNat) p (by omega) (by omega) ?_ (by simpa using hu) ⟨d, b, iu, x, B, q⟩) (hs _ _ _)
    simp only [List.size_toArray, e1]
    unfold seqIndex?
    have hk : ¬ k < 0 := by omega
    simp only [hk, if_false]
    rw [if_pos (by simp only [Bool.and_eq_true, decide_eq_true_eq]; omega)]
  · simp only [Is] at ia ic
    obtain ⟨l, vs, rfl, _, ⟨n, p⟩, ia⟩ := ia; obtain ⟨t, rfl⟩ := ic
    obtain ⟨d, h0, hd, hl, q⟩ := q
    obtain ⟨u, hu, iu⟩ := isAll_get ia hd
    have hlt := (List.getElem?_eq_some_iff.mp hd).1
    exact tail_any (PySem.IsL.isList (n := n) p).typeIs slot_list_getitem.lookup (wpAny_getItem_list (PySem.IsL.isList (n := n) p) h0 (by omega) (by simpa using hu) ⟨d, b, iu, x, B, q⟩) (hs _ _ _)
  · exact q.elim

/-- [: e] of a name's list -/
theorem AE_upto {v e : Expr} {p pos : Pos} (h : AE F v σ fun a b => ∃ xs, (a = .ints xs ∨ a = .lst xs) ∧ AE F e { σ with box := b } fun c b' => ∃ k, c = .int k ∧ 0 ≤ k ∧ Q (.ints (xs.take k.toNat)) b')
    (ht : ∀ o r, letTemporaryGo v o r = pure () := by intro _ _; rfl) : AE F (.Subscript v (.Slice none (some e) none p) pos) σ Q := fun K O ad s R => by
  refine wpAny_Subscript_list_slice (wpAny_mono (h K O ad s R) (fun o s₁ h₁ => ?_) fun _ _ f => f) ht
  obtain ⟨a, b, ia, x, B, xs, ha, h₁⟩ := h₁
  have R₁ := R.ext K x B
  rw [evalPart_none, evalPart_some]
  refine wpAny_pure (wpAny_mono (h₁ K O ad s₁ R₁) (fun u s₂ h₂ => ?_) fun _ _ f => f)
  obtain ⟨c, b', ic, y, B', k, rfl, hk, q⟩ := h₂
  have R₂ := R₁.ext K y B'
  have ia := ia.le (y.le (R.wO K)).w
  have lst : ∃ (l : Addr) (vs : List Value), o = .ref l ∧ s₂.heap.IsList l vs.toArray ∧ IntsAre vs xs ∧ xs.length ≤ lid := by
    rcases ha with rfl | rfl <;> simp only [Is] at ia
    · obtain ⟨l, vs, rfl, _, p, i⟩ := ia
      exact ⟨l, vs, rfl, p.isList, i⟩
    · obtain ⟨l, vs, rfl, _, p, i⟩ := ia
      exact ⟨l, vs, rfl, p, i⟩
  obtain ⟨l, vs, rfl, p, hi, hl⟩ := lst
  simp only [Is] at ic
  obtain ⟨t, rfl⟩ := ic
  have e1 := hi.length
  refine ⟨l, vs.toArray, none, some k, rfl, p, by simp only [List.size_toArray, sizeLine_eq]; simp only [lid] at hl; omega, .none, .int k t, ?_⟩
  have im := kmk_upto hi hk
  have hO : ∀ a, O a → ∃ o, (s₂.heap.push { cls := .type "slice", data := .fields #[.none, .int k t, .none] }).get? a = some o := fun a h => let ⟨o, e⟩ := R₂.dom a h; ⟨o, Heap.get?_push_of_some _ e⟩
  have := (pNew (bx := F.bx) (s := { s₂ with heap := s₂.heap.push { cls := .type "slice", data := .fields #[.none, .int k t, .none] } }) (tk := s₂.toks) (P := fun d => Q d b') hO im (by rw [List.length_take]; omega) (Array.toArray_toList).symm q).epost (F := F) (s₀ := s)
    ((x.trans y).trans (Ext.of_keeps fun _ _ e => Heap.get?_push_of_some _ e)) (Ext.box (fun _ _ e => Heap.get?_push_of_some _ e) B')
  simpa using this
end
end
end Mine

namespace Mine
open PySem PySem.W PyProof.Rows PySem.Calls

/-! Statements. -/
inductive AFl where
  | next | brk | cont
  | ret (a : AV)
noncomputable def FlowIs (F : Fm) (O : Addr → Prop) (h : Heap) : Flow → AFl → Prop
  | .next, .next => True
  | .brk, .brk => True
  | .cont, .cont => True
  | .ret v, .ret a => Is F.bx O h a v
  | _, _ => False
noncomputable def SPost (F : Fm) (O : Addr → Prop) (s : Shared) (Q : AFl → St → Prop) (fl : Flow) (s' : Shared) : Prop :=
  ∃ afl σ' O' ad', FlowIs F O' s'.heap fl afl ∧ Rep F σ' O' ad' s' ∧ Le O s.heap O' s'.heap ∧ Q afl σ'
noncomputable def AS (F : Fm) (st : Stmt) (σ : St) (Q : AFl → St → Prop) : Prop :=
  F.Ok → ∀ O ad s, Rep F σ O ad s → wpAny (model F.C.prog F.C.w) F.A (exec st F.env) (SPost F O s Q) (fun _ _ => False) s
noncomputable def ASs (F : Fm) (ss : List Stmt) (σ : St) (Q : AFl → St → Prop) : Prop :=
  F.Ok → ∀ O ad s, Rep F σ O ad s → wpAny (model F.C.prog F.C.w) F.A (execs ss F.env) (SPost F O s Q) (fun _ _ => False) s

theorem SPost.trans {F : Fm} {O O₁ : Addr → Prop} {s s₁ : Shared} {Q : AFl → St → Prop} (x : Le O s.heap O₁ s₁.heap) {fl : Flow} {s' : Shared} (h : SPost F O₁ s₁ Q fl s') : SPost F O s Q fl s' := by
  obtain ⟨a, σ', O', ad', f, R, L, q⟩ := h
  exact ⟨a, σ', O', ad', f, R, x.trans L, q⟩
theorem ASs.mono {F : Fm} {ss : List Stmt} {σ : St} {Q Q' : AFl → St → Prop} (h : ASs F ss σ Q) (hq : ∀ a b, Q a b → Q' a b) : ASs F ss σ Q' := fun K O ad s R =>
  wpAny_mono (h K O ad s R) (fun _ _ ⟨a, σ', O', ad', f, R, L, q⟩ => ⟨a, σ', O', ad', f, R, L, hq _ _ q⟩) fun _ _ f => f

/-! A def's contract. -/
noncomputable def CPost (bx : Bx) (O : Addr → Prop) (s : Shared) (Q : AV → BS → Prop) (v : Value) (s' : Shared) : Prop :=
  ∃ r b', Is bx O s'.heap r v ∧ Ext bx s s' ∧ BoxIs bx s'.heap b' ∧ Q r b'
noncomputable def Spec (C : Cx) (bx : Bx) (f : Str) (k : Nat) (as : List AV) (b : BS) (Q : AV → BS → Prop) : Prop :=
  ∃ (a : Addr) (o : Obj) (fd : FuncData), C.mg f = some (.ref a) ∧ C.hG.get? a = some o ∧ o.data = .func fd ∧
    ∀ A O s vs, Room A k → (∀ b o, C.hG.get? b = some o → s.heap.get? b = some o) → (∀ a, inBox bx a → C.hG.get? a = none) → (∀ a, inBox bx a → O a) → (∀ a, O a → ∃ o, s.heap.get? a = some o) →
      BoxIs bx s.heap b → IsAll bx O s.heap as vs → wpAny (model C.prog C.w) A (call (.ref a) vs) (CPost bx O s Q) (fun _ _ => False) s
theorem Spec.mono {C : Cx} {bx : Bx} {f : Str} {k : Nat} {as : List AV} {b : BS} {Q Q' : AV → BS → Prop} (h : Spec C bx f k as b Q) (hq : ∀ a b, Q a b → Q' a b) : Spec C bx f k as b Q' := by
  obtain ⟨a, o, fd, h1, h2, h3, h⟩ := h
  exact ⟨a, o, fd, h1, h2, h3, fun A O s vs r1 r2 r3 r4 r5 r6 r7 => wpAny_mono (h A O s vs r1 r2 r3 r4 r5 r6 r7) (fun _ _ ⟨r, b', i, x, B, q⟩ => ⟨r, b', i, x, B, hq _ _ q⟩) fun _ _ f => f⟩
theorem Room.le {A : Around} {k k' : Nat} (r : Room A k) (h : k' ≤ k) : Room A k' := ⟨r.handled, by have := r.depth; omega, by have := r.units; omega⟩
theorem Room.deeper {A : Around} {k : Nat} (r : Room A (k + 1)) (env : Env) : Room (A.deeper env) k := ⟨r.handled, by show A.depth + 1 + k < 600; have := r.depth; omega, by show A.units + 3 + 8 * k < 5000; have := r.units; omega⟩


noncomputable def FnAt (C : Cx) (x : Str) : Prop := ∃ (a : Addr) (o : Obj) (fd : FuncData), C.mg x = some (.ref a) ∧ C.hG.get? a = some o ∧ o.data = .func fd
noncomputable def hasFn (x : Str) : Bool := (List.range 60).any fun i => match itemAt i with
  | some d => d.name == x
  | Option.none => false
theorem fnAt_of {C : Cx} (K : C.Ok) {x : Str} (h : hasFn x = true) : FnAt C x := by
  unfold hasFn at h
  obtain ⟨i, _, h⟩ := List.any_eq_true.mp h
  split at h
  · rename_i d e
    obtain ⟨a, o, pm, code, doc, h1, h2, h3, _⟩ := K.fn i d e
    exact ⟨a, o, _, beq_iff_eq.mp h ▸ h1, h2, h3⟩
  · cases h

section
variable {F : Fm} {σ : St} {Q : AV → BS → Prop}
/-- a call of the text's own def -/
theorem AE_call {x : Str} {p pos : Pos} {e : Expr} {es : List Expr} (h : AL F pos (e :: es) σ fun as b => ∃ k, k ≤ F.k ∧ Spec F.C F.bx x k as b Q)
    (hx : F.env.kindOf x = some .globalImplicit := by rfl) (he : starEach (e :: es) F.env = (false, eval e F.env) :: starEach es F.env := by rfl) (hd : (x == ("__debug__" : Str)) = false := by decide)
    (hf : hasFn x = true := by decide +kernel) : AE F (.Call (.Name x p) (e :: es) [] pos) σ Q := fun K O ad s R => by
  obtain ⟨a, o, fd, f1, f2, f3⟩ := fnAt_of K.cx hf
  refine PyProof.Rows.Call_ (Name_function_global K.kind hx (loadGlobal_global (mg := F.C.mg) (by rw [K.glob]; exact K.cx.g.keeps (R.base K)) f1 ?_) hd)
  refine callWith_def (o := o) (fd := fd) f3 (wpAny_mono (h K O ad s R) (fun vs s₁ h₁ => ?_) fun _ _ f => f) he
  obtain ⟨as, b, i, y, B, k, hk, S⟩ := h₁
  have R₁ := R.ext K y B
  refine ⟨R₁.base K _ _ f2, ?_⟩
  obtain ⟨a', o', fd', g1, g2, g3, S⟩ := S
  have ea : a' = a := by rw [f1] at g1; cases g1; rfl
  subst ea
  refine wpAny_mono (S F.A O s₁ vs (K.room.le hk) (R₁.base K) K.wfree (R₁.wO K) R₁.dom B i) (fun v s₂ h₂ => ?_) fun _ _ f => f
  obtain ⟨r, b', j, z, B', q⟩ := h₂
  exact ⟨r, b', j, y.trans z, B', q⟩
end

/-! Entering a def. -/
theorem bindL_nodup {k : Str → Option NameKind} {y : Str} {v : Value} (hk : k y = some .local) : ∀ {binds : List (Str × Value)} {m : Str → Option Value}, (binds.map (·.1)).Nodup → binds.lookup y = some v → bindL k binds m y = some v
  | [], _, _, h => by simp at h
  | (n, u) :: r, m, nd, h => by
    rw [List.map_cons, List.nodup_cons] at nd
    unfold bindL
    rw [lookup_cons_eq] at h
    by_cases q : y = n
    · subst q
      rw [if_pos rfl] at h
      cases h
      rw [if_pos hk]
      have keep : ∀ (r : List (Str × Value)) (m : Str → Option Value), y ∉ r.map (·.1) → bindL k r m y = m y := by
        intro r
        induction r with
        | nil => intro m _; rfl
        | cons p r ih =>
          intro m hm
          obtain ⟨n', u'⟩ := p
          rw [List.map_cons, List.mem_cons, not_or] at hm
          unfold bindL
          rw [ih _ hm.2]
          split
          · simp [hm.1]
          · rfl
      rw [keep r _ nd.1]
      simp
    · rw [if_neg q] at h
      exact bindL_nodup hk nd.2 h
theorem bindC_nodup {k : Str → Option NameKind} {y : Str} {v : Value} (hk : k y ≠ some .local) : ∀ {binds : List (Str × Value)} {m : Str → Option Value}, (binds.map (·.1)).Nodup → binds.lookup y = some v → bindC k binds m y = some v
  | [], _, _, h => by simp at h
  | (n, u) :: r, m, nd, h => by
    rw [List.map_cons, List.nodup_cons] at nd
    unfold bindC
    rw [lookup_cons_eq] at h
    by_cases q : y = n
    · subst q
      rw [if_pos rfl] at h
      cases h
      rw [if_neg hk]
      have keep : ∀ (r : List (Str × Value)) (m : Str → Option Value), y ∉ r.map (·.1) → bindC k r m y = m y := by
        intro r
        induction r with
        | nil => intro m _; rfl
        | cons p r ih =>
          intro m hm
          obtain ⟨n', u'⟩ := p
          rw [List.map_cons, List.mem_cons, not_or] at hm
          unfold bindC
          rw [ih _ hm.2]
          split
          · rfl
          · simp [hm.1]
      rw [keep r _ nd.1]
      simp
    · rw [if_neg q] at h
      exact bindC_nodup hk nd.2 h

theorem isAll_lookup {bx : Bx} {O : Addr → Prop} {h : Heap} {y : Str} {a : Slot} : ∀ {ns : List Str} {as : List AV} {vs : List Value}, IsAll bx O h as vs → (ns.zip (as.map Slot.av)).lookup y = some a → ∃ d v, a = .av d ∧ (ns.zip vs).lookup y = some v ∧ Is bx O h d v
  | [], _, _, _, e => by simp at e
  | n :: ns, [], _, _, e => by simp at e
  | n :: ns, d :: as, _, i, e => by
    simp only [IsAll] at i
    obtain ⟨v, r, rfl, i, j⟩ := i
    simp only [List.map_cons, List.zip_cons_cons] at e ⊢
    rw [lookup_cons_eq] at e ⊢
    by_cases q : y = n
    · rw [if_pos q] at e ⊢
      cases e
      exact ⟨d, v, rfl, rfl, i⟩
    · rw [if_neg q] at e ⊢
      exact isAll_lookup j e

noncomputable abbrev entryFm (C : Cx) (bx : Bx) (A : Around) (k : Nat) (d : DefItem) (L a : Addr) (cd : Value) (O : Addr → Prop) (s : Shared) : Fm :=
  { C, bx, A := A.deeper (envOfC d.name d.scope L a cd), k, env := envOfC d.name d.scope L a cd, h₀ := s.heap.get?, O₀ := O, s₀ := s }

/-- what a def's end hands back -/
noncomputable def Fin (Q : AV → BS → Prop) : AFl → St → Prop
  | .ret a, σ => Q a σ.box
  | .next, σ => Q .none σ.box
  | _, _ => False
theorem Fin_ret {Q : AV → BS → Prop} {a : AV} {σ : St} (h : Q a σ.box) : Fin Q (.ret a) σ := h
theorem Fin_next {Q : AV → BS → Prop} {σ : St} (h : Q .none σ.box) : Fin Q .next σ := h

theorem hb1 {P : List Value → Prop} (f : ∀ u, P [u]) : ∀ vs : List Value, vs.length = 1 → P vs
  | [_], _ => f _
theorem hb2 {P : List Value → Prop} (f : ∀ u v, P [u, v]) : ∀ vs : List Value, vs.length = 2 → P vs
  | [_, _], _ => f _ _
theorem hb3 {P : List Value → Prop} (f : ∀ u v w, P [u, v, w]) : ∀ vs : List Value, vs.length = 3 → P vs
  | [_, _, _], _ => f _ _ _
theorem hb4 {P : List Value → Prop} (f : ∀ u v w x, P [u, v, w, x]) : ∀ vs : List Value, vs.length = 4 → P vs
  | [_, _, _, _], _ => f _ _ _ _
theorem spec_of_body {C : Cx} {bx : Bx} {k : Nat} {as : List AV} {b : BS} {Q : AV → BS → Prop} (i : Nat) (K : C.Ok) (names : List Str) (hi : (itemAt i).isSome = true)
    (hbind : ∀ pm code doc (vs : List Value), vs.length = names.length → bindArgs (docDef (itemD i).name (itemD i).params (itemD i).body (itemD i).scope pm code doc) ⟨vs, []⟩ = pure (names.zip vs))
    (hlen : as.length = names.length) (hnd : names.Nodup)
    (hkinds : (names.all fun y => (itemD i).scope.names.lookup y == some .local || (itemD i).scope.names.lookup y == some .cell) = true)
    (hcn : ((cellsFrom 0 (itemD i).scope.names []).map (·.1)).Nodup)
    (hco : (itemD i).scope.isCoroutine = false) (hgen : (itemD i).scope.isGenerator = false) (hk : (itemD i).scope.kind = .function)
    (h : ∀ A L a cd O s, (∀ (y : Str) (c : Addr), (envOfC (itemD i).name (itemD i).scope L a cd).cells.lookup y = some c → s.heap.get? c = none) → ASs (entryFm C bx A k (itemD i) L a cd O s) (itemD i).body ⟨names.zip (as.map Slot.av), b⟩ (Fin Q)) :
    Spec C bx (itemD i).name (k + 1) as b Q := by
  obtain ⟨d, hd⟩ := Option.isSome_iff_exists.mp hi
  have ed : itemD i = d := by unfold itemD; rw [hd]; rfl
  obtain ⟨a, o, pm, code, doc, f1, f2, f3, f4⟩ := K.fn i d hd
  rw [ed] at hbind hkinds hcn hco hgen hk h ⊢
  refine ⟨a, o, _, f1, f2, f3, fun A O s vs r1 r2 r3 r4 r5 B i => ?_⟩
  have el : vs.length = names.length := (isAll_length i).trans hlen
  refine wpAny_call (codeAny_call_function (by have := r1.depth; simp only [recursionLimit]; omega) (r2 _ _ f2) f3 hco hgen rfl (f4.keeps r2) (BindsTo.of_eq (hbind pm code doc vs el) _ _ _ _ ?_))
  have hkz : ∀ x ∈ names.zip vs, d.scope.names.lookup x.1 = some .local ∨ d.scope.names.lookup x.1 = some .cell := fun x hx => by
    have := List.all_eq_true.mp hkinds x.1 (List.of_mem_zip hx).1
    simpa using this
  refine wpAny_newFunctionEnv_cells hk (kindsX (by
    rw [List.all_eq_true]
    intro x hx
    show (d.scope.names.lookup x.1 == some .local || d.scope.names.lookup x.1 == some .cell) = true
    simpa using hkz x hx) _) fun env he s' x => ?_
  subst he
  refine ⟨(K.nolimit.keeps r2).keeps x.toInCall.keep, codeAny_func ?_⟩
  obtain ⟨h₁, tk, rfl, hk₁⟩ := x.done
  have hns : ((names.zip vs).map (·.1)).Nodup := by
    rw [List.map_fst_zip (by omega)]; exact hnd
  -- the frame
  have OK : (entryFm C bx A k d s.heap.objs.size a code O s).Ok := {
    cx := K, room := r1.deeper _, kind := hk, glob := rfl, bl := rfl, base := r2, wfree := r3, wO := r4, dom₀ := r5 }
  have hno : ∀ c, s.heap.objs.size ≤ c → s.heap.get? c = none := fun c hc => by
    cases e : s.heap.get? c with
    | none => rfl
    | some o => exact absurd (Heap.lt_size e) (Nat.not_lt.mpr hc)
  have hOlt : ∀ c, O c → c < s.heap.objs.size := fun c hc => let ⟨_, e⟩ := r5 c hc; Heap.lt_size e
  have hcell : ∀ (y : Str) (c : Addr), (cellsFrom (s.heap.objs.size + 1) d.scope.names []).lookup y = some c → s.heap.objs.size < c := fun y c hc => x.above y c (mem_of_lookup hc)
  let O' : Addr → Prop := fun c => O c ∨ c = s.heap.objs.size ∨ ∃ y, (cellsFrom (s.heap.objs.size + 1) d.scope.names []).lookup y = some c
  have LE : Le O s.heap O' h₁ := fun c o n e => ⟨fun q => by
    have hl := Heap.lt_size e
    rcases q with q | q | ⟨y, q⟩
    · exact n q
    · exact Nat.lt_irrefl _ (q ▸ hl)
    · exact Nat.lt_irrefl _ (Nat.lt_trans hl (hcell y c q)), hk₁ c o e⟩
  have R : Rep (entryFm C bx A k d s.heap.objs.size a code O s) ⟨names.zip (as.map Slot.av), b⟩ O' (fun _ => 0) { s with heap := h₁, toks := tk } := {
    same := ⟨h₁, tk, rfl⟩
    keep := fun b o e _ => hk₁ b o e
    sub := fun c hc => .inl hc
    dom := fun c hc => by
      rcases hc with hc | rfl | ⟨y, hc⟩
      · obtain ⟨o, e⟩ := r5 c hc
        exact ⟨o, hk₁ c o e⟩
      · obtain ⟨o, _, _, e, _⟩ := x.toInCall.ns
        exact ⟨o, e⟩
      · obtain ⟨o, e, _⟩ := x.cell y c hc
        exact ⟨o, e⟩
    Lo := .inr (.inl rfl)
    Lnew := hno _ (Nat.le_refl _)
    vars := by
      refine ⟨_, _, x.toInCall.ns, fun y c hc => ⟨.inr (.inr ⟨y, hc⟩), x.cell y c hc, Nat.ne_of_gt (hcell y c hc), fun q => ?_⟩, fun y a hy => ?_, fun y a hy ho => ?_⟩
      · exact Nat.lt_irrefl _ (Nat.lt_trans (hOlt c (r4 c q)) (hcell y c hc))
      · obtain ⟨w, v, rfl, hv, j⟩ := isAll_lookup i hy
        refine ⟨v, Is.le LE.w w v j, ?_⟩
        rcases hkz _ (mem_of_lookup hv) with q | q
        · exact .inl ⟨q, bindL_nodup q hns hv⟩
        · refine .inr ⟨q, ?_, bindC_nodup (by show d.scope.names.lookup y ≠ _; rw [q]; decide) hns hv⟩
          have := cellsFrom_some d.scope.names (s.heap.objs.size + 1) [] (x := y) (.inl q)
          exact Option.isSome_iff_exists.mp this
      · obtain ⟨w, v, rfl, _⟩ := isAll_lookup i hy
        exact ho.elim
    capart := fun y z c h1 h2 => name_of_addr x.apart (mem_of_lookup h1) (mem_of_lookup h2)
    box := Ext.box hk₁ B }
  refine wpAny_mono (h A s.heap.objs.size a code O s (fun y c hc => hno c (Nat.le_of_lt (hcell y c hc))) OK O' _ _ R) (fun fl s₂ h₂ => ?_) fun _ _ f => f.elim
  obtain ⟨afl, σ', O₂, ad₂, f, R₂, L₂, q⟩ := h₂
  have LB : LeW O₂ s₂.heap O s₂.heap := fun c o n e _ => ⟨fun q => n (R₂.sub c q), e⟩
  have EX : Ext bx s s₂ := ⟨by
    obtain ⟨h₂, tk₂, e⟩ := R₂.same
    exact ⟨h₂, tk₂, e⟩, R₂.keep⟩
  cases afl with
  | ret r =>
    cases fl <;> simp only [FlowIs] at f
    exact ⟨r, _, Is.le LB r _ f, EX, R₂.box, q⟩
  | next =>
    cases fl <;> simp only [FlowIs] at f
    exact ⟨.none, _, by simp only [Is], EX, R₂.box, q⟩
  | brk => exact q.elim
  | cont => exact q.elim

noncomputable def CellsNew (F : Fm) : Prop := ∀ (y : Str) (c : Addr), F.env.cells.lookup y = some c → F.h₀ c = none
noncomputable def Storable (F : Fm) (x : Str) : Prop := F.env.kindOf x = some .local ∨ (F.env.kindOf x = some .cell ∧ (F.env.cells.lookup x).isSome = true ∧ CellsNew F)


/-- storing into a name, whatever its kind -/
theorem Rep.put {F : Fm} {σ : St} {O : Addr → Prop} {ad : Str → Addr} {s : Shared} {M : Model} {Q : Unit → Shared → Prop} {x : Str} {a : AV} {v : Value} (K : F.Ok) (R : Rep F σ O ad s)
    (hk : Storable F x) (hv : Is F.bx O s.heap a v)
    (h : ∀ s' ad', Rep F ⟨(x, .av a) :: σ.vars, σ.box⟩ O ad' s' → Le O s.heap O s'.heap → Q () s') : wpAny M F.A (storeName F.env x v) Q (fun _ _ => False) s :=
  R.store (a := .av a) (d := 0) K (hk.imp id fun ⟨a, b, c⟩ => ⟨a, b, c x⟩) hv (fun h => h.elim) fun s' R' L _ _ => h s' _ R' L

/-- what is known may be forgotten -/
noncomputable def AllIn : List (Str × Slot) → List (Str × Slot) → Prop
  | [], _ => True
  | p :: r, m => m.lookup p.1 = some p.2 ∧ AllIn r m
theorem AllIn.lookup {m : List (Str × Slot)} {x : Str} {a : Slot} : ∀ {l : List (Str × Slot)}, AllIn l m → l.lookup x = some a → m.lookup x = some a
  | [], _, h => by simp at h
  | (y, b) :: r, ⟨h1, h2⟩, h => by
    rw [lookup_cons_eq] at h
    by_cases q : x = y
    · subst q
      rw [if_pos rfl] at h
      cases h
      exact h1
    · rw [if_neg q] at h
      exact AllIn.lookup h2 h
noncomputable def Weak (τ σ : St) : Prop := τ.box = σ.box ∧ AllIn τ.vars σ.vars
theorem Rep.weak {F : Fm} {σ τ : St} {O : Addr → Prop} {ad : Str → Addr} {s : Shared} (R : Rep F σ O ad s) (h : Weak τ σ) : Rep F τ O ad s := by
  obtain ⟨m, cm, V⟩ := R.vars
  exact ⟨R.same, R.keep, R.sub, R.dom, R.Lo, R.Lnew, ⟨m, cm, V.ns, V.cell, fun x a e => V.var x a (h.2.lookup e), fun x a e o => by
    obtain ⟨h1, h2, h3⟩ := V.own x a (h.2.lookup e) o
    exact ⟨h1, h2, fun y b e' o' n => h3 y b (h.2.lookup e') o' n⟩⟩, R.capart, h.1 ▸ R.box⟩

section
variable {F : Fm} {σ : St} {Q : AFl → St → Prop}

theorem ASs_nil (h : Q .next σ) : ASs F [] σ Q := fun K O ad s R => wpAny_execs_nil ⟨.next, σ, O, ad, trivial, R, Le.refl _ _, h⟩
noncomputable def Seq (F : Fm) (rest : List Stmt) (Q : AFl → St → Prop) : AFl → St → Prop
  | .next, σ => ASs F rest σ Q
  | fl, σ => Q fl σ
theorem Seq_next {F : Fm} {rest : List Stmt} {Q : AFl → St → Prop} {σ : St} (h : ASs F rest σ Q) : Seq F rest Q .next σ := h
theorem Seq_ret {F : Fm} {rest : List Stmt} {Q : AFl → St → Prop} {σ : St} {a : AV} (h : Q (.ret a) σ) : Seq F rest Q (.ret a) σ := h
theorem ASs_cons {st : Stmt} {rest : List Stmt} (h : AS F st σ (Seq F rest Q)) : ASs F (st :: rest) σ Q := fun K O ad s R => by
  refine wpAny_execs_cons (wpAny_mono (h K O ad s R) (fun fl s₁ h₁ => ?_) fun _ _ f => f)
  obtain ⟨afl, σ', O', ad', f, R', L, q⟩ := h₁
  cases afl <;> cases fl <;> simp only [FlowIs] at f
  · exact wpAny_mono (q K O' ad' s₁ R') (fun _ _ h => h.trans L) fun _ _ f => f
  · exact ⟨.brk, σ', O', ad', trivial, R', L, q⟩
  · exact ⟨.cont, σ', O', ad', trivial, R', L, q⟩
  · rename_i a v
    exact ⟨.ret a, σ', O', ad', f, R', L, q⟩
theorem ASs_weak {ss : List Stmt} (τ : St) (hw : Weak τ σ) (h : ASs F ss τ Q) : ASs F ss σ Q := fun K O ad s R => h K O ad s (R.weak hw)
theorem AS_weak {ss : Stmt} (τ : St) (hw : Weak τ σ) (h : AS F ss τ Q) : AS F ss σ Q := fun K O ad s R => h K O ad s (R.weak hw)

theorem AS_assign {x : Str} {p pos : Pos} {e : Expr} (h : AE F e σ fun a b => Q .next ⟨(x, .av a) :: σ.vars, b⟩) (hk : Storable F x)
    (hs : swapsWith e (some (.Name x p)) pos.line F.env = pure false := by rfl) : AS F (.Assign [.Name x p] e pos) σ Q := fun K O ad s R => by
  refine wpAny_Assign_Name (wpAny_mono (h K O ad s R) (fun v s₁ h₁ => ?_) fun _ _ f => f) hs
  obtain ⟨a, b, i, y, B, q⟩ := h₁
  refine (R.ext K y B).put K hk i fun s' ad' R' L => ⟨.next, _, O, ad', trivial, R', (y.le (R.wO K)).trans L, q⟩
theorem AS_return {e : Expr} {pos : Pos} (h : AE F e σ fun a b => Q (.ret a) { σ with box := b }) : AS F (.Return (some e) pos) σ Q := fun K O ad s R => by
  refine wpAny_Return_some (wpAny_mono (h K O ad s R) (fun v s₁ h₁ => ?_) fun _ _ f => f)
  obtain ⟨a, b, i, y, B, q⟩ := h₁
  exact ⟨.ret a, _, O, ad, i, R.ext K y B, y.le (R.wO K), q⟩
theorem AS_if {t : Expr} {b₁ b₂ : List Stmt} {pos : Pos} (h : AT F t σ fun c b => if c = true then ASs F b₁ { σ with box := b } Q else ASs F b₂ { σ with box := b } Q) : AS F (.If t b₁ b₂ pos) σ Q := fun K O ad s R => by
  refine wpAny_If (wpAny_mono (h K O ad s R) (fun c s₁ h₁ => ?_) fun _ _ f => f)
  obtain ⟨b, y, B, q⟩ := h₁
  cases c with
  | true =>
    simp only [if_true] at q ⊢
    exact wpAny_mono (q K O ad s₁ (R.ext K y B)) (fun _ _ h => h.trans (y.le (R.wO K))) fun _ _ f => f
  | false =>
    simp only [Bool.false_eq_true, if_false] at q ⊢
    exact wpAny_mono (q K O ad s₁ (R.ext K y B)) (fun _ _ h => h.trans (y.le (R.wO K))) fun _ _ f => f
/-- an expression's statement whose value is no object -/
theorem AS_expr {e : Expr} {pos : Pos} (h : AE F e σ fun a b => (a = .none ∨ ∃ n, a = .int n) ∧ Q .next { σ with box := b }) (hi : interactive F.env = false := by rfl) (hs : swapsWith e none pos.line F.env = pure false := by rfl) : AS F (.Expr e pos) σ Q := fun K O ad s R => by
  refine wpAny_Expr (wpAny_mono (h K O ad s R) (fun v s₁ h₁ => ?_) fun _ _ f => f) hi hs
  obtain ⟨a, b, i, y, B, ha, q⟩ := h₁
  have fin : SPost F O s Q .next s₁ := ⟨.next, _, O, ad, trivial, R.ext K y B, y.le (R.wO K), q⟩
  rcases ha with rfl | ⟨n, rfl⟩ <;> simp only [Is] at i
  · subst i; exact fin
  · obtain ⟨t, rfl⟩ := i; exact fin

noncomputable def IopW (op : Operator) (a c : AV) (Q : AV → Prop) : Prop := ∃ x y, a = .int x ∧ c = .int y ∧ ((op = .Add ∧ Q (.int (x + y))) ∨ (op = .Sub ∧ Q (.int (x - y))))
theorem AS_aug {x : Str} {p pos : Pos} {op : Operator} {e : Expr} {a : AV} (hx : σ.vars.lookup x = some (.av a)) (h : AE F e σ fun c b => IopW op a c fun d => Q .next ⟨(x, .av d) :: σ.vars, b⟩) (hk : Storable F x) :
    AS F (.AugAssign (.Name x p) op e pos) σ Q := fun K O ad s R => by
  refine wpAny_AugAssign_Name (R.load K hx fun v i => wpAny_mono (h K O ad s R) (fun u s₁ h₁ => ?_) fun _ _ f => f)
  obtain ⟨c, b, j, y, B, q⟩ := h₁
  have R₁ := R.ext K y B
  have i := i.le (y.le (R.wO K)).w
  have fin : ∀ (d : AV) (v : Value) (tk : Nat), Q .next ⟨(x, .av d) :: σ.vars, b⟩ → (∀ h, Is F.bx O h d v) → wpAny (model F.C.prog F.C.w) F.A (storeName F.env x v) (fun _ => SPost F O s Q .next) (fun _ _ => False) { s₁ with toks := tk } := fun d v tk q i => by
    have R₂ := R₁.ext K (Ext.toks F.bx s₁ tk) B
    exact R₂.put K hk (i _) fun s' ad' R' L => ⟨.next, _, O, ad', trivial, R', (y.le (R.wO K)).trans L, q⟩
  obtain ⟨m, n, rfl, rfl, q⟩ := q
  simp only [Is] at i j
  obtain ⟨t, rfl⟩ := i; obtain ⟨t', rfl⟩ := j
  rcases q with ⟨rfl, q⟩ | ⟨rfl, q⟩
  · exact PySem.P.iadd_int (fin _ _ _ q fun _ => by simp only [Is]; exact ⟨_, rfl⟩)
  · exact PySem.P.isub_int (fin _ _ _ q fun _ => by simp only [Is]; exact ⟨_, rfl⟩)

/-- what a while's turn must bring about -/
noncomputable def WhileK {α : Type} (mk : α → St) (P : α → Prop) (μ : α → Nat) (x : α) (Q : AFl → St → Prop) : AFl → St → Prop
  | .next, σ => ∃ y, P y ∧ μ y < μ x ∧ Weak (mk y) σ
  | .cont, σ => ∃ y, P y ∧ μ y < μ x ∧ Weak (mk y) σ
  | .brk, σ => Q .next σ
  | .ret a, σ => Q (.ret a) σ
theorem WhileK_next {α : Type} {mk : α → St} {P : α → Prop} {μ : α → Nat} {x : α} {Q : AFl → St → Prop} {σ : St} (y : α) (h1 : P y) (h2 : μ y < μ x) (h3 : Weak (mk y) σ) : WhileK mk P μ x Q .next σ := ⟨y, h1, h2, h3⟩
theorem WhileK_ret {α : Type} {mk : α → St} {P : α → Prop} {μ : α → Nat} {x : α} {Q : AFl → St → Prop} {σ : St} {a : AV} (h : Q (.ret a) σ) : WhileK mk P μ x Q (.ret a) σ := h
/-- a while, by a word on its states and a measure -/
theorem AS_while {α : Type} (mk : α → St) (P : α → Prop) (μ : α → Nat) (x₀ : α) {t : Expr} {body : List Stmt} {pos : Pos} (h0 : P x₀) (hw : Weak (mk x₀) σ)
    (step : ∀ x, P x → AT F t (mk x) fun c b => if c = true then ASs F body { mk x with box := b } (WhileK mk P μ x Q) else Q .next { mk x with box := b }) : AS F (.While t body [] pos) σ Q := fun K O ad s R => by
  refine wpAny_While (codeAny_whileLoop (fun n s' => ∃ x O' ad', P x ∧ μ x = n ∧ Rep F (mk x) O' ad' s' ∧ Le O s.heap O' s'.heap) ?_ (μ x₀) ⟨x₀, O, ad, h0, rfl, R.weak hw, Le.refl _ _⟩)
  rintro n s₁ ⟨x, O₁, ad₁, hP, rfl, R₁, L₁⟩
  refine wpAny_mono (step x hP K O₁ ad₁ s₁ R₁) (fun c s₂ h₂ => ?_) fun _ _ f => f.elim
  obtain ⟨b, y, B, q⟩ := h₂
  have R₂ := R₁.ext K y B
  have L₂ := L₁.trans (y.le (R₁.wO K))
  cases c with
  | true =>
    simp only [if_true] at q ⊢
    refine wpAny_mono (q K O₁ ad₁ s₂ R₂) (fun fl s₃ h₃ => ?_) fun _ _ f => f.elim
    obtain ⟨afl, σ', O', ad', f, R', L, q⟩ := h₃
    cases afl <;> cases fl <;> simp only [FlowIs] at f
    · obtain ⟨y, hy, hm, hw⟩ := q
      exact ⟨_, hm, y, O', ad', hy, rfl, R'.weak hw, L₂.trans L⟩
    · exact ⟨.next, σ', O', ad', trivial, R', L₂.trans L, q⟩
    · obtain ⟨y, hy, hm, hw⟩ := q
      exact ⟨_, hm, y, O', ad', hy, rfl, R'.weak hw, L₂.trans L⟩
    · exact ⟨.ret _, σ', O', ad', f, R', L₂.trans L, q⟩
  | false =>
    simp only [Bool.false_eq_true, if_false] at q ⊢
    exact wpAny_execs_nil ⟨.next, _, O₁, ad₁, trivial, R₂, L₂, q⟩

/-! Targets. -/
noncomputable def AA (F : Fm) (t : Expr) (a : AV) (σ : St) (Q : St → Prop) : Prop :=
  F.Ok → ∀ O ad s v, Rep F σ O ad s → Is F.bx O s.heap a v → wpAny (model F.C.prog F.C.w) F.A (assign t F.env v) (fun _ s' => ∃ σ' ad', Rep F σ' O ad' s' ∧ Le O s.heap O s'.heap ∧ Q σ') (fun _ _ => False) s
theorem AA_name {x : Str} {p : Pos} {a : AV} {Q : St → Prop} (h : Q ⟨(x, .av a) :: σ.vars, σ.box⟩) (hk : Storable F x) : AA F (.Name x p) a σ Q := fun K O ad s v R i =>
  wpAny_assign_Name (R.put K hk i fun s' ad' R' L => ⟨_, ad', R', L, h⟩)
/-- several in turn -/
noncomputable def AAs (F : Fm) : List Expr → List AV → St → (St → Prop) → Prop
  | [], [], σ, Q => Q σ
  | t :: ts, a :: as, σ, Q => AA F t a σ fun σ' => AAs F ts as σ' Q
  | _, _, _, _ => False
theorem AAs_run {ts : List Expr} : ∀ {as : List AV} {σ : St} {Q : St → Prop}, AAs F ts as σ Q → F.Ok → ∀ {O ad s vs}, Rep F σ O ad s → IsAll F.bx O s.heap as vs →
    wpAny (model F.C.prog F.C.w) F.A (assignInOrder (ts.map fun t => assign t F.env) vs) (fun _ s' => ∃ σ' ad', Rep F σ' O ad' s' ∧ Le O s.heap O s'.heap ∧ Q σ') (fun _ _ => False) s := by
  induction ts with
  | nil =>
    intro as σ Q h K O ad s vs R i
    cases as with
    | nil =>
      simp only [AAs] at h
      unfold assignInOrder
      exact wpAny_pure ⟨σ, ad, R, Le.refl _ _, h⟩
    | cons a as => simp only [AAs] at h
  | cons t ts ih =>
    intro as σ Q h K O ad s vs R i
    cases as with
    | nil => simp only [AAs] at h
    | cons a as =>
      simp only [AAs] at h
      simp only [IsAll] at i
      obtain ⟨v, r, rfl, i, j⟩ := i
      rw [List.map_cons]
      unfold assignInOrder
      refine wpAny_bind (wpAny_holding (wpAny_mono (h K O ad s v R i) (fun _ s₁ h₁ => ?_) fun _ _ f => f))
      obtain ⟨σ', ad', R', L, q⟩ := h₁
      exact wpAny_mono (ih q K R' (isAll_le L.w j)) (fun _ s₂ ⟨σ'', ad'', R'', L', q⟩ => ⟨σ'', ad'', R'', L.trans L', q⟩) fun _ _ f => f

theorem extBut_keeps {h h' : Heap} (x : Heap.ExtBut h.objs.size h h') : ∀ b o, h.get? b = some o → h'.get? b = some o := fun b o e => x b o (Nat.ne_of_lt (Heap.lt_size e)) e

theorem assignEach_plain : ∀ (ts : List Expr), (∀ t ∈ ts, ∀ e p, t ≠ .Starred e p) → assignEach ts F.env = ts.map fun t => (false, assign t F.env)
  | [], _ => by simp [assignEach]
  | t :: ts, h => by
    have h1 := h t (.head _)
    have h2 := assignEach_plain ts fun u hu => h u (.tail _ hu)
    unfold assignEach
    split
    · rename_i e
      cases e
    · rename_i e
      cases e
      exact absurd rfl (h1 _ _)
    · rename_i e
      cases e
      rw [h2]; rfl

theorem AA_tuple {ts : List Expr} {k : Nat} {p : Pos} {as : List AV} {Q : St → Prop} (h : AAs F ts as σ Q) (hn : as.length = ts.length)
    (he : assignEach ts F.env = ts.map fun t => (false, assign t F.env) := by rfl) : AA F (.Tuple ts k p) (.tup as) σ Q := fun K O ad s v R i => by
  simp only [Is] at i
  obtain ⟨l, vs, rfl, nO, ht, i⟩ := i
  have e1 := isAll_length i
  show wpAny _ _ (do standAt p; unpack (.ref l) (assignEach ts F.env)) _ _ s
  refine wpAny_bind (wpAny_standAt ?_)
  unfold unpack
  rw [he]
  have hno : ((ts.map fun t => (false, assign t F.env)).findIdx? (·.1)) = none := by
    rw [List.findIdx?_eq_none_iff]
    intro x hx
    obtain ⟨t, _, rfl⟩ := List.mem_map.mp hx
    rfl
  rw [hno, List.map_map, List.length_map, show ts.length = vs.toArray.size by rw [List.size_toArray]; omega]
  refine wpAny_bind (wpAny_holding (wpAny_unpackItems_tuple K.room.handled ht fun h' x => ?_))
  have kp := extBut_keeps x
  have R' := R.ext K (s' := { s with heap := h' }) ⟨⟨h', s.toks, rfl⟩, fun b o e _ => kp b o e⟩ (Ext.box kp R.box)
  have L : Le O s.heap O h' := fun a o n e => ⟨n, kp a o e⟩
  exact wpAny_mono (AAs_run h K R' (isAll_le L.w i)) (fun _ s₂ ⟨σ'', ad'', R'', L', q⟩ => ⟨σ'', ad'', R'', L.trans L', q⟩) fun _ _ f => f

/-- a tuple unpacked, in the order written -/
theorem AS_unpack {ts : List Expr} {k : Nat} {p pos : Pos} {e : Expr} (h : AE F e σ fun a b => AA F (.Tuple ts k p) a { σ with box := b } fun σ' => Q .next σ')
    (hs : swapsWithSole [.Tuple ts k p] e pos.line F.env = pure false := by rfl)
    (hw : swappedStores [.Tuple ts k p] e F.env = pure none := by rfl) : AS F (.Assign [.Tuple ts k p] e pos) σ Q := fun K O ad s R => by
  refine PyProof.Rows.Assign_Tuple (wpAny_mono (h K O ad s R) (fun v s₁ h₁ => ?_) fun _ _ f => f) hs hw
  obtain ⟨a, b, i, y, B, q⟩ := h₁
  exact wpAny_mono (q K O ad s₁ v (R.ext K y B) i) (fun _ s₂ ⟨σ', ad', R', L, q⟩ => ⟨.next, σ', O, ad', trivial, R', (y.le (R.wO K)).trans L, q⟩) fun _ _ f => f
/-- two or three names, stored from behind -/
noncomputable def putAll : List Str → List AV → St → (St → Prop) → (Str → Prop) → Prop
  | [], [], σ, Q, _ => Q σ
  | x :: xs, a :: as, σ, Q, S => S x ∧ putAll xs as ⟨(x, .av a) :: σ.vars, σ.box⟩ Q S
  | _, _, _, _, _ => False
theorem putAll_run {xs : List Str} : ∀ {as : List AV} {σ : St} {Q : St → Prop}, putAll xs as σ Q (Storable F) → F.Ok → ∀ {O ad s vs}, Rep F σ O ad s → IsAll F.bx O s.heap as vs →
    wpAny (model F.C.prog F.C.w) F.A (assignInOrder (xs.map fun n => bindName F.env n) vs) (fun _ s' => ∃ σ' ad', Rep F σ' O ad' s' ∧ Le O s.heap O s'.heap ∧ Q σ') (fun _ _ => False) s := by
  induction xs with
  | nil =>
    intro as σ Q h K O ad s vs R i
    cases as with
    | nil =>
      simp only [putAll] at h
      unfold assignInOrder
      exact wpAny_pure ⟨σ, ad, R, Le.refl _ _, h⟩
    | cons a as => simp only [putAll] at h
  | cons x xs ih =>
    intro as σ Q h K O ad s vs R i
    cases as with
    | nil => simp only [putAll] at h
    | cons a as =>
      simp only [putAll] at h
      simp only [IsAll] at i
      obtain ⟨v, r, rfl, i, j⟩ := i
      rw [List.map_cons]
      unfold assignInOrder
      refine wpAny_bind (wpAny_holding (wpAny_bindName (R.put K h.1 i fun s₁ ad' R' L => ?_)))
      exact wpAny_mono (ih h.2 K R' (isAll_le L.w j)) (fun _ s₂ ⟨σ'', ad'', R'', L', q⟩ => ⟨σ'', ad'', R'', L.trans L', q⟩) fun _ _ f => f
theorem isAll_reverse {bx : Bx} {O : Addr → Prop} {h : Heap} : ∀ {as : List AV} {vs : List Value}, IsAll bx O h as vs → IsAll bx O h as.reverse vs.reverse := by
  have app : ∀ {as bs : List AV} {vs ws : List Value}, IsAll bx O h as vs → IsAll bx O h bs ws → IsAll bx O h (as ++ bs) (vs ++ ws) := by
    intro as
    induction as with
    | nil => intro bs vs ws i j; simp only [IsAll] at i; subst i; exact j
    | cons a as ih =>
      intro bs vs ws i j
      simp only [IsAll] at i
      obtain ⟨v, r, rfl, i, i'⟩ := i
      simp only [List.cons_append, IsAll]
      exact ⟨v, _, rfl, i, ih i' j⟩
  intro as
  induction as with
  | nil => intro vs i; simp only [IsAll] at i; subst i; simp [IsAll]
  | cons a as ih =>
    intro vs i
    simp only [IsAll] at i
    obtain ⟨v, r, rfl, i, j⟩ := i
    rw [List.reverse_cons, List.reverse_cons]
    exact app (ih j) (by simp only [IsAll]; exact ⟨v, [], rfl, i, rfl⟩)
theorem AS_unpackS {ts : List Expr} {k : Nat} {p pos : Pos} {e : Expr} (names : List Str) (h : AE F e σ fun a b => ∃ as, a = .tup as ∧ as.length = names.length ∧ putAll names.reverse as.reverse { σ with box := b } (fun σ' => Q .next σ') (Storable F))
    (hw : swappedStores [.Tuple ts k p] e F.env = pure (some names)) (hs : swapsWithSole [.Tuple ts k p] e pos.line F.env = pure false := by rfl) : AS F (.Assign [.Tuple ts k p] e pos) σ Q := fun K O ad s R => by
  refine PyProof.Rows.Assign_Tuple_swapped (wpAny_mono (h K O ad s R) (fun v s₁ h₁ => ?_) fun _ _ f => f) hs hw
  obtain ⟨a, b, i, y, B, as, rfl, hl, q⟩ := h₁
  have R₁ := R.ext K y B
  simp only [Is] at i
  obtain ⟨l, vs, rfl, nO, ht, i⟩ := i
  have e1 := isAll_length i
  rw [show names.length = vs.toArray.size by rw [List.size_toArray]; omega]
  refine wpAny_unpackItems_tuple K.room.handled ht fun h' x => ?_
  have kp := extBut_keeps x
  have R' := R₁.ext K (s' := { s₁ with heap := h' }) ⟨⟨h', s₁.toks, rfl⟩, fun b o e _ => kp b o e⟩ (Ext.box kp R₁.box)
  have L : Le O s₁.heap O h' := fun a o n e => ⟨n, kp a o e⟩
  refine wpAny_mono (putAll_run q K R' (isAll_reverse (isAll_le L.w i))) (fun _ s₂ ⟨σ', ad', R', L', q⟩ => ⟨.next, σ', O, ad', trivial, R', ((y.le (R.wO K)).trans L).trans L', q⟩) fun _ _ f => f
end

section
variable {F : Fm} {σ : St} {Q : AV → BS → Prop}

/-- a call of a builtin function by its name -/
theorem AE_blt {x : Str} {id : String} {p pos : Pos} {e : Expr} {es : List Expr}
    (h : AL F pos (e :: es) σ fun as b => ∀ O s vs, (∀ a, O a → ∃ o, s.heap.get? a = some o) → IsAll F.bx O s.heap as vs → wpAny (model F.C.prog F.C.w) F.A (call (.builtin id) vs) (PPost F.bx O s fun a => Q a b) (fun _ _ => False) s)
    (room : ∀ K : F.Ok, F.C.mg x = none) (hb : bootBuiltins x = some (.builtin id)) (hn : x ≠ "__name__")
    (hx : F.env.kindOf x = some .globalImplicit) (he : starEach (e :: es) F.env = (false, eval e F.env) :: starEach es F.env) (hp : (backTo pos (starEach (e :: es) F.env)).any (·.1) = false) (hd : (x == ("__debug__" : Str)) = false) :
    AE F (.Call (.Name x p) (e :: es) [] pos) σ Q := fun K O ad s R => by
  refine PyProof.Rows.Call_ (Name_function_global K.kind hx (loadGlobal_builtin (mg := F.C.mg) (mb := F.C.mb) (by rw [K.glob]; exact K.cx.g.keeps (R.base K)) (room K) (by rw [K.bl]; exact K.cx.b.keeps (R.base K)) ((K.cx.builtins x hn).trans hb) ?_) hd)
  refine callWith_builtin hp ?_
  have h' := h K O ad s R
  rw [he] at h' ⊢
  refine evalArgs_plain (wpAny_mono h' (fun vs s₁ h₁ => ?_) fun _ _ f => f)
  obtain ⟨as, b, i, y, B, q⟩ := h₁
  exact wpAny_mono (q O s₁ vs (R.ext K y B).dom i) (fun _ _ h => h.epost y B) fun _ _ f => f
/-- a call of a builtin type by its name -/
theorem AE_typ {x : Str} {id : String} {p pos : Pos} {e : Expr} {es : List Expr}
    (h : AL F pos (e :: es) σ fun as b => ∀ O s vs, (∀ a, O a → ∃ o, s.heap.get? a = some o) → IsAll F.bx O s.heap as vs → wpAny (model F.C.prog F.C.w) F.A (call (.type id) vs) (PPost F.bx O s fun a => Q a b) (fun _ _ => False) s)
    (room : ∀ K : F.Ok, F.C.mg x = none) (hb : bootBuiltins x = some (.type id)) (hn : x ≠ "__name__")
    (hx : F.env.kindOf x = some .globalImplicit) (he : starEach (e :: es) F.env = (false, eval e F.env) :: starEach es F.env) (hp : (backTo pos (starEach (e :: es) F.env)).any (·.1) = false) (hd : (x == ("__debug__" : Str)) = false) :
    AE F (.Call (.Name x p) (e :: es) [] pos) σ Q := fun K O ad s R => by
  refine PyProof.Rows.Call_ (Name_function_global K.kind hx (loadGlobal_builtin (mg := F.C.mg) (mb := F.C.mb) (by rw [K.glob]; exact K.cx.g.keeps (R.base K)) (room K) (by rw [K.bl]; exact K.cx.b.keeps (R.base K)) ((K.cx.builtins x hn).trans hb) ?_) hd)
  refine PyProof.Rows.callWith_type hp ?_
  have h' := h K O ad s R
  rw [he] at h' ⊢
  refine evalArgs_plain (wpAny_mono h' (fun vs s₁ h₁ => ?_) fun _ _ f => f)
  obtain ⟨as, b, i, y, B, q⟩ := h₁
  exact wpAny_mono (q O s₁ vs (R.ext K y B).dom i) (fun _ _ h => h.epost y B) fun _ _ f => f

theorem isAll_one {bx : Bx} {O : Addr → Prop} {h : Heap} {a : AV} {vs : List Value} (i : IsAll bx O h [a] vs) : ∃ v, vs = [v] ∧ Is bx O h a v := by
  simp only [IsAll] at i
  obtain ⟨v, r, rfl, i, rfl⟩ := i
  exact ⟨v, rfl, i⟩
theorem isAll_two {bx : Bx} {O : Addr → Prop} {h : Heap} {a b : AV} {vs : List Value} (i : IsAll bx O h [a, b] vs) : ∃ v u, vs = [v, u] ∧ Is bx O h a v ∧ Is bx O h b u := by
  simp only [IsAll] at i
  obtain ⟨v, r, rfl, i, u, r', rfl, j, rfl⟩ := i
  exact ⟨v, u, rfl, i, j⟩

theorem AE_abs {p pos : Pos} {e : Expr} (h : AE F e σ fun a b => ∃ n, a = .int n ∧ Q (.int (if n < 0 then -n else n)) b)
    (hx : F.env.kindOf "abs" = some .globalImplicit := by rfl) (he : starEach [e] F.env = (false, eval e F.env) :: starEach [] F.env := by rfl) : AE F (.Call (.Name "abs" p) [e] [] pos) σ Q := by
  refine AE_blt (id := "abs") (AL_cons (h.mono fun a b h => AL_nil ?_) he) (fun K => K.cx.nob _ (by decide)) (by decide +kernel) (by decide) hx he (by rw [he]; rfl) (by decide)
  obtain ⟨n, rfl, q⟩ := h
  intro O s vs hO i0
  obtain ⟨v, rfl, i⟩ := isAll_one i0
  simp only [Is] at i
  obtain ⟨t, rfl⟩ := i
  exact PyProof.Rows.call_abs_int fun u tk => pInt q
theorem AE_len {p pos : Pos} {e : Expr} (h : AE F e σ fun a b => ∃ xs, (a = .ints xs) ∧ Q (.int xs.length) b)
    (hx : F.env.kindOf "len" = some .globalImplicit := by rfl) (he : starEach [e] F.env = (false, eval e F.env) :: starEach [] F.env := by rfl) : AE F (.Call (.Name "len" p) [e] [] pos) σ Q := by
  refine AE_blt (id := "len") (AL_cons (h.mono fun a b h => AL_nil ?_) he) (fun K => K.cx.nob _ (by decide)) (by decide +kernel) (by decide) hx he (by rw [he]; rfl) (by decide)
  obtain ⟨n, rfl, q⟩ := h
  intro O s vs hO i0
  obtain ⟨v, rfl, i⟩ := isAll_one i0
  simp only [Is] at i
  obtain ⟨l, vs, rfl, _, p, i, hl⟩ := i
  have e1 := i.length
  simp only [lid] at hl
  refine call_len_list p.isList (by simp only [List.size_toArray]; omega) ?_
  simp only [List.size_toArray, e1]
  exact pInt (tk := s.toks + 1 + 1) q
theorem AE_max {p pos : Pos} {e₁ e₂ : Expr} (h : AE F e₁ σ fun a b => AE F e₂ { σ with box := b } fun c b' => ∃ m n, a = .int m ∧ c = .int n ∧ Q (.int (if n > m then n else m)) b')
    (hx : F.env.kindOf "max" = some .globalImplicit := by rfl) (he : starEach [e₁, e₂] F.env = (false, eval e₁ F.env) :: starEach [e₂] F.env := by rfl) (he' : starEach [e₂] F.env = (false, eval e₂ F.env) :: starEach [] F.env := by rfl) :
    AE F (.Call (.Name "max" p) [e₁, e₂] [] pos) σ Q := fun K => by
  refine AE_blt (id := "max") (AL_cons (h.mono fun a b h => AL_cons (h.mono fun c b' h => AL_nil ?_) he') he) (fun K => K.cx.nob _ (by decide)) (by decide +kernel) (by decide) hx he (by rw [he, he']; rfl) (by decide) K
  obtain ⟨m, n, rfl, rfl, q⟩ := h
  intro O s vs hO i0
  obtain ⟨v, u, rfl, i, j⟩ := isAll_two i0
  simp only [Is] at i j
  obtain ⟨t, rfl⟩ := i; obtain ⟨t', rfl⟩ := j
  refine max_two_ints K.room.handled fun h' tk kp => ?_
  have fin : ∀ (d : Int) (t : Tok), d = (if n > m then n else m) → PPost F.bx O s (fun a => Q a b') (.int d t) { s with heap := h', toks := tk } := fun d t e =>
    ⟨.int d, by simp only [Is]; exact ⟨_, rfl⟩, ⟨h', tk, rfl⟩, kp, by rw [e]; exact q⟩
  split
  · rename_i c; exact fin _ _ (by rw [if_pos c])
  · rename_i c; exact fin _ _ (by rw [if_neg c])
/-- list(x) of a list of ints -/
theorem AE_listcall {p pos : Pos} {e : Expr} (h : AE F e σ fun a b => ∃ xs, (a = .ints xs) ∧ Q (.ints xs) b)
    (hx : F.env.kindOf "list" = some .globalImplicit := by rfl) (he : starEach [e] F.env = (false, eval e F.env) :: starEach [] F.env := by rfl) : AE F (.Call (.Name "list" p) [e] [] pos) σ Q := by
  refine AE_typ (id := "list") (AL_cons (h.mono fun a b h => AL_nil ?_) he) (fun K => K.cx.nob _ (by decide)) (by decide +kernel) (by decide) hx he (by rw [he]; rfl) (by decide)
  obtain ⟨n, rfl, q⟩ := h
  intro O s vs hO i0
  obtain ⟨v, rfl, i⟩ := isAll_one i0
  simp only [Is] at i
  obtain ⟨l, vs, rfl, _, ⟨k, p⟩, i, hl⟩ := i
  have e1 := i.length
  refine call_list_seq (hsz := by simp only [List.size_toArray, sizeLine_eq]; simp only [lid] at hl; omega) l (.inl rfl) p rfl rfl fun h' c' kp hD => ?_
  refine ⟨.ints n, ?_, ⟨h', s.toks, rfl⟩, kp, q⟩
  simp only [Is]
  exact ⟨_, vs, rfl, fresh_not hO, ⟨c', hD⟩, i, hl⟩
end

theorem LeW.trans {O h O' h' O'' h''} (x : LeW O h O' h') (y : LeW O' h' O'' h'') : LeW O h O'' h'' := fun a o n e c => y a o (x a o n e c).1 (x a o n e c).2 c

/-- a walk over items that are known -/
structure IterAt (prog : Program) (w : World) (A : Around) (target : Expr) (bx : Bx) (I : Addr) (fp wr : List Addr) (items : List AV) (O₀ : Addr → Prop) (h₀ : Heap) (St : Nat → Heap → Prop) : Prop where
  st : St 0 h₀
  sub : ∀ b ∈ wr, b ∈ fp
  off : ∀ b ∈ fp, ¬ O₀ b
  live : ∀ i h, St i h → ∀ b ∈ fp, ∃ o, h.get? b = some o
  frame : ∀ i h h', St i h → (∀ b ∈ fp, ∀ o, h.get? b = some o → h'.get? b = some o) → St i h'
  cls : ∀ i h, St i h → ∀ b ∈ wr, ∀ o, h.get? b = some o → ¬ seqCls o
  item : ∀ (i : Nat) (a : AV) (s : Shared) (O : Addr → Prop) (Q : Value → Shared → Prop), items[i]? = some a → St i s.heap → LeW O₀ h₀ O s.heap → (∀ a, O a → ∃ o, s.heap.get? a = some o) →
    (∀ v h' tk, Is bx O h' a v → St (i + 1) h' → (∀ b o, b ∉ wr → s.heap.get? b = some o → h'.get? b = some o) → Q v { s with heap := h', toks := tk }) →
    wpAny (model prog w) A (pyNext (.ref I)) (fun r s₁ => ∃ v, r = some v ∧ wpAny (model prog w) A (letOwnedTupleGo target (.ref I) v) (fun _ s₂ => Q v s₂) (fun _ _ => False) s₁) (fun _ _ => False) s
  done : ∀ (s : Shared) (Q : Shared → Prop), St items.length s.heap → (∀ h' tk, (∀ b o, b ∉ wr → s.heap.get? b = some o → h'.get? b = some o) → Q { s with heap := h', toks := tk }) →
    wpAny (model prog w) A (pyNext (.ref I)) (fun r s₁ => r = none ∧ Q s₁) (fun _ _ => False) s
  self : ∀ (i : Nat) (s : Shared) (Q : Value → Shared → Prop), St i s.heap → Q (.ref I) s → wpAny (model prog w) A (pyIter (.ref I)) Q (fun _ _ => False) s

theorem not_seq_of {h : Heap} {b : Addr} (x : ∃ o vs, h.get? b = some o ∧ o.data = .fields vs) : ∀ o, h.get? b = some o → ¬ seqCls o := by
  intro o e q
  obtain ⟨o', vs, e', hc⟩ := x
  rw [e] at e'; cases e'
  obtain ⟨xs, n, q⟩ := q
  rw [hc] at q; cases q

section
variable {prog : Program} {w : World} {A : Around} {target : Expr} {bx : Bx} {O₀ : Addr → Prop} {h : Heap}

/-- over a list -/
theorem IterAt.list (hh : A.handled = none) {l : Addr} {vs : List Value} {items : List AV} (hO : ∀ a, O₀ a → ∃ o, h.get? a = some o) (nl : ¬ O₀ l) (hl : h.IsList l vs.toArray) (hi : IsAll bx O₀ h items vs) :
    IterAt prog w A target bx h.objs.size [h.objs.size, l] [h.objs.size] items O₀ (h.push { cls := .type "list_iterator", data := .fields #[.ref l, .int 0 0] }) (fun i h' => h'.IsListIter h.objs.size l i ∧ h'.IsList l vs.toArray) := by
  have hlt : l < h.objs.size := let ⟨_, e, _⟩ := hl; Heap.lt_size e
  have W := Walks.list (prog := prog) (w := w) hh h.objs.size l (Nat.ne_of_lt hlt) vs.toArray
  have e1 := isAll_length hi
  refine ⟨⟨⟨_, Heap.get?_push_size _ rfl, rfl, rfl⟩, hl.push _⟩, W.sub, fun b hb => ?_, fun i h' st b hb => ?_, W.frame, fun i h' st b hb => ?_, fun i a s O Q ha st L hO' hQ => ?_, fun s Q st hQ => ?_, fun i s Q st q => W.self i s Q _ st q⟩
  · rcases List.mem_cons.mp hb with rfl | hb
    · exact fresh_not hO
    · cases List.mem_singleton.mp hb; exact nl
  · rcases List.mem_cons.mp hb with rfl | hb
    · obtain ⟨o, e, _⟩ := st.1; exact ⟨o, e⟩
    · cases List.mem_singleton.mp hb
      obtain ⟨o, e, _⟩ := st.2; exact ⟨o, e⟩
  · cases List.mem_singleton.mp hb
    obtain ⟨o, e, _, c⟩ := st.1
    exact not_seq_of ⟨o, _, e, c⟩
  · have hlt' : i < vs.toArray.size := by
      have := (List.getElem?_eq_some_iff.mp ha).1
      simp only [List.size_toArray]; omega
    have ia := isAll_le (LeW.trans (push_le _).w L) hi
    refine W.item i s _ _ hlt' st fun v h' tk hv st' hk => ⟨v, rfl, letGo_listiter st'.1 (hQ v h' tk ?_ st' hk)⟩
    obtain ⟨u, hu, iu⟩ := isAll_get ia ha
    have : v = u := by
      have hv' : vs[i]? = some v := by simpa using hv
      rw [hu] at hv'; cases hv'; rfl
    subst this
    refine Is.le (fun b o n e c => ⟨n, hk b o (fun q => ?_) e⟩) a v iu
    cases List.mem_singleton.mp q
    obtain ⟨o', e', _, c'⟩ := st.1
    exact not_seq_of ⟨o', _, e', c'⟩ o e c
  · refine W.done s _ _ (by simpa [e1] using st) fun h' tk hk => ⟨rfl, hQ h' tk hk⟩

/-- over a tuple -/
theorem IterAt.tuple (hh : A.handled = none) {l : Addr} {vs : List Value} {items : List AV} (hO : ∀ a, O₀ a → ∃ o, h.get? a = some o) (nl : ¬ O₀ l) (hl : h.IsTuple l vs.toArray) (hi : IsAll bx O₀ h items vs) :
    IterAt prog w A target bx h.objs.size [h.objs.size, l] [h.objs.size] items O₀ (h.push { cls := .type "tuple_iterator", data := .fields #[.ref l, .int 0 0] }) (fun i h' => h'.IsTupleIter h.objs.size l i ∧ h'.IsTuple l vs.toArray) := by
  have hlt : l < h.objs.size := let ⟨_, e, _⟩ := hl; Heap.lt_size e
  have W := Walks.tuple (prog := prog) (w := w) hh h.objs.size l (Nat.ne_of_lt hlt) vs.toArray
  have e1 := isAll_length hi
  refine ⟨⟨⟨_, Heap.get?_push_size _ rfl, rfl, rfl⟩, hl.push _⟩, W.sub, fun b hb => ?_, fun i h' st b hb => ?_, W.frame, fun i h' st b hb => ?_, fun i a s O Q ha st L hO' hQ => ?_, fun s Q st hQ => ?_, fun i s Q st q => W.self i s Q _ st q⟩
  · rcases List.mem_cons.mp hb with rfl | hb
    · exact fresh_not hO
    · cases List.mem_singleton.mp hb; exact nl
  · rcases List.mem_cons.mp hb with rfl | hb
    · obtain ⟨o, e, _⟩ := st.1; exact ⟨o, e⟩
    · cases List.mem_singleton.mp hb
      obtain ⟨o, e, _⟩ := st.2; exact ⟨o, e⟩
  · cases List.mem_singleton.mp hb
    obtain ⟨o, e, _, c⟩ := st.1
    exact not_seq_of ⟨o, _, e, c⟩
  · have hlt' : i < vs.toArray.size := by
      have := (List.getElem?_eq_some_iff.mp ha).1
      simp only [List.size_toArray]; omega
    have ia := isAll_le (LeW.trans (push_le _).w L) hi
    refine W.item i s _ _ hlt' st fun v h' tk hv st' hk => ⟨v, rfl, letGo_tupleiter st'.1 (hQ v h' tk ?_ st' hk)⟩
    obtain ⟨u, hu, iu⟩ := isAll_get ia ha
    have : v = u := by
      have hv' : vs[i]? = some v := by simpa using hv
      rw [hu] at hv'; cases hv'; rfl
    subst this
    refine Is.le (fun b o n e c => ⟨n, hk b o (fun q => ?_) e⟩) a v iu
    cases List.mem_singleton.mp q
    obtain ⟨o', e', _, c'⟩ := st.1
    exact not_seq_of ⟨o', _, e', c'⟩ o e c
  · refine W.done s _ _ (by simpa [e1] using st) fun h' tk hk => ⟨rfl, hQ h' tk hk⟩

/-- the ints of a range -/
noncomputable def rangeL (a c : Int) (n : Nat) : List Int := (List.range n).map fun (i : Nat) => a + (i : Int) * c
/-- over a range -/
theorem IterAt.range (hh : A.handled = none) {a c : Int} {n : Nat} {x : Str} {px : Pos} (hO : ∀ a, O₀ a → ∃ o, h.get? a = some o) :
    IterAt prog w A (.Name x px) bx h.objs.size [h.objs.size] [h.objs.size] ((rangeL a c n).map AV.int) O₀ (h.push { cls := .type "range_iterator", data := .fields #[rawInt a, rawInt n, rawInt c] }) (fun i h' => IsRangeIter h' h.objs.size (a + (i : Nat) * c) ((n : Int) - (i : Nat)) c) := by
  have W := Walks.range (prog := prog) (w := w) hh h.objs.size a c n
  have el : ((rangeL a c n).map AV.int).length = n := by simp [rangeL]
  refine ⟨by simpa using Heap.get?_push_size h rfl, W.sub, fun b hb => ?_, fun i h' st b hb => ?_, W.frame, fun i h' st b hb => ?_, fun i d s O Q ha st L hO' hQ => ?_, fun s Q st hQ => ?_, fun i s Q st q => W.self i s Q _ st q⟩
  · cases List.mem_singleton.mp hb
    exact fresh_not hO
  · cases List.mem_singleton.mp hb
    exact ⟨_, st⟩
  · cases List.mem_singleton.mp hb
    exact not_seq_of ⟨_, _, st, rfl⟩
  · have hlt : i < n := by
      have := (List.getElem?_eq_some_iff.mp ha).1
      omega
    have hd : d = .int (a + i * c) := by
      simp [rangeL, hlt] at ha
      exact ha.symm
    subst hd
    refine W.item i s _ _ hlt st fun v h' tk hv st' hk => ⟨v, rfl, ?_⟩
    show wpAny _ _ (pure ()) _ _ _
    exact wpAny_pure (hQ v h' tk (by simp only [Is]; exact hv) st' hk)
  · rw [el] at st
    exact W.done s _ _ st fun h' tk hk => ⟨rfl, hQ h' tk hk⟩

/-- the pairs of an enumerate -/
noncomputable def enumL (n : Nat) : List Int → List AV
  | [] => []
  | x :: r => .tup [.int n, .int x] :: enumL (n + 1) r
theorem enumL_length : ∀ (xs : List Int) (n : Nat), (enumL n xs).length = xs.length
  | [], _ => rfl
  | _ :: r, n => by simp [enumL, enumL_length r]
theorem enumL_get : ∀ (xs : List Int) (n i : Nat) {x : Int}, xs[i]? = some x → (enumL n xs)[i]? = some (.tup [.int ((n + i : Nat) : Int), .int x])
  | [], _, _, _, h => by simp at h
  | y :: r, n, 0, _, h => by simp at h; subst h; simp [enumL]
  | y :: r, n, i + 1, _, h => by
    simp only [enumL, List.getElem?_cons_succ] at h ⊢
    rw [enumL_get r (n + 1) i h, show n + 1 + i = n + (i + 1) by omega]

/-- over an enumerate of a list of ints -/
theorem IterAt.enum (hh : A.handled = none) {l e it : Addr} {vs : List Value} {xs : List Int} {elts : List Expr} {k : Nat} {pos : Pos} (hO : ∀ a, O₀ a → a < e ∧ a < it) (nl : ¬ O₀ l) (hl : h.IsList l vs.toArray) (hi : IntsAre vs xs)
    (hei : e ≠ it) (hle : l ≠ e) (hli : l ≠ it) (he : IsEnum h e it 0 .none) (hit : h.IsListIter it l 0) :
    IterAt prog w A (.Tuple elts k pos) bx e [e, it, l] [e, it] (enumL 0 xs) O₀ h (fun i h => (∃ old, IsEnum h e it i old) ∧ h.IsListIter it l i ∧ h.IsList l vs.toArray) := by
  have W := WalksT.enumerate (prog := prog) (w := w) hh e it l hei hle hli vs.toArray
  have e1 := hi.length
  have two : ∀ b, b ∈ [e, it] → b = e ∨ b = it := fun b hb => by simpa using hb
  have noseq : ∀ (i : Nat) (h : Heap), ((∃ old, IsEnum h e it i old) ∧ h.IsListIter it l i ∧ h.IsList l vs.toArray) → ∀ b ∈ [e, it], ∀ o, h.get? b = some o → ¬ seqCls o := fun i h st b hb => by
    rcases two b hb with rfl | rfl
    · obtain ⟨_, e⟩ := st.1
      exact not_seq_of ⟨_, _, e, rfl⟩
    · obtain ⟨o, e, _, c⟩ := st.2.1
      exact not_seq_of ⟨o, _, e, c⟩
  refine ⟨⟨⟨_, by simpa using he⟩, hit, hl⟩, W.sub, fun b hb => ?_, fun i h' st b hb => ?_, W.frame, noseq, fun i d s O Q ha st L hO' hQ => ?_, fun s Q st hQ => ?_, fun i s Q st q => W.self i s Q _ st q⟩
  · rcases List.mem_cons.mp hb with rfl | hb
    · exact fun o => Nat.lt_irrefl _ (hO _ o).1
    · rcases List.mem_cons.mp hb with rfl | hb
      · exact fun o => Nat.lt_irrefl _ (hO _ o).2
      · cases List.mem_singleton.mp hb; exact nl
  · rcases List.mem_cons.mp hb with rfl | hb
    · obtain ⟨_, e⟩ := st.1; exact ⟨_, e⟩
    · rcases List.mem_cons.mp hb with rfl | hb
      · obtain ⟨o, e, _⟩ := st.2.1; exact ⟨o, e⟩
      · cases List.mem_singleton.mp hb
        obtain ⟨o, e, _⟩ := st.2.2; exact ⟨o, e⟩
  · have hlt : i < xs.length := by
      have := (List.getElem?_eq_some_iff.mp ha).1
      rw [enumL_length] at this; exact this
    have hx : xs[i]? = some xs[i] := List.getElem?_eq_getElem hlt
    have hd := enumL_get xs 0 i hx
    rw [ha] at hd
    cases hd
    refine W.item i s _ _ (by simp only [List.size_toArray]; omega) st fun T vals h₁ tk hP hT ht hm hk => ⟨.ref T, rfl, W.go elts k pos i T _ _ _ hm fun h₂ st₂ hk₂ => hQ (.ref T) h₂ tk ?_ st₂ fun b o hb x => hk₂ b o hb (hk b o hb x)⟩
    obtain ⟨t, v, hv, rfl⟩ := hP
    obtain ⟨t', ht'⟩ := hi.get i _ hx
    have hv' : v = .int xs[i] t' := by
      have : vs[i]? = some v := by simpa using hv
      rw [ht'] at this; cases this; rfl
    subst hv'
    have hTO : ¬ O T := fun o => let ⟨_, e⟩ := hO' T o; Nat.lt_irrefl _ (Nat.lt_of_lt_of_le (Heap.lt_size e) hT)
    obtain ⟨oT, eT, cT, dT⟩ := ht
    have eT₂ : h₂.get? T = some oT := hk₂ T oT (W.apart i T _ hm) eT
    simp only [Is, IsAll]
    exact ⟨T, [.int i t, .int xs[i] t'], rfl, hTO, ⟨oT, eT₂, cT, dT⟩, _, _, rfl, ⟨t, by simp⟩, _, _, rfl, ⟨t', rfl⟩, rfl⟩
  · rw [enumL_length, ← e1] at st
    exact W.done s _ _ (by simpa using st) fun h' tk hk => ⟨rfl, hQ h' tk hk⟩
end

/-- a step that stores into what no name knows -/
theorem Rep.wr {F : Fm} {σ : St} {O : Addr → Prop} {ad : Str → Addr} {s : Shared} {wr : List Addr} {h' : Heap} {tk : Nat} (K : F.Ok) (R : Rep F σ O ad s) (hk : ∀ b o, b ∉ wr → s.heap.get? b = some o → h'.get? b = some o)
    (hO : ∀ b ∈ wr, ¬ O b) (cls : ∀ b ∈ wr, ∀ o, s.heap.get? b = some o → ¬ seqCls o) (h0 : ∀ b ∈ wr, F.h₀ b = none) : Rep F σ O ad { s with heap := h', toks := tk } := by
  obtain ⟨m, cm, V⟩ := R.vars
  have kO : ∀ a o, O a → s.heap.get? a = some o → h'.get? a = some o := fun a o ha e => hk a o (fun q => hO a q ha) e
  have L : LeW O s.heap O h' := fun a o n e c => ⟨n, hk a o (fun q => cls a q o e c) e⟩
  refine ⟨?_, fun b o e n => hk b o (fun q => by rw [h0 b q] at e; cases e) (R.keep b o e n), R.sub, fun a ha => ?_, R.Lo, R.Lnew, ⟨m, cm, ?_⟩, R.capart, ?_⟩
  · obtain ⟨h, t, e⟩ := R.same
    exact ⟨h', tk, by rw [e]⟩
  · obtain ⟨o, e⟩ := R.dom a ha
    exact ⟨o, kO a o ha e⟩
  · refine ⟨?_, fun y c hc => ?_, fun y a hy => ?_, V.own⟩
    · obtain ⟨o, es, ep, e, r⟩ := V.ns
      exact ⟨o, es, ep, kO _ o R.Lo e, r⟩
    · obtain ⟨h1, ⟨o, e, d⟩, h3, h4⟩ := V.cell y c hc
      exact ⟨h1, ⟨o, kO c o h1 e, d⟩, h3, h4⟩
    · obtain ⟨v, hv, r⟩ := V.var y a hy
      exact ⟨v, slotIs_le L (fun vs ho hn p => ⟨ho, p.at fun o e => kO _ o ho e⟩) a v hv, r⟩
  · have B := R.box
    have hwO := R.wO K
    unfold BoxIs at B ⊢
    cases hbx : F.bx with
    | none => trivial
    | some p =>
      rw [hbx] at B
      simp only at B ⊢
      have nb : ∀ q, inBox (some p) q → O q := fun q hq => hwO q (by rw [hbx]; exact hq)
      obtain ⟨n, ⟨t, y⟩, vs, y', i⟩ := B
      exact ⟨n, ⟨t, y.at fun o e => kO _ o (nb _ (.inl rfl)) e⟩, vs, y'.at fun o e => kO _ o (nb _ (.inr rfl)) e, i⟩
theorem Rep.new₀ {F : Fm} {σ : St} {O : Addr → Prop} {ad : Str → Addr} {s : Shared} (K : F.Ok) (R : Rep F σ O ad s) {b : Addr} (h : s.heap.get? b = none) : F.h₀ b = none := by
  cases e : F.h₀ b with
  | none => rfl
  | some o =>
    rcases Classical.em (inBox F.bx b) with hb | hb
    · obtain ⟨o', e'⟩ := R.dom b (R.wO K b hb)
      rw [h] at e'; cases e'
    · have := R.keep b o e hb
      rw [h] at this; cases this

noncomputable def AI (F : Fm) (iter target : Expr) (σ : St) (Q : List AV → BS → Prop) : Prop :=
  F.Ok → ∀ O ad s, Rep F σ O ad s → wpAny (model F.C.prog F.C.w) F.A (eval iter F.env) (fun xv s₁ => wpAny (model F.C.prog F.C.w) F.A (pyIter xv) (fun it s₂ => ∃ items b I fp wr St, it = .ref I ∧ Ext F.bx s s₂ ∧ BoxIs F.bx s₂.heap b ∧
    IterAt F.C.prog F.C.w F.A target F.bx I fp wr items O s₂.heap St ∧ (∀ b ∈ wr, s.heap.get? b = none) ∧ Q items b) (fun _ _ => False) s₁) (fun _ _ => False) s

noncomputable def itemsOf : AV → Option (List AV)
  | .ints xs => some (xs.map AV.int)
  | .list xs => some xs
  | .tup xs => some xs
  | _ => none
theorem isAll_ints {bx : Bx} {O : Addr → Prop} {h : Heap} : ∀ {vs : List Value} {xs : List Int}, IntsAre vs xs → IsAll bx O h (xs.map AV.int) vs
  | _, _, .nil => by simp [IsAll]
  | _, _, .cons n t r => by
    simp only [List.map_cons, IsAll, Is]
    exact ⟨_, _, rfl, ⟨t, rfl⟩, isAll_ints r⟩
theorem no_of_size {h : Heap} : h.get? h.objs.size = none := by
  cases e : h.get? h.objs.size with
  | none => rfl
  | some o => exact absurd (Heap.lt_size e) (Nat.lt_irrefl _)
theorem no_of_ext {bx : Bx} {O : Addr → Prop} {s s' : Shared} (hO : ∀ a, O a → ∃ o, s.heap.get? a = some o) (hw : ∀ a, inBox bx a → O a) (x : Ext bx s s') {b : Addr} (hO' : ∀ a, O a → ∃ o, s'.heap.get? a = some o) (h : s'.heap.get? b = none) : s.heap.get? b = none := by
  cases e : s.heap.get? b with
  | none => rfl
  | some o =>
    rcases Classical.em (inBox bx b) with hb | hb
    · obtain ⟨o', e'⟩ := hO' b (hw b hb)
      rw [h] at e'; cases e'
    · have := x.keep b o e hb
      rw [h] at this; cases this

section
variable {F : Fm} {σ : St}
theorem AI_av {iter target : Expr} {Q : List AV → BS → Prop} (h : AE F iter σ fun a b => ∃ items, itemsOf a = some items ∧ Q items b) : AI F iter target σ Q := fun K O ad s R => by
  refine wpAny_mono (h K O ad s R) (fun v s₁ h₁ => ?_) fun _ _ f => f
  obtain ⟨a, b, i, x, B, items, hi, q⟩ := h₁
  have R₁ := R.ext K x B
  have fresh : ∀ b ∈ [s₁.heap.objs.size], s.heap.get? b = none := fun b hb => by
    cases List.mem_singleton.mp hb
    exact no_of_ext R.dom (R.wO K) x R₁.dom no_of_size
  have x' : ∀ o, Ext F.bx s { s₁ with heap := s₁.heap.push o } := fun o => x.trans (Ext.of_keeps fun _ _ e => Heap.get?_push_of_some _ e)
  have B' : ∀ o, BoxIs F.bx (s₁.heap.push o) b := fun o => Ext.box (fun _ _ e => Heap.get?_push_of_some _ e) B
  cases a <;> simp only [itemsOf] at hi <;> try cases hi
  · simp only [Is] at i
    obtain ⟨l, vs, rfl, nO, p, i, hl⟩ := i
    exact wpAny_pyIter_list p.isList ⟨_, b, _, _, _, _, rfl, x' _, B' _, IterAt.list K.room.handled R₁.dom nO p.isList (isAll_ints i), fresh, q⟩
  · simp only [Is] at i
    obtain ⟨l, vs, rfl, nO, p, i⟩ := i
    exact wpAny_pyIter_list p.isList ⟨_, b, _, _, _, _, rfl, x' _, B' _, IterAt.list K.room.handled R₁.dom nO p.isList i, fresh, q⟩
  · simp only [Is] at i
    obtain ⟨l, vs, rfl, nO, p, i⟩ := i
    exact wpAny_pyIter_tuple p ⟨_, b, _, _, _, _, rfl, x' _, B' _, IterAt.tuple K.room.handled R₁.dom nO p i, fresh, q⟩

/-- a for, item by item -/
noncomputable def ForK (N : St → Prop) (Q : AFl → St → Prop) : AFl → St → Prop
  | .next, σ => N σ
  | .cont, σ => N σ
  | .brk, σ => Q .next σ
  | .ret a, σ => Q (.ret a) σ
theorem ForK_next {N : St → Prop} {Q : AFl → St → Prop} {σ : St} (h : N σ) : ForK N Q .next σ := h
theorem ForK_ret {N : St → Prop} {Q : AFl → St → Prop} {σ : St} {a : AV} (h : Q (.ret a) σ) : ForK N Q (.ret a) σ := h
noncomputable def ForW (F : Fm) (target : Expr) (body : List Stmt) (Q : AFl → St → Prop) : List AV → St → Prop
  | [], σ => Q .next σ
  | a :: r, σ => AA F target a σ fun σ' => ASs F body σ' (ForK (ForW F target body Q r) Q)

theorem AS_for {target iter : Expr} {body : List Stmt} {pos : Pos} {Q : AFl → St → Prop} (h : AI F iter target σ fun items b => ForW F target body Q items { σ with box := b })
    (hs : ∀ x, foldedSetIterable iter F.env x = pure x := by intro _; rfl) : AS F (.For target iter body [] pos) σ Q := fun K O ad s R => by
  refine wpAny_For (wpAny_mono (h K O ad s R) (fun xv s₁ h₁ => wpAny_mono h₁ (fun it s₂ h₂ => ?_) fun _ _ f => f) fun _ _ f => f) hs
  obtain ⟨items, b, I, fp, wr, St, rfl, x, B, W, fresh, q⟩ := h₂
  have R₂ := R.ext K x B
  have hw₀ : ∀ b ∈ wr, F.h₀ b = none := fun b hb => R.new₀ K (fresh b hb)
  refine codeAny_forLoop_any (fun n s' => ∃ i σ' O' ad', i ≤ items.length ∧ n = items.length + 1 - i ∧ Rep F σ' O' ad' s' ∧ St i s'.heap ∧ (∀ b ∈ fp, ¬ O' b) ∧
      (∀ a o, ¬ O a → a ∉ wr → s₂.heap.get? a = some o → ¬ O' a ∧ s'.heap.get? a = some o) ∧ ForW F target body Q (items.drop i) σ') ?_ (items.length + 1)
    ⟨0, _, O, ad, Nat.zero_le _, rfl, R₂, W.st, W.off, fun a o n _ e => ⟨n, e⟩, by simpa using q⟩
  rintro n s₃ ⟨i, σ', O', ad', hi, rfl, R₃, st, hfp, LX, q⟩
  have hwO : ∀ b ∈ wr, ¬ O' b := fun b hb => hfp b (W.sub b hb)
  have LW : LeW O s₂.heap O' s₃.heap := fun a o n e c => LX a o n (fun hb => W.cls 0 _ W.st a hb o e c) e
  have start : ∀ a o, ¬ O a → s.heap.get? a = some o → a ∉ wr ∧ s₂.heap.get? a = some o := fun a o n e => ⟨(fun hb => by rw [fresh a hb] at e; cases e), x.keep a o e fun hb => n (R.wO K a hb)⟩
  by_cases hlt : i < items.length
  · have ha : items[i]? = some items[i] := List.getElem?_eq_getElem hlt
    rw [List.drop_eq_getElem_cons hlt] at q
    simp only [ForW] at q
    refine wpAny_mono (W.item i items[i] s₃ O' (fun v s₄ => wpAny (model F.C.prog F.C.w) F.A (assign target F.env v) (fun _ s₅ => wpAny (model F.C.prog F.C.w) F.A (execs body F.env) (fun f s₆ => match f with
        | .next | .cont => ∃ m, m < items.length + 1 - i ∧ ∃ i σ' O' ad', i ≤ items.length ∧ m = items.length + 1 - i ∧ Rep F σ' O' ad' s₆ ∧ St i s₆.heap ∧ (∀ b ∈ fp, ¬ O' b) ∧
          (∀ a o, ¬ O a → a ∉ wr → s₂.heap.get? a = some o → ¬ O' a ∧ s₆.heap.get? a = some o) ∧ ForW F target body Q (items.drop i) σ'
        | .brk => SPost F O s Q .next s₆
        | .ret v => SPost F O s Q (.ret v) s₆) (fun _ _ => False) s₅) (fun _ _ => False) s₄) ha st LW R₃.dom fun v h' tk iv st' hk => ?_) (fun r s₄ h₄ => ?_) fun _ _ f => f.elim
    · have R₄ := R₃.wr (tk := tk) K hk hwO (W.cls i _ st) hw₀
      refine wpAny_mono (q K O' ad' _ v R₄ iv) (fun _ s₅ h₅ => ?_) fun _ _ f => f
      obtain ⟨σ₅, ad₅, R₅, L₅, q⟩ := h₅
      refine wpAny_mono (q K O' ad₅ s₅ R₅) (fun fl s₆ h₆ => ?_) fun _ _ f => f
      obtain ⟨afl, σ₆, O₆, ad₆, f, R₆, L₆, q⟩ := h₆
      have L' := L₅.trans L₆
      have st₆ : St (i + 1) s₆.heap := W.frame _ _ _ st' fun b hb o e => (L' b o (hfp b hb) e).2
      have hfp₆ : ∀ b ∈ fp, ¬ O₆ b := fun b hb => by
        obtain ⟨o, e⟩ := W.live _ _ st' b hb
        exact (L' b o (hfp b hb) e).1
      have LX₆ : ∀ a o, ¬ O a → a ∉ wr → s₂.heap.get? a = some o → ¬ O₆ a ∧ s₆.heap.get? a = some o := fun a o n hb e => by
        obtain ⟨n', e'⟩ := LX a o n hb e
        exact L' a o n' (hk a o hb e')
      have LE : Le O s.heap O₆ s₆.heap := fun a o n e => LX₆ a o n (start a o n e).1 (start a o n e).2
      cases afl <;> cases fl <;> simp only [FlowIs] at f
      · exact ⟨_, by omega, i + 1, σ₆, O₆, ad₆, hlt, rfl, R₆, st₆, hfp₆, LX₆, q⟩
      · exact ⟨.next, σ₆, O₆, ad₆, trivial, R₆, LE, q⟩
      · exact ⟨_, by omega, i + 1, σ₆, O₆, ad₆, hlt, rfl, R₆, st₆, hfp₆, LX₆, q⟩
      · exact ⟨.ret _, σ₆, O₆, ad₆, f, R₆, LE, q⟩
    · obtain ⟨v, rfl, h₄⟩ := h₄
      refine wpAny_mono h₄ (fun _ s₅ h₅ => wpAny_mono h₅ (fun _ s₆ h₆ => wpAny_mono h₆ (fun fl s₇ h₇ => ?_) fun _ _ f => f.elim) fun _ _ f => f.elim) fun _ _ f => f.elim
      cases fl <;> exact h₇
  · have hin : i = items.length := by omega
    subst hin
    rw [List.drop_length] at q
    simp only [ForW] at q
    refine wpAny_mono (W.done s₃ (fun s₄ => SPost F O s Q .next s₄) st fun h' tk hk => ?_) (fun r s₄ h₄ => ?_) fun _ _ f => f.elim
    · refine ⟨.next, σ', O', ad', trivial, R₃.wr (tk := tk) K hk hwO (W.cls _ _ st) hw₀, fun a o n e => ?_, q⟩
      obtain ⟨h1, h2⟩ := start a o n e
      obtain ⟨n', e'⟩ := LX a o n h1 h2
      exact ⟨n', hk a o h1 e'⟩
    · obtain ⟨rfl, h₄⟩ := h₄
      exact wpAny_execs_nil h₄
end

section
variable {prog : Program} {w : World} {A : Around} {R : Result → Shared → Prop} {s : Shared}
theorem comp_turns {elt target iter : Expr} {ifs : List Expr} {scope : Scope} {pos : Pos} {it acc : Value} {env : Env} (I : Nat → Shared → Prop)
    (turn : ∀ n s, I n s → wpAny (model prog w) A (pyNext it) (fun r s₁ => match r with
      | none => R (.ok .next) s₁
      | some v => wpAny (model prog w) A (letOwnedTupleGo target it v) (fun _ s₁' => wpAny (model prog w) A (assign target env v) (fun _ s₂ =>
          wpAny (model prog w) A (forIn ifs true fun c r => if r = true then do let ok ← isTrue c env (eval c env); pure (ForInStep.yield ok) else pure (ForInStep.yield r)) (fun ok s₃ =>
            if ok = true then wpAny (model prog w) A (eval elt env) (fun x s₄ =>
              wpAny (model prog w) A (call (.builtin "list.append") [acc, x]) (fun _ s₅ => ∃ m, m < n ∧ I m s₅) (fun _ _ => False) s₄) (fun _ _ => False) s₃
            else ∃ m, m < n ∧ I m s₃) (fun _ _ => False) s₂) (fun _ _ => False) s₁') (fun _ _ => False) s₁) (fun _ _ => False) s)
    (n : Nat) (h : I n s) : codeAny (model prog w) A (.compLoop (.ListComp elt [⟨target, iter, ifs, 0⟩] scope pos) 0 it acc env) R s := by
  refine codeAny_loop rfl I (fun n s hI => ?_) n h
  show wpAny _ A ((compTurn (.ListComp elt [⟨target, iter, ifs, 0⟩] scope pos) 0 it acc env).onRaise (fun x => do noteFrame x env; theTreesLotGoes x)) _ _ s
  refine wpAny_noted ?_
  rw [compTurn_list]
  refine wpAny_bind (wpAny_standAt (wpAny_bind (wpAny_mono (turn n s hI) (fun r s₁ h₁ => ?_) fun _ _ f => f.elim)))
  cases r with
  | none => exact wpAny_pure h₁
  | some v =>
    refine wpAny_bind (wpAny_mono h₁ (fun _ s₁' h₁' => ?_) fun _ _ f => f.elim)
    refine wpAny_bind (wpAny_mono h₁' (fun _ s₂ h₂ => wpAny_bind (wpAny_mono h₂ (fun ok s₃ h₃ => ?_) fun _ _ f => f.elim)) fun _ _ f => f.elim)
    cases ok with
    | true =>
      simp only [if_true] at h₃ ⊢
      exact wpAny_bind (wpAny_bind (wpAny_mono h₃ (fun x s₄ h₄ => wpAny_bind (wpAny_mono h₄ (fun _ s₅ h₅ => wpAny_pure (wpAny_pure ⟨rfl, h₅⟩)) fun _ _ f => f.elim)) fun _ _ f => f.elim))
    | false =>
      simp only [Bool.false_eq_true, if_false] at h₃ ⊢
      exact wpAny_pure ⟨rfl, h₃⟩
end

/-! Comprehensions of ints. -/
noncomputable def CellSub : List (Str × Addr) → List (Str × Addr) → Prop
  | [], _ => True
  | p :: r, m => m.lookup p.1 = some p.2 ∧ CellSub r m
theorem CellSub.lookup {m : List (Str × Addr)} {x : Str} {a : Addr} : ∀ {l : List (Str × Addr)}, CellSub l m → l.lookup x = some a → m.lookup x = some a
  | [], _, h => by simp at h
  | (y, b) :: r, ⟨h1, h2⟩, h => by
    rw [lookup_cons_eq] at h
    by_cases q : x = y
    · subst q
      rw [if_pos rfl] at h
      cases h
      exact h1
    · rw [if_neg q] at h
      exact CellSub.lookup h2 h
/-- what a comprehension sees of the def's names -/
noncomputable def CapOk (env cenv : Env) : List (Str × Slot) → Prop
  | [] => True
  | p :: r => ((∃ a, p.2 = .av a) ∧ env.kindOf p.1 = some .cell ∧ cenv.kindOf p.1 = some .cell ∧ (cenv.cells.lookup p.1).isSome = true) ∧ CapOk env cenv r
theorem CapOk.at {env cenv : Env} {x : Str} {a : Slot} : ∀ {l : List (Str × Slot)}, CapOk env cenv l → l.lookup x = some a → (∃ b, a = .av b) ∧ env.kindOf x = some .cell ∧ cenv.kindOf x = some .cell ∧ ∃ c, cenv.cells.lookup x = some c
  | [], _, h => by simp at h
  | (y, b) :: r, ⟨h1, h2⟩, h => by
    rw [lookup_cons_eq] at h
    by_cases q : x = y
    · subst q
      rw [if_pos rfl] at h
      cases h
      exact ⟨h1.1, h1.2.1, h1.2.2.1, Option.isSome_iff_exists.mp h1.2.2.2⟩
    · rw [if_neg q] at h
      exact CapOk.at h2 h

noncomputable abbrev compFm (F : Fm) (scope : Scope) (cl : List (Str × Addr)) (C : Addr) (h₀ : Addr → Option Obj) (O₀ : Addr → Prop) (s₀ : Shared) : Fm :=
  { C := F.C, bx := F.bx, A := F.A, k := F.k, env := compEnvC scope cl C F.env, h₀, O₀, s₀ }
noncomputable def AIfs (F : Fm) (ifs : List Expr) (σ : St) (Q : Bool → BS → Prop) : Prop := match ifs with
  | [] => Q true σ.box
  | [c] => AT F c σ Q
  | _ => False
theorem AIfs_nil {F : Fm} {σ : St} {Q : Bool → BS → Prop} (h : Q true σ.box) : AIfs F [] σ Q := h
theorem AIfs_one {F : Fm} {c : Expr} {σ : St} {Q : Bool → BS → Prop} (h : AT F c σ Q) : AIfs F [c] σ Q := h
theorem AIfs_run {F : Fm} {ifs : List Expr} {σ : St} {Q : Bool → BS → Prop} (h : AIfs F ifs σ Q) (K : F.Ok) {O ad s} (R : Rep F σ O ad s) :
    wpAny (model F.C.prog F.C.w) F.A (forIn ifs true fun c r => if r = true then do let ok ← isTrue c F.env (eval c F.env); pure (ForInStep.yield ok) else pure (ForInStep.yield r)) (TPost F s Q) (fun _ _ => False) s := by
  unfold AIfs at h
  split at h
  · exact wpAny_tests_nil ⟨σ.box, Ext.refl _ _, R.box, h⟩
  · exact wpAny_tests_one (h K O ad s R)
  · exact h.elim
noncomputable def CompW (F : Fm) (target : Expr) (ifs : List Expr) (elt : Expr) (cv : List (Str × Slot)) (Q : List Int → BS → Prop) : List AV → List Int → BS → Prop
  | [], acc, b => Q acc b
  | a :: r, acc, b => AA F target a ⟨cv, b⟩ fun σ' => AIfs F ifs σ' fun c b' => if c = true then AE F elt { σ' with box := b' } (fun d b'' => ∃ n, d = .int n ∧ CompW F target ifs elt cv Q r (acc ++ [n]) b'') else CompW F target ifs elt cv Q r acc b'

theorem intsAre_snoc {vs : List Value} {xs : List Int} (h : IntsAre vs xs) (n : Int) (t : Tok) : IntsAre (vs ++ [.int n t]) (xs ++ [n]) := h.append (.cons n t .nil)

section
variable {F : Fm} {σ : St}
theorem comp_core {elt iter target : Expr} {ifs : List Expr} {scope : Scope} {cl : List (Str × Addr)} {pos : Pos} {cv : List (Str × Slot)} {P : List Int → BS → Prop} {RR : Value → Addr → Result → Shared → Prop}
    (hcell : (scope.names.all fun y => y.2 != .cell) = true) (hkind : scope.kind = .function) (hcs : CellSub cl F.env.cells) (hcv : AllIn cv σ.vars) (hcap : CapOk F.env (compEnvC scope cl 0 F.env) cv)
    (K : F.Ok) {O : Addr → Prop} {ad : Str → Addr} {s : Shared} (R : Rep F σ O ad s) {s₂ : Shared} {items : List AV} {b : BS} {I : Addr} {fp wr : List Addr} {St : Nat → Heap → Prop} (x : Ext F.bx s s₂) (B : BoxIs F.bx s₂.heap b)
    (W : IterAt F.C.prog F.C.w F.A target F.bx I fp wr items O s₂.heap St) (fresh : ∀ b ∈ wr, s.heap.get? b = none) (hl : items.length ≤ lid)
    (q : ∀ C h₀ O₀ s₀, CompW (compFm F scope cl C h₀ O₀ s₀) target ifs elt cv P items [] b)
    (hRR : ∀ D C h tk m ys xs b', s.heap.get? D = none → s.heap.get? C = none → D ≠ C → h.Ns C m → h.PlainList D (List.toArray ys) → IntsAre ys xs → xs.length ≤ lid → Ext F.bx s { s with heap := h, toks := tk } → BoxIs F.bx h b' → P xs b' → RR (.ref D) C (.ok .next) { s with heap := h, toks := tk }) :
    wpAny (model F.C.prog F.C.w) F.A (newList []) (fun acc s₃ => wpAny (model F.C.prog F.C.w) F.A (newFunctionEnv scope F.env.globals cl [] F.env.qual none .none (some F.env)) (fun cenv s₄ =>
      codeAny (model F.C.prog F.C.w) F.A (.compStart (.ListComp elt [⟨target, iter, ifs, 0⟩] scope pos) 0 (.ref I) acc { cenv with scope := relabel scope F.env }) (RR acc cenv.locals) s₄) (fun _ _ => False) s₃) (fun _ _ => False) s₂ := by
  have hcell' : ∀ y ∈ scope.names, y.2 ≠ .cell := fun y hy => by simpa using List.all_eq_true.mp hcell y hy
  refine wpAny_newObj_type (wpAny_newFunctionEnv hcell' (by intro y hy; simp at hy) (fun h₁ hns₁ hsb₁ => ?_) hkind)
  dsimp only at hns₁ hsb₁ ⊢
  generalize hH2 : s₂.heap.push { cls := .type "list", dict := none, data := .seq ([] : List Value).toArray } = H2 at hns₁ hsb₁ ⊢
  have hC : H2.objs.size = s₂.heap.objs.size + 1 := by rw [← hH2, Heap.size_push]
  generalize hCe : H2.objs.size = C at hns₁ hsb₁ hC ⊢
  generalize hDe : s₂.heap.objs.size = D at hC ⊢
  have R₂ := R.ext K x B
  have old : ∀ a o, s₂.heap.get? a = some o → h₁.get? a = some o := fun a o e => by
    have hlt := Heap.lt_size e
    exact hsb₁.extBut a o (Nat.ne_of_lt (by rw [hC, ← hDe]; exact Nat.lt_succ_of_lt hlt)) (Heap.get?_push_of_some _ (hH2 ▸ Heap.get?_push_of_some _ e))
  have hDC : D ≠ C := by omega
  have no₂ : ∀ a, s₂.heap.objs.size ≤ a → s₂.heap.get? a = none := fun a ha => by
    cases e : s₂.heap.get? a with
    | none => rfl
    | some o' => exact absurd (Heap.lt_size e) (Nat.not_lt.mpr ha)
  have nD₂ : s₂.heap.get? D = none := no₂ _ (by omega)
  have nC₂ : s₂.heap.get? C = none := no₂ _ (by omega)
  have nDs : s.heap.get? D = none := no_of_ext R.dom (R.wO K) x R₂.dom nD₂
  have nCs : s.heap.get? C = none := no_of_ext R.dom (R.wO K) x R₂.dom nC₂
  have nDO : ¬ O D := fun o => let ⟨_, e⟩ := R.dom _ o; by rw [nDs] at e; cases e
  have nCO : ¬ O C := fun o => let ⟨_, e⟩ := R.dom _ o; by rw [nCs] at e; cases e
  have nDf : D ∉ fp := fun hb => let ⟨_, e⟩ := W.live 0 _ W.st D hb; by rw [nD₂] at e; cases e
  have nCf : C ∉ fp := fun hb => let ⟨_, e⟩ := W.live 0 _ W.st C hb; by rw [nC₂] at e; cases e
  have wO := R.wO K
  have hacc : h₁.PlainList D (List.toArray []) := ⟨0, hsb₁.extBut _ _ hDC (Heap.get?_push_of_some _ (by rw [← hH2, ← hDe]; exact Heap.get?_push_size _ rfl))⟩
  have hst₁ : St 0 h₁ := W.frame _ _ _ W.st fun b _ o e => old b o e
  have keepS₁ : ∀ a o, s.heap.get? a = some o → ¬ inBox F.bx a → h₁.get? a = some o := fun a o e n => old a o (x.keep a o e n)
  obtain ⟨m₀, cm, V⟩ := R.vars
  -- the comprehension's frame, at every turn anew
  let F' := compFm F scope cl C s.heap.get? O s
  let O' : Addr → Prop := fun a => O a ∨ a = C
  have K' : F'.Ok := { cx := K.cx, room := K.room, kind := hkind, glob := K.glob, bl := K.bl, base := fun b o e => Rep.base (F := F) K R b o e, wfree := K.wfree, wO := wO, dom₀ := R.dom }
  have ceq : ∀ y, (compEnvC scope cl C F.env).kindOf y = (compEnvC scope cl 0 F.env).kindOf y := fun _ => rfl
  have mkR : ∀ (s' : Shared) (b' : BS) (m : Str → Option Value), (∃ h tk, s' = { s with heap := h, toks := tk }) → (∀ a o, s.heap.get? a = some o → ¬ inBox F.bx a → s'.heap.get? a = some o) → s'.heap.Ns C m → BoxIs F.bx s'.heap b' → Rep F' ⟨cv, b'⟩ O' ad s' := by
    intro s' b' m hs keep hn B'
    refine ⟨hs, keep, fun a h => .inl h, fun a ha => ?_, .inr rfl, nCs, ⟨m, cm, hn, fun y c hc => ?_, fun y a hy => ?_, fun y a hy ho => ?_⟩, fun y z c h1 h2 => R.capart y z c (hcs.lookup h1) (hcs.lookup h2), B'⟩
    · rcases ha with ha | rfl
      · rcases Classical.em (inBox F.bx a) with hb | hb
        · exact box_dom B' a hb
        · obtain ⟨o, e⟩ := R.dom a ha
          exact ⟨o, keep a o e hb⟩
      · obtain ⟨o, _, _, e, _⟩ := hn
        exact ⟨o, e⟩
    · obtain ⟨h1, ⟨o, e, d⟩, h3, h4⟩ := V.cell y c (hcs.lookup hc)
      exact ⟨.inl h1, ⟨o, keep c o e h4, d⟩, (fun (q : c = C) => by rw [q, nCs] at e; cases e), h4⟩
    · obtain ⟨⟨a', rfl⟩, k1, k2, c, hc⟩ := hcap.at hy
      obtain ⟨v, hv, r⟩ := V.var y _ (hcv.lookup hy)
      have hcm : cm y = some v := by
        rcases r with ⟨k, _⟩ | ⟨_, _, e⟩
        · rw [k1] at k; cases k
        · exact e
      refine ⟨v, ?_, .inr ⟨by rw [← k2]; exact ceq y, ⟨c, hc⟩, hcm⟩⟩
      refine Is.le (fun c o n e _ => ⟨fun q => ?_, keep c o e fun q => n (wO c q)⟩) a' v hv
      rcases q with q | rfl
      · exact n q
      · rw [nCs] at e; cases e
    · obtain ⟨⟨a', rfl⟩, _⟩ := hcap.at hy
      exact ho.elim
  have loop : ∀ s₃ : Shared, s₃ = { s₂ with heap := h₁, toks := s₂.toks + ([] : List (Str × Value)).length } →
      codeAny (model F.C.prog F.C.w) F.A (.compLoop (.ListComp elt [⟨target, iter, ifs, 0⟩] scope pos) 0 (.ref I) (.ref D) (compEnvC scope cl C F.env)) (RR (.ref D) C) s₃ := by
    rintro s₃ rfl
    obtain ⟨h₂, tk₂, e₂⟩ := x.same
    refine comp_turns (fun n s' => ∃ i ys xs b' m, i ≤ items.length ∧ n = items.length + 1 - i ∧ (∃ h tk, s' = { s with heap := h, toks := tk }) ∧ (∀ a o, s.heap.get? a = some o → ¬ inBox F.bx a → s'.heap.get? a = some o) ∧
        (∀ a o, ¬ O a → a ∉ wr → s₂.heap.get? a = some o → s'.heap.get? a = some o) ∧ St i s'.heap ∧ s'.heap.Ns C m ∧ s'.heap.PlainList D (List.toArray ys) ∧ IntsAre ys xs ∧ xs.length ≤ i ∧ BoxIs F.bx s'.heap b' ∧
        CompW F' target ifs elt cv P (items.drop i) xs b') ?_ (items.length + 1)
      ⟨0, [], [], b, _, Nat.zero_le _, rfl, ⟨h₁, _, by rw [e₂]⟩, keepS₁, fun a o n _ e => old a o e, hst₁, hns₁, hacc, .nil, Nat.zero_le _, Ext.box old B, by simpa using q C s.heap.get? O s⟩
    rintro n s₄ ⟨i, ys, xs, b', m, hi, rfl, hs₄, keepS, keepN, st, hn, hD, hys, hxl, B', q⟩
    have R₄ := mkR s₄ b' m hs₄ keepS hn B'
    have LW : LeW O s₂.heap O' s₄.heap := fun a o n e c => ⟨(fun q => by
      rcases q with q | rfl
      · exact n q
      · rw [nC₂] at e; cases e), keepN a o n (fun hb => W.cls 0 _ W.st a hb o e c) e⟩
    have hwO : ∀ b ∈ wr, ¬ O' b := fun b hb q => by
      rcases q with q | rfl
      · exact W.off b (W.sub b hb) q
      · exact nCf (W.sub _ hb)
    by_cases hlt : i < items.length
    · have ha : items[i]? = some items[i] := List.getElem?_eq_getElem hlt
      rw [List.drop_eq_getElem_cons hlt] at q
      simp only [CompW] at q
      -- what holds behind a turn's part
      let Mid : Nat → Shared → Prop := fun j s' => (∃ h tk, s' = { s with heap := h, toks := tk }) ∧ (∀ a o, s.heap.get? a = some o → ¬ inBox F.bx a → s'.heap.get? a = some o) ∧
        (∀ a o, ¬ O a → a ∉ wr → s₂.heap.get? a = some o → s'.heap.get? a = some o) ∧ St j s'.heap ∧ s'.heap.PlainList D (List.toArray ys)
      have midExt : ∀ {j : Nat} {s' s'' : Shared}, Mid j s' → Ext F.bx s' s'' → Mid j s'' := by
        rintro j s' s'' ⟨⟨h, tk, rfl⟩, m1, m2, m3, m4⟩ y
        obtain ⟨h', tk', rfl⟩ := y.same
        have nbox : ∀ {a : Addr}, ¬ O a → ¬ inBox F.bx a := fun n hb => n (wO _ hb)
        exact ⟨⟨h', tk', rfl⟩, fun a o e n => y.keep a o (m1 a o e n) n, fun a o n hb e => y.keep a o (m2 a o n hb e) (nbox n), W.frame _ _ _ m3 fun b hb o e => y.keep b o e (nbox (W.off b hb)), m4.at fun o e => y.keep D o e (nbox nDO)⟩
      refine wpAny_mono (W.item i items[i] s₄ O' (fun v s₅ => wpAny (model F.C.prog F.C.w) F.A (assign target (compEnvC scope cl C F.env) v) (fun _ s₆ => Mid (i + 1) s₆ ∧ ∃ σ₆ ad₆, Rep F' σ₆ O' ad₆ s₆ ∧
          AIfs F' ifs σ₆ fun c b' => if c = true then AE F' elt { σ₆ with box := b' } (fun d b'' => ∃ n, d = .int n ∧ CompW F' target ifs elt cv P (items.drop (i + 1)) (xs ++ [n]) b'') else CompW F' target ifs elt cv P (items.drop (i + 1)) xs b') (fun _ _ => False) s₅)
          ha st LW R₄.dom fun v h' tk iv st' hk => ?_) (fun r s₅ h₅ => ?_) fun _ _ f => f.elim
      · have R₅ := R₄.wr (tk := tk) K' hk hwO (W.cls i _ st) fun b hb => fresh b hb
        refine wpAny_mono (q K' O' ad _ v R₅ iv) (fun _ s₆ h₆ => ?_) fun _ _ f => f
        obtain ⟨σ₆, ad₆, R₆, L₆, q⟩ := h₆
        have nO' : ∀ {b : Addr}, b ∈ fp → ¬ O' b := fun hb q => by
          rcases q with q | rfl
          · exact W.off _ hb q
          · exact nCf hb
        refine ⟨⟨R₆.same, R₆.keep, fun a o n hb e => ?_, W.frame _ _ _ st' fun b hb o e => (L₆ b o (nO' hb) e).2, ?_⟩, σ₆, ad₆, R₆, q⟩
        · have nC : ¬ O' a := fun q => by
            rcases q with q | rfl
            · exact n q
            · rw [nC₂] at e; cases e
          exact (L₆ a o nC (hk a o hb (keepN a o n hb e))).2
        · refine hD.at fun o e => (L₆ D o (fun q => ?_) (hk D o (fun hb => nDf (W.sub _ hb)) e)).2
          rcases q with q | q
          · exact nDO q
          · exact hDC q
      · obtain ⟨v, rfl, h₅⟩ := h₅
        refine wpAny_mono h₅ (fun _ s₆ h₆ => wpAny_mono h₆ (fun _ s₇ h₇ => ?_) fun _ _ f => f.elim) fun _ _ f => f.elim
        obtain ⟨M₇, σ₇, ad₇, R₇, q⟩ := h₇
        refine wpAny_mono (AIfs_run q K' R₇) (fun ok s₈ h₈ => ?_) fun _ _ f => f
        obtain ⟨b₈, y, B₈, q⟩ := h₈
        have M₈ := midExt M₇ y
        have R₈ := R₇.ext K' y B₈
        cases ok with
        | false =>
          simp only [Bool.false_eq_true, if_false] at q ⊢
          obtain ⟨m₈, _, V₈⟩ := R₈.vars
          exact ⟨_, by omega, i + 1, ys, xs, b₈, m₈, hlt, rfl, M₈.1, M₈.2.1, M₈.2.2.1, M₈.2.2.2.1, V₈.ns, M₈.2.2.2.2, hys, by omega, B₈, q⟩
        | true =>
          simp only [if_true] at q ⊢
          refine wpAny_mono (q K' O' ad₇ s₈ R₈) (fun u s₉ h₉ => ?_) fun _ _ f => f
          obtain ⟨d, b₉, j, z, B₉, n, rfl, q⟩ := h₉
          simp only [Is] at j
          obtain ⟨t, rfl⟩ := j
          have M₉ := midExt M₈ z
          have R₉ := R₈.ext K' z B₉
          obtain ⟨m₉, _, V₉⟩ := R₉.vars
          obtain ⟨⟨h, tk, rfl⟩, m1, m2, m3, m4⟩ := M₉
          have ey := hys.length
          refine wpAny_list_append_plain (hsz := by simp only [List.size_toArray, sizeLine_eq]; simp only [lid] at hl; omega) m4 fun h' hl' hs' => ?_
          refine ⟨_, by omega, i + 1, ys ++ [.int n t], xs ++ [n], b₉, m₉, hlt, rfl, ⟨h', _, rfl⟩, fun a o e nb => hs'.extBut a o (fun q => ?_) (m1 a o e nb), fun a o na hb e => hs'.extBut a o (fun q => ?_) (m2 a o na hb e), W.frame _ _ _ m3 fun b hb o e => hs'.extBut b o (fun q => nDf (q ▸ hb)) e,
            V₉.ns.sameBut hs' (Ne.symm hDC), by simpa using hl', intsAre_snoc hys n t, by simp; omega, ?_, q⟩
          · rw [q, nDs] at e; cases e
          · rw [q, nD₂] at e; cases e
          · have nb : ∀ {a : Addr}, inBox F.bx a → a ≠ D := fun hb q => nDO (q ▸ wO _ hb)
            have B₉' : BoxIs F.bx h b₉ := B₉
            unfold BoxIs at B₉' ⊢
            cases hbx : F.bx with
            | none => trivial
            | some p =>
              rw [hbx] at B₉'
              simp only at B₉' ⊢
              obtain ⟨n, ⟨t, y⟩, vs, y', i⟩ := B₉'
              exact ⟨n, ⟨t, y.at fun o e => hs'.extBut _ o (nb (by rw [hbx]; exact .inl rfl)) e⟩, vs, y'.at fun o e => hs'.extBut _ o (nb (by rw [hbx]; exact .inr rfl)) e, i⟩
    · have hin : i = items.length := by omega
      subst hin
      rw [List.drop_length] at q
      simp only [CompW] at q
      refine wpAny_mono (W.done s₄ (fun s₅ => RR (.ref D) C (.ok .next) s₅) st fun h' tk hk => ?_) (fun r s₅ h₅ => ?_) fun _ _ f => f.elim
      · obtain ⟨h, t, rfl⟩ := hs₄
        have nwO : ∀ {a : Addr}, O a → a ∉ wr := fun h hb => W.off _ (W.sub _ hb) h
        refine hRR D C h' tk m ys xs b' nDs nCs hDC (hn.at' fun o e => hk C o (fun hb => nCf (W.sub _ hb)) e) (hD.at fun o e => hk D o (fun hb => nDf (W.sub _ hb)) e) hys (by omega) ⟨⟨h', tk, rfl⟩, fun a o e nb => hk a o (fun hb => by rw [fresh a hb] at e; cases e) (keepS a o e nb)⟩ ?_ q
        have B'' : BoxIs F.bx h b' := B'
        unfold BoxIs at B'' ⊢
        cases hbx : F.bx with
        | none => trivial
        | some p =>
          rw [hbx] at B''
          simp only at B'' ⊢
          obtain ⟨n, ⟨t, y⟩, vs, y', i⟩ := B''
          exact ⟨n, ⟨t, y.at fun o e => hk _ o (nwO (wO _ (by rw [hbx]; exact .inl rfl))) e⟩, vs, y'.at fun o e => hk _ o (nwO (wO _ (by rw [hbx]; exact .inr rfl))) e, i⟩
      · obtain ⟨rfl, h₅⟩ := h₅
        exact h₅
  exact codeAny_compStart_list (loop _ rfl) (wpAny_mono (W.self 0 _ _ hst₁ (loop _ rfl)) (fun _ _ h => h) fun _ _ f => f.elim)

theorem not_seq_ns {h : Heap} {C : Addr} {m : Str → Option Value} (x : h.Ns C m) : ∀ o, h.get? C = some o → ¬ seqCls o := fun o e q => by
  obtain ⟨o', es, ep, e', d, _⟩ := x
  rw [e] at e'; cases e'
  obtain ⟨xs, n, q⟩ := q
  rw [d] at q; cases q

/-- a comprehension of ints, as a value -/
theorem AE_comp {elt iter target : Expr} {ifs : List Expr} {scope : Scope} {cl : List (Str × Addr)} {pos : Pos} {Q : AV → BS → Prop} (cv : List (Str × Slot))
    (h : AI F iter target σ fun items b => items.length ≤ lid ∧ ∀ C h₀ O₀ s₀, CompW (compFm F scope cl C h₀ O₀ s₀) target ifs elt cv (fun xs b' => Q (.ints xs) b') items [] b)
    (hclos : closureFor scope F.env = pure cl) (hcell : (scope.names.all fun y => y.2 != .cell) = true) (hkind : scope.kind = .function) (hnames : (scope.names.all fun y => y.2 != .local || scope.names.lookup y.1 == some .local) = true)
    (hcs : CellSub cl F.env.cells) (hcv : AllIn cv σ.vars) (hcap : CapOk F.env (compEnvC scope cl 0 F.env) cv) (hs : ∀ x, foldedSetIterable iter F.env x = pure x := by intro _; rfl) :
    AE F (.ListComp elt [⟨target, iter, ifs, 0⟩] scope pos) σ Q := fun K O ad s R => by
  have hnames' : ∀ y ∈ scope.names, y.2 = .local → scope.names.lookup y.1 = some .local := fun y hy e => by
    have := List.all_eq_true.mp hnames y hy
    simpa [e] using this
  rw [eval_ListComp]
  refine wpAny_comprehension_free (use := none) rfl hs hclos hkind hnames' (wpAny_mono (h K O ad s R) (fun xv s₁ h₁ => wpAny_mono h₁ (fun it s₂ h₂ => ?_) fun _ _ f => f) fun _ _ f => f)
  obtain ⟨items, b, I, fp, wr, St, rfl, x, B, W, fresh, hl, q⟩ := h₂
  refine comp_core (cv := cv) (P := fun xs b' => Q (.ints xs) b') (RR := fun acc C => compPost (model F.C.prog F.C.w) F.A (fun _ _ => False) none (EPost F O s Q) acc C) hcell hkind hcs hcv hcap K R x B W fresh hl q ?_
  intro D C h tk m ys xs b' nD nC hDC hn hD hi hxl y B' q
  refine ⟨m, hn, fun h' hs' => ?_⟩
  have nO : ∀ {a : Addr}, s.heap.get? a = none → ¬ O a := fun n o => let ⟨_, e⟩ := R.dom _ o; by rw [n] at e; cases e
  have kp : ∀ a o, a ≠ C → h.get? a = some o → h'.get? a = some o := fun a o n e => hs'.extBut a o n e
  refine ⟨.ints xs, b', ?_, ⟨⟨h', tk, rfl⟩, fun a o e nb => kp a o (fun q => by rw [q, nC] at e; cases e) (y.keep a o e nb)⟩, ?_, q⟩
  · simp only [Is]
    exact ⟨D, ys, rfl, nO nD, hD.at fun o e => kp D o hDC e, hi, hxl⟩
  · have B'' : BoxIs F.bx h b' := B'
    have nb : ∀ {a : Addr}, inBox F.bx a → a ≠ C := fun hb q => nO nC (q ▸ R.wO K _ hb)
    show BoxIs F.bx h' b'
    unfold BoxIs at B'' ⊢
    cases hbx : F.bx with
    | none => trivial
    | some p =>
      rw [hbx] at B''
      simp only at B'' ⊢
      obtain ⟨n, ⟨t, y⟩, vs, y', i⟩ := B''
      exact ⟨n, ⟨t, y.at fun o e => kp _ o (nb (by rw [hbx]; exact .inl rfl)) e⟩, vs, y'.at fun o e => kp _ o (nb (by rw [hbx]; exact .inr rfl)) e, i⟩

/-- a comprehension of ints laid into a local of the same line -/
theorem AS_assign_comp {elt iter target : Expr} {ifs : List Expr} {scope : Scope} {cl : List (Str × Addr)} {x : Str} {p pos spos : Pos} {Q : AFl → St → Prop} (cv : List (Str × Slot))
    (h : AI F iter target σ fun items b => items.length ≤ lid ∧ ∀ C h₀ O₀ s₀, CompW (compFm F scope cl C h₀ O₀ s₀) target ifs elt cv (fun xs b' => Q .next ⟨(x, .av (.ints xs)) :: σ.vars, b'⟩) items [] b)
    (hclos : closureFor scope F.env = pure cl) (hcell : (scope.names.all fun y => y.2 != .cell) = true) (hkind : scope.kind = .function) (hnames : (scope.names.all fun y => y.2 != .local || scope.names.lookup y.1 == some .local) = true)
    (hcs : CellSub cl F.env.cells) (hcv : AllIn cv σ.vars) (hcap : CapOk F.env (compEnvC scope cl 0 F.env) cv) (hx : F.env.kindOf x = some .local)
    (hsw : swapsWith (.ListComp elt [⟨target, iter, ifs, 0⟩] scope pos) (some (.Name x p)) spos.line F.env = pure true) (hs : ∀ x, foldedSetIterable iter F.env x = pure x := by intro _; rfl) :
    AS F (.Assign [.Name x p] (.ListComp elt [⟨target, iter, ifs, 0⟩] scope pos) spos) σ Q := fun K O ad s R => by
  have hnames' : ∀ y ∈ scope.names, y.2 = .local → scope.names.lookup y.1 = some .local := fun y hy e => by
    have := List.all_eq_true.mp hnames y hy
    simpa [e] using this
  rw [exec_Assign_Name_used _ _ _ _ hsw]
  refine wpAny_bind (wpAny_standAt (wpAny_bind ?_))
  show wpAny _ _ (do let _ ← comprehension (.ListComp elt [⟨target, iter, ifs, 0⟩] scope pos) scope F.env _ (newList []) false (eval iter F.env) (some (assign (.Name x p) F.env))) _ _ s
  refine wpAny_bind (wpAny_mono (wpAny_comprehension_free (use := some (assign (.Name x p) F.env)) (Q := fun _ s' => SPost F O s Q .next s') rfl hs hclos hkind hnames'
    (wpAny_mono (h K O ad s R) (fun xv s₁ h₁ => wpAny_mono h₁ (fun it s₂ h₂ => ?_) fun _ _ f => f) fun _ _ f => f)) (fun _ s' hq => wpAny_pure (wpAny_pure hq)) fun _ _ f => f)
  obtain ⟨items, b, I, fp, wr, St, rfl, y, B, W, fresh, hl, q⟩ := h₂
  refine comp_core (cv := cv) (P := fun xs b' => Q .next ⟨(x, .av (.ints xs)) :: σ.vars, b'⟩) (RR := fun acc C => compPost (model F.C.prog F.C.w) F.A (fun _ _ => False) (some (assign (.Name x p) F.env)) (fun _ s' => SPost F O s Q .next s') acc C) hcell hkind hcs hcv hcap K R y B W fresh hl q ?_
  intro D C h tk m ys xs b' nD nC hDC hn hD hi hxl z B' q
  have nO : ∀ {a : Addr}, s.heap.get? a = none → ¬ O a := fun n o => let ⟨_, e⟩ := R.dom _ o; by rw [n] at e; cases e
  have R₁ := R.ext K z B'
  show wpAny _ _ (assign (.Name x p) F.env (.ref D)) _ _ _
  refine wpAny_assign_Name (R₁.put K (.inl hx) (a := .ints xs) ?_ fun s₂ ad₂ R₂ L₂ => ?_)
  · simp only [Is]
    exact ⟨D, ys, rfl, nO nD, hD, hi, hxl⟩
  · obtain ⟨o, es, ep, eo, r⟩ := hn
    have hn₂ : s₂.heap.Ns C m := ⟨o, es, ep, (L₂ C o (nO nC) eo).2, r⟩
    refine ⟨m, hn₂, fun h' hs' => ?_⟩
    have R₃ := R₂.wr (wr := [C]) (h' := h') (tk := s₂.toks) K (fun a o n e => hs'.extBut a o (fun q => n (by rw [q]; exact List.mem_singleton.mpr rfl)) e)
      (fun a ha => by cases List.mem_singleton.mp ha; exact nO nC) (fun a ha => by cases List.mem_singleton.mp ha; exact not_seq_ns hn₂) (fun a ha => by cases List.mem_singleton.mp ha; exact R.new₀ K nC)
    refine ⟨.next, _, O, ad₂, trivial, R₃, fun a o n e => ?_, q⟩
    obtain ⟨n', e'⟩ := ((z.le (R.wO K)).trans L₂) a o n e
    exact ⟨n', hs'.extBut a o (fun q => by rw [q, nC] at e; cases e) e'⟩
end

section
variable {F : Fm} {σ : St} {Q : List AV → BS → Prop}

theorem AI_typ {x : Str} {id : String} {p pos : Pos} {e target : Expr} {es : List Expr}
    (h : AL F pos (e :: es) σ fun as b => ∀ O s vs, (∀ a, O a → ∃ o, s.heap.get? a = some o) → IsAll F.bx O s.heap as vs → F.Ok →
      wpAny (model F.C.prog F.C.w) F.A (call (.type id) vs) (fun xv s₁ => wpAny (model F.C.prog F.C.w) F.A (pyIter xv) (fun it s₂ => ∃ items I fp wr St, it = .ref I ∧ (∃ h tk, s₂ = { s with heap := h, toks := tk }) ∧ (∀ b o, s.heap.get? b = some o → s₂.heap.get? b = some o) ∧
        IterAt F.C.prog F.C.w F.A target F.bx I fp wr items O s₂.heap St ∧ (∀ b ∈ wr, s.heap.get? b = none) ∧ Q items b) (fun _ _ => False) s₁) (fun _ _ => False) s)
    (room : ∀ K : F.Ok, F.C.mg x = none) (hb : bootBuiltins x = some (.type id)) (hn : x ≠ "__name__")
    (hx : F.env.kindOf x = some .globalImplicit) (he : starEach (e :: es) F.env = (false, eval e F.env) :: starEach es F.env) (hp : (backTo pos (starEach (e :: es) F.env)).any (·.1) = false) (hd : (x == ("__debug__" : Str)) = false) :
    AI F (.Call (.Name x p) (e :: es) [] pos) target σ Q := fun K O ad s R => by
  refine PyProof.Rows.Call_ (Name_function_global K.kind hx (loadGlobal_builtin (mg := F.C.mg) (mb := F.C.mb) (by rw [K.glob]; exact K.cx.g.keeps (R.base K)) (room K) (by rw [K.bl]; exact K.cx.b.keeps (R.base K)) ((K.cx.builtins x hn).trans hb) ?_) hd)
  refine PyProof.Rows.callWith_type hp ?_
  have h' := h K O ad s R
  rw [he] at h' ⊢
  refine evalArgs_plain (wpAny_mono h' (fun vs s₁ h₁ => ?_) fun _ _ f => f)
  obtain ⟨as, b, i, y, B, q⟩ := h₁
  have R₁ := R.ext K y B
  refine wpAny_mono (q O s₁ vs R₁.dom i K) (fun _ s₂ h => wpAny_mono h (fun it s₃ h => ?_) fun _ _ f => f) fun _ _ f => f
  obtain ⟨items, I, fp, wr, St, rfl, ⟨h, tk, rfl⟩, kp, W, fresh, q⟩ := h
  exact ⟨items, b, I, fp, wr, St, rfl, y.trans ⟨⟨h, tk, rfl⟩, fun b o e _ => kp b o e⟩, Ext.box kp B, W, fun b hb => no_of_ext R.dom (R.wO K) y R₁.dom (fresh b hb), q⟩

theorem keeps2 {h : Heap} {o o' : Obj} : ∀ b x, h.get? b = some x → ((h.push o).push o').get? b = some x := fun _ _ e => Heap.get?_push_of_some _ (Heap.get?_push_of_some _ e)

theorem AI_range1 {p pos : Pos} {e : Expr} {t : Str} {pt : Pos} (h : AE F e σ fun a b => ∃ n, a = .int n ∧ (-(2 ^ 62) ≤ n ∧ n < 2 ^ 62) ∧ Q ((rangeL 0 1 n.toNat).map AV.int) b)
    (hx : F.env.kindOf "range" = some .globalImplicit := by rfl) (he : starEach [e] F.env = (false, eval e F.env) :: starEach [] F.env := by rfl) : AI F (.Call (.Name "range" p) [e] [] pos) (.Name t pt) σ Q := by
  refine AI_typ (id := "range") (AL_cons (h.mono fun a b h => AL_nil ?_) he) (fun K => K.cx.nob _ (by decide)) (by decide +kernel) (by decide) hx he (by rw [he]; rfl) (by decide)
  obtain ⟨n, rfl, hn, q⟩ := h
  intro O s vs hO i0 K
  obtain ⟨v, rfl, i⟩ := isAll_one i0
  simp only [Is] at i
  obtain ⟨u, rfl⟩ := i
  refine call_range_1 (wpAny_pyIter_range (IsRange.new ..) (small_one (by decide) (by decide) hn.1 hn.2) ?_)
  have hs : Builtin.Range.rangeSize 0 n 1 = ((n.toNat : Nat) : Int) := by
    rw [rangeSize_one]; split <;> omega
  rw [hs]
  have hO' : ∀ a, O a → ∃ o, (s.heap.push { cls := .type "range", data := .fields #[.int 0 s.toks, .int n u, .int 1 (s.toks + 1)] }).get? a = some o := fun a h => let ⟨o, e⟩ := hO a h; ⟨o, Heap.get?_push_of_some _ e⟩
  refine ⟨_, _, _, _, _, rfl, ⟨_, _, rfl⟩, keeps2, IterAt.range K.room.handled hO', fun b hb => ?_, q⟩
  cases List.mem_singleton.mp hb
  cases e : s.heap.get? _ with
  | none => rfl
  | some o => exact absurd (Heap.lt_size e) (by rw [Heap.size_push]; exact Nat.not_lt.mpr (Nat.le_succ _))
theorem AI_range2 {p pos : Pos} {e₁ e₂ : Expr} {t : Str} {pt : Pos} (h : AE F e₁ σ fun a b => AE F e₂ { σ with box := b } fun c b' => ∃ m n, a = .int m ∧ c = .int n ∧ (-(2 ^ 62) ≤ m ∧ m < 2 ^ 62 ∧ -(2 ^ 62) ≤ n ∧ n < 2 ^ 62) ∧ Q ((rangeL m 1 (n - m).toNat).map AV.int) b')
    (hx : F.env.kindOf "range" = some .globalImplicit := by rfl) (he : starEach [e₁, e₂] F.env = (false, eval e₁ F.env) :: starEach [e₂] F.env := by rfl) (he' : starEach [e₂] F.env = (false, eval e₂ F.env) :: starEach [] F.env := by rfl) :
    AI F (.Call (.Name "range" p) [e₁, e₂] [] pos) (.Name t pt) σ Q := by
  refine AI_typ (id := "range") (AL_cons (h.mono fun a b h => AL_cons (h.mono fun c b' h => AL_nil ?_) he') he) (fun K => K.cx.nob _ (by decide)) (by decide +kernel) (by decide) hx he (by rw [he, he']; rfl) (by decide)
  obtain ⟨m, n, rfl, rfl, hn, q⟩ := h
  intro O s vs hO i0 K
  obtain ⟨v, u, rfl, i, j⟩ := isAll_two i0
  simp only [Is] at i j
  obtain ⟨t₁, rfl⟩ := i; obtain ⟨t₂, rfl⟩ := j
  refine call_range_2 (wpAny_pyIter_range (IsRange.new ..) (small_one hn.1 hn.2.1 hn.2.2.1 hn.2.2.2) ?_)
  have hs : Builtin.Range.rangeSize m n 1 = (((n - m).toNat : Nat) : Int) := by
    rw [rangeSize_one]; split <;> omega
  rw [hs]
  have hO' : ∀ a, O a → ∃ o, (s.heap.push { cls := .type "range", data := .fields #[.int m t₁, .int n t₂, .int 1 s.toks] }).get? a = some o := fun a h => let ⟨o, e⟩ := hO a h; ⟨o, Heap.get?_push_of_some _ e⟩
  refine ⟨_, _, _, _, _, rfl, ⟨_, _, rfl⟩, keeps2, IterAt.range K.room.handled hO', fun b hb => ?_, q⟩
  cases List.mem_singleton.mp hb
  cases e : s.heap.get? _ with
  | none => rfl
  | some o => exact absurd (Heap.lt_size e) (by rw [Heap.size_push]; exact Nat.not_lt.mpr (Nat.le_succ _))
theorem rangeSize_down (a b : Int) : Builtin.Range.rangeSize a b (-1) = (((a - b).toNat : Nat) : Int) := by
  unfold Builtin.Range.rangeSize
  simp only [show ¬ ((-1 : Int) > 0) by decide, if_false]
  split <;> simp <;> omega
theorem small_down {a b : Int} (ha : -(2 ^ 62) ≤ a) (ha' : a < 2 ^ 62) (hb : -(2 ^ 62) ≤ b) (hb' : b < 2 ^ 62) : Builtin.Range.small a b (-1) = true := by
  unfold Builtin.Range.small
  rw [rangeSize_down]
  simp only [Builtin.Range.rangeFitsLong, Bool.and_eq_true, Bool.or_eq_true, decide_eq_true_eq, beq_iff_eq, show ¬ ((-1 : Int) > 0) by decide, if_false]
  omega
/-- a range by minus ones -/
theorem AI_range3 {p pos : Pos} {e₁ e₂ e₃ : Expr} {t : Str} {pt : Pos} (h : AE F e₁ σ fun a b => AE F e₂ { σ with box := b } fun c b' => AE F e₃ { σ with box := b' } fun d b'' => ∃ m n, a = .int m ∧ c = .int n ∧ d = .int (-1) ∧ (-(2 ^ 62) ≤ m ∧ m < 2 ^ 62 ∧ -(2 ^ 62) ≤ n ∧ n < 2 ^ 62) ∧ Q ((rangeL m (-1) (m - n).toNat).map AV.int) b'')
    (hx : F.env.kindOf "range" = some .globalImplicit := by rfl) (he : starEach [e₁, e₂, e₃] F.env = (false, eval e₁ F.env) :: starEach [e₂, e₃] F.env := by rfl) (he' : starEach [e₂, e₃] F.env = (false, eval e₂ F.env) :: starEach [e₃] F.env := by rfl) (he'' : starEach [e₃] F.env = (false, eval e₃ F.env) :: starEach [] F.env := by rfl) :
    AI F (.Call (.Name "range" p) [e₁, e₂, e₃] [] pos) (.Name t pt) σ Q := by
  refine AI_typ (id := "range") (AL_cons (h.mono fun a b h => AL_cons (h.mono fun c b' h => AL_cons (h.mono fun d b'' h => AL_nil ?_) he'') he') he) (fun K => K.cx.nob _ (by decide)) (by decide +kernel) (by decide) hx he (by rw [he, he', he'']; rfl) (by decide)
  obtain ⟨m, n, rfl, rfl, rfl, hn, q⟩ := h
  intro O s vs hO i0 K
  simp only [IsAll, Is] at i0
  obtain ⟨_, _, rfl, ⟨t₁, rfl⟩, _, _, rfl, ⟨t₂, rfl⟩, _, _, rfl, ⟨t₃, rfl⟩, rfl⟩ := i0
  refine call_range_3 (by decide) (wpAny_pyIter_range (IsRange.new ..) (small_down hn.1 hn.2.1 hn.2.2.1 hn.2.2.2) ?_)
  rw [rangeSize_down]
  have hO' : ∀ a, O a → ∃ o, (s.heap.push { cls := .type "range", data := .fields #[.int m t₁, .int n t₂, .int (-1) t₃] }).get? a = some o := fun a h => let ⟨o, e⟩ := hO a h; ⟨o, Heap.get?_push_of_some _ e⟩
  refine ⟨_, _, _, _, _, rfl, ⟨_, _, rfl⟩, keeps2, IterAt.range K.room.handled hO', fun b hb => ?_, q⟩
  cases List.mem_singleton.mp hb
  cases e : s.heap.get? _ with
  | none => rfl
  | some o => exact absurd (Heap.lt_size e) (by rw [Heap.size_push]; exact Nat.not_lt.mpr (Nat.le_succ _))

theorem AI_enum {p pos : Pos} {e : Expr} {elts : List Expr} {k : Nat} {pt : Pos} (h : AE F e σ fun a b => ∃ xs, a = .ints xs ∧ Q (enumL 0 xs) b)
    (hx : F.env.kindOf "enumerate" = some .globalImplicit := by rfl) (he : starEach [e] F.env = (false, eval e F.env) :: starEach [] F.env := by rfl) : AI F (.Call (.Name "enumerate" p) [e] [] pos) (.Tuple elts k pt) σ Q := by
  refine AI_typ (id := "enumerate") (AL_cons (h.mono fun a b h => AL_nil ?_) he) (fun K => K.cx.nob _ (by decide)) (by decide +kernel) (by decide) hx he (by rw [he]; rfl) (by decide)
  obtain ⟨xs, rfl, q⟩ := h
  intro O s vs hO i0 K
  obtain ⟨v, rfl, i⟩ := isAll_one i0
  simp only [Is] at i
  obtain ⟨l, vs, rfl, nO, p, i, hl⟩ := i
  have hlt : l < s.heap.objs.size := let ⟨_, e⟩ := p; Heap.lt_size e
  refine call_enumerate_list p.isList fun h' hE hI hsz hk => wpAny_pyIter_enum hE ?_
  have hOlt : ∀ a, O a → a < s.heap.objs.size := fun a h => let ⟨_, e⟩ := hO a h; Heap.lt_size e
  refine ⟨_, _, _, _, _, rfl, ⟨_, _, rfl⟩, hk, IterAt.enum K.room.handled (fun a h => ⟨Nat.lt_succ_of_lt (hOlt a h), hOlt a h⟩) nO (p.isList.at fun o e => hk l o e) i (Nat.succ_ne_self _) (Nat.ne_of_lt (Nat.lt_succ_of_lt hlt)) (Nat.ne_of_lt hlt) hE hI, fun b hb => ?_, q⟩
  have hb : b = s.heap.objs.size + 1 ∨ b = s.heap.objs.size := by simpa using hb
  cases e : s.heap.get? b with
  | none => rfl
  | some o =>
    have := Heap.lt_size e
    rcases hb with rfl | rfl
    · exact absurd this (Nat.not_lt.mpr (Nat.le_succ _))
    · exact absurd this (Nat.lt_irrefl _)
end

/-! Lists that a def changes: each is the own of one name. -/
noncomputable def AEo (F : Fm) (e : Expr) (σ : St) (Q : List Int → BS → Prop) : Prop :=
  F.Ok → ∀ O ad s, Rep F σ O ad s → wpAny (model F.C.prog F.C.w) F.A (eval e F.env) (fun v s' => ∃ xs b l vs, v = .ref l ∧ s.heap.get? l = none ∧ s'.heap.PlainList l (List.toArray vs) ∧ IntsAre vs xs ∧ xs.length ≤ lid ∧ Ext F.bx s s' ∧ BoxIs F.bx s'.heap b ∧ Q xs b) (fun _ _ => False) s

theorem Rep.extO {F : Fm} {σ : St} {O : Addr → Prop} {ad : Str → Addr} {s s' : Shared} {b : BS} {l : Addr} (K : F.Ok) (R : Rep F σ O ad s) (x : Ext F.bx s s') (B : BoxIs F.bx s'.heap b) (hn : s.heap.get? l = none) (hl : ∃ o, s'.heap.get? l = some o) :
    Rep F { σ with box := b } (fun a => O a ∨ a = l) ad s' ∧ Le O s.heap (fun a => O a ∨ a = l) s'.heap := by
  obtain ⟨m, cm, V⟩ := R.vars
  have R' := R.ext K x B
  obtain ⟨m', cm', V'⟩ := R'.vars
  have L : Le O s.heap (fun a => O a ∨ a = l) s'.heap := fun a o n e => ⟨(fun q => by
    rcases q with q | rfl
    · exact n q
    · rw [hn] at e; cases e), x.keep a o e fun hb => n (R.wO K a hb)⟩
  refine ⟨⟨R'.same, R'.keep, fun a h => .inl (R'.sub a h), fun a h => ?_, .inl R'.Lo, R'.Lnew, ⟨m, cm, ?_⟩, R'.capart, B⟩, L⟩
  · rcases h with h | rfl
    · exact R'.dom a h
    · exact hl
  · refine ⟨?_, fun y c hc => ?_, fun y a hy => ?_, V.own⟩
    · obtain ⟨o, es, ep, e, r⟩ := V.ns
      exact ⟨o, es, ep, x.keep _ o e (K.new_box R.Lnew), r⟩
    · obtain ⟨h1, ⟨o, e, d⟩, h3, h4⟩ := V.cell y c hc
      exact ⟨.inl h1, ⟨o, x.keep c o e h4, d⟩, h3, h4⟩
    · obtain ⟨v, hv, r⟩ := V.var y a hy
      exact ⟨v, slotIs_le L.w (fun vs ho hn p => ⟨.inl ho, p.at fun o e => x.keep _ o e (K.new_box hn)⟩) a v hv, r⟩

section
variable {F : Fm} {σ : St}
theorem AEo_of {e : Expr} {Q : List Int → BS → Prop} (h : F.Ok → ∀ O ad s, Rep F σ O ad s → wpAny (model F.C.prog F.C.w) F.A (eval e F.env) (fun v s' => ∃ xs b l vs, v = .ref l ∧ s.heap.get? l = none ∧ s'.heap.PlainList l (List.toArray vs) ∧ IntsAre vs xs ∧ xs.length ≤ lid ∧ Ext F.bx s s' ∧ BoxIs F.bx s'.heap b ∧ Q xs b) (fun _ _ => False) s) : AEo F e σ Q := h

theorem ownAddr {F : Fm} {σ : St} {O : Addr → Prop} {ad : Str → Addr} {s : Shared} (R : Rep F σ O ad s) {y : Str} {b : Slot} (hy : σ.vars.lookup y = some b) (hb : isOwn b) : O (ad y) := by
  obtain ⟨m, cm, V⟩ := R.vars
  obtain ⟨v, hv, _⟩ := V.var y b hy
  cases b with
  | av a => exact hb.elim
  | own xs => exact hv.2.1

theorem Rep.fresh_ad {O : Addr → Prop} {ad : Str → Addr} {s : Shared} {x : Str} {l : Addr} (K : F.Ok) (R : Rep F σ O ad s) (hn : s.heap.get? l = none) {O' : Addr → Prop} (h : O' l) : FreshAd F σ.vars O' ad x l := by
  obtain ⟨m, cm, V⟩ := R.vars
  have ne : ∀ a, O a → l ≠ a := fun a ha q => by
    obtain ⟨o, e⟩ := R.dom a ha
    rw [← q, hn] at e; cases e
  exact ⟨h, R.new₀ K hn, ne _ R.Lo, fun y c hc => ne _ (V.cell y c hc).1, fun y b hy hb _ => ne _ (ownAddr R hy hb)⟩

theorem AS_own {x : Str} {p pos : Pos} {e : Expr} {Q : AFl → St → Prop} (h : AEo F e σ fun xs b => Q .next ⟨(x, .own xs) :: σ.vars, b⟩) (hk : Storable F x)
    (hs : swapsWith e (some (.Name x p)) pos.line F.env = pure false := by rfl) : AS F (.Assign [.Name x p] e pos) σ Q := fun K O ad s R => by
  refine wpAny_Assign_Name (wpAny_mono (h K O ad s R) (fun v s₁ h₁ => ?_) fun _ _ f => f) hs
  obtain ⟨xs, b, l, vs, rfl, hn, hp, hi, hl, y, B, q⟩ := h₁
  obtain ⟨R₁, L₁⟩ := R.extO K y B hn (let ⟨n, e⟩ := hp; ⟨_, e⟩)
  refine R₁.store (a := .own xs) (d := l) K (hk.imp id fun ⟨a, b, c⟩ => ⟨a, b, c x⟩) ⟨rfl, .inr rfl, R.new₀ K hn, vs, hp, hi, hl⟩ (fun _ => R.fresh_ad K hn (.inr rfl)) fun s' R' L _ _ => ⟨.next, _, _, _, trivial, R', L₁.trans L, q⟩

theorem AEo_list {e : Expr} {p pos : Pos} {Q : List Int → BS → Prop} (h : AE F e σ fun a b => ∃ xs, a = .ints xs ∧ Q xs b)
    (hx : F.env.kindOf "list" = some .globalImplicit := by rfl) (he : starEach [e] F.env = (false, eval e F.env) :: starEach [] F.env := by rfl) : AEo F (.Call (.Name "list" p) [e] [] pos) σ Q := fun K O ad s R => by
  refine PyProof.Rows.Call_ (Name_function_global K.kind hx (loadGlobal_builtin (mg := F.C.mg) (mb := F.C.mb) (by rw [K.glob]; exact K.cx.g.keeps (R.base K)) (K.cx.nob _ (by decide)) (by rw [K.bl]; exact K.cx.b.keeps (R.base K)) ((K.cx.builtins _ (by decide)).trans (by decide +kernel)) (v := .type "list") ?_) (by decide))
  refine PyProof.Rows.callWith_type (by rw [he]; rfl) ?_
  rw [he]
  refine evalArgs_plain (spliced_cons (wpAny_mono (h K O ad s R) (fun v s₁ h₁ => ?_) fun _ _ f => f))
  obtain ⟨a, b, i, y, B, xs, rfl, q⟩ := h₁
  simp only [Is] at i
  obtain ⟨l, vs, rfl, _, ⟨k, p⟩, i, hl⟩ := i
  have e1 := i.length
  have R₁ := R.ext K y B
  refine spliced_nil ?_
  refine call_list_seq (hsz := by simp only [List.size_toArray, sizeLine_eq]; simp only [lid] at hl; omega) l (.inl rfl) p rfl rfl fun h' c' kp hD => ?_
  exact ⟨xs, b, _, vs, rfl, no_of_ext R.dom (R.wO K) y R₁.dom no_of_size, ⟨c', hD⟩, i, hl, y.trans ⟨⟨h', s₁.toks, rfl⟩, fun b o e _ => kp b o e⟩, Ext.box kp B, q⟩
theorem AEo_nil {pos : Pos} {Q : List Int → BS → Prop} (h : Q [] σ.box) : AEo F (.List [] pos) σ Q := fun K O ad s R => by
  refine PyProof.Rows.List_ (args_nil (wpAny_newList ⟨[], σ.box, _, [], rfl, no_of_size, ⟨0, Heap.get?_push_size _ rfl⟩, .nil, Nat.zero_le _, Ext.of_keeps fun _ _ e => Heap.get?_push_of_some _ e, Ext.box (fun _ _ e => Heap.get?_push_of_some _ e) R.box, h⟩))
/-- [c] * e -/
theorem AEo_mul {l e : Expr} {pos : Pos} {Q : List Int → BS → Prop} (h : AE F l σ fun a b => ∃ xs, a = .ints xs ∧ AE F e { σ with box := b } fun c b' => ∃ n, c = .int n ∧ (n < 2 ^ 62 ∧ -(2 ^ 62) < n ∧ xs.length * n.toNat ≤ lid) ∧ Q (List.replicate n.toNat xs).flatten b') :
    AEo F (.BinOp l .Mult e pos) σ Q := fun K O ad s R => by
  refine wpAny_BinOp (wpAny_mono (h K O ad s R) (fun v s₁ h₁ => ?_) fun _ _ f => f)
  obtain ⟨a, b, i, y, B, xs, rfl, h₁⟩ := h₁
  have R₁ := R.ext K y B
  refine wpAny_mono (h₁ K O ad s₁ R₁) (fun u s₂ h₂ => ?_) fun _ _ f => f
  obtain ⟨c, b', j, z, B', n, rfl, ⟨h1, h2, h3⟩, q⟩ := h₂
  have R₂ := R₁.ext K z B'
  have i := i.le (z.le (R.wO K)).w
  simp only [Is] at i j
  obtain ⟨l, vs, rfl, _, ⟨k, p⟩, hi, _⟩ := i; obtain ⟨t, rfl⟩ := j
  have e1 := hi.length
  have hsz : vs.toArray.size * n.toNat ≤ 2 ^ 24 := by
    simp only [List.size_toArray, e1]; simp only [lid] at h3; omega
  refine wpAny_binaryOp_repeat_ref (T := "list") (U := "int") (by decide) ⟨_, p, rfl⟩ (fun s' => typeIs_int s' n t) noFill_list_mul PySem.F.fills_int_mul PySem.F.slot_int_rmul repeat_list PySem.F.slot_int_index.lookup
    (call_meets PySem.F.slot_int_rmul (typeIs_int _ n t) PySem.F.entry_int_rmul (PySem.F.args_int_rmul_2 _ _) (int___rmul___int_list n t l vs.toArray k)
      ⟨p, rfl, ⟨_, p, rfl⟩, call_meets PySem.F.slot_list_mul ⟨_, p, rfl⟩ PySem.F.entry_list_mul (PySem.F.args_list_mul_2 _ _)
        (AutoListH.list___mul___list_int_3 l vs.toArray k n t (by simp [Builtin.List.listFitsIndex]; omega) (by omega) (by simp [Builtin.List.listTooLong, sizeLine] at hsz ⊢; omega))
        ⟨p, ?_⟩⟩)
  have yz := y.trans z
  refine ⟨_, b', _, (List.replicate n.toNat vs).flatten, rfl, no_of_ext R.dom (R.wO K) yz R₂.dom no_of_size, ⟨0, ?_⟩, PySem.W.KM.ints_rep hi n.toNat, ?_, yz.trans (Ext.of_keeps fun _ _ e => Heap.get?_push_of_some _ e), Ext.box (fun _ _ e => Heap.get?_push_of_some _ e) B', q⟩
  · rw [listMul_foldl_if]
    exact Heap.get?_push_size _ rfl
  · simp only [List.length_flatten, List.map_replicate, List.sum_replicate_nat]
    rw [Nat.mul_comm]; exact h3

/-- the own list of a name turned -/
theorem Rep.setOwn {O : Addr → Prop} {ad : Str → Addr} {s : Shared} {h' : Heap} {tk : Nat} {x : Str} {xs ys : List Int} {vs : List Value} (K : F.Ok) (R : Rep F σ O ad s) (hx : σ.vars.lookup x = some (.own xs))
    (hs : Heap.SameBut (ad x) s.heap h') (hp : h'.PlainList (ad x) (List.toArray vs)) (hi : IntsAre vs ys) (hl : ys.length ≤ lid) :
    Rep F { σ with vars := (x, .own ys) :: σ.vars } O ad { s with heap := h', toks := tk } ∧ Le O s.heap O h' := by
  obtain ⟨m, cm, V⟩ := R.vars
  obtain ⟨v, ⟨rfl, oO, o₀, _⟩, rx⟩ := V.var x _ hx
  obtain ⟨d1, d2, d3⟩ := V.own x _ hx trivial
  have kp : ∀ a o, a ≠ ad x → s.heap.get? a = some o → h'.get? a = some o := fun a o n e => hs.extBut a o n e
  have L : Le O s.heap O h' := fun a o n e => ⟨n, kp a o (fun q => n (q ▸ oO)) e⟩
  refine ⟨⟨?_, fun b o e n => kp b o (fun q => by rw [q, o₀] at e; cases e) (R.keep b o e n), R.sub, fun a ha => ?_, R.Lo, R.Lnew, ⟨m, cm, ?_, fun y c hc => ?_, fun y a hy => ?_, fun y a hy ho => ?_⟩, R.capart, ?_⟩, L⟩
  · obtain ⟨h, t, e⟩ := R.same
    exact ⟨h', tk, by rw [e]⟩
  · by_cases q : a = ad x
    · subst q; obtain ⟨n, e⟩ := hp; exact ⟨_, e⟩
    · obtain ⟨o, e⟩ := R.dom a ha
      exact ⟨o, kp a o q e⟩
  · exact V.ns.sameBut hs (Ne.symm d1)
  · exact ⟨(V.cell y c hc).1, (V.cell y c hc).2.1.sameBut hs (Ne.symm (d2 y c hc)), (V.cell y c hc).2.2⟩
  · rw [lookup_cons_eq] at hy
    by_cases q : y = x
    · subst q
      rw [if_pos rfl] at hy
      cases hy
      exact ⟨_, ⟨rfl, oO, o₀, vs, hp, hi, hl⟩, rx⟩
    · rw [if_neg q] at hy
      obtain ⟨u, hu, r⟩ := V.var y a hy
      refine ⟨u, ?_, r⟩
      cases a with
      | av b => exact Is.le L.w b u hu
      | own zs =>
        obtain ⟨e1, e2, e3, ws, p, i⟩ := hu
        exact ⟨e1, e2, e3, ws, p.at fun o e => kp _ o (fun h => d3 y _ hy trivial (Ne.symm q) h.symm) e, i⟩
  · have hy' : ∃ a', σ.vars.lookup y = some a' ∧ isOwn a' := by
      rw [lookup_cons_eq] at hy
      by_cases q : y = x
      · subst q; exact ⟨_, hx, trivial⟩
      · rw [if_neg q] at hy; exact ⟨a, hy, ho⟩
    obtain ⟨a', hy', ho'⟩ := hy'
    obtain ⟨o1, o2, o3⟩ := V.own y a' hy' ho'
    refine ⟨o1, o2, fun z b hz hb n => ?_⟩
    rw [lookup_cons_eq] at hz
    by_cases q : z = x
    · subst q; exact o3 z _ hx trivial n
    · rw [if_neg q] at hz; exact o3 z b hz hb n
  · have B := R.box
    unfold BoxIs at B ⊢
    have nb : ∀ {a : Addr}, inBox F.bx a → a ≠ ad x := fun hb q => K.new_box o₀ (q ▸ hb)
    cases hbx : F.bx with
    | none => trivial
    | some p =>
      rw [hbx] at B
      simp only at B ⊢
      obtain ⟨n, ⟨t, y⟩, ws, y', i⟩ := B
      exact ⟨n, ⟨t, y.at fun o e => kp _ o (nb (by rw [hbx]; exact .inl rfl)) e⟩, ws, y'.at fun o e => kp _ o (nb (by rw [hbx]; exact .inr rfl)) e, i⟩

theorem ints_set {x : Int} {u : Tok} : ∀ {vs : List Value} {ns : List Int}, IntsAre vs ns → ∀ j : Nat, IntsAre (vs.set j (.int x u)) (ns.set j x)
  | _, _, .nil, _ => .nil
  | _, _, .cons _ _ h, 0 => .cons x u h
  | _, _, .cons i t h, j + 1 => .cons i t (ints_set h j)

/-- x[i] = e, x a name's own list -/
theorem AS_set {x : Str} {px p pos : Pos} {e i : Expr} {xs : List Int} {Q : AFl → St → Prop} (hx : σ.vars.lookup x = some (.own xs))
    (h : AE F e σ fun a b => ∃ n, a = .int n ∧ AE F i { σ with box := b } fun c b' => ∃ k, c = .int k ∧ 0 ≤ k ∧ k < xs.length ∧ Q .next ⟨(x, .own (xs.set k.toNat n)) :: σ.vars, b'⟩)
    (hs : swapsWith e (some (.Subscript (.Name x px) i p)) pos.line F.env = pure false := by rfl) (hd : (x == ("__debug__" : Str)) = false := by decide) : AS F (.Assign [.Subscript (.Name x px) i p] e pos) σ Q := fun K O ad s R => by
  refine wpAny_Assign_Subscript (wpAny_mono (h K O ad s R) (fun v s₁ h₁ => ?_) fun _ _ f => f) hs
  obtain ⟨a, b, ia, y, B, n, rfl, h₁⟩ := h₁
  have R₁ := R.ext K y B
  simp only [Is] at ia
  obtain ⟨t, rfl⟩ := ia
  refine wpAny_Name (R₁.loadOwn K hx fun vs₁ p₁ i₁ l₁ => wpAny_mono (h₁ K O ad s₁ R₁) (fun u s₂ h₂ => ?_) fun _ _ f => f) hd
  obtain ⟨c, b', j, z, B', k, rfl, h0, hk, q⟩ := h₂
  have R₂ := R₁.ext K z B'
  simp only [Is] at j
  obtain ⟨t', rfl⟩ := j
  obtain ⟨m, cm, V⟩ := R₂.vars
  obtain ⟨_, ⟨_, _, _, vs, ⟨n', p⟩, hi, hl⟩, _⟩ := V.var x _ hx
  have e1 := hi.length
  simp only [lid] at hl
  refine ki_setAt p h0 (by omega) (by simp only [List.size_toArray]; omega) ?_
  obtain ⟨R₃, L₃⟩ := R₂.setOwn (h' := s₂.heap.update (ad x) (Obj.mapSeq (·.setIfInBounds k.toNat (.int n t)))) (tk := s₂.toks) (vs := vs.set k.toNat (.int n t)) (ys := xs.set k.toNat n) K hx (Heap.SameBut.update ..)
    ⟨n', by
      have := PySem.IsL.update (n := n') p (·.setIfInBounds k.toNat (.int n t))
      simpa using this⟩ (ints_set hi _) (by simp only [lid, List.length_set]; omega)
  exact ⟨.next, _, O, ad, trivial, R₃, (((y.le (R.wO K)).trans (z.le (R.wO K))).trans L₃), q⟩

/-- x.append(e) -/
theorem AS_append {x : Str} {px pa pc pos : Pos} {e : Expr} {xs : List Int} {Q : AFl → St → Prop} (hx : σ.vars.lookup x = some (.own xs))
    (h : AE F e σ fun a b => ∃ n, a = .int n ∧ xs.length < lid ∧ Q .next ⟨(x, .own (xs ++ [n])) :: σ.vars, b⟩)
    (hbase : attributeBase (.Name x px) "append" F.env (eval (.Name x px) F.env) = eval (.Name x px) F.env) (he : starEach [e] F.env = (false, eval e F.env) :: starEach [] F.env)
    (hline : (pa.endLine == pc.line) = true) (hi : interactive F.env = false) (hs : swapsWith (.Call (.Attribute (.Name x px) "append" pa) [e] [] pc) none pos.line F.env = pure false) (hd : (x == ("__debug__" : Str)) = false) :
    AS F (.Expr (.Call (.Attribute (.Name x px) "append" pa) [e] [] pc) pos) σ Q := fun K O ad s R => by
  refine wpAny_Expr (wpAny_Call_method hbase (by rw [he]; rfl) hline PySem.F.plainAttrs_list slot_list_append type_list_append (wpAny_Name (R.loadOwn K hx fun vs₀ p₀ i₀ l₀ => ?_) hd)) hi hs
  refine ⟨p₀.isList.typeIs, (fun a ea => by cases ea; obtain ⟨n, e⟩ := p₀; exact ⟨_, e, rfl⟩), ?_⟩
  refine callWith_builtin (by rw [he]; rfl) ?_
  rw [he]
  refine evalArgs_plain (spliced_cons (wpAny_mono (h K O ad s R) (fun v s₁ h₁ => spliced_nil ?_) fun _ _ f => f))
  obtain ⟨a, b, ia, y, B, n, rfl, hlt, q⟩ := h₁
  have R₁ := R.ext K y B
  simp only [Is] at ia
  obtain ⟨t, rfl⟩ := ia
  obtain ⟨m, cm, V⟩ := R₁.vars
  obtain ⟨_, ⟨_, _, _, vs, p, hi, hl⟩, _⟩ := V.var x _ hx
  have e1 := hi.length
  simp only [lid] at hlt
  refine wpAny_list_append_plain (hsz := by simp only [List.size_toArray, sizeLine_eq]; omega) p fun h' hp' hs' => ?_
  obtain ⟨R₃, L₃⟩ := R₁.setOwn (h' := h') (tk := s₁.toks) (vs := vs ++ [.int n t]) (ys := xs ++ [n]) K hx hs' (by simpa using hp') (intsAre_snoc hi n t) (by simp only [lid, List.length_append, List.length_singleton]; omega)
  exact ⟨.next, _, O, ad, trivial, R₃, (y.le (R.wO K)).trans L₃, q⟩

theorem ints_dropLast {vs : List Value} {ns : List Int} (h : IntsAre vs ns) : IntsAre vs.dropLast ns.dropLast := by
  have e := h.length
  rw [List.dropLast_eq_take, List.dropLast_eq_take, ← e]
  exact h.take _

theorem erase_last {α : Type} : ∀ l : List α, 0 < l.length → l.eraseIdx (l.length - 1) = l.dropLast
  | [_], _ => rfl
  | a :: b :: l, _ => by
    have := erase_last (b :: l) (by simp)
    simp only [List.length_cons, Nat.add_sub_cancel, List.dropLast_cons_cons] at this ⊢
    rw [List.eraseIdx_cons_succ, this]

/-- x.pop() -/
theorem AS_pop {x : Str} {px pa pc pos : Pos} {xs : List Int} {Q : AFl → St → Prop} (hx : σ.vars.lookup x = some (.own xs))
    (h : xs ≠ [] ∧ Q .next ⟨(x, .own xs.dropLast) :: σ.vars, σ.box⟩)
    (hbase : attributeBase (.Name x px) "pop" F.env (eval (.Name x px) F.env) = eval (.Name x px) F.env)
    (hline : (pa.endLine == pc.line) = true) (hi : interactive F.env = false) (hs : swapsWith (.Call (.Attribute (.Name x px) "pop" pa) [] [] pc) none pos.line F.env = pure false) (hd : (x == ("__debug__" : Str)) = false) :
    AS F (.Expr (.Call (.Attribute (.Name x px) "pop" pa) [] [] pc) pos) σ Q := fun K O ad s R => by
  refine wpAny_Expr (wpAny_Call_method hbase rfl hline PySem.F.plainAttrs_list PySem.F.slot_list_pop PySem.F.type_list_pop (wpAny_Name (R.loadOwn K hx fun vs ⟨n', p⟩ hi hl => ?_) hd)) hi hs
  refine ⟨(PySem.IsL.isList (n := n') p).typeIs, (fun a ea => by cases ea; exact ⟨_, p, rfl⟩), ?_⟩
  show wpAny _ _ (callWith pc (.builtin "list.pop") [.ref (ad x)] [] []) _ _ s
  refine callWith_builtin rfl (PyProof.Rows.evalArgs_none ?_)
  have e1 := hi.length
  simp only [lid] at hl
  obtain ⟨hne, q⟩ := h
  have hpos : 0 < vs.length := by
    rw [e1]; exact List.length_pos_iff.mpr hne
  obtain ⟨t, ht⟩ := item_of_ints hi (j := vs.length - 1) (by omega)
  refine call_meets PySem.F.slot_list_pop ⟨_, p, rfl⟩ PySem.F.entry_list_pop (PySem.F.args_list_pop_1 _) (PySem.MeetsSeq.list_pop_last (ad x) vs.toArray n' _ (by simpa using ht) (by simp only [List.size_toArray, sizeLine_eq]; omega)) ⟨p, ?_⟩
  have hd' : ((vs.toArray).eraseIdxIfInBounds (vs.toArray.size - 1)) = vs.dropLast.toArray := by
    apply Array.toList_inj.mp
    unfold Array.eraseIdxIfInBounds
    rw [dif_pos (by simp only [List.size_toArray]; omega), Array.toList_eraseIdx]
    simp only [List.size_toArray]
    exact erase_last vs hpos
  obtain ⟨R₃, L₃⟩ := R.setOwn (h' := s.heap.update (ad x) (Obj.mapSeq fun ys => ys.eraseIdxIfInBounds (vs.toArray.size - 1))) (tk := s.toks) (vs := vs.dropLast) (ys := xs.dropLast) K hx (Heap.SameBut.update ..)
    (by
      have := PySem.IsL.update (n := n') p (fun ys => ys.eraseIdxIfInBounds (vs.toArray.size - 1))
      rw [hd'] at this
      exact ⟨_, this⟩) (ints_dropLast hi) (by simp only [lid, List.length_dropLast]; omega)
  exact ⟨.next, _, O, ad, trivial, R₃, L₃, q⟩
end

/-- an own list becomes a plain one -/
theorem Rep.freeze {F : Fm} {σ : St} {O : Addr → Prop} {ad : Str → Addr} {s : Shared} {x : Str} {xs : List Int} (K : F.Ok) (R : Rep F σ O ad s) (hx : σ.vars.lookup x = some (.own xs)) :
    Rep F { σ with vars := (x, .av (.ints xs)) :: σ.vars } (fun a => O a ∧ a ≠ ad x) ad s ∧ Le O s.heap (fun a => O a ∧ a ≠ ad x) s.heap := by
  obtain ⟨m, cm, V⟩ := R.vars
  obtain ⟨v, ⟨rfl, oO, o₀, vs, hp, hi, hl⟩, rx⟩ := V.var x _ hx
  obtain ⟨d1, d2, d3⟩ := V.own x _ hx trivial
  have L : Le O s.heap (fun a => O a ∧ a ≠ ad x) s.heap := fun a o n e => ⟨fun q => n q.1, e⟩
  refine ⟨⟨R.same, R.keep, fun a h => ⟨R.sub a h, fun q => ?_⟩, fun a h => R.dom a h.1, ⟨R.Lo, Ne.symm d1⟩, R.Lnew, ⟨m, cm, V.ns, fun y c hc => ?_, fun y a hy => ?_, fun y a hy ho => ?_⟩, R.capart, R.box⟩, L⟩
  · obtain ⟨o, e⟩ := K.dom₀ a h
    rw [q, o₀] at e; cases e
  · obtain ⟨h1, h2⟩ := V.cell y c hc
    exact ⟨⟨h1, Ne.symm (d2 y c hc)⟩, h2⟩
  · rw [lookup_cons_eq] at hy
    by_cases q : y = x
    · subst q
      rw [if_pos rfl] at hy
      cases hy
      refine ⟨_, ?_, rx⟩
      show Is _ _ _ _ _
      simp only [Is]
      exact ⟨_, vs, rfl, fun q => q.2 rfl, hp, hi, hl⟩
    · rw [if_neg q] at hy
      obtain ⟨u, hu, r⟩ := V.var y a hy
      refine ⟨u, ?_, r⟩
      cases a with
      | av b => exact Is.le L.w b u hu
      | own zs =>
        obtain ⟨e1, e2, e3, ws, p, i⟩ := hu
        exact ⟨e1, ⟨e2, fun h => d3 y _ hy trivial (Ne.symm q) h.symm⟩, e3, ws, p, i⟩
  · rw [lookup_cons_eq] at hy
    by_cases q : y = x
    · subst q
      rw [if_pos rfl] at hy
      cases hy
      exact ho.elim
    · rw [if_neg q] at hy
      obtain ⟨o1, o2, o3⟩ := V.own y a hy ho
      refine ⟨o1, o2, fun z b hz hb n => ?_⟩
      rw [lookup_cons_eq] at hz
      by_cases q' : z = x
      · subst q'
        rw [if_pos rfl] at hz
        cases hz
        exact hb.elim
      · rw [if_neg q'] at hz; exact o3 z b hz hb n

section
variable {F : Fm} {σ : St}

theorem ASs_freeze (x : Str) {xs : List Int} {ss : List Stmt} {Q : AFl → St → Prop} (hx : σ.vars.lookup x = some (.own xs)) (h : ASs F ss ⟨(x, .av (.ints xs)) :: σ.vars, σ.box⟩ Q) : ASs F ss σ Q := fun K O ad s R => by
  obtain ⟨R', L⟩ := R.freeze K hx
  exact wpAny_mono (h K _ _ _ R') (fun _ _ h => h.trans L) fun _ _ f => f

theorem AE_subOwn {x : Str} {i : Expr} {p pos : Pos} {xs : List Int} {Q : AV → BS → Prop} (hx : σ.vars.lookup x = some (.own xs)) (h : AE F i σ fun c b => SubW (.ints xs) c fun d => Q d b)
    (hs : ∀ o u k, subscripted i false (.ref o) (.int k u) = operate [.ref o, .int k u] (getItem (.ref o) (.int k u)) := by intro _ _ _; with_unfolding_all rfl) (hd : (x == ("__debug__" : Str)) = false := by decide) : AE F (.Subscript (.Name x p) i pos) σ Q := fun K O ad s R => by
  refine PyProof.Rows.Subscript_ (wpAny_Name (R.loadOwn K hx fun vs₀ p₀ i₀ l₀ => wpAny_mono (h K O ad s R) (fun k s' h' => ?_) fun _ _ f => f) hd)
  obtain ⟨c, b, ic, y, B, q⟩ := h'
  have R' := R.ext K y B
  obtain ⟨m, cm, V⟩ := R'.vars
  obtain ⟨_, ⟨_, _, _, vs, ⟨n, p⟩, hi, hl⟩, _⟩ := V.var x _ hx
  cases c <;> try exact q.elim
  rename_i k
  simp only [SubW] at q
  simp only [Is] at ic
  obtain ⟨t, rfl⟩ := ic
  refine tail_any (PySem.IsL.isList (n := n) p).typeIs slot_list_getitem.lookup (get_ints (PySem.IsL.isList (n := n) p) hi hl ?_) (hs _ _ _)
  split at q
  · rename_i hk
    rw [if_pos hk]
    exact ⟨q.1, fun t => (pInt (O := O) (tk := s'.toks) (P := fun d => Q d b) q.2).epost y B⟩
  · rename_i hk
    rw [if_neg hk]
    exact ⟨q.1, fun t => (pInt (O := O) (tk := s'.toks) (P := fun d => Q d b) q.2).epost y B⟩

/-- x != [] of an own list -/
theorem AT_neNil {x : Str} {p p' pos : Pos} {xs : List Int} {Q : Bool → BS → Prop} (hx : σ.vars.lookup x = some (.own xs)) (h : Q (!decide (xs = [])) σ.box) (hd : (x == ("__debug__" : Str)) = false := by decide)
    (hm : behindInMarks .NotEq (.List [] p') = false := by with_unfolding_all rfl) : AT F (.Compare (.Name x p) [.NotEq] [.List [] p'] pos) σ Q := fun K O ad s R => by
  refine wpAny_isTrue_Compare1 (wpAny_Name (R.loadOwn K hx fun vs p₀ i₀ l₀ => ?_) hd) hm
  refine PyProof.Rows.List_ (args_nil (wpAny_newList ?_))
  have kp : ∀ b o, s.heap.get? b = some o → (s.heap.push { cls := .type "list", data := .seq (List.toArray []) }).get? b = some o := fun _ _ e => Heap.get?_push_of_some _ e
  have p1 : (s.heap.push { cls := .type "list", data := .seq (List.toArray []) }).PlainList (ad x) vs.toArray := p₀.at fun o e => kp _ o e
  have p2 : (s.heap.push { cls := .type "list", data := .seq (List.toArray []) }).PlainList s.heap.objs.size (List.toArray []) := ⟨0, Heap.get?_push_size _ rfl⟩
  refine ne_intsK p1.isList i₀ p2.isList .nil (room_units K.room) (wpAny_truthy_bool ⟨σ.box, Ext.of_keeps kp, Ext.box kp R.box, h⟩)
/-- two own lists at once, stored from behind -/
theorem AS_unpack2o {x y : Str} {e₁ e₂ : Expr} {ts : List Expr} {k k' : Nat} {p p' pos : Pos} {Q : AFl → St → Prop}
    (h : AEo F e₁ σ fun xs b => AEo F e₂ { σ with box := b } fun ys b' => Q .next ⟨(x, .own xs) :: (y, .own ys) :: σ.vars, b'⟩) (hkx : Storable F x) (hky : Storable F y) (hxy : y ≠ x)
    (hw : swappedStores [.Tuple ts k p] (.Tuple [e₁, e₂] k' p') F.env = pure (some [x, y]))
    (he : starEach [e₁, e₂] F.env = (false, eval e₁ F.env) :: starEach [e₂] F.env := by rfl) (he' : starEach [e₂] F.env = (false, eval e₂ F.env) :: starEach [] F.env := by rfl)
    (hs : swapsWithSole [.Tuple ts k p] (.Tuple [e₁, e₂] k' p') pos.line F.env = pure false := by rfl) : AS F (.Assign [.Tuple ts k p] (.Tuple [e₁, e₂] k' p') pos) σ Q := fun K O ad s R => by
  refine PyProof.Rows.Assign_Tuple_swapped (PyProof.Rows.Tuple_ (args_cons (wpAny_mono (h K O ad s R) (fun v s₁ h₁ => ?_) fun _ _ f => f) he)) hs hw
  obtain ⟨xs, b, l₁, vs₁, rfl, hn₁, hp₁, hi₁, hl₁, z₁, B₁, q⟩ := h₁
  obtain ⟨R₁, L₁⟩ := R.extO K z₁ B₁ hn₁ (let ⟨n, e⟩ := hp₁; ⟨_, e⟩)
  refine args_cons (wpAny_mono (q K _ ad s₁ R₁) (fun v s₂ h₂ => ?_) fun _ _ f => f) he'
  obtain ⟨ys, b', l₂, vs₂, rfl, hn₂, hp₂, hi₂, hl₂, z₂, B₂, q⟩ := h₂
  obtain ⟨R₂, L₂⟩ := R₁.extO K z₂ B₂ hn₂ (let ⟨n, e⟩ := hp₂; ⟨_, e⟩)
  have nb₁ : ¬ inBox F.bx l₁ := K.new_box (R.new₀ K hn₁)
  have hp₁' : s₂.heap.PlainList l₁ vs₁.toArray := hp₁.at fun o e => z₂.keep _ o e nb₁
  refine args_nil (wpAny_newTuple ?_ (by rw [sizeLine_eq]; simp))
  rw [show [x, y].length = (List.toArray [Value.ref l₁, Value.ref l₂]).size from rfl]
  refine wpAny_unpackItems_tuple (items := List.toArray [Value.ref l₁, Value.ref l₂]) K.room.handled ⟨_, Heap.get?_push_size _ rfl, rfl, _, rfl⟩ fun h' hx => ?_
  have kp : ∀ a o, s₂.heap.get? a = some o → h'.get? a = some o := fun a o e => hx a o (by
    have := Heap.lt_size e
    rw [Heap.size_push]
    exact Nat.ne_of_lt (Nat.lt_succ_of_lt this)) (Heap.get?_push_of_some _ e)
  have R₃ := R₂.ext K (s' := { s₂ with heap := h' }) ⟨⟨h', s₂.toks, rfl⟩, fun b o e _ => kp b o e⟩ (Ext.box kp R₂.box)
  have L₃ : Le (fun a => (O a ∨ a = l₁) ∨ a = l₂) s₂.heap (fun a => (O a ∨ a = l₁) ∨ a = l₂) h' := fun a o n e => ⟨n, kp a o e⟩
  have ne12 : l₁ ≠ l₂ := fun q => by
    obtain ⟨n, e⟩ := hp₁
    rw [q, hn₂] at e; cases e
  show wpAny _ _ (assignInOrder ([bindName F.env y, bindName F.env x]) [.ref l₂, .ref l₁]) _ _ _
  unfold assignInOrder
  refine wpAny_bind (wpAny_holding (wpAny_bindName ?_))
  refine R₃.store (a := .own ys) (d := l₂) K (hky.imp id fun ⟨a, b, c⟩ => ⟨a, b, c y⟩) ⟨rfl, .inr rfl, (R₁.new₀ K hn₂), vs₂, hp₂.at fun o e => kp _ o e, hi₂, hl₂⟩ (fun _ => ?_) fun s₄ R₄ L₄ _ P₄ => ?_
  · have := R₁.fresh_ad (x := y) K hn₂ (O' := fun a => (O a ∨ a = l₁) ∨ a = l₂) (.inr rfl)
    exact ⟨this.inO, this.new, this.loc, this.cel, this.oth⟩
  unfold assignInOrder
  refine wpAny_bind (wpAny_holding (wpAny_bindName ?_))
  have f₁ := R.fresh_ad (x := x) K hn₁ (O' := fun a => (O a ∨ a = l₁) ∨ a = l₂) (.inl (.inr rfl))
  obtain ⟨n₁, e₁'⟩ := hp₁'
  have e₄ := P₄ l₁ _ f₁.loc f₁.cel (kp _ _ e₁')
  refine R₄.store (a := .own xs) (d := l₁) K (hkx.imp id fun ⟨a, b, c⟩ => ⟨a, b, c x⟩) ⟨rfl, .inl (.inr rfl), R.new₀ K hn₁, vs₁, ⟨n₁, e₄⟩, hi₁, hl₁⟩ (fun _ => ⟨f₁.inO, f₁.new, f₁.loc, f₁.cel, fun z c hz hc n => ?_⟩) fun s₅ R₅ L₅ _ _ => ?_
  · show l₁ ≠ if z = y then l₂ else ad z
    rw [lookup_cons_eq] at hz
    by_cases q' : z = y
    · rw [if_pos q']; exact ne12
    · rw [if_neg q'] at hz ⊢
      exact f₁.oth z c hz hc n
  unfold assignInOrder
  exact wpAny_pure ⟨.next, _, _, _, trivial, R₅, (((L₁.trans L₂).trans L₃).trans L₄).trans L₅, q⟩

/-- m, p = _law_pairs[e] -/
theorem AS_pairs {ts : List Expr} {k : Nat} {p p' pg pos : Pos} {e : Expr} {Q : AFl → St → Prop}
    (h : AE F e σ fun c b => ∃ k q, c = .int k ∧ 0 ≤ k ∧ pairsL[k.toNat]? = some q ∧ AAs F ts [.int q.1, .int q.2] { σ with box := b } fun σ' => Q .next σ') (hn : ts.length = 2)
    (hx : F.env.kindOf "_law_pairs" = some .globalImplicit) (hi : ∀ o u k, subscripted e false (.ref o) (.int k u) = operate [.ref o, .int k u] (getItem (.ref o) (.int k u)))
    (he : assignEach ts F.env = ts.map fun t => (false, assign t F.env))
    (hs : swapsWithSole [.Tuple ts k p] (.Subscript (.Name "_law_pairs" pg) e p') pos.line F.env = pure false)
    (hw : swappedStores [.Tuple ts k p] (.Subscript (.Name "_law_pairs" pg) e p') F.env = pure none) : AS F (.Assign [.Tuple ts k p] (.Subscript (.Name "_law_pairs" pg) e p') pos) σ Q := fun K O ad s R => by
  obtain ⟨l, vs, hmg, hT, hlen, hat⟩ := K.cx.pairs
  refine PyProof.Rows.Assign_Tuple (PyProof.Rows.Subscript_ (Name_function_global K.kind hx (loadGlobal_global (mg := F.C.mg) (by rw [K.glob]; exact K.cx.g.keeps (R.base K)) hmg ?_) (by decide))) hs hw
  refine wpAny_mono (h K O ad s R) (fun v s₁ h₁ => ?_) fun _ _ f => f
  obtain ⟨c, b, i, y, B, k, q, rfl, h0, hq, h₁⟩ := h₁
  have R₁ := R.ext K y B
  simp only [Is] at i
  obtain ⟨t, rfl⟩ := i
  obtain ⟨a, t₁, t₂, ha, hTa⟩ := hat _ _ hq
  have hlt : k.toNat < vs.length := (List.getElem?_eq_some_iff.mp ha).1
  have hT₁ : s₁.heap.IsTuple l vs.toArray := by
    obtain ⟨o, e, r⟩ := hT
    exact ⟨o, R₁.base K _ _ e, r⟩
  have hTa₁ : s₁.heap.IsTuple a #[.int q.1 t₁, .int q.2 t₂] := by
    obtain ⟨o, e, r⟩ := hTa
    exact ⟨o, R₁.base K _ _ e, r⟩
  refine tail_any hT₁.typeIs slot_tuple_getitem.lookup (getItem_tuple (j := k.toNat) hT₁ (by omega) (by omega) ?_ (by simpa using ha) ?_) (hi _ _ _)
  · simp only [List.size_toArray]
    unfold seqIndex?
    have hk : ¬ k < 0 := by omega
    simp only [hk, if_false]
    rw [if_pos (by simp only [Bool.and_eq_true, decide_eq_true_eq]; omega)]
  show wpAny _ _ (do standAt p; unpack (.ref a) (assignEach ts F.env)) _ _ s₁
  refine wpAny_bind (wpAny_standAt ?_)
  unfold unpack
  rw [he]
  have hno : ((ts.map fun t => (false, assign t F.env)).findIdx? (·.1)) = none := by
    rw [List.findIdx?_eq_none_iff]
    intro x hx
    obtain ⟨t, _, rfl⟩ := List.mem_map.mp hx
    rfl
  rw [hno, List.map_map, List.length_map, hn, show 2 = (#[Value.int q.1 t₁, .int q.2 t₂]).size from rfl]
  refine wpAny_bind (wpAny_holding (wpAny_unpackItems_tuple (items := #[Value.int q.1 t₁, .int q.2 t₂]) K.room.handled hTa₁ fun h' x => ?_))
  have kp := extBut_keeps x
  have R' := R₁.ext K (s' := { s₁ with heap := h' }) ⟨⟨h', s₁.toks, rfl⟩, fun b o e _ => kp b o e⟩ (Ext.box kp R₁.box)
  have L : Le O s₁.heap O h' := fun a o n e => ⟨n, kp a o e⟩
  refine wpAny_mono (AAs_run h₁ K R' (vs := [.int q.1 t₁, .int q.2 t₂]) (by simp only [IsAll, Is]; exact ⟨_, _, rfl, ⟨t₁, rfl⟩, _, _, rfl, ⟨t₂, rfl⟩, rfl⟩)) (fun _ s₂ ⟨σ'', ad'', R'', L', q⟩ => ?_) fun _ _ f => f
  exact ⟨.next, σ'', O, ad'', trivial, R'', ((y.le (R.wO K)).trans L).trans L', q⟩
end

section
variable {F : Fm} {σ : St}

/-- the box's parts at hand -/
theorem boxAt {O : Addr → Prop} {ad : Str → Addr} {s : Shared} {x : Str} {M : Model} {E : Value → Shared → Prop} {Q : Value → Shared → Prop} (K : F.Ok) (R : Rep F σ O ad s) (hx : σ.vars.lookup x = some (.av .box))
    (h : ∀ b l t vs, F.bx = some (b, l) → b ≠ l → s.heap.PlainList b #[Value.ref l, Value.int σ.box.c t] → s.heap.PlainList l (List.toArray vs) → IntsAre vs σ.box.l → σ.box.l.length ≤ lid → Q (.ref b) s) : wpAny M F.A (loadName F.env x) Q E s :=
  R.load K hx fun v i => by
    simp only [Is] at i
    obtain ⟨b, l, hb, rfl⟩ := i
    have B := R.box
    unfold BoxIs at B
    rw [hb] at B
    obtain ⟨n, ⟨t, p⟩, vs, p', hi, hl⟩ := B
    exact h b l t vs hb n p p' hi hl

theorem AE_box1 {x : Str} {p p' pos : Pos} {k : Nat} {Q : AV → BS → Prop} (hx : σ.vars.lookup x = some (.av .box)) (h : Q (.int σ.box.c) σ.box)
    (hs : ∀ o u k', subscripted (.Constant (.int 1) k p') false (.ref o) (.int k' u) = operate [.ref o, .int k' u] (getItem (.ref o) (.int k' u)) := by intro _ _ _; with_unfolding_all rfl) (hd : (x == ("__debug__" : Str)) = false := by decide) :
    AE F (.Subscript (.Name x p) (.Constant (.int 1) k p') pos) σ Q := fun K O ad s R => by
  refine PyProof.Rows.Subscript_ (wpAny_Name (boxAt K R hx fun b l t vs hb n pb pl hi hl => ?_) hd)
  refine wpAny_Constant_int ?_
  obtain ⟨n', e⟩ := pb
  have pb : s.heap.IsList b #[Value.ref l, Value.int σ.box.c t] := PySem.IsL.isList (n := n') e
  refine tail_any pb.typeIs slot_list_getitem.lookup (wpAny_getItem_list pb (by decide) (by decide) (x := .int σ.box.c t) rfl ?_) (hs _ _ _)
  exact (pInt (O := O) (tk := s.toks + 1) (P := fun d => Q d σ.box) h).epost (Ext.refl _ _) R.box

theorem AS_setbox1 {x : Str} {px p p' pos : Pos} {e : Expr} {k : Nat} {Q : AFl → St → Prop} (hx : σ.vars.lookup x = some (.av .box)) (h : AE F e σ fun a b => ∃ n, a = .int n ∧ Q .next ⟨σ.vars, ⟨b.l, n⟩⟩)
    (hs : swapsWith e (some (.Subscript (.Name x px) (.Constant (.int 1) k p') p)) pos.line F.env = pure false := by rfl) (hd : (x == ("__debug__" : Str)) = false := by decide) : AS F (.Assign [.Subscript (.Name x px) (.Constant (.int 1) k p') p] e pos) σ Q := fun K O ad s R => by
  refine wpAny_Assign_Subscript (wpAny_mono (h K O ad s R) (fun v s₁ h₁ => ?_) fun _ _ f => f) hs
  obtain ⟨a, b, ia, y, B, n, rfl, q⟩ := h₁
  have R₁ := R.ext K y B
  simp only [Is] at ia
  obtain ⟨u, rfl⟩ := ia
  refine wpAny_Name (boxAt K R₁ hx fun bb l t vs hb ne pb pl hi hl => ?_) hd
  refine wpAny_Constant_int ?_
  obtain ⟨n', e⟩ := pb
  refine ki_setAt e (by decide) (by decide) (by simp) ?_
  have sb := Heap.SameBut.update s₁.heap bb (Obj.mapSeq (·.setIfInBounds (Int.toNat 1) (.int n u)))
  have kp : ∀ a o, a ≠ bb → s₁.heap.get? a = some o → (s₁.heap.update bb (Obj.mapSeq (·.setIfInBounds (Int.toNat 1) (.int n u)))).get? a = some o := fun a o ne e => sb.extBut a o ne e
  have X : Ext F.bx s₁ { s₁ with heap := s₁.heap.update bb (Obj.mapSeq (·.setIfInBounds (Int.toNat 1) (.int n u))), toks := s₁.toks + 1 } := ⟨⟨_, _, rfl⟩, fun a o e nb => kp a o (fun q => nb (by rw [hb, q]; exact .inl rfl)) e⟩
  have B' : BoxIs F.bx (s₁.heap.update bb (Obj.mapSeq (·.setIfInBounds (Int.toNat 1) (.int n u)))) ⟨b.l, n⟩ := by
    unfold BoxIs
    rw [hb]
    refine ⟨ne, ⟨u, n', ?_⟩, vs, pl.at fun o e => kp _ o (Ne.symm ne) e, hi, hl⟩
    have := PySem.IsL.update (n := n') e (·.setIfInBounds (Int.toNat 1) (.int n u))
    simpa using this
  have R₂ := R₁.ext K X B'
  exact ⟨.next, _, O, ad, trivial, R₂, (y.trans X).le (R.wO K), q⟩

theorem AE_lenbox {x : Str} {p px p' pos pos' : Pos} {k : Nat} {Q : AV → BS → Prop} (hx : σ.vars.lookup x = some (.av .box)) (h : Q (.int σ.box.l.length) σ.box)
    (hg : F.env.kindOf "len" = some .globalImplicit := by rfl) (he : starEach [.Subscript (.Name x px) (.Constant (.int 0) k p') pos'] F.env = (false, eval (.Subscript (.Name x px) (.Constant (.int 0) k p') pos') F.env) :: starEach [] F.env := by rfl)
    (hs : ∀ o u k', subscripted (.Constant (.int 0) k p') false (.ref o) (.int k' u) = operate [.ref o, .int k' u] (getItem (.ref o) (.int k' u)) := by intro _ _ _; with_unfolding_all rfl) (hd : (x == ("__debug__" : Str)) = false := by decide) :
    AE F (.Call (.Name "len" p) [.Subscript (.Name x px) (.Constant (.int 0) k p') pos'] [] pos) σ Q := fun K O ad s R => by
  refine PyProof.Rows.Call_ (Name_function_global K.kind hg (loadGlobal_builtin (mg := F.C.mg) (mb := F.C.mb) (by rw [K.glob]; exact K.cx.g.keeps (R.base K)) (K.cx.nob _ (by decide)) (by rw [K.bl]; exact K.cx.b.keeps (R.base K)) ((K.cx.builtins _ (by decide)).trans (by decide +kernel)) (v := .builtin "len") ?_) (by decide))
  refine callWith_builtin (by rw [he]; rfl) ?_
  rw [he]
  refine evalArgs_plain (spliced_cons (PyProof.Rows.Subscript_ (wpAny_Name (boxAt K R hx fun b l t vs hb n pb pl hi hl => ?_) hd)))
  refine wpAny_Constant_int ?_
  obtain ⟨n', e⟩ := pb
  have pb : s.heap.IsList b #[Value.ref l, Value.int σ.box.c t] := PySem.IsL.isList (n := n') e
  refine tail_any pb.typeIs slot_list_getitem.lookup (wpAny_getItem_list pb (by decide) (by decide) (x := .ref l) rfl (spliced_nil ?_)) (hs _ _ _)
  have e1 := hi.length
  simp only [lid] at hl
  refine call_len_list pl.isList (by simp only [List.size_toArray]; omega) ?_
  simp only [List.size_toArray, e1]
  exact (pInt (O := O) (tk := s.toks + 1 + 1 + 1) (P := fun d => Q d σ.box) h).epost (Ext.refl _ _) R.box

theorem AE_popbox {x : Str} {px pa p' p'' pos pos' : Pos} {k k' : Nat} {Q : AV → BS → Prop} (hx : σ.vars.lookup x = some (.av .box)) (h : ∃ a r, σ.box.l = a :: r ∧ Q (.int a) ⟨r, σ.box.c⟩)
    (hbase : attributeBase (.Subscript (.Name x px) (.Constant (.int 0) k p') pos') "pop" F.env (eval (.Subscript (.Name x px) (.Constant (.int 0) k p') pos') F.env) = eval (.Subscript (.Name x px) (.Constant (.int 0) k p') pos') F.env)
    (he : starEach [.Constant (.int 0) k' p''] F.env = (false, eval (.Constant (.int 0) k' p'') F.env) :: starEach [] F.env)
    (hs : ∀ o u k', subscripted (.Constant (.int 0) k p') false (.ref o) (.int k' u) = operate [.ref o, .int k' u] (getItem (.ref o) (.int k' u)))
    (hline : (pa.endLine == pos.line) = true) (hd : (x == ("__debug__" : Str)) = false) :
    AE F (.Call (.Attribute (.Subscript (.Name x px) (.Constant (.int 0) k p') pos') "pop" pa) [.Constant (.int 0) k' p''] [] pos) σ Q := fun K O ad s R => by
  refine wpAny_Call_method hbase (by rw [he]; rfl) hline PySem.F.plainAttrs_list PySem.F.slot_list_pop PySem.F.type_list_pop (PyProof.Rows.Subscript_ (wpAny_Name (boxAt K R hx fun b l t vs hb n pb ⟨n₁, pl⟩ hi hl => ?_) hd))
  refine wpAny_Constant_int ?_
  obtain ⟨n', e⟩ := pb
  have pb : s.heap.IsList b #[Value.ref l, Value.int σ.box.c t] := PySem.IsL.isList (n := n') e
  refine tail_any pb.typeIs slot_list_getitem.lookup (wpAny_getItem_list pb (by decide) (by decide) (x := .ref l) rfl ?_) (hs _ _ _)
  refine ⟨(PySem.IsL.isList (n := n₁) pl).typeIs, (fun a ea => by cases ea; exact ⟨_, pl, rfl⟩), ?_⟩
  refine callWith_builtin (by rw [he]; rfl) ?_
  rw [he]
  refine evalArgs_plain (spliced_cons (wpAny_Constant_int (pos := p'') (k := k') (spliced_nil ?_)))
  obtain ⟨a, r, hr, q⟩ := h
  rw [hr] at hi hl
  have e1 := hi.length
  simp only [lid] at hl
  have hform : ∃ t₁ vs', vs = .int a t₁ :: vs' ∧ IntsAre vs' r := by
    cases hi with
    | cons _ t₁ hi' => exact ⟨t₁, _, rfl, hi'⟩
  obtain ⟨t₁, vs', rfl, hi'⟩ := hform
  · refine call_meets PySem.F.slot_list_pop ⟨_, pl, rfl⟩ PySem.F.entry_list_pop (PySem.F.args_list_pop_2 _ _) (PySem.MeetsSeq.list_pop_at l _ n₁ 0 _ 0 (.int a t₁) (by decide) (by simp [seqIndex?]) (by simp) (by simp only [List.size_toArray, sizeLine_eq]; omega)) ⟨pl, ?_⟩
    have sb := Heap.SameBut.update s.heap l (Obj.mapSeq fun xs => xs.eraseIdxIfInBounds 0)
    have kp : ∀ a o, a ≠ l → s.heap.get? a = some o → (s.heap.update l (Obj.mapSeq fun xs => xs.eraseIdxIfInBounds 0)).get? a = some o := fun a o ne e => sb.extBut a o ne e
    have X : ∀ tk, Ext F.bx s { s with heap := s.heap.update l (Obj.mapSeq fun xs => xs.eraseIdxIfInBounds 0), toks := tk } := fun tk => ⟨⟨_, _, rfl⟩, fun a o e nb => kp a o (fun q => nb (by rw [hb, q]; exact .inr rfl)) e⟩
    have B' : BoxIs F.bx (s.heap.update l (Obj.mapSeq fun xs => xs.eraseIdxIfInBounds 0)) ⟨r, σ.box.c⟩ := by
      unfold BoxIs
      rw [hb]
      have e2 : ((Value.int a t₁ :: vs').toArray).eraseIdxIfInBounds 0 = vs'.toArray := by
        apply Array.toList_inj.mp
        unfold Array.eraseIdxIfInBounds
        rw [dif_pos (by simp), Array.toList_eraseIdx]
        simp
      have := PySem.IsL.update (n := n₁) pl (fun xs => xs.eraseIdxIfInBounds 0)
      rw [e2] at this
      exact ⟨n, ⟨t, n', kp _ _ n e⟩, vs', ⟨_, this⟩, hi', by simp only [lid]; simp only [List.length_cons] at hl; show r.length ≤ _; omega⟩
    exact ⟨.int a, _, by simp only [Is]; exact ⟨_, rfl⟩, X _, B', q⟩
end

section
variable {Q : AV → Prop} {x y : Int} {xs ys : List Int}
theorem BinW_add (h : Q (.int (x + y))) : BinW .Add (.int x) (.int y) Q := h
theorem BinW_sub (h : Q (.int (x - y))) : BinW .Sub (.int x) (.int y) Q := h
theorem BinW_mul (o : MulOk x y) (h : Q (.int (x * y))) : BinW .Mult (.int x) (.int y) Q := ⟨o, h⟩
theorem BinW_mod (o : y ≠ 0) (h : Q (.int (x.fmod y))) : BinW .Mod (.int x) (.int y) Q := ⟨o, h⟩
theorem BinW_fdiv (o : y ≠ 0) (o' : DivOk x y) (h : Q (.int (x.fdiv y))) : BinW .FloorDiv (.int x) (.int y) Q := ⟨o, o', h⟩
theorem BinW_app (o : xs.length + ys.length ≤ lid) (h : Q (.ints (xs ++ ys))) : BinW .Add (.ints xs) (.ints ys) Q := ⟨o, h⟩
theorem flat_one (n : Nat) (a : Int) : (List.replicate n [a]).flatten = List.replicate n a := by
  induction n with
  | zero => rfl
  | succ n ih => rw [List.replicate_succ, List.flatten_cons, ih]; rfl
theorem BinW_rep {a n : Int} (o : n ≤ 100000) (o' : -100000 ≤ n) (h : Q (.ints (List.replicate n.toNat a))) : BinW .Mult (.ints [a]) (.int n) Q := by
  refine ⟨by omega, by omega, ?_, ?_⟩
  · simp only [lid, List.length_singleton]; omega
  · rw [flat_one]; exact h
theorem UnW_neg (h : Q (.int (-x))) : UnW .USub (.int x) Q := h
theorem UnW_not {b : Bool} (h : Q (.bool (!b))) : UnW .Not (.bool b) Q := h
theorem IopW_add (h : Q (.int (x + y))) : IopW .Add (.int x) (.int y) Q := ⟨x, y, rfl, rfl, .inl ⟨rfl, h⟩⟩
theorem IopW_sub (h : Q (.int (x - y))) : IopW .Sub (.int x) (.int y) Q := ⟨x, y, rfl, rfl, .inr ⟨rfl, h⟩⟩
end
section
variable {Q : Bool → Prop} {x y : Int} {xs ys : List Int} {as : List AV} {b c : Bool}
theorem CmpW_eq (h : Q (decide (x = y))) : CmpW .Eq (.int x) (.int y) Q := h
theorem CmpW_ne (h : Q (!decide (x = y))) : CmpW .NotEq (.int x) (.int y) Q := h
theorem CmpW_lt (h : Q (decide (x < y))) : CmpW .Lt (.int x) (.int y) Q := h
theorem CmpW_le (h : Q (decide (x ≤ y))) : CmpW .LtE (.int x) (.int y) Q := h
theorem CmpW_gt (h : Q (decide (y < x))) : CmpW .Gt (.int x) (.int y) Q := h
theorem CmpW_ge (h : Q (decide (y ≤ x))) : CmpW .GtE (.int x) (.int y) Q := h
theorem CmpW_eqL (h : Q (decide (xs = ys))) : CmpW .Eq (.ints xs) (.ints ys) Q := h
theorem CmpW_neL (h : Q (!decide (xs = ys))) : CmpW .NotEq (.ints xs) (.ints ys) Q := h
theorem CmpW_eqB (h : Q (b == c)) : CmpW .Eq (.bool b) (.bool c) Q := h
theorem CmpW_neB (h : Q (b != c)) : CmpW .NotEq (.bool b) (.bool c) Q := h
theorem CmpW_nn (h : Q false) : CmpW .IsNot .none .none Q := h
theorem CmpW_ln (h : Q true) : CmpW .IsNot (.ints xs) .none Q := h
theorem CmpW_tn (h : Q true) : CmpW .IsNot (.tup as) .none Q := h
end
section
variable {Q : AV → Prop} {xs : List Int} {k : Int}
/-- the last, 0 for none -/
noncomputable def last0 (xs : List Int) : Int := xs.getD (xs.length - 1) 0
theorem SubW_nn (h0 : 0 ≤ k) (h : k < xs.length) (q : Q (.int (xs.getD k.toNat 0))) : SubW (.ints xs) (.int k) Q := by
  show if k < 0 then _ else _
  rw [if_neg (by omega)]
  exact ⟨h, q⟩
theorem SubW_last (h : xs ≠ []) (q : Q (.int (last0 xs))) : SubW (.ints xs) (.int (-1)) Q := by
  simp only [SubW]
  rw [if_pos (by decide)]
  have := List.length_pos_iff.mpr h
  refine ⟨by omega, ?_⟩
  have e : ((-1 : Int) + xs.length).toNat = xs.length - 1 := by omega
  rw [e]; exact q
theorem SubW_tup {as : List AV} {d : AV} (h0 : 0 ≤ k) (h : as[k.toNat]? = some d) (hl : as.length ≤ 100) (q : Q d) : SubW (.tup as) (.int k) Q := ⟨d, h0, h, hl, q⟩
theorem SubW_list {as : List AV} {d : AV} (h0 : 0 ≤ k) (h : as[k.toNat]? = some d) (hl : as.length ≤ 100) (q : Q d) : SubW (.list as) (.int k) Q := ⟨d, h0, h, hl, q⟩
end

theorem ite_dec {P A B : Prop} [Decidable P] (h1 : P → A) (h2 : ¬ P → B) : if decide P = true then A else B := by
  by_cases h : P
  · rw [if_pos (by simpa using h)]; exact h1 h
  · rw [if_neg (by simpa using h)]; exact h2 h
theorem ite_ndec {P A B : Prop} [Decidable P] (h1 : ¬ P → A) (h2 : P → B) : if (!decide P) = true then A else B := by
  by_cases h : P
  · rw [if_neg (by simpa using h)]; exact h2 h
  · rw [if_pos (by simpa using h)]; exact h1 h
theorem ite_t {A B : Prop} (h : A) : if true = true then A else B := by rw [if_pos rfl]; exact h
theorem ite_f {A B : Prop} (h : B) : if false = true then A else B := by rw [if_neg (by decide)]; exact h
theorem ite_b {c : Bool} {A B : Prop} (h1 : c = true → A) (h2 : c = false → B) : if c = true then A else B := by
  cases c
  · rw [if_neg (by decide)]; exact h2 rfl
  · rw [if_pos rfl]; exact h1 rfl
theorem ex_bool {P : Bool → Prop} {b : Bool} (h : P b) : ∃ c, AV.bool b = .bool c ∧ P c := ⟨b, rfl, h⟩
theorem ex_int {P : Int → Prop} {n : Int} (h : P n) : ∃ c, AV.int n = .int c ∧ P c := ⟨n, rfl, h⟩
theorem ex_ints {P : List Int → Prop} {n : List Int} (h : P n) : ∃ c, AV.ints n = .ints c ∧ P c := ⟨n, rfl, h⟩
theorem ex_int2 {P : Int → Int → Prop} {m n : Int} (h : P m n) : ∃ a b, AV.int m = .int a ∧ AV.int n = .int b ∧ P a b := ⟨m, n, rfl, rfl, h⟩
theorem ex_put2 {x y : Str} {a b : AV} {σ : St} {Q : St → Prop} {S : Str → Prop} (hy : S y) (hx : S x) (h : Q ⟨(x, .av a) :: (y, .av b) :: σ.vars, σ.box⟩) :
    ∃ as, AV.tup [a, b] = .tup as ∧ as.length = [x, y].length ∧ putAll [x, y].reverse as.reverse σ Q S := ⟨_, rfl, rfl, hy, hx, h⟩
theorem ex_put3 {x y z : Str} {a b c : AV} {σ : St} {Q : St → Prop} {S : Str → Prop} (hz : S z) (hy : S y) (hx : S x) (h : Q ⟨(x, .av a) :: (y, .av b) :: (z, .av c) :: σ.vars, σ.box⟩) :
    ∃ as, AV.tup [a, b, c] = .tup as ∧ as.length = [x, y, z].length ∧ putAll [x, y, z].reverse as.reverse σ Q S := ⟨_, rfl, rfl, hz, hy, hx, h⟩
theorem and_l100 {n : Nat} {P : Prop} (h : n ≤ 100) (q : P) : n ≤ 100 ∧ P := ⟨h, q⟩
theorem ex_disp {as : List AV} {ns : List Int} {P : List Int → Prop} (e : intsOf as = some ns) (hl : ns.length ≤ 100) (q : P ns) : ∃ ns, intsOf as = some ns ∧ ns.length ≤ 100 ∧ P ns := ⟨ns, e, hl, q⟩
theorem ex_up {xs : List Int} {P : List Int → Prop} (q : P xs) : ∃ ys, (AV.ints xs = .ints ys ∨ AV.ints xs = .lst ys) ∧ P ys := ⟨xs, .inl rfl, q⟩
theorem ex_upl {xs : List Int} {P : List Int → Prop} (q : P xs) : ∃ ys, (AV.lst xs = .ints ys ∨ AV.lst xs = .lst ys) ∧ P ys := ⟨xs, .inr rfl, q⟩
theorem AEo_rep {F : Fm} {σ : St} {l e : Expr} {pos : Pos} {Q : List Int → BS → Prop} (h : AE F l σ fun a b => ∃ z, a = .ints [z] ∧ AE F e { σ with box := b } fun c b' => ∃ n, c = .int n ∧ n ≤ 100000 ∧ -100000 ≤ n ∧ Q (List.replicate n.toNat z) b') :
    AEo F (.BinOp l .Mult e pos) σ Q := by
  refine AEo_mul (h.mono fun a b ⟨z, ha, h⟩ => ⟨[z], ha, h.mono fun c b' ⟨n, hc, h1, h2, q⟩ => ⟨n, hc, ⟨by omega, by omega, ?_⟩, ?_⟩⟩)
  · simp only [lid, List.length_singleton]; omega
  · rw [flat_one]; exact q
theorem ex_rep1 {z : Int} {P : Int → Prop} (h : P z) : ∃ z', AV.ints [z] = .ints [z'] ∧ P z' := ⟨z, rfl, h⟩
theorem ex_rep2 {n : Int} {P : Int → Prop} (h1 : n ≤ 100000) (h2 : -100000 ≤ n) (h : P n) : ∃ n', AV.int n = .int n' ∧ n' ≤ 100000 ∧ -100000 ≤ n' ∧ P n' := ⟨n, rfl, h1, h2, h⟩
theorem AE_dispT {F : Fm} {σ : St} {ts es : List Expr} {k : Nat} {tp pos : Pos} {Q : AV → BS → Prop} (h : AL F pos (.Tuple ts k tp :: es) σ fun as b => as.length ≤ 100 ∧ Q (.list as) b) : AE F (.List (.Tuple ts k tp :: es) pos) σ Q := AE_dispL h
theorem ex_set {n m : Int} {P : Int → Prop} (h : 0 ≤ n) (h' : n < m) (q : P n) : ∃ k, AV.int n = .int k ∧ 0 ≤ k ∧ k < m ∧ P k := ⟨n, rfl, h, h', q⟩
theorem ex_upto {n : Int} {P : Int → Prop} (h : 0 ≤ n) (q : P n) : ∃ k, AV.int n = .int k ∧ 0 ≤ k ∧ P k := ⟨n, rfl, h, q⟩
theorem ex_none {P : Prop} (q : P) : (AV.none = .none ∨ ∃ n, AV.none = .int n) ∧ P := ⟨.inl rfl, q⟩
theorem AAs_cons {F : Fm} {t : Expr} {ts : List Expr} {a : AV} {as : List AV} {σ : St} {Q : St → Prop} (h : AA F t a σ fun σ' => AAs F ts as σ' Q) : AAs F (t :: ts) (a :: as) σ Q := by simpa only [AAs] using h
theorem AAs_nil {F : Fm} {σ : St} {Q : St → Prop} (h : Q σ) : AAs F [] [] σ Q := by simpa only [AAs] using h
theorem ex_spec {C : Cx} {bx : Bx} {m : Nat} {x : Str} {as : List AV} {b : BS} {Q Q' : AV → BS → Prop} {k : Nat} (h : Spec C bx x k as b Q') (q : ∀ r b', Q' r b' → Q r b') (hk : k ≤ m := by exact Nat.le_of_ble_eq_true rfl) : ∃ k, k ≤ m ∧ Spec C bx x k as b Q := ⟨k, hk, h.mono q⟩

section
variable {F : Fm} {σ : St}
theorem AA_weak {t : Expr} {a : AV} {τ : St} {Q : St → Prop} (hw : Weak τ σ) (h : AA F t a τ Q) : AA F t a σ Q := fun K O ad s v R i => h K O ad s v (R.weak hw) i
theorem AA.mono {t : Expr} {a : AV} {Q Q' : St → Prop} (h : AA F t a σ Q) (hq : ∀ σ, Q σ → Q' σ) : AA F t a σ Q' := fun K O ad s v R i => wpAny_mono (h K O ad s v R i) (fun _ _ ⟨σ', ad', r, l, q⟩ => ⟨σ', ad', r, l, hq _ q⟩) fun _ _ f => f
theorem ForW_fold {α : Type} (mk : α → St) (P : List AV → α → Prop) {target : Expr} {body rest : List Stmt} {Q : AFl → St → Prop}
    (step : ∀ a r x, P (a :: r) x → AA F target a (mk x) fun σ' => ASs F body σ' (ForK (fun σ'' => ∃ y, P r y ∧ Weak (mk y) σ'') (Seq F rest Q)))
    (fin : ∀ x, P [] x → ASs F rest (mk x) Q) : ∀ (items : List AV) (x : α) (σ : St), P items x → Weak (mk x) σ → ForW F target body (Seq F rest Q) items σ
  | [], x, σ, hp, hw => ASs_weak _ hw (fin x hp)
  | a :: r, x, σ, hp, hw => AA_weak hw ((step a r x hp).mono fun σ' h => h.mono fun fl σ'' h => by
      cases fl with
      | next =>
        obtain ⟨y, hy, hw⟩ := h
        exact ForW_fold mk P step fin r y σ'' hy hw
      | cont =>
        obtain ⟨y, hy, hw⟩ := h
        exact ForW_fold mk P step fin r y σ'' hy hw
      | brk => exact h
      | ret a => exact h)
/-- a for, by a word on the items to come -/
theorem AS_forI {α : Type} (mk : α → St) (P : List AV → α → Prop) {target iter : Expr} {body rest : List Stmt} {pos : Pos} {Q : AFl → St → Prop}
    (h : AI F iter target σ fun items b => ∃ x, P items x ∧ Weak (mk x) { σ with box := b })
    (step : ∀ a r x, P (a :: r) x → AA F target a (mk x) fun σ' => ASs F body σ' (ForK (fun σ'' => ∃ y, P r y ∧ Weak (mk y) σ'') (Seq F rest Q)))
    (fin : ∀ x, P [] x → ASs F rest (mk x) Q)
    (hs : ∀ x, foldedSetIterable iter F.env x = pure x := by intro _; rfl) : AS F (.For target iter body [] pos) σ (Seq F rest Q) := by
  refine AS_for (fun K O ad s R => ?_) hs
  refine wpAny_mono (h K O ad s R) (fun v s₁ h₁ => wpAny_mono h₁ (fun it s₂ h₂ => ?_) fun _ _ f => f) fun _ _ f => f
  obtain ⟨items, b, I, fp, wr, St, e, x, B, W, fresh, y, hp, hw⟩ := h₂
  exact ⟨items, b, I, fp, wr, St, e, x, B, W, fresh, ForW_fold mk P step fin items y _ hp hw⟩

theorem CompW_fold (P : List AV → List Int → BS → Prop) {target : Expr} {ifs : List Expr} {elt : Expr} {cv : List (Str × Slot)} {Q : List Int → BS → Prop}
    (step : ∀ a r acc b, P (a :: r) acc b → AA F target a ⟨cv, b⟩ fun σ' => AIfs F ifs σ' fun c b' => if c = true then AE F elt { σ' with box := b' } (fun d b'' => ∃ n, d = .int n ∧ P r (acc ++ [n]) b'') else P r acc b')
    (fin : ∀ acc b, P [] acc b → Q acc b) : ∀ (items : List AV) (acc : List Int) (b : BS), P items acc b → CompW F target ifs elt cv Q items acc b
  | [], acc, b, hp => fin acc b hp
  | a :: r, acc, b, hp => by
    have mono : ∀ {σ' : St} {R R' : Bool → BS → Prop}, (∀ c b, R c b → R' c b) → AIfs F ifs σ' R → AIfs F ifs σ' R' := by
      intro σ' R R' hr h
      unfold AIfs at h ⊢
      split at h
      · exact hr _ _ h
      · exact h.mono hr
      · exact h.elim
    refine (step a r acc b hp).mono fun σ' h => mono (fun c b' h => ?_) h
    cases c with
    | true =>
      simp only [if_true] at h ⊢
      refine h.mono fun d b'' ⟨n, e, q⟩ => ⟨n, e, CompW_fold P step fin r _ _ q⟩
    | false =>
      simp only [Bool.false_eq_true, if_false] at h ⊢
      exact CompW_fold P step fin r _ _ h
/-- [elt for x in ..] of what keeps the box -/
theorem CompW_map (f : AV → Int) {target elt : Expr} {cv : List (Str × Slot)} {Q : List Int → BS → Prop} {items : List AV} {b : BS}
    (step : ∀ a, a ∈ items → AA F target a ⟨cv, b⟩ fun σ' => AE F elt { σ' with box := σ'.box } fun d b' => d = .int (f a) ∧ b' = b)
    (fin : Q (items.map f) b) : CompW F target [] elt cv Q items [] b := by
  refine CompW_fold (fun r acc b' => b' = b ∧ acc ++ r.map f = items.map f ∧ ∀ a ∈ r, a ∈ items) (fun a r acc b' ⟨hb, he, hm⟩ => ?_) (fun acc b' ⟨hb, he, _⟩ => ?_) items [] b ⟨rfl, rfl, fun _ h => h⟩
  · subst hb
    refine (step a (hm a (.head _))).mono fun σ' h => AIfs_nil ?_
    rw [if_pos rfl]
    refine h.mono fun d b'' ⟨e, eb⟩ => ⟨f a, e, eb, ?_, fun c hc => hm c (.tail _ hc)⟩
    simpa using he
  · subst hb
    simp only [List.map_nil, List.append_nil] at he
    rw [he]; exact fin
theorem CompW_mapI (f : Int → Int) {target elt : Expr} {cv : List (Str × Slot)} {Q : List Int → BS → Prop} {xs : List Int} {b : BS}
    (step : ∀ x, x ∈ xs → AA F target (.int x) ⟨cv, b⟩ fun σ' => AE F elt { σ' with box := σ'.box } fun d b' => d = .int (f x) ∧ b' = b)
    (fin : Q (xs.map f) b) : CompW F target [] elt cv Q (xs.map .int) [] b := by
  refine CompW_map (fun a => match a with | AV.int x => f x | _ => 0) (fun a ha => ?_) ?_
  · obtain ⟨x, hx, rfl⟩ := List.mem_map.mp ha
    exact step x hx
  · rw [List.map_map]; exact fin
noncomputable def mapE (f : Nat → Int → Int) (n : Nat) : List Int → List Int
  | [] => []
  | x :: r => f n x :: mapE f (n + 1) r
theorem CompW_enum (f : Nat → Int → Int) {target elt : Expr} {cv : List (Str × Slot)} {Q : List Int → BS → Prop} {xs : List Int} {b : BS}
    (step : ∀ i x, i < xs.length → xs.getD i 0 = x → AA F target (.tup [.int i, .int x]) ⟨cv, b⟩ fun σ' => AE F elt { σ' with box := σ'.box } fun d b' => d = .int (f i x) ∧ b' = b)
    (fin : Q (mapE f 0 xs) b) : CompW F target [] elt cv Q (enumL 0 xs) [] b := by
  refine CompW_fold (fun r acc b' => b' = b ∧ ∃ n, r = enumL n (xs.drop n) ∧ acc ++ mapE f n (xs.drop n) = mapE f 0 xs) (fun a r acc b' ⟨hb, n, hr, he⟩ => ?_) (fun acc b' ⟨hb, n, hr, he⟩ => ?_) _ [] b ⟨rfl, 0, rfl, rfl⟩
  · subst hb
    by_cases hn : n < xs.length
    · rw [List.drop_eq_getElem_cons hn] at hr he
      simp only [enumL, List.cons.injEq] at hr
      obtain ⟨rfl, rfl⟩ := hr
      refine (step n _ hn (by rw [List.getD_eq_getElem?_getD, List.getElem?_eq_getElem hn]; rfl)).mono fun σ' h => AIfs_nil ?_
      rw [if_pos rfl]
      refine h.mono fun d b'' ⟨e, eb⟩ => ⟨_, e, eb, n + 1, rfl, ?_⟩
      simp only [mapE] at he
      simpa using he
    · rw [List.drop_eq_nil_of_le (by omega)] at hr
      simp [enumL] at hr
  · subst hb
    by_cases hn : n < xs.length
    · rw [List.drop_eq_getElem_cons hn] at hr
      simp [enumL] at hr
    · rw [List.drop_eq_nil_of_le (by omega)] at he
      simp only [mapE, List.append_nil] at he
      rw [he]; exact fin
/-- [x for x in ints if ..] -/
theorem CompW_filter (t : Int → Bool) {target elt : Expr} {cond : Expr} {cv : List (Str × Slot)} {Q : List Int → BS → Prop} {ns : List Int} {b : BS}
    (step : ∀ n, n ∈ ns → AA F target (.int n) ⟨cv, b⟩ fun σ' => AT F cond σ' fun c b' => c = t n ∧ b' = b ∧ AE F elt { σ' with box := b' } fun d b'' => d = .int n ∧ b'' = b)
    (fin : Q (ns.filter t) b) : CompW F target [cond] elt cv Q (ns.map .int) [] b := by
  refine CompW_fold (fun r acc b' => b' = b ∧ ∃ ms, r = ms.map .int ∧ acc ++ ms.filter t = ns.filter t ∧ ∀ a ∈ ms, a ∈ ns) (fun a r acc b' ⟨hb, ms, hr, he, hm⟩ => ?_) (fun acc b' ⟨hb, ms, hr, he, _⟩ => ?_) _ [] b ⟨rfl, ns, rfl, rfl, fun _ h => h⟩
  · subst hb
    cases ms with
    | nil => simp at hr
    | cons n ms =>
      simp only [List.map_cons, List.cons.injEq] at hr
      obtain ⟨rfl, rfl⟩ := hr
      refine (step n (hm n (.head _))).mono fun σ' h => AIfs_one (h.mono fun c b'' ⟨hc, hb, h⟩ => ?_)
      subst hb
      rw [List.filter_cons] at he
      rw [← hc] at he
      cases c with
      | true =>
        simp only [if_true] at he ⊢
        refine h.mono fun d b'' ⟨e, eb⟩ => ⟨n, e, eb, ms, rfl, by simpa using he, fun c hc => hm c (.tail _ hc)⟩
      | false =>
        simp only [Bool.false_eq_true, if_false] at he ⊢
        exact ⟨trivial, ms, rfl, he, fun c hc => hm c (.tail _ hc)⟩
  · subst hb
    cases ms with
    | nil => simp only [List.filter_nil, List.append_nil] at he; rw [he]; exact fin
    | cons n ms => simp at hr
end

theorem AS.mono {F : Fm} {st : Stmt} {σ : St} {Q Q' : AFl → St → Prop} (h : AS F st σ Q) (hq : ∀ a b, Q a b → Q' a b) : AS F st σ Q' := fun K O ad s R =>
  wpAny_mono (h K O ad s R) (fun _ _ ⟨a, σ', O', ad', f, R, L, q⟩ => ⟨a, σ', O', ad', f, R, L, hq _ _ q⟩) fun _ _ f => f
/-- what a statement's ends share -/
noncomputable def CutK {α : Type} (mk : α → St) (P : α → Prop) (Q : AFl → St → Prop) : AFl → St → Prop
  | .next, σ => ∃ x, P x ∧ Weak (mk x) σ
  | fl, σ => Q fl σ
theorem CutK_next {α : Type} {mk : α → St} {P : α → Prop} {Q : AFl → St → Prop} {σ : St} (x : α) (h : P x) (hw : Weak (mk x) σ) : CutK mk P Q .next σ := ⟨x, h, hw⟩
theorem CutK_ret {α : Type} {mk : α → St} {P : α → Prop} {Q : AFl → St → Prop} {σ : St} {a : AV} (h : Q (.ret a) σ) : CutK mk P Q (.ret a) σ := h
theorem AS_cut {F : Fm} {α : Type} (mk : α → St) (P : α → Prop) {st : Stmt} {rest : List Stmt} {σ : St} {Q : AFl → St → Prop} (h : AS F st σ (CutK mk P Q)) (hr : ∀ x, P x → ASs F rest (mk x) Q) : AS F st σ (Seq F rest Q) :=
  h.mono fun fl σ' q => by
    cases fl with
    | next =>
      obtain ⟨x, hx, hw⟩ := q
      exact ASs_weak _ hw (hr x hx)
    | brk => exact q
    | cont => exact q
    | ret a => exact q
/-! Sizes. -/
structure Bd (n : Nat) (x : Int) : Prop where
  lt : x.natAbs < 2 ^ n
theorem Bd.mono {m n : Nat} {x : Int} (h : Bd m x) (hm : m ≤ n) : Bd n x := ⟨Nat.lt_of_lt_of_le h.lt (Nat.pow_le_pow_right (by decide) hm)⟩
theorem Bd.mul {m n : Nat} {x y : Int} (hx : Bd m x) (hy : Bd n y) : Bd (m + n) (x * y) := by
  have hx := hx.lt
  have hy := hy.lt
  refine ⟨?_⟩
  rw [Int.natAbs_mul, Nat.pow_add]
  exact Nat.mul_lt_mul'' hx hy
theorem Bd.add {m : Nat} {x y : Int} (hx : Bd m x) (hy : Bd m y) : Bd (m + 1) (x + y) := by
  have hx := hx.lt
  have hy := hy.lt
  refine ⟨?_⟩
  have := Int.natAbs_add_le x y
  rw [Nat.pow_succ]; omega
theorem Bd.neg {m : Nat} {x : Int} (hx : Bd m x) : Bd m (-x) := ⟨by rw [Int.natAbs_neg]; exact hx.lt⟩
theorem Bd.sub {m : Nat} {x y : Int} (hx : Bd m x) (hy : Bd m y) : Bd (m + 1) (x - y) := by
  rw [Int.sub_eq_add_neg]; exact hx.add hy.neg
theorem Bd.of_le {m : Nat} {x y : Int} (hy : Bd m y) (h : x.natAbs ≤ y.natAbs) : Bd m x := ⟨Nat.lt_of_le_of_lt h hy.lt⟩
theorem Bd.of_lt {m : Nat} {x : Int} {k : Nat} (h : x.natAbs < k) (hk : k ≤ 2 ^ m) : Bd m x := ⟨Nat.lt_of_lt_of_le h hk⟩
theorem bits_of {n : Nat} {x : Int} (h : Bd n x) : Builtin.Int.intBits x ≤ n := by
  unfold Builtin.Int.intBits
  have h := h.lt
  split
  · exact Nat.zero_le _
  · rename_i h0
    have h0 : x ≠ 0 := by simpa using h0
    have : x.natAbs.log2 < n := (Nat.log2_lt (by omega)).mpr h
    omega
theorem mulOk {m n : Nat} {x y : Int} (hx : Bd m x) (hy : Bd n y) (h : m + n ≤ 100000000) : MulOk x y := IntMulOk.of_le (bits_of hx) (bits_of hy) (by omega)
theorem divOk {n : Nat} {x y : Int} (hy : Bd n y) (h : n ≤ 9000) : DivOk x y := by
  refine PyProof.noPylong_of_log2 ?_
  by_cases h0 : y.natAbs = 0
  · rw [h0]; decide
  · exact (Nat.log2_lt h0).mpr (Nat.lt_of_lt_of_le hy.lt (Nat.pow_le_pow_right (by decide) h))
end Mine

namespace Mine
/-! Polynomials: what a list of numbers means, products. -/
noncomputable def co (xs : List Int) (i : Nat) : Int := xs.getD i 0
noncomputable def sh (g : Nat → Int) : Nat → Int
  | 0 => 0
  | n + 1 => g n
noncomputable def pm : List Int → (Nat → Int) → Nat → Int
  | [], _, _ => 0
  | a :: q, g, n => a * g n + sh (pm q g) n
theorem sh_congr {f g : Nat → Int} (h : ∀ n, f n = g n) (n : Nat) : sh f n = sh g n := by
  cases n with
  | zero => rfl
  | succ n => exact h n
theorem pm_congr {f g : Nat → Int} (h : ∀ n, f n = g n) : ∀ (q : List Int) (n : Nat), pm q f n = pm q g n
  | [], _ => rfl
  | a :: q, n => by rw [pm, pm, h, sh_congr (pm_congr h q)]
theorem pm_add (f g : Nat → Int) : ∀ (q : List Int) (n : Nat), pm q (fun i => f i + g i) n = pm q f n + pm q g n
  | [], _ => rfl
  | a :: q, n => by
    rw [pm, pm, pm, sh_congr (pm_add f g q)]
    cases n with
    | zero => simp only [sh]; grind
    | succ n => simp only [sh]; grind
theorem pm_smul (c : Int) (f : Nat → Int) : ∀ (q : List Int) (n : Nat), pm q (fun i => c * f i) n = c * pm q f n
  | [], _ => by simp [pm]
  | a :: q, n => by
    rw [pm, pm, sh_congr (pm_smul c f q)]
    cases n with
    | zero => simp only [sh]; grind
    | succ n => simp only [sh]; grind
theorem pm_sh (f : Nat → Int) : ∀ (q : List Int) (n : Nat), pm q (sh f) n = sh (pm q f) n
  | [], n => by cases n <;> rfl
  | a :: q, n => by
    rw [pm, sh_congr (pm_sh f q)]
    cases n with
    | zero => simp [sh]
    | succ n => simp only [sh, pm]
theorem pm_comm (g : Nat → Int) (q : List Int) : ∀ (p : List Int) (n : Nat), pm p (pm q g) n = pm q (pm p g) n
  | [], n => by
    have : pm q (pm [] g) n = pm q (fun i => 0 * (0 : Int)) n := pm_congr (fun n => by simp [pm]) q n
    rw [this, pm_smul 0 (fun _ => 0)]
    simp [pm]
  | a :: p, n => by
    have h1 : pm q (pm (a :: p) g) n = pm q (fun i => a * g i + sh (pm p g) i) n := pm_congr (fun n => rfl) q n
    rw [h1, pm_add (fun i => a * g i) (sh (pm p g)), pm_smul, pm_sh, pm, sh_congr (pm_comm g q p)]
noncomputable def ladd : List Int → List Int → List Int
  | [], q => q
  | a :: p, [] => a :: p
  | a :: p, b :: q => (a + b) :: ladd p q
theorem pm_ladd (g : Nat → Int) : ∀ (p q : List Int) (n : Nat), pm (ladd p q) g n = pm p g n + pm q g n
  | [], q, n => by simp [ladd, pm]
  | a :: p, [], n => by simp [ladd, pm]
  | a :: p, b :: q, n => by
    rw [ladd, pm, pm, pm, sh_congr (pm_ladd g p q)]
    cases n with
    | zero => simp only [sh]; grind
    | succ n => simp only [sh]; grind
noncomputable def lsm (c : Int) (q : List Int) : List Int := q.map (c * ·)
theorem pm_lsm (c : Int) (g : Nat → Int) : ∀ (q : List Int) (n : Nat), pm (lsm c q) g n = c * pm q g n
  | [], n => by simp [lsm, pm]
  | a :: q, n => by
    have ih := pm_lsm c g q
    unfold lsm at ih ⊢
    rw [List.map_cons, pm, pm, sh_congr ih]
    cases n with
    | zero => simp only [sh]; grind
    | succ n => simp only [sh]; grind
noncomputable def lmul : List Int → List Int → List Int
  | [], _ => []
  | a :: p, q => ladd (lsm a q) (0 :: lmul p q)
theorem pm_lmul (g : Nat → Int) (q : List Int) : ∀ (p : List Int) (n : Nat), pm (lmul p q) g n = pm p (pm q g) n
  | [], n => rfl
  | a :: p, n => by
    rw [lmul, pm_ladd, pm_lsm, pm, pm, sh_congr (pm_lmul g q p)]
    cases n <;> simp
/-- c times the letter's k-th power -/
noncomputable def mono (k : Nat) (c : Int) : List Int := List.replicate k 0 ++ [c]
theorem pm_mono (c : Int) (g : Nat → Int) : ∀ (k n : Nat), pm (mono k c) g n = if n < k then 0 else c * g (n - k)
  | 0, n => by
    show c * g n + sh (pm [] g) n = _
    cases n <;> simp [sh, pm]
  | k + 1, n => by
    show 0 * g n + sh (pm (mono k c) g) n = _
    cases n with
    | zero => simp [sh]
    | succ n => simp only [sh, pm_mono c g k n]; simp
theorem pm_one (g : Nat → Int) (n : Nat) : pm [1] g n = g n := by
  have := pm_mono 1 g 0 n
  simpa [mono] using this

/-! Congruences; 0 for equality. -/
noncomputable def Cg (p : Int) (f g : Nat → Int) : Prop := ∀ n, p ∣ f n - g n
theorem Cg.refl (p : Int) (f : Nat → Int) : Cg p f f := fun n => by simp
theorem Cg.of_eq {p : Int} {f g : Nat → Int} (h : ∀ n, f n = g n) : Cg p f g := fun n => by simp [h]
theorem Cg.symm {p : Int} {f g : Nat → Int} (h : Cg p f g) : Cg p g f := fun n => by
  have := (Int.dvd_neg).mpr (h n)
  rwa [Int.neg_sub] at this
theorem Cg.trans {p : Int} {f g k : Nat → Int} (h : Cg p f g) (h' : Cg p g k) : Cg p f k := fun n => by
  have := Int.dvd_add (h n) (h' n)
  rwa [show f n - g n + (g n - k n) = f n - k n by omega] at this
theorem Cg.add {p : Int} {f g f' g' : Nat → Int} (h : Cg p f g) (h' : Cg p f' g') : Cg p (fun n => f n + f' n) (fun n => g n + g' n) := fun n => by
  have := Int.dvd_add (h n) (h' n)
  rwa [show f n - g n + (f' n - g' n) = f n + f' n - (g n + g' n) by omega] at this
theorem Cg.smul {p : Int} {f g : Nat → Int} (c : Int) (h : Cg p f g) : Cg p (fun n => c * f n) (fun n => c * g n) := fun n => by
  have := Int.dvd_mul_of_dvd_right (h n) (b := c)
  rwa [Int.mul_sub] at this
theorem Cg.sh {p : Int} {f g : Nat → Int} (h : Cg p f g) : Cg p (Mine.sh f) (Mine.sh g) := fun n => by
  cases n with
  | zero => simp [Mine.sh]
  | succ n => exact h n
theorem Cg.pm {p : Int} {f g : Nat → Int} (h : Cg p f g) : ∀ q, Cg p (Mine.pm q f) (Mine.pm q g)
  | [] => Cg.refl _ _
  | a :: q => (h.smul a).add (Cg.pm h q).sh
theorem Cg.zero {f g : Nat → Int} (h : Cg 0 f g) (n : Nat) : f n = g n := by
  have := Int.zero_dvd.mp (h n); omega
theorem Cg.of_zero {p : Int} {f g : Nat → Int} (h : Cg 0 f g) : Cg p f g := .of_eq h.zero

/-! Ideals of two. -/
noncomputable def InI (p : Int) (a b f : Nat → Int) : Prop := ∃ s t, Cg p f (fun n => pm s a n + pm t b n)
theorem InI.left (p : Int) (a b : Nat → Int) : InI p a b a := ⟨[1], [], .of_eq fun n => by rw [pm_one]; simp [pm]⟩
theorem InI.right (p : Int) (a b : Nat → Int) : InI p a b b := ⟨[], [1], .of_eq fun n => by rw [pm_one]; simp [pm]⟩
theorem InI.cg {p : Int} {a b f g : Nat → Int} (h : InI p a b f) (e : Cg p g f) : InI p a b g := let ⟨s, t, h⟩ := h; ⟨s, t, e.trans h⟩
theorem InI.add {p : Int} {a b f g : Nat → Int} (h : InI p a b f) (h' : InI p a b g) : InI p a b (fun n => f n + g n) := by
  obtain ⟨s, t, h⟩ := h
  obtain ⟨s', t', h'⟩ := h'
  refine ⟨ladd s s', ladd t t', (h.add h').trans (.of_eq fun n => ?_)⟩
  rw [pm_ladd, pm_ladd]; omega
theorem InI.mul {p : Int} {a b f : Nat → Int} (h : InI p a b f) (q : List Int) : InI p a b (pm q f) := by
  obtain ⟨s, t, h⟩ := h
  refine ⟨lmul q s, lmul q t, (h.pm q).trans (.of_eq fun n => ?_)⟩
  rw [pm_add, pm_lmul, pm_lmul]
theorem InI.smul {p : Int} {a b f : Nat → Int} (c : Int) (h : InI p a b f) : InI p a b (fun n => c * f n) :=
  (h.mul (mono 0 c)).cg (.of_eq fun n => by rw [pm_mono]; simp)
/-- what stands in an ideal whose two stand in another -/
theorem InI.trans {p : Int} {a b a' b' f : Nat → Int} (h : InI p a b f) (ha : InI p a' b' a) (hb : InI p a' b' b) : InI p a' b' f := by
  obtain ⟨s, t, h⟩ := h
  exact ((ha.mul s).add (hb.mul t)).cg h
noncomputable def Dv (p : Int) (g f : Nat → Int) : Prop := ∃ q, Cg p f (pm q g)
theorem Dv.refl (p : Int) (g : Nat → Int) : Dv p g g := ⟨[1], .of_eq fun n => (pm_one g n).symm⟩
theorem Dv.cg {p : Int} {f f' g : Nat → Int} (h : Dv p g f) (e : Cg p f' f) : Dv p g f' := let ⟨q, h⟩ := h; ⟨q, e.trans h⟩
theorem Dv.add {p : Int} {f f' g : Nat → Int} (h : Dv p g f) (h' : Dv p g f') : Dv p g (fun n => f n + f' n) := by
  obtain ⟨q, h⟩ := h
  obtain ⟨q', h'⟩ := h'
  exact ⟨ladd q q', (h.add h').trans (.of_eq fun n => by rw [pm_ladd])⟩
theorem Dv.mul {p : Int} {f g : Nat → Int} (h : Dv p g f) (q : List Int) : Dv p g (pm q f) := by
  obtain ⟨r, h⟩ := h
  exact ⟨lmul q r, (h.pm q).trans (.of_eq fun n => by rw [pm_lmul])⟩
theorem Dv.smul {p : Int} {f g : Nat → Int} (c : Int) (h : Dv p g f) : Dv p g (fun n => c * f n) :=
  (h.mul (mono 0 c)).cg (.of_eq fun n => by rw [pm_mono]; simp)
theorem Dv.trans {p : Int} {f g k : Nat → Int} (h : Dv p g f) (h' : Dv p k g) : Dv p k f := by
  obtain ⟨q, h⟩ := h
  exact (h'.mul q).cg h
theorem InI.dv {p : Int} {a b f g : Nat → Int} (h : InI p a b f) (ha : Dv p g a) (hb : Dv p g b) : Dv p g f := by
  obtain ⟨s, t, h⟩ := h
  exact ((ha.mul s).add (hb.mul t)).cg h
theorem Dv.of_zero {p : Int} {f g : Nat → Int} (h : Dv 0 g f) : Dv p g f := let ⟨q, h⟩ := h; ⟨q, h.of_zero⟩
theorem InI.of_zero {p : Int} {a b f : Nat → Int} (h : InI 0 a b f) : InI p a b f := let ⟨s, t, h⟩ := h; ⟨s, t, h.of_zero⟩

/-! Degrees. -/
noncomputable def NoZ (p : Int) : Prop := ∀ x y : Int, p ∣ x * y → p ∣ x ∨ p ∣ y
theorem NoZ.zero : NoZ 0 := fun x y h => by
  simp only [Int.zero_dvd] at *
  exact Int.mul_eq_zero.mp h
/-- where a product ends -/
theorem deg_pm {p : Int} (hp : NoZ p) {g : Nat → Int} {d : Nat} (hd : ¬ p ∣ g d) (h0 : ∀ i, d < i → p ∣ g i) : ∀ (q : List Int) (N : Nat), (∀ i, N ≤ i → p ∣ pm q g i) → ∀ j, N ≤ j + d → p ∣ co q j
  | [], N, _, j, _ => by simp [co]
  | a :: q, N, h, j, hj => by
    have hq : ∀ i, max (N - 1) d ≤ i → p ∣ pm q g i := fun i hi => by
      have h1 := h (i + 1) (by omega)
      rw [pm] at h1
      have h2 := Int.dvd_mul_of_dvd_right (h0 (i + 1) (by omega)) (b := a)
      exact (Int.dvd_add_right h2).mp h1
    have ih := deg_pm hp hd h0 q _ hq
    cases j with
    | succ j =>
      have := ih j (by omega)
      simpa [co] using this
    | zero =>
      have hall : ∀ i, p ∣ pm q g i := by
        have : ∀ j, p ∣ co q j := fun j => ih j (by omega)
        intro i
        clear ih hq h hj
        induction q generalizing i with
        | nil => simp [pm]
        | cons c q ihq =>
          rw [pm]
          have hc : p ∣ c := by simpa [co] using this 0
          refine Int.dvd_add (Int.dvd_mul_of_dvd_left hc) ?_
          cases i with
          | zero => simp [sh]
          | succ i => exact ihq (fun j => by simpa [co] using this (j + 1)) i
      have h1 := h d (by omega)
      rw [pm] at h1
      have h2 : p ∣ sh (pm q g) d := by
        cases d with
        | zero => simp [sh]
        | succ d => exact hall d
      have h3 := (Int.dvd_add_left h2).mp h1
      rcases hp _ _ h3 with h4 | h4
      · simpa [co] using h4
      · exact absurd h4 hd
theorem co_nil (i : Nat) : co [] i = 0 := rfl
theorem co_zero (a : Int) (r : List Int) : co (a :: r) 0 = a := rfl
theorem co_succ (a : Int) (r : List Int) (i : Nat) : co (a :: r) (i + 1) = co r i := rfl
theorem co_ge {xs : List Int} {i : Nat} (h : xs.length ≤ i) : co xs i = 0 := by
  unfold co; rw [List.getD_eq_getElem?_getD, List.getElem?_eq_none h]; rfl
theorem co_get {xs : List Int} {i : Nat} (h : i < xs.length) : co xs i = xs[i] := by
  unfold co; rw [List.getD_eq_getElem?_getD, List.getElem?_eq_getElem h]; rfl
theorem co_mem {xs : List Int} {i : Nat} (h : i < xs.length) : co xs i ∈ xs := by rw [co_get h]; exact List.getElem_mem h
theorem co_of_mem {xs : List Int} {x : Int} (h : x ∈ xs) : ∃ i, i < xs.length ∧ co xs i = x := by
  obtain ⟨i, hi, rfl⟩ := List.getElem_of_mem h
  exact ⟨i, hi, co_get hi⟩
theorem co_map {f : Int → Int} (h0 : f 0 = 0) : ∀ (xs : List Int) (i : Nat), co (xs.map f) i = f (co xs i)
  | [], i => by simp [co_nil, h0]
  | a :: r, 0 => rfl
  | a :: r, i + 1 => by rw [List.map_cons, co_succ, co_succ, co_map h0 r i]
theorem co_take (xs : List Int) (k i : Nat) : co (xs.take k) i = if i < k then co xs i else 0 := by
  unfold co
  rw [List.getD_eq_getElem?_getD, List.getD_eq_getElem?_getD, List.getElem?_take]
  split <;> rfl
theorem co_append (xs ys : List Int) (i : Nat) : co (xs ++ ys) i = if i < xs.length then co xs i else co ys (i - xs.length) := by
  unfold co
  rw [List.getD_eq_getElem?_getD, List.getD_eq_getElem?_getD, List.getD_eq_getElem?_getD, List.getElem?_append]
  split <;> rfl
theorem co_replicate (n i : Nat) : co (List.replicate n 0) i = 0 := by
  unfold co
  rw [List.getD_eq_getElem?_getD, List.getElem?_replicate]
  split <;> rfl
theorem co_set (xs : List Int) (k i : Nat) (v : Int) (hk : k < xs.length) : co (xs.set k v) i = if i = k then v else co xs i := by
  unfold co
  rw [List.getD_eq_getElem?_getD, List.getD_eq_getElem?_getD, List.getElem?_set]
  by_cases h : i = k
  · subst h
    simp [hk]
  · simp [h, Ne.symm h]
theorem ext_co {xs ys : List Int} (hl : xs.length = ys.length) (h : ∀ i, co xs i = co ys i) : xs = ys := by
  refine List.ext_getElem hl fun i h1 h2 => ?_
  have := h i
  rwa [co_get h1, co_get h2] at this

noncomputable def trim : List Int → List Int
  | [] => []
  | a :: r => if trim r = [] then (if a = 0 then [] else [a]) else a :: trim r
theorem co_trim : ∀ (xs : List Int) (i : Nat), co (trim xs) i = co xs i
  | [], _ => rfl
  | a :: r, i => by
    have ih := co_trim r
    rw [trim]
    split
    · rename_i h
      rw [h] at ih
      have ih : ∀ i, co r i = 0 := fun i => (ih i).symm
      split
      · rename_i h0
        subst h0
        cases i with
        | zero => rfl
        | succ i => rw [co_succ, ih]; rfl
      · cases i with
        | zero => rfl
        | succ i => rw [co_succ, co_succ, ih]; rfl
    · cases i with
      | zero => rfl
      | succ i => rw [co_succ, co_succ, ih]
/-- trimmed -/
noncomputable def Tr (xs : List Int) : Prop := ∀ n, xs.length = n + 1 → co xs n ≠ 0
theorem tr_trim : ∀ xs, Tr (trim xs)
  | [] => fun n h => by simp [trim] at h
  | a :: r => by
    have ih := tr_trim r
    intro n h
    rw [trim] at h ⊢
    split at h
    · rename_i h0
      rw [if_pos h0]
      split at h
      · simp at h
      · rename_i ha
        rw [if_neg ha]
        simp at h
        subst h
        exact ha
    · rename_i h0
      rw [if_neg h0]
      cases n with
      | zero =>
        simp at h
        exact absurd h h0
      | succ n =>
        rw [co_succ]
        exact ih n (by simpa using h)
theorem len_trim : ∀ xs : List Int, (trim xs).length ≤ xs.length
  | [] => Nat.le_refl _
  | a :: r => by
    have := len_trim r
    rw [trim]
    split
    · split <;> simp
    · simp; exact this
theorem mem_trim : ∀ {xs : List Int} {x : Int}, x ∈ trim xs → x ∈ xs
  | [], _, h => by simp [trim] at h
  | a :: r, x, h => by
    rw [trim] at h
    split at h
    · split at h
      · cases h
      · simp at h; subst h; exact .head _
    · rcases List.mem_cons.mp h with rfl | h
      · exact .head _
      · exact .tail _ (mem_trim h)
theorem trim_of_tr : ∀ {xs : List Int}, Tr xs → trim xs = xs
  | [], _ => rfl
  | a :: r, h => by
    rw [trim]
    by_cases hr : r = []
    · subst hr
      have : a ≠ 0 := h 0 rfl
      rw [show trim [] = [] from rfl, if_pos rfl, if_neg this]
    · have : Tr r := fun n hn => by
        have := h (n + 1) (by simp [hn])
        rwa [co_succ] at this
      rw [trim_of_tr this, if_neg hr]
theorem tr_len {xs : List Int} (h : Tr xs) {n : Nat} (h0 : ∀ i, n ≤ i → co xs i = 0) : xs.length ≤ n := by
  cases e : xs.length with
  | zero => exact Nat.zero_le _
  | succ m =>
    rcases Nat.lt_or_ge m n with hm | hm
    · exact hm
    · exact absurd (h0 m hm) (h m e)
theorem tr_ext {xs ys : List Int} (hx : Tr xs) (hy : Tr ys) (h : ∀ i, co xs i = co ys i) : xs = ys := by
  have h1 : xs.length ≤ ys.length := tr_len hx fun i hi => by rw [h]; exact co_ge hi
  have h2 : ys.length ≤ xs.length := tr_len hy fun i hi => by rw [← h]; exact co_ge hi
  exact ext_co (Nat.le_antisymm h1 h2) h
theorem trim_congr {xs ys : List Int} (h : ∀ i, co xs i = co ys i) : trim xs = trim ys := tr_ext (tr_trim _) (tr_trim _) fun i => by rw [co_trim, co_trim, h]
theorem trim_take_zero {xs : List Int} {k : Nat} (h : co xs k = 0) : trim (xs.take (k + 1)) = trim (xs.take k) := trim_congr fun i => by
  rw [co_take, co_take]
  by_cases h1 : i < k
  · rw [if_pos h1, if_pos (by omega)]
  · rw [if_neg h1]
    split
    · have : i = k := by omega
      rw [this, h]
    · rfl
theorem trim_take_last {xs : List Int} {k : Nat} (hk : k < xs.length) (h : co xs k ≠ 0) : trim (xs.take (k + 1)) = xs.take (k + 1) := trim_of_tr fun n hn => by
  rw [List.length_take] at hn
  have : n = k := by omega
  subst this
  rw [co_take, if_pos (by omega)]; exact h
theorem trim_nil_iff {xs : List Int} : trim xs = [] ↔ ∀ i, co xs i = 0 := ⟨fun h i => by rw [← co_trim, h]; rfl, fun h => by
  have := tr_len (n := 0) (tr_trim xs) fun i _ => by rw [co_trim, h]
  exact List.length_eq_zero_iff.mp (by omega)⟩
end Mine

namespace Mine
open PySem PySem.W PyProof.Rows PySem.Calls
local macro_rules | `(tactic| walk_at "st") => `(tactic| first | exact .inl rfl | exact .inr ⟨rfl, rfl, ‹_›⟩)
local macro_rules | `(tactic| walk_at "s0") => `(tactic| first
  | (with_reducible first
    | refine Seq_ret ?_
    | refine Fin_ret ?_
    | refine Fin_next ?_
    | refine ForK_next ?_
    | refine ForK_ret ?_
    | refine WhileK_ret ?_
    | refine CutK_ret ?_
    | refine ASs_nil ?_
    | refine ASs_cons ?_)
  | ((with_reducible refine AS_assign ?h ?hk ?hs); (case hs => rfl); (case hk => walk_at "st"))
  | (with_reducible first
    | refine AS_return ?_
    | refine AS_if ?_)
  | ((with_reducible refine AS_setbox1 ?hx ?h ?hs ?hd); (case hx => rfl); (case hs => rfl); (case hd => decide))
  | ((with_reducible refine AS_set (xs := ?xs) ?hx ?h ?hs ?hd); (case hx => rfl); (case hs => rfl); (case hd => decide))
  | ((with_reducible refine AS_aug (a := ?a) ?hx ?h ?hk); (case hx => rfl); (case hk => walk_at "st"))
  | ((with_reducible refine AS_append (xs := ?xs) ?hx ?h ?hb ?he ?hl ?hi ?hs ?hd); (case hx => rfl); (case hb => rfl); (case he => rfl); (case hl => rfl); (case hi => rfl); (case hs => rfl); (case hd => decide))
  | ((with_reducible refine AS_pop (xs := ?xs) ?hx ?h ?hb ?hl ?hi ?hs ?hd); (case hx => rfl); (case hb => rfl); (case hl => rfl); (case hi => rfl); (case hs => rfl); (case hd => decide))
  | ((with_reducible refine AS_expr ?h ?hi ?hs); (case hs => rfl); (case hi => rfl))
  | ((with_reducible refine AS_unpackS [?n1, ?n2] ?h ?hw ?hs); (case hw => rfl); (case hs => rfl))
  | ((with_reducible refine AS_unpackS [?n1, ?n2, ?n3] ?h ?hw ?hs); (case hw => rfl); (case hs => rfl))
  | ((with_reducible refine AS_unpack ?h ?hs ?hw); (case hw => rfl); (case hs => rfl))
  | ((with_reducible refine ex_put2 ?hy ?hx ?h); (case hy => walk_at "st"); (case hx => walk_at "st"))
  | ((with_reducible refine ex_put3 ?hz ?hy ?hx ?h); (case hz => walk_at "st"); (case hy => walk_at "st"); (case hx => walk_at "st"))
  | ((with_reducible refine AA_tuple ?h ?hn ?he); (case hn => rfl); (case he => rfl))
  | (with_reducible first
    | refine AAs_cons ?_
    | refine AAs_nil ?_)
  | ((with_reducible refine AA_name ?h ?hk); (case hk => walk_at "st"))
  | ((with_reducible refine AE_name (a := ?a) ?hx ?h ?hd); (case hx => rfl); (case hd => decide))
  | (with_reducible first
    | refine AE_int ?_
    | refine AE_bool ?_
    | refine AE_none ?_
    | refine AE_bin ?_
    | refine AE_un ?_)
  | ((with_reducible refine AE_cmp ?h ?hm); (case hm => with_unfolding_all rfl))
  | (with_reducible first
    | refine AE_ifexp ?_
    | refine AE_and1 ?_
    | refine AE_and ?_)
  | ((with_reducible refine AE_upto ?h ?ht); (case ht => (intro _ _; rfl)))
  | ((with_reducible refine AE_box1 ?hx ?h ?hs ?hd); (case hx => rfl); (case hs => (intro _ _ _; with_unfolding_all rfl)); (case hd => decide))
  | ((with_reducible refine AE_lenbox ?hx ?h ?hg ?he ?hs ?hd); (case hx => rfl); (case hg => rfl); (case he => rfl); (case hs => (intro _ _ _; with_unfolding_all rfl)); (case hd => decide))
  | ((with_reducible refine AE_popbox ?hx ?h ?hb ?he ?hs ?hl ?hd); (case hx => rfl); (case hb => rfl); (case he => rfl); (case hs => (intro _ _ _; with_unfolding_all rfl)); (case hl => rfl); (case hd => decide))
  | ((with_reducible refine AE_subOwn (xs := ?xs) ?hx ?h ?hs ?hd); (case hx => rfl); (case hs => (intro _ _ _; with_unfolding_all rfl)); (case hd => decide))
  | ((with_reducible refine AE_sub ?h ?hs); (case hs => (intro _ _ _; with_unfolding_all rfl)))
  | ((with_reducible refine AE_abs ?h ?hx ?he); (case hx => rfl); (case he => rfl))
  | ((with_reducible refine AE_len ?h ?hx ?he); (case hx => rfl); (case he => rfl))
  | ((with_reducible refine AE_max ?h ?hx ?he ?hf); (case hx => rfl); (case he => rfl); (case hf => rfl))
  | ((with_reducible refine AE_listcall ?h ?hx ?he); (case hx => rfl); (case he => rfl))
  | ((with_reducible refine AE_call ?h ?hx ?he ?hd ?hf); (case hx => rfl); (case he => rfl); (case hd => decide); (case hf => decide +kernel))
  | (with_reducible first
    | refine AE_tuple ?_
    | refine AE_dispT ?_
    | refine AE_dispI ?_
    | refine AIfs_nil ?_
    | refine AIfs_one ?_
    | refine AL_nil ?_)
  | ((with_reducible refine AL_cons ?h ?he); (case he => rfl))
  | (with_reducible first
    | refine AT_not ?_
    | refine AT_and_nil ?_
    | refine AT_or_nil ?_
    | refine AT_and ?_
    | refine AT_or ?_)
  | ((with_reducible refine AT_chain ?h ?hm); (case hm => with_unfolding_all rfl))
  | ((with_reducible refine AT_neNil (xs := ?xs) ?hx ?h ?hd ?hm); (case hx => rfl); (case hm => with_unfolding_all rfl); (case hd => decide))
  | ((with_reducible refine AT_cmp ?h ?hm); (case hm => with_unfolding_all rfl))
  | ((with_reducible refine AT_plain ?h ?he); (case he => (intro _; rfl)))
  | (with_reducible first
    | refine BinW_add ?_
    | refine BinW_sub ?_
    | refine BinW_mul ?_ ?_
    | refine BinW_mod ?_ ?_
    | refine BinW_fdiv ?_ ?_ ?_
    | refine BinW_app ?_ ?_
    | refine BinW_rep ?_ ?_ ?_
    | refine UnW_neg ?_
    | refine UnW_not ?_
    | refine IopW_add ?_
    | refine IopW_sub ?_
    | refine CmpW_eq ?_
    | refine CmpW_ne ?_
    | refine CmpW_lt ?_
    | refine CmpW_le ?_
    | refine CmpW_gt ?_
    | refine CmpW_ge ?_
    | refine CmpW_eqL ?_
    | refine CmpW_neL ?_
    | refine CmpW_eqB ?_
    | refine CmpW_neB ?_
    | refine CmpW_nn ?_
    | refine CmpW_ln ?_
    | refine CmpW_tn ?_
    | refine SubW_last ?_ ?_
    | refine SubW_nn ?_ ?_ ?_)
  | ((with_reducible refine SubW_tup (d := ?d) ?h0 ?h ?hl ?q); (case h => rfl); (case h0 => decide); (case hl => exact Nat.le_of_ble_eq_true rfl))
  | ((with_reducible refine SubW_list (d := ?d) ?h0 ?h ?hl ?q); (case h => rfl); (case h0 => decide); (case hl => exact Nat.le_of_ble_eq_true rfl))
  | (with_reducible first
    | refine ite_t ?_
    | refine ite_f ?_
    | refine ite_dec (fun h => ?_) (fun h => ?_)
    | refine ite_ndec (fun h => ?_) (fun h => ?_)
    | refine ite_b (fun h => ?_) (fun h => ?_)
    | refine ex_bool ?_
    | refine ex_rep2 ?_ ?_ ?_
    | refine ex_set ?_ ?_ ?_
    | refine ex_rep1 ?_)
  | ((with_reducible refine AEo_list ?h ?hx ?he); (case hx => rfl); (case he => rfl))
  | (with_reducible first
    | refine AEo_nil ?_
    | refine AEo_rep ?_
    | refine ex_upto ?_ ?_
    | refine ex_int ?_
    | refine ex_ints ?_
    | refine ex_int2 ?_
    | refine ex_up ?_
    | refine ex_upl ?_
    | refine ex_none ?_)
  | ((with_reducible refine ex_disp (ns := ?ns) ?e ?hl ?q); (case e => rfl); (case hl => exact Nat.le_of_ble_eq_true rfl))
  | ((with_reducible refine and_l100 ?a ?b); (case a => exact Nat.le_of_ble_eq_true rfl)))
local macro_rules | `(tactic| walk_at "s") => `(tactic| first
  | (with_reducible refine Seq_next ?_)
  | walk_at "s0")
local macro_rules | `(tactic| walk_at "r0") => `(tactic| (repeat' ((try dsimp only); walk_at "s0")) <;> (try dsimp only))
local macro_rules | `(tactic| walk_at "r") => `(tactic| (repeat' ((try dsimp only); walk_at "s")) <;> (try dsimp only))
local macro_rules | `(tactic| walk_at "o") => `(tactic| first
  | (with_reducible assumption)
  | ((with_reducible refine mulOk (m := ?m) (n := ?n) ?a ?b ?c); (case a => with_reducible assumption); (case b => with_reducible assumption); (case c => exact Nat.le_of_ble_eq_true rfl))
  | ((with_reducible refine divOk (n := ?n) ?b ?c); (case b => with_reducible assumption); (case c => exact Nat.le_of_ble_eq_true rfl))
  | (with_reducible omega))
local macro_rules | `(tactic| walk_at "sub") => `(tactic| repeat' (first | exact trivial | refine ⟨rfl, ?_⟩))
local macro_rules | `(tactic| walk_at "cap") => `(tactic| repeat' (first | exact trivial | refine ⟨⟨⟨_, rfl⟩, rfl, rfl, rfl⟩, ?_⟩))
theorem gcd_step (a b : Int) (ha : 0 ≤ a) (hb : 0 ≤ b) (hne : b ≠ 0) : 0 ≤ a.fmod b ∧ (a.fmod b).toNat < b.toNat ∧ Int.gcd b (a.fmod b) = Int.gcd a b := by
  have e : a.fmod b = a % b := Int.fmod_eq_emod_of_nonneg a hb
  rw [e]
  have h1 := Int.emod_nonneg a hne
  have h2 := Int.emod_lt_of_pos a (by omega : 0 < b)
  refine ⟨h1, by omega, ?_⟩
  have e2 : a % b = a - b * (a / b) := Int.emod_def a b
  rw [e2, Int.gcd_comm a b, Int.mul_comm, Int.gcd_sub_mul_right_right]
theorem spec_gcd {C : Cx} {bx : Bx} {b : BS} (K : C.Ok) (x y : Int) : Spec C bx "gcd" 1 [.int x, .int y] b fun r b' => r = .int (Int.gcd x y) ∧ b' = b := by
  refine spec_of_body 1 K ["a", "b"] (by decide +kernel) ?_ rfl (by decide) (by decide +kernel) (by decide +kernel) rfl rfl rfl ?_
  · exact fun pm code doc => hb2 fun u0 u1 => rfl
  intro A L a₀ cd O s hcn
  refine ASs_cons ?_
  walk_at "r"
  refine AS_while (α := Int × Int) (fun z => ⟨[("a", .av (.int z.1)), ("b", .av (.int z.2))], b⟩) (fun z => 0 ≤ z.1 ∧ 0 ≤ z.2 ∧ Int.gcd z.1 z.2 = Int.gcd x y) (fun z => z.2.toNat) (if x < 0 then -x else x, if y < 0 then -y else y) ?_ ⟨rfl, rfl, rfl, trivial⟩ ?_
  · refine ⟨by split <;> omega, by split <;> omega, ?_⟩
    dsimp only
    split <;> split <;> simp
  intro ⟨u, v⟩ ⟨hu, hv, hg⟩
  walk_at "r"
  · assumption
  · obtain ⟨h1, h2, h3⟩ := gcd_step u v hu hv ‹_›
    refine WhileK_next (v, u.fmod v) ⟨hv, h1, h3.trans hg⟩ h2 ⟨rfl, rfl, rfl, trivial⟩
  · rename_i h
    subst h
    refine ⟨?_, rfl⟩
    simp only [Int.gcd_zero] at hg
    rw [← hg]
    congr 1
    omega
noncomputable def cont (xs : List Int) : Int := xs.foldl (fun f n => (Int.gcd f n : Int)) 0
theorem spec_gcd_all {C : Cx} {bx : Bx} {b : BS} (K : C.Ok) (xs : List Int) : Spec C bx "gcd_all" 2 [.ints xs] b fun r b' => r = .int (cont xs) ∧ b' = b := by
  refine spec_of_body 2 K ["numbers"] (by decide +kernel) ?_ rfl (by decide) (by decide +kernel) (by decide +kernel) rfl rfl rfl ?_
  · exact fun pm code doc => hb1 fun u0 => rfl
  intro A L a₀ cd O s hcn
  refine ASs_cons ?_
  walk_at "r"
  refine AS_forI (α := Int) (fun z => ⟨[("found", .av (.int z))], b⟩) (fun r z => ∃ ms : List Int, r = ms.map AV.int ∧ ms.foldl (fun f n => (Int.gcd f n : Int)) z = cont xs) ?_ ?_ ?_
  · refine AI_av ?_
    walk_at "r"
    exact ⟨_, rfl, 0, ⟨xs, rfl, rfl⟩, rfl, rfl, trivial⟩
  · rintro a r z ⟨ms, hr, hz⟩
    cases ms with
    | nil => simp at hr
    | cons n ms =>
      simp only [List.map_cons, List.cons.injEq] at hr
      obtain ⟨rfl, rfl⟩ := hr
      walk_at "r"
      refine ex_spec (spec_gcd K z n) ?_
      rintro _ _ ⟨rfl, rfl⟩
      walk_at "r"
      exact ⟨_, ⟨ms, rfl, hz⟩, rfl, rfl, trivial⟩
  · rintro z ⟨ms, hr, hz⟩
    cases ms with
    | cons n ms => simp at hr
    | nil =>
      simp only [List.foldl_nil] at hz
      subst hz
      walk_at "r"
      exact ⟨rfl, rfl⟩
structure ExtI (a b : Int) (z : Int × Int × Int × Int × Int × Int) : Prop where
  p : 0 < z.1
  q : 0 ≤ z.2.2.2.1
  e₁ : z.2.1 * a + z.2.2.1 * b = z.1
  e₂ : z.2.2.2.2.1 * a + z.2.2.2.2.2 * b = z.2.2.2.1
  g : Int.gcd z.1 z.2.2.2.1 = Int.gcd a b
  v₁ : (z.2.1.natAbs : Int) * z.2.2.2.1 + (z.2.2.2.2.1.natAbs : Int) * z.1 ≤ b
  v₂ : (z.2.2.1.natAbs : Int) * z.2.2.2.1 + (z.2.2.2.2.2.natAbs : Int) * z.1 ≤ a
  b₁ : (z.2.1.natAbs : Int) ≤ b
  b₂ : (z.2.2.1.natAbs : Int) ≤ a
  m : z.1 ≤ a + b
  m' : z.2.2.2.1 ≤ a + b
theorem ExtI.init {a b : Int} (ha : 0 < a) (hb : 0 < b) : ExtI a b (a, 1, 0, b, 0, 1) := by
  constructor <;> simp <;> omega
theorem abs_le_mul {x y b : Int} (h : (x.natAbs : Int) * y ≤ b) (hy : 0 < y) : (x.natAbs : Int) ≤ b := by
  have : (x.natAbs : Int) * 1 ≤ (x.natAbs : Int) * y := Int.mul_le_mul_of_nonneg_left (by omega) (by omega)
  omega
theorem v_step {o₁ t₁ o₀ t₀ q r b : Int} (ht : 0 ≤ t₀) (hq : 0 ≤ q) (hr : r = o₀ - q * t₀) (h : (o₁.natAbs : Int) * t₀ + (t₁.natAbs : Int) * o₀ ≤ b) :
    (t₁.natAbs : Int) * r + ((o₁ - q * t₁).natAbs : Int) * t₀ ≤ b := by
  have h1 : ((o₁ - q * t₁).natAbs : Int) ≤ o₁.natAbs + q * t₁.natAbs := by
    have h2 := Int.natAbs_sub_le o₁ (q * t₁)
    have h3 : ((q * t₁).natAbs : Int) = q * t₁.natAbs := by rw [Int.natAbs_mul, Int.natCast_mul, Int.natAbs_of_nonneg hq]
    omega
  have h2 := Int.mul_le_mul_of_nonneg_right h1 ht
  have h3 : (t₁.natAbs : Int) * r + (o₁.natAbs + q * t₁.natAbs) * t₀ = (o₁.natAbs : Int) * t₀ + (t₁.natAbs : Int) * o₀ := by subst hr; grind
  omega
theorem ExtI.step {a b : Int} {o₀ o₁ o₂ t₀ t₁ t₂ : Int} (h : ExtI a b (o₀, o₁, o₂, t₀, t₁, t₂)) (hne : t₀ ≠ 0) :
    ExtI a b (t₀, t₁, t₂, o₀ - o₀.fdiv t₀ * t₀, o₁ - o₀.fdiv t₀ * t₁, o₂ - o₀.fdiv t₀ * t₂) ∧ (o₀ - o₀.fdiv t₀ * t₀).toNat < t₀.toNat := by
  obtain ⟨p, q, e₁, e₂, g, v₁, v₂, b₁, b₂, m, m'⟩ := h
  dsimp only at *
  have ht : 0 < t₀ := by omega
  have eq : o₀.fdiv t₀ = o₀ / t₀ := Int.fdiv_eq_ediv_of_nonneg o₀ q
  rw [eq]
  have hq : 0 ≤ o₀ / t₀ := Int.ediv_nonneg (by omega) q
  have er : o₀ - o₀ / t₀ * t₀ = o₀ % t₀ := by rw [Int.mul_comm]; exact (Int.emod_def o₀ t₀).symm
  have h1 := Int.emod_nonneg o₀ hne
  have h2 := Int.emod_lt_of_pos o₀ ht
  have w₁ := v_step q hq er.symm v₁
  have w₂ := v_step q hq er.symm v₂
  refine ⟨⟨ht, by dsimp only; omega, e₂, ?_, ?_, ?_, ?_, ?_, ?_, by dsimp only; omega, by dsimp only; omega⟩, by omega⟩
  · dsimp only
    rw [← e₁, ← e₂]; grind
  · dsimp only
    rw [← g, Int.gcd_comm o₀ t₀]
    exact Int.gcd_sub_mul_right_right t₀ o₀ _
  · dsimp only; rw [er]; exact w₁
  · dsimp only; rw [er]; exact w₂
  · have : 0 ≤ (o₁.natAbs : Int) * t₀ := Int.mul_nonneg (by omega) q
    refine abs_le_mul (y := o₀) (b := b) ?_ p
    dsimp only; omega
  · have : 0 ≤ (o₂.natAbs : Int) * t₀ := Int.mul_nonneg (by omega) q
    refine abs_le_mul (y := o₀) (b := a) ?_ p
    dsimp only; omega
theorem ExtI.t₁ {a b : Int} {o₀ o₁ o₂ t₀ t₁ t₂ : Int} (h : ExtI a b (o₀, o₁, o₂, t₀, t₁, t₂)) : (t₁.natAbs : Int) ≤ b ∧ (t₂.natAbs : Int) ≤ a := by
  obtain ⟨p, q, e₁, e₂, g, v₁, v₂, b₁, b₂, m, m'⟩ := h
  dsimp only at *
  have h1 : 0 ≤ (o₁.natAbs : Int) * t₀ := Int.mul_nonneg (by omega) q
  have h2 : 0 ≤ (o₂.natAbs : Int) * t₀ := Int.mul_nonneg (by omega) q
  have h3 : (t₁.natAbs : Int) * o₀ ≤ b := by omega
  have h4 : (t₂.natAbs : Int) * o₀ ≤ a := by omega
  exact ⟨abs_le_mul h3 p, abs_le_mul h4 p⟩
theorem fdiv_abs {x y : Int} (hx : 0 ≤ x) (hy : 0 ≤ y) : (x.fdiv y).natAbs ≤ x.natAbs := by
  rw [Int.fdiv_eq_ediv_of_nonneg x hy]
  exact Int.natAbs_ediv_le_natAbs x y
theorem spec_extended {C : Cx} {bx : Bx} {b : BS} (K : C.Ok) (x y : Int) (hx : 0 < x) (hy : 0 < y) (bx' : Bd 4000 x) (by' : Bd 4000 y) :
    Spec C bx "extended" 1 [.int x, .int y] b fun r b' => (∃ s t, r = .tup [.int (Int.gcd x y), .int s, .int t] ∧ s * x + t * y = Int.gcd x y ∧ (s.natAbs : Int) ≤ y ∧ (t.natAbs : Int) ≤ x) ∧ b' = b := by
  refine spec_of_body 3 K ["a", "b"] (by decide +kernel) ?_ rfl (by decide) (by decide +kernel) (by decide +kernel) rfl rfl rfl ?_
  · exact fun pm code doc => hb2 fun u0 u1 => rfl
  intro A L a₀ cd O s hcn
  refine ASs_cons ?_
  walk_at "r"
  refine AS_while (α := Int × Int × Int × Int × Int × Int) (fun z => ⟨[("one", .av (.tup [.int z.1, .int z.2.1, .int z.2.2.1])), ("other", .av (.tup [.int z.2.2.2.1, .int z.2.2.2.2.1, .int z.2.2.2.2.2]))], b⟩)
    (ExtI x y) (fun z => z.2.2.2.1.toNat) (x, 1, 0, y, 0, 1) (ExtI.init hx hy) ⟨rfl, rfl, rfl, trivial⟩ ?_
  rintro ⟨o₀, o₁, o₂, t₀, t₁, t₂⟩ hI
  obtain ⟨k₁, k₂⟩ := hI.t₁
  have bs : Bd 4001 (x + y) := bx'.add by'
  have bt : Bd 4001 t₀ := bs.of_le (by have := hI.q; have := hI.m'; dsimp only at *; omega)
  have bq : Bd 4001 (o₀.fdiv t₀) := bs.of_le (by
    have := fdiv_abs (Int.le_of_lt hI.p) hI.q
    have := hI.p; have := hI.m; dsimp only at *; omega)
  have bt₁ : Bd 4000 t₁ := by'.of_le (by omega)
  have bt₂ : Bd 4000 t₂ := bx'.of_le (by omega)
  walk_at "r"
  all_goals try walk_at "o"
  · obtain ⟨h1, h2⟩ := hI.step ‹_›
    refine WhileK_next (t₀, t₁, t₂, _, _, _) h1 h2 ⟨rfl, rfl, rfl, trivial⟩
  · rename_i h0 h1
    subst h0
    have hg : (o₀ : Int) = Int.gcd x y := by
      have := hI.g
      dsimp only at this
      rw [Int.gcd_zero] at this
      have := hI.p
      dsimp only at this
      omega
    exact ⟨⟨o₁, o₂, by rw [hg], by rw [← hg]; exact hI.e₁, hI.b₁, hI.b₂⟩, rfl⟩
  · exact absurd (Int.le_of_lt hI.p) ‹_›
/-- what inverts a by m -/
theorem spec_inverse {C : Cx} {bx : Bx} {b : BS} (K : C.Ok) (x m : Int) (hm : 1 < m) (bm : Bd 4000 m) (hg : Int.gcd x m = 1) :
    Spec C bx "inverse_mod" 2 [.int x, .int m] b fun r b' => (∃ v, r = .int v ∧ 0 ≤ v ∧ v < m ∧ m ∣ x * v - 1) ∧ b' = b := by
  refine spec_of_body 4 K ["a", "m"] (by decide +kernel) ?_ rfl (by decide) (by decide +kernel) (by decide +kernel) rfl rfl rfl ?_
  · exact fun pm code doc => hb2 fun u0 u1 => rfl
  intro A L a₀ cd O s hcn
  refine ASs_cons ?_
  have e : x.fmod m = x % m := Int.fmod_eq_emod_of_nonneg x (by omega)
  have hg' : Int.gcd (x % m) m = 1 := by
    rw [Int.emod_def, Int.gcd_sub_mul_left_left]; exact hg
  have h1 := Int.emod_nonneg x (by omega : m ≠ 0)
  have h2 := Int.emod_lt_of_pos x (by omega : 0 < m)
  have h3 : x % m ≠ 0 := fun q => by
    rw [q, Int.zero_gcd] at hg'; omega
  walk_at "r"
  all_goals try walk_at "o"
  rw [e]
  refine ex_spec (spec_extended K (x % m) m (by omega) (by omega) (bm.of_le (by omega)) bm) ?_
  rintro _ _ ⟨⟨s, t, rfl, h4, _, _⟩, rfl⟩
  rw [hg'] at h4 ⊢
  walk_at "r"
  all_goals try walk_at "o"
  · refine ⟨⟨_, rfl, ?_, ?_, ?_⟩, rfl⟩
    · rw [Int.fmod_eq_emod_of_nonneg s (by omega)]; exact Int.emod_nonneg s (by omega)
    · rw [Int.fmod_eq_emod_of_nonneg s (by omega)]; exact Int.emod_lt_of_pos s (by omega)
    · rw [Int.fmod_eq_emod_of_nonneg s (by omega), Int.emod_def]
      rw [Int.emod_def] at h4
      refine ⟨- (x * (s / m)) - t + s * (x / m), ?_⟩
      have : ((1 : Nat) : Int) = 1 := rfl
      rw [this] at h4
      grind

/-! least_divisor: found goes 2, 3, 5, .. -/
noncomputable def IsP (n : Int) : Prop := 2 ≤ n ∧ ∀ d, 2 ≤ d → d < n → ¬ d ∣ n
/-- the loop's own run, by fuel -/
noncomputable def lde (n : Nat) : Nat → Nat → Nat
  | 0, f => n
  | k + 1, f => if f * f ≤ n then (if n % f = 0 then f else lde n k (if f = 2 then f + 1 else f + 2)) else n
theorem spec_least {C : Cx} {bx : Bx} {b : BS} (K : C.Ok) (n : Nat) (hn : n < 1000) : Spec C bx "least_divisor" 1 [.int n, .int 2] b fun r b' => r = .int (lde n 40 2) ∧ b' = b := by
  refine spec_of_body 5 K ["n", "begin"] (by decide +kernel) ?_ rfl (by decide) (by decide +kernel) (by decide +kernel) rfl rfl rfl ?_
  · exact fun pm code doc => hb2 fun u0 u1 => rfl
  intro A L a₀ cd O s hcn
  refine ASs_cons ?_
  walk_at "r"
  refine AS_while (α := Nat × Nat) (fun z => ⟨[("n", .av (.int n)), ("found", .av (.int (z.2 : Int)))], b⟩) (fun z => 2 ≤ z.2 ∧ z.2 < 1000 ∧ lde n z.1 z.2 = lde n 40 2 ∧ (40 ≤ z.1 + z.2)) (fun z => z.1) (40, 2) (by simp) ⟨rfl, rfl, rfl, trivial⟩ ?_
  rintro ⟨k, f⟩ ⟨h2, hf, hl, hk⟩
  dsimp only at h2 hf hl hk
  walk_at "r"
  all_goals try walk_at "o"
  · exact mulOk (m := 10) (n := 10) (.of_lt (k := 1000) (by omega) (by decide)) (.of_lt (k := 1000) (by omega) (by decide)) (by decide)
  all_goals have e : ((n : Int).fmod (f : Int)) = ((n % f : Nat) : Int) := by rw [Int.fmod_eq_emod_of_nonneg _ (by omega)]; rfl
  all_goals have c0 : (n : Int).fmod (f : Int) = 0 ↔ n % f = 0 := by rw [e]; omega
  all_goals have c00 : (f : Int) * f ≤ n ↔ f * f ≤ n := by rw [← Int.natCast_mul]; omega
  · rename_i c1 c2
    have c1 : f * f ≤ n := c00.mp c1
    have c2 : n % f = 0 := c0.mp c2
    have : f < 32 := Nat.lt_of_not_le fun h => by have := Nat.mul_le_mul h h; omega
    obtain ⟨k', rfl⟩ : ∃ k', k = k' + 1 := ⟨k - 1, by omega⟩
    rw [lde, if_pos c1, if_pos c2] at hl
    exact ⟨by rw [hl], rfl⟩
  · rename_i c1 c2 c3
    have c1 : f * f ≤ n := c00.mp c1
    have c2 : ¬ n % f = 0 := fun q => c2 (c0.mpr q)
    have c3 : f = 2 := by omega
    have : f < 32 := Nat.lt_of_not_le fun h => by have := Nat.mul_le_mul h h; omega
    obtain ⟨k', rfl⟩ : ∃ k', k = k' + 1 := ⟨k - 1, by omega⟩
    rw [lde, if_pos c1, if_neg c2, if_pos c3] at hl
    exact WhileK_next (k', f + 1) ⟨by dsimp only; omega, by dsimp only; omega, hl, by dsimp only; omega⟩ (Nat.lt_succ_self _) ⟨rfl, rfl, rfl, trivial⟩
  · rename_i c1 c2 c3
    have c1 : f * f ≤ n := c00.mp c1
    have c2 : ¬ n % f = 0 := fun q => c2 (c0.mpr q)
    have c3 : ¬ f = 2 := by omega
    have : f < 32 := Nat.lt_of_not_le fun h => by have := Nat.mul_le_mul h h; omega
    obtain ⟨k', rfl⟩ : ∃ k', k = k' + 1 := ⟨k - 1, by omega⟩
    rw [lde, if_pos c1, if_neg c2, if_neg c3] at hl
    exact WhileK_next (k', f + 2) ⟨by dsimp only; omega, by dsimp only; omega, hl, by dsimp only; omega⟩ (Nat.lt_succ_self _) ⟨rfl, rfl, rfl, trivial⟩
  · rename_i c1
    have c1 : ¬ f * f ≤ n := fun q => c1 (c00.mpr q)
    refine ⟨?_, rfl⟩
    cases k with
    | zero =>
      rw [lde] at hl
      rw [← hl]
    | succ k' =>
      rw [lde, if_neg c1] at hl
      rw [← hl]
noncomputable def isPB (n : Nat) : Bool := decide (2 ≤ n) && decide (lde n 40 2 = n)
theorem spec_is_prime {C : Cx} {bx : Bx} {b : BS} (K : C.Ok) (n : Nat) (hn : n < 1000) : Spec C bx "is_prime" 2 [.int n] b fun r b' => r = .bool (isPB n) ∧ b' = b := by
  refine spec_of_body 6 K ["n"] (by decide +kernel) ?_ rfl (by decide) (by decide +kernel) (by decide +kernel) rfl rfl rfl ?_
  · exact fun pm code doc => hb1 fun u0 => rfl
  intro A L a₀ cd O s hcn
  refine ASs_cons ?_
  walk_at "r"
  · refine ex_spec (spec_least K n hn) ?_
    rintro _ _ ⟨rfl, rfl⟩
    walk_at "r"
    have h2 : 2 ≤ n := by omega
    refine ⟨?_, rfl⟩
    unfold isPB
    rw [decide_eq_true h2, Bool.true_and]
    congr 1
    exact decide_eq_decide.mpr (by omega)
  · have h2 : ¬ 2 ≤ n := by omega
    refine ⟨?_, rfl⟩
    unfold isPB
    rw [decide_eq_false h2, Bool.false_and]
noncomputable def nx : Nat → Nat → Nat
  | 0, f => f
  | k + 1, f => if isPB f = true then f else nx k (f + 1)
noncomputable def nextP (n : Nat) : Nat := nx 40 (max (n + 1) 2)
theorem nextP_prime : ∀ n, n < 300 → isPB (nextP n) = true := by
  have h : ((List.range 300).all fun n => isPB (nextP n)) = true := by decide +kernel
  intro n hn
  exact List.all_eq_true.mp h n (List.mem_range.mpr hn)
theorem spec_next_prime {C : Cx} {bx : Bx} {b : BS} (K : C.Ok) (n : Nat) (hn : n < 300) : Spec C bx "next_prime" 3 [.int n] b fun r b' => r = .int (nextP n) ∧ b' = b := by
  refine spec_of_body 7 K ["n"] (by decide +kernel) ?_ rfl (by decide) (by decide +kernel) (by decide +kernel) rfl rfl rfl ?_
  · exact fun pm code doc => hb1 fun u0 => rfl
  intro A L a₀ cd O s hcn
  refine ASs_cons ?_
  walk_at "r"
  refine AS_while (α := Nat × Nat) (fun z => ⟨[("found", .av (.int (z.2 : Int)))], b⟩) (fun z => z.1 + z.2 ≤ 400 ∧ isPB (nx z.1 z.2) = true ∧ nx z.1 z.2 = nextP n) (fun z => z.1) (40, max (n + 1) 2) ⟨by dsimp only; omega, nextP_prime n hn, rfl⟩ ⟨rfl, ?_, trivial⟩ ?_
  · show some (Slot.av (AV.int _)) = some (Slot.av (AV.int _))
    congr 3
    split <;> omega
  rintro ⟨k, f⟩ ⟨hk, hp, he⟩
  dsimp only at hk hp he
  walk_at "r"
  refine ex_spec (spec_is_prime K f (by omega)) ?_
  rintro _ _ ⟨rfl, rfl⟩
  walk_at "r"
  · have hf : isPB f = false := by simpa using ‹(!isPB f) = true›
    cases k with
    | zero => rw [nx, hf] at hp; cases hp
    | succ k' =>
      rw [nx, if_neg (by simp [hf])] at hp he
      exact WhileK_next (k', f + 1) ⟨by dsimp only; omega, hp, he⟩ (Nat.lt_succ_self _) ⟨rfl, rfl, trivial⟩
  · have hf : isPB f = true := by simpa using ‹(!isPB f) = false›
    refine ⟨?_, rfl⟩
    cases k with
    | zero => rw [← he]; rfl
    | succ k' => rw [nx, if_pos hf] at he; rw [he]
theorem spec_chinese_two {C : Cx} {bx : Bx} {b : BS} (K : C.Ok) (x m y p : Int) (hm : 0 < m) (hp : 0 < p) (bm : Bd 1500 m) (bp : Bd 1500 p) (bx1 : Bd 1500 x) (by1 : Bd 1500 y) (hg : Int.gcd m p = 1) :
    Spec C bx "chinese_two" 2 [.tup [.int x, .int m], .tup [.int y, .int p]] b fun r b' => (∃ v, r = .tup [.int v, .int (m * p)] ∧ 0 ≤ v ∧ v < m * p ∧ m ∣ v - x ∧ p ∣ v - y) ∧ b' = b := by
  refine spec_of_body 8 K ["one", "other"] (by decide +kernel) ?_ rfl (by decide) (by decide +kernel) (by decide +kernel) rfl rfl rfl ?_
  · exact fun pm code doc => hb2 fun u0 u1 => rfl
  intro A L a₀ cd O s hcn
  refine ASs_cons ?_
  walk_at "r"
  refine ex_spec (spec_extended K m p hm hp (bm.mono (by decide)) (bp.mono (by decide))) ?_
  rintro _ _ ⟨⟨s, t, rfl, h4, h5, h6⟩, rfl⟩
  rw [hg, show ((1 : Nat) : Int) = 1 from rfl] at h4 ⊢
  have bs : Bd 1500 s := bp.of_le (by omega)
  have byx : Bd 1501 (y - x) := by1.sub bx1
  have b1 : Bd 1 1 := ⟨by decide⟩
  have bsy : Bd 3001 (s * (y - x)) := bs.mul byx
  walk_at "r"
  all_goals repeat rw [Int.fdiv_one]
  all_goals try walk_at "o"
  · have : (y - x).fmod 1 = 0 := by rw [Int.fmod_eq_emod_of_nonneg _ (by decide)]; omega
    exact absurd this ‹_›
  · have := Int.mul_pos hm hp; omega
  · have hmp := Int.mul_pos hm hp
    rw [Int.fmod_eq_emod_of_nonneg _ (Int.le_of_lt hmp)]
    refine ⟨⟨_, rfl, Int.emod_nonneg _ (by omega), Int.emod_lt_of_pos _ hmp, ?_, ?_⟩, rfl⟩
    · rw [Int.emod_def]
      exact ⟨s * (y - x) - p * ((x + m * (s * (y - x))) / (m * p)), by grind⟩
    · rw [Int.emod_def]
      exact ⟨- t * (y - x) - m * ((x + m * (s * (y - x))) / (m * p)), by grind⟩
/-- the one number that is x by m and y by p -/
theorem spec_chinese {C : Cx} {bx : Bx} {b : BS} (K : C.Ok) (x m y p : Int) (hm : 0 < m) (hp : 0 < p) (bm : Bd 1500 m) (bp : Bd 1500 p) (bx1 : Bd 1500 x) (by1 : Bd 1500 y) (hg : Int.gcd m p = 1) :
    Spec C bx "chinese" 3 [.list [.tup [.int x, .int m], .tup [.int y, .int p]]] b fun r b' => (∃ v, r = .tup [.int v, .int (m * p)] ∧ 0 ≤ v ∧ v < m * p ∧ m ∣ v - x ∧ p ∣ v - y) ∧ b' = b := by
  refine spec_of_body 9 K ["pairs"] (by decide +kernel) ?_ rfl (by decide) (by decide +kernel) (by decide +kernel) rfl rfl rfl ?_
  · exact fun pm code doc => hb1 fun u0 => rfl
  intro A L a₀ cd O s hcn
  refine ASs_cons ?_
  have b0 : Bd 1500 0 := ⟨Nat.pow_pos (by decide)⟩
  have b1 : Bd 1500 1 := .of_lt (k := 2) (by decide) (by rw [show 1500 = 1 + 1499 from rfl, Nat.pow_add]; exact Nat.le_mul_of_pos_right 2 (Nat.pow_pos (by decide)))
  walk_at "r"
  refine AS_forI (α := List AV) (fun z => ⟨[("found", .av (.tup z))], b⟩) (fun r z => (r = [.tup [.int x, .int m], .tup [.int y, .int p]] ∧ z = [.int 0, .int 1]) ∨ (r = [.tup [.int y, .int p]] ∧ ∃ v, z = [.int v, .int m] ∧ Bd 1500 v ∧ m ∣ v - x) ∨
    (r = [] ∧ ∃ v, z = [.int v, .int (m * p)] ∧ 0 ≤ v ∧ v < m * p ∧ m ∣ v - x ∧ p ∣ v - y)) ?_ ?_ ?_
  · refine AI_av ?_
    walk_at "r"
    exact ⟨_, rfl, _, .inl ⟨rfl, rfl⟩, rfl, rfl, trivial⟩
  · rintro a r z (⟨h1, rfl⟩ | ⟨h1, v, rfl, bv, hv⟩ | ⟨h1, _⟩)
    · simp only [List.cons.injEq] at h1
      obtain ⟨rfl, rfl⟩ := h1
      walk_at "r"
      refine ex_spec (spec_chinese_two K 0 1 x m (by decide) hm b1 bm b0 bx1 (by simp)) ?_
      rintro _ _ ⟨⟨v, rfl, h2, h3, h4, h5⟩, rfl⟩
      rw [Int.one_mul] at *
      walk_at "r"
      exact ⟨_, .inr (.inl ⟨rfl, v, rfl, bm.of_le (by omega), h5⟩), rfl, rfl, trivial⟩
    · simp only [List.cons.injEq] at h1
      obtain ⟨rfl, rfl⟩ := h1
      walk_at "r"
      refine ex_spec (spec_chinese_two K v m y p hm hp bm bp bv by1 hg) ?_
      rintro _ _ ⟨⟨w, rfl, h2, h3, h4, h5⟩, rfl⟩
      walk_at "r"
      refine ⟨_, .inr (.inr ⟨rfl, w, rfl, h2, h3, ?_, h5⟩), rfl, rfl, trivial⟩
      have := Int.dvd_add h4 hv
      rw [show w - x = w - v + (v - x) by omega]; exact this
    · cases h1
  · rintro z (⟨h1, rfl⟩ | ⟨h1, v, rfl, bv, hv⟩ | ⟨h1, v, rfl, h⟩)
    · cases h1
    · cases h1
    · walk_at "r"
      exact ⟨⟨v, rfl, h⟩, rfl⟩
/-- the number that is a by m, nearest to 0, of two alike the one above -/
noncomputable def symI (a m : Int) : Int := if 2 * (a % m) > m then a % m - m else a % m
theorem spec_symmetric {C : Cx} {bx : Bx} {b : BS} (K : C.Ok) (x m : Int) (hm : 0 < m) (bm : Bd 4000 m) : Spec C bx "symmetric" 1 [.int x, .int m] b fun r b' => r = .int (symI x m) ∧ b' = b := by
  refine spec_of_body 10 K ["a", "m"] (by decide +kernel) ?_ rfl (by decide) (by decide +kernel) (by decide +kernel) rfl rfl rfl ?_
  · exact fun pm code doc => hb2 fun u0 u1 => rfl
  intro A L a₀ cd O s hcn
  refine ASs_cons ?_
  have e : x.fmod m = x % m := Int.fmod_eq_emod_of_nonneg x (by omega)
  have h1 := Int.emod_nonneg x (by omega : m ≠ 0)
  have h2 := Int.emod_lt_of_pos x (by omega : 0 < m)
  have b2 : Bd 2 2 := ⟨by decide⟩
  have bf : Bd 4000 (x.fmod m) := bm.of_le (by omega)
  walk_at "r"
  all_goals try walk_at "o"
  · rw [e] at *
    refine ⟨?_, rfl⟩
    unfold symI
    rw [if_pos (by assumption)]
  · rw [e] at *
    refine ⟨?_, rfl⟩
    unfold symI
    rw [if_neg (by omega)]
/-- the loop of the two trims -/
theorem trim_step {xs : List Int} {k : Nat} (hk : k < xs.length) (h : co xs k = 0) : trim (xs.take k) = trim (xs.take (k + 1)) := (trim_take_zero h).symm
theorem getD_co {xs : List Int} {z : Int} {j : Nat} (h : z.toNat = j) : xs.getD z.toNat 0 = co xs j := by rw [h]; rfl
theorem spec_mtrim {C : Cx} {bx : Bx} {b : BS} (K : C.Ok) (xs : List Int) : Spec C bx "mtrim" 1 [.ints xs] b fun r b' => r = .ints (trim xs) ∧ b' = b := by
  refine spec_of_body 12 K ["a"] (by decide +kernel) ?_ rfl (by decide) (by decide +kernel) (by decide +kernel) rfl rfl rfl ?_
  · exact fun pm code doc => hb1 fun u0 => rfl
  intro A L a₀ cd O s hcn
  refine ASs_cons ?_
  walk_at "r"
  refine AS_while (α := Nat) (fun z => ⟨[("a", .av (.ints xs)), ("many", .av (.int (z : Int)))], b⟩) (fun z => z ≤ xs.length ∧ trim (xs.take z) = trim xs) (fun z => z) xs.length ⟨Nat.le_refl _, by rw [List.take_length]⟩ ⟨rfl, rfl, rfl, trivial⟩ ?_
  rintro k ⟨hk, he⟩
  walk_at "r"
  all_goals try walk_at "o"
  · rename_i hz
    obtain ⟨j, rfl⟩ : ∃ j, k = j + 1 := ⟨k - 1, by omega⟩
    rw [getD_co (j := j) (by omega)] at hz
    refine WhileK_next j ⟨by omega, ?_⟩ (Nat.lt_succ_self _) ⟨rfl, rfl, ?_, trivial⟩
    · rw [← he]; exact trim_step (by omega) hz
    · exact congrArg (fun z => some (Slot.av (AV.int z))) (by omega)
  · rename_i hz
    obtain ⟨j, rfl⟩ : ∃ j, k = j + 1 := ⟨k - 1, by omega⟩
    rw [getD_co (j := j) (by omega)] at hz
    rw [trim_take_last (by omega) hz] at he
    exact ⟨by rw [← he]; rfl, rfl⟩
  · have : k = 0 := by omega
    subst this
    exact ⟨by rw [← he]; rfl, rfl⟩
theorem spec_ztrim {C : Cx} {bx : Bx} {b : BS} (K : C.Ok) (xs : List Int) : Spec C bx "ztrim" 1 [.ints xs] b fun r b' => r = .ints (trim xs) ∧ b' = b := by
  refine spec_of_body 22 K ["row"] (by decide +kernel) ?_ rfl (by decide) (by decide +kernel) (by decide +kernel) rfl rfl rfl ?_
  · exact fun pm code doc => hb1 fun u0 => rfl
  intro A L a₀ cd O s hcn
  refine ASs_cons ?_
  walk_at "r"
  refine AS_while (α := Nat) (fun z => ⟨[("row", .av (.ints xs)), ("size", .av (.int (z : Int)))], b⟩) (fun z => z ≤ xs.length ∧ trim (xs.take z) = trim xs) (fun z => z) xs.length ⟨Nat.le_refl _, by rw [List.take_length]⟩ ⟨rfl, rfl, rfl, trivial⟩ ?_
  rintro k ⟨hk, he⟩
  walk_at "r"
  all_goals try walk_at "o"
  · rename_i hz
    obtain ⟨j, rfl⟩ : ∃ j, k = j + 1 := ⟨k - 1, by omega⟩
    rw [getD_co (j := j) (by omega)] at hz
    refine WhileK_next j ⟨by omega, ?_⟩ (Nat.lt_succ_self _) ⟨rfl, rfl, ?_, trivial⟩
    · rw [← he]; exact trim_step (by omega) hz
    · exact congrArg (fun z => some (Slot.av (AV.int z))) (by omega)
  · rename_i hz
    obtain ⟨j, rfl⟩ : ∃ j, k = j + 1 := ⟨k - 1, by omega⟩
    rw [getD_co (j := j) (by omega)] at hz
    rw [trim_take_last (by omega) hz] at he
    exact ⟨by rw [← he]; rfl, rfl⟩
  · have : k = 0 := by omega
    subst this
    exact ⟨by rw [← he]; rfl, rfl⟩
theorem spec_mscale {C : Cx} {bx : Bx} {b : BS} (K : C.Ok) (xs : List Int) (c p : Int) (hp : 0 < p) (hl : xs.length ≤ lid) (hb : ∀ x ∈ xs, Bd 4000 x) (hc : Bd 4000 c) (bp : Bd 4000 p) : Spec C bx "mscale" 2 [.ints xs, .int c, .int p] b fun r b' => r = .ints (trim (xs.map fun x => x * c % p)) ∧ b' = b := by
  refine spec_of_body 13 K ["a", "number", "p"] (by decide +kernel) ?_ rfl (by decide) (by decide +kernel) (by decide +kernel) rfl rfl rfl ?_
  · exact fun pm code doc => hb3 fun u0 u1 u2 => rfl
  intro A L a₀ cd O s hcn
  refine ASs_cons ?_
  have b1 : Bd 4000 p := bp
  walk_at "r"
  refine AE_comp (cl := ?clc1) [("number", .av (.int c)), ("p", .av (.int p))] ?hc1 ?h1c1 ?h2c1 ?h3c1 ?h4c1 ?h5c1 ?h6c1 ?h7c1 ?h8c1
  case h1c1 => rfl
  case h2c1 => rfl
  case h3c1 => rfl
  case h4c1 => rfl
  case h5c1 => walk_at "sub"
  case h6c1 => walk_at "sub"
  case h7c1 => walk_at "cap"
  case h8c1 => (intro _; rfl)
  refine AI_av ?_
  walk_at "r"
  refine ⟨_, rfl, by simpa using hl, fun C' h₀ O₀ s₀ => ?_⟩
  refine CompW_mapI (fun x => x * c % p) (fun x hx => ?_) ?_
  · have h1 := hb x hx
    walk_at "r"
    all_goals try walk_at "o"
    rw [Int.fmod_eq_emod_of_nonneg _ (by omega)]
    exact ⟨rfl, rfl⟩
  · walk_at "r"
    refine ex_spec (spec_mtrim K _) ?_
    rintro _ _ ⟨rfl, rfl⟩
    walk_at "r"
    exact ⟨rfl, rfl⟩
/-- the numbers from 0 on below p -/
noncomputable def Red (p : Int) (xs : List Int) : Prop := ∀ x ∈ xs, 0 ≤ x ∧ x < p
theorem Red.co {p : Int} {xs : List Int} (h : Red p xs) (hp : 0 < p) (i : Nat) : 0 ≤ Mine.co xs i ∧ Mine.co xs i < p := by
  rcases Nat.lt_or_ge i xs.length with hi | hi
  · exact h _ (co_mem hi)
  · rw [co_ge hi]; omega
theorem Red.of_co {p : Int} {xs : List Int} (h : ∀ i, 0 ≤ Mine.co xs i ∧ Mine.co xs i < p) : Red p xs := fun x hx => by
  obtain ⟨i, _, rfl⟩ := co_of_mem hx
  exact h i
structure DivI (a b : List Int) (p : Int) (k : Nat) (rest quo : List Int) : Prop where
  lr : rest.length = a.length
  lq : quo.length = ((a.length : Int) - b.length + 1).toNat
  kq : k ≤ quo.length
  red : Red p rest
  id : ∃ t, Cg p (co a) (fun n => pm t (co b) n + co rest n)
  z : ∀ i, k + b.length ≤ i + 1 → co rest i = 0
theorem DivI.init {a b : List Int} {p : Int} (ha : Red p a) (hb : b ≠ []) : DivI a b p ((a.length : Int) - b.length + 1).toNat a (List.replicate ((a.length : Int) - b.length + 1).toNat 0) := by
  have := List.length_pos_iff.mpr hb
  refine ⟨rfl, by simp, by simp, ha, ⟨[], .of_eq fun n => by simp [pm]⟩, fun i hi => co_ge (by omega)⟩
/-- one step's inner row -/
noncomputable def rowI (b rest : List Int) (at' : Nat) (number p : Int) (j i : Nat) : Int := if at' ≤ i ∧ i < at' + j then (co rest i - number * co b (i - at')) % p else co rest i
theorem DivI.step {a b : List Int} {p : Int} {k : Nat} {rest quo rest' : List Int} {number turn : Int} (h : DivI a b p (k + 1) rest quo) (hp : 0 < p) (hb : b ≠ [])
    (ht : p ∣ last0 b * turn - 1) (hn : number = co rest (k + b.length - 1) * turn % p) (hl : rest'.length = rest.length) (hr : ∀ i, co rest' i = rowI b rest k number p b.length i) : DivI a b p k rest' (quo.set k number) := by
  have hbl := List.length_pos_iff.mpr hb
  refine ⟨hl.trans h.lr, by simpa using h.lq, by have := h.kq; simp; omega, .of_co fun i => ?_, ?_, fun i hi => ?_⟩
  · rw [hr]
    unfold rowI
    split
    · exact ⟨Int.emod_nonneg _ (by omega), Int.emod_lt_of_pos _ hp⟩
    · exact h.red.co hp i
  · obtain ⟨t, ht⟩ := h.id
    refine ⟨ladd t (mono k number), ht.trans fun n => ?_⟩
    dsimp only
    rw [pm_ladd, pm_mono, hr]
    unfold rowI
    by_cases h1 : n < k
    · rw [if_pos h1, if_neg (by omega)]
      exact ⟨0, by omega⟩
    · rw [if_neg h1]
      by_cases h2 : n < k + b.length
      · rw [if_pos ⟨by omega, h2⟩, Int.emod_def]
        exact ⟨(co rest n - number * co b (n - k)) / p, by omega⟩
      · rw [if_neg (by omega), co_ge (xs := b) (by omega)]
        exact ⟨0, by omega⟩
  · rw [hr]
    unfold rowI
    by_cases h2 : i < k + b.length
    · have hi' : i = k + b.length - 1 := by omega
      rw [if_pos ⟨by omega, h2⟩]
      have hlast : co b (i - k) = last0 b := by unfold co last0; congr 1; omega
      rw [hlast]
      apply Int.emod_eq_zero_of_dvd
      rw [hi', hn, Int.emod_def]
      obtain ⟨c, hc⟩ := ht
      refine ⟨-(co rest (k + b.length - 1)) * c + last0 b * (co rest (k + b.length - 1) * turn / p), ?_⟩
      have : last0 b * turn = p * c + 1 := by omega
      grind
    · rw [if_neg (by omega)]
      exact h.z i (by omega)
theorem row_zero {b rest : List Int} {k : Nat} {p : Int} (h : Red p rest) (hp : 0 < p) (i : Nat) : co rest i = rowI b rest k 0 p b.length i := by
  unfold rowI
  split
  · rw [Int.zero_mul, Int.sub_zero]
    have := h.co hp i
    exact (Int.emod_eq_of_lt this.1 this.2).symm
  · rfl
theorem down_zero (a : Int) : rangeL a (-1) 0 = [] := rfl
theorem down_succ (k : Nat) : rangeL (((k + 1 : Nat) : Int) - 1) (-1) (k + 1) = (k : Int) :: rangeL ((k : Int) - 1) (-1) k := by
  unfold rangeL
  rw [List.range_succ_eq_map, List.map_cons, List.map_map]
  congr 1
  · omega
  · refine List.map_congr_left fun i _ => ?_
    simp only [Function.comp]
    omega
theorem down_of {m : Int} {k : Nat} (h : k = (m + 1).toNat) : rangeL m (-1) (m - -1).toNat = rangeL ((k : Int) - 1) (-1) k := by
  by_cases h0 : 0 ≤ m + 1
  · have : m = (k : Int) - 1 := by omega
    rw [this]
    congr 1
    omega
  · have h1 : k = 0 := by omega
    have h2 : (m - -1).toNat = 0 := by omega
    rw [h1, h2]; rfl
theorem row_start {b rest : List Int} {k : Nat} {N p : Int} (i : Nat) : co rest i = rowI b rest k N p 0 i := by
  unfold rowI
  rw [if_neg (by omega)]
theorem row_step {b rest rest' : List Int} {k j : Nat} {N p : Int} (hj : k + j < rest'.length) (h : ∀ i, co rest' i = rowI b rest k N p j i) (i : Nat) :
    co (rest'.set (k + j) ((co rest' (k + j) - N * co b j) % p)) i = rowI b rest k N p (j + 1) i := by
  have e1 : co rest' (k + j) = co rest (k + j) := by rw [h]; unfold rowI; rw [if_neg (by omega)]
  rw [co_set _ _ _ _ hj, e1, h i]
  by_cases h1 : i = k + j
  · subst h1
    rw [if_pos rfl]
    unfold rowI
    rw [if_pos (by omega), show k + j - k = j by omega]
  · rw [if_neg h1]
    unfold rowI
    by_cases h2 : k ≤ i ∧ i < k + j
    · rw [if_pos h2, if_pos (by omega)]
    · rw [if_neg h2, if_neg (by omega)]
theorem Red.bd {p : Int} {xs : List Int} {n : Nat} (h : Red p xs) (hb : Bd n p) (hp : 0 < p) (i : Nat) : Bd n (Mine.co xs i) := hb.of_le (by have := h.co hp i; omega)
theorem enum_cons {a : AV} {r : List AV} {ys : List Int} {j : Nat} (h : a :: r = enumL j (ys.drop j)) : j < ys.length ∧ a = .tup [.int j, .int (co ys j)] ∧ r = enumL (j + 1) (ys.drop (j + 1)) := by
  by_cases hn : j < ys.length
  · rw [List.drop_eq_getElem_cons hn] at h
    simp only [enumL, List.cons.injEq] at h
    rw [co_get hn]
    exact ⟨hn, h.1, h.2⟩
  · rw [List.drop_eq_nil_of_le (by omega)] at h
    simp [enumL] at h
theorem enum_nil {ys : List Int} {j : Nat} (h : [] = enumL j (ys.drop j)) (hj : j ≤ ys.length) : j = ys.length := by
  by_cases hn : j < ys.length
  · rw [List.drop_eq_getElem_cons hn] at h
    simp [enumL] at h
  · omega
theorem spec_mdivmod {C : Cx} {bx : Bx} {b : BS} (K : C.Ok) (xs ys : List Int) (p : Int) (hp : 1 < p) (bp : Bd 1000 p) (hx : Red p xs) (hy : Red p ys) (hxl : xs.length ≤ 1000) (hyl : ys.length ≤ 1000) (hy0 : ys ≠ []) (hg : Int.gcd (last0 ys) p = 1) :
    Spec C bx "mdivmod" 3 [.ints xs, .ints ys, .int p] b fun r b' => (∃ q r', r = .tup [.ints q, .ints r'] ∧ (∃ t, Cg p (co xs) (fun n => pm t (co ys) n + co r' n)) ∧ Tr r' ∧ r'.length < ys.length ∧ Red p r') ∧ b' = b := by
  refine spec_of_body 14 K ["a", "b", "p"] (by decide +kernel) ?_ rfl (by decide) (by decide +kernel) (by decide +kernel) rfl rfl rfl ?_
  · exact fun pm code doc => hb3 fun u0 u1 u2 => rfl
  intro A L a₀ cd O s hcn
  refine ASs_cons ?_
  have hypos := List.length_pos_iff.mpr hy0
  refine AS_unpack2o (x := "rest") (y := "quotient") ?h (.inl rfl) (.inl rfl) (by decide) rfl
  walk_at "r"
  all_goals try walk_at "o"
  refine ex_spec (spec_inverse K (last0 ys) p hp (bp.mono (by decide)) hg) ?_
  rintro _ b₁ ⟨⟨turn, rfl, ht0, ht1, htd⟩, rfl⟩
  walk_at "r"
  refine AS_forI (α := Nat × List Int × List Int) (fun z => ⟨[("a", .av (.ints xs)), ("b", .av (.ints ys)), ("p", .av (.int p)), ("turn", .av (.int turn)), ("rest", .own z.2.1), ("quotient", .own z.2.2)], b₁⟩)
    (fun r z => r = (rangeL ((z.1 : Int) - 1) (-1) z.1).map AV.int ∧ DivI xs ys p z.1 z.2.1 z.2.2) ?_ ?_ ?_
  · refine AI_range3 ?_
    walk_at "r"
    refine ⟨rfl, ⟨by omega, by omega, by decide, by decide⟩, (_, xs, _), ⟨congrArg (List.map AV.int) (down_of rfl), DivI.init hx hy0⟩, rfl, rfl, rfl, rfl, rfl, rfl, ?_, trivial⟩
    refine congrArg (fun z => some (Slot.own (List.replicate z 0))) ?_
    split <;> omega
  · rintro a r ⟨k, rest, quo⟩ ⟨hr, hI⟩
    dsimp only at hr hI ⊢
    cases k with
    | zero => simp [down_zero] at hr
    | succ k =>
      rw [down_succ, List.map_cons, List.cons.injEq] at hr
      obtain ⟨rfl, rfl⟩ := hr
      have hkq := hI.kq
      have hlq := hI.lq
      have hlr := hI.lr
      have e0 : rest.getD ((k : Int) + ys.length - 1).toNat 0 = co rest (k + ys.length - 1) := getD_co (by omega)
      have bturn : Bd 1000 turn := bp.of_le (by omega)
      have p0 : 0 < p := by omega
      have br := hI.red.bd bp p0
      walk_at "r"
      all_goals try walk_at "o"
      all_goals try (rw [e0] at *)
      all_goals try (rw [Int.fmod_eq_emod_of_nonneg _ (by omega : 0 ≤ p)] at *)
      · exact mulOk (br _) bturn (by decide)
      · generalize hN : co rest (k + ys.length - 1) * turn % p = N at *
        have bN : Bd 1000 N := bp.of_le (by
          have := Int.emod_nonneg (co rest (k + ys.length - 1) * turn) (by omega : p ≠ 0)
          have := Int.emod_lt_of_pos (co rest (k + ys.length - 1) * turn) p0
          omega)
        refine AS_forI (α := Nat × List Int) (fun z => ⟨[("a", .av (.ints xs)), ("b", .av (.ints ys)), ("p", .av (.int p)), ("turn", .av (.int turn)), ("at", .av (.int k)), ("number", .av (.int N)), ("rest", .own z.2), ("quotient", .own (quo.set k N))], b₁⟩)
          (fun r z => r = enumL z.1 (ys.drop z.1) ∧ z.1 ≤ ys.length ∧ z.2.length = rest.length ∧ ∀ i, co z.2 i = rowI ys rest k N p z.1 i) ?_ ?_ ?_
        · refine AI_enum ?_
          walk_at "r"
          exact ⟨(0, rest), ⟨rfl, Nat.zero_le _, rfl, row_start⟩, rfl, rfl, rfl, rfl, rfl, rfl, rfl, rfl, by rw [Int.toNat_natCast]; rfl, trivial⟩
        · rintro a r ⟨j, rest'⟩ ⟨hr, hj, hl, hrow⟩
          dsimp only at hr hj hl hrow ⊢
          obtain ⟨hj, rfl, rfl⟩ := enum_cons hr
          have by' := hy.bd bp p0 j
          have e1 : rest'.getD ((k : Int) + j).toNat 0 = co rest' (k + j) := getD_co (by omega)
          walk_at "r"
          all_goals try walk_at "o"
          all_goals try (rw [e1] at *)
          all_goals try (rw [Int.fmod_eq_emod_of_nonneg _ (by omega : 0 ≤ p)] at *)
          all_goals try walk_at "o"
          refine ⟨(j + 1, _), ⟨rfl, hj, ?_, row_step (by omega) hrow⟩, rfl, rfl, rfl, rfl, rfl, rfl, rfl, ?_, rfl, trivial⟩
          · simpa using hl
          · rw [show ((k : Int) + j).toNat = k + j by omega]; rfl
        · rintro ⟨j, rest'⟩ ⟨hr, hj, hl, hrow⟩
          dsimp only at hr hj hl hrow ⊢
          obtain rfl := enum_nil hr hj
          walk_at "r"
          exact ⟨(k, rest', quo.set k N), ⟨rfl, hI.step p0 hy0 htd hN.symm hl hrow⟩, rfl, rfl, rfl, rfl, rfl, rfl, rfl, trivial⟩
      · rename_i h0
        refine ⟨(k, rest, quo.set k 0), ⟨rfl, hI.step p0 hy0 htd h0.symm rfl (row_zero hI.red p0)⟩, rfl, rfl, rfl, rfl, rfl, rfl, ?_, trivial⟩
        rw [h0, Int.toNat_natCast]; rfl
  · rintro ⟨k, rest, quo⟩ ⟨hr, hI⟩
    dsimp only at hr hI ⊢
    cases k with
    | succ k => rw [down_succ] at hr; cases hr
    | zero =>
      refine ASs_freeze "rest" rfl ?_
      refine ASs_freeze "quotient" rfl ?_
      walk_at "r"
      refine ex_spec (spec_mtrim K quo) ?_
      rintro _ _ ⟨rfl, rfl⟩
      walk_at "r"
      all_goals try walk_at "o"
      refine ex_spec (spec_mtrim K _) ?_
      rintro _ _ ⟨rfl, rfl⟩
      walk_at "r"
      have ec : ∀ i, co (trim (rest.take ((ys.length : Int) - 1).toNat)) i = co rest i := fun i => by
        rw [co_trim, co_take]
        split
        · rfl
        · exact (hI.z i (by omega)).symm
      refine ⟨⟨_, _, rfl, ?_, tr_trim _, ?_, .of_co fun i => by rw [ec]; exact hI.red.co (by omega) i⟩, rfl⟩
      · obtain ⟨t, ht⟩ := hI.id
        exact ⟨t, ht.trans (.of_eq fun n => by rw [ec])⟩
      · have := len_trim (rest.take ((ys.length : Int) - 1).toNat)
        rw [List.length_take] at this
        omega
theorem spec_mrest {C : Cx} {bx : Bx} {b : BS} (K : C.Ok) (xs ys : List Int) (p : Int) (hp : 1 < p) (bp : Bd 1000 p) (hx : Red p xs) (hy : Red p ys) (hxl : xs.length ≤ 1000) (hyl : ys.length ≤ 1000) (hy0 : ys ≠ []) (hg : Int.gcd (last0 ys) p = 1) :
    Spec C bx "mrest" 4 [.ints xs, .ints ys, .int p] b fun r b' => (∃ r', r = .ints r' ∧ (∃ t, Cg p (co xs) (fun n => pm t (co ys) n + co r' n)) ∧ Tr r' ∧ r'.length < ys.length ∧ Red p r') ∧ b' = b := by
  refine spec_of_body 15 K ["a", "b", "p"] (by decide +kernel) ?_ rfl (by decide) (by decide +kernel) (by decide +kernel) rfl rfl rfl ?_
  · exact fun pm code doc => hb3 fun u0 u1 u2 => rfl
  intro A L a₀ cd O s hcn
  refine ASs_cons ?_
  walk_at "r"
  refine ex_spec (spec_mdivmod K xs ys p hp bp hx hy hxl hyl hy0 hg) ?_
  rintro _ b₁ ⟨⟨q, r', rfl, h⟩, rfl⟩
  walk_at "r"
  exact ⟨⟨r', rfl, h⟩, rfl⟩
theorem last0_co {xs : List Int} (h : xs ≠ []) : last0 xs = co xs (xs.length - 1) := rfl
theorem tr_last {xs : List Int} (ht : Tr xs) (h : xs ≠ []) : last0 xs ≠ 0 := by
  have := List.length_pos_iff.mpr h
  exact ht (xs.length - 1) (by omega)
structure PrimeL (p : Int) : Prop where
  one : 1 < p
  cop : ∀ x, 0 < x → x < p → Int.gcd x p = 1
theorem PrimeL.last {p : Int} (hp : PrimeL p) {xs : List Int} (ht : Tr xs) (hr : Red p xs) (h : xs ≠ []) : Int.gcd (last0 xs) p = 1 := by
  have h1 := tr_last ht h
  have h2 := hr.co (by have := hp.one; omega) (xs.length - 1)
  rw [last0_co h] at *
  exact hp.cop _ (by omega) h2.2
structure MonI (p : Int) (xs m : List Int) : Prop where
  tr : Tr m
  red : Red p m
  len : m.length = xs.length
  one : xs ≠ [] → last0 m = 1
  cg : ∃ v, Cg p (co m) (fun n => v * co xs n) ∧ (xs ≠ [] → p ∣ last0 xs * v - 1)
theorem monI_of {p v : Int} {xs : List Int} (hp : 1 < p) (h0 : xs ≠ []) (hv : p ∣ last0 xs * v - 1) : MonI p xs (trim (xs.map fun x => x * v % p)) := by
  have hc : ∀ i, co (xs.map fun x => x * v % p) i = co xs i * v % p := fun i => by
    rw [co_map (f := fun x => x * v % p) (by simp)]
  have hpos := List.length_pos_iff.mpr h0
  have hl : co xs (xs.length - 1) * v % p = 1 := by
    rw [last0_co h0] at hv
    obtain ⟨c, hc⟩ := hv
    rw [show co xs (xs.length - 1) * v = 1 + p * c by omega, Int.add_mul_emod_self_left]
    exact Int.emod_eq_of_lt (by decide) hp
  have ht : trim (xs.map fun x => x * v % p) = xs.map fun x => x * v % p := trim_of_tr fun n hn => by
    rw [List.length_map] at hn
    rw [hc, show n = xs.length - 1 by omega, hl]
    decide
  rw [ht]
  refine ⟨ht ▸ tr_trim _, .of_co fun i => ?_, by simp, fun _ => ?_, v, fun n => ?_, fun _ => hv⟩
  · rw [hc]; exact ⟨Int.emod_nonneg _ (by omega), Int.emod_lt_of_pos _ (by omega)⟩
  · unfold last0
    rw [List.length_map]
    show co (xs.map fun x => x * v % p) (xs.length - 1) = 1
    rw [hc]; exact hl
  · rw [hc, Int.emod_def]
    exact ⟨-(co xs n * v / p), by grind⟩
theorem spec_mmonic {C : Cx} {bx : Bx} {b : BS} (K : C.Ok) (xs : List Int) (p : Int) (hp : PrimeL p) (bp : Bd 1000 p) (hx : Red p xs) (ht : Tr xs) (hxl : xs.length ≤ 1000) :
    Spec C bx "mmonic" 3 [.ints xs, .int p] b fun r b' => (∃ m, r = .ints m ∧ MonI p xs m) ∧ b' = b := by
  refine spec_of_body 16 K ["a", "p"] (by decide +kernel) ?_ rfl (by decide) (by decide +kernel) (by decide +kernel) rfl rfl rfl ?_
  · exact fun pm code doc => hb2 fun u0 u1 => rfl
  intro A L a₀ cd O s hcn
  refine ASs_cons ?_
  have p1 := hp.one
  walk_at "r"
  · have h0 : xs ≠ [] := List.length_pos_iff.mp (by omega)
    exact h0
  · have h0 : xs ≠ [] := List.length_pos_iff.mp (by omega)
    refine ex_spec (spec_inverse K (last0 xs) p p1 (bp.mono (by decide)) (hp.last ht hx h0)) ?_
    rintro _ b₁ ⟨⟨v, rfl, hv0, hv1, hv⟩, rfl⟩
    walk_at "r"
    refine ex_spec (spec_mscale K xs v p (by omega) (by simp only [lid]; omega) (fun x hx' => (bp.mono (by decide)).of_le (by have := hx x hx'; omega)) ((bp.mono (by decide)).of_le (by omega)) (bp.mono (by decide))) ?_
    rintro _ b₂ ⟨rfl, rfl⟩
    walk_at "r"
    exact ⟨⟨_, rfl, monI_of p1 h0 hv⟩, rfl⟩
  · have h0 : xs = [] := List.length_eq_zero_iff.mp (by omega)
    subst h0
    have hM : MonI p [] [] := ⟨(fun n h => by simp at h), (fun x h => by cases h), rfl, (fun h => absurd rfl h), 1, (fun n => by simp [co_nil]), (fun h => absurd rfl h)⟩
    exact ⟨⟨[], rfl, hM⟩, rfl⟩
structure GcdI (p : Int) (a b a' b' : List Int) : Prop where
  ra : Red p a'
  rb : Red p b'
  ta : Tr a'
  tb : Tr b'
  la : a'.length ≤ 1000
  lb : b'.length ≤ 1000
  ia : InI p (co a) (co b) (co a')
  ib : InI p (co a) (co b) (co b')
  ja : InI p (co a') (co b') (co a)
  jb : InI p (co a') (co b') (co b)
  ne : a ≠ [] ∨ b ≠ [] → a' ≠ [] ∨ b' ≠ []
theorem GcdI.step {p : Int} {a b a' b' r : List Int} (h : GcdI p a b a' b') (hb : b' ≠ []) (hr : ∃ t, Cg p (co a') (fun n => pm t (co b') n + co r n)) (htr : Tr r) (hl : r.length < b'.length) (hred : Red p r) : GcdI p a b b' r := by
  obtain ⟨t, ht⟩ := hr
  have k1 : InI p (co b') (co r) (co a') := ⟨t, [1], ht.trans (.of_eq fun n => by rw [pm_one])⟩
  refine ⟨h.rb, hred, h.tb, htr, h.lb, by have := h.lb; omega, h.ib, ?_, h.ja.trans k1 (.left _ _ _), h.jb.trans k1 (.left _ _ _), fun _ => .inl hb⟩
  refine (h.ia.add ((h.ib.mul t).smul (-1))).cg fun n => ?_
  have := ht n
  have := (Int.dvd_neg).mpr this
  rwa [show -(co a' n - (pm t (co b') n + co r n)) = co r n - (co a' n + -1 * pm t (co b') n) by omega] at this
/-- a greatest common divisor by p, monic -/
structure MGcd (p : Int) (a b m : List Int) : Prop where
  tr : Tr m
  red : Red p m
  len : m.length ≤ 1000
  da : Dv p (co m) (co a)
  db : Dv p (co m) (co b)
  id : InI p (co a) (co b) (co m)
  ne : a ≠ [] ∨ b ≠ [] → m ≠ [] ∧ last0 m = 1
theorem GcdI.fin {p : Int} {a b a' m : List Int} (hp : PrimeL p) (h : GcdI p a b a' []) (hm : MonI p a' m) : MGcd p a b m := by
  obtain ⟨v, hv, hv1⟩ := hm.cg
  have dz : Dv p (co m) (co []) := ⟨[], .of_eq fun n => rfl⟩
  have da' : Dv p (co m) (co a') := by
    by_cases h0 : a' = []
    · subst h0; exact dz
    · refine ⟨mono 0 (last0 a'), fun n => ?_⟩
      rw [pm_mono]
      simp only [Nat.not_lt_zero, if_false, Nat.sub_zero]
      obtain ⟨c, hc⟩ := hv n
      dsimp only at hc
      obtain ⟨d, hd⟩ := hv1 h0
      refine ⟨- last0 a' * c - co a' n * d, ?_⟩
      have h1 : co m n = p * c + v * co a' n := by omega
      have h2 : last0 a' * v = p * d + 1 := by omega
      rw [h1]
      grind
  refine ⟨hm.tr, hm.red, by rw [hm.len]; exact h.la, h.ja.dv da' dz, h.jb.dv da' dz, (h.ia.smul v).cg hv, fun hne => ?_⟩
  have h0 : a' ≠ [] := by
    rcases h.ne hne with h0 | h0
    · exact h0
    · exact absurd rfl h0
  exact ⟨fun q => h0 (List.length_eq_zero_iff.mp (by rw [← hm.len, q]; rfl)), hm.one h0⟩
theorem spec_mgcd {C : Cx} {bx : Bx} {b : BS} (K : C.Ok) (xs ys : List Int) (p : Int) (hp : PrimeL p) (bp : Bd 1000 p) (hx : Red p xs) (hy : Red p ys) (tx : Tr xs) (ty : Tr ys) (hxl : xs.length ≤ 1000) (hyl : ys.length ≤ 1000) :
    Spec C bx "mgcd" 5 [.ints xs, .ints ys, .int p] b fun r b' => (∃ m, r = .ints m ∧ MGcd p xs ys m) ∧ b' = b := by
  refine spec_of_body 18 K ["a", "b", "p"] (by decide +kernel) ?_ rfl (by decide) (by decide +kernel) (by decide +kernel) rfl rfl rfl ?_
  · exact fun pm code doc => hb3 fun u0 u1 u2 => rfl
  intro A L a₀ cd O s hcn
  refine ASs_cons ?_
  walk_at "r"
  refine AS_while (α := List Int × List Int) (fun z => ⟨[("a", .av (.ints z.1)), ("b", .av (.ints z.2)), ("p", .av (.int p))], b⟩) (fun z => GcdI p xs ys z.1 z.2) (fun z => z.2.length) (xs, ys)
    ⟨hx, hy, tx, ty, hxl, hyl, .left _ _ _, .right _ _ _, .left _ _ _, .right _ _ _, id⟩ ⟨rfl, rfl, rfl, rfl, trivial⟩ ?_
  rintro ⟨a', b'⟩ hI
  dsimp only at hI
  walk_at "r"
  · have h0 : b' ≠ [] := List.length_pos_iff.mp (by omega)
    refine ex_spec (spec_mrest K a' b' p hp.one bp hI.ra hI.rb hI.la hI.lb h0 (hp.last hI.tb hI.rb h0)) ?_
    rintro _ b₁ ⟨⟨r, rfl, h1, h2, h3, h4⟩, rfl⟩
    walk_at "r"
    exact WhileK_next (b', r) (hI.step h0 h1 h2 h3 h4) h3 ⟨rfl, rfl, rfl, rfl, trivial⟩
  · have h0 : b' = [] := List.length_eq_zero_iff.mp (by omega)
    subst h0
    refine ex_spec (spec_mmonic K a' p hp bp hI.ra hI.ta hI.la) ?_
    rintro _ b₁ ⟨⟨m, rfl, h1⟩, rfl⟩
    walk_at "r"
    exact ⟨⟨m, rfl, hI.fin hp h1⟩, rfl⟩
theorem spec_zlead {C : Cx} {bx : Bx} {b : BS} (K : C.Ok) (xs : List Int) : Spec C bx "zlead" 1 [.ints xs] b fun r b' => r = .int (last0 xs) ∧ b' = b := by
  refine spec_of_body 23 K ["p"] (by decide +kernel) ?_ rfl (by decide) (by decide +kernel) (by decide +kernel) rfl rfl rfl ?_
  · exact fun pm code doc => hb1 fun u0 => rfl
  intro A L a₀ cd O s hcn
  refine ASs_cons ?_
  walk_at "r"
  · exact List.length_pos_iff.mp (by omega)
  · exact ⟨rfl, rfl⟩
  · have h0 : xs = [] := List.length_eq_zero_iff.mp (by omega)
    subst h0
    exact ⟨rfl, rfl⟩
/-- sums, trimmed -/
noncomputable def addF (a b : List Int) : List Int := trim ((rangeL 0 1 (if (b.length : Int) > a.length then (b.length : Int) else a.length).toNat).map fun x => co a x.toNat + co b x.toNat)
theorem co_range_map (f : Int → Int) (n i : Nat) : co ((rangeL 0 1 n).map f) i = if i < n then f i else 0 := by
  unfold co rangeL
  rw [List.map_map, List.getD_eq_getElem?_getD, List.getElem?_map]
  by_cases h : i < n
  · rw [List.getElem?_range h, if_pos h]; simp
  · rw [List.getElem?_eq_none (by simp; omega), if_neg h]; rfl
theorem co_addF (a b : List Int) (i : Nat) : co (addF a b) i = co a i + co b i := by
  unfold addF
  rw [co_trim, co_range_map]
  generalize hn : (if (b.length : Int) > a.length then (b.length : Int) else a.length).toNat = n
  by_cases h : i < n
  · rw [if_pos h, Int.toNat_natCast]
  · rw [if_neg h]
    have h1 : a.length ≤ i := by split at hn <;> omega
    have h2 : b.length ≤ i := by split at hn <;> omega
    rw [co_ge h1, co_ge h2]; rfl
theorem tr_addF (a b : List Int) : Tr (addF a b) := tr_trim _
theorem spec_zadd {C : Cx} {bx : Bx} {b : BS} (K : C.Ok) (xs ys : List Int) (hx : xs.length ≤ lid) (hy : ys.length ≤ lid) : Spec C bx "zadd" 2 [.ints xs, .ints ys] b fun r b' => r = .ints (addF xs ys) ∧ b' = b := by
  refine spec_of_body 24 K ["a", "b"] (by decide +kernel) ?_ rfl (by decide) (by decide +kernel) (by decide +kernel) rfl rfl rfl ?_
  · exact fun pm code doc => hb2 fun u0 u1 => rfl
  intro A L a₀ cd O s hcn
  refine ASs_cons ?_
  simp only [lid] at hx hy
  walk_at "r"
  refine AE_comp (cl := ?clc1) [("a", .av (.ints xs)), ("b", .av (.ints ys))] ?hc1 ?h1c1 ?h2c1 ?h3c1 ?h4c1 ?h5c1 ?h6c1 ?h7c1 ?h8c1
  case h1c1 => rfl
  case h2c1 => rfl
  case h3c1 => rfl
  case h4c1 => rfl
  case h5c1 => walk_at "sub"
  case h6c1 => walk_at "sub"
  case h7c1 => walk_at "cap"
  case h8c1 => (intro _; rfl)
  refine AI_range1 ?_
  walk_at "r"
  refine ⟨by split <;> omega, ?_, fun C' h₀ O₀ s₀ => ?_⟩
  · simp only [lid, rangeL, List.length_map, List.length_range]
    split <;> omega
  refine CompW_mapI (fun x => co xs x.toNat + co ys x.toNat) (fun x hx' => ?_) ?_
  · have h0 : 0 ≤ x := by
      simp only [rangeL, List.mem_map, List.mem_range] at hx'
      obtain ⟨j, _, rfl⟩ := hx'
      omega
    walk_at "r"
    all_goals try walk_at "o"
    · exact ⟨rfl, rfl⟩
    · refine ⟨?_, rfl⟩
      rw [co_ge (xs := ys) (by omega)]
      try rfl
    · refine ⟨?_, rfl⟩
      rw [co_ge (xs := xs) (by omega)]
      try rfl
    · refine ⟨?_, rfl⟩
      rw [co_ge (xs := ys) (by omega), co_ge (xs := xs) (by omega)]
      try rfl
  · walk_at "r"
    refine ex_spec (spec_ztrim K _) ?_
    rintro _ _ ⟨rfl, rfl⟩
    walk_at "r"
    exact ⟨rfl, rfl⟩
theorem spec_zneg {C : Cx} {bx : Bx} {b : BS} (K : C.Ok) (xs : List Int) (hx : xs.length ≤ lid) : Spec C bx "zneg" 1 [.ints xs] b fun r b' => r = .ints (xs.map fun x => -x) ∧ b' = b := by
  refine spec_of_body 25 K ["p"] (by decide +kernel) ?_ rfl (by decide) (by decide +kernel) (by decide +kernel) rfl rfl rfl ?_
  · exact fun pm code doc => hb1 fun u0 => rfl
  intro A L a₀ cd O s hcn
  refine ASs_cons ?_
  walk_at "r"
  refine AE_comp (cl := ?clc2) [] ?hc2 ?h1c2 ?h2c2 ?h3c2 ?h4c2 ?h5c2 ?h6c2 ?h7c2 ?h8c2
  case h1c2 => rfl
  case h2c2 => rfl
  case h3c2 => rfl
  case h4c2 => rfl
  case h5c2 => walk_at "sub"
  case h6c2 => walk_at "sub"
  case h7c2 => walk_at "cap"
  case h8c2 => (intro _; rfl)
  refine AI_av ?_
  walk_at "r"
  refine ⟨_, rfl, by simpa using hx, fun C' h₀ O₀ s₀ => ?_⟩
  refine CompW_mapI (fun x => -x) (fun x hx' => ?_) ?_
  · walk_at "r"
    exact ⟨rfl, rfl⟩
  · walk_at "r"
    exact ⟨rfl, rfl⟩
noncomputable def subF (a b : List Int) : List Int := addF a (b.map fun x => -x)
theorem co_subF (a b : List Int) (i : Nat) : co (subF a b) i = co a i - co b i := by
  unfold subF
  rw [co_addF, co_map (by rfl)]; omega
theorem spec_zsub {C : Cx} {bx : Bx} {b : BS} (K : C.Ok) (xs ys : List Int) (hx : xs.length ≤ lid) (hy : ys.length ≤ lid) : Spec C bx "zsub" 3 [.ints xs, .ints ys] b fun r b' => r = .ints (subF xs ys) ∧ b' = b := by
  refine spec_of_body 26 K ["a", "b"] (by decide +kernel) ?_ rfl (by decide) (by decide +kernel) (by decide +kernel) rfl rfl rfl ?_
  · exact fun pm code doc => hb2 fun u0 u1 => rfl
  intro A L a₀ cd O s hcn
  refine ASs_cons ?_
  walk_at "r"
  refine ex_spec (spec_zneg K ys hy) ?_
  rintro _ b₁ ⟨rfl, rfl⟩
  walk_at "r"
  refine ex_spec (spec_zadd K xs _ hx (by simpa using hy)) ?_
  rintro _ b₁ ⟨rfl, rfl⟩
  walk_at "r"
  exact ⟨rfl, rfl⟩
noncomputable def scaleF (xs : List Int) (k : Int) : List Int := if k = 0 then [] else xs.map fun x => x * k
theorem co_scaleF (xs : List Int) (k : Int) (i : Nat) : co (scaleF xs k) i = co xs i * k := by
  unfold scaleF
  split
  · rename_i h; rw [h, co_nil, Int.mul_zero]
  · rw [co_map (f := fun x => x * k) (by simp)]
theorem len_scaleF (xs : List Int) (k : Int) : (scaleF xs k).length ≤ xs.length := by
  unfold scaleF; split <;> simp
theorem spec_zscale {C : Cx} {bx : Bx} {b : BS} (K : C.Ok) (xs : List Int) (k : Int) (hx : xs.length ≤ lid) {n : Nat} (hb : ∀ x ∈ xs, Bd n x) (hk : Bd n k) (hn : n ≤ 50000000) : Spec C bx "zscale" 1 [.ints xs, .int k] b fun r b' => r = .ints (scaleF xs k) ∧ b' = b := by
  refine spec_of_body 27 K ["p", "k"] (by decide +kernel) ?_ rfl (by decide) (by decide +kernel) (by decide +kernel) rfl rfl rfl ?_
  · exact fun pm code doc => hb2 fun u0 u1 => rfl
  intro A L a₀ cd O s hcn
  refine ASs_cons ?_
  walk_at "r"
  · skip
    refine AE_comp (cl := ?clc3) [("k", .av (.int k))] ?hc3 ?h1c3 ?h2c3 ?h3c3 ?h4c3 ?h5c3 ?h6c3 ?h7c3 ?h8c3
    case h1c3 => rfl
    case h2c3 => rfl
    case h3c3 => rfl
    case h4c3 => rfl
    case h5c3 => walk_at "sub"
    case h6c3 => walk_at "sub"
    case h7c3 => walk_at "cap"
    case h8c3 => (intro _; rfl)
    refine AI_av ?_
    walk_at "r"
    refine ⟨_, rfl, by simpa using hx, fun C' h₀ O₀ s₀ => ?_⟩
    refine CompW_mapI (fun x => x * k) (fun x hx' => ?_) ?_
    · walk_at "r"
      · exact mulOk (hb x hx') hk (by omega)
      · exact ⟨rfl, rfl⟩
    · walk_at "r"
      refine ⟨?_, rfl⟩
      unfold scaleF
      rw [if_neg ‹_›]
  · refine ⟨?_, rfl⟩
    unfold scaleF
    rw [if_pos ‹_›]
noncomputable def raiseF (xs : List Int) (many : Nat) : List Int := if xs = [] then [] else List.replicate many 0 ++ xs
theorem co_raiseF (xs : List Int) (many i : Nat) : co (raiseF xs many) i = if i < many then 0 else co xs (i - many) := by
  unfold raiseF
  split
  · rename_i h; rw [h, co_nil, co_nil]; split <;> rfl
  · rw [co_append, co_replicate, List.length_replicate]
theorem len_raiseF (xs : List Int) (many : Nat) : (raiseF xs many).length ≤ many + xs.length := by
  unfold raiseF; split <;> simp
theorem spec_zraise {C : Cx} {bx : Bx} {b : BS} (K : C.Ok) (xs : List Int) (m : Nat) (hx : m + xs.length ≤ lid) : Spec C bx "zraise" 1 [.ints xs, .int m] b fun r b' => r = .ints (raiseF xs m) ∧ b' = b := by
  refine spec_of_body 28 K ["p", "many"] (by decide +kernel) ?_ rfl (by decide) (by decide +kernel) (by decide +kernel) rfl rfl rfl ?_
  · exact fun pm code doc => hb2 fun u0 u1 => rfl
  intro A L a₀ cd O s hcn
  refine ASs_cons ?_
  simp only [lid] at hx
  walk_at "r"
  all_goals try walk_at "o"
  · simp only [lid, List.length_replicate]; omega
  · refine ⟨?_, rfl⟩
    unfold raiseF
    rw [if_neg (List.length_pos_iff.mp (by omega)), Int.toNat_natCast]
  · have h0 : xs = [] := List.length_eq_zero_iff.mp (by omega)
    refine ⟨?_, rfl⟩
    unfold raiseF
    rw [if_pos h0]
theorem spec_zcontent {C : Cx} {bx : Bx} {b : BS} (K : C.Ok) (xs : List Int) : Spec C bx "zcontent" 3 [.ints xs] b fun r b' => r = .int (cont xs) ∧ b' = b := by
  refine spec_of_body 29 K ["p"] (by decide +kernel) ?_ rfl (by decide) (by decide +kernel) (by decide +kernel) rfl rfl rfl ?_
  · exact fun pm code doc => hb1 fun u0 => rfl
  intro A L a₀ cd O s hcn
  refine ASs_cons ?_
  walk_at "r"
  refine ex_spec (spec_gcd_all K xs) ?_
  rintro _ b₁ ⟨rfl, rfl⟩
  walk_at "r"
  exact ⟨rfl, rfl⟩
theorem spec_zdivided {C : Cx} {bx : Bx} {b : BS} (K : C.Ok) (xs : List Int) (k : Int) (hx : xs.length ≤ lid) (hk : Bd 9000 k) (h0 : k ≠ 0) : Spec C bx "zdivided" 1 [.ints xs, .int k] b fun r b' => r = .ints (xs.map fun x => x.fdiv k) ∧ b' = b := by
  refine spec_of_body 30 K ["p", "k"] (by decide +kernel) ?_ rfl (by decide) (by decide +kernel) (by decide +kernel) rfl rfl rfl ?_
  · exact fun pm code doc => hb2 fun u0 u1 => rfl
  intro A L a₀ cd O s hcn
  refine ASs_cons ?_
  walk_at "r"
  refine AE_comp (cl := ?clc4) [("k", .av (.int k))] ?hc4 ?h1c4 ?h2c4 ?h3c4 ?h4c4 ?h5c4 ?h6c4 ?h7c4 ?h8c4
  case h1c4 => rfl
  case h2c4 => rfl
  case h3c4 => rfl
  case h4c4 => rfl
  case h5c4 => walk_at "sub"
  case h6c4 => walk_at "sub"
  case h7c4 => walk_at "cap"
  case h8c4 => (intro _; rfl)
  refine AI_av ?_
  walk_at "r"
  refine ⟨_, rfl, by simpa using hx, fun C' h₀ O₀ s₀ => ?_⟩
  refine CompW_mapI (fun x => x.fdiv k) (fun x hx' => ?_) ?_
  · walk_at "r"
    all_goals try walk_at "o"
    exact ⟨rfl, rfl⟩
  · walk_at "r"
    exact ⟨rfl, rfl⟩
/-- without its content, the lead above 0 -/
noncomputable def primF (xs : List Int) : List Int := xs.map fun x => x.fdiv (if last0 xs > 0 then cont xs else - cont xs)
theorem spec_zprimitive {C : Cx} {bx : Bx} {b : BS} (K : C.Ok) (xs : List Int) (hx : xs.length ≤ lid) (h0 : xs ≠ []) (hc : cont xs ≠ 0) (hb : Bd 9000 (cont xs)) : Spec C bx "zprimitive" 4 [.ints xs] b fun r b' => r = .ints (primF xs) ∧ b' = b := by
  refine spec_of_body 31 K ["p"] (by decide +kernel) ?_ rfl (by decide) (by decide +kernel) (by decide +kernel) rfl rfl rfl ?_
  · exact fun pm code doc => hb1 fun u0 => rfl
  intro A L a₀ cd O s hcn
  refine ASs_cons ?_
  walk_at "r"
  · exact absurd (List.length_eq_zero_iff.mp (by omega)) h0
  · refine ex_spec (spec_zcontent K xs) ?_
    rintro _ b₁ ⟨rfl, rfl⟩
    walk_at "r"
    all_goals try walk_at "o"
    · refine ex_spec (spec_zdivided K xs _ hx hb hc) ?_
      rintro _ b₁ ⟨rfl, rfl⟩
      walk_at "r"
      refine ⟨?_, rfl⟩
      unfold primF
      rw [if_pos ‹_›]
    · refine ex_spec (spec_zdivided K xs _ hx hb.neg (by omega)) ?_
      rintro _ b₁ ⟨rfl, rfl⟩
      walk_at "r"
      refine ⟨?_, rfl⟩
      unfold primF
      rw [if_neg (by omega)]
noncomputable def modF (xs : List Int) (m : Int) : List Int := trim (xs.map fun x => x % m)
theorem spec_zmod {C : Cx} {bx : Bx} {b : BS} (K : C.Ok) (xs : List Int) (m : Int) (hm : 0 < m) (hx : xs.length ≤ lid) : Spec C bx "zmod" 2 [.ints xs, .int m] b fun r b' => r = .ints (modF xs m) ∧ b' = b := by
  refine spec_of_body 32 K ["p", "m"] (by decide +kernel) ?_ rfl (by decide) (by decide +kernel) (by decide +kernel) rfl rfl rfl ?_
  · exact fun pm code doc => hb2 fun u0 u1 => rfl
  intro A L a₀ cd O s hcn
  refine ASs_cons ?_
  walk_at "r"
  refine AE_comp (cl := ?clc5) [("m", .av (.int m))] ?hc5 ?h1c5 ?h2c5 ?h3c5 ?h4c5 ?h5c5 ?h6c5 ?h7c5 ?h8c5
  case h1c5 => rfl
  case h2c5 => rfl
  case h3c5 => rfl
  case h4c5 => rfl
  case h5c5 => walk_at "sub"
  case h6c5 => walk_at "sub"
  case h7c5 => walk_at "cap"
  case h8c5 => (intro _; rfl)
  refine AI_av ?_
  walk_at "r"
  refine ⟨_, rfl, by simpa using hx, fun C' h₀ O₀ s₀ => ?_⟩
  refine CompW_mapI (fun x => x % m) (fun x hx' => ?_) ?_
  · walk_at "r"
    all_goals try walk_at "o"
    rw [Int.fmod_eq_emod_of_nonneg _ (by omega)]
    exact ⟨rfl, rfl⟩
  · walk_at "r"
    refine ex_spec (spec_ztrim K _) ?_
    rintro _ b₁ ⟨rfl, rfl⟩
    walk_at "r"
    exact ⟨rfl, rfl⟩
theorem spec_check {C : Cx} {bx : Bx} {b : BS} (K : C.Ok) (xs : List Int) (h0 : xs ≠ []) : Spec C bx "check_bottom" 1 [.ints xs] b fun r b' => r = .none ∧ b' = b := by
  refine spec_of_body 34 K ["p"] (by decide +kernel) ?_ rfl (by decide) (by decide +kernel) (by decide +kernel) rfl rfl rfl ?_
  · exact fun pm code doc => hb1 fun u0 => rfl
  intro A L a₀ cd O s hcn
  refine ASs_cons ?_
  walk_at "r"
  · exact absurd (List.length_eq_zero_iff.mp (by omega)) h0
  · exact ⟨rfl, rfl⟩
/-- one step of the long division -/
noncomputable def stepF (b a : List Int) : List Int := subF a (raiseF (scaleF b ((last0 a).fdiv (last0 b))) (a.length - b.length))
noncomputable def dvdF : Nat → List Int → List Int → Bool
  | 0, _, a => decide (a = [])
  | n + 1, b, a => if b.length ≤ a.length then (if (last0 a).fmod (last0 b) = 0 then dvdF n b (stepF b a) else false) else decide (a = [])
/-- whether the long division by b leaves nothing of a -/
noncomputable def dvdB (b a : List Int) : Bool := dvdF a.length b a
theorem co_stepF (b a : List Int) (i : Nat) : co (stepF b a) i = co a i - (if i < a.length - b.length then 0 else co b (i - (a.length - b.length)) * (last0 a).fdiv (last0 b)) := by
  unfold stepF
  rw [co_subF, co_raiseF]
  split
  · rfl
  · rw [co_scaleF]
theorem fmod_zero {x y : Int} (h : x.fmod y = 0) : y * x.fdiv y = x := by
  have := Int.mul_fdiv_add_fmod x y
  omega
theorem len_stepF {b a : List Int} (hb : b ≠ []) (hl : b.length ≤ a.length) (h : (last0 a).fmod (last0 b) = 0) : (stepF b a).length < a.length := by
  have hpos := List.length_pos_iff.mpr hb
  have : (stepF b a).length ≤ a.length - 1 := tr_len (tr_addF _ _) fun i hi => by
    show co (stepF b a) i = 0
    rw [co_stepF, if_neg (by omega)]
    by_cases h1 : i = a.length - 1
    · have e1 : co a i = last0 a := by rw [h1]; rfl
      have e2 : co b (i - (a.length - b.length)) = last0 b := by rw [h1, show a.length - 1 - (a.length - b.length) = b.length - 1 by omega]; rfl
      rw [e1, e2, fmod_zero h]; omega
    · rw [co_ge (xs := a) (by omega), co_ge (xs := b) (by omega)]; omega
  omega
noncomputable def AllBd (n : Nat) (xs : List Int) : Prop := ∀ i, Bd n (co xs i)
theorem Bd.zero (n : Nat) : Bd n 0 := ⟨Nat.pow_pos (by decide)⟩
theorem AllBd.of {n : Nat} {xs : List Int} (h : ∀ x ∈ xs, Bd n x) : AllBd n xs := fun i => by
  rcases Nat.lt_or_ge i xs.length with hi | hi
  · exact h _ (co_mem hi)
  · rw [co_ge hi]; exact .zero n
theorem AllBd.mem {n : Nat} {xs : List Int} (h : AllBd n xs) : ∀ x ∈ xs, Bd n x := fun x hx => by
  obtain ⟨i, _, rfl⟩ := co_of_mem hx
  exact h i
theorem AllBd.mono {m n : Nat} {xs : List Int} (h : AllBd m xs) (hm : m ≤ n) : AllBd n xs := fun i => (h i).mono hm
theorem fdiv_natAbs {x y : Int} (h : x.fmod y = 0) (hy : y ≠ 0) : (x.fdiv y).natAbs ≤ x.natAbs := by
  have h1 := fmod_zero h
  have h2 : x.natAbs = y.natAbs * (x.fdiv y).natAbs := by rw [← Int.natAbs_mul, h1]
  rw [h2]
  exact Nat.le_mul_of_pos_left _ (by omega)
theorem bd_stepF {b a : List Int} {m n : Nat} (ha : AllBd m a) (hb : AllBd n b) (h : (last0 a).fmod (last0 b) = 0) (h0 : last0 b ≠ 0) : AllBd (m + (n + 1)) (stepF b a) := fun i => by
  rw [co_stepF]
  have hq : Bd m ((last0 a).fdiv (last0 b)) := (ha (a.length - 1)).of_le (fdiv_natAbs h h0)
  have h1 : Bd (m + n) (if i < a.length - b.length then 0 else co b (i - (a.length - b.length)) * (last0 a).fdiv (last0 b)) := by
    split
    · exact .zero _
    · rw [Nat.add_comm]; exact (hb _).mul hq
  exact ((ha i).mono (Nat.le_add_right _ _)).sub h1
theorem AS_freeze {F : Fm} {σ : St} (x : Str) {xs : List Int} {ss : Stmt} {Q : AFl → St → Prop} (hx : σ.vars.lookup x = some (.own xs)) (h : AS F ss ⟨(x, .av (.ints xs)) :: σ.vars, σ.box⟩ Q) : AS F ss σ Q := fun K O ad s R => by
  obtain ⟨R', L⟩ := R.freeze K hx
  exact wpAny_mono (h K _ _ _ R') (fun _ _ h => h.trans L) fun _ _ f => f
structure ExI (xs ys : List Int) (n : Nat) (rest found : List Int) : Prop where
  l₁ : rest.length ≤ n
  l₂ : rest.length ≤ xs.length
  d : dvdF n ys rest = dvdB ys xs
  f : found.length = ((xs.length : Int) - ys.length + 1).toNat
  b : AllBd (4000 + 4001 * (xs.length - rest.length)) rest
theorem ExI.step {xs ys : List Int} {n : Nat} {rest found found' : List Int} (h : ExI xs ys (n + 1) rest found) (h0 : ys ≠ []) (hl0 : last0 ys ≠ 0) (by1 : AllBd 4000 ys) (hl : ys.length ≤ rest.length) (hm : (last0 rest).fmod (last0 ys) = 0) (hf : found'.length = found.length) :
    ExI xs ys n (stepF ys rest) found' := by
  have hlt := len_stepF h0 hl hm
  have hd := h.d
  rw [dvdF, if_pos hl, if_pos hm] at hd
  refine ⟨by have := h.l₁; omega, by have := h.l₂; omega, hd, hf.trans h.f, (bd_stepF h.b by1 hm hl0).mono ?_⟩
  have := h.l₂
  have h3 : xs.length - rest.length + 1 ≤ xs.length - (stepF ys rest).length := by omega
  omega
theorem dvdF_short {n : Nat} {b a : List Int} (h : ¬ b.length ≤ a.length) : dvdF n b a = decide (a = []) := by
  cases n with
  | zero => rfl
  | succ n => rw [dvdF, if_neg h]
theorem spec_zexact {C : Cx} {bx : Bx} {b : BS} (K : C.Ok) (xs ys : List Int) (hx : xs.length ≤ 1000) (hy : ys.length ≤ 1000) (h0 : ys ≠ []) (hl0 : last0 ys ≠ 0) (bx1 : AllBd 4000 xs) (by1 : AllBd 4000 ys) :
    Spec C bx "zexact" 4 [.ints xs, .ints ys] b fun r b' => ((dvdB ys xs = true ∧ ∃ q, r = .ints q) ∨ (dvdB ys xs = false ∧ r = .none)) ∧ b' = b := by
  refine spec_of_body 35 K ["a", "b"] (by decide +kernel) ?_ rfl (by decide) (by decide +kernel) (by decide +kernel) rfl rfl rfl ?_
  · exact fun pm code doc => hb2 fun u0 u1 => rfl
  intro A L a₀ cd O s hcn
  refine ASs_cons ?_
  have hpos := List.length_pos_iff.mpr h0
  walk_at "r"
  refine ex_spec (spec_check K ys h0) ?_
  rintro _ b₁ ⟨rfl, rfl⟩
  walk_at "s"
  walk_at "s"
  walk_at "s"
  refine AS_unpack2o (x := "rest") (y := "found") ?h (.inl rfl) (.inl rfl) (by decide) rfl
  walk_at "s"
  walk_at "s"
  walk_at "s"
  walk_at "s"
  walk_at "r"
  all_goals try walk_at "o"
  refine AS_freeze "rest" rfl ?_
  refine AS_while (α := Nat × List Int × List Int) (fun z => ⟨[("b", .av (.ints ys)), ("rest", .av (.ints z.2.1)), ("found", .own z.2.2)], b₁⟩) (fun z => ExI xs ys z.1 z.2.1 z.2.2) (fun z => z.2.1.length) (xs.length, xs, _)
    ⟨Nat.le_refl _, Nat.le_refl _, rfl, ?_, by simpa using bx1⟩ ⟨rfl, rfl, rfl, rfl, trivial⟩ ?_
  · dsimp only
    rw [List.length_replicate]
    split <;> omega
  rintro ⟨n, rest, found⟩ hI
  dsimp only at hI ⊢
  have hf := hI.f
  have hl1 := hI.l₁
  have hl2 := hI.l₂
  have byl : Bd 4000 (last0 ys) := by1 _
  walk_at "r0"
  all_goals try walk_at "o"
  · exact List.length_pos_iff.mp (by omega)
  · rename_i hl hm
    have hl : ys.length ≤ rest.length := by omega
    have hd := hI.d
    obtain ⟨n, rfl⟩ : ∃ n', n = n' + 1 := ⟨n - 1, by omega⟩
    rw [dvdF, if_pos hl, if_neg hm] at hd
    exact ⟨.inr ⟨hd.symm, rfl⟩, rfl⟩
  · rename_i hl hm
    have hl : ys.length ≤ rest.length := by omega
    have hr0 : rest ≠ [] := List.length_pos_iff.mp (by omega)
    obtain ⟨n, rfl⟩ : ∃ n', n = n' + 1 := ⟨n - 1, by omega⟩
    walk_at "r"
    all_goals try walk_at "o"
    · skip
      have bq : Bd (4000 + 4001 * (xs.length - rest.length)) ((last0 rest).fdiv (last0 ys)) := (hI.b (rest.length - 1)).of_le (fdiv_natAbs hm hl0)
      refine ex_spec (spec_zscale K ys _ (by simp only [lid]; omega) (n := 4000 + 4001 * (xs.length - rest.length)) (fun y hy' => (by1.mem y hy').mono (by omega)) bq (by omega)) ?_
      rintro _ b₂ ⟨rfl, rfl⟩
      walk_at "r"
      rw [show (rest.length : Int) - ys.length = ((rest.length - ys.length : Nat) : Int) by omega]
      have hs := len_scaleF ys ((last0 rest).fdiv (last0 ys))
      refine ex_spec (spec_zraise K _ _ (by simp only [lid]; omega)) ?_
      rintro _ b₂ ⟨rfl, rfl⟩
      walk_at "r"
      have hr := len_raiseF (scaleF ys ((last0 rest).fdiv (last0 ys))) (rest.length - ys.length)
      refine ex_spec (spec_zsub K _ _ (by simp only [lid]; omega) (by simp only [lid]; omega)) ?_
      rintro _ b₂ ⟨rfl, rfl⟩
      walk_at "r"
      exact WhileK_next (n, stepF ys rest, _) (hI.step h0 hl0 by1 hl hm (by simp)) (len_stepF h0 hl hm) ⟨rfl, rfl, rfl, rfl, trivial⟩
  · refine Seq_next (ASs_freeze "found" rfl ?_)
    have hl : ¬ ys.length ≤ rest.length := by omega
    have hd := hI.d
    rw [dvdF_short hl] at hd
    walk_at "r"
    · refine ex_spec (spec_ztrim K found) ?_
      rintro _ b₂ ⟨rfl, rfl⟩
      walk_at "r"
      have : rest = [] := List.length_eq_zero_iff.mp (by omega)
      rw [decide_eq_true this] at hd
      exact ⟨.inl ⟨hd.symm, _, rfl⟩, rfl⟩
    · have : ¬ rest = [] := fun q => by have := congrArg List.length q; simp only [List.length_nil] at this; omega
      rw [decide_eq_false this] at hd
      exact ⟨.inr ⟨hd.symm, rfl⟩, rfl⟩
theorem spec_zdivides {C : Cx} {bx : Bx} {b : BS} (K : C.Ok) (xs ys : List Int) (hx : xs.length ≤ 1000) (hy : ys.length ≤ 1000) (h0 : ys ≠ []) (hl0 : last0 ys ≠ 0) (bx1 : AllBd 4000 xs) (by1 : AllBd 4000 ys) :
    Spec C bx "zdivides" 5 [.ints ys, .ints xs] b fun r b' => r = .bool (dvdB ys xs) ∧ b' = b := by
  refine spec_of_body 36 K ["b", "a"] (by decide +kernel) ?_ rfl (by decide) (by decide +kernel) (by decide +kernel) rfl rfl rfl ?_
  · exact fun pm code doc => hb2 fun u0 u1 => rfl
  intro A L a₀ cd O s hcn
  refine ASs_cons ?_
  walk_at "r"
  refine ex_spec (spec_zexact K xs ys hx hy h0 hl0 bx1 by1) ?_
  rintro _ b₂ ⟨⟨hd, q, rfl⟩ | ⟨hd, rfl⟩, rfl⟩
  · walk_at "r"
    exact ⟨by rw [hd], rfl⟩
  · walk_at "r"
    exact ⟨by rw [hd], rfl⟩
theorem spec_is_common {C : Cx} {bx : Bx} {b : BS} (K : C.Ok) (c xs ys : List Int) (hc : c.length ≤ 1000) (hx : xs.length ≤ 1000) (hy : ys.length ≤ 1000) (h0 : c ≠ []) (hl0 : last0 c ≠ 0) (bc : AllBd 4000 c) (bx1 : AllBd 4000 xs) (by1 : AllBd 4000 ys) :
    Spec C bx "is_common" 6 [.ints c, .ints xs, .ints ys] b fun r b' => r = .bool (dvdB c xs && dvdB c ys) ∧ b' = b := by
  refine spec_of_body 41 K ["candidate", "a", "b"] (by decide +kernel) ?_ rfl (by decide) (by decide +kernel) (by decide +kernel) rfl rfl rfl ?_
  · exact fun pm code doc => hb3 fun u0 u1 u2 => rfl
  intro A L a₀ cd O s hcn
  refine ASs_cons ?_
  walk_at "r"
  refine ex_spec (spec_zdivides K xs c hx hc h0 hl0 bx1 bc) ?_
  rintro _ b₂ ⟨rfl, rfl⟩
  walk_at "r"
  · refine ex_spec (spec_zdivides K ys c hy hc h0 hl0 by1 bc) ?_
    rintro _ b₂ ⟨rfl, rfl⟩
    walk_at "r"
    rename_i h1
    exact ⟨by rw [h1, Bool.true_and], rfl⟩
  · rename_i h1
    exact ⟨by rw [h1, Bool.false_and], rfl⟩
theorem co_modF (xs : List Int) (m : Int) (i : Nat) : co (modF xs m) i = co xs i % m := by
  unfold modF
  rw [co_trim, co_map (f := fun x => x % m) (by simp)]
theorem red_modF (xs : List Int) {m : Int} (hm : 0 < m) : Red m (modF xs m) := .of_co fun i => by
  rw [co_modF]; exact ⟨Int.emod_nonneg _ (by omega), Int.emod_lt_of_pos _ hm⟩
theorem len_modF (xs : List Int) (m : Int) : (modF xs m).length ≤ xs.length := by
  have := len_trim (xs.map fun x => x % m)
  rw [List.length_map] at this; exact this
/-- what image gives -/
structure ImgI (p front : Int) (a b f : List Int) : Prop where
  ex : ∃ m, MGcd p (modF a p) (modF b p) m ∧ f = trim (m.map fun x => x * (front % p) % p)
theorem spec_image {C : Cx} {bx : Bx} {b : BS} (K : C.Ok) (xs ys : List Int) (front p : Int) (hp : PrimeL p) (bp : Bd 1000 p) (hxl : xs.length ≤ 1000) (hyl : ys.length ≤ 1000) :
    Spec C bx "image" 6 [.ints xs, .ints ys, .int front, .int p] b fun r b' => (∃ f, r = .ints f ∧ ImgI p front xs ys f) ∧ b' = b := by
  refine spec_of_body 38 K ["a", "b", "front", "p"] (by decide +kernel) ?_ rfl (by decide) (by decide +kernel) (by decide +kernel) rfl rfl rfl ?_
  · exact fun pm code doc => hb4 fun u0 u1 u2 u3 => rfl
  intro A L a₀ cd O s hcn
  refine ASs_cons ?_
  have p0 : 0 < p := by have := hp.one; omega
  walk_at "r"
  refine ex_spec (spec_zmod K xs p p0 (by simp only [lid]; omega)) ?_
  rintro _ b₁ ⟨rfl, rfl⟩
  walk_at "r"
  refine ex_spec (spec_zmod K ys p p0 (by simp only [lid]; omega)) ?_
  rintro _ b₁ ⟨rfl, rfl⟩
  walk_at "r"
  have h1 := len_modF xs p
  have h2 := len_modF ys p
  refine ex_spec (spec_mgcd K _ _ p hp bp (red_modF xs p0) (red_modF ys p0) (tr_trim _) (tr_trim _) (by omega) (by omega)) ?_
  rintro _ b₁ ⟨⟨m, rfl, hm⟩, rfl⟩
  walk_at "r"
  all_goals try walk_at "o"
  have e : front.fmod p = front % p := Int.fmod_eq_emod_of_nonneg _ (by omega)
  have h3 := Int.emod_nonneg front (by omega : p ≠ 0)
  have h4 := Int.emod_lt_of_pos front p0
  rw [e]
  have hml := hm.len
  refine ex_spec (spec_mscale K m (front % p) p p0 (by simp only [lid]; omega) (fun x hx => (bp.mono (by decide)).of_le (by have := hm.red x hx; omega)) ((bp.mono (by decide)).of_le (by omega)) (bp.mono (by decide))) ?_
  rintro _ b₁ ⟨rfl, rfl⟩
  walk_at "r"
  exact ⟨⟨_, rfl, m, hm, rfl⟩, rfl⟩
/-- both rests at each place -/
structure JoinI (m p : Int) (one other : List Int) (n : Nat) (w : List Int) : Prop where
  len : w.length = n
  at' : ∀ i, i < n → 0 ≤ co w i ∧ co w i < m * p ∧ m ∣ co w i - co one i ∧ p ∣ co w i - co other i
theorem JoinI.snoc {m p : Int} {one other w : List Int} {n : Nat} {v : Int} (h : JoinI m p one other n w) (h1 : 0 ≤ v) (h2 : v < m * p) (h3 : m ∣ v - co one n) (h4 : p ∣ v - co other n) : JoinI m p one other (n + 1) (w ++ [v]) := by
  refine ⟨by simp [h.len], fun i hi => ?_⟩
  rw [co_append, h.len]
  by_cases hin : i < n
  · rw [if_pos hin]; exact h.at' i hin
  · have : i = n := by omega
    subst this
    rw [if_neg hin, Nat.sub_self]
    exact ⟨h1, h2, h3, h4⟩
theorem spec_joined {C : Cx} {bx : Bx} {b : BS} (K : C.Ok) (one other : List Int) (m p : Int) (hm : 0 < m) (hp : 0 < p) (bm : Bd 1500 m) (bp : Bd 1500 p) (hg : Int.gcd m p = 1) (b1 : AllBd 1500 one) (b2 : AllBd 1500 other) (hl : one.length ≤ other.length) (hll : one.length ≤ lid) :
    Spec C bx "joined" 4 [.ints one, .int m, .ints other, .int p] b fun r b' => (∃ w, r = .ints w ∧ JoinI m p one other one.length w) ∧ b' = b := by
  refine spec_of_body 39 K ["one", "m", "other", "p"] (by decide +kernel) ?_ rfl (by decide) (by decide +kernel) (by decide +kernel) rfl rfl rfl ?_
  · exact fun pm code doc => hb4 fun u0 u1 u2 u3 => rfl
  intro A L a₀ cd O s hcn
  refine ASs_cons ?_
  walk_at "r"
  refine AE_comp (cl := ?clc1) [("m", .av (.int m)), ("other", .av (.ints other)), ("p", .av (.int p))] ?hc1 ?h1c1 ?h2c1 ?h3c1 ?h4c1 ?h5c1 ?h6c1 ?h7c1 ?h8c1
  case h1c1 => rfl
  case h2c1 => rfl
  case h3c1 => rfl
  case h4c1 => rfl
  case h5c1 => walk_at "sub"
  case h6c1 => walk_at "sub"
  case h7c1 => walk_at "cap"
  case h8c1 => (intro _; rfl)
  refine AI_enum ?_
  walk_at "r"
  refine ⟨by rw [enumL_length]; exact hll, fun C' h₀ O₀ s₀ => ?_⟩
  refine CompW_fold (fun r acc b' => b' = b ∧ ∃ n, r = enumL n (one.drop n) ∧ n ≤ one.length ∧ JoinI m p one other n acc) ?_ ?_ _ [] b ⟨rfl, 0, rfl, Nat.zero_le _, rfl, fun i hi => absurd hi (Nat.not_lt_zero _)⟩
  · rintro a r acc b' ⟨rfl, n, hr, hn, hJ⟩
    obtain ⟨hj, rfl, rfl⟩ := enum_cons hr
    walk_at "r"
    all_goals try walk_at "o"
    rw [getD_co (j := n) (Int.toNat_natCast n)]
    refine ex_spec (spec_chinese K (co one n) m (co other n) p hm hp bm bp (b1 n) (b2 n) hg) ?_
    rintro _ b₁ ⟨⟨v, rfl, h1, h2, h3, h4⟩, rfl⟩
    walk_at "r"
    exact ⟨rfl, n + 1, rfl, hj, hJ.snoc h1 h2 h3 h4⟩
  · rintro acc b' ⟨rfl, n, hr, hn, hJ⟩
    obtain rfl := enum_nil hr hn
    walk_at "r"
    exact ⟨⟨acc, rfl, hJ⟩, rfl⟩
noncomputable def symF (xs : List Int) (m : Int) : List Int := trim (xs.map fun x => symI x m)
theorem spec_symmetric_of {C : Cx} {bx : Bx} {b : BS} (K : C.Ok) (xs : List Int) (m : Int) (hm : 0 < m) (bm : Bd 4000 m) (hx : xs.length ≤ lid) : Spec C bx "symmetric_of" 3 [.ints xs, .int m] b fun r b' => r = .ints (symF xs m) ∧ b' = b := by
  refine spec_of_body 40 K ["p", "m"] (by decide +kernel) ?_ rfl (by decide) (by decide +kernel) (by decide +kernel) rfl rfl rfl ?_
  · exact fun pm code doc => hb2 fun u0 u1 => rfl
  intro A L a₀ cd O s hcn
  refine ASs_cons ?_
  walk_at "r"
  refine AE_comp (cl := ?clc2) [("m", .av (.int m))] ?hc2 ?h1c2 ?h2c2 ?h3c2 ?h4c2 ?h5c2 ?h6c2 ?h7c2 ?h8c2
  case h1c2 => rfl
  case h2c2 => rfl
  case h3c2 => rfl
  case h4c2 => rfl
  case h5c2 => walk_at "sub"
  case h6c2 => walk_at "sub"
  case h7c2 => walk_at "cap"
  case h8c2 => (intro _; rfl)
  refine AI_av ?_
  walk_at "r"
  refine ⟨_, rfl, by simpa using hx, fun C' h₀ O₀ s₀ => ?_⟩
  refine CompW_mapI (fun x => symI x m) (fun x hx' => ?_) ?_
  · walk_at "r"
    refine ex_spec (spec_symmetric K x m hm bm) ?_
    rintro _ b₁ ⟨rfl, rfl⟩
    exact ⟨rfl, rfl⟩
  · walk_at "r"
    refine ex_spec (spec_ztrim K _) ?_
    rintro _ b₁ ⟨rfl, rfl⟩
    walk_at "r"
    exact ⟨rfl, rfl⟩
/-- the box's next draw -/
noncomputable def takeV (b : BS) (many : Int) : Int := (match b.l with | [] => 5 * (b.c + 1) + (b.c + 1) / 2 | a :: _ => a) % many
noncomputable def takeB (b : BS) : BS := ⟨b.l.tail, b.c + 1⟩
theorem takeV_lt (b : BS) {m : Int} (hm : 0 < m) : 0 ≤ takeV b m ∧ takeV b m < m := ⟨Int.emod_nonneg _ (by omega), Int.emod_lt_of_pos _ hm⟩
theorem spec_take {C : Cx} {p : Addr × Addr} {b : BS} (K : C.Ok) (m : Int) (hm : 0 < m) : Spec C (some p) "_law_take" 1 [.box, .int m] b fun r b' => r = .int (takeV b m) ∧ b' = takeB b := by
  refine spec_of_body 45 K ["box", "many"] (by decide +kernel) ?_ rfl (by decide) (by decide +kernel) (by decide +kernel) rfl rfl rfl ?_
  · exact fun pm code doc => hb2 fun u0 u1 => rfl
  intro A L a₀ cd O s hcn
  refine ASs_cons ?_
  walk_at "r"
  all_goals try walk_at "o"
  · have : b.l ≠ [] := List.length_pos_iff.mp (by omega)
    obtain ⟨a, l, e⟩ := List.exists_cons_of_ne_nil this
    refine ⟨a, l, e, ?_⟩
    walk_at "r"
    all_goals try walk_at "o"
    rw [Int.fmod_eq_emod_of_nonneg _ (by omega)]
    unfold takeV takeB
    rw [e]
    exact ⟨rfl, rfl⟩
  · exact IntMulOk.of_left (by decide)
  · exact divOk (n := 2) ⟨by decide⟩ (by decide)
  · have : b.l = [] := List.length_eq_zero_iff.mp (by omega)
    rw [Int.fmod_eq_emod_of_nonneg _ (by omega), Int.fdiv_eq_ediv_of_nonneg _ (by decide)]
    unfold takeV takeB
    rw [this]
    exact ⟨rfl, rfl⟩
/-- the law's own nearest -/
noncomputable def nearP (n w x : Int) : Bool := decide ((x - n) % w = 0) && (decide (-w < 2 * x) && decide (2 * x ≤ w))
theorem symI_near {n w : Int} (hw : 0 < w) : nearP n w (symI n w) = true ∧ -w ≤ symI n w ∧ symI n w ≤ w := by
  have h1 := Int.emod_nonneg n (by omega : w ≠ 0)
  have h2 := Int.emod_lt_of_pos n hw
  unfold nearP symI
  have e : n % w = n - w * (n / w) := Int.emod_def n w
  simp only [Bool.and_eq_true, decide_eq_true_eq]
  split
  · refine ⟨⟨?_, by omega, by omega⟩, by omega, by omega⟩
    apply Int.emod_eq_zero_of_dvd
    exact ⟨-(n / w) - 1, by rw [e]; grind⟩
  · refine ⟨⟨?_, by omega, by omega⟩, by omega, by omega⟩
    apply Int.emod_eq_zero_of_dvd
    exact ⟨-(n / w), by rw [e]; grind⟩
theorem near_uniq {n w x y : Int} (hw : 0 < w) (hx : nearP n w x = true) (hy : nearP n w y = true) : x = y := by
  unfold nearP at hx hy
  simp only [Bool.and_eq_true, decide_eq_true_eq] at hx hy
  obtain ⟨c, hc⟩ := Int.dvd_of_emod_eq_zero hx.1
  obtain ⟨d, hd⟩ := Int.dvd_of_emod_eq_zero hy.1
  have h1 : x - y = w * (c - d) := by rw [Int.mul_sub]; omega
  have h2 : -w < w * (c - d) := by omega
  have h3 : w * (c - d) < w := by omega
  have h4 : c - d < 1 := Int.lt_of_mul_lt_mul_left (a := w) (by omega) (by omega)
  have h5 : -1 < c - d := Int.lt_of_mul_lt_mul_left (a := w) (by omega) (by omega)
  have h6 : c - d = 0 := by omega
  rw [h6, Int.mul_zero] at h1
  omega
theorem head_filter {t : Int → Bool} {v : Int} {l : List Int} (hv : v ∈ l) (ht : t v = true) (hu : ∀ x, t x = true → x = v) : (l.filter t).getD 0 0 = v ∧ 0 < (l.filter t).length := by
  have hm : v ∈ l.filter t := List.mem_filter.mpr ⟨hv, ht⟩
  cases e : l.filter t with
  | nil => rw [e] at hm; cases hm
  | cons a r =>
    have : a ∈ l.filter t := by rw [e]; exact .head _
    exact ⟨hu a (List.mem_filter.mp this).2, by simp⟩
theorem mem_rangeL {a : Int} {n : Nat} {v : Int} (h1 : a ≤ v) (h2 : v < a + n) : v ∈ rangeL a 1 n := by
  unfold rangeL
  refine List.mem_map.mpr ⟨(v - a).toNat, List.mem_range.mpr (by omega), by omega⟩
theorem rangeL_mem {a : Int} {n : Nat} {v : Int} (h : v ∈ rangeL a 1 n) : a ≤ v ∧ v < a + n := by
  unfold rangeL at h
  obtain ⟨i, hi, rfl⟩ := List.mem_map.mp h
  have := List.mem_range.mp hi
  omega
theorem spec_near {C : Cx} {bx : Bx} {b : BS} (K : C.Ok) (n w : Int) (hw : 0 < w) (hw' : w ≤ 1000) : Spec C bx "_law_near" 1 [.int n, .int w] b fun r b' => r = .int (symI n w) ∧ b' = b := by
  refine spec_of_body 46 K ["number", "whole"] (by decide +kernel) ?_ rfl (by decide) (by decide +kernel) (by decide +kernel) rfl rfl rfl ?_
  · exact fun pm code doc => hb2 fun u0 u1 => rfl
  intro A L a₀ cd O s hcn
  refine ASs_cons ?_
  walk_at "r"
  refine AE_comp (cl := ?clc1) [("whole", .av (.int w)), ("number", .av (.int n))] ?hc1 ?h1c1 ?h2c1 ?h3c1 ?h4c1 ?h5c1 ?h6c1 ?h7c1 ?h8c1
  case h1c1 => rfl
  case h2c1 => rfl
  case h3c1 => rfl
  case h4c1 => rfl
  case h5c1 => walk_at "sub"
  case h6c1 => walk_at "sub"
  case h7c1 => walk_at "cap"
  case h8c1 => (intro _; rfl)
  refine AI_range2 ?_
  walk_at "r"
  refine ⟨⟨by omega, by omega, by omega, by omega⟩, ?_, fun C' h₀ O₀ s₀ => ?_⟩
  · simp only [lid, rangeL, List.length_map, List.length_range]; omega
  have hb : Bd 20 2 := ⟨by decide⟩
  refine CompW_filter (nearP n w) (fun x hx => ?_) ?_
  · have hxr := rangeL_mem hx
    have bx' : Bd 20 x := .of_lt (k := 2000) (by omega) (by decide)
    have ee : (x - n).fmod w = (x - n) % w := Int.fmod_eq_emod_of_nonneg _ (by omega)
    walk_at "r"
    all_goals try walk_at "o"
    all_goals refine ⟨?_, rfl, ?_⟩
    all_goals try (walk_at "r"; exact ⟨rfl, rfl⟩)
    all_goals unfold nearP; rw [← ee]
    · rw [decide_eq_true ‹(x - n).fmod w = 0›, decide_eq_true ‹-w < 2 * x›, decide_eq_true ‹2 * x ≤ w›]; rfl
    · rw [decide_eq_true ‹(x - n).fmod w = 0›, decide_eq_true ‹-w < 2 * x›, decide_eq_false ‹¬ 2 * x ≤ w›]; rfl
    · rw [decide_eq_true ‹(x - n).fmod w = 0›, decide_eq_false ‹¬ -w < 2 * x›]; rfl
    · rw [decide_eq_false ‹¬ (x - n).fmod w = 0›]; rfl
  · obtain ⟨h1, h2, h3⟩ := symI_near (n := n) hw
    obtain ⟨h4, h5⟩ := head_filter (t := nearP n w) (l := rangeL (-w) 1 (w + 1 - -w).toNat) (mem_rangeL h2 (by omega)) h1 fun x hx => near_uniq hw hx h1
    walk_at "r"
    all_goals try walk_at "o"
    exact ⟨by rw [show Int.toNat 0 = 0 from rfl, h4], rfl⟩
theorem co_dropLast (xs : List Int) (i : Nat) : co xs.dropLast i = if i < xs.length - 1 then co xs i else 0 := by
  rw [List.dropLast_eq_take, co_take]
theorem trim_dropLast {xs : List Int} (h : last0 xs = 0) : trim xs.dropLast = trim xs := trim_congr fun i => by
  rw [co_dropLast]
  split
  · rfl
  · by_cases hi : i = xs.length - 1
    · rw [hi]; exact h.symm
    · rw [co_ge (by omega)]
theorem trim_last {xs : List Int} (h : last0 xs ≠ 0) : trim xs = xs := trim_of_tr fun n hn => by
  have : n = xs.length - 1 := by omega
  rw [this]; exact h
/-- the law's own cut -/
theorem spec_cut {C : Cx} {bx : Bx} {b : BS} (K : C.Ok) (xs : List Int) : Spec C bx "_law_cut" 1 [.ints xs] b fun r b' => r = .ints (trim xs) ∧ b' = b := by
  refine spec_of_body 47 K ["row"] (by decide +kernel) ?_ rfl (by decide) (by decide +kernel) (by decide +kernel) rfl rfl rfl ?_
  · exact fun pm code doc => hb1 fun u0 => rfl
  intro A L a₀ cd O s hcn
  refine ASs_cons ?_
  refine AS_own (AEo_list ?_) (.inl rfl)
  walk_at "s"
  dsimp only
  walk_at "s"
  walk_at "s"
  walk_at "s"
  refine AS_while (α := List Int) (fun z => ⟨[("row", .own z)], b⟩) (fun z => trim z = trim xs) (fun z => z.length) xs rfl ⟨rfl, rfl, trivial⟩ ?_
  intro z hz
  walk_at "r0"
  all_goals try walk_at "o"
  · rename_i h1 h2
    refine ⟨h1, Seq_next (ASs_nil (WhileK_next z.dropLast ((trim_dropLast h2).trans hz) ?_ ⟨rfl, rfl, trivial⟩))⟩
    have := List.length_pos_iff.mpr h1
    rw [List.length_dropLast]; omega
  · rename_i h1 h2
    refine Seq_next (ASs_freeze "row" rfl ?_)
    walk_at "r"
    rw [trim_last h2] at hz
    exact ⟨by rw [hz], rfl⟩
  · rename_i h1
    refine Seq_next (ASs_freeze "row" rfl ?_)
    walk_at "r"
    rw [h1] at hz
    exact ⟨by rw [h1, ← hz]; rfl, rfl⟩
theorem bezout {m p : Int} (hm : 0 < m) (hp : 0 < p) : ∃ s t, s * m + t * p = Int.gcd m p := by
  have key : ∀ (n : Nat) (z : Int × Int × Int × Int × Int × Int), z.2.2.2.1.toNat = n → ExtI m p z → ∃ s t, s * m + t * p = Int.gcd m p := by
    intro n
    induction n using Nat.strongRecOn with
    | ind n ih =>
      rintro ⟨o₀, o₁, o₂, t₀, t₁, t₂⟩ hn hI
      by_cases h0 : t₀ = 0
      · subst h0
        refine ⟨o₁, o₂, ?_⟩
        have h1 := hI.g
        have h2 := hI.p
        have h3 := hI.e₁
        dsimp only at h1 h2 h3
        rw [Int.gcd_zero] at h1
        omega
      · obtain ⟨h1, h2⟩ := hI.step h0
        dsimp only at hn
        exact ih _ (hn ▸ h2) _ rfl h1
  exact key _ _ rfl (ExtI.init hm hp)
theorem dvd_cop {m p c : Int} (hm : 0 < m) (hp : 0 < p) (hg : Int.gcd m p = 1) (h : p ∣ m * c) : p ∣ c := by
  obtain ⟨s, t, e⟩ := bezout hm hp
  rw [hg] at e
  obtain ⟨d, hd⟩ := h
  refine ⟨s * d + t * c, ?_⟩
  have : ((1 : Nat) : Int) = 1 := rfl
  rw [this] at e
  have : c = (s * m + t * p) * c := by rw [e, Int.one_mul]
  grind
theorem crt_exists {m p : Int} (hm : 0 < m) (hp : 0 < p) (hg : Int.gcd m p = 1) (x y : Int) : ∃ v, 0 ≤ v ∧ v < m * p ∧ v % m = x % m ∧ v % p = y % p := by
  have hmp := Int.mul_pos hm hp
  have bez := bezout hm hp
  rw [hg, show ((1 : Nat) : Int) = 1 from rfl] at bez
  obtain ⟨s, t, h⟩ := bez
  refine ⟨(x + m * (s * (y - x))) % (m * p), Int.emod_nonneg _ (by omega), Int.emod_lt_of_pos _ hmp, ?_, ?_⟩
  · rw [Int.emod_emod_of_dvd _ ⟨p, rfl⟩, Int.add_mul_emod_self_left]
  · rw [Int.emod_emod_of_dvd _ ⟨m, Int.mul_comm m p⟩]
    have : x + m * (s * (y - x)) = y + p * (-(t * (y - x))) := by grind
    rw [this, Int.add_mul_emod_self_left]
theorem JoinI.uniq {m p : Int} (hm : 0 < m) (hp : 0 < p) (hg : Int.gcd m p = 1) {one other w w' : List Int} {n : Nat} (h : JoinI m p one other n w) (h' : JoinI m p one other n w') : w = w' := by
  refine ext_co (h.len.trans h'.len.symm) fun i => ?_
  by_cases hi : i < n
  · obtain ⟨a1, a2, a3, a4⟩ := h.at' i hi
    obtain ⟨b1, b2, b3, b4⟩ := h'.at' i hi
    have c1 : m ∣ co w i - co w' i := by
      have := Int.dvd_sub a3 b3
      rwa [show co w i - co one i - (co w' i - co one i) = co w i - co w' i by omega] at this
    have c2 : p ∣ co w i - co w' i := by
      have := Int.dvd_sub a4 b4
      rwa [show co w i - co other i - (co w' i - co other i) = co w i - co w' i by omega] at this
    have c3 : m * p ∣ co w i - co w' i := by
      obtain ⟨c, hc⟩ := c1
      rw [hc] at c2 ⊢
      refine Int.mul_dvd_mul (Int.dvd_refl m) ?_
      exact dvd_cop hm hp hg c2
    obtain ⟨c, hc⟩ := c3
    have h4 : c < 1 := Int.lt_of_mul_lt_mul_left (a := m * p) (by omega) (by have := Int.mul_pos hm hp; omega)
    have h5 : -1 < c := Int.lt_of_mul_lt_mul_left (a := m * p) (by omega) (by have := Int.mul_pos hm hp; omega)
    have h6 : c = 0 := by omega
    rw [h6, Int.mul_zero] at hc
    omega
  · rw [co_ge (by have := h.len; omega), co_ge (by have := h'.len; omega)]
noncomputable def bothP (m p x y n : Int) : Bool := decide (n.fmod m = x.fmod m) && decide (n.fmod p = y.fmod p)
theorem spec_both {C : Cx} {bx : Bx} {b : BS} (K : C.Ok) (one other : List Int) (m p : Int) (hm : 0 < m) (hp : 0 < p) (hm1 : m ≤ 100) (hp1 : p ≤ 100) (hmp : m * p ≤ 1000) (hg : Int.gcd m p = 1) (hl : one.length ≤ other.length) (hll : one.length ≤ 1000) :
    Spec C bx "_law_both" 1 [.ints one, .int m, .ints other, .int p] b fun r b' => (∃ w, r = .ints w ∧ JoinI m p one other one.length w) ∧ b' = b := by
  refine spec_of_body 48 K ["one", "m", "other", "p"] (by decide +kernel) ?_ rfl (by decide) (by decide +kernel) (by decide +kernel) rfl rfl rfl ?_
  · exact fun pm code doc => hb4 fun u0 u1 u2 u3 => rfl
  intro A L a₀ cd O s hcn
  refine ASs_cons ?_
  refine AS_own (AEo_nil ?_) (.inl rfl)
  refine Seq_next (ASs_cons ?_)
  refine AS_forI (α := Nat × List Int) (fun z => ⟨[("one", .av (.ints one)), ("m", .av (.int m)), ("other", .av (.ints other)), ("p", .av (.int p)), ("found", .own z.2)], b⟩)
    (fun r z => r = enumL z.1 (one.drop z.1) ∧ z.1 ≤ one.length ∧ JoinI m p one other z.1 z.2) ?_ ?_ ?_
  · refine AI_enum ?_
    walk_at "r"
    exact ⟨(0, []), ⟨rfl, Nat.zero_le _, rfl, fun i hi => absurd hi (Nat.not_lt_zero _)⟩, rfl, rfl, rfl, rfl, rfl, rfl, trivial⟩
  · rintro a r ⟨n, w⟩ ⟨hr, hn, hJ⟩
    dsimp only at hr hn hJ ⊢
    obtain ⟨hj, rfl, rfl⟩ := enum_cons hr
    walk_at "r"
    refine AE_comp (cl := ?clc1) [("m", .av (.int m)), ("p", .av (.int p)), ("left", .av (.int (co one n))), ("other", .av (.ints other)), ("at", .av (.int n))] ?hc1 ?h1c1 ?h2c1 ?h3c1 ?h4c1 ?h5c1 ?h6c1 ?h7c1 ?h8c1
    case h1c1 => rfl
    case h2c1 => rfl
    case h3c1 => rfl
    case h4c1 => rfl
    case h5c1 => walk_at "sub"
    case h6c1 => walk_at "sub"
    case h7c1 => walk_at "cap"
    case h8c1 => (intro _; rfl)
    refine AI_range1 ?_
    have hmp0 := Int.mul_pos hm hp
    have em : ∀ x, x.fmod m = x % m := fun x => Int.fmod_eq_emod_of_nonneg _ (by omega)
    have ep : ∀ x, x.fmod p = x % p := fun x => Int.fmod_eq_emod_of_nonneg _ (by omega)
    have bmm : Bd 20 m := .of_lt (k := 1002) (by omega) (by decide)
    have bpp : Bd 20 p := .of_lt (k := 1002) (by omega) (by decide)
    walk_at "r"
    all_goals try walk_at "o"
    refine ⟨by omega, ?_, fun C' h₀ O₀ s₀ => ?_⟩
    · simp only [lid, rangeL, List.length_map, List.length_range]; omega
    refine CompW_filter (bothP m p (co one n) (co other n)) (fun x hx => ?_) ?_
    · have eo : other.getD (n : Int).toNat 0 = co other n := rfl
      walk_at "r"
      all_goals try walk_at "o"
      all_goals refine ⟨?_, rfl, ?_⟩
      all_goals try (walk_at "r"; exact ⟨rfl, rfl⟩)
      all_goals unfold bothP
      · rw [decide_eq_true ‹x.fmod m = (co one n).fmod m›, decide_eq_true (p := x.fmod p = (co other n).fmod p) (by assumption)]; rfl
      · rw [decide_eq_true ‹x.fmod m = (co one n).fmod m›, decide_eq_false (p := x.fmod p = (co other n).fmod p) (by assumption)]; rfl
      · rw [decide_eq_false ‹¬ x.fmod m = (co one n).fmod m›]; rfl
    · obtain ⟨v, v1, v2, v3, v4⟩ := crt_exists hm hp hg (co one n) (co other n)
      have hv : v ∈ (rangeL 0 1 (m * p).toNat).filter (bothP m p (co one n) (co other n)) := by
        refine List.mem_filter.mpr ⟨mem_rangeL v1 (by omega), ?_⟩
        unfold bothP
        rw [em, em, ep, ep, decide_eq_true v3, decide_eq_true v4]; rfl
      generalize hf : (rangeL 0 1 (m * p).toNat).filter (bothP m p (co one n) (co other n)) = fl at *
      have hpos : 0 < fl.length := List.length_pos_of_mem hv
      have hm' : co fl 0 ∈ (rangeL 0 1 (m * p).toNat).filter (bothP m p (co one n) (co other n)) := by rw [hf]; exact co_mem hpos
      obtain ⟨k1, k2⟩ := List.mem_filter.mp hm'
      have k3 := rangeL_mem k1
      unfold bothP at k2
      rw [em, em, ep, ep, Bool.and_eq_true, decide_eq_true_eq, decide_eq_true_eq] at k2
      walk_at "r"
      all_goals try walk_at "o"
      refine ⟨by have := hJ.len; simp only [lid]; omega, ?_⟩
      walk_at "r"
      refine ⟨(n + 1, _), ⟨rfl, hj, hJ.snoc (v := co fl 0) k3.1 (by omega) ?_ ?_⟩, rfl, rfl, rfl, rfl, rfl, rfl, trivial⟩
      · exact Int.dvd_of_emod_eq_zero (Int.emod_eq_emod_iff_emod_sub_eq_zero.mp k2.1)
      · exact Int.dvd_of_emod_eq_zero (Int.emod_eq_emod_iff_emod_sub_eq_zero.mp k2.2)
  · rintro ⟨n, w⟩ ⟨hr, hn, hJ⟩
    dsimp only at hr hn hJ ⊢
    obtain rfl := enum_nil hr hn
    refine ASs_freeze "found" rfl ?_
    walk_at "r"
    exact ⟨⟨w, rfl, hJ⟩, rfl⟩
theorem pm_take_succ (g : Nat → Int) : ∀ (a : List Int) (j n : Nat), j < a.length → pm (a.take (j + 1)) g n = pm (a.take j) g n + (if n < j then 0 else co a j * g (n - j))
  | [], j, n, h => by simp at h
  | c :: r, 0, n, _ => by
    simp only [List.take_succ_cons, List.take_zero, pm, co_zero, Nat.not_lt_zero, if_false, Nat.sub_zero]
    cases n <;> simp [sh]
  | c :: r, j + 1, n, h => by
    rw [List.take_succ_cons, List.take_succ_cons, pm, pm, co_succ]
    cases n with
    | zero => simp [sh]
    | succ n =>
      simp only [sh]
      rw [pm_take_succ g r j n (by simpa using h)]
      simp only [Nat.succ_lt_succ_iff, Nat.add_sub_add_right]
      omega
theorem pm_ge {g : Nat → Int} {d : Nat} (hg : ∀ i, d ≤ i → g i = 0) : ∀ (a : List Int) (n : Nat), a.length + d ≤ n + 1 → pm a g n = 0
  | [], _, _ => rfl
  | c :: r, n, h => by
    rw [pm, hg n (by simp at h; omega)]
    cases n with
    | zero => simp [sh]
    | succ n => simp only [sh]; rw [pm_ge hg r n (by simp at h; omega)]; simp
/-- what _law_product gives -/
structure ProdI (a b f : List Int) : Prop where
  len : f.length = a.length + b.length - 1
  co : ∀ i, co f i = pm a (co b) i
noncomputable def rowP (a b : List Int) (j s i : Nat) : Int := pm (a.take j) (co b) i + (if j ≤ i ∧ i < j + s then co a j * co b (i - j) else 0)
theorem spec_product {C : Cx} {bx : Bx} {b : BS} (K : C.Ok) (xs ys : List Int) (h0 : xs ≠ []) (h1 : ys ≠ []) (hx : xs.length ≤ 1000) (hy : ys.length ≤ 1000) (b1 : AllBd 1000 xs) (b2 : AllBd 1000 ys) :
    Spec C bx "_law_product" 1 [.ints xs, .ints ys] b fun r b' => (∃ f, r = .ints f ∧ ProdI xs ys f) ∧ b' = b := by
  refine spec_of_body 49 K ["a", "b"] (by decide +kernel) ?_ rfl (by decide) (by decide +kernel) (by decide +kernel) rfl rfl rfl ?_
  · exact fun pm code doc => hb2 fun u0 u1 => rfl
  intro A L a₀ cd O s hcn
  refine ASs_cons ?_
  have p0 := List.length_pos_iff.mpr h0
  have p1 := List.length_pos_iff.mpr h1
  refine AS_own (AEo_rep ?_) (.inl rfl)
  walk_at "r0"
  all_goals try walk_at "o"
  refine Seq_next (ASs_cons ?_)
  have hlen : ((xs.length : Int) + ys.length - 1).toNat = xs.length + ys.length - 1 := by omega
  refine AS_forI (α := Nat × List Int) (fun z => ⟨[("a", .av (.ints xs)), ("b", .av (.ints ys)), ("found", .own z.2)], b⟩)
    (fun r z => r = enumL z.1 (xs.drop z.1) ∧ z.1 ≤ xs.length ∧ z.2.length = xs.length + ys.length - 1 ∧ ∀ i, co z.2 i = pm (xs.take z.1) (co ys) i) ?_ ?_ ?_
  · refine AI_enum ?_
    walk_at "r"
    exact ⟨(0, _), ⟨rfl, Nat.zero_le _, by simp; omega, fun i => by rw [co_replicate]; rfl⟩, rfl, rfl, rfl, rfl, trivial⟩
  · rintro a r ⟨j, w⟩ ⟨hr, hn, hl, hw⟩
    dsimp only at hr hn hl hw ⊢
    obtain ⟨hj, rfl, rfl⟩ := enum_cons hr
    walk_at "r"
    refine AS_forI (α := Nat × List Int) (fun z => ⟨[("a", .av (.ints xs)), ("b", .av (.ints ys)), ("at", .av (.int j)), ("left", .av (.int (co xs j))), ("found", .own z.2)], b⟩)
      (fun r z => r = enumL z.1 (ys.drop z.1) ∧ z.1 ≤ ys.length ∧ z.2.length = xs.length + ys.length - 1 ∧ ∀ i, co z.2 i = rowP xs ys j z.1 i) ?_ ?_ ?_
    · refine AI_enum ?_
      walk_at "r"
      refine ⟨(0, w), ⟨rfl, Nat.zero_le _, hl, fun i => ?_⟩, rfl, rfl, rfl, rfl, rfl, rfl, trivial⟩
      unfold rowP
      rw [if_neg (by omega), hw]; simp
    · rintro a r ⟨s, w'⟩ ⟨hr, hn', hl', hw'⟩
      dsimp only at hr hn' hl' hw' ⊢
      obtain ⟨hs, rfl, rfl⟩ := enum_cons hr
      have e1 : w'.getD ((j : Int) + s).toNat 0 = co w' (j + s) := getD_co (by omega)
      walk_at "r"
      all_goals try walk_at "o"
      all_goals try (rw [e1] at *)
      · exact mulOk (b1 j) (b2 s) (by decide)
      refine ⟨(s + 1, w'.set (j + s) (co w' (j + s) + co xs j * co ys s)), ⟨rfl, hs, by simpa using hl', fun i => ?_⟩, rfl, rfl, rfl, rfl, rfl, by rw [show ((j : Int) + s).toNat = j + s by omega]; rfl, trivial⟩
      have hv : co w' (j + s) = pm (xs.take j) (co ys) (j + s) := by
        rw [hw']; unfold rowP; rw [if_neg (by omega)]; omega
      dsimp only
      rw [co_set _ _ _ _ (by omega), hv, hw']
      unfold rowP
      by_cases hi : i = j + s
      · subst hi
        rw [if_pos rfl, if_pos (by omega), Nat.add_sub_cancel_left]
      · rw [if_neg hi]
        congr 1
        by_cases h2 : j ≤ i ∧ i < j + s
        · rw [if_pos h2, if_pos (by omega)]
        · rw [if_neg h2, if_neg (by omega)]
    · rintro ⟨s, w'⟩ ⟨hr, hn', hl', hw'⟩
      dsimp only at hr hn' hl' hw' ⊢
      obtain rfl := enum_nil hr hn'
      walk_at "r"
      refine ⟨(j + 1, w'), ⟨rfl, hj, hl', fun i => ?_⟩, rfl, rfl, rfl, rfl, trivial⟩
      rw [hw', pm_take_succ _ _ _ _ hj]
      unfold rowP
      congr 1
      by_cases h2 : i < j
      · rw [if_pos h2, if_neg (by omega)]
      · rw [if_neg h2]
        by_cases h3 : i < j + ys.length
        · rw [if_pos (by omega)]
        · rw [if_neg (by omega), co_ge (xs := ys) (by omega)]; simp
  · rintro ⟨j, w⟩ ⟨hr, hn, hl, hw⟩
    dsimp only at hr hn hl hw ⊢
    obtain rfl := enum_nil hr hn
    refine ASs_freeze "found" rfl ?_
    walk_at "r"
    refine ⟨⟨w, rfl, hl, fun i => ?_⟩, rfl⟩
    rw [hw, List.take_length]
theorem co_mapE (f : Nat → Int → Int) : ∀ (xs : List Int) (n i : Nat), co (mapE f n xs) i = if i < xs.length then f (n + i) (co xs i) else 0
  | [], n, i => by simp [mapE, co_nil]
  | a :: r, n, 0 => by simp [mapE, co_zero]
  | a :: r, n, i + 1 => by
    rw [mapE, co_succ, co_succ, co_mapE f r (n + 1) i, show n + 1 + i = n + (i + 1) by omega]
    simp
theorem trim_mapE_step {ys rest : List Int} (hl : ys.length ≤ rest.length) :
    trim (mapE (fun i x => x - (if rest.length - ys.length ≤ i then (last0 rest).fdiv (last0 ys) * co ys (i - (rest.length - ys.length)) else 0)) 0 rest) = stepF ys rest := tr_ext (tr_trim _) (tr_addF _ _) fun i => by
  show _ = co (stepF ys rest) i
  rw [co_trim, co_mapE, co_stepF, Nat.zero_add]
  by_cases h : i < rest.length
  · rw [if_pos h]
    by_cases h2 : i < rest.length - ys.length
    · rw [if_pos h2, if_neg (by omega)]
    · rw [if_neg h2, if_pos (by omega), Int.mul_comm]
  · rw [if_neg h, co_ge (xs := rest) (by omega)]
    rw [if_neg (by omega), co_ge (xs := ys) (by omega)]; simp
theorem spec_law_divides {C : Cx} {bx : Bx} {b : BS} (K : C.Ok) (ys xs : List Int) (hx : xs.length ≤ 1000) (hy : ys.length ≤ 1000) (h0 : ys ≠ []) (hl0 : last0 ys ≠ 0) (bx1 : AllBd 4000 xs) (by1 : AllBd 4000 ys) :
    Spec C bx "_law_divides" 2 [.ints ys, .ints xs] b fun r b' => r = .bool (dvdB ys xs) ∧ b' = b := by
  refine spec_of_body 50 K ["b", "a"] (by decide +kernel) ?_ rfl (by decide) (by decide +kernel) (by decide +kernel) rfl rfl rfl ?_
  · exact fun pm code doc => hb2 fun u0 u1 => rfl
  intro A L a₀ cd O s hcn
  refine ASs_cons ?_
  have hpos := List.length_pos_iff.mpr h0
  walk_at "r"
  refine AS_while (α := Nat × List Int) (fun z => ⟨[("b", .av (.ints ys)), ("a", .av (.ints z.2))], b⟩) (fun z => ExI xs ys z.1 z.2 (List.replicate ((xs.length : Int) - ys.length + 1).toNat 0)) (fun z => z.2.length) (xs.length, xs)
    ⟨Nat.le_refl _, Nat.le_refl _, rfl, by simp, by simpa using bx1⟩ ⟨rfl, rfl, rfl, trivial⟩ ?_
  rintro ⟨n, rest⟩ hI
  dsimp only at hI ⊢
  have hl1 := hI.l₁
  have hl2 := hI.l₂
  have byl : Bd 4000 (last0 ys) := by1 _
  walk_at "r"
  all_goals try walk_at "o"
  · exact List.length_pos_iff.mp (by omega)
  · rename_i hl hm
    have hl : ys.length ≤ rest.length := by omega
    have hd := hI.d
    obtain ⟨n, rfl⟩ : ∃ n', n = n' + 1 := ⟨n - 1, by omega⟩
    rw [dvdF, if_pos hl, if_neg hm] at hd
    exact ⟨by rw [← hd], rfl⟩
  · exact List.length_pos_iff.mp (by omega)
  · rename_i hl hm
    have hl : ys.length ≤ rest.length := by omega
    have hr0 : rest ≠ [] := List.length_pos_iff.mp (by omega)
    obtain ⟨n, rfl⟩ : ∃ n', n = n' + 1 := ⟨n - 1, by omega⟩
    have bq : Bd (4000 + 4001 * (xs.length - rest.length)) ((last0 rest).fdiv (last0 ys)) := (hI.b (rest.length - 1)).of_le (fdiv_natAbs hm hl0)
    refine AE_comp (cl := ?clc1) [("b", .av (.ints ys)), ("shift", .av (.int ((rest.length : Int) - ys.length))), ("times", .av (.int ((last0 rest).fdiv (last0 ys))))] ?hc1 ?h1c1 ?h2c1 ?h3c1 ?h4c1 ?h5c1 ?h6c1 ?h7c1 ?h8c1
    case h1c1 => rfl
    case h2c1 => rfl
    case h3c1 => rfl
    case h4c1 => rfl
    case h5c1 => walk_at "sub"
    case h6c1 => walk_at "sub"
    case h7c1 => walk_at "cap"
    case h8c1 => (intro _; rfl)
    refine AI_enum ?_
    walk_at "r"
    refine ⟨by rw [enumL_length]; simp only [lid]; omega, fun C' h₀ O₀ s₀ => ?_⟩
    refine CompW_enum (fun i x => x - (if rest.length - ys.length ≤ i then (last0 rest).fdiv (last0 ys) * co ys (i - (rest.length - ys.length)) else 0)) (fun i x hi hx' => ?_) ?_
    · walk_at "r"
      all_goals try walk_at "o"
      · exact mulOk bq (by1 _) (by omega)
      · refine ⟨?_, rfl⟩
        rw [if_pos (by omega), getD_co (j := i - (rest.length - ys.length)) (by omega)]
      · refine ⟨?_, rfl⟩
        rw [if_neg (by omega)]
    · walk_at "r"
      refine ex_spec (spec_cut K _) ?_
      rintro _ b₂ ⟨rfl, rfl⟩
      rw [trim_mapE_step hl]
      have hI' := hI.step h0 hl0 by1 hl hm rfl
      walk_at "r"
      · rename_i he
        have he := of_decide_eq_true he
        have hd := hI'.d
        rw [he, dvdF_short (by simp only [List.length_nil]; omega)] at hd
        exact ⟨by rw [← hd]; rfl, rfl⟩
      · exact WhileK_next (n, stepF ys rest) hI' (len_stepF h0 hl hm) ⟨rfl, rfl, rfl, trivial⟩
  · have hd := hI.d
    rw [dvdF_short (by omega)] at hd
    exact ⟨by rw [hd], rfl⟩
theorem spec_plain {C : Cx} {bx : Bx} {b : BS} (K : C.Ok) (xs : List Int) (hx : xs.length ≤ 1000) (hc : cont xs ≠ 0) (hb : Bd 9000 (cont xs)) :
    Spec C bx "_law_plain" 1 [.ints xs] b fun r b' => r = .ints (primF xs) ∧ b' = b := by
  refine spec_of_body 51 K ["a"] (by decide +kernel) ?_ rfl (by decide) (by decide +kernel) (by decide +kernel) rfl rfl rfl ?_
  · exact fun pm code doc => hb1 fun u0 => rfl
  intro A L a₀ cd O s hcn
  refine ASs_cons ?_
  walk_at "r"
  refine AS_forI (α := Int) (fun z => ⟨[("a", .av (.ints xs)), ("worth", .av (.int z))], b⟩) (fun r z => 0 ≤ z ∧ ∃ ms : List Int, r = ms.map AV.int ∧ ms.foldl (fun f n => (Int.gcd f n : Int)) z = cont xs) ?_ ?_ ?_
  · refine AI_av ?_
    walk_at "r"
    exact ⟨_, rfl, 0, ⟨by decide, xs, rfl, rfl⟩, rfl, rfl, rfl, trivial⟩
  · rintro a r z ⟨h0, ms, hr, hz⟩
    cases ms with
    | nil => simp at hr
    | cons n ms =>
      simp only [List.map_cons, List.cons.injEq] at hr
      obtain ⟨rfl, rfl⟩ := hr
      walk_at "r"
      refine AS_while (α := Int × Int) (fun w => ⟨[("a", .av (.ints xs)), ("worth", .av (.int w.1)), ("one", .av (.int w.2))], b⟩) (fun w => 0 ≤ w.1 ∧ 0 ≤ w.2 ∧ Int.gcd w.1 w.2 = Int.gcd z n) (fun w => w.2.toNat) (z, if n < 0 then -n else n) ?_ ⟨rfl, rfl, rfl, rfl, trivial⟩ ?_
      · refine ⟨h0, by dsimp only; split <;> omega, ?_⟩
        dsimp only
        split <;> simp
      rintro ⟨u, v⟩ ⟨hu, hv, hg⟩
      dsimp only at hu hv hg ⊢
      walk_at "r"
      all_goals try walk_at "o"
      · obtain ⟨h1, h2, h3⟩ := gcd_step u v hu hv ‹_›
        exact WhileK_next (v, u.fmod v) ⟨hv, h1, h3.trans hg⟩ h2 ⟨rfl, rfl, rfl, rfl, trivial⟩
      · rename_i hv0
        subst hv0
        rw [Int.gcd_zero] at hg
        refine ⟨u, ⟨hu, ms, rfl, ?_⟩, rfl, rfl, rfl, trivial⟩
        rw [List.foldl_cons, ← hg] at hz
        rw [← hz]
        congr 1
        omega
  · rintro z ⟨h0, ms, hr, hz⟩
    cases ms with
    | cons n ms => simp at hr
    | nil =>
      simp only [List.foldl_nil] at hz
      subst hz
      walk_at "r"
      refine AE_comp (cl := ?clc2) [("worth", .av (.int (cont xs))), ("a", .av (.ints xs))] ?hc2 ?h1c2 ?h2c2 ?h3c2 ?h4c2 ?h5c2 ?h6c2 ?h7c2 ?h8c2
      case h1c2 => rfl
      case h2c2 => rfl
      case h3c2 => rfl
      case h4c2 => rfl
      case h5c2 => walk_at "sub"
      case h6c2 => walk_at "sub"
      case h7c2 => walk_at "cap"
      case h8c2 => (intro _; rfl)
      refine AI_av ?_
      walk_at "r"
      refine ⟨_, rfl, by simp only [lid, List.length_map]; omega, fun C' h₀ O₀ s₀ => ?_⟩
      refine CompW_mapI (fun x => x.fdiv (if last0 xs > 0 then cont xs else - cont xs)) (fun x hx' => ?_) ?_
      · have hne : xs ≠ [] := fun q => by rw [q] at hx'; cases hx'
        have hbn := hb.neg
        walk_at "r"
        all_goals try walk_at "o"
        · rw [if_pos ‹_›]; exact ⟨rfl, rfl⟩
        · rw [if_neg (by omega)]; exact ⟨rfl, rfl⟩
      · walk_at "r"
        exact ⟨rfl, rfl⟩
structure PolyI (most : Int) (f : List Int) : Prop where
  l₁ : 2 ≤ f.length
  l₂ : (f.length : Int) ≤ most + 1
  e : ∀ i, -3 ≤ co f i ∧ co f i ≤ 3
  t : last0 f ≠ 0
theorem poly_of {acc : List Int} {d most : Int} (hx : ∀ x ∈ acc, -3 ≤ x ∧ x ≤ 3) (hd : d = 0 ∨ d = 1 ∨ d = 2 ∨ d = 3) (h1 : 1 ≤ acc.length) (h2 : (acc.length : Int) ≤ most) : PolyI most (acc ++ [[1, 2, -1, 3].getD d.toNat 0]) := by
  have hv : -3 ≤ ([1, 2, -1, 3] : List Int).getD d.toNat 0 ∧ ([1, 2, -1, 3] : List Int).getD d.toNat 0 ≤ 3 ∧ ([1, 2, -1, 3] : List Int).getD d.toNat 0 ≠ 0 := by
    rcases hd with rfl | rfl | rfl | rfl <;> decide
  generalize ([1, 2, -1, 3] : List Int).getD d.toNat 0 = v at *
  refine ⟨by simp; omega, by simp; omega, fun i => ?_, ?_⟩
  · rw [co_append]
    split
    · exact hx _ (co_mem ‹_›)
    · rcases Nat.lt_or_ge (i - acc.length) 1 with h | h
      · rw [show i - acc.length = 0 by omega, co_zero]; omega
      · rw [co_ge (by simpa using h)]; omega
  · show co (acc ++ [v]) ((acc ++ [v]).length - 1) ≠ 0
    rw [co_append, if_neg (by simp), show (acc ++ [v]).length - 1 - acc.length = 0 by simp, co_zero]
    exact hv.2.2
theorem spec_poly {C : Cx} {p : Addr × Addr} {b : BS} (K : C.Ok) (most : Int) (h1 : 1 ≤ most) (h2 : most ≤ 10) : Spec C (some p) "_law_poly" 2 [.box, .int most] b fun r b' => ∃ f, r = .ints f ∧ PolyI most f := by
  refine spec_of_body 53 K ["box", "most"] (by decide +kernel) ?_ rfl (by decide) (by decide +kernel) (by decide +kernel) rfl rfl rfl ?_
  · exact fun pm code doc => hb2 fun u0 u1 => rfl
  intro A L a₀ cd O s hcn
  refine ASs_cons ?_
  refine AS_assign_comp (cl := ?clc1) [("box", .av (.box))] ?hc1 ?h1c1 ?h2c1 ?h3c1 ?h4c1 ?h5c1 ?h6c1 ?h7c1 ?h9c1 ?h10c1 ?h8c1
  case h1c1 => rfl
  case h2c1 => rfl
  case h3c1 => rfl
  case h4c1 => rfl
  case h5c1 => walk_at "sub"
  case h6c1 => walk_at "sub"
  case h7c1 => walk_at "cap"
  case h8c1 => (intro _; rfl)
  case h9c1 => rfl
  case h10c1 => rfl
  refine AI_range1 ?_
  walk_at "r"
  refine ex_spec (spec_take K most (by omega)) ?_
  rintro _ b₁ ⟨rfl, rfl⟩
  have ht := takeV_lt b (m := most) (by omega)
  walk_at "r"
  refine ⟨⟨by omega, by omega⟩, ?_, fun C' h₀ O₀ s₀ => ?_⟩
  · simp only [lid, rangeL, List.length_map, List.length_range]; omega
  refine CompW_fold (fun r acc b' => (acc.length : Int) + r.length = 1 + takeV b most ∧ ∀ x ∈ acc, -3 ≤ x ∧ x ≤ 3) ?_ ?_ _ [] _ ⟨?_, fun x h => by cases h⟩
  · rintro a r acc b' ⟨hl, hx⟩
    walk_at "r"
    refine ex_spec (spec_take K 7 (by decide)) ?_
    rintro _ b₁ ⟨rfl, rfl⟩
    have h7 := takeV_lt b' (m := 7) (by decide)
    walk_at "r"
    refine ⟨by simp only [List.length_append, List.length_cons, List.length_nil] at *; omega, fun x hx' => ?_⟩
    rcases List.mem_append.mp hx' with hx' | hx'
    · exact hx x hx'
    · cases List.mem_singleton.mp hx'; omega
  · rintro acc b' ⟨hl, hx⟩
    simp only [List.length_nil] at hl
    walk_at "r"
    refine ex_spec (spec_take K 4 (by decide)) ?_
    rintro _ b₁ ⟨rfl, rfl⟩
    have h4 := takeV_lt b' (m := 4) (by decide)
    generalize takeV b' 4 = d at *
    have hd : d = 0 ∨ d = 1 ∨ d = 2 ∨ d = 3 := by omega
    walk_at "r"
    all_goals try walk_at "o"
    · simp only [List.length_cons, List.length_nil]; omega
    · simp only [lid, List.length_cons, List.length_nil]; omega
    · exact poly_of hx hd (by omega) (by omega)
  · simp only [rangeL, List.length_map, List.length_range, List.length_nil]; omega
theorem symI_congr {m x y : Int} (h : x % m = y % m) : symI x m = symI y m := by unfold symI; rw [h]
theorem pairs_ok : ∀ q ∈ pairsL, 0 < q.1 ∧ 0 < q.2 ∧ q.1 ≤ 100 ∧ q.2 ≤ 100 ∧ q.1 * q.2 ≤ 1000 ∧ Int.gcd q.1 q.2 = 1 := by decide +kernel
theorem spec_rests {C : Cx} {p : Addr × Addr} {b : BS} (K : C.Ok) : Spec C (some p) "_law_rests_right" 5 [.box] b fun r b' => r = .bool true := by
  refine spec_of_body 54 K ["box"] (by decide +kernel) ?_ rfl (by decide) (by decide +kernel) (by decide +kernel) rfl rfl rfl ?_
  · exact fun pm code doc => hb1 fun u0 => rfl
  intro A L a₀ cd O s hcn
  refine ASs_cons ?_
  refine AS_pairs ?_ rfl rfl (by intro _ _ _; with_unfolding_all rfl) rfl rfl rfl
  walk_at "r"
  refine ex_spec (spec_take K 9 (by decide)) ?_
  rintro _ b₁ ⟨rfl, rfl⟩
  have h9 := takeV_lt b (m := 9) (by decide)
  have hlt : (takeV b 9).toNat < pairsL.length := by show _ < 9; omega
  obtain ⟨m, q, hq⟩ : ∃ m q, pairsL[(takeV b 9).toNat]? = some (m, q) := ⟨_, _, List.getElem?_eq_getElem hlt⟩
  obtain ⟨m0, q0, m1, q1, mq, hg⟩ := pairs_ok (m, q) (List.mem_of_getElem? hq)
  dsimp only at m0 q0 m1 q1 mq hg
  refine ⟨_, (m, q), rfl, h9.1, hq, ?_⟩
  walk_at "r"
  refine ex_spec (spec_take K 4 (by decide)) ?_
  rintro _ b₁ ⟨rfl, rfl⟩
  have h4 := takeV_lt (takeB b) (m := 4) (by decide)
  generalize takeV (takeB b) 4 = d at *
  generalize takeB (takeB b) = b1 at *
  have hdn : ((rangeL 0 1 (1 + d).toNat).map AV.int).length = (1 + d).toNat := by simp only [rangeL, List.length_map, List.length_range]
  walk_at "r"
  refine AE_comp (cl := ?clc2) [("m", .av (.int m)), ("box", .av (.box))] ?hc2 ?h1c2 ?h2c2 ?h3c2 ?h4c2 ?h5c2 ?h6c2 ?h7c2 ?h8c2
  case h1c2 => rfl
  case h2c2 => rfl
  case h3c2 => rfl
  case h4c2 => rfl
  case h5c2 => walk_at "sub"
  case h6c2 => walk_at "sub"
  case h7c2 => walk_at "cap"
  case h8c2 => (intro _; rfl)
  refine AI_range1 ?_
  walk_at "r"
  refine ⟨⟨by omega, by omega⟩, by simp only [lid, hdn]; omega, fun C' h₀ O₀ s₀ => ?_⟩
  refine CompW_fold (fun r acc b' => acc.length + r.length = (1 + d).toNat ∧ Red m acc) ?_ ?_ _ [] _ ⟨by rw [hdn]; simp, fun x h => by cases h⟩
  · rintro a r acc b' ⟨hl, hx⟩
    walk_at "r"
    refine ex_spec (spec_take K m m0) ?_
    rintro _ b₁ ⟨rfl, rfl⟩
    walk_at "r"
    refine ⟨by simp only [List.length_append, List.length_cons, List.length_nil] at *; omega, fun x hx' => ?_⟩
    rcases List.mem_append.mp hx' with hx' | hx'
    · exact hx x hx'
    · cases List.mem_singleton.mp hx'; exact takeV_lt b' m0
  rintro one b2 ⟨hl1, hr1⟩
  simp only [List.length_nil, Nat.add_zero] at hl1
  walk_at "r"
  refine AE_comp (cl := ?clc3) [("p", .av (.int q)), ("box", .av (.box))] ?hc3 ?h1c3 ?h2c3 ?h3c3 ?h4c3 ?h5c3 ?h6c3 ?h7c3 ?h8c3
  case h1c3 => rfl
  case h2c3 => rfl
  case h3c3 => rfl
  case h4c3 => rfl
  case h5c3 => walk_at "sub"
  case h6c3 => walk_at "sub"
  case h7c3 => walk_at "cap"
  case h8c3 => (intro _; rfl)
  refine AI_range1 ?_
  walk_at "r"
  refine ⟨⟨by omega, by omega⟩, by simp only [lid, hdn]; omega, fun C' h₀ O₀ s₀ => ?_⟩
  refine CompW_fold (fun r acc b' => acc.length + r.length = (1 + d).toNat ∧ Red q acc) ?_ ?_ _ [] _ ⟨by rw [hdn]; simp, fun x h => by cases h⟩
  · rintro a r acc b' ⟨hl, hx⟩
    walk_at "r"
    refine ex_spec (spec_take K q q0) ?_
    rintro _ b₁ ⟨rfl, rfl⟩
    walk_at "r"
    refine ⟨by simp only [List.length_append, List.length_cons, List.length_nil] at *; omega, fun x hx' => ?_⟩
    rcases List.mem_append.mp hx' with hx' | hx'
    · exact hx x hx'
    · cases List.mem_singleton.mp hx'; exact takeV_lt b' q0
  rintro other b3 ⟨hl2, hr2⟩
  simp only [List.length_nil, Nat.add_zero] at hl2
  have bm : Bd 1500 m := Bd.mono (m := 20) (.of_lt (k := 1002) (by omega) (by decide)) (by decide)
  have bq : Bd 1500 q := Bd.mono (m := 20) (.of_lt (k := 1002) (by omega) (by decide)) (by decide)
  have bo1 : AllBd 1500 one := fun i => bm.of_le (by have := hr1.co m0 i; omega)
  have bo2 : AllBd 1500 other := fun i => bq.of_le (by have := hr2.co q0 i; omega)
  walk_at "r"
  refine ex_spec (spec_joined K one other m q m0 q0 bm bq hg bo1 bo2 (by omega) (by simp only [lid]; omega)) ?_
  rintro _ b₁ ⟨⟨w, rfl, hw⟩, rfl⟩
  walk_at "r"
  refine ex_spec (spec_both K one other m q m0 q0 m1 q1 mq hg (by omega) (by omega)) ?_
  rintro _ b₁ ⟨⟨w', rfl, hw'⟩, rfl⟩
  have ew := hw.uniq m0 q0 hg hw'
  subst ew
  walk_at "r"
  · exact absurd rfl ‹_›
  have bw : AllBd 1500 w := fun i => Bd.mono (m := 20) (by
    rcases Nat.lt_or_ge i one.length with hi | hi
    · have := hw.at' i hi
      exact .of_lt (k := 1002) (by omega) (by decide)
    · rw [co_ge (by rw [hw.len]; exact hi)]; exact .zero _) (by decide)
  have hwl := hw.len
  refine AS_forI (α := Unit) (fun _ => ⟨[("box", .av .box), ("m", .av (.int m)), ("p", .av (.int q)), ("many", .av (.int (1 + d))), ("whole", .av (.ints w))], b₁⟩) (fun r _ => ∀ a ∈ r, ∃ n, a = AV.int n ∧ 0 < n ∧ n ≤ 1000) ?_ ?_ ?_
  · refine AI_av ?_
    walk_at "r"
    · exact mulOk (m := 1500) (n := 1500) bm bq (by decide)
    refine ⟨_, rfl, (), ?_, rfl, rfl, rfl, rfl, rfl, rfl, trivial⟩
    have := Int.mul_pos m0 q0
    intro a ha
    simp only [List.mem_cons, List.not_mem_nil, or_false] at ha
    rcases ha with rfl | rfl | rfl
    · exact ⟨_, rfl, by omega, by omega⟩
    · exact ⟨_, rfl, by omega, by omega⟩
    · exact ⟨_, rfl, by omega, by omega⟩
  · rintro a r _ ha
    obtain ⟨n, rfl, n0, n1⟩ := ha _ (.head _)
    walk_at "r"
    refine ex_spec (spec_symmetric_of K w n n0 (Bd.mono (m := 20) (.of_lt (k := 1002) (by omega) (by decide)) (by decide)) (by simp only [lid]; omega)) ?_
    rintro _ b₂ ⟨rfl, rfl⟩
    walk_at "r"
    refine AE_comp (cl := ?clc4) [("by", .av (.int n))] ?hc4 ?h1c4 ?h2c4 ?h3c4 ?h4c4 ?h5c4 ?h6c4 ?h7c4 ?h8c4
    case h1c4 => rfl
    case h2c4 => rfl
    case h3c4 => rfl
    case h4c4 => rfl
    case h5c4 => walk_at "sub"
    case h6c4 => walk_at "sub"
    case h7c4 => walk_at "cap"
    case h8c4 => (intro _; rfl)
    refine AI_av ?_
    walk_at "r"
    refine ⟨_, rfl, by simp only [lid, List.length_map]; omega, fun C' h₀ O₀ s₀ => ?_⟩
    refine CompW_mapI (fun x => symI x n) (fun x hx' => ?_) ?_
    · walk_at "r"
      refine ex_spec (spec_near K x n n0 n1) ?_
      rintro _ b₃ ⟨rfl, rfl⟩
      exact ⟨rfl, rfl⟩
    walk_at "r"
    refine ex_spec (spec_cut K _) ?_
    rintro _ b₃ ⟨rfl, rfl⟩
    walk_at "r"
    · exact absurd rfl ‹_›
    · exact ⟨(), fun a h => ha a (.tail _ h), rfl, rfl, rfl, rfl, rfl, rfl, trivial⟩
  · rintro _ _
    refine ASs_cons ?_
    refine AS_assign_comp (cl := ?clc5) [("box", .av (.box))] ?hc5 ?h1c5 ?h2c5 ?h3c5 ?h4c5 ?h5c5 ?h6c5 ?h7c5 ?h9c5 ?h10c5 ?h8c5
    case h1c5 => rfl
    case h2c5 => rfl
    case h3c5 => rfl
    case h4c5 => rfl
    case h5c5 => walk_at "sub"
    case h6c5 => walk_at "sub"
    case h7c5 => walk_at "cap"
    case h8c5 => (intro _; rfl)
    case h9c5 => rfl
    case h10c5 => rfl
    refine AI_range1 ?_
    walk_at "r"
    refine ⟨⟨by omega, by omega⟩, by simp only [lid, hdn]; omega, fun C' h₀ O₀ s₀ => ?_⟩
    refine CompW_fold (fun r acc b' => acc.length + r.length = (1 + d).toNat ∧ ∀ x ∈ acc, -15 ≤ x ∧ x ≤ 15) ?_ ?_ _ [] _ ⟨by rw [hdn]; simp, fun x h => by cases h⟩
    · rintro a r acc b' ⟨hl, hx⟩
      walk_at "r"
      refine ex_spec (spec_take K 31 (by decide)) ?_
      rintro _ b₂ ⟨rfl, rfl⟩
      have h31 := takeV_lt b' (m := 31) (by decide)
      walk_at "r"
      refine ⟨by simp only [List.length_append, List.length_cons, List.length_nil] at *; omega, fun x hx' => ?_⟩
      rcases List.mem_append.mp hx' with hx' | hx'
      · exact hx x hx'
      · cases List.mem_singleton.mp hx'; omega
    rintro small b4 ⟨hl3, hr3⟩
    simp only [List.length_nil, Nat.add_zero] at hl3
    have em : ∀ x, x.fmod m = x % m := fun x => Int.fmod_eq_emod_of_nonneg _ (by omega)
    have eq : ∀ x, x.fmod q = x % q := fun x => Int.fmod_eq_emod_of_nonneg _ (by omega)
    have mq0 := Int.mul_pos m0 q0
    walk_at "r"
    refine AE_comp (cl := ?clc6) [("m", .av (.int m))] ?hc6 ?h1c6 ?h2c6 ?h3c6 ?h4c6 ?h5c6 ?h6c6 ?h7c6 ?h8c6
    case h1c6 => rfl
    case h2c6 => rfl
    case h3c6 => rfl
    case h4c6 => rfl
    case h5c6 => walk_at "sub"
    case h6c6 => walk_at "sub"
    case h7c6 => walk_at "cap"
    case h8c6 => (intro _; rfl)
    refine AI_av ?_
    walk_at "r"
    refine ⟨_, rfl, by simp only [lid, List.length_map]; omega, fun C' h₀ O₀ s₀ => ?_⟩
    refine CompW_mapI (fun x => x % m) (fun x hx' => ?_) ?_
    · walk_at "r"
      all_goals try walk_at "o"
      rw [em]
      exact ⟨rfl, rfl⟩
    walk_at "r"
    refine AE_comp (cl := ?clc7) [("p", .av (.int q))] ?hc7 ?h1c7 ?h2c7 ?h3c7 ?h4c7 ?h5c7 ?h6c7 ?h7c7 ?h8c7
    case h1c7 => rfl
    case h2c7 => rfl
    case h3c7 => rfl
    case h4c7 => rfl
    case h5c7 => walk_at "sub"
    case h6c7 => walk_at "sub"
    case h7c7 => walk_at "cap"
    case h8c7 => (intro _; rfl)
    refine AI_av ?_
    walk_at "r"
    refine ⟨_, rfl, by simp only [lid, List.length_map]; omega, fun C' h₀ O₀ s₀ => ?_⟩
    refine CompW_mapI (fun x => x % q) (fun x hx' => ?_) ?_
    · walk_at "r"
      all_goals try walk_at "o"
      rw [eq]
      exact ⟨rfl, rfl⟩
    walk_at "r"
    have c1 : ∀ i, co (small.map fun x => x % m) i = co small i % m := fun i => co_map (by simp) _ _
    have c2 : ∀ i, co (small.map fun x => x % q) i = co small i % q := fun i => co_map (by simp) _ _
    refine ex_spec (spec_joined K (small.map fun x => x % m) (small.map fun x => x % q) m q m0 q0 bm bq hg
      (fun i => by rw [c1]; exact bm.of_le (by have := Int.emod_nonneg (co small i) (by omega : m ≠ 0); have := Int.emod_lt_of_pos (co small i) m0; omega))
      (fun i => by rw [c2]; exact bq.of_le (by have := Int.emod_nonneg (co small i) (by omega : q ≠ 0); have := Int.emod_lt_of_pos (co small i) q0; omega))
      (by simp) (by simp only [lid, List.length_map]; omega)) ?_
    rintro _ b₅ ⟨⟨v, rfl, hv⟩, rfl⟩
    have bmq : Bd 4000 (m * q) := (bm.mul bq).mono (by decide)
    have hvl := hv.len
    rw [List.length_map] at hvl
    walk_at "r"
    · exact mulOk (m := 1500) (n := 1500) bm bq (by decide)
    refine ex_spec (spec_symmetric_of K v (m * q) mq0 bmq (by simp only [lid]; omega)) ?_
    rintro _ b₆ ⟨rfl, rfl⟩
    walk_at "r"
    refine AE_comp (cl := ?clc8) [("m", .av (.int m)), ("p", .av (.int q))] ?hc8 ?h1c8 ?h2c8 ?h3c8 ?h4c8 ?h5c8 ?h6c8 ?h7c8 ?h8c8
    case h1c8 => rfl
    case h2c8 => rfl
    case h3c8 => rfl
    case h4c8 => rfl
    case h5c8 => walk_at "sub"
    case h6c8 => walk_at "sub"
    case h7c8 => walk_at "cap"
    case h8c8 => (intro _; rfl)
    refine AI_av ?_
    walk_at "r"
    refine ⟨_, rfl, by simp only [lid, List.length_map]; omega, fun C' h₀ O₀ s₀ => ?_⟩
    refine CompW_mapI (fun x => symI x (m * q)) (fun x hx' => ?_) ?_
    · walk_at "r"
      · exact mulOk (m := 1500) (n := 1500) bm bq (by decide)
      refine ex_spec (spec_near K x (m * q) mq0 mq) ?_
      rintro _ b₃ ⟨rfl, rfl⟩
      exact ⟨rfl, rfl⟩
    walk_at "r"
    refine ex_spec (spec_cut K _) ?_
    rintro _ b₃ ⟨rfl, rfl⟩
    have esym : symF v (m * q) = trim (small.map fun x => symI x (m * q)) := by
      unfold symF
      congr 1
      refine ext_co (by simp [hvl]) fun i => ?_
      rw [co_map (f := fun x => symI x (m * q)) (by unfold symI; simp; omega), co_map (f := fun x => symI x (m * q)) (by unfold symI; simp; omega)]
      apply symI_congr
      rcases Nat.lt_or_ge i small.length with hi | hi
      · obtain ⟨k1, k2, k3, k4⟩ := hv.at' i (by simpa using hi)
        rw [c1] at k3
        rw [c2] at k4
        have d1 : m ∣ co v i - co small i := by
          rw [Int.emod_def] at k3
          have := Int.dvd_sub k3 (⟨co small i / m, rfl⟩ : m ∣ m * (co small i / m))
          rwa [show co v i - (co small i - m * (co small i / m)) - m * (co small i / m) = co v i - co small i by omega] at this
        have d2 : q ∣ co v i - co small i := by
          rw [Int.emod_def] at k4
          have := Int.dvd_sub k4 (⟨co small i / q, rfl⟩ : q ∣ q * (co small i / q))
          rwa [show co v i - (co small i - q * (co small i / q)) - q * (co small i / q) = co v i - co small i by omega] at this
        obtain ⟨c, hc⟩ := d1
        rw [hc] at d2
        have d3 := dvd_cop m0 q0 hg d2
        apply Int.emod_eq_emod_iff_emod_sub_eq_zero.mpr
        apply Int.emod_eq_zero_of_dvd
        rw [hc]
        exact Int.mul_dvd_mul (Int.dvd_refl m) d3
      · rw [co_ge (by omega), co_ge hi]
    rw [esym]
    walk_at "r"
    · exact absurd rfl ‹_›
    have b7 : Bd 4000 7 := Bd.mono (m := 3) ⟨by decide⟩ (by decide)
    have b2' : Bd 4000 2 := Bd.mono (m := 3) ⟨by decide⟩ (by decide)
    refine ex_spec (spec_symmetric_of K [] 7 (by decide) b7 (Nat.zero_le _)) ?_
    rintro _ b₄ ⟨rfl, rfl⟩
    rw [show symF [] 7 = [] from rfl]
    walk_at "r"
    · refine ex_spec (spec_joined K [] [] m q m0 q0 bm bq hg (fun i => by rw [co_nil]; exact .zero _) (fun i => by rw [co_nil]; exact .zero _) (Nat.le_refl _) (Nat.zero_le _)) ?_
      rintro _ b₅ ⟨⟨z, rfl, hz⟩, rfl⟩
      have hz0 : z = [] := List.length_eq_zero_iff.mp (by rw [hz.len]; rfl)
      subst hz0
      walk_at "r"
      · refine ex_spec (spec_symmetric_of K [1, 2, 3] 2 (by decide) b2' (by decide)) ?_
        rintro _ b₆ ⟨rfl, rfl⟩
        rw [show symF [1, 2, 3] 2 = [1, 0, 1] by decide]
        walk_at "r"
        exact congrArg AV.bool (decide_eq_true rfl)
      · exact absurd ‹decide _ = false› (by decide)
    · exact absurd ‹decide _ = false› (by decide)
/-! Contents, primes, Gauss. -/
theorem dvd_foldl {k : Int} : ∀ (xs : List Int) (z : Int), k ∣ z → (∀ x ∈ xs, k ∣ x) → k ∣ xs.foldl (fun f n => (Int.gcd f n : Int)) z
  | [], z, hz, _ => hz
  | a :: r, z, hz, h => dvd_foldl r _ (Int.dvd_coe_gcd hz (h a (.head _))) fun x hx => h x (.tail _ hx)
theorem dvd_cont {k : Int} {xs : List Int} (h : ∀ x ∈ xs, k ∣ x) : k ∣ cont xs := dvd_foldl xs 0 (Int.dvd_zero k) h
theorem foldl_dvd : ∀ (xs : List Int) (z : Int), xs.foldl (fun f n => (Int.gcd f n : Int)) z ∣ z ∧ ∀ x ∈ xs, xs.foldl (fun f n => (Int.gcd f n : Int)) z ∣ x
  | [], z => ⟨Int.dvd_refl _, fun x h => by cases h⟩
  | a :: r, z => by
    obtain ⟨h1, h2⟩ := foldl_dvd r (Int.gcd z a : Int)
    refine ⟨Int.dvd_trans h1 (Int.gcd_dvd_left ..), fun x hx => ?_⟩
    rcases List.mem_cons.mp hx with rfl | hx
    · exact Int.dvd_trans h1 (Int.gcd_dvd_right ..)
    · exact h2 x hx
theorem cont_dvd {xs : List Int} {x : Int} (h : x ∈ xs) : cont xs ∣ x := (foldl_dvd xs 0).2 x h
theorem cont_dvd_co (xs : List Int) (i : Nat) : cont xs ∣ co xs i := by
  rcases Nat.lt_or_ge i xs.length with h | h
  · exact cont_dvd (co_mem h)
  · rw [co_ge h]; exact Int.dvd_zero _
theorem foldl_nonneg : ∀ (xs : List Int) (z : Int), 0 ≤ z → 0 ≤ xs.foldl (fun f n => (Int.gcd f n : Int)) z
  | [], _, h => h
  | a :: r, z, _ => foldl_nonneg r _ (Int.natCast_nonneg _)
theorem cont_nonneg (xs : List Int) : 0 ≤ cont xs := foldl_nonneg xs 0 (Int.le_refl 0)
theorem cont_ne {xs : List Int} {i : Nat} (h : co xs i ≠ 0) : cont xs ≠ 0 := fun q => by
  have := cont_dvd_co xs i
  rw [q, Int.zero_dvd] at this
  exact h this
theorem cont_le {xs : List Int} {i : Nat} (h : co xs i ≠ 0) : (cont xs).natAbs ≤ (co xs i).natAbs := by
  obtain ⟨c, hc⟩ := cont_dvd_co xs i
  have hc0 : c ≠ 0 := fun q => h (by rw [hc, q, Int.mul_zero])
  rw [hc, Int.natAbs_mul]
  exact Nat.le_mul_of_pos_right _ (by omega)
/-- primitive, the lead above 0 -/
structure Prim (xs : List Int) : Prop where
  c : cont xs = 1
  l : 0 < last0 xs
theorem Prim.ne {xs : List Int} (h : Prim xs) : xs ≠ [] := fun q => by
  have := h.l
  rw [q] at this
  exact absurd this (by decide)
theorem Prim.tr {xs : List Int} (h : Prim xs) : Tr xs := fun n hn => by
  have := h.l
  unfold last0 at this
  rw [hn] at this
  show xs.getD n 0 ≠ 0
  simp at this
  simpa using Int.ne_of_gt this
/-- the sign and content taken off -/
noncomputable def unitC (xs : List Int) : Int := if last0 xs > 0 then cont xs else - cont xs
theorem unitC_ne {xs : List Int} (h : last0 xs ≠ 0) : unitC xs ≠ 0 := by
  have := cont_ne (i := xs.length - 1) h
  unfold unitC; split <;> omega
theorem unitC_dvd (xs : List Int) (i : Nat) : unitC xs ∣ co xs i := by
  have := cont_dvd_co xs i
  unfold unitC
  split
  · exact this
  · exact Int.neg_dvd.mpr this
theorem co_primF {xs : List Int} (i : Nat) : unitC xs * co (primF xs) i = co xs i := by
  show unitC xs * co (xs.map fun x => x.fdiv (unitC xs)) i = _
  rw [co_map (f := fun x => x.fdiv (unitC xs)) (by simp)]
  exact Int.mul_fdiv_cancel' (unitC_dvd xs i)
theorem len_primF (xs : List Int) : (primF xs).length = xs.length := by unfold primF; simp
theorem last0_primF (xs : List Int) : unitC xs * last0 (primF xs) = last0 xs := by
  have := co_primF (xs := xs) (xs.length - 1)
  unfold last0
  rw [len_primF]
  exact this
theorem prim_primF {xs : List Int} (h : last0 xs ≠ 0) : Prim (primF xs) := by
  have hu := unitC_ne h
  have hc := cont_nonneg xs
  have hl := last0_primF xs
  constructor
  · have h1 : cont (primF xs) * cont xs ∣ cont xs := dvd_cont fun x hx => by
      obtain ⟨i, _, rfl⟩ := co_of_mem hx
      have h2 := co_primF (xs := xs) i
      rw [← h2]
      obtain ⟨c, hc⟩ := cont_dvd_co (primF xs) i
      rw [hc]
      unfold unitC
      split
      · exact ⟨c, by grind⟩
      · exact ⟨-c, by grind⟩
    have h0 : cont xs ≠ 0 := cont_ne (i := xs.length - 1) h
    obtain ⟨d, hd⟩ := h1
    have h3 : cont (primF xs) * d = 1 := by
      have : cont xs * (cont (primF xs) * d) = cont xs * 1 := by rw [Int.mul_one]; grind
      exact Int.eq_of_mul_eq_mul_left h0 this
    have h4 := cont_nonneg (primF xs)
    have h5 := Int.le_of_dvd (by decide) (⟨d, h3.symm⟩ : cont (primF xs) ∣ 1)
    have h6 : cont (primF xs) ≠ 0 := fun z => by rw [z, Int.zero_mul] at h3; cases h3
    omega
  · unfold unitC at hl hu
    split at hl
    · have : 0 < cont xs * last0 (primF xs) := by omega
      exact Int.pos_of_mul_pos_right this (by omega)
    · have : 0 < cont xs * last0 (primF xs) := by
        rw [Int.neg_mul] at hl; omega
      exact Int.pos_of_mul_pos_right this (by omega)
theorem primF_prim {xs : List Int} (h : Prim xs) : primF xs = xs := by
  unfold primF
  rw [if_pos h.l, h.c]
  simp
/-- primes -/
theorem PrimeL.noZ {p : Int} (hp : PrimeL p) : NoZ p := fun x y h => by
  have p1 := hp.one
  by_cases h0 : x % p = 0
  · exact .inl (Int.dvd_of_emod_eq_zero h0)
  · right
    have h1 := Int.emod_nonneg x (by omega : p ≠ 0)
    have h2 := Int.emod_lt_of_pos x (by omega : 0 < p)
    refine dvd_cop (m := x % p) (by omega) (by omega) (hp.cop _ (by omega) h2) ?_
    rw [Int.emod_def, Int.sub_mul]
    exact Int.dvd_sub h ⟨x / p * y, by rw [Int.mul_assoc]⟩
theorem exists_prime : ∀ (n : Nat), 2 ≤ n → ∃ p : Int, PrimeL p ∧ p ∣ (n : Int) := by
  intro n hn
  have key : ∀ k d : Nat, n - d = k → 2 ≤ d → d ≤ n → (∀ e, 2 ≤ e → e < d → ¬ e ∣ n) → ∃ p : Int, PrimeL p ∧ p ∣ (n : Int) := by
    intro k
    induction k with
    | zero =>
      intro d hk h2 hd hm
      obtain rfl : d = n := by omega
      refine ⟨d, ⟨by omega, fun x hx hx' => ?_⟩, Int.dvd_refl _⟩
      have h1 : Int.gcd x d ∣ d := by have := Int.gcd_dvd_natAbs_right x d; simpa using this
      have h2' := Int.gcd_le_left (d : Int) hx
      have h3 : 0 < Int.gcd x d := Int.gcd_pos_of_ne_zero_right _ (by omega)
      rcases Nat.lt_or_ge (Int.gcd x d) 2 with h4 | h4
      · omega
      · exact absurd h1 (hm _ h4 (by omega))
    | succ k ih =>
      intro d hk h2 hd hm
      by_cases hdn : d ∣ n
      · refine ⟨d, ⟨by omega, fun x hx hx' => ?_⟩, by exact_mod_cast hdn⟩
        have h1 : Int.gcd x d ∣ d := by have := Int.gcd_dvd_natAbs_right x d; simpa using this
        have h2' := Int.gcd_le_left (d : Int) hx
        have h3 : 0 < Int.gcd x d := Int.gcd_pos_of_ne_zero_right _ (by omega)
        rcases Nat.lt_or_ge (Int.gcd x d) 2 with h4 | h4
        · omega
        · exact absurd (Nat.dvd_trans h1 hdn) (hm _ h4 (by omega))
      · refine ih (d + 1) (by omega) (by omega) (by omega) fun e he he' => ?_
        by_cases q : e = d
        · rw [q]; exact hdn
        · exact hm e he (by omega)
  exact key _ 2 rfl (by decide) hn fun e he he' => by omega
noncomputable def PrimN (g : Nat → Int) : Prop := ∀ p : Int, PrimeL p → ∃ j, ¬ p ∣ g j
theorem Prim.primN {xs : List Int} (h : Prim xs) : PrimN (co xs) := fun p hp => by
  refine Classical.byContradiction fun hn => ?_
  have hall : ∀ j, p ∣ co xs j := fun j => Classical.byContradiction fun q => hn ⟨j, q⟩
  have : p ∣ cont xs := dvd_cont fun x hx => by
    obtain ⟨i, _, rfl⟩ := co_of_mem hx
    exact hall i
  rw [h.c] at this
  have := Int.le_of_dvd (by decide) this
  have := hp.one
  omega
theorem gauss_step {p : Int} (hp : NoZ p) {g : Nat → Int} (hg : ∃ j, ¬ p ∣ g j) : ∀ (q : List Int), (∀ n, p ∣ pm q g n) → ∀ j, p ∣ co q j := by
  -- the least j
  have hmin : ∃ j, ¬ p ∣ g j ∧ ∀ i, i < j → p ∣ g i := by
    obtain ⟨j, hj⟩ := hg
    induction j using Nat.strongRecOn with
    | ind j ih =>
      by_cases h : ∃ i, i < j ∧ ¬ p ∣ g i
      · obtain ⟨i, hi, hi'⟩ := h
        exact ih i hi hi'
      · exact ⟨j, hj, fun i hi => Classical.byContradiction fun q => h ⟨i, hi, q⟩⟩
  obtain ⟨j₀, h0, hlt⟩ := hmin
  intro q
  induction q with
  | nil => intro _ j; simp [co]
  | cons a q ih =>
    intro h
    have hsmall : ∀ (r : List Int) i, i < j₀ → p ∣ pm r g i := by
      intro r
      induction r with
      | nil => intro i _; simp [pm]
      | cons c r ihr =>
        intro i hi
        rw [pm]
        refine Int.dvd_add (Int.dvd_mul_of_dvd_right (hlt i hi)) ?_
        cases i with
        | zero => simp [sh]
        | succ i => exact ihr i (by omega)
    have ha : p ∣ a := by
      have h1 := h j₀
      rw [pm] at h1
      have h2 : p ∣ sh (pm q g) j₀ := by
        cases j₀ with
        | zero => simp [sh]
        | succ j => exact hsmall q j (by omega)
      rcases hp _ _ ((Int.dvd_add_left h2).mp h1) with h3 | h3
      · exact h3
      · exact absurd h3 h0
    have hq : ∀ n, p ∣ pm q g n := fun n => by
      have h1 := h (n + 1)
      rw [pm] at h1
      exact (Int.dvd_add_right (Int.dvd_mul_of_dvd_left ha)).mp h1
    intro j
    cases j with
    | zero => exact ha
    | succ j => exact ih hq j
theorem gauss {g : Nat → Int} (hg : PrimN g) : ∀ (n : Nat) (c : Int) (f : Nat → Int), c.natAbs = n → c ≠ 0 → Dv 0 g (fun i => c * f i) → Dv 0 g f := by
  intro n
  induction n using Nat.strongRecOn with
  | ind n ih =>
    intro c f hn hc ⟨q, hq⟩
    by_cases h1 : n = 1
    · have hc1 : c * c = 1 := by
        have : c = 1 ∨ c = -1 := by omega
        rcases this with rfl | rfl <;> rfl
      refine ⟨lsm c q, .of_eq fun i => ?_⟩
      rw [pm_lsm, ← hq.zero i]
      show f i = c * (c * f i)
      rw [← Int.mul_assoc, hc1, Int.one_mul]
    · obtain ⟨p, hp, hpn⟩ := exists_prime n (by omega)
      have hpc : p ∣ c := by
        have := hpn
        rw [← hn] at this
        exact Int.dvd_natAbs.mp this
      obtain ⟨c', rfl⟩ := hpc
      have hp1 := hp.one
      have hall := gauss_step hp.noZ (hg p hp) q fun n => by
        rw [← hq.zero n]
        exact ⟨c' * f n, by rw [← Int.mul_assoc]⟩
      have hc' : c' ≠ 0 := fun z => hc (by rw [z, Int.mul_zero])
      refine ih c'.natAbs ?_ c' f rfl hc' ⟨q.map fun x => x / p, .of_eq fun n => ?_⟩
      · rw [← hn, Int.natAbs_mul]
        have : 2 ≤ p.natAbs := by omega
        have : 0 < c'.natAbs := by omega
        have := Nat.mul_le_mul_right c'.natAbs (by omega : 2 ≤ p.natAbs)
        omega
      · have e : ∀ n, pm (lsm p (q.map fun x => x / p)) g n = pm q g n := fun n => by
          have : lsm p (q.map fun x => x / p) = q := ext_co (by simp [lsm]) fun i => by
            unfold lsm
            rw [co_map (f := fun x => p * x) (by simp), co_map (f := fun x => x / p) (by simp)]
            exact Int.mul_ediv_cancel' (hall i)
          rw [this]
        have h2 := e n
        rw [pm_lsm, ← hq.zero n] at h2
        have h3 : p * pm (q.map fun x => x / p) g n = p * (c' * f n) := by rw [h2, Int.mul_assoc]
        exact (Int.eq_of_mul_eq_mul_left (by omega) h3).symm
theorem gauss' {g f : Nat → Int} (hg : PrimN g) {c : Int} (hc : c ≠ 0) (h : Dv 0 g (fun i => c * f i)) : Dv 0 g f := gauss hg _ c f rfl hc h
/-- one step of the law's own rests -/
noncomputable def prsF (b a : List Int) : List Int := trim (mapE (fun i x => x * last0 b - (if a.length - b.length ≤ i then last0 a * co b (i - (a.length - b.length)) else 0)) 0 a)
theorem co_prsF {a b : List Int} (hl : b.length ≤ a.length) (i : Nat) : co (prsF b a) i = co a i * last0 b - pm (mono (a.length - b.length) (last0 a)) (co b) i := by
  unfold prsF
  rw [co_trim, co_mapE, Nat.zero_add, pm_mono]
  by_cases h : i < a.length
  · rw [if_pos h]
    by_cases h2 : i < a.length - b.length
    · rw [if_pos h2, if_neg (by omega)]
    · rw [if_neg h2, if_pos (by omega)]
  · rw [if_neg h, co_ge (xs := a) (by omega), if_neg (by omega), co_ge (xs := b) (by omega)]; simp
theorem len_prsF {a b : List Int} (hb : b ≠ []) (hl : b.length ≤ a.length) : (prsF b a).length < a.length := by
  have hpos := List.length_pos_iff.mpr hb
  have : (prsF b a).length ≤ a.length - 1 := tr_len (tr_trim _) fun i hi => by
    show co (prsF b a) i = 0
    rw [co_prsF hl, pm_mono, if_neg (by omega)]
    by_cases h1 : i = a.length - 1
    · have e1 : co a i = last0 a := by rw [h1]; rfl
      have e2 : co b (i - (a.length - b.length)) = last0 b := by rw [h1, show a.length - 1 - (a.length - b.length) = b.length - 1 by omega]; rfl
      rw [e1, e2]; omega
    · rw [co_ge (xs := a) (by omega), co_ge (xs := b) (by omega)]; omega
  omega
/-- numbers up to N -/
noncomputable def Upto (N : Nat) (xs : List Int) : Prop := ∀ i, (co xs i).natAbs ≤ N
theorem Upto.mono {M N : Nat} {xs : List Int} (h : Upto M xs) (hm : M ≤ N) : Upto N xs := fun i => Nat.le_trans (h i) hm
theorem upto_prsF {a b : List Int} {M N : Nat} (hl : b.length ≤ a.length) (ha : Upto M a) (hb : Upto N b) : Upto (2 * M * N) (prsF b a) := fun i => by
  rw [co_prsF hl, pm_mono]
  have h1 : (co a i * last0 b).natAbs ≤ M * N := by rw [Int.natAbs_mul]; exact Nat.mul_le_mul (ha i) (hb _)
  have h2 : (if i < a.length - b.length then 0 else last0 a * co b (i - (a.length - b.length))).natAbs ≤ M * N := by
    split
    · simp
    · rw [Int.natAbs_mul]; exact Nat.mul_le_mul (ha _) (hb _)
  have h3 := Int.natAbs_sub_le (co a i * last0 b) (if i < a.length - b.length then 0 else last0 a * co b (i - (a.length - b.length)))
  rw [Nat.mul_assoc]
  omega
theorem upto_primF {xs : List Int} {N : Nat} (h : Upto N xs) (h0 : last0 xs ≠ 0) : Upto N (primF xs) := fun i => by
  have h1 := co_primF (xs := xs) i
  have h2 := unitC_ne h0
  have h3 := h i
  rw [← h1, Int.natAbs_mul] at h3
  have : (co (primF xs) i).natAbs ≤ (unitC xs).natAbs * (co (primF xs) i).natAbs := Nat.le_mul_of_pos_left _ (by omega)
  omega
theorem unitC_le {xs : List Int} {N : Nat} (h : Upto N xs) (h0 : last0 xs ≠ 0) : (unitC xs).natAbs ≤ N := by
  have := cont_le (xs := xs) (i := xs.length - 1) h0
  have := h (xs.length - 1)
  unfold unitC
  split
  · omega
  · rw [Int.natAbs_neg]; omega
/-- what the inner loop keeps: k steps done -/
structure PrsI (a b : List Int) (N : Nat) (k : Nat) (r : List Int) : Prop where
  tr : Tr r
  len : r.length + k ≤ a.length
  up : Upto (18 * (2 * N) ^ k) r
  eq : ∃ c q, c ≠ 0 ∧ ∀ n, c * co a n = pm q (co b) n + co r n
theorem PrsI.init {a b : List Int} {N : Nat} (ht : Tr a) (ha : Upto 18 a) : PrsI a b N 0 a := ⟨ht, by omega, by simpa using ha, 1, [], by decide, fun n => by simp [pm]⟩
theorem PrsI.step {a b : List Int} {N k : Nat} {r : List Int} (h : PrsI a b N k r) (hb : Upto N b) (h0 : last0 b ≠ 0) (hbn : b ≠ []) (hl : b.length ≤ r.length) : PrsI a b N (k + 1) (prsF b r) := by
  have hlt := len_prsF hbn hl
  refine ⟨tr_trim _, by have := h.len; omega, ?_, ?_⟩
  · have := upto_prsF hl h.up hb
    rwa [show 2 * (18 * (2 * N) ^ k) * N = 18 * (2 * N) ^ (k + 1) by rw [Nat.pow_succ]; grind] at this
  · obtain ⟨c, q, hc, he⟩ := h.eq
    refine ⟨c * last0 b, ladd (lsm (last0 b) q) (mono (r.length - b.length) (last0 r)), fun z => ?_, fun n => ?_⟩
    · rcases Int.mul_eq_zero.mp z with z | z
      · exact hc z
      · exact h0 z
    · rw [pm_ladd, pm_lsm, co_prsF hl]
      have := he n
      grind
/-- a common divisor's marks -/
structure GcdOf (a b G : List Int) (U B : Nat) : Prop where
  prim : Prim G
  da : Dv 0 (co G) (co a)
  db : Dv 0 (co G) (co b)
  id : ∃ u : Int, u ≠ 0 ∧ u.natAbs ≤ U ∧ InI 0 (co a) (co b) (fun n => u * co G n)
  up : Upto B G
  len : G.length ≤ 4
structure OutI (a b a' b' : List Int) (ub : Int) : Prop where
  pa : Prim a'
  pb : Prim b'
  la : a'.length ≤ 4
  lb : b'.length ≤ 3
  ua : 2 ≤ b'.length → Upto 18 a'
  nb : 2 ≤ b'.length → Upto 1000000 b'
  nb3 : b'.length = 3 → Upto 18 b'
  u0 : ub ≠ 0
  u1 : ub.natAbs ≤ 10 ^ 30
  u2 : 2 ≤ b'.length → ub.natAbs ≤ 1000000
  u3 : b'.length = 3 → ub = 1
  ia : 2 ≤ b'.length → InI 0 (co a) (co b) (co a')
  ib : InI 0 (co a) (co b) (fun n => ub * co b' n)
  back : 2 ≤ b'.length → ∀ g, PrimN g → Dv 0 g (co a') → Dv 0 g (co b') → Dv 0 g (co a) ∧ Dv 0 g (co b)
theorem dv_eq {c : Int} {g f h r : Nat → Int} {q : List Int} (he : ∀ n, c * f n = pm q h n + r n) (h1 : Dv 0 g h) (h2 : Dv 0 g r) : Dv 0 g (fun n => c * f n) :=
  ((h1.mul q).add h2).cg (.of_eq he)
theorem len1_prim {xs : List Int} (h : Prim xs) (hl : xs.length = 1) : xs = [1] := by
  match xs, hl with
  | [c], _ =>
    have h1 := h.c
    have h2 := h.l
    have h3 : (0 : Int) < c := h2
    have h4 : ((Int.gcd 0 c : Nat) : Int) = 1 := h1
    rw [Int.zero_gcd] at h4
    have : c = 1 := by omega
    rw [this]
theorem OutI.next {a b a' b' r : List Int} {ub : Int} {N k : Nat} (h : OutI a b a' b' ub) (hl : 2 ≤ b'.length) (hN : N = if b'.length = 3 then 18 else 1000000) (hk : k ≤ a'.length - b'.length + 1) (hP : PrsI a' b' N k r) (hr : r ≠ []) (hrl : r.length < b'.length) :
    OutI a b b' (primF r) (ub * unitC r) := by
  have hr0 : last0 r ≠ 0 := tr_last hP.tr hr
  have hu := unitC_ne hr0
  have hla := h.la
  have hlb := h.lb
  have hup : Upto (if b'.length = 3 then 23328 else 10 ^ 24) r := by
    refine hP.up.mono ?_
    have hk3 : k ≤ 3 := by omega
    split
    · rename_i h3
      rw [hN, if_pos h3]
      have hk2 : k ≤ 2 := by omega
      calc 18 * (2 * 18) ^ k ≤ 18 * (2 * 18) ^ 2 := Nat.mul_le_mul_left _ (Nat.pow_le_pow_right (by decide) hk2)
        _ = 23328 := by decide
    · rename_i h3
      rw [hN, if_neg h3]
      calc 18 * (2 * 1000000) ^ k ≤ 18 * (2 * 1000000) ^ 3 := Nat.mul_le_mul_left _ (Nat.pow_le_pow_right (by decide) hk3)
        _ ≤ 10 ^ 24 := by decide
  have hul := unitC_le hup hr0
  have hplen := len_primF r
  have hub2 := h.u2 hl
  refine ⟨h.pb, prim_primF hr0, by omega, by omega, fun h2 => h.nb3 (by omega), fun h2 => ?_, fun h3 => by omega, ?_, ?_, fun h2 => ?_, fun h3 => by omega, fun h2 => ?_, ?_, fun h2 g hg h4 h5 => ?_⟩
  · have h3 : b'.length = 3 := by omega
    rw [if_pos h3] at hup
    exact (upto_primF hup hr0).mono (by decide)
  · intro z
    rcases Int.mul_eq_zero.mp z with z | z
    · exact h.u0 z
    · exact hu z
  · rw [Int.natAbs_mul]
    calc ub.natAbs * (unitC r).natAbs ≤ 1000000 * 10 ^ 24 := Nat.mul_le_mul hub2 (Nat.le_trans hul (by split <;> decide))
      _ = 10 ^ 30 := by decide
  · have h3 : b'.length = 3 := by omega
    rw [if_pos h3] at hul
    rw [h.u3 h3, Int.one_mul]
    omega
  · have h3 : b'.length = 3 := by omega
    have := h.ib
    rw [h.u3 h3] at this
    exact this.cg (.of_eq fun n => by rw [Int.one_mul])
  · obtain ⟨c, q, hc, he⟩ := hP.eq
    refine (((h.ia hl).smul (ub * c)).add ((h.ib.mul q).smul (-1))).cg (.of_eq fun n => ?_)
    rw [Int.mul_assoc, co_primF, pm_smul]
    have := he n
    grind
  · obtain ⟨c, q, hc, he⟩ := hP.eq
    have h6 : Dv 0 g (co r) := (h5.smul (unitC r)).cg (.of_eq fun n => (co_primF n).symm)
    exact h.back hl g hg (gauss' hg hc (dv_eq he h4 h6)) h4
theorem OutI.done {a b a' b' : List Int} {ub : Int} {N k : Nat} (h : OutI a b a' b' ub) (hl : 2 ≤ b'.length) (hP : PrsI a' b' N k []) : GcdOf a b b' (10 ^ 30) 1000000 := by
  obtain ⟨c, q, hc, he⟩ := hP.eq
  have h1 : Dv 0 (co b') (co a') := gauss' h.pb.primN hc (dv_eq he (.refl _ _) ⟨[], .of_eq fun n => rfl⟩)
  obtain ⟨h2, h3⟩ := h.back hl _ h.pb.primN h1 (.refl _ _)
  exact ⟨h.pb, h2, h3, ⟨ub, h.u0, h.u1, h.ib⟩, h.nb hl, by have := h.lb; omega⟩
theorem pm_one_right : ∀ (xs : List Int) (n : Nat), pm xs (co [1]) n = co xs n
  | [], n => rfl
  | a :: r, 0 => by simp [pm, sh, co_zero]
  | a :: r, n + 1 => by
    rw [pm, co_succ]
    simp only [sh]
    rw [pm_one_right r n, co_ge (by simp), co_succ]; simp
theorem OutI.one {a b a' b' : List Int} {ub : Int} (h : OutI a b a' b' ub) (hl : b'.length ≤ 1) : GcdOf a b [1] (10 ^ 30) 1000000 := by
  have hb := List.length_pos_iff.mpr h.pb.ne
  have h1 := len1_prim h.pb (by omega)
  have hib := h.ib
  rw [h1] at hib
  exact ⟨⟨by decide, by decide⟩, ⟨a, .of_eq fun n => (pm_one_right a n).symm⟩, ⟨b, .of_eq fun n => (pm_one_right b n).symm⟩, ⟨ub, h.u0, h.u1, hib⟩,
    fun i => by cases i with | zero => decide | succ i => rw [co_ge (by simp)]; decide, by decide⟩
theorem OutI.init {a b : List Int} (pa : Prim a) (pb : Prim b) (la : a.length ≤ 4) (lb : b.length ≤ 3) (ua : Upto 18 a) (ub : Upto 18 b) : OutI a b a b 1 :=
  ⟨pa, pb, la, lb, fun _ => ua, fun _ => ub.mono (by decide), fun _ => ub, by decide, by decide, fun _ => by decide, fun _ => rfl, fun _ => .left _ _ _, (InI.right _ _ _).cg (.of_eq fun n => by rw [Int.one_mul]), fun _ g hg h1 h2 => ⟨h1, h2⟩⟩
theorem bd_upto {N m : Nat} {xs : List Int} (h : Upto N xs) (hN : N < 2 ^ m) : AllBd m xs := fun i => .of_lt (k := N + 1) (Nat.lt_succ_of_le (h i)) hN
theorem spec_common {C : Cx} {bx : Bx} {b : BS} (K : C.Ok) (xs ys : List Int) (px : Prim xs) (py : Prim ys) (hx : xs.length ≤ 4) (hy : ys.length ≤ 3) (ux : Upto 18 xs) (uy : Upto 18 ys) :
    Spec C bx "_law_common" 2 [.ints xs, .ints ys] b fun r b' => (∃ G, r = .ints G ∧ GcdOf xs ys G (10 ^ 30) 1000000) ∧ b' = b := by
  refine spec_of_body 52 K ["a", "b"] (by decide +kernel) ?_ rfl (by decide) (by decide +kernel) (by decide +kernel) rfl rfl rfl ?_
  · exact fun pm code doc => hb2 fun u0 u1 => rfl
  intro A L a₀ cd O s hcn
  refine ASs_cons ?_
  refine AS_while (α := List Int × List Int × Int) (fun z => ⟨[("a", .av (.ints z.1)), ("b", .av (.ints z.2.1))], b⟩) (fun z => OutI xs ys z.1 z.2.1 z.2.2) (fun z => z.2.1.length) (xs, ys, 1) (.init px py hx hy ux uy) ⟨rfl, rfl, rfl, trivial⟩ ?_
  rintro ⟨a', b', ub⟩ hO
  dsimp only at hO ⊢
  have hbne := hO.pb.ne
  have hb0 : last0 b' ≠ 0 := by have := hO.pb.l; omega
  have hla := hO.la
  have hlb := hO.lb
  walk_at "r"
  · have hl : 2 ≤ b'.length := by omega
    have hNb : Upto (if b'.length = 3 then 18 else 1000000) b' := by
      split
      · exact hO.nb3 ‹_›
      · exact hO.nb hl
    have hNle : (if b'.length = 3 then 18 else 1000000) ≤ 1000000 := by split <;> decide
    generalize hN : (if b'.length = 3 then 18 else 1000000) = N at *
    have bb : AllBd 40 b' := bd_upto (hO.nb hl) (by decide)
    refine AS_while (α := Nat × List Int) (fun z => ⟨[("a", .av (.ints z.2)), ("b", .av (.ints b'))], b⟩) (fun z => PrsI a' b' N z.1 z.2 ∧ z.1 ≤ a'.length - b'.length + 1) (fun z => z.2.length) (0, a') ⟨.init hO.pa.tr (hO.ua hl), by dsimp only; omega⟩ ⟨rfl, rfl, rfl, trivial⟩ ?_
    rintro ⟨k, r⟩ ⟨hP, hk⟩
    dsimp only at hP hk ⊢
    have hPl := hP.len
    walk_at "r"
    · exact List.length_pos_iff.mp (by omega)
    · have hlr : b'.length ≤ r.length := by omega
      have hr0 : r ≠ [] := List.length_pos_iff.mp (by omega)
      have br : AllBd 100 r := bd_upto (N := 18 * (2 * 1000000) ^ 3) (hP.up.mono (Nat.mul_le_mul_left _ (Nat.le_trans (Nat.pow_le_pow_left (by omega) k) (Nat.pow_le_pow_right (by decide) (by omega))))) (by decide)
      refine AE_comp (cl := ?clc1) [("b", .av (.ints b')), ("shift", .av (.int ((r.length : Int) - b'.length))), ("lead", .av (.int (last0 r)))] ?hc1 ?h1c1 ?h2c1 ?h3c1 ?h4c1 ?h5c1 ?h6c1 ?h7c1 ?h8c1
      case h1c1 => rfl
      case h2c1 => rfl
      case h3c1 => rfl
      case h4c1 => rfl
      case h5c1 => walk_at "sub"
      case h6c1 => walk_at "sub"
      case h7c1 => walk_at "cap"
      case h8c1 => (intro _; rfl)
      refine AI_enum ?_
      walk_at "r"
      refine ⟨by rw [enumL_length]; simp only [lid]; omega, fun C' h₀ O₀ s₀ => ?_⟩
      refine CompW_enum (fun i x => x * last0 b' - (if r.length - b'.length ≤ i then last0 r * co b' (i - (r.length - b'.length)) else 0)) (fun i x hi hx' => ?_) ?_
      · have hxi : Bd 100 x := by rw [← hx']; exact br i
        have hlb' : Bd 40 (last0 b') := bb _
        have hlr' : Bd 100 (last0 r) := br _
        walk_at "r"
        all_goals try walk_at "o"
        · exact mulOk hlr' (bb _) (by decide)
        · refine ⟨?_, rfl⟩
          rw [if_pos (by omega), getD_co (j := i - (r.length - b'.length)) (by omega)]
        · refine ⟨?_, rfl⟩
          rw [if_neg (by omega)]
      · walk_at "r"
        refine ex_spec (spec_cut K _) ?_
        rintro _ b₂ ⟨rfl, rfl⟩
        walk_at "r"
        exact WhileK_next (k + 1, prsF b' r) ⟨hP.step hNb hb0 hbne hlr, by dsimp only; omega⟩ (len_prsF hbne hlr) ⟨rfl, rfl, rfl, trivial⟩
    · rename_i he
      have he := of_decide_eq_true he
      subst he
      refine ex_spec (spec_plain K b' (by omega) (by rw [hO.pb.c]; decide) (by rw [hO.pb.c]; exact Bd.mono (m := 1) ⟨by decide⟩ (by decide))) ?_
      rintro _ b₂ ⟨rfl, rfl⟩
      rw [primF_prim hO.pb]
      walk_at "r"
      exact ⟨⟨b', rfl, hO.done hl hP⟩, rfl⟩
    · rename_i he
      have he := of_decide_eq_false he
      have hr0 := tr_last hP.tr he
      have hlt : r.length < b'.length := by omega
      have hup : Upto (18 * (2 * 1000000) ^ 3) r := hP.up.mono (Nat.mul_le_mul_left _ (Nat.le_trans (Nat.pow_le_pow_left (by omega) k) (Nat.pow_le_pow_right (by decide) (by omega))))
      have hcl := cont_le (xs := r) (i := r.length - 1) hr0
      have hcl2 := hup (r.length - 1)
      refine ex_spec (spec_plain K r (by omega) (cont_ne (i := r.length - 1) hr0) (Bd.mono (m := 100) (.of_lt (k := 18 * (2 * 1000000) ^ 3 + 1) (by omega) (by decide)) (by decide))) ?_
      rintro _ b₂ ⟨rfl, rfl⟩
      walk_at "r"
      refine WhileK_next (b', primF r, ub * unitC r) (hO.next hl hN.symm hk hP he hlt) (by dsimp only; rw [len_primF]; exact hlt) ⟨rfl, rfl, rfl, trivial⟩
  · exact ⟨⟨_, rfl, hO.one (by omega)⟩, rfl⟩
theorem pm_all {p : Int} {g : Nat → Int} : ∀ (q : List Int), (∀ j, p ∣ co q j) → ∀ n, p ∣ pm q g n
  | [], _, n => by simp [pm]
  | a :: q, h, n => by
    rw [pm]
    refine Int.dvd_add (Int.dvd_mul_of_dvd_left (h 0)) ?_
    cases n with
    | zero => simp [sh]
    | succ n => exact pm_all q (fun j => h (j + 1)) n
theorem top_pm {p : Int} {g : Nat → Int} {d : Nat} (hg : ∀ i, d < i → p ∣ g i) : ∀ (q : List Int) (J : Nat), (∀ j, J < j → p ∣ co q j) → p ∣ pm q g (J + d) - co q J * g d
  | [], J, _ => by simp [pm, co_nil]
  | a :: q, 0, h => by
    rw [pm, co_zero, Nat.zero_add]
    have h1 : p ∣ sh (pm q g) d := by
      cases d with
      | zero => simp [sh]
      | succ d => exact pm_all q (fun j => by have := h (j + 1) (by omega); rwa [co_succ] at this) d
    rwa [show a * g d + sh (pm q g) d - a * g d = sh (pm q g) d by omega]
  | a :: q, J + 1, h => by
    have ih := top_pm hg q J fun j hj => by have := h (j + 1) (by omega); rwa [co_succ] at this
    rw [pm, co_succ, show J + 1 + d = J + d + 1 by omega]
    have h1 : p ∣ a * g (J + d + 1) := Int.dvd_mul_of_dvd_right (hg _ (by omega))
    have := Int.dvd_add h1 ih
    rwa [show a * g (J + d + 1) + (pm q g (J + d) - co q J * g d) = a * g (J + d + 1) + sh (pm q g) (J + d + 1) - co q J * g d by simp only [sh]; omega] at this
/-- the degree's end of a list -/
theorem co_deg {xs : List Int} {i : Nat} (h : xs.length - 1 < i) : co xs i = 0 := co_ge (by omega)
theorem last_co (xs : List Int) : co xs (xs.length - 1) = last0 xs := rfl
/-- a divisor's degree -/
theorem dv_len {p : Int} (hp : NoZ p) {g f : List Int} (hg : ¬ p ∣ last0 g) (hf : ¬ p ∣ last0 f) (h : Dv p (co g) (co f)) : g.length ≤ f.length := by
  refine Nat.le_of_not_lt fun hlt => ?_
  obtain ⟨q, hq⟩ := h
  have hall : ∀ j, p ∣ co q j := fun j => deg_pm hp (g := co g) (d := g.length - 1) (by rw [last_co]; exact hg) (fun i hi => by rw [co_deg hi]; exact Int.dvd_zero _) q f.length (fun i hi => by
    have := hq i
    rw [co_ge hi] at this
    have := Int.dvd_neg.mpr this
    rwa [show -(0 - pm q (co g) i) = pm q (co g) i by omega] at this) j (by omega)
  apply hf
  have h1 := hq (f.length - 1)
  have h2 := pm_all (g := co g) q hall (f.length - 1)
  have := Int.dvd_add h1 h2
  rwa [show co f (f.length - 1) - pm q (co g) (f.length - 1) + pm q (co g) (f.length - 1) = co f (f.length - 1) by omega] at this
/-- a divisor of the same degree -/
theorem dv_same {p : Int} (hp : NoZ p) {g f : List Int} (hg : ¬ p ∣ last0 g) (hl : f.length ≤ g.length) (h : Dv p (co g) (co f)) : ∃ w, Cg p (co f) (fun n => w * co g n) := by
  obtain ⟨q, hq⟩ := h
  have hg0 : g ≠ [] := fun z => by rw [z] at hg; exact hg (Int.dvd_zero _)
  have hpos := List.length_pos_iff.mpr hg0
  have hall : ∀ j, 0 < j → p ∣ co q j := fun j hj => deg_pm hp (g := co g) (d := g.length - 1) (by rw [last_co]; exact hg) (fun i hi => by rw [co_deg hi]; exact Int.dvd_zero _) q f.length (fun i hi => by
    have := hq i
    rw [co_ge hi] at this
    have := Int.dvd_neg.mpr this
    rwa [show -(0 - pm q (co g) i) = pm q (co g) i by omega] at this) j (by omega)
  refine ⟨co q 0, hq.trans fun n => ?_⟩
  cases q with
  | nil => simp [pm, co_nil]
  | cons a q =>
    rw [pm, co_zero]
    have h1 : p ∣ sh (pm q (co g)) n := by
      cases n with
      | zero => simp [sh]
      | succ n => exact pm_all q (fun j => by have := hall (j + 1) (by omega); rwa [co_succ] at this) n
    show p ∣ a * co g n + sh (pm q (co g)) n - a * co g n
    rwa [show a * co g n + sh (pm q (co g)) n - a * co g n = sh (pm q (co g)) n by omega]
/-- the lead of a divisor divides the lead -/
theorem dv_lead {g f : List Int} (hg : last0 g ≠ 0) (h : Dv 0 (co g) (co f)) (hl : g.length ≤ f.length) : last0 g ∣ last0 f := by
  obtain ⟨q, hq⟩ := h
  have hg0 : g ≠ [] := fun z => by rw [z] at hg; exact hg rfl
  have hpos := List.length_pos_iff.mpr hg0
  have hgz : ∀ i, g.length - 1 < i → (0 : Int) ∣ co g i := fun i hi => by rw [co_deg hi]; exact Int.dvd_zero _
  have hall : ∀ j, f.length - g.length < j → (0 : Int) ∣ co q j := fun j hj => deg_pm NoZ.zero (g := co g) (d := g.length - 1) (by rw [last_co]; exact fun z => hg (Int.zero_dvd.mp z)) hgz q f.length (fun i hi => by
    rw [← hq.zero i, co_ge hi]; exact Int.dvd_zero _) j (by omega)
  have h1 := top_pm hgz q (f.length - g.length) hall
  rw [show f.length - g.length + (g.length - 1) = f.length - 1 by omega, ← hq.zero, last_co, last_co] at h1
  have h2 := Int.zero_dvd.mp h1
  exact ⟨co q (f.length - g.length), by rw [Int.mul_comm]; omega⟩
theorem prim_eq {x y : List Int} (hx : Prim x) (hy : Prim y) (hl : y.length ≤ x.length) (h : Dv 0 (co x) (co y)) : x = y := by
  have hx0 : ¬ (0 : Int) ∣ last0 x := fun z => by have := Int.zero_dvd.mp z; have := hx.l; omega
  obtain ⟨w, hw⟩ := dv_same NoZ.zero hx0 hl h
  have he : ∀ n, co y n = w * co x n := hw.zero
  have h1 : w ∣ cont y := dvd_cont fun z hz => by
    obtain ⟨i, _, rfl⟩ := co_of_mem hz
    exact ⟨co x i, he i⟩
  rw [hy.c] at h1
  have hly := hy.l
  have hlx := hx.l
  have hlen : x.length = y.length := by
    refine Nat.le_antisymm (dv_len NoZ.zero hx0 (fun z => by have := Int.zero_dvd.mp z; omega) h) hl
  have h2 : last0 y = w * last0 x := by
    have := he (y.length - 1)
    rw [last_co, ← hlen, last_co] at this
    exact this
  have h3 : 0 < w := by
    rcases Int.lt_trichotomy w 0 with h | h | h
    · have := Int.mul_neg_of_neg_of_pos h hlx; omega
    · rw [h, Int.zero_mul] at h2; omega
    · exact h
  have h4 := Int.le_of_dvd (by decide) h1
  have h5 : w = 1 := by omega
  exact ext_co hlen fun i => by rw [he i, h5, Int.one_mul]

/-! The long division tells divisibility. -/
theorem dv_step {b a : List Int} (hl : b.length ≤ a.length) : ∀ n, co a n = pm (mono (a.length - b.length) ((last0 a).fdiv (last0 b))) (co b) n + co (stepF b a) n := fun n => by
  rw [pm_mono, co_stepF]
  split
  · omega
  · rw [Int.mul_comm]; omega
theorem dvdF_sound {b : List Int} : ∀ (n : Nat) (a : List Int), dvdF n b a = true → Dv 0 (co b) (co a)
  | 0, a, h => by
    have : a = [] := of_decide_eq_true h
    rw [this]
    exact ⟨[], .of_eq fun n => rfl⟩
  | n + 1, a, h => by
    rw [dvdF] at h
    split at h
    · rename_i hl
      split at h
      · have ih := dvdF_sound n _ h
        exact (((Dv.refl 0 (co b)).mul _).add ih).cg (.of_eq (dv_step hl))
      · cases h
    · have : a = [] := of_decide_eq_true h
      rw [this]
      exact ⟨[], .of_eq fun n => rfl⟩
theorem dvdF_complete {b : List Int} (hb : last0 b ≠ 0) : ∀ (n : Nat) (a : List Int), a.length ≤ n → Tr a → Dv 0 (co b) (co a) → dvdF n b a = true
  | 0, a, hn, _, _ => by
    have : a = [] := List.length_eq_zero_iff.mp (by omega)
    rw [dvdF, this]; rfl
  | n + 1, a, hn, ht, h => by
    have hb0 : b ≠ [] := fun z => by rw [z] at hb; exact hb rfl
    have hbz : ¬ (0 : Int) ∣ last0 b := fun z => hb (Int.zero_dvd.mp z)
    rw [dvdF]
    split
    · rename_i hl
      have h1 : (last0 a).fmod (last0 b) = 0 := Int.fmod_eq_zero_of_dvd (dv_lead hb h hl)
      rw [if_pos h1]
      refine dvdF_complete hb n _ (by have := len_stepF hb0 hl h1; omega) (tr_addF _ _) ?_
      refine (h.add (((Dv.refl 0 (co b)).mul (mono (a.length - b.length) ((last0 a).fdiv (last0 b)))).smul (-1))).cg (.of_eq fun n => ?_)
      have := dv_step hl n
      omega
    · rename_i hl
      refine decide_eq_true (Classical.byContradiction fun ha => hl ?_)
      exact dv_len NoZ.zero hbz (fun z => tr_last ht ha (Int.zero_dvd.mp z)) h
theorem dvdB_sound {b a : List Int} (h : dvdB b a = true) : Dv 0 (co b) (co a) := dvdF_sound _ _ h
theorem dvdB_complete {b a : List Int} (hb : last0 b ≠ 0) (ht : Tr a) (h : Dv 0 (co b) (co a)) : dvdB b a = true := dvdF_complete hb _ _ (Nat.le_refl _) ht h
noncomputable def primesL : List Nat := [2, 3, 5, 7, 11, 13, 17, 19, 23, 29, 31, 37, 41, 43, 47, 53, 59, 61, 67, 71, 73, 79, 83, 89, 97, 101, 103, 107, 109, 113, 127, 131, 137, 139, 149, 151, 157, 163, 167, 173, 179, 181, 191, 193, 197, 199]
noncomputable def pri (i : Nat) : Nat := primesL.getD i 0
noncomputable def prI (f i : Nat) : Nat := ((primesL.take i).drop f).foldl (· * ·) 1
theorem tab_next : ∀ i, i < 45 → nextP (pri i) = pri (i + 1) ∧ pri i < 300 ∧ 1 < pri i := by
  have h : ((List.range 45).all fun i => decide (nextP (pri i) = pri (i + 1)) && (decide (pri i < 300) && decide (1 < pri i))) = true := by decide +kernel
  intro i hi
  have := List.all_eq_true.mp h i (List.mem_range.mpr hi)
  simpa using this
theorem tab_cop : ∀ i, i < 45 → ∀ x, 0 < x → x < pri i → Nat.gcd x (pri i) = 1 := by
  have h : ((List.range 45).all fun i => (List.range (pri i)).all fun x => x == 0 || Nat.gcd x (pri i) == 1) = true := by decide +kernel
  intro i hi x h0 hx
  have := List.all_eq_true.mp (List.all_eq_true.mp h i (List.mem_range.mpr hi)) x (List.mem_range.mpr hx)
  simp at this
  rcases this with h | h
  · omega
  · exact h
theorem tab_pr : ∀ f i, f < 6 → i < 45 → f ≤ i → prI f (i + 1) = prI f i * pri i ∧ Nat.gcd (prI f i) (pri i) = 1 := by
  have h : ((List.range 6).all fun f => (List.range 45).all fun i => !decide (f ≤ i) || (prI f (i + 1) == prI f i * pri i && Nat.gcd (prI f i) (pri i) == 1)) = true := by decide +kernel
  intro f i hf hi hfi
  have := List.all_eq_true.mp (List.all_eq_true.mp h f (List.mem_range.mpr hf)) i (List.mem_range.mpr hi)
  simp at this
  rcases this with h | h
  · omega
  · exact h
theorem tab_big : ∀ f, f < 6 → ¬ prI f 45 ≤ 10 ^ 60 := by decide +kernel
theorem tab_self : ∀ f, f < 6 → prI f f = 1 := by decide +kernel
theorem pri_prime {i : Nat} (hi : i < 45) : PrimeL (pri i) := by
  have h := (tab_next i hi).2.2
  refine ⟨by omega, fun x h0 hx => ?_⟩
  have := tab_cop i hi x.toNat (by omega) (by omega)
  rw [Int.gcd_eq_natAbs_gcd_natAbs]
  rw [show x.natAbs = x.toNat by omega]
  simpa using this

/-- what primitive_gcd is asked about -/
structure Ask (a b G : List Int) (front u : Int) : Prop where
  pa : Prim a
  pb : Prim b
  pG : Prim G
  da : Dv 0 (co G) (co a)
  db : Dv 0 (co G) (co b)
  u0 : u ≠ 0
  u1 : u.natAbs ≤ 10 ^ 30
  id : InI 0 (co a) (co b) (fun n => u * co G n)
  up : Upto 1000000 G
  fr : front = Int.gcd (last0 a) (last0 b)
  f1 : front ≤ 18
noncomputable def hI (G : List Int) (front : Int) (i : Nat) : Int := front / last0 G * co G i
theorem Ask.fpos {a b G : List Int} {front u : Int} (h : Ask a b G front u) : 0 < front := by
  rw [h.fr]
  have := h.pa.l
  have := Int.gcd_pos_of_ne_zero_left (a := last0 a) (last0 b) (by omega)
  omega
theorem Ask.lead {a b G : List Int} {front u : Int} (h : Ask a b G front u) : last0 G ∣ front := by
  have hg := h.pG.l
  have hz : ¬ (0 : Int) ∣ last0 G := fun z => by have := Int.zero_dvd.mp z; omega
  have h1 : G.length ≤ a.length := dv_len NoZ.zero hz (fun z => by have := Int.zero_dvd.mp z; have := h.pa.l; omega) h.da
  have h2 : G.length ≤ b.length := dv_len NoZ.zero hz (fun z => by have := Int.zero_dvd.mp z; have := h.pb.l; omega) h.db
  rw [h.fr]
  exact Int.dvd_coe_gcd (dv_lead (by omega) h.da h1) (dv_lead (by omega) h.db h2)
theorem cg_modF (p : Int) (a : List Int) : Cg p (co (modF a p)) (co a) := fun n => by
  rw [co_modF, Int.emod_def]
  exact ⟨-(co a n / p), by grind⟩
theorem Dv.to {p : Int} {f g g' : Nat → Int} (h : Dv p g f) (e : Cg p f g') : Dv p g g' := h.cg e.symm
theorem InI.base {p : Int} {a b a' b' f : Nat → Int} (h : InI p a b f) (ea : Cg p a a') (eb : Cg p b b') : InI p a' b' f := by
  obtain ⟨s, t, h⟩ := h
  exact ⟨s, t, h.trans ((ea.pm s).add (eb.pm t))⟩
theorem not_dvd_of {p x y : Int} (h : p ∣ x - y) (hy : ¬ p ∣ y) : ¬ p ∣ x := fun hx => hy (by
  have := Int.dvd_sub hx h
  rwa [show x - (x - y) = y by omega] at this)
structure ImF (G : List Int) (front u p : Int) (f : List Int) : Prop where
  ne : f ≠ []
  red : Red p f
  nl : ¬ p ∣ last0 f
  ge : G.length ≤ f.length
  le : f.length ≤ 1000
  good : f.length = G.length → ∀ i, p ∣ co f i - hI G front i
  un : ¬ p ∣ u → f.length = G.length
theorem Ask.img {a b G : List Int} {front u p : Int} (h : Ask a b G front u) (hp : PrimeL p) (hpf : ¬ p ∣ front) {f : List Int} (hf : ImgI p front a b f) : ImF G front u p f := by
  obtain ⟨m, hm, rfl⟩ := hf.ex
  have p1 := hp.one
  have hN := hp.noZ
  have e1 := cg_modF p a
  have e2 := cg_modF p b
  have hGl := h.pG.l
  -- not both are 0
  have hne : modF a p ≠ [] ∨ modF b p ≠ [] := Classical.byContradiction fun hn => hpf (by
    have ha : modF a p = [] := Classical.byContradiction fun z => hn (.inl z)
    have hb : modF b p = [] := Classical.byContradiction fun z => hn (.inr z)
    have h1 := e1 (a.length - 1)
    rw [ha, last_co, co_nil] at h1
    have h2 := e2 (b.length - 1)
    rw [hb, last_co, co_nil] at h2
    rw [h.fr]
    refine Int.dvd_coe_gcd ?_ ?_
    · have := Int.dvd_neg.mpr h1
      rwa [show -(0 - last0 a) = last0 a by omega] at this
    · have := Int.dvd_neg.mpr h2
      rwa [show -(0 - last0 b) = last0 b by omega] at this)
  obtain ⟨mne, mone⟩ := hm.ne hne
  have mpos := List.length_pos_iff.mpr mne
  have hm1 : ¬ p ∣ last0 m := by
    rw [mone]
    intro z
    have := Int.le_of_dvd (by decide) z
    omega
  have da : Dv p (co m) (co a) := hm.da.to e1
  have db : Dv p (co m) (co b) := hm.db.to e2
  have id : InI p (co a) (co b) (co m) := hm.id.base e1 e2
  have dG : Dv p (co G) (co m) := id.dv (.of_zero h.da) (.of_zero h.db)
  have hlG : ¬ p ∣ last0 G := fun z => hpf (Int.dvd_trans z h.lead)
  have hge : G.length ≤ m.length := dv_len hN hlG hm1 dG
  -- f
  have hfr0 : front % p ≠ 0 := fun z => hpf (Int.dvd_of_emod_eq_zero z)
  have hfr1 := Int.emod_nonneg front (by omega : p ≠ 0)
  have hfr2 := Int.emod_lt_of_pos front (by omega : 0 < p)
  have hc : ∀ i, co (m.map fun x => x * (front % p) % p) i = co m i * (front % p) % p := fun i => co_map (f := fun x => x * (front % p) % p) (by simp) _ _
  have htop : co (m.map fun x => x * (front % p) % p) (m.length - 1) = front % p := by
    rw [hc, last_co, mone, Int.one_mul, Int.emod_eq_of_lt hfr1 hfr2]
  have ht : trim (m.map fun x => x * (front % p) % p) = m.map fun x => x * (front % p) % p := trim_of_tr fun n hn => by
    rw [List.length_map] at hn
    rw [show n = m.length - 1 by omega, htop]; exact hfr0
  rw [ht]
  have hlen : (m.map fun x => x * (front % p) % p).length = m.length := by simp
  have hcf : ∀ i, p ∣ co (m.map fun x => x * (front % p) % p) i - front * co m i := fun i => by
    rw [hc, Int.emod_def, Int.emod_def]
    exact ⟨-(co m i * (front / p)) - (co m i * (front - p * (front / p)) / p), by grind⟩
  refine ⟨fun z => mne (by simpa using z), .of_co fun i => ?_, ?_, by rw [hlen]; exact hge, by rw [hlen]; exact hm.len, fun hl i => ?_, fun hu => ?_⟩
  · rw [hc]; exact ⟨Int.emod_nonneg _ (by omega), Int.emod_lt_of_pos _ (by omega)⟩
  · have : last0 (m.map fun x => x * (front % p) % p) = front % p := by
      have h9 := htop
      unfold last0
      rw [hlen]
      exact h9
    rw [this]
    intro z
    have := Int.le_of_dvd (by omega) z
    omega
  · rw [hlen] at hl
    obtain ⟨w, hw⟩ := dv_same hN hlG (by omega) dG
    have h1 := hw (m.length - 1)
    dsimp only at h1
    rw [last_co, mone, hl, last_co] at h1
    obtain ⟨e, he⟩ := h.lead
    have he' : front / last0 G = e := by rw [he]; exact Int.mul_ediv_cancel_left _ (by omega)
    unfold hI
    rw [he']
    obtain ⟨c1, hc1⟩ := hcf i
    obtain ⟨c2, hc2⟩ := hw i
    dsimp only at hc2
    obtain ⟨c3, hc3⟩ := h1
    refine ⟨c1 + front * c2 - e * co G i * c3, ?_⟩
    have h2 : co (m.map fun x => x * (front % p) % p) i = p * c1 + front * co m i := by omega
    have h3 : co m i = p * c2 + w * co G i := by omega
    have h4 : w * last0 G = 1 - p * c3 := by omega
    rw [h2, h3, he]
    have h5 : last0 G * e * (w * co G i) = e * co G i * (w * last0 G) := by grind
    have h6 : last0 G * e * (p * c2 + w * co G i) = last0 G * e * (p * c2) + e * co G i * (w * last0 G) := by rw [← h5]; grind
    rw [h6, h4]
    grind
  · rw [hlen]
    refine Nat.le_antisymm ?_ hge
    have duG : Dv p (co m) (co (lsm u G)) := (h.id.of_zero.dv da db).cg (.of_eq fun n => by
      unfold lsm
      rw [co_map (f := fun x => u * x) (by simp)])
    have hl2 : (lsm u G).length = G.length := by simp [lsm]
    have := dv_len hN hm1 (f := lsm u G) (by
      have : last0 (lsm u G) = u * last0 G := by
        rw [← last_co, hl2]
        unfold lsm
        rw [co_map (f := fun x => u * x) (by simp), last_co]
      rw [this]
      intro z
      rcases hN _ _ z with z | z
      · exact hu z
      · exact hlG z) duG
    omega

/-! The loop's state: the primes tried are the numbers f0 to i of the table. -/
structure PgI (a b G : List Int) (front u : Int) (f0 i : Nat) (known : List Int) (m D M : Int) : Prop where
  i0 : f0 ≤ i
  m0 : 0 < m
  D0 : 0 < D
  M0 : 0 < M
  dD : D ∣ front * u
  pr : D * M = prI f0 i
  md : m ∣ D * M
  red : Red m known
  kl : known.length ≤ 1000
  lp : known ≠ [] → ∃ p, 1 < p ∧ p ∣ m ∧ ¬ p ∣ last0 known
  kg : known ≠ [] → G.length ≤ known.length
  good : known.length = G.length → m = M ∧ ∀ j, m ∣ co known j - hI G front j
  bad : known.length ≠ G.length → M = 1
  k1 : known = [] → m = 1
theorem gcd_of_dvd {x y p : Int} (h : x ∣ y) (hg : Int.gcd y p = 1) : Int.gcd x p = 1 := by
  have := Int.gcd_dvd_gcd_of_dvd_left p h
  rw [hg] at this
  exact Nat.dvd_one.mp this
theorem Prim.pos {G : List Int} (h : Prim G) : 0 < G.length := List.length_pos_iff.mpr h.ne
theorem PgI.init {a b G : List Int} {front u : Int} {f0 : Nat} (h : Ask a b G front u) (hf : f0 < 6) : PgI a b G front u f0 f0 [] 1 1 1 := by
  have := h.pG.pos
  refine ⟨Nat.le_refl _, by decide, by decide, by decide, Int.one_dvd _, ?_, Int.one_dvd _, (fun x h => by cases h), by decide, fun h => absurd rfl h, fun h => absurd rfl h, fun h => ?_, fun _ => rfl, fun _ => rfl⟩
  · rw [tab_self f0 hf]; rfl
  · simp at h; omega
theorem PgI.cop {a b G : List Int} {front u : Int} {f0 i : Nat} {known : List Int} {m D M : Int} (h : PgI a b G front u f0 i known m D M) (hf : f0 < 6) (hi : i < 45) : Int.gcd (D * M) (pri i) = 1 := by
  rw [h.pr]
  have := (tab_pr f0 i hf hi h.i0).2
  rw [Int.gcd_natCast_natCast]
  exact this
theorem PgI.next_pr {a b G : List Int} {front u : Int} {f0 i : Nat} {known : List Int} {m D M : Int} (h : PgI a b G front u f0 i known m D M) (hf : f0 < 6) (hi : i < 45) : D * M * pri i = prI f0 (i + 1) := by
  rw [h.pr, (tab_pr f0 i hf hi h.i0).1]
  push_cast
  rfl
/-- a prime that divides what D must divide -/
theorem PgI.dmul {a b G : List Int} {front u : Int} {f0 i : Nat} {known : List Int} {m D M : Int} (h : PgI a b G front u f0 i known m D M) (hf : f0 < 6) (hi : i < 45) (hd : (pri i : Int) ∣ front * u) : D * pri i ∣ front * u := by
  have hg : Int.gcd D (pri i) = 1 := gcd_of_dvd ⟨M, rfl⟩ (h.cop hf hi)
  have p0 : 0 < (pri i : Int) := by have := (tab_next i hi).2.2; omega
  obtain ⟨c, hc⟩ := h.dD
  rw [hc] at hd ⊢
  exact Int.mul_dvd_mul (Int.dvd_refl D) (dvd_cop h.D0 p0 hg hd)
theorem PgI.skip {a b G : List Int} {front u : Int} {f0 i : Nat} {known : List Int} {m D M : Int} (h : PgI a b G front u f0 i known m D M) (hf : f0 < 6) (hi : i < 45) (hd : (pri i : Int) ∣ front) : PgI a b G front u f0 (i + 1) known m (D * pri i) M := by
  have p0 : 0 < (pri i : Int) := by have := (tab_next i hi).2.2; omega
  refine ⟨by have := h.i0; omega, h.m0, Int.mul_pos h.D0 p0, h.M0, h.dmul hf hi (Int.dvd_mul_of_dvd_left hd), ?_, ?_, h.red, h.kl, h.lp, h.kg, h.good, h.bad, h.k1⟩
  · rw [← h.next_pr hf hi]; grind
  · obtain ⟨c, hc⟩ := h.md
    exact ⟨c * pri i, by rw [show D * pri i * M = D * M * pri i by grind, hc]; grind⟩
/-- the state behind an image, before the trial -/
theorem PgI.bad_known {a b G : List Int} {front u : Int} {f0 i : Nat} {known f : List Int} {m D M : Int} (h : PgI a b G front u f0 i known m D M) (hG : 0 < G.length) (hc : known = [] ∨ f.length < known.length) (hfG : G.length ≤ f.length) : M = 1 := by
  refine h.bad ?_
  rcases hc with rfl | hc
  · simp; omega
  · omega
theorem PgI.fresh {a b G : List Int} {front u : Int} {f0 i : Nat} {known f : List Int} {m D M : Int} (hA : Ask a b G front u) (h : PgI a b G front u f0 i known m D M) (hf : f0 < 6) (hi : i < 45) (hF : ImF G front u (pri i) f) (hc : known = [] ∨ f.length < known.length) :
    ∃ D' M', PgI a b G front u f0 (i + 1) f (pri i) D' M' := by
  have p1 := (tab_next i hi).2.2
  have p0 : 0 < (pri i : Int) := by omega
  have hM := h.bad_known hA.pG.pos hc hF.ge
  have hpr := h.next_pr hf hi
  have hi0 := h.i0
  by_cases hl : f.length = G.length
  · refine ⟨D, M * pri i, by omega, p0, h.D0, Int.mul_pos h.M0 p0, h.dD, by rw [← hpr, Int.mul_assoc], ⟨D * M, by grind⟩, hF.red, hF.le, fun _ => ⟨pri i, by omega, Int.dvd_refl _, hF.nl⟩, fun _ => hF.ge, fun _ => ⟨by rw [hM, Int.one_mul], hF.good hl⟩, fun z => absurd hl z, fun z => absurd z hF.ne⟩
  · have hu : (pri i : Int) ∣ u := Classical.byContradiction fun z => hl (hF.un z)
    refine ⟨D * pri i, M, by omega, p0, Int.mul_pos h.D0 p0, h.M0, h.dmul hf hi (Int.dvd_mul_of_dvd_right hu), by rw [← hpr]; grind, ⟨D * M, by grind⟩, hF.red, hF.le, fun _ => ⟨pri i, by omega, Int.dvd_refl _, hF.nl⟩, fun _ => hF.ge, fun z => absurd z hl, fun _ => hM, fun z => absurd z hF.ne⟩
theorem PgI.join {a b G : List Int} {front u : Int} {f0 i : Nat} {known f w : List Int} {m D M : Int} (hA : Ask a b G front u) (h : PgI a b G front u f0 i known m D M) (hf : f0 < 6) (hi : i < 45) (hF : ImF G front u (pri i) f) (hk : known ≠ []) (hc : f.length = known.length) (hw : JoinI m (pri i) known f known.length w) :
    ∃ D' M', PgI a b G front u f0 (i + 1) w (m * pri i) D' M' := by
  have p1 := (tab_next i hi).2.2
  have p0 : 0 < (pri i : Int) := by omega
  have hpr := h.next_pr hf hi
  have hi0 := h.i0
  have hmp := Int.mul_pos h.m0 p0
  have kpos := List.length_pos_iff.mpr hk
  have hwl := hw.len
  have hwne : w ≠ [] := fun z => by rw [z] at hwl; simp at hwl; omega
  have hmg : Int.gcd m (pri i) = 1 := gcd_of_dvd h.md (h.cop hf hi)
  have hmd : m * pri i ∣ D * M * pri i := Int.mul_dvd_mul h.md (Int.dvd_refl _)
  have hred : Red (m * pri i) w := .of_co fun j => by
    rcases Nat.lt_or_ge j known.length with hj | hj
    · have := hw.at' j hj; exact ⟨this.1, this.2.1⟩
    · rw [co_ge (by omega)]; omega
  have hlp : ∃ p, 1 < p ∧ p ∣ m * pri i ∧ ¬ p ∣ last0 w := by
    obtain ⟨p, h1, h2, h3⟩ := h.lp hk
    refine ⟨p, h1, Int.dvd_mul_of_dvd_left h2, ?_⟩
    have h4 := (hw.at' (known.length - 1) (by omega)).2.2.1
    rw [last_co] at h4
    have h5 : last0 w = co w (known.length - 1) := by rw [← hwl]; rfl
    rw [h5]
    exact not_dvd_of (Int.dvd_trans h2 h4) h3
  by_cases hl : f.length = G.length
  · refine ⟨D, M * pri i, by omega, hmp, h.D0, Int.mul_pos h.M0 p0, h.dD, by rw [← hpr, Int.mul_assoc], by rw [← Int.mul_assoc]; exact hmd, hred, by rw [hwl]; exact h.kl, fun _ => hlp, fun _ => by rw [hwl]; exact h.kg hk, fun _ => ?_, fun z => absurd (by omega) z, fun z => absurd z hwne⟩
    obtain ⟨g1, g2⟩ := h.good (by omega)
    refine ⟨by rw [g1], fun j => ?_⟩
    rcases Nat.lt_or_ge j known.length with hj | hj
    · obtain ⟨k1, k2, k3, k4⟩ := hw.at' j hj
      have d1 : m ∣ co w j - hI G front j := by
        have := Int.dvd_add k3 (g2 j)
        rwa [show co w j - co known j + (co known j - hI G front j) = co w j - hI G front j by omega] at this
      have d2 : (pri i : Int) ∣ co w j - hI G front j := by
        have := Int.dvd_add k4 (hF.good hl j)
        rwa [show co w j - co f j + (co f j - hI G front j) = co w j - hI G front j by omega] at this
      obtain ⟨c, hc'⟩ := d1
      rw [hc'] at d2 ⊢
      exact Int.mul_dvd_mul (Int.dvd_refl m) (dvd_cop h.m0 p0 hmg d2)
    · unfold hI
      rw [co_ge (by omega), co_ge (xs := G) (by omega), Int.mul_zero]
      exact Int.dvd_zero _
  · have hu : (pri i : Int) ∣ u := Classical.byContradiction fun z => hl (hF.un z)
    refine ⟨D * pri i, M, by omega, hmp, Int.mul_pos h.D0 p0, h.M0, h.dmul hf hi (Int.dvd_mul_of_dvd_right hu), by rw [← hpr]; grind, by rw [show D * pri i * M = D * M * pri i by grind]; exact hmd, hred, by rw [hwl]; exact h.kl, fun _ => hlp, fun _ => by rw [hwl]; exact h.kg hk, fun z => absurd z (by omega), fun _ => h.bad (by omega), fun z => absurd z hwne⟩
theorem PgI.keep {a b G : List Int} {front u : Int} {f0 i : Nat} {known f : List Int} {m D M : Int} (hA : Ask a b G front u) (h : PgI a b G front u f0 i known m D M) (hf : f0 < 6) (hi : i < 45) (hF : ImF G front u (pri i) f) (hk : known ≠ []) (hc : known.length < f.length) :
    ∃ D' M', PgI a b G front u f0 (i + 1) known m D' M' := by
  have p1 := (tab_next i hi).2.2
  have p0 : 0 < (pri i : Int) := by omega
  have hpr := h.next_pr hf hi
  have hi0 := h.i0
  have hkg := h.kg hk
  have hl : f.length ≠ G.length := by omega
  have hu : (pri i : Int) ∣ u := Classical.byContradiction fun z => hl (hF.un z)
  refine ⟨D * pri i, M, by omega, h.m0, Int.mul_pos h.D0 p0, h.M0, h.dmul hf hi (Int.dvd_mul_of_dvd_right hu), by rw [← hpr]; grind, ?_, h.red, h.kl, h.lp, h.kg, h.good, h.bad, h.k1⟩
  obtain ⟨c, hc⟩ := h.md
  exact ⟨c * pri i, by rw [show D * pri i * M = D * M * pri i by grind, hc]; grind⟩
/-! The trial. -/
theorem symI_dvd (x : Int) {m : Int} : m ∣ symI x m - x := by
  unfold symI
  rw [Int.emod_def]
  split
  · exact ⟨-(x / m) - 1, by grind⟩
  · exact ⟨-(x / m), by grind⟩
theorem symI_abs (x : Int) {m : Int} (hm : 0 < m) : (symI x m).natAbs ≤ m.natAbs := by
  have := (symI_near (n := x) hm).2
  omega
theorem co_map_sym (xs : List Int) {m : Int} (hm : 0 < m) (i : Nat) : co (xs.map fun x => symI x m) i = symI (co xs i) m := co_map (f := fun x => symI x m) (by unfold symI; simp; omega) xs i
structure TryI (known : List Int) (m : Int) (S : List Int) : Prop where
  eq : symF known m = S
  len : S.length = known.length
  at' : ∀ i, co S i = symI (co known i) m
  l0 : last0 S ≠ 0
theorem PgI.try {a b G : List Int} {front u : Int} {f0 i : Nat} {known : List Int} {m D M : Int} (h : PgI a b G front u f0 i known m D M) (hk : known ≠ []) : TryI known m (symF known m) := by
  obtain ⟨p, h1, h2, h3⟩ := h.lp hk
  have kpos := List.length_pos_iff.mpr hk
  have htop : co (known.map fun x => symI x m) (known.length - 1) ≠ 0 := fun z => by
    rw [co_map_sym _ h.m0, last_co] at z
    have := symI_dvd (last0 known) (m := m)
    rw [z] at this
    have := Int.dvd_neg.mpr (Int.dvd_trans h2 this)
    rw [show -(0 - last0 known) = last0 known by omega] at this
    exact h3 this
  have ht : trim (known.map fun x => symI x m) = known.map fun x => symI x m := trim_of_tr fun n hn => by
    rw [List.length_map] at hn
    rw [show n = known.length - 1 by omega]; exact htop
  have e : symF known m = known.map fun x => symI x m := ht
  refine ⟨rfl, by rw [e]; simp, fun i => by rw [e]; exact co_map_sym _ h.m0 i, ?_⟩
  rw [e]
  have h9 := htop
  unfold last0
  rw [List.length_map]
  exact h9
theorem PgI.ret {a b G : List Int} {front u : Int} {f0 i : Nat} {known : List Int} {m D M : Int} (hA : Ask a b G front u) (h : PgI a b G front u f0 i known m D M) (hk : known ≠ []) (h1 : dvdB (primF (symF known m)) a = true) (h2 : dvdB (primF (symF known m)) b = true) : primF (symF known m) = G := by
  obtain ⟨e, hl, hat, hl0⟩ := h.try hk
  have hP := prim_primF hl0
  have d1 := dvdB_sound h1
  have d2 := dvdB_sound h2
  have d3 := gauss' hP.primN hA.u0 (hA.id.dv d1 d2)
  exact prim_eq hP hA.pG (by rw [len_primF, hl]; exact h.kg hk) d3
theorem PgI.cont {a b G : List Int} {front u : Int} {f0 i : Nat} {known : List Int} {m D M : Int} (hA : Ask a b G front u) (h : PgI a b G front u f0 i known m D M) (hk : known ≠ []) (hn : ¬ (dvdB (primF (symF known m)) a = true ∧ dvdB (primF (symF known m)) b = true)) : M ≤ 10 ^ 9 := by
  refine Classical.byContradiction fun hM => hn ?_
  have hlen : known.length = G.length := Classical.byContradiction fun z => by
    have := h.bad z
    rw [this] at hM
    exact hM (by decide)
  obtain ⟨g1, g2⟩ := h.good hlen
  obtain ⟨e, hl, hat, hl0⟩ := h.try hk
  obtain ⟨c, hc⟩ := hA.lead
  have hGl := hA.pG.l
  have hce : front / last0 G = c := by rw [hc]; exact Int.mul_ediv_cancel_left _ (by omega)
  have hfp := hA.fpos
  have hf1 := hA.f1
  have hc0 : 0 < c := by
    rw [hc] at hfp
    exact Int.pos_of_mul_pos_right hfp hGl
  have hc18 : c ≤ 18 := by
    have h1 := Int.mul_le_mul_of_nonneg_right (show 1 ≤ last0 G by omega) (show 0 ≤ c by omega)
    rw [← hc] at h1
    omega
  have hS : ∀ j, co (symF known m) j = c * co G j := fun j => by
    rw [hat j]
    have h1 := (symI_near (n := co known j) h.m0).1
    have h2 : (c * co G j).natAbs ≤ 18 * 1000000 := by
      rw [Int.natAbs_mul]
      exact Nat.mul_le_mul (by omega) (hA.up j)
    have h3 := g2 j
    unfold hI at h3
    rw [hce] at h3
    refine near_uniq h.m0 h1 ?_
    unfold nearP
    simp only [Bool.and_eq_true, decide_eq_true_eq]
    refine ⟨?_, by omega, by omega⟩
    apply Int.emod_eq_zero_of_dvd
    have := Int.dvd_neg.mpr h3
    rwa [Int.neg_sub] at this
  have hP := prim_primF hl0
  have hu := unitC_ne hl0
  have hpG : primF (symF known m) = G := by
    refine prim_eq hP hA.pG (by rw [len_primF, hl, hlen]; exact Nat.le_refl _) (gauss' hP.primN (c := c) (by omega) ?_)
    exact ((Dv.refl 0 (co (primF (symF known m)))).smul (unitC (symF known m))).cg (.of_eq fun n => by rw [co_primF]; exact (hS n).symm)
  rw [hpG]
  exact ⟨dvdB_complete (by omega) hA.pa.tr hA.da, dvdB_complete (by omega) hA.pb.tr hA.db⟩
theorem PgI.dm_le {a b G : List Int} {front u : Int} {f0 i : Nat} {known : List Int} {m D M : Int} (hA : Ask a b G front u) (h : PgI a b G front u f0 i known m D M) (hM : M ≤ 10 ^ 9) : (D * M).natAbs ≤ 18 * 10 ^ 30 * 10 ^ 9 := by
  have hfp := hA.fpos
  have hfu : front * u ≠ 0 := fun z => by
    rcases Int.mul_eq_zero.mp z with z | z
    · omega
    · exact hA.u0 z
  have h3 : D.natAbs ≤ (front * u).natAbs := Nat.le_of_dvd (by omega) (Int.natAbs_dvd_natAbs.mpr h.dD)
  rw [Int.natAbs_mul] at h3
  have hf1 := hA.f1
  have h4 : front.natAbs * u.natAbs ≤ 18 * 10 ^ 30 := Nat.mul_le_mul (by omega) hA.u1
  rw [Int.natAbs_mul]
  exact Nat.mul_le_mul (Nat.le_trans h3 h4) (by have := h.M0; omega)
theorem PgI.m_le {a b G : List Int} {front u : Int} {f0 i : Nat} {known : List Int} {m D M : Int} (hA : Ask a b G front u) (h : PgI a b G front u f0 i known m D M) (hM : M ≤ 10 ^ 9) : m.natAbs ≤ 18 * 10 ^ 30 * 10 ^ 9 := by
  have h1 := h.dm_le hA hM
  have h2 : D * M ≠ 0 := fun z => by
    have := Int.mul_pos h.D0 h.M0
    omega
  have h3 := Nat.le_of_dvd (by omega : 0 < (D * M).natAbs) (Int.natAbs_dvd_natAbs.mpr h.md)
  omega
/-- the table does not end -/
theorem PgI.more {a b G : List Int} {front u : Int} {f0 i : Nat} {known : List Int} {m D M : Int} (hA : Ask a b G front u) (h : PgI a b G front u f0 i known m D M) (hf : f0 < 6) (hi : i ≤ 45) (hM : M ≤ 10 ^ 9) : i < 45 := by
  refine Nat.lt_of_le_of_ne hi fun z => ?_
  subst z
  have h1 := tab_big f0 hf
  have h2 := h.pr
  have hfp := hA.fpos
  have hfu : front * u ≠ 0 := fun z => by
    rcases Int.mul_eq_zero.mp z with z | z
    · omega
    · exact hA.u0 z
  have h3 : D.natAbs ≤ (front * u).natAbs := Nat.le_of_dvd (by omega) (Int.natAbs_dvd_natAbs.mpr h.dD)
  rw [Int.natAbs_mul] at h3
  have hf1 := hA.f1
  have h4 : front.natAbs * u.natAbs ≤ 18 * 10 ^ 30 := Nat.mul_le_mul (by omega) hA.u1
  have h5 : (D * M).natAbs ≤ 18 * 10 ^ 30 * 10 ^ 9 := by
    rw [Int.natAbs_mul]
    exact Nat.mul_le_mul (Nat.le_trans h3 h4) (by have := h.M0; omega)
  rw [h2] at h5
  have h6 : prI f0 45 ≤ 18 * 10 ^ 30 * 10 ^ 9 := by simpa using h5
  exact h1 (Nat.le_trans h6 (by decide))
theorem spec_primitive {C : Cx} {bx : Bx} {b : BS} (K : C.Ok) (xs ys G : List Int) (u : Int) (f0 : Nat) (hf0 : f0 < 6) (hA : Ask xs ys G (Int.gcd (last0 xs) (last0 ys)) u) (hx : xs.length ≤ 1000) (hy : ys.length ≤ 1000) (b1 : AllBd 4000 xs) (b2 : AllBd 4000 ys) :
    Spec C bx "primitive_gcd" 7 [.ints xs, .ints ys, .int (pri f0)] b fun r b' => r = .ints G ∧ b' = b := by
  refine spec_of_body 42 K ["a", "b", "first_prime"] (by decide +kernel) ?_ rfl (by decide) (by decide +kernel) (by decide +kernel) rfl rfl rfl ?_
  · exact fun pm code doc => hb3 fun u0 u1 u2 => rfl
  intro A L a₀ cd O s hcn
  refine ASs_cons ?_
  walk_at "r"
  refine ex_spec (spec_zlead K xs) ?_
  rintro _ b₁ ⟨rfl, rfl⟩
  walk_at "r"
  refine ex_spec (spec_zlead K ys) ?_
  rintro _ b₁ ⟨rfl, rfl⟩
  walk_at "r"
  refine ex_spec (spec_gcd K _ _) ?_
  rintro _ b₁ ⟨rfl, rfl⟩
  generalize hfr : ((Int.gcd (last0 xs) (last0 ys) : Nat) : Int) = front at *
  walk_at "r"
  have hfp := hA.fpos
  refine AS_while (α := Nat × List Int × Int × Int × Int) (fun z => ⟨[("a", .av (.ints xs)), ("b", .av (.ints ys)), ("front", .av (.int front)), ("known", .av (.ints z.2.1)), ("m", .av (.int z.2.2.1)), ("p", .av (.int (pri z.1)))], b₁⟩)
    (fun z => PgI xs ys G front u f0 z.1 z.2.1 z.2.2.1 z.2.2.2.1 z.2.2.2.2 ∧ z.1 < 45 ∧ z.2.2.2.2 ≤ 10 ^ 9) (fun z => 45 - z.1) (f0, [], 1, 1, 1) ⟨.init hA hf0, by dsimp only; omega, by show (1 : Int) ≤ 10 ^ 9; decide⟩ ⟨rfl, rfl, rfl, rfl, rfl, rfl, rfl, trivial⟩ ?_
  rintro ⟨i, known, m, D, M⟩ ⟨hI, hi, hMb⟩
  dsimp only at hI hi hMb ⊢
  obtain ⟨t1, t2, t3⟩ := tab_next i hi
  have p0 : 0 < (pri i : Int) := by omega
  have hp := pri_prime hi
  have bp : Bd 1000 (pri i : Int) := Bd.mono (m := 20) (.of_lt (k := 300) (by omega) (by decide)) (by decide)
  have em : front.fmod (pri i) = front % pri i := Int.fmod_eq_emod_of_nonneg _ (by omega)
  walk_at "s"
  walk_at "s"
  walk_at "s"
  walk_at "s"
  walk_at "s"
  refine AS_cut (α := List Int × Int × Int × Int) (fun z => ⟨[("a", .av (.ints xs)), ("b", .av (.ints ys)), ("front", .av (.int front)), ("known", .av (.ints z.1)), ("m", .av (.int z.2.1)), ("p", .av (.int (pri i)))], b₁⟩)
    (fun z => PgI xs ys G front u f0 (i + 1) z.1 z.2.1 z.2.2.1 z.2.2.2 ∧ z.2.2.2 ≤ 10 ^ 9) ?_ ?_
  · walk_at "r"
    · omega
    · have hpf : ¬ (pri i : Int) ∣ front := fun z => ‹¬ front.fmod (pri i) = 0› (by rw [em]; exact Int.emod_eq_zero_of_dvd z)
      refine ex_spec (spec_image K xs ys front (pri i) hp bp hx hy) ?_
      rintro _ b₂ ⟨⟨f, rfl, hf⟩, rfl⟩
      have hF := hA.img hp hpf hf
      have fpos := List.length_pos_iff.mpr hF.ne
      have hfl := hF.le
      walk_at "s"
      walk_at "s"
      walk_at "r0"
      · have h1 : f.length = 1 := by omega
        have hGl := hF.ge
        have hG1 := len1_prim hA.pG (by have := hA.pG.pos; omega)
        exact ⟨by rw [hG1], rfl⟩
      · have hpm : Bd 1500 (pri i : Int) := bp.mono (by decide)
        have hmX : m.natAbs ≤ 18 * 10 ^ 30 * 10 ^ 9 := hI.m_le hA hMb
        have bm : Bd 1500 m := Bd.mono (m := 1000) (.of_lt (k := 18 * 10 ^ 30 * 10 ^ 9 + 1) (by omega) (by decide)) (by decide)
        walk_at "s"
        walk_at "s"
        refine AS_cut (α := List Int × Int × Int × Int) (fun z => ⟨[("a", .av (.ints xs)), ("b", .av (.ints ys)), ("front", .av (.int front)), ("known", .av (.ints z.1)), ("m", .av (.int z.2.1)), ("p", .av (.int (pri i)))], b₂⟩)
          (fun z => PgI xs ys G front u f0 (i + 1) z.1 z.2.1 z.2.2.1 z.2.2.2 ∧ z.1 ≠ [] ∧ Bd 4000 z.2.1) ?_ ?_
        · have kr := hI.red
          have kl := hI.kl
          have m0 := hI.m0
          walk_at "r"
          · have hk0 : known = [] := List.length_eq_zero_iff.mp (by omega)
            obtain ⟨D', M', h⟩ := hI.fresh hA hf0 hi hF (.inl hk0)
            exact CutK_next (f, pri i, D', M') ⟨h, hF.ne, bp.mono (by decide)⟩ ⟨rfl, rfl, rfl, rfl, rfl, rfl, rfl, trivial⟩
          · obtain ⟨D', M', h⟩ := hI.fresh hA hf0 hi hF (.inr (by omega))
            exact CutK_next (f, pri i, D', M') ⟨h, hF.ne, bp.mono (by decide)⟩ ⟨rfl, rfl, rfl, rfl, rfl, rfl, rfl, trivial⟩
          · have hk : known ≠ [] := List.length_pos_iff.mp (by omega)
            have hmg : Int.gcd m (pri i) = 1 := gcd_of_dvd hI.md (hI.cop hf0 hi)
            refine ex_spec (spec_joined K known f m (pri i) m0 p0 bm hpm hmg (fun j => bm.of_le (by have := kr.co m0 j; omega)) (fun j => hpm.of_le (by have := hF.red.co p0 j; omega)) (by omega) (by simp only [lid]; omega)) ?_
            rintro _ b₃ ⟨⟨w, rfl, hw⟩, rfl⟩
            obtain ⟨D', M', h⟩ := hI.join hA hf0 hi hF hk (by omega) hw
            have hwl := hw.len
            have hwne : w ≠ [] := List.length_pos_iff.mp (by omega)
            walk_at "r"
            · exact mulOk bm hpm (by decide)
            · exact CutK_next (w, m * pri i, D', M') ⟨h, hwne, (bm.mul hpm).mono (by decide)⟩ ⟨rfl, rfl, rfl, rfl, rfl, rfl, rfl, trivial⟩
          · have hk : known ≠ [] := List.length_pos_iff.mp (by omega)
            have hkg := hI.kg hk
            have hfg := hF.ge
            obtain ⟨D', M', h⟩ := hI.keep hA hf0 hi hF hk (by omega)
            exact CutK_next (known, m, D', M') ⟨h, hk, bm.mono (by decide)⟩ ⟨rfl, rfl, rfl, rfl, rfl, rfl, rfl, trivial⟩
        · rintro ⟨known', m', D', M'⟩ ⟨hI', hk', bm'⟩
          dsimp only at hI' hk' bm' ⊢
          obtain ⟨e, hSl, hSat, hSl0⟩ := hI'.try hk'
          have hkl := hI'.kl
          have hPr := prim_primF hSl0
          have hbS : AllBd 4000 (symF known' m') := fun j => by rw [hSat]; exact bm'.of_le (symI_abs _ hI'.m0)
          have hbP : AllBd 4000 (primF (symF known' m')) := fun j => (hbS j).of_le (by
            have h1 := co_primF (xs := symF known' m') j
            have h2 := unitC_ne hSl0
            rw [← h1, Int.natAbs_mul]
            exact Nat.le_mul_of_pos_left _ (by omega))
          walk_at "r"
          refine ex_spec (spec_symmetric_of K known' m' hI'.m0 bm' (by simp only [lid]; omega)) ?_
          rintro _ b₃ ⟨rfl, rfl⟩
          walk_at "r"
          have hSne : symF known' m' ≠ [] := fun z => hSl0 (by rw [z]; rfl)
          refine ex_spec (spec_zprimitive K _ (by simp only [lid]; omega) hSne (cont_ne (i := (symF known' m').length - 1) hSl0) (((hbS _).of_le (cont_le (i := (symF known' m').length - 1) hSl0)).mono (by decide))) ?_
          rintro _ b₃ ⟨rfl, rfl⟩
          walk_at "r"
          have hPl : (primF (symF known' m')).length ≤ 1000 := by rw [len_primF]; omega
          refine ex_spec (spec_is_common K _ xs ys hPl hx hy hPr.ne (by have := hPr.l; omega) hbP b1 b2) ?_
          rintro _ b₃ ⟨rfl, rfl⟩
          walk_at "r"
          · rename_i hc
            have hc := Bool.and_eq_true_iff.mp hc
            exact ⟨by rw [hI'.ret hA hk' hc.1 hc.2], rfl⟩
          · rename_i hc
            have hMb' : M' ≤ 10 ^ 9 := hI'.cont hA hk' fun z => by
              rw [z.1, z.2] at hc; cases hc
            exact CutK_next (known', m', D', M') ⟨hI', hMb'⟩ ⟨rfl, rfl, rfl, rfl, rfl, rfl, rfl, trivial⟩
    · have hd : (pri i : Int) ∣ front := Int.dvd_of_emod_eq_zero (by rw [← em]; assumption)
      exact CutK_next (known, m, D * pri i, M) ⟨hI.skip hf0 hi hd, hMb⟩ ⟨rfl, rfl, rfl, rfl, rfl, rfl, rfl, trivial⟩
  · rintro ⟨known', m', D', M'⟩ ⟨hI', hM'⟩
    dsimp only at hI' hM' ⊢
    have hi' := hI'.more hA hf0 (by omega) hM'
    walk_at "r"
    refine ex_spec (spec_next_prime K (pri i) t2) ?_
    rintro _ b₂ ⟨rfl, rfl⟩
    rw [t1]
    walk_at "r"
    exact WhileK_next (i + 1, known', m', D', M') ⟨hI', hi', hM'⟩ (by dsimp only; omega) ⟨rfl, rfl, rfl, rfl, rfl, rfl, rfl, trivial⟩
noncomputable def LawQ : AFl → St → Prop
  | .ret a, _ => a = .bool true
  | _, _ => False
theorem LawQ_ret {a : AV} {σ : St} (h : a = .bool true) : LawQ (.ret a) σ := h
noncomputable abbrev lawFm (C : Cx) (bx : Bx) (A : Around) (L a : Addr) (cd : Value) (h₀ : Addr → Option Obj) (O₀ : Addr → Prop) (s₀ : Shared) : Fm :=
  { C, bx, A, k := 20, env := envOf (itemD 55).name (itemD 55).scope L a cd, h₀, O₀, s₀ }
theorem ProdI.last {a b f : List Int} (h : ProdI a b f) (ha : a ≠ []) (hb : b ≠ []) : last0 f = last0 a * last0 b := by
  have pa := List.length_pos_iff.mpr ha
  have pb := List.length_pos_iff.mpr hb
  have h1 := top_pm (p := 0) (g := Mine.co b) (d := b.length - 1) (fun i hi => by rw [co_deg hi]; exact Int.dvd_zero _) a (a.length - 1) (fun j hj => by rw [co_deg hj]; exact Int.dvd_zero _)
  rw [last_co, last_co, show a.length - 1 + (b.length - 1) = f.length - 1 by rw [h.len]; omega, ← h.co, last_co] at h1
  have := Int.zero_dvd.mp h1
  omega
theorem ProdI.upto {a b f : List Int} {most : Int} (h : ProdI a b f) (ha : PolyI 1 a) (hb : PolyI most b) : Upto 18 f := fun i => by
  rw [h.co]
  have hl : a.length = 2 := by have := ha.l₁; have := ha.l₂; omega
  match a, hl with
  | [x, y], _ =>
    have hx := ha.e 0
    have hy := ha.e 1
    rw [co_zero] at hx
    rw [co_succ, co_zero] at hy
    have e : pm [x, y] (Mine.co b) i = x * Mine.co b i + sh (fun n => y * Mine.co b n + sh (fun _ => 0) n) i := rfl
    rw [e]
    have m : ∀ u v : Int, -3 ≤ u → u ≤ 3 → -3 ≤ v → v ≤ 3 → (u * v).natAbs ≤ 9 := fun u v h1 h2 h3 h4 => by
      rw [Int.natAbs_mul]
      exact Nat.mul_le_mul (show u.natAbs ≤ 3 by omega) (show v.natAbs ≤ 3 by omega)
    have h1 := m x (Mine.co b i) hx.1 hx.2 (hb.e i).1 (hb.e i).2
    have h2 : (sh (fun n => y * Mine.co b n + sh (fun _ => 0) n) i).natAbs ≤ 9 := by
      cases i with
      | zero => simp [sh]
      | succ i =>
        show (y * Mine.co b i + sh (fun _ => 0) i).natAbs ≤ 9
        have : sh (fun _ => (0 : Int)) i = 0 := by cases i <;> rfl
        rw [this, Int.add_zero]
        exact m y (Mine.co b i) hy.1 hy.2 (hb.e i).1 (hb.e i).2
    have := Int.natAbs_add_le (x * Mine.co b i) (sh (fun n => y * Mine.co b n + sh (fun _ => 0) n) i)
    omega
theorem PolyI.upto {most : Int} {f : List Int} (h : PolyI most f) : Upto 18 f := fun i => by have := h.e i; omega
theorem PolyI.ne {most : Int} {f : List Int} (h : PolyI most f) : f ≠ [] := List.length_pos_iff.mp (by have := h.l₁; omega)
/-- a polynomial at hand -/
structure PolW (n : Nat) (xs : List Int) : Prop where
  len : xs.length ≤ n
  up : Upto 18 xs
  l0 : last0 xs ≠ 0
theorem PolW.ne {n : Nat} {xs : List Int} (h : PolW n xs) : xs ≠ [] := fun z => h.l0 (by rw [z]; rfl)
theorem PolW.bd {n : Nat} {xs : List Int} (h : PolW n xs) : AllBd 4000 xs := (bd_upto h.up (m := 10) (by decide)).mono (by decide)
theorem law_walk {C : Cx} {p : Addr × Addr} (K : C.Ok) (A : Around) (L a : Addr) (cd : Value) (h₀ : Addr → Option Obj) (O₀ : Addr → Prop) (s₀ : Shared) (b : BS) :
    ASs (lawFm C (some p) A L a cd h₀ O₀ s₀) ((itemD 55).body.drop 1) ⟨[("box", .av .box)], b⟩ LawQ := by
  refine ASs_cons ?_
  refine AS_forI (α := BS) (fun z => ⟨[("box", .av .box)], z⟩) (fun r z => True) ?_ ?_ ?_
  · refine AI_range1 ?_
    walk_at "r"
    exact ⟨⟨by decide, by decide⟩, b, trivial, rfl, rfl, trivial⟩
  · rintro x r z _
    walk_at "r"
    refine ex_spec (spec_rests K) ?_
    rintro _ b₁ rfl
    walk_at "r"
    · exact absurd ‹(!true) = true› (by decide)
    · exact ⟨b₁, trivial, rfl, rfl, trivial⟩
  rintro z _
  walk_at "r"
  refine ex_spec (spec_poly K 1 (by decide) (by decide)) ?_
  rintro _ b₁ ⟨shared, rfl, hs⟩
  walk_at "r"
  refine ex_spec (spec_poly K 2 (by decide) (by decide)) ?_
  rintro _ b₂ ⟨left, rfl, hl⟩
  walk_at "r"
  refine ex_spec (spec_poly K 1 (by decide) (by decide)) ?_
  rintro _ b₃ ⟨right, rfl, hr⟩
  have ws : PolW 2 shared := ⟨by have := hs.l₂; omega, hs.upto, hs.t⟩
  have wl : PolW 3 left := ⟨by have := hl.l₂; omega, hl.upto, hl.t⟩
  have wr : PolW 2 right := ⟨by have := hr.l₂; omega, hr.upto, hr.t⟩
  have hs2 : shared.length = 2 := by have := hs.l₁; have := hs.l₂; omega
  have hr2 : right.length = 2 := by have := hr.l₁; have := hr.l₂; omega
  have bd1 : ∀ {n : Nat} {xs : List Int}, PolW n xs → AllBd 1000 xs := fun h => (bd_upto h.up (m := 10) (by decide)).mono (by decide)
  walk_at "r"
  refine ex_spec (spec_product K shared left ws.ne wl.ne (by have := ws.len; omega) (by have := wl.len; omega) (bd1 ws) (bd1 wl)) ?_
  rintro _ b₄ ⟨⟨av, rfl, ha⟩, rfl⟩
  walk_at "r"
  refine ex_spec (spec_product K shared right ws.ne wr.ne (by have := ws.len; omega) (by have := wr.len; omega) (bd1 ws) (bd1 wr)) ?_
  rintro _ b₄ ⟨⟨bv, rfl, hb⟩, rfl⟩
  walk_at "r"
  refine ex_spec (spec_poly K 2 (by decide) (by decide)) ?_
  rintro _ b₅ ⟨beside, rfl, hz⟩
  have lal := ha.len
  have lbl := hb.len
  have lll := hl.l₁
  have wa : PolW 4 av := ⟨by have := wl.len; omega, ha.upto hs hl, by rw [ha.last ws.ne wl.ne]; exact fun z => (Int.mul_eq_zero.mp z).elim hs.t hl.t⟩
  have wb : PolW 3 bv := ⟨by omega, hb.upto hs hr, by rw [hb.last ws.ne wr.ne]; exact fun z => (Int.mul_eq_zero.mp z).elim hs.t hr.t⟩
  have wz : PolW 3 beside := ⟨by have := hz.l₂; omega, hz.upto, hz.t⟩
  walk_at "r"
  refine AS_forI (α := Unit) (fun _ => ⟨[("box", .av .box), ("shared", .av (.ints shared)), ("left", .av (.ints left)), ("a", .av (.ints av)), ("b", .av (.ints bv)), ("beside", .av (.ints beside))], b₅⟩)
    (fun r _ => ∀ x ∈ r, ∃ o₁ o₂, x = AV.tup [.ints o₁, .ints o₂] ∧ PolW 4 o₁ ∧ PolW 4 o₂) ?_ ?_ ?_
  · refine AI_av ?_
    walk_at "r"
    refine ⟨_, rfl, (), ?_, rfl, rfl, rfl, rfl, rfl, rfl, rfl, trivial⟩
    have wb4 : PolW 4 bv := ⟨by have := wb.len; omega, wb.up, wb.l0⟩
    have wz4 : PolW 4 beside := ⟨by have := wz.len; omega, wz.up, wz.l0⟩
    intro x hx
    simp only [List.mem_cons, List.not_mem_nil, or_false] at hx
    rcases hx with rfl | rfl | rfl | rfl
    · exact ⟨_, _, rfl, wa, wb4⟩
    · exact ⟨_, _, rfl, wa, wz4⟩
    · exact ⟨_, _, rfl, wz4, wb4⟩
    · exact ⟨_, _, rfl, wz4, wz4⟩
  · rintro x r _ hx
    obtain ⟨o₁, o₂, rfl, h1, h2⟩ := hx x (.head _)
    walk_at "r"
    refine AS_forI (α := Unit) (fun _ => ⟨[("box", .av .box), ("shared", .av (.ints shared)), ("left", .av (.ints left)), ("a", .av (.ints av)), ("b", .av (.ints bv)), ("beside", .av (.ints beside)), ("one", .av (.ints o₁)), ("other", .av (.ints o₂))], b₅⟩)
      (fun r _ => ∀ x ∈ r, ∃ c, x = AV.ints c ∧ PolW 4 c) ?_ ?_ ?_
    · refine AI_av ?_
      walk_at "r"
      refine ⟨_, rfl, (), ?_, rfl, rfl, rfl, rfl, rfl, rfl, rfl, rfl, rfl, trivial⟩
      intro x hx
      simp only [List.mem_cons, List.not_mem_nil, or_false] at hx
      rcases hx with rfl | rfl | rfl | rfl
      · exact ⟨_, rfl, by have := ws.len; omega, ws.up, ws.l0⟩
      · exact ⟨_, rfl, by have := wl.len; omega, wl.up, wl.l0⟩
      · exact ⟨_, rfl, by decide, fun i => by cases i with | zero => decide | succ i => rw [co_ge (by simp)]; decide, by decide⟩
      · exact ⟨_, rfl, by decide, fun i => by cases i with | zero => decide | succ i => rw [co_ge (by simp)]; decide, by decide⟩
    · rintro y r' _ hy
      obtain ⟨c, rfl, hc⟩ := hy y (.head _)
      have l1 := h1.len
      have l2 := h2.len
      have l3 := hc.len
      walk_at "r"
      refine ex_spec (spec_is_common K c o₁ o₂ (by omega) (by omega) (by omega) hc.ne hc.l0 hc.bd h1.bd h2.bd) ?_
      rintro _ b₆ ⟨rfl, rfl⟩
      walk_at "r"
      refine ex_spec (spec_law_divides K c o₁ (by omega) (by omega) hc.ne hc.l0 h1.bd hc.bd) ?_
      rintro _ b₆ ⟨rfl, rfl⟩
      walk_at "r"
      · refine ex_spec (spec_law_divides K c o₂ (by omega) (by omega) hc.ne hc.l0 h2.bd hc.bd) ?_
        rintro _ b₆ ⟨rfl, rfl⟩
        walk_at "r"
        · rename_i e1 e2
          rw [e1, Bool.true_and] at e2
          exact absurd e2 (by cases dvdB c o₂ <;> decide)
        · exact ⟨(), fun x h => hy x (.tail _ h), rfl, rfl, rfl, rfl, rfl, rfl, rfl, rfl, rfl, trivial⟩
      · rename_i e1 e2
        rw [e1, Bool.false_and] at e2
        exact absurd e2 (by decide)
      · exact ⟨(), fun x h => hy x (.tail _ h), rfl, rfl, rfl, rfl, rfl, rfl, rfl, rfl, rfl, trivial⟩
    · rintro _ _
      walk_at "r"
      exact ⟨(), fun x h => hx x (.tail _ h), rfl, rfl, rfl, rfl, rfl, rfl, rfl, trivial⟩
  rintro _ _
  refine ASs_cons ?_
  refine AS_forI (α := BS) (fun z => ⟨[("box", .av .box), ("a", .av (.ints av)), ("b", .av (.ints bv)), ("beside", .av (.ints beside))], z⟩)
    (fun r _ => ∀ x ∈ r, ∃ o₁ o₂, x = AV.tup [.ints o₁, .ints o₂] ∧ PolW 4 o₁ ∧ PolW 3 o₂ ∧ o₂.length ≤ o₁.length) ?_ ?_ ?_
  · refine AI_av ?_
    walk_at "r"
    refine ⟨_, rfl, _, ?_, rfl, rfl, rfl, rfl, rfl, trivial⟩
    intro x hx
    simp only [List.mem_cons, List.not_mem_nil, or_false] at hx
    have := wz.len
    have := wb.len
    rcases hx with rfl | rfl
    · exact ⟨_, _, rfl, wa, wb, by omega⟩
    · exact ⟨_, _, rfl, wa, wz, by omega⟩
  · rintro x r b₆ hx
    obtain ⟨o₁, o₂, rfl, h1, h2, h3⟩ := hx x (.head _)
    have pl : ∀ {n : Nat} {xs : List Int}, n ≤ 1000 → PolW n xs → xs.length ≤ 1000 ∧ cont xs ≠ 0 ∧ Bd 9000 (cont xs) := fun hn h =>
      ⟨Nat.le_trans h.len hn, cont_ne (i := _ - 1) h.l0, ((bd1 h _).of_le (cont_le (i := _ - 1) h.l0)).mono (by decide)⟩
    obtain ⟨k1, k2, k3⟩ := pl (by decide) h1
    obtain ⟨k4, k5, k6⟩ := pl (by decide) h2
    have P1 := prim_primF h1.l0
    have P2 := prim_primF h2.l0
    have U1 := upto_primF h1.up h1.l0
    have U2 := upto_primF h2.up h2.l0
    have n1 := h1.len
    have n2 := h2.len
    have m1 := len_primF o₁
    have m2 := len_primF o₂
    walk_at "r"
    refine ex_spec (spec_plain K o₁ k1 k2 k3) ?_
    rintro _ b₇ ⟨rfl, rfl⟩
    walk_at "r"
    refine ex_spec (spec_plain K o₂ k4 k5 k6) ?_
    rintro _ b₇ ⟨rfl, rfl⟩
    walk_at "r"
    · refine ex_spec (spec_common K _ _ P1 P2 (by omega) (by omega) U1 U2) ?_
      rintro _ b₇ ⟨⟨G, rfl, hG⟩, rfl⟩
      obtain ⟨u, u0, u1, uid⟩ := hG.id
      have hA : Ask (primF o₁) (primF o₂) G (Int.gcd (last0 (primF o₁)) (last0 (primF o₂))) u := ⟨P1, P2, hG.prim, hG.da, hG.db, u0, u1, uid, hG.up, rfl, by
        have h5 := Int.gcd_le_left (last0 (primF o₂)) P1.l
        have h6 := U1 ((primF o₁).length - 1)
        rw [last_co] at h6
        omega⟩
      have B1 : AllBd 4000 (primF o₁) := (bd_upto U1 (m := 10) (by decide)).mono (by decide)
      have B2 : AllBd 4000 (primF o₂) := (bd_upto U2 (m := 10) (by decide)).mono (by decide)
      walk_at "r"
      refine AS_forI (α := Unit) (fun _ => ⟨[("box", .av .box), ("a", .av (.ints av)), ("b", .av (.ints bv)), ("beside", .av (.ints beside)), ("one", .av (.ints (primF o₁))), ("other", .av (.ints (primF o₂))), ("due", .av (.ints G))], takeB b₇⟩)
        (fun r _ => ∀ x ∈ r, ∃ f0, f0 < 6 ∧ x = AV.int (pri f0)) ?_ ?_ ?_
      · refine AI_av ?_
        walk_at "r"
        refine ex_spec (spec_take K 4 (by decide)) ?_
        rintro _ b₈ ⟨rfl, rfl⟩
        have h4 := takeV_lt b₇ (m := 4) (by decide)
        generalize takeV b₇ 4 = d at *
        walk_at "r"
        all_goals try walk_at "o"
        · simp only [List.length_cons, List.length_nil]; omega
        refine ⟨_, rfl, (), ?_, rfl, rfl, rfl, rfl, rfl, rfl, rfl, rfl, trivial⟩
        intro x hx
        simp only [List.mem_cons, List.not_mem_nil, or_false] at hx
        rcases hx with rfl | rfl | rfl
        · exact ⟨0, by decide, rfl⟩
        · exact ⟨1, by decide, rfl⟩
        · have hd : d = 0 ∨ d = 1 ∨ d = 2 ∨ d = 3 := by omega
          rcases hd with rfl | rfl | rfl | rfl
          · exact ⟨2, by decide, rfl⟩
          · exact ⟨3, by decide, rfl⟩
          · exact ⟨4, by decide, rfl⟩
          · exact ⟨5, by decide, rfl⟩
      · rintro x r' _ hp
        obtain ⟨f0, hf0, rfl⟩ := hp x (.head _)
        walk_at "r"
        refine ex_spec (spec_primitive K _ _ G u f0 hf0 hA (by omega) (by omega) B1 B2) ?_
        rintro _ b₈ ⟨rfl, hb8⟩
        subst hb8
        walk_at "r"
        · exact absurd rfl ‹_›
        · exact ⟨(), fun x h => hp x (.tail _ h), rfl, rfl, rfl, rfl, rfl, rfl, rfl, rfl, trivial⟩
      · rintro _ _
        walk_at "r"
        exact ⟨_, fun x h => hx x (.tail _ h), rfl, rfl, rfl, rfl, rfl, trivial⟩
    · omega
  · rintro b₆ _
    walk_at "r"
    exact rfl
/-- the frame with a box -/
noncomputable abbrev Fm.boxed (F : Fm) (p : Addr × Addr) (h : Heap) : Fm := { F with bx := some p, h₀ := fun a => if a = p.1 ∨ a = p.2 then h.get? a else F.h₀ a, O₀ := fun a => a = p.1 ∨ a = p.2 }
theorem mkbox {F : Fm} {σ : St} {O : Addr → Prop} {ad : Str → Addr} {s : Shared} (K : F.Ok) (hbx : F.bx = none) (hcells : F.env.cells = []) (hk : F.env.kindOf "box" = some .local) (R : Rep F σ O ad s)
    {e₁ : Expr} {kk : Nat} {p1 p2 p3 pos : Pos} {XS : List Int} (h : AEo F e₁ σ fun xs _ => xs = XS)
    (he : starEach [e₁, .Constant (.int 0) kk p2] F.env = (false, eval e₁ F.env) :: starEach [.Constant (.int 0) kk p2] F.env) (he' : starEach [.Constant (.int 0) kk p2] F.env = (false, eval (.Constant (.int 0) kk p2) F.env) :: starEach [] F.env)
    (hs : swapsWith (.List [e₁, .Constant (.int 0) kk p2] p3) (some (.Name "box" p1)) pos.line F.env = pure false) {P : Flow → Shared → Prop}
    (hP : ∀ p s' O' ad', (F.boxed p s'.heap).Ok → Rep (F.boxed p s'.heap) ⟨[("box", .av .box)], ⟨XS, 0⟩⟩ O' ad' s' → F.h₀ p.1 = none → F.h₀ p.2 = none → P .next s') :
    wpAny (model F.C.prog F.C.w) F.A (exec (.Assign [.Name "box" p1] (.List [e₁, .Constant (.int 0) kk p2] p3) pos) F.env) P (fun _ _ => False) s := by
  refine wpAny_Assign_Name (PyProof.Rows.List_ (args_cons (wpAny_mono (h K O ad s R) (fun v s₁ h₁ => ?_) fun _ _ f => f) he)) hs
  obtain ⟨xs, b₀, l, vs, rfl, hn, hp, hi, hl, X, B, rfl⟩ := h₁
  have R₁ := R.ext K X B
  refine args_cons (wpAny_Constant_int (args_nil (wpAny_newList ?_ (by rw [sizeLine_eq]; simp)))) he'
  obtain ⟨m, cm, V⟩ := R₁.vars
  have nl : ¬ O l := fun o => let ⟨_, e⟩ := R.dom l o; by rw [hn] at e; cases e
  obtain ⟨n₁, el⟩ := hp
  have llt : l < s₁.heap.objs.size := Heap.lt_size el
  have nb : ∀ {a : Addr}, O a → a < s₁.heap.objs.size := fun o => let ⟨_, e⟩ := R₁.dom _ o; Heap.lt_size e
  have ns₁ : (s₁.heap.push { cls := .type "list", data := .seq (List.toArray [Value.ref l, Value.int 0 s₁.toks]) }).Ns F.env.locals m := by
    obtain ⟨o, es, ep, e, r⟩ := V.ns
    exact ⟨o, es, ep, Heap.get?_push_of_some _ e, r⟩
  refine wpAny_storeName_local hk ns₁ (fun h' hn' hs' => ?_) (by rw [K.kind]; rfl)
  have kp : ∀ a o, a ≠ F.env.locals → (s₁.heap.push { cls := .type "list", data := .seq (List.toArray [Value.ref l, Value.int 0 s₁.toks]) }).get? a = some o → h'.get? a = some o := fun a o n e => hs'.extBut a o n e
  have hLlt := nb R₁.Lo
  have ebx : h'.get? s₁.heap.objs.size = some { cls := .type "list", data := .seq (List.toArray [Value.ref l, Value.int 0 s₁.toks]) } := kp _ _ (Nat.ne_of_gt hLlt) (Heap.get?_push_size _ rfl)
  have elx : h'.get? l = some { cls := Value.type "list", data := Data.seq vs.toArray n₁ } := kp _ _ (fun q => nl (q ▸ R₁.Lo)) (Heap.get?_push_of_some _ el)
  have nB : F.h₀ s₁.heap.objs.size = none := R₁.new₀ K no_of_size
  have nL : F.h₀ l = none := R.new₀ K hn
  have nin : ∀ a, ¬ inBox F.bx a := fun a q => by rw [hbx] at q; exact q
  have free : ∀ a, F.h₀ a = none → F.C.hG.get? a = none := fun a e => by
    cases e' : F.C.hG.get? a with
    | none => rfl
    | some o => rw [K.base a o e'] at e; cases e
  refine hP (s₁.heap.objs.size, l) _ (fun a => O a ∨ a = s₁.heap.objs.size ∨ a = l) (fun _ => 0) ?_ ?_ nB nL
  · refine { cx := K.cx, room := K.room, kind := K.kind, glob := K.glob, bl := K.bl, base := fun b o e => ?_, wfree := fun a ha => ?_, wO := fun a ha => ha, dom₀ := fun a ha => ?_ }
    · have h1 := K.base b o e
      show (if b = s₁.heap.objs.size ∨ b = l then h'.get? b else F.h₀ b) = some o
      rw [if_neg]
      · exact h1
      · rintro (rfl | rfl)
        · rw [nB] at h1; cases h1
        · rw [nL] at h1; cases h1
    · rcases ha with rfl | rfl
      · exact free _ nB
      · exact free _ nL
    · show ∃ o, (if a = s₁.heap.objs.size ∨ a = l then h'.get? a else F.h₀ a) = some o
      rw [if_pos ha]
      rcases ha with rfl | rfl
      · exact ⟨_, ebx⟩
      · exact ⟨_, elx⟩
  · refine ⟨?_, fun b o e n => ?_, fun a ha => .inr ha, fun a ha => ?_, .inl R₁.Lo, ?_, ⟨_, cm, hn', fun y c hc => ?_, fun y a hy => ?_, fun y a hy ho => ?_⟩, fun x y c hc => ?_, ?_⟩
    · obtain ⟨h₂, tk, e⟩ := R₁.same
      subst e
      exact ⟨h', _, rfl⟩
    · have hnb : ¬ (b = s₁.heap.objs.size ∨ b = l) := n
      change (if b = s₁.heap.objs.size ∨ b = l then h'.get? b else F.h₀ b) = some o at e
      rw [if_neg hnb] at e
      have e1 := R₁.keep b o e (nin b)
      exact kp b o (fun q => by rw [q, R₁.Lnew] at e; cases e) (Heap.get?_push_of_some _ e1)
    · rcases ha with ha | rfl | rfl
      · obtain ⟨o, e⟩ := R₁.dom a ha
        by_cases q : a = F.env.locals
        · subst q
          obtain ⟨o', _, _, e', _⟩ := hn'
          exact ⟨o', e'⟩
        · exact ⟨o, kp a o q (Heap.get?_push_of_some _ e)⟩
      · exact ⟨_, ebx⟩
      · exact ⟨_, elx⟩
    · show (if F.env.locals = s₁.heap.objs.size ∨ F.env.locals = l then h'.get? F.env.locals else F.h₀ F.env.locals) = none
      rw [if_neg]
      · exact R₁.Lnew
      · rintro (q | q)
        · rw [q] at hLlt; exact Nat.lt_irrefl _ hLlt
        · exact nl (q ▸ R₁.Lo)
    · change F.env.cells.lookup y = some c at hc
      rw [hcells] at hc; simp at hc
    · rw [lookup_cons_eq] at hy
      by_cases q : y = "box"
      · rw [if_pos q] at hy
        cases hy
        refine ⟨.ref s₁.heap.objs.size, ?_, .inl ⟨q ▸ hk, by simp [q]⟩⟩
        show Is _ _ _ _ _
        simp only [Is]
        exact ⟨_, _, rfl, rfl⟩
      · rw [if_neg q] at hy; simp at hy
    · rw [lookup_cons_eq] at hy
      by_cases q : y = "box"
      · rw [if_pos q] at hy
        cases hy
        exact ho.elim
      · rw [if_neg q] at hy; simp at hy
    · change F.env.cells.lookup x = some c at hc
      rw [hcells] at hc; simp at hc
    · unfold BoxIs
      exact ⟨Nat.ne_of_gt llt, ⟨s₁.toks, 0, ebx⟩, vs, ⟨n₁, elx⟩, hi, hl⟩
theorem item_lt : ∀ i d, itemAt i = some d → i < 56 := fun i d h => by
  have hl : theText.main.body.length = 56 := by decide +kernel
  unfold itemAt at h
  rcases Nat.lt_or_ge i 56 with hi | hi
  · exact hi
  · rw [List.getElem?_eq_none (by omega)] at h
    cases h
theorem cx_ok {p prog : Program} {w : World} {mean : ExcName → Option Value} {mg mb : Str → Option Value} {h : Heap} (O : ViewOk p) (T : Top p (looseW p []) mean mg mb h) (TW : TopW p mg h) : (Cx.mk prog w mg mb h).Ok := by
  refine ⟨T.g, T.b, T.nolimit, T.builtins, fun i d hd' => ?_, fun x hx => ?_, ?_⟩
  · have h1 : (⟨d.name, d.params, d.body, d.scope, d.pos⟩ : DefRec) ∈ recsOf p := by
      rw [O.recs]
      exact List.mem_map.mpr ⟨d, List.mem_filterMap.mpr ⟨i, List.mem_range.mpr (item_lt i d hd'), hd'⟩, rfl⟩
    exact T.fn _ h1
  · obtain ⟨h1, h2, h3, h4, h5⟩ := O.free x hx
    exact T.free x h1 h2 h3 h4 h5
  · obtain ⟨v, hv, hr⟩ := TW.lits _ (mem_of_lookup O.lits)
    dsimp only at hv hr
    cases hr with
    | tuple e1 e2 e3 e4 =>
      rename_i a o vs n
      have hall : ∀ {ps : List (Int × Int)} {us : List Value} {as : List Addr}, ReadsAllW [] (fun _ => none) h us (ps.map fun p => WData.tuple [.int p.1, .int p.2]) as → us.length = ps.length ∧ ∀ (i : Nat) (p : Int × Int), ps[i]? = some p → ∃ a t u, us[i]? = some (.ref a) ∧ h.IsTuple a #[.int p.1 t, .int p.2 u] := by
        intro ps
        induction ps with
        | nil =>
          intro us as hr
          cases hr
          exact ⟨rfl, fun i p hp => by simp at hp⟩
        | cons q ps ih =>
          intro us as hr
          rw [List.map_cons] at hr
          cases hr with
          | cons r1 r2 =>
            obtain ⟨ih1, ih2⟩ := ih r2
            refine ⟨by simp [ih1], fun i p hp => ?_⟩
            cases i with
            | succ i => simpa using ih2 i p (by simpa using hp)
            | zero =>
              simp at hp
              subst hp
              cases r1 with
              | tuple f1 f2 f3 f4 =>
                rename_i a' o' vs' n'
                generalize hvs : vs'.toList = us' at f4
                cases f4 with
                | cons g1 g2 =>
                  cases g2 with
                  | cons g3 g4 =>
                    cases g4
                    cases g1
                    cases g3
                    rename_i t₁ t₂
                    refine ⟨a', t₁, t₂, rfl, o', f1, f2, n', ?_⟩
                    rw [f3]
                    congr 1
                    exact Array.toList_inj.mp (by rw [hvs])
      obtain ⟨k1, k2⟩ := hall e4
      exact ⟨a, vs.toList, hv, ⟨o, e1, e2, n, by rw [Array.toArray_toList]; exact e3⟩, k1, k2⟩
/-- the walk of the law's own frame -/
theorem law_end : LawEnd := by
  intro p prog w mg mb mean s₁ fa wc l vs ns h₁ tk mm O T TW hL hI hlen R hm
  have K : (Cx.mk prog w mg mb s₁.heap).Ok := cx_ok O T TW
  let C : Cx := Cx.mk prog w mg mb s₁.heap
  let F₀ : Fm := lawFm C none (callerA.deeper (envOf (itemD 55).name (itemD 55).scope s₁.heap.objs.size fa (.ref wc))) s₁.heap.objs.size fa (.ref wc) s₁.heap.get? (fun _ => False) s₁
  have KF : F₀.Ok := { cx := K, room := (⟨rfl, by decide, by decide⟩ : Room callerA (20 + 1)).deeper _, kind := rfl, glob := rfl, bl := rfl, base := fun _ _ e => e, wfree := fun _ h => h.elim, wO := fun _ h => h.elim, dom₀ := fun _ h => h.elim }
  have llt : l < s₁.heap.objs.size := let ⟨_, e, _⟩ := hL; Heap.lt_size e
  have RF : Rep F₀ ⟨[("script", .av (.lst ns))], ⟨[], 0⟩⟩ (fun a => a = s₁.heap.objs.size) (fun _ => 0) { s₁ with heap := h₁, toks := tk } := by
    refine ⟨⟨h₁, tk, rfl⟩, fun b o e _ => R.keep b o e, fun a h => h.elim, fun a h => ?_, rfl, no_of_size, ⟨mm, fun _ => none, R.ns, fun y c hc => ?_, fun y a hy => ?_, fun y a hy ho => ?_⟩, fun x y c hc => ?_, trivial⟩
    · subst h
      obtain ⟨o, _, _, e, _⟩ := R.ns
      exact ⟨o, e⟩
    · change List.lookup y [] = some c at hc
      simp at hc
    · rw [lookup_cons_eq] at hy
      by_cases q : y = "script"
      · rw [if_pos q] at hy
        cases hy
        refine ⟨.ref l, ?_, .inl ⟨q ▸ rfl, q ▸ hm⟩⟩
        show Is _ _ _ _ _
        simp only [Is]
        refine ⟨l, vs, rfl, Nat.ne_of_lt llt, ?_, hI, by simp only [lid]; omega⟩
        obtain ⟨o, e, r⟩ := hL
        exact ⟨o, R.keep _ _ e, r⟩
      · rw [if_neg q] at hy; simp at hy
    · rw [lookup_cons_eq] at hy
      by_cases q : y = "script"
      · rw [if_pos q] at hy
        cases hy
        exact ho.elim
      · rw [if_neg q] at hy; simp at hy
    · change List.lookup x [] = some c at hc
      simp at hc
  refine wpAny_execs_cons (mkbox (F := F₀) KF rfl rfl rfl RF (XS := ns.take 40) (AEo_list ?_ rfl rfl) rfl rfl rfl fun pb s' O' ad' K' R' n1 n2 => ?_)
  · walk_at "r"
    · decide
    · rfl
  refine wpAny_mono (law_walk (C := C) (p := pb) K _ _ _ _ _ _ _ _ K' O' ad' s' R') (fun f s'' h => ?_) fun _ _ f => f
  obtain ⟨afl, σ'', O'', ad'', hf, R'', _, q⟩ := h
  cases afl with
  | ret a =>
    have q : a = .bool true := q
    subst q
    cases f <;> simp only [FlowIs] at hf
    simp only [Is] at hf
    subst hf
    refine ⟨rfl, fun b o e => ?_, R''.same⟩
    have hb : ¬ (b = pb.1 ∨ b = pb.2) := by
      rintro (rfl | rfl)
      · have : s₁.heap.get? pb.1 = none := n1
        rw [this] at e; cases e
      · have : s₁.heap.get? pb.2 = none := n2
        rw [this] at e; cases e
    refine R''.keep b o ?_ hb
    show (if b = pb.1 ∨ b = pb.2 then s'.heap.get? b else s₁.heap.get? b) = some o
    rw [if_neg hb]; exact e
  | next => exact q.elim
  | brk => exact q.elim
  | cont => exact q.elim
end Mine

theorem PySem.Challenge.cw_pf0047_01_holds : PySem.Challenge.rw_pf0047_01.Holds :=
  Mine.hd Mine.law_end

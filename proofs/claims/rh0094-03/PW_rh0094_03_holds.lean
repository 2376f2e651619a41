import PyProof.Rows.All
import Wide.All
import OpenK.AllK
import Wide.FinOn
import PySem.Challenge.RW_rh0094_03
open PySem PySem.W PyProof.Rows
set_option Elab.async false
set_option maxRecDepth 1000000
set_option linter.unusedVariables false
set_option linter.unusedSimpArgs false

namespace Mine


inductive V where
  | none
  | bool (b : Bool)
  | int (i : Int)
  | str (s : List Nat)
  | tup (vs : List V)
  | ref (a : Addr)

inductive AObj where
  | list (xs : List V)
  | dict (es : List (V × V))
  | inst (C d : Addr)
  | ns (fs : List (Nat × V))
  | fz (ds : List DictEntry) (n : Nat)

noncomputable abbrev AH := Addr → Option AObj
noncomputable def AH.set (H : AH) (a : Addr) (o : AObj) : AH := fun b => if b = a then some o else H b
theorem AH.set_same (H : AH) (a : Addr) (o : AObj) : (H.set a o) a = some o := if_pos rfl
theorem AH.set_ne (H : AH) {a b : Addr} (o : AObj) (h : b ≠ a) : (H.set a o) b = H b := if_neg h

noncomputable def lim : Nat := 2 ^ 24
noncomputable def okS (s : List Nat) : Bool := s.all (· < 0x110000) && decide (s.length ≤ lim)
noncomputable def mkS (s : List Nat) : Str := ⟨s.toArray⟩
theorem mkS_inj {s t : List Nat} (h : mkS s = mkS t) : s = t := by
  have := congrArg Str.cps h
  simpa [mkS] using this
theorem mkS_cps (x : Str) : mkS x.cps.toList = x := by cases x; simp [mkS]
theorem mkS_length (s : List Nat) : (mkS s).length = s.length := by simp [mkS, Str.length]

noncomputable abbrev tupObj (vs : List Value) (n : Nat) : Obj := ⟨.type "tuple", none, .seq vs.toArray n, #[]⟩
noncomputable abbrev lstObj (vs : List Value) (n : Nat) : Obj := ⟨.type "list", none, .seq vs.toArray n, #[]⟩
noncomputable abbrev dctObj (es : List DictEntry) (n : Nat) : Obj := ⟨.type "dict", none, .dict es.toArray n, #[]⟩

inductive All2 {α β : Type} (R : α → β → Prop) : List α → List β → Prop
  | nil : All2 R [] []
  | cons {a b l m} : R a b → All2 R l m → All2 R (a :: l) (b :: m)
noncomputable def All2I {α β : Type} (R : α → β → Prop) : List α → List β → Prop
  | [], m => m = []
  | a :: l, m => ∃ b m', m = b :: m' ∧ R a b ∧ All2 R l m'
section
variable {α β : Type} {R R' : α → β → Prop} {l l' : List α} {m m' : List β}
theorem All2.inv (r : All2 R l m) : All2I R l m := r.casesOn rfl fun a b => ⟨_, _, rfl, a, b⟩
theorem All2.imp (k : ∀ a b, R a b → R' a b) (r : All2 R l m) : All2 R' l m := r.rec .nil fun a _ ih => .cons (k _ _ a) ih
theorem All2.length (r : All2 R l m) : m.length = l.length := r.rec rfl fun _ _ ih => congrArg (· + 1) ih
theorem some_ne {α : Type} {f : Nat → Option α} {a b : Nat} {x : α} (h1 : f a = some x) (h2 : f b = none) : a ≠ b := fun z => by rw [z, h2] at h1; contradiction
theorem All2.append (r : All2 R l m) (r' : All2 R l' m') : All2 R (l ++ l') (m ++ m') := r.rec r' fun a _ ih => .cons a ih
theorem All2.get (r : All2 R l m) {i : Nat} {a : α} (e : l[i]? = some a) : ∃ b, m[i]? = some b ∧ R a b := by
  induction r generalizing i with
  | nil => contradiction
  | cons x _ ih => cases i with
    | zero => exact ⟨_, rfl, Option.some.inj e ▸ x⟩
    | succ i => exact ih e
theorem All2.take (r : All2 R l m) (n : Nat) : All2 R (l.take n) (m.take n) := by
  induction r generalizing n with
  | nil => rw [List.take_nil, List.take_nil]; exact .nil
  | cons x _ ih => cases n with
    | zero => exact .nil
    | succ n => exact .cons x (ih n)
theorem All2.drop (r : All2 R l m) (n : Nat) : All2 R (l.drop n) (m.drop n) := by
  induction r generalizing n with
  | nil => rw [List.drop_nil, List.drop_nil]; exact .nil
  | cons x r ih => cases n with
    | zero => exact .cons x r
    | succ n => exact ih n
theorem All2.reverse (r : All2 R l m) : All2 R l.reverse m.reverse := by
  induction r with
  | nil => exact .nil
  | cons x _ ih => rw [List.reverse_cons, List.reverse_cons]; exact ih.append (.cons x .nil)
end

inductive Rep (h : Heap) : V → Value → Prop
  | none : Rep h .none .none
  | bool (b) : Rep h (.bool b) (.bool b)
  | int (i t) : Rep h (.int i) (.int i t)
  | str (s t) : okS s = true → Rep h (.str s) (.str (mkS s) t)
  | ref (a) : Rep h (.ref a) (.ref a)
  | tup {a vs n ls} : h.get? a = some (tupObj vs n) → All2 (Rep h) ls vs → Rep h (.tup ls) (.ref a)
noncomputable abbrev Reps (h : Heap) : List V → List Value → Prop := All2 (Rep h)
noncomputable def RepI (h : Heap) : V → Value → Prop
  | .none, v => v = .none
  | .bool b, v => v = .bool b
  | .int i, v => ∃ t, v = .int i t
  | .str s, v => ∃ t, v = .str (mkS s) t ∧ okS s = true
  | .ref a, v => v = .ref a
  | .tup ls, v => ∃ a vs n, v = .ref a ∧ h.get? a = some (tupObj vs n) ∧ All2 (Rep h) ls vs
theorem Rep.inv {h : Heap} {a : V} {v : Value} (r : Rep h a v) : RepI h a v :=
  r.casesOn rfl (fun _ => rfl) (fun _ t => ⟨t, rfl⟩) (fun _ t k => ⟨t, rfl, k⟩) (fun _ => rfl) (fun e rs => ⟨_, _, _, rfl, e, rs⟩)
theorem Rep.mono {h h' : Heap} (k : ∀ a vs n, h.get? a = some (tupObj vs n) → h'.get? a = some (tupObj vs n)) {a : V} {v : Value} (r : Rep h a v) : Rep h' a v :=
  Rep.rec (motive_1 := fun a v _ => Rep h' a v) (motive_2 := fun l vs _ => All2 (Rep h') l vs) .none .bool .int .str .ref (fun e _ ih => .tup (k _ _ _ e) ih) .nil (fun _ _ x y => .cons x y) r
theorem Reps.mono {h h' : Heap} (k : ∀ a vs n, h.get? a = some (tupObj vs n) → h'.get? a = some (tupObj vs n)) {l : List V} {vs : List Value} (r : Reps h l vs) : Reps h' l vs := r.imp fun _ _ x => x.mono k
theorem Rep.handed {h : Heap} {a : V} {v : Value} (r : Rep h a v) : handedIn v = true :=
  r.casesOn rfl (fun _ => rfl) (fun _ _ => rfl) (fun _ _ _ => rfl) (fun _ => rfl) (fun _ _ => rfl)


structure Cx where
  prog : Program
  w : World
  g0 : Heap
  os0 : OsState
  K : Frag
  an : List Str
  gn : List Str
  gl : Nat → V

noncomputable def hashV (w : World) : V → Int
  | .str s => hashStr w (mkS s)
  | .int i => hashInt i
  | .tup ks => tupleKeyHash (intKind default w) (ks.map fun | .int i => i | _ => 0)
  | _ => 0

noncomputable abbrev Ent (w : World) (h : Heap) (p : V × V) (e : DictEntry) : Prop := Rep h p.1 e.key ∧ e.hash = hashV w p.1 ∧ Rep h p.2 e.val
noncomputable abbrev Ents (w : World) (h : Heap) : List (V × V) → List DictEntry → Prop := All2 (Ent w h)
noncomputable abbrev NsEnt (an : List Str) (h : Heap) (p : Nat × V) (e : DictEntry) : Prop := ∃ n t, an[p.1]? = some n ∧ e.key = .str n t ∧ Rep h p.2 e.val
noncomputable abbrev NsRep (an : List Str) (h : Heap) : List (Nat × V) → List DictEntry → Prop := All2 (NsEnt an h)

noncomputable def ObjRep (cx : Cx) (h : Heap) (a : Addr) : AObj → Prop
  | .list xs => ∃ vs n, h.get? a = some (lstObj vs n) ∧ Reps h xs vs ∧ xs.length ≤ lim
  | .dict es => ∃ ds n, h.get? a = some (dctObj ds n) ∧ Ents cx.w h es ds ∧ es.length ≤ lim ∧ (es.map (·.1)).Nodup
  | .inst C d => h.get? a = some (instObj C d)
  | .ns fs => ∃ ds n, h.get? a = some (dctObj ds n) ∧ NsRep cx.an h fs ds
  | .fz ds n => h.get? a = some (dctObj ds n)

theorem Ents.mono {w : World} {h h' : Heap} (k : ∀ a vs n, h.get? a = some (tupObj vs n) → h'.get? a = some (tupObj vs n)) {es ds} (r : Ents w h es ds) : Ents w h' es ds := r.imp fun _ _ x => ⟨x.1.mono k, x.2.1, x.2.2.mono k⟩
theorem NsRep.mono {an : List Str} {h h' : Heap} (k : ∀ a vs n, h.get? a = some (tupObj vs n) → h'.get? a = some (tupObj vs n)) {es ds} (r : NsRep an h es ds) : NsRep an h' es ds := r.imp fun _ _ q => by obtain ⟨n, t, x, y, z⟩ := q; exact ⟨n, t, x, y, z.mono k⟩
theorem ObjRep.mono {cx : Cx} {h h' : Heap} {a : Addr} {o : AObj} (k : ∀ a vs n, h.get? a = some (tupObj vs n) → h'.get? a = some (tupObj vs n))
    (e : h'.get? a = h.get? a) (r : ObjRep cx h a o) : ObjRep cx h' a o := by
  cases o with
  | list xs => obtain ⟨vs, n, e1, r, l⟩ := r; exact ⟨vs, n, e.trans e1, r.mono k, l⟩
  | dict es => obtain ⟨vs, n, e1, r, l⟩ := r; exact ⟨vs, n, e.trans e1, Ents.mono k r, l⟩
  | inst C d => exact e.trans r
  | ns fs => obtain ⟨vs, n, e1, r⟩ := r; exact ⟨vs, n, e.trans e1, NsRep.mono k r⟩
  | fz ds n => exact e.trans r
theorem ty_of {a b : String} {d d' k k' s s'} (e : some (⟨.type a, d, k, s⟩ : Obj) = some ⟨.type b, d', k', s'⟩) : a = b := by
  injection e with e; injection e with e; injection e
theorem ObjRep.noTup {cx : Cx} {h : Heap} {a : Addr} {o : AObj} (r : ObjRep cx h a o) {vs n} : h.get? a ≠ some (tupObj vs n) := by
  intro e
  cases o with
  | list xs => obtain ⟨_, _, e1, _⟩ := r; exact absurd (ty_of (e1.symm.trans e)) (by decide)
  | dict es => obtain ⟨_, _, e1, _⟩ := r; exact absurd (ty_of (e1.symm.trans e)) (by decide)
  | inst C d => exact nomatch congrArg Obj.cls (Option.some.inj ((show h.get? a = _ from r).symm.trans e))
  | ns fs => obtain ⟨_, _, e1, _⟩ := r; exact absurd (ty_of (e1.symm.trans e)) (by decide)
  | fz ds n => exact absurd (ty_of ((show h.get? a = _ from r).symm.trans e)) (by decide)
theorem ObjRep.some {cx : Cx} {h : Heap} {a : Addr} {o : AObj} (r : ObjRep cx h a o) : ∃ x, h.get? a = some x := by
  cases o with
  | list xs => obtain ⟨_, _, e1, _⟩ := r; exact ⟨_, e1⟩
  | dict es => obtain ⟨_, _, e1, _⟩ := r; exact ⟨_, e1⟩
  | inst C d => exact ⟨_, r⟩
  | ns fs => obtain ⟨_, _, e1, _⟩ := r; exact ⟨_, e1⟩
  | fz ds n => exact ⟨_, r⟩

structure St (cx : Cx) (H : AH) (s : Shared) : Prop where
  keep : ∀ a o, cx.g0.get? a = some o → s.heap.get? a = some o ∧ H a = none
  objs : ∀ a ao, H a = some ao → ObjRep cx s.heap a ao
  gens : s.gens = #[]
  os : s.os = cx.os0

noncomputable def Ext (H : AH) (h : Heap) (H' : AH) (h' : Heap) : Prop := ∀ b o, h.get? b = some o → H b = none → h'.get? b = some o ∧ H' b = none
theorem Ext.refl (H : AH) (h : Heap) : Ext H h H h := fun _ _ e n => ⟨e, n⟩
theorem Ext.trans {H H' H'' : AH} {h h' h'' : Heap} (x : Ext H h H' h') (y : Ext H' h' H'' h'') : Ext H h H'' h'' := fun b o e n => by
  obtain ⟨e1, n1⟩ := x b o e n
  exact y b o e1 n1

theorem St.tupNone {cx : Cx} {H : AH} {s : Shared} (S : St cx H s) {a vs n} (e : s.heap.get? a = some (tupObj vs n)) : H a = none := by
  cases q : H a with
  | none => rfl
  | some o => exact absurd e (S.objs a o q).noTup
theorem St.tupKeep {cx : Cx} {H H' : AH} {s s' : Shared} (S : St cx H s) (x : Ext H s.heap H' s'.heap) : ∀ a vs n, s.heap.get? a = some (tupObj vs n) → s'.heap.get? a = some (tupObj vs n) :=
  fun a _ _ e => (x a _ e (S.tupNone e)).1
theorem Rep.ext {cx : Cx} {H H' : AH} {s s' : Shared} {a : V} {v : Value} (r : Rep s.heap a v) (S : St cx H s) (x : Ext H s.heap H' s'.heap) : Rep s'.heap a v := r.mono (S.tupKeep x)
theorem Reps.ext {cx : Cx} {H H' : AH} {s s' : Shared} {a : List V} {v : List Value} (r : Reps s.heap a v) (S : St cx H s) (x : Ext H s.heap H' s'.heap) : Reps s'.heap a v := r.mono (S.tupKeep x)

theorem St.lt {cx : Cx} {H : AH} {s : Shared} (S : St cx H s) {a ao} (e : H a = some ao) : a < s.heap.objs.size := by
  obtain ⟨o, e⟩ := (S.objs a ao e).some
  exact Heap.lt_size e
theorem St.fresh {cx : Cx} {H : AH} {s : Shared} (S : St cx H s) {a : Addr} (h : s.heap.objs.size ≤ a) : H a = none := by
  cases q : H a with
  | none => rfl
  | some o => exact absurd (S.lt q) (Nat.not_lt.mpr h)

theorem St.toks {cx : Cx} {H : AH} {s : Shared} (S : St cx H s) (t : Nat) : St cx H { s with toks := t } := ⟨S.keep, S.objs, S.gens, S.os⟩

theorem St.push {cx : Cx} {H : AH} {s : Shared} (S : St cx H s) (o : Obj) (t : Nat) : St cx H { s with heap := s.heap.push o, toks := t } :=
  ⟨fun a x e => ⟨Heap.get?_push_of_some o (S.keep a x e).1, (S.keep a x e).2⟩,
   fun a ao e => (S.objs a ao e).mono (fun _ _ _ q => Heap.get?_push_of_some o q) (by obtain ⟨x, q⟩ := (S.objs a ao e).some; rw [q]; exact Heap.get?_push_of_some o q), S.gens, S.os⟩
theorem Ext.push (H : AH) (h : Heap) (o : Obj) : Ext H h H (h.push o) := fun _ _ e n => ⟨Heap.get?_push_of_some o e, n⟩

theorem St.alloc {cx : Cx} {H : AH} {s : Shared} (S : St cx H s) (o : Obj) (ao : AObj) (t : Nat) (ho : o.isFreed = false)
    (r : ∀ h' : Heap, (∀ b x, s.heap.get? b = some x → h'.get? b = some x) → h'.get? s.heap.objs.size = some o → ObjRep cx h' s.heap.objs.size ao) :
    St cx (H.set s.heap.objs.size ao) { s with heap := s.heap.push o, toks := t } := by
  refine ⟨fun a x e => ⟨((S.push o t).keep a x e).1, (AH.set_ne _ _ (Nat.ne_of_lt (Heap.lt_size (S.keep a x e).1))).trans (S.keep a x e).2⟩, fun a ao' e => ?_, S.gens, S.os⟩
  by_cases q : a = s.heap.objs.size
  · subst q
    obtain rfl := Option.some.inj ((AH.set_same ..).symm.trans e)
    exact r _ (fun _ _ e => Heap.get?_push_of_some o e) (Heap.get?_push_size _ ho)
  · exact (S.push o t).objs a ao' ((AH.set_ne _ _ q).symm.trans e)
theorem Ext.alloc {H : AH} {h : Heap} (o : Obj) (ao : AObj) : Ext H h (H.set h.objs.size ao) (h.push o) := fun b x e n =>
  ⟨Heap.get?_push_of_some o e, by rw [AH.set_ne _ _ (Nat.ne_of_lt (Heap.lt_size e))]; exact n⟩

theorem St.update {cx : Cx} {H : AH} {s : Shared} {a : Addr} {ao ao' : AObj} {o' : Obj} {h' : Heap} (S : St cx H s) (e : H a = some ao) (hs : Heap.SameBut a s.heap h') (ho : h'.get? a = some o') (t : Nat)
    (r : (∀ b vs n, s.heap.get? b = some (tupObj vs n) → h'.get? b = some (tupObj vs n)) → ObjRep cx h' a ao') : St cx (H.set a ao') { s with heap := h', toks := t } := by
  have kt : ∀ b vs n, s.heap.get? b = some (tupObj vs n) → h'.get? b = some (tupObj vs n) := fun b vs n q => (hs.2 b (some_ne e (S.tupNone q)).symm).trans q
  refine ⟨fun b x q => ?_, fun b bo q => ?_, S.gens, S.os⟩
  · obtain ⟨q1, q2⟩ := S.keep b x q
    have n := (some_ne e q2).symm
    exact ⟨(hs.2 b n).trans q1, (AH.set_ne _ _ n).trans q2⟩
  · by_cases z : b = a
    · subst z; obtain rfl := Option.some.inj ((AH.set_same ..).symm.trans q); exact r kt
    · exact (S.objs b bo ((AH.set_ne _ _ z).symm.trans q)).mono kt (hs.2 b z)
theorem Ext.update {H : AH} {h h' : Heap} {a : Addr} {ao ao' : AObj} (e : H a = some ao) (hs : Heap.SameBut a h h') : Ext H h (H.set a ao') h' := fun b x q n =>
  ⟨(hs.2 b (some_ne e n).symm).trans q, (AH.set_ne _ _ (some_ne e n).symm).trans n⟩

theorem St.own {cx : Cx} {H : AH} {s : Shared} {a : Addr} {h' : Heap} (S : St cx H s) (e : H a = none) (g : cx.g0.get? a = none) (hs : Heap.SameBut a s.heap h') (nt : ∀ vs n, s.heap.get? a ≠ some (tupObj vs n)) (t : Nat) :
    St cx H { s with heap := h', toks := t } :=
  ⟨fun b x q => ⟨(hs.2 b (some_ne q g)).trans (S.keep b x q).1, (S.keep b x q).2⟩, fun b bo q => (S.objs b bo q).mono (fun b vs n q => (hs.2 b (fun z => nt vs n (z ▸ q))).trans q) (hs.2 b (some_ne q e)), S.gens, S.os⟩


noncomputable def Post (cx : Cx) (H : AH) (h : Heap) (Q : V → AH → Prop) : Value → Shared → Prop :=
  fun v s' => ∃ x H', St cx H' s' ∧ Ext H h H' s'.heap ∧ Rep s'.heap x v ∧ Q x H'
noncomputable def NoE : Value → Shared → Prop := fun _ _ => False

theorem Post.now {cx : Cx} {H : AH} {s : Shared} {Q : V → AH → Prop} {x : V} {v : Value} (S : St cx H s) (r : Rep s.heap x v) (t : Nat) (q : Q x H) : Post cx H s.heap Q v { s with toks := t } :=
  ⟨x, H, S.toks t, Ext.refl _ _, r, q⟩

structure Room (n : Nat) (A : Around) : Prop where
  depth : A.depth + 2 * n + 20 ≤ recursionLimit
  units : A.units + 8 * n + 200 ≤ cLine
  handled : A.handled = none

end Mine

namespace Mine

inductive BI where
  | len | str | int | chr | ord | abs | divmod | min | tuple
  deriving DecidableEq
inductive BM where
  | append | pop | reverse | get | join | zfill | startswith
  deriving DecidableEq

set_option genSizeOf false
set_option genInjectivity false
mutual
inductive PE where
  | bad
  | c (v : V)
  | x (i : Nat)
  | g (i : Nat)
  | bin (op : Operator) (a b : PE)
  | neg (a : PE)
  | not (a : PE)
  | bop (isAnd : Bool) (es : PEs)
  | ite (t a b : PE)
  | cmp (op : CmpOp) (a b : PE)
  | attr (o : PE) (k : Nat)
  | sub (o i : PE)
  | slice (o lo hi : PE)
  | bi (b : BI) (es : PEs)
  | bm (m : BM) (o : PE) (es : PEs)
  | call (f : Nat) (es : PEs)
  | new (f : Nat) (es : PEs)
  | meth (o : PE) (k : Nat) (es : PEs)
  | list (es : PEs)
  | tuple (es : PEs)
  | dict
  | joinrev (sep o : PE)
  | comp (f i : Nat) (e : PE)
inductive PEs where
  | nil
  | cons (e : PE) (es : PEs)
inductive Src where
  | val (e : PE)
  | range (e : PE)
  | rev (e : PE)
end

mutual
inductive PS where
  | bad
  | expr (e : PE)
  | asg (i : Nat) (e : PE)
  | unpack (is : List Nat) (e : PE)
  | setattr (o : PE) (k : Nat) (e : PE)
  | setsub (o i e : PE)
  | ite (t : PE) (a b : PSs)
  | wh (t : PE) (b : PSs)
  | for1 (i : Nat) (s : Src) (b : PSs)
  | forI (i j : Nat) (e : PE) (b : PSs)
  | brk
  | ret (e : PE)
inductive PSs where
  | nil
  | cons (s : PS) (r : PSs)
end

inductive FL where
  | next | brk
  | ret (v : V)

set_option genSizeOf true
set_option genInjectivity true

noncomputable abbrev Rho := List (Option V)
noncomputable def slot : Rho → Nat → Option V
  | [], _ => none
  | x :: _, 0 => x
  | _ :: r, i + 1 => slot r i
noncomputable def setSlot : Rho → Nat → V → Rho
  | [], _, _ => []
  | _ :: r, 0, v => some v :: r
  | x :: r, i + 1, v => x :: setSlot r i v
noncomputable def setSlots : Rho → List Nat → List V → Rho
  | ρ, i :: is, v :: vs => setSlots (setSlot ρ i v) is vs
  | ρ, _, _ => ρ
theorem setSlot_length : ∀ (ρ : Rho) (i : Nat) (v : V), (setSlot ρ i v).length = ρ.length
  | [], _, _ => rfl
  | _ :: _, 0, _ => rfl
  | _ :: r, i + 1, v => congrArg (· + 1) (setSlot_length r i v)
theorem slot_setSlot : ∀ (ρ : Rho) (i j : Nat) (v : V), slot (setSlot ρ i v) j = if j = i ∧ i < ρ.length then some v else slot ρ j
  | [], _, _, _ => by simp [slot, setSlot]
  | _ :: _, 0, 0, _ => by simp [slot, setSlot]
  | _ :: _, 0, _ + 1, _ => by simp [slot, setSlot]
  | _ :: _, _ + 1, 0, _ => by simp [slot, setSlot]
  | _ :: r, i + 1, j + 1, v => by simp [slot, setSlot, slot_setSlot r i j v]
noncomputable def int1 (a : V) (P : Int → Prop) : Prop := match a with
  | .int i => P i
  | _ => False
noncomputable def str1 (a : V) (P : List Nat → Prop) : Prop := match a with
  | .str i => P i
  | _ => False
noncomputable def ref1 (a : V) (P : Nat → Prop) : Prop := match a with
  | .ref i => P i
  | _ => False
noncomputable def int2 (a b : V) (P : Int → Int → Prop) : Prop := int1 a fun i => int1 b fun j => P i j
noncomputable def arg0 (l : List V) (P : Prop) : Prop := match l with
  | [] => P
  | _ => False
noncomputable def arg1 (l : List V) (P : V → Prop) : Prop := match l with
  | a :: l => arg0 l (P a)
  | _ => False
noncomputable def arg2 (l : List V) (P : V → V → Prop) : Prop := match l with
  | a :: l => arg1 l (P a)
  | _ => False
noncomputable def lenP (n : Nat) (P : Prop) : Prop := match Nat.ble n lim with
  | true => P
  | false => False
theorem lenP_inv {n : Nat} {P : Prop} (h : lenP n P) : n ≤ lim ∧ P := by
  unfold lenP at h
  split at h
  · exact ⟨Nat.le_of_ble_eq_true (by assumption), h⟩
  · exact h.elim
theorem lenP_mk {n : Nat} {P : Prop} (h : n ≤ lim) (p : P) : lenP n P := by
  unfold lenP; rw [Nat.ble_eq_true_of_le h]; exact p
noncomputable def truW (v : V) (H : AH) (P : Bool → Prop) : Prop := match v with
  | .bool b => P b
  | .int i => P (decide (i ≠ 0))
  | .str s => P (!s.isEmpty)
  | .none => P false
  | .ref a => ∃ xs, H a = some (.list xs) ∧ P (!xs.isEmpty)
  | _ => False

noncomputable def veq : V → V → Bool
  | .none, .none => true
  | .bool a, .bool b => a == b
  | .int a, .int b => decide (a = b)
  | .str a, .str b => decide (a = b)
  | .tup as, .tup bs => go as bs
  | _, _ => false
where go : List V → List V → Bool
  | [], [] => true
  | a :: as, b :: bs => veq a b && go as bs
  | _, _ => false

noncomputable def leS : List Nat → List Nat → Bool
  | [], _ => true
  | _ :: _, [] => false
  | a :: s, b :: t => decide (a < b) || (decide (a = b) && leS s t)

noncomputable def isStrV : V → Bool
  | .str _ => true
  | _ => false
noncomputable def keysOk2 (k : V) (es : List (V × V)) : Prop :=
  (∃ s, k = .str s ∧ ∀ e ∈ es, ∃ t, e.1 = .str t) ∨ (∃ i, k = .int i ∧ ∀ e ∈ es, ∃ j, e.1 = .int j)
noncomputable def keysOk (k : V) (es : List (V × V)) : Prop :=
  (∃ s, k = .str s ∧ ∀ e ∈ es, ∃ t, e.1 = .str t) ∨ (∃ i, k = .int i ∧ ∀ e ∈ es, ∃ j, e.1 = .int j) ∨
  (∃ ks : List Int, k = .tup (ks.map .int) ∧ ∀ e ∈ es, ∃ js : List Int, e.1 = .tup (js.map .int))

noncomputable def bool1 (a : V) (P : Bool → Prop) : Prop := match a with
  | .bool i => P i
  | _ => False
noncomputable def inL (x : V) (vs : List V) (P : Bool → Prop) : Prop := match isStrV x && vs.all isStrV with
  | true => P (vs.any fun y => veq y x)
  | false => False
noncomputable def inD (x : V) (es : List (V × V)) (P : Bool → Prop) : Prop := keysOk2 x es ∧ P (es.any fun e => veq e.1 x)
noncomputable def inW (x c : V) (H : AH) (P : Bool → Prop) : Prop := match c with
  | .str t => str1 x fun l => match l with
    | c :: r => (match r with
      | [] => P (decide (c ∈ t))
      | _ => False)
    | _ => False
  | .tup vs => inL x vs P
  | .ref a => (∃ vs, H a = some (.list vs) ∧ inL x vs P) ∨ (∃ es, H a = some (.dict es) ∧ inD x es P)
  | _ => False

noncomputable def eqW (a b : V) (P : Bool → Prop) : Prop := match a with
  | .int i => int1 b fun j => P (decide (i = j))
  | .str s => str1 b fun t => P (decide (s = t))
  | .bool x => bool1 b fun y => P (x == y)
  | .tup as => ∃ s i r t j, as = .str s :: .int i :: r ∧ b = .tup [.str t, .int j] ∧ P (decide (s = t) && (decide (i = j) && r.isEmpty))
  | _ => False
noncomputable def isNo (a b : V) (P : Bool → Prop) : Prop := match b with
    | .none => (match a with
      | .none => P true
      | _ => P false)
    | _ => False

noncomputable def cmpW (op : CmpOp) (a b : V) (H : AH) (P : Bool → Prop) : Prop := match op with
  | .Eq => eqW a b P
  | .NotEq => eqW a b fun t => P (!t)
  | .In => inW a b H P
  | .NotIn => inW a b H fun t => P (!t)
  | .Is => isNo a b P
  | .IsNot => isNo a b fun t => P (!t)
  | .Lt => int2 a b fun i j => P (decide (i < j))
  | .Gt => int2 a b fun i j => P (decide (j < i))
  | .GtE => int2 a b fun i j => P (decide (j ≤ i))
  | .LtE => (match a with
    | .int i => int1 b fun j => P (decide (i ≤ j))
    | .str s => str1 b fun t => P (leS s t)
    | _ => False)

noncomputable def binW (op : Operator) (a b : V) (H : AH) (Q : V → AH → Prop) : Prop := match op with
  | .Add => (match a with
    | .int i => int1 b fun j => Q (.int (i + j)) H
    | .str s => str1 b fun t => s.length + t.length ≤ lim ∧ Q (.str (s ++ t)) H
    | .ref a => ref1 b fun b => ∃ xs ys, H a = some (.list xs) ∧ H b = some (.list ys) ∧ xs.length + ys.length ≤ lim ∧ ∀ c, H c = none → Q (.ref c) (H.set c (.list (xs ++ ys)))
    | _ => False)
  | .Sub => int2 a b fun i j => Q (.int (i - j)) H
  | .Mult => int2 a b fun i j => -(2 ^ 62) < i ∧ i < 2 ^ 62 ∧ Q (.int (i * j)) H
  | .FloorDiv => int2 a b fun i j => 0 < j ∧ j < 2 ^ 63 ∧ Q (.int (i / j)) H
  | .Mod => int2 a b fun i j => 0 < j ∧ j < 2 ^ 63 ∧ Q (.int (i % j)) H
  | .Pow => int2 a b fun i j => i = 10 ∧ 1 ≤ j ∧ j < 100 ∧ Q (.int (i ^ j.toNat)) H
  | _ => False

noncomputable def idx (n : Nat) (i : Int) : Option Nat := if 0 ≤ i then (if i < n then some i.toNat else none) else if 0 ≤ i + n then some (i + n).toNat else none

noncomputable def lookV (es : List (V × V)) (k : V) : Option V := (es.find? fun e => veq e.1 k).map (·.2)
noncomputable def putV (es : List (V × V)) (k x : V) : List (V × V) :=
  if es.any (fun e => veq e.1 k) then es.map (fun e => if veq e.1 k then (e.1, x) else e) else es ++ [(k, x)]
noncomputable def subW (o i : V) (H : AH) (Q : V → AH → Prop) : Prop := match o with
  | .tup vs => int1 i fun i => ∃ j x, idx vs.length i = some j ∧ vs.length ≤ lim ∧ vs[j]? = some x ∧ Q x H
  | .str s => int1 i fun i => ∃ j x, idx s.length i = some j ∧ s[j]? = some x ∧ Q (.str [x]) H
  | .ref a => (∃ xs k j x, i = .int k ∧ H a = some (.list xs) ∧ idx xs.length k = some j ∧ xs[j]? = some x ∧ Q x H) ∨
      (∃ es x, H a = some (.dict es) ∧ keysOk2 i es ∧ lookV es i = some x ∧ Q x H)
  | _ => False

noncomputable def partI : V → Option (Option Int)
  | .none => some none
  | .int i => some (some i)
  | _ => none
noncomputable def cut {α : Type} (l : List α) (lo hi : Option Int) : List α :=
  (l.drop (lo.elim 0 (clipAt l.length))).take (hi.elim l.length (clipAt l.length) - lo.elim 0 (clipAt l.length))

noncomputable def sliceW (o lo hi : V) (cx : Cx) (H : AH) (Q : V → AH → Prop) : Prop := ∃ a b, partI lo = some a ∧ partI hi = some b ∧ ref1 o fun p =>
  ∃ xs, (H p = some (.list xs) ∨ (∃ vs, cx.g0.IsList p vs.toArray ∧ Reps cx.g0 xs vs ∧ xs.length ≤ lim)) ∧ ∀ c, H c = none → Q (.ref c) (H.set c (.list (cut xs a b)))

noncomputable def digits10 (n : Nat) : List Nat := (Nat.toDigits 10 n).map Char.toNat
noncomputable def showI (i : Int) : List Nat := if i < 0 then 45 :: digits10 i.natAbs else digits10 i.natAbs

noncomputable def biW (b : BI) (args : List V) (H : AH) (Q : V → AH → Prop) : Prop := match b with
  | .len => arg1 args fun x => match x with
    | .str s => Q (.int s.length) H
    | .tup vs => lenP vs.length (Q (.int vs.length) H)
    | .ref a => ∃ xs, H a = some (.list xs) ∧ Q (.int xs.length) H
    | _ => False
  | .str => arg1 args fun x => int1 x fun i => i.natAbs < 2 ^ 1900 ∧ Q (.str (showI i)) H
  | .int => arg1 args fun x => int1 x fun i => Q (.int i) H
  | .chr => arg1 args fun x => int1 x fun i => 0 ≤ i ∧ i < 0x110000 ∧ Q (.str [i.toNat]) H
  | .ord => arg1 args fun x => str1 x fun l => (match l with
    | c :: r => (match r with
      | [] => Q (.int c) H
      | _ => False)
    | _ => False)
  | .abs => arg1 args fun x => int1 x fun i => Q (.int i.natAbs) H
  | .divmod => arg2 args fun x y => int2 x y fun i j => 0 < j ∧ j < 2 ^ 63 ∧ Q (.tup [.int (i / j), .int (i % j)]) H
  | .min => arg2 args fun x y => int2 x y fun i j => Q (.int (if j < i then j else i)) H
  | .tuple => arg1 args fun x => ref1 x fun a => ∃ xs, H a = some (.list xs) ∧ Q (.tup xs) H

noncomputable def catS : List V → Option (List Nat)
  | [] => some []
  | .str s :: r => (catS r).map (s ++ ·)
  | _ :: _ => none
noncomputable def bmW (m : BM) (o : V) (args : List V) (H : AH) (Q : V → AH → Prop) : Prop := match m with
  | .append => ref1 o fun a => arg1 args fun x => ∃ xs, H a = some (.list xs) ∧ xs.length + 1 ≤ lim ∧ Q .none (H.set a (.list (xs ++ [x])))
  | .pop => ref1 o fun a => arg0 args (∃ xs x, H a = some (.list (xs ++ [x])) ∧ Q x (H.set a (.list xs)))
  | .reverse => ref1 o fun a => arg0 args (∃ xs, H a = some (.list xs) ∧ Q .none (H.set a (.list xs.reverse)))
  | .get => ref1 o fun a => match args with
    | k :: r => (match r with
      | [] => ∃ es, H a = some (.dict es) ∧ keysOk2 k es ∧ Q ((lookV es k).getD .none) H
      | d :: r => arg0 r (∃ es, H a = some (.dict es) ∧ keysOk k es ∧ Q ((lookV es k).getD d) H))
    | _ => False
  | .join => str1 o fun s => (match s with
    | [] => arg1 args fun x => ref1 x fun a => ∃ xs t, H a = some (.list xs) ∧ catS xs = some t ∧ t.length ≤ lim ∧ Q (.str t) H
    | _ => False)
  | .zfill => str1 o fun s => arg1 args fun x => int1 x fun n => 0 ≤ n ∧ n ≤ 100 ∧ s.length ≤ 100 ∧ (∀ c ∈ s, 48 ≤ c ∧ c ≤ 57) ∧ Q (.str (List.replicate (n.toNat - s.length) 48 ++ s)) H
  | .startswith => str1 o fun s => arg1 args fun x => str1 x fun t => Q (.bool (t.isPrefixOf s)) H

noncomputable def bmK (m : BM) (o : V) (H : AH) : Prop := match m with
  | .append | .pop | .reverse => ∃ a xs, o = .ref a ∧ H a = some (.list xs)
  | .get => ∃ a es, o = .ref a ∧ H a = some (.dict es)
  | .join | .zfill | .startswith => ∃ l, o = .str l

noncomputable def methIn (K : Frag) (C : Addr) (name : Str) : Option Addr := match findIn K (.ref C) name with
  | some (some (.ref f)) => if plainGet K C name && isFn K (.ref f) then some f else none
  | _ => none
noncomputable def attrOk (K : Frag) (C : Addr) (name : Str) : Bool :=
  plainGet K C name && hasDictIn K C && (match findIn K (.ref C) name with | some attr => noGet K attr | none => false) &&
  findIn K (.ref C) "__setattr__" == some (some (.builtin "object.__setattr__")) && plainOver K C && takerIn K C name == some none

noncomputable def lookN (fs : List (Nat × V)) (k : Nat) : Option V := (fs.find? fun e => e.1 == k).map (·.2)
noncomputable def putN' : List (Nat × V) → Nat → V → List (Nat × V)
  | [], k, x => [(k, x)]
  | e :: r, k, x => if (e.1 == k) = true then (e.1, x) :: r else e :: putN' r k x

noncomputable def attrW (cx : Cx) (o : V) (k : Nat) (H : AH) (Q : V → AH → Prop) : Prop := match o with
  | .ref a => ∃ C d fs n x, H a = some (.inst C d) ∧ H d = some (.ns fs) ∧ cx.an[k]? = some n ∧ attrOk cx.K C n = true ∧ lookN fs k = some x ∧ Q x H
  | _ => False
noncomputable def setattrW (cx : Cx) (o : V) (k : Nat) (x : V) (H : AH) (Q : AH → Prop) : Prop := match o with
  | .ref a => ∃ C d fs n, H a = some (.inst C d) ∧ H d = some (.ns fs) ∧ cx.an[k]? = some n ∧ attrOk cx.K C n = true ∧ fs.length ≤ 100 ∧ Q (H.set d (.ns (putN' fs k x)))
  | _ => False
noncomputable def setsubW (o i x : V) (H : AH) (Q : AH → Prop) : Prop := match o with
  | .ref a => ∃ es, H a = some (.dict es) ∧ keysOk i es ∧ es.length + 1 ≤ lim ∧ Q (H.set a (.dict (putV es i x)))
  | _ => False

noncomputable def CallOk (cx : Cx) (n : Nat) (f : Addr) (args : List V) (H : AH) (Q : V → AH → Prop) : Prop :=
  keepIn cx.K (.ref f) = true ∧ ∀ (A : Around) (s : Shared) (vs : List Value), Room n A → St cx H s → Reps s.heap args vs →
    codeAny (model cx.prog cx.w) A (.call (.ref f) ⟨vs, []⟩) (fun r s' => ∃ v, r = .ok (.ret v) ∧ Post cx H s.heap Q v s') s

noncomputable def refOf : V → Option Addr
  | .ref a => some a
  | _ => none

noncomputable def makes (cx : Cx) (C : Addr) : Option Addr := match findIn cx.K (.ref C) "__init__" with
  | some (some (.ref f)) => if makesIn cx.K C && isFn cx.K (.ref f) && keepIn cx.K (.ref C) then some f else none
  | _ => none

noncomputable def newW (cx : Cx) (n : Nat) (c : V) (args : List V) (H : AH) (Q : V → AH → Prop) : Prop := match c with
  | .ref C => ∃ f m, n = m + 1 ∧ makes cx C = some f ∧ ∀ d x, H d = none → H x = none → d ≠ x → CallOk cx m f (.ref x :: args) ((H.set d (.ns [])).set x (.inst C d)) (fun v H' => v = .none ∧ Q (.ref x) H')
  | _ => False
noncomputable def callW (cx : Cx) (n : Nat) (c : V) (args : List V) (H : AH) (Q : V → AH → Prop) : Prop := match c with
  | .ref f => CallOk cx n f args H Q
  | _ => False
noncomputable def methW (cx : Cx) (n : Nat) (o : V) (k : Nat) (H : AH) (P : Addr → Prop) : Prop := match o with
  | .ref a => ∃ C d fs nm f, H a = some (.inst C d) ∧ H d = some (.ns fs) ∧ cx.an[k]? = some nm ∧ methIn cx.K C nm = some f ∧ lookN fs k = none ∧ P f
  | _ => False

noncomputable def iterW (v : V) (H : AH) (k : List V → (AH → Prop) → Prop) : Prop := match v with
  | .tup vs => vs.length ≤ lim ∧ k vs (fun _ => True)
  | .str s => k (s.map fun c => .str [c]) (fun _ => True)
  | .ref a => ∃ xs, H a = some (.list xs) ∧ k xs (fun H' => H' a = some (.list xs))
  | _ => False
noncomputable def rangeW (v : V) (k : List V → (AH → Prop) → Prop) : Prop := match v with
  | .int i => i.natAbs < 2 ^ 62 ∧ k ((List.range i.toNat).map fun (j : Nat) => V.int (j : Int)) (fun _ => True)
  | _ => False
noncomputable def revW (v : V) (H : AH) (k : List V → (AH → Prop) → Prop) : Prop := match v with
  | .ref a => ∃ xs, H a = some (.list xs) ∧ k xs.reverse (fun H' => H' a = some (.list xs))
  | _ => False
noncomputable def forC (B : Rho → AH → (FL → Rho → AH → Prop) → Prop) (st : Rho → V → (Rho → Prop) → Prop) (G : AH → Prop) : List V → Rho → AH → (FL → Rho → AH → Prop) → Prop
  | [], ρ, H, R => G H ∧ R .next ρ H
  | x :: xs, ρ, H, R => G H ∧ st ρ x fun ρ₁ => B ρ₁ H fun fl ρ' H' => match fl with
    | .next => forC B st G xs ρ' H' R
    | .brk => R .next ρ' H'
    | .ret v => R (.ret v) ρ' H'
noncomputable def whC (T : Rho → AH → (Bool → AH → Prop) → Prop) (B : Rho → AH → (FL → Rho → AH → Prop) → Prop) : Nat → Rho → AH → (FL → Rho → AH → Prop) → Prop
  | 0, _, _, _ => False
  | n + 1, ρ, H, R => T ρ H fun t H₁ => if t = true then B ρ H₁ fun fl ρ' H' => (match fl with
      | .next => whC T B n ρ' H' R
      | .brk => R .next ρ' H'
      | .ret v => R (.ret v) ρ' H')
    else R .next ρ H₁
noncomputable def mapC (cx : Cx) (n f : Nat) (y : V) (c : Addr) : List V → List V → AH → (V → AH → Prop) → Prop
  | [], _, H, Q => Q (.ref c) H
  | x :: xs, acc, H, Q => callW cx n (cx.gl f) [x, y] H fun v H' => H' c = some (.list acc) ∧ acc.length + 1 ≤ lim ∧ mapC cx n f y c xs (acc ++ [v]) (H'.set c (.list (acc ++ [v]))) Q
noncomputable def stI (i j : Nat) (ρ : Rho) (e : V × V) : Rho := setSlot (setSlot ρ i e.1) j e.2
noncomputable def forD (B : Rho → AH → (FL → Rho → AH → Prop) → Prop) (i j d : Nat) (F : AObj) : List (V × V) → Rho → AH → (FL → Rho → AH → Prop) → Prop
  | [], ρ, H, R => H d = some F ∧ R .next ρ H
  | x :: xs, ρ, H, R => H d = some F ∧ B (stI i j ρ x) H fun fl ρ' H' => match fl with
    | .next => forD B i j d F xs ρ' H' R
    | _ => False
mutual
noncomputable def wpE (cx : Cx) (n : Nat) : PE → Rho → AH → (V → AH → Prop) → Prop
  | .bad, _, _, _ => False
  | .c v, _, H, Q => Q v H
  | .x i, ρ, H, Q => ∃ v, slot ρ i = some v ∧ Q v H
  | .g i, _, H, Q => Q (cx.gl i) H
  | .bin op a b, ρ, H, Q => wpE cx n a ρ H fun x H₁ => wpE cx n b ρ H₁ fun y H₂ => binW op x y H₂ Q
  | .neg a, ρ, H, Q => wpE cx n a ρ H fun x H₁ => ∃ i, x = .int i ∧ Q (.int (-i)) H₁
  | .not a, ρ, H, Q => wpE cx n a ρ H fun x H₁ => truW x H₁ fun t => Q (.bool (!t)) H₁
  | .bop isAnd es, ρ, H, Q => wpBop cx n isAnd es ρ H Q
  | .ite t a b, ρ, H, Q => wpE cx n t ρ H fun x H₁ => truW x H₁ fun t => if t = true then wpE cx n a ρ H₁ Q else wpE cx n b ρ H₁ Q
  | .cmp op a b, ρ, H, Q => wpE cx n a ρ H fun x H₁ => wpE cx n b ρ H₁ fun y H₂ => cmpW op x y H₂ fun t => Q (.bool t) H₂
  | .attr o k, ρ, H, Q => wpE cx n o ρ H fun x H₁ => attrW cx x k H₁ Q
  | .sub o i, ρ, H, Q => wpE cx n o ρ H fun x H₁ => wpE cx n i ρ H₁ fun y H₂ => subW x y H₂ Q
  | .slice o lo hi, ρ, H, Q => wpE cx n o ρ H fun x H₁ => wpE cx n lo ρ H₁ fun a H₂ => wpE cx n hi ρ H₂ fun b H₃ => sliceW x a b cx H₃ Q
  | .bi b es, ρ, H, Q => wpEs cx n es ρ H fun vs H₁ => biW b vs H₁ Q
  | .bm m o es, ρ, H, Q => wpE cx n o ρ H fun x H₁ => bmK m x H₁ ∧ wpEs cx n es ρ H₁ fun vs H₂ => bmW m x vs H₂ Q
  | .call f es, ρ, H, Q => wpEs cx n es ρ H fun vs H₁ => callW cx n (cx.gl f) vs H₁ Q
  | .new f es, ρ, H, Q => wpEs cx n es ρ H fun vs H₁ => newW cx n (cx.gl f) vs H₁ Q
  | .meth o k es, ρ, H, Q => wpE cx n o ρ H fun x H₁ => methW cx n x k H₁ fun f => wpEs cx n es ρ H₁ fun vs H₂ => CallOk cx n f (x :: vs) H₂ Q
  | .list es, ρ, H, Q => wpEs cx n es ρ H fun vs H₁ => vs.length ≤ lim ∧ ∀ c, H₁ c = none → Q (.ref c) (H₁.set c (.list vs))
  | .tuple es, ρ, H, Q => wpEs cx n es ρ H fun vs H₁ => vs.length ≤ lim ∧ Q (.tup vs) H₁
  | .dict, ρ, H, Q => ∀ c, H c = none → Q (.ref c) (H.set c (.dict []))
  | .joinrev sep o, ρ, H, Q => wpE cx n sep ρ H fun y H₀ => y = .str [] ∧ wpE cx n o ρ H₀ fun x H₁ => ∃ a xs t, x = .ref a ∧ H₁ a = some (.list xs) ∧ catS xs.reverse = some t ∧ t.length ≤ lim ∧ Q (.str t) H₁
  | .comp f i e, ρ, H, Q => ∃ y, slot ρ i = some y ∧ wpE cx n e ρ H fun x H₁ => ∃ vs, x = .tup vs ∧ ∀ c, H₁ c = none → mapC cx n f y c vs [] (H₁.set c (.list [])) fun v H₂ => biW .tuple [v] H₂ Q
noncomputable def wpEs (cx : Cx) (n : Nat) : PEs → Rho → AH → (List V → AH → Prop) → Prop
  | .nil, _, H, Q => Q [] H
  | .cons e es, ρ, H, Q => wpE cx n e ρ H fun x H₁ => wpEs cx n es ρ H₁ fun xs H₂ => Q (x :: xs) H₂
noncomputable def wpBop (cx : Cx) (n : Nat) (isAnd : Bool) : PEs → Rho → AH → (V → AH → Prop) → Prop
  | .nil, _, _, _ => False
  | .cons e es, ρ, H, Q => wpE cx n e ρ H fun x H₁ => match es with
    | .nil => Q x H₁
    | .cons _ _ => truW x H₁ fun t => if t = isAnd then wpBop cx n isAnd es ρ H₁ Q else Q x H₁
noncomputable def wpSrc (cx : Cx) (n : Nat) : Src → Rho → AH → (List V → (AH → Prop) → AH → Prop) → Prop
  | .val e, ρ, H, Q => wpE cx n e ρ H fun x H₁ => iterW x H₁ fun xs G => Q xs G H₁
  | .range e, ρ, H, Q => wpE cx n e ρ H fun x H₁ => rangeW x fun xs G => Q xs G H₁
  | .rev e, ρ, H, Q => wpE cx n e ρ H fun x H₁ => revW x H₁ fun xs G => Q xs G H₁
end

noncomputable def unpackTo (is : List Nat) (ρ : Rho) (v : V) (P : Rho → Prop) : Prop := ∃ vs, v = .tup vs ∧ vs.length = is.length ∧ P (setSlots ρ is vs)

mutual
noncomputable def wpS (cx : Cx) (n : Nat) : PS → Rho → AH → (FL → Rho → AH → Prop) → Prop
  | .bad, _, _, _ => False
  | .expr e, ρ, H, R => wpE cx n e ρ H fun _ H₁ => R .next ρ H₁
  | .asg i e, ρ, H, R => wpE cx n e ρ H fun x H₁ => R .next (setSlot ρ i x) H₁
  | .unpack is e, ρ, H, R => wpE cx n e ρ H fun x H₁ => unpackTo is ρ x fun ρ' => R .next ρ' H₁
  | .setattr o k e, ρ, H, R => wpE cx n e ρ H fun x H₁ => wpE cx n o ρ H₁ fun y H₂ => setattrW cx y k x H₂ fun H₃ => R .next ρ H₃
  | .setsub o i e, ρ, H, R => wpE cx n e ρ H fun x H₁ => wpE cx n o ρ H₁ fun y H₂ => wpE cx n i ρ H₂ fun z H₃ => setsubW y z x H₃ fun H₄ => R .next ρ H₄
  | .ite t a b, ρ, H, R => wpE cx n t ρ H fun x H₁ => truW x H₁ fun t => if t = true then wpSs cx n a ρ H₁ R else wpSs cx n b ρ H₁ R
  | .wh t b, ρ, H, R => ∃ k, whC (fun ρ H Q => wpE cx n t ρ H fun x H₁ => truW x H₁ fun t => Q t H₁) (fun ρ H R => wpSs cx n b ρ H R) k ρ H R
  | .for1 i s b, ρ, H, R => wpSrc cx n s ρ H fun xs G H₁ => forC (fun ρ H R => wpSs cx n b ρ H R) (fun ρ x P => P (setSlot ρ i x)) G xs ρ H₁ R
  | .forI i j e b, ρ, H, R => wpE cx n e ρ H fun x H₁ => ∃ d es, x = .ref d ∧ H₁ d = some (.dict es) ∧ (∀ e ∈ es, ∃ k, e.1 = .int k) ∧
      ∀ ds m, forD (fun ρ H R => wpSs cx n b ρ H R) i j d (.fz ds m) es ρ (H₁.set d (.fz ds m)) fun fl ρ' H' => R fl ρ' (H'.set d (.dict es))
  | .brk, ρ, H, R => R .brk ρ H
  | .ret e, ρ, H, R => wpE cx n e ρ H fun x H₁ => R (.ret x) ρ H₁
noncomputable def wpSs (cx : Cx) (n : Nat) : PSs → Rho → AH → (FL → Rho → AH → Prop) → Prop
  | .nil, ρ, H, R => R .next ρ H
  | .cons s r, ρ, H, R => wpS cx n s ρ H fun fl ρ' H' => match fl with
    | .next => wpSs cx n r ρ' H' R
    | .brk => R .brk ρ' H'
    | .ret v => R (.ret v) ρ' H'
end

end Mine

namespace Mine

theorem lim_eq : lim = sizeLine := sizeLine_eq.symm
theorem lim_val : lim = 16777216 := rfl
theorem okS_len {s : List Nat} (h : okS s = true) : s.length ≤ lim := of_decide_eq_true (Bool.and_eq_true_iff.mp h).2
theorem okS_all {s : List Nat} (h : okS s = true) : ∀ c ∈ s, c < 0x110000 := fun c hc => of_decide_eq_true (List.all_eq_true.mp (Bool.and_eq_true_iff.mp h).1 c hc)
theorem okS_mk {s : List Nat} (h : s.length ≤ lim) (k : ∀ c ∈ s, c < 0x110000) : okS s = true := Bool.and_eq_true_iff.mpr ⟨List.all_eq_true.mpr fun c hc => decide_eq_true (k c hc), decide_eq_true h⟩
theorem okS_one {c : Nat} (h : c < 0x110000) : okS [c] = true := okS_mk (show 1 ≤ lim by decide) fun d hd => by rw [List.mem_singleton.mp hd]; exact h
theorem big {n : Nat} (h : n ≤ 16777216) : ¬ (n : Int) ≥ 2 ^ 63 := by omega
theorem mkS_append (s t : List Nat) : mkS s ++ mkS t = mkS (s ++ t) := congrArg Str.mk (List.append_toArray s t)

section
variable {h : Heap} {a b : V} {v w : Value} {l : List V} {vs : List Value}
theorem int1_go {P : Int → Prop} (q : int1 a P) (r : Rep h a v) : ∃ i t, v = .int i t ∧ P i := by
  cases a with
  | int i => obtain ⟨t, rfl⟩ := r.inv; exact ⟨i, t, rfl, q⟩
  | _ => exact q.elim
theorem str1_go {P : List Nat → Prop} (q : str1 a P) (r : Rep h a v) : ∃ s t, v = .str (mkS s) t ∧ okS s = true ∧ P s := by
  cases a with
  | str s => obtain ⟨t, rfl, k⟩ := r.inv; exact ⟨s, t, rfl, k, q⟩
  | _ => exact q.elim
theorem ref1_go {P : Nat → Prop} (q : ref1 a P) (r : Rep h a v) : ∃ p, v = .ref p ∧ P p := by
  cases a with
  | ref p => exact ⟨p, r.inv, q⟩
  | _ => exact q.elim
theorem bool1_go {P : Bool → Prop} (q : bool1 a P) (r : Rep h a v) : ∃ p, v = .bool p ∧ P p := by
  cases a with
  | bool p => exact ⟨p, r.inv, q⟩
  | _ => exact q.elim
theorem int2_go {P : Int → Int → Prop} (q : int2 a b P) (r : Rep h a v) (r' : Rep h b w) : ∃ i j t u, v = .int i t ∧ w = .int j u ∧ P i j := by
  obtain ⟨i, t, e, q⟩ := int1_go q r
  obtain ⟨j, u, e', q⟩ := int1_go q r'
  exact ⟨i, j, t, u, e, e', q⟩
theorem arg0_go {P : Prop} (q : arg0 l P) (r : Reps h l vs) : vs = [] ∧ P := by
  cases l with
  | nil => exact ⟨r.inv, q⟩
  | cons _ _ => exact q.elim
theorem arg1_go {P : V → Prop} (q : arg1 l P) (r : Reps h l vs) : ∃ x v, vs = [v] ∧ Rep h x v ∧ P x := by
  cases l with
  | nil => exact q.elim
  | cons x l =>
    obtain ⟨v, r, rfl, r1, rs⟩ := r.inv
    obtain ⟨rfl, q⟩ := arg0_go q rs
    exact ⟨x, v, rfl, r1, q⟩
theorem arg2_go {P : V → V → Prop} (q : arg2 l P) (r : Reps h l vs) : ∃ x y v w, vs = [v, w] ∧ Rep h x v ∧ Rep h y w ∧ P x y := by
  cases l with
  | nil => exact q.elim
  | cons x l =>
    obtain ⟨v, r, rfl, r1, rs⟩ := r.inv
    obtain ⟨y, w, rfl, r2, q⟩ := arg1_go q rs
    exact ⟨x, y, v, w, rfl, r1, r2, q⟩
end

section
variable {cx : Cx} {A : Around} {H : AH} {s : Shared}
theorem St.list {a : Addr} {xs : List V} (S : St cx H s) (h : H a = some (.list xs)) : ∃ vs n, s.heap.get? a = some (lstObj vs n) ∧ Reps s.heap xs vs ∧ xs.length ≤ 16777216 ∧ vs.toArray.size = xs.length := by
  obtain ⟨vs, n, e, r, l⟩ := S.objs a _ h
  exact ⟨vs, n, e, r, l, r.length⟩

theorem truW_sound {v : V} {x : Value} {p : Bool → Prop} {Q : Bool → Shared → Prop} (S : St cx H s) (r : Rep s.heap v x) (h : truW v H p) (k : ∀ b t, p b → Q b { s with toks := t }) :
    wpAny (model cx.prog cx.w) A (truthy x) Q NoE s := by
  cases v with
  | none => obtain rfl := r.inv; exact wpAny_of_eq rfl (k false s.toks h)
  | bool b => obtain rfl := r.inv; exact wpAny_truthy_bool (k b s.toks h)
  | int i =>
    obtain ⟨t, rfl⟩ := r.inv
    refine PySem.P.truthy_int ?_
    rw [bne, show (i == 0) = decide (i = 0) from rfl, ← decide_not]; exact k _ s.toks h
  | str l =>
    obtain ⟨t, rfl, ok⟩ := r.inv
    refine PySem.P.truthy_str (by rw [mkS_length]; exact big (okS_len ok)) ?_
    rw [mkS_length, show ((l.length : Int) != 0) = !l.isEmpty by cases l <;> rfl]
    exact k _ _ h
  | tup l => exact h.elim
  | ref a =>
    obtain rfl := r.inv
    obtain ⟨xs, hx, hp⟩ := h
    obtain ⟨vs, n, e, rs, hl, hz⟩ := S.list hx
    refine wpAny_truthy_list (items := vs.toArray) ⟨_, e, rfl, n, rfl⟩ (by rw [hz]; exact Int.not_le.mp (big hl)) ?_
    rw [show (!vs.toArray.isEmpty) = !xs.isEmpty by cases xs <;> cases vs <;> first | rfl | cases hz]
    exact k _ _ hp

theorem Post.toks {Q : V → AH → Prop} {x : V} {v : Value} {t : Nat} (S : St cx H s) (r : Rep s.heap x v) (q : Q x H) : Post cx H s.heap Q v { s with toks := t } := Post.now S r t q
theorem Post.newList {Q : V → AH → Prop} {xs : List V} {vs : List Value} {t n : Nat} (S : St cx H s) (r : Reps s.heap xs vs) (hl : xs.length ≤ lim) (q : ∀ c, H c = none → Q (.ref c) (H.set c (.list xs))) :
    Post cx H s.heap Q (.ref s.heap.objs.size) { s with heap := s.heap.push (lstObj vs n), toks := t } :=
  ⟨_, _, S.alloc _ (.list xs) t rfl fun h' k e => ⟨vs, n, e, r.mono fun _ _ _ e => k _ _ e, hl⟩, Ext.alloc _ _, .ref _, q _ (S.fresh (Nat.le_refl _))⟩

theorem pos_small {j : Int} (h1 : 0 < j) (h2 : j < 2 ^ 63) : j.natAbs.log2 < 63 := (Nat.log2_lt (by omega)).mpr (by omega)
theorem ne0 {j : Int} (h : 0 < j) : j ≠ 0 := (Int.ne_of_lt h).symm
theorem beq0 {j : Int} (h : 0 < j) : ¬ (j == 0) = true := fun e => ne0 h (eq_of_beq e)
theorem binW_sound {op : Operator} {a b : V} {va vb : Value} {Q : V → AH → Prop} (S : St cx H s) (ra : Rep s.heap a va) (rb : Rep s.heap b vb) (h : binW op a b H Q) :
    wpAny (model cx.prog cx.w) A (binaryOp op va vb) (Post cx H s.heap Q) NoE s := by
  cases op with
  | Add => cases a with
    | int i =>
      obtain ⟨t, rfl⟩ := ra.inv
      obtain ⟨j, u, rfl, h⟩ := int1_go h rb
      exact PySem.P.add_int (Post.toks S (.int _ _) h)
    | str l =>
      obtain ⟨t, rfl, o1⟩ := ra.inv
      obtain ⟨m, u, rfl, o2, h⟩ := str1_go h rb
      refine SB.add (fun t k => ?_) (by rw [mkS_length, mkS_length, ← lim_eq]; exact h.1)
      rw [mkS_append]
      exact Post.toks S (.str _ _ (okS_mk (by rw [List.length_append]; exact h.1) fun c hc => (List.mem_append.mp hc).elim (okS_all o1 c) (okS_all o2 c))) h.2
    | ref a =>
      obtain rfl := ra.inv
      obtain ⟨b, rfl, xs, ys, hx, hy, hl, h⟩ := ref1_go h rb
      obtain ⟨vs, n, e, rs, _, z⟩ := S.list hx
      obtain ⟨ws, m, e', rs', _, z'⟩ := S.list hy
      refine concat_meets ⟨_, e, rfl⟩ ⟨_, e', rfl⟩ noFill_list_add seq_list_add PySem.F.slot_list_add PySem.F.entry_list_add (PySem.F.args_list_add_2 _ _)
        (list_addW _ _ vs.toArray ws.toArray n m none none #[] #[] (by rw [z, z', ← lim_eq]; exact hl)) ⟨e, e', ?_⟩
      rw [List.append_toArray]
      exact Post.newList S (rs.append rs') (by rw [List.length_append]; exact hl) h
    | _ => exact h.elim
  | Sub => obtain ⟨i, j, t, u, rfl, rfl, h⟩ := int2_go h ra rb; exact PySem.P.sub_int (Post.toks S (.int _ _) h)
  | Mult => obtain ⟨i, j, t, u, rfl, rfl, h1, h2, h⟩ := int2_go h ra rb; exact PySem.P.mul_int (Post.toks S (.int _ _) h) (IntMulOk.of_left (intBits_le_64 (by omega) (by omega)))
  | FloorDiv =>
    obtain ⟨i, j, t, u, rfl, rfl, h1, h2, h⟩ := int2_go h ra rb
    refine AutoIntOps.floordiv_1 (beq0 h1) ?_ (Post.toks S (.int _ _) ?_)
    · rw [PyProof.noPylong_of_log2 (Nat.lt_trans (pos_small h1 h2) (by decide))]; exact Bool.false_ne_true
    · rw [Int.fdiv_eq_ediv_of_nonneg _ (Int.le_of_lt h1)]; exact h
  | Mod =>
    obtain ⟨i, j, t, u, rfl, rfl, h1, h2, h⟩ := int2_go h ra rb
    refine AutoIntOps.mod_1 (beq0 h1) (Post.toks S (.int _ _) ?_)
    rw [Int.fmod_eq_emod_of_nonneg _ (Int.le_of_lt h1)]; exact h
  | Pow =>
    obtain ⟨_, j, t, u, rfl, rfl, rfl, h1, h2, h⟩ := int2_go h ra rb
    refine AutoIntOps.pow_4 (by omega) (by simp; omega) (by decide) (by decide) ?_ (Post.toks S (.int _ _) h)
    rw [show Builtin.Int.intBits 10 = 4 by decide +kernel]
    simp only [Builtin.Int.intTooBig, decide_eq_true_eq, show bitsLine = 134217728 by decide +kernel]
    omega
  | _ => exact h.elim

theorem neg_sound {i : Int} {va : Value} {Q : V → AH → Prop} (S : St cx H s) (ra : Rep s.heap (.int i) va) (h : Q (.int (-i)) H) :
    wpAny (model cx.prog cx.w) A (unaryOp .USub va) (Post cx H s.heap Q) NoE s := by
  obtain ⟨t, rfl⟩ := ra.inv; exact PySem.P.neg_int (Post.toks S (.int _ _) h)
end
end Mine

namespace Mine

noncomputable def biName : BI → Str
  | .len => "len"
  | .str => "str"
  | .int => "int"
  | .chr => "chr"
  | .ord => "ord"
  | .abs => "abs"
  | .divmod => "divmod"
  | .min => "min"
  | .tuple => "tuple"
noncomputable def biVal : BI → Value
  | .len => .builtin "len"
  | .str => .type "str"
  | .int => .type "int"
  | .chr => .builtin "chr"
  | .ord => .builtin "ord"
  | .abs => .builtin "abs"
  | .divmod => .builtin "divmod"
  | .min => .builtin "min"
  | .tuple => .type "tuple"
noncomputable def GlobIs (g : Heap) (x : Str) (v : Value) : Prop := ∃ mg mb, g.Ns mainGlobals mg ∧ g.Ns builtinsNs mb ∧ (mg x = some v ∨ (mg x = none ∧ mb x = some v))
structure CxOk (cx : Cx) : Prop where
  K_in : cx.K.In cx.g0
  sysmod : ∃ o, cx.g0.get? sysModules = some o
  nolimit : cx.g0.NoLimit
  an_nd : cx.an.Nodup
  glob : ∀ i x, cx.gn[i]? = some x → ∃ v, GlobIs cx.g0 x v ∧ Rep cx.g0 (cx.gl i) v
  bi : ∀ b, GlobIs cx.g0 (biName b) (biVal b)
  range : GlobIs cx.g0 "range" (.type "range")
  reversed : GlobIs cx.g0 "reversed" (.type "reversed")
theorem St.notSys {cx : Cx} {H : AH} {s : Shared} (ok : CxOk cx) (S : St cx H s) {a ao} (e : H a = some ao) : (a == sysModules) = false := by
  obtain ⟨o, ho⟩ := ok.sysmod
  exact beq_eq_false_iff_ne.mpr (some_ne e (S.keep _ _ ho).2)
theorem St.inK {cx : Cx} {H : AH} {s : Shared} (ok : CxOk cx) (S : St cx H s) : cx.K.In s.heap := ok.K_in.keeps fun b o e => (S.keep b o e).1

section
variable {K β : Type} [DecidableEq K] {E : K → V} {R : V × V → K × β → Prop} {es : List (V × V)} {xs : List (K × β)} (hv : ∀ a b, veq (E a) (E b) = decide (a = b)) (hk : ∀ p q, R p q → p.1 = E q.1) (r : All2 R es xs)
include hv hk r
theorem kv_find (k : K) : (∃ p q, es.find? (fun e => veq e.1 (E k)) = some p ∧ xs.find? (fun q => decide (q.1 = k)) = some q ∧ R p q) ∨ (es.find? (fun e => veq e.1 (E k)) = none ∧ xs.find? (fun q => decide (q.1 = k)) = none) := by
  induction r with
  | nil => exact .inr ⟨rfl, rfl⟩
  | @cons p q es xs a _ ih =>
    rw [List.find?_cons, List.find?_cons, hk p q a, hv]
    cases decide (q.1 = k) with
    | true => exact .inl ⟨p, q, rfl, rfl, a⟩
    | false => exact ih
theorem kv_look (k : K) : (∃ x q, lookV es (E k) = some x ∧ (xs.find? fun q => decide (q.1 = k)).map (·.2) = some q.2 ∧ ∃ p, R p q ∧ p.2 = x) ∨ (lookV es (E k) = none ∧ (xs.find? fun q => decide (q.1 = k)).map (·.2) = none) := by
  unfold lookV
  rcases kv_find hv hk r k with ⟨p, q, e1, e2, a⟩ | ⟨e1, e2⟩ <;> rw [e1, e2]
  · exact .inl ⟨p.2, q, rfl, rfl, p, a, rfl⟩
  · exact .inr ⟨rfl, rfl⟩
theorem kv_any (k : K) : (es.any fun e => veq e.1 (E k)) = xs.any fun q => decide (q.1 = k) := by
  induction r with
  | nil => rfl
  | @cons p q es xs a _ ih => rw [List.any_cons, List.any_cons, hk p q a, hv, ih]
theorem kv_map {k : K} {x : V} {u : K × β → K × β} (hu : ∀ p q, R p q → q.1 = k → R (p.1, x) (u q)) :
    All2 R (es.map fun e => if veq e.1 (E k) then (e.1, x) else e) (xs.map fun q => if q.1 = k then u q else q) := by
  induction r with
  | nil => exact .nil
  | @cons p q es xs a _ ih =>
    refine .cons ?_ ih
    show R (if veq p.1 (E k) = true then _ else _) (if q.1 = k then _ else _)
    rw [show veq p.1 (E k) = decide (q.1 = k) from hk p q a ▸ hv _ _]
    by_cases e : q.1 = k
    · rw [if_pos (decide_eq_true e), if_pos e]; exact hu p q a e
    · rw [if_neg (fun z => e (of_decide_eq_true z)), if_neg e]; exact a
theorem kv_nodup : (es.map (·.1)).Nodup ↔ (xs.map (·.1)).Nodup := by
  have e : es.map (·.1) = (xs.map (·.1)).map E := by
    induction r with
    | nil => rfl
    | @cons p q es xs a _ ih => rw [List.map_cons, List.map_cons, List.map_cons, hk p q a, ih]
  have inj : ∀ a b : K, E a ≠ E b ↔ a ≠ b := fun a b => ⟨fun h z => h (congrArg E z), fun h z => h (of_decide_eq_true ((hv a b).symm.trans (by rw [z, hv]; exact decide_eq_true rfl)))⟩
  rw [e, List.Nodup, List.Nodup, List.pairwise_map]
  exact ⟨fun h => h.imp fun z => (inj _ _).mp z, fun h => h.imp fun z => (inj _ _).mpr z⟩
end
theorem lookV_any (es : List (V × V)) (k : V) : (lookV es k).isSome = es.any fun e => veq e.1 k := by
  unfold lookV; rw [Option.isSome_map, List.isSome_find?]
theorem putV_length (es : List (V × V)) (k x : V) : (putV es k x).length ≤ es.length + 1 := by
  unfold putV; split
  · rw [List.length_map]; exact Nat.le_succ _
  · rw [List.length_append]; exact Nat.le_refl _

structure KEnc (prog : Program) (w : World) (K : Type) [DecidableEq K] where
  knd : KeyKind prog w K
  enc : K → V
  okK : K → Prop
  to_is : ∀ {h : Heap} {k : K} {v : Value}, Rep h (enc k) v → knd.is k v = true ∧ okK k
  of_is : ∀ {h : Heap} {k : K} {v : Value}, okK k → knd.is k v = true → Rep h (enc k) v
  hash : ∀ k, hashV w (enc k) = knd.hash k
  veq : ∀ a b, veq (enc a) (enc b) = decide (a = b)
noncomputable def encS (prog : Program) (w : World) : KEnc prog w Str where
  knd := strKind prog w
  enc := fun x => .str x.cps.toList
  okK := fun x => okS x.cps.toList = true
  to_is := fun {h k v} r => by obtain ⟨t, rfl, ok⟩ := r.inv; exact ⟨strKind_is prog w k t, ok⟩
  of_is := fun {h k v} ok e => by obtain ⟨t, rfl⟩ := Value.isStrOf_shape e; exact Rep.str k.cps.toList t ok
  hash := fun k => rfl
  veq := fun a b => decide_eq_decide.mpr ⟨fun h => congrArg mkS h, fun h => congrArg (fun x : Str => x.cps.toList) h⟩
noncomputable def encI (prog : Program) (w : World) : KEnc prog w Int where
  knd := intKind prog w
  enc := .int
  okK := fun _ => True
  to_is := fun {h k v} r => by obtain ⟨t, rfl⟩ := r.inv; exact ⟨intKind_is prog w k t, trivial⟩
  of_is := fun {h k v} _ e => by obtain ⟨t, rfl⟩ := Value.isInt_shape e; exact .int _ _
  hash := fun k => rfl
  veq := fun a b => rfl

section
variable {cx : Cx} {A : Around} {H : AH} {s : Shared} {K : Type} [DecidableEq K] (c : KEnc cx.prog cx.w K)
noncomputable abbrev KVe (h : Heap) (p : V × V) (q : K × Value) : Prop := p.1 = c.enc q.1 ∧ c.okK q.1 ∧ Rep h p.2 q.2
noncomputable abbrev KV (h : Heap) : List (V × V) → List (K × Value) → Prop := All2 (KVe c h)
variable {c}
theorem kve (h : Heap) : ∀ p q, KVe c h p q → p.1 = c.enc q.1 := fun _ _ x => x.1
theorem KV.look {h : Heap} {es kvs} (r : KV c h es kvs) (k : K) : (∃ x v, lookV es (c.enc k) = some x ∧ valueAt kvs k = some v ∧ Rep h x v) ∨ (lookV es (c.enc k) = none ∧ valueAt kvs k = none) := by
  rcases kv_look c.veq (kve h) r k with ⟨x, q, e1, e2, p, a, rfl⟩ | e
  · exact .inl ⟨_, _, e1, e2, a.2.2⟩
  · exact .inr e
theorem KV.store {h : Heap} {es kvs} (r : KV c h es kvs) {k : K} (hk : c.okK k) {x : V} {v : Value} (rx : Rep h x v) : KV c h (putV es (c.enc k) x) (stored kvs k v) := by
  unfold putV stored
  rw [kv_any c.veq (kve h) r k]
  split
  · exact kv_map c.veq (kve h) r fun p q a _ => ⟨a.1, a.2.1, rx⟩
  · exact r.append (.cons ⟨rfl, hk, rx⟩ .nil)

theorem ents_to {h : Heap} {es : List (V × V)} {ds : List DictEntry} (r : Ents cx.w h es ds) (hk : ∀ e ∈ es, ∃ k, e.1 = c.enc k) :
    ∃ kvs, KV c h es kvs ∧ Pairs c.knd ds kvs ∧ ∀ d ∈ ds, ∃ k, c.knd.is k d.key = true ∧ d.hash = c.knd.hash k := by
  induction r with
  | nil => exact ⟨[], .nil, .nil, fun _ h => nomatch h⟩
  | @cons p e es ds a _ ih =>
    obtain ⟨kvs, x, y, z⟩ := ih fun e he => hk e (List.mem_cons_of_mem _ he)
    obtain ⟨k, e1⟩ := hk p List.mem_cons_self
    obtain ⟨a1, a2, a3⟩ := a
    rw [e1] at a1 a2
    obtain ⟨i1, i2⟩ := c.to_is a1
    refine ⟨(k, e.val) :: kvs, .cons ⟨e1, i2, a3⟩ x, .cons i1 rfl y, fun d hd => ?_⟩
    rcases List.mem_cons.mp hd with rfl | hd
    · exact ⟨k, i1, a2.trans (c.hash k)⟩
    · exact z d hd
theorem ents_of {h : Heap} {es : List (V × V)} {kvs : List (K × Value)} {ds : List DictEntry} (r : KV c h es kvs) (p : Pairs c.knd ds kvs) (hk : ∀ d ∈ ds, ∃ k, c.knd.is k d.key = true ∧ d.hash = c.knd.hash k) : Ents cx.w h es ds := by
  induction p generalizing es with
  | nil => cases r; exact .nil
  | @cons e kv ds kvs p1 p2 _ ih =>
    cases r with
    | @cons p _ es _ a r =>
      obtain ⟨k, h1, h2⟩ := hk _ List.mem_cons_self
      obtain rfl := c.knd.inj _ _ _ h1 p1
      refine .cons ⟨a.1 ▸ c.of_is a.2.1 p1, ?_, p2 ▸ a.2.2⟩ (ih r fun d hd => hk d (List.mem_cons_of_mem _ hd))
      rw [a.1, c.hash]; exact h2
theorem dictOf_to {a : Addr} {es : List (V × V)} (S : St cx H s) (e : H a = some (.dict es)) (hk : ∀ e ∈ es, ∃ k, e.1 = c.enc k) :
    ∃ kvs, KV c s.heap es kvs ∧ s.heap.DictOf c.knd a kvs ∧ s.heap.MapOf c.knd a (valueAt kvs) := by
  obtain ⟨ds, n, e1, r, hl, nd⟩ := S.objs a _ e
  obtain ⟨kvs, a1, b1, d1⟩ := ents_to r hk
  have ko : KeysOf c.knd ds.toArray := fun d hd => d1 d (List.mem_toArray.mp hd)
  exact ⟨kvs, a1, ⟨_, ds.toArray, n, e1, ⟨rfl, rfl, rfl⟩, rfl, ko, b1, (kv_nodup c.veq (kve _) a1).mp nd⟩, ⟨_, ds.toArray, n, e1, ⟨rfl, rfl, rfl⟩, rfl, ko, fun k => by
    rw [← b1.find k]; unfold findBy; rw [List.find?_toArray]⟩⟩
theorem dictOf_of {h' : Heap} {a : Addr} {es : List (V × V)} {kvs : List (K × Value)} (r : KV c h' es kvs) (d : h'.DictOf c.knd a kvs) (hl : es.length ≤ lim) : ObjRep cx h' a (.dict es) := by
  obtain ⟨⟨oc, od, oda, osl⟩, es', ep, ho, ⟨hc, hd, hs⟩, hdd, hk, hp, nd⟩ := d
  obtain rfl : oc = _ := hc
  obtain rfl : od = _ := hd
  obtain rfl : osl = _ := hs
  obtain rfl : oda = _ := hdd
  exact ⟨es'.toList, ep, ho, ents_of r hp fun d hd => hk d (Array.mem_toList_iff.mp hd), hl, (kv_nodup c.veq (kve _) r).mpr nd⟩

theorem in_dict {a : Addr} {k : K} {key : Value} {es : List (V × V)} {Q : Value → Shared → Prop} (ok : CxOk cx) (S : St cx H s) (e : H a = some (.dict es)) (hk : ∀ e ∈ es, ∃ k, e.1 = c.enc k) (rk : Rep s.heap (c.enc k) key)
    (h : Q (.bool (es.any fun e => veq e.1 (c.enc k))) { s with toks := s.toks + 1 }) : wpAny (model cx.prog cx.w) A (compareOp .In key (.ref a)) Q NoE s := by
  obtain ⟨kvs, a1, _, m1⟩ := dictOf_to (c := c) S e hk
  refine wpAny_in_of (c.to_is rk).1 (S.notSys ok e) m1 ?_
  rw [← lookV_any] at h
  rcases a1.look k with ⟨x, v, q1, q2, _⟩ | ⟨q1, q2⟩ <;> rw [q1] at h <;> rw [q2] <;> exact h
theorem notin_dict {a : Addr} {k : K} {key : Value} {es : List (V × V)} {Q : Value → Shared → Prop} (ok : CxOk cx) (S : St cx H s) (e : H a = some (.dict es)) (hk : ∀ e ∈ es, ∃ k, e.1 = c.enc k) (rk : Rep s.heap (c.enc k) key)
    (h : Q (.bool (!es.any fun e => veq e.1 (c.enc k))) { s with toks := s.toks + 1 }) : wpAny (model cx.prog cx.w) A (compareOp .NotIn key (.ref a)) Q NoE s := by
  obtain ⟨kvs, a1, _, m1⟩ := dictOf_to (c := c) S e hk
  refine wpAny_notIn_of (c.to_is rk).1 (S.notSys ok e) m1 ?_
  rw [← lookV_any] at h
  rcases a1.look k with ⟨x, v, q1, q2, _⟩ | ⟨q1, q2⟩ <;> rw [q1] at h <;> rw [q2] <;> exact h
theorem get2_dict {a : Addr} {k : K} {key dv : Value} {d : V} {es : List (V × V)} {Q : V → AH → Prop} (ok : CxOk cx) (S : St cx H s) (e : H a = some (.dict es)) (hk : ∀ e ∈ es, ∃ k, e.1 = c.enc k) (rk : Rep s.heap (c.enc k) key) (rd : Rep s.heap d dv)
    (h : Q ((lookV es (c.enc k)).getD d) H) : wpAny (model cx.prog cx.w) A (call (.builtin "dict.get") [.ref a, key, dv]) (Post cx H s.heap Q) NoE s := by
  obtain ⟨kvs, a1, _, m1⟩ := dictOf_to (c := c) S e hk
  refine call_meetsIn F.slot_dict_get m1.typeIs F.entry_dict_get (F.args_dict_get_3 _ _ _) (meets_dict_get_default c.knd a (c.to_is rk).1 (S.notSys ok e) dv) ⟨_, m1, ?_⟩
  rcases a1.look k with ⟨x, v, q1, q2, rx⟩ | ⟨q1, q2⟩ <;> rw [q1] at h <;> rw [q2]
  · exact Post.toks S rx h
  · exact Post.toks S rd h
theorem get1_dict {a : Addr} {k : K} {key : Value} {es : List (V × V)} {Q : V → AH → Prop} (ok : CxOk cx) (S : St cx H s) (e : H a = some (.dict es)) (hk : ∀ e ∈ es, ∃ k, e.1 = c.enc k) (rk : Rep s.heap (c.enc k) key)
    (h : Q ((lookV es (c.enc k)).getD .none) H) : wpAny (model cx.prog cx.w) A (call (.builtin "dict.get") [.ref a, key]) (Post cx H s.heap Q) NoE s := by
  obtain ⟨kvs, a1, _, m1⟩ := dictOf_to (c := c) S e hk
  refine call_meetsIn F.slot_dict_get m1.typeIs F.entry_dict_get (F.args_dict_get_2 _ _) (meets_dict_get c.knd a (c.to_is rk).1 (S.notSys ok e)) ⟨_, m1, ?_⟩
  rcases a1.look k with ⟨x, v, q1, q2, rx⟩ | ⟨q1, q2⟩ <;> rw [q1] at h <;> rw [q2]
  · exact Post.toks S rx h
  · exact Post.toks S .none h
theorem item_dict {a : Addr} {k : K} {key : Value} {x : V} {es : List (V × V)} {Q : V → AH → Prop} (S : St cx H s) (e : H a = some (.dict es)) (hk : ∀ e ∈ es, ∃ k, e.1 = c.enc k) (rk : Rep s.heap (c.enc k) key)
    (hx : lookV es (c.enc k) = some x) (h : Q x H) : wpAny (model cx.prog cx.w) A (getItem (.ref a) key) (Post cx H s.heap Q) NoE s := by
  obtain ⟨kvs, a1, _, m1⟩ := dictOf_to (c := c) S e hk
  rcases a1.look k with ⟨y, v, q1, q2, rx⟩ | ⟨q1, _⟩
  · obtain rfl := Option.some.inj (hx.symm.trans q1)
    exact wpAny_getItem_of (c.to_is rk).1 m1 q2 (Post.toks S rx h)
  · exact nomatch hx.symm.trans q1
theorem put_dict {a : Addr} {k : K} {key v : Value} {x : V} {es : List (V × V)} {Q : Unit → Shared → Prop} (S : St cx H s) (e : H a = some (.dict es)) (hk : ∀ e ∈ es, ∃ k, e.1 = c.enc k) (rk : Rep s.heap (c.enc k) key) (rx : Rep s.heap x v)
    (hl : es.length + 1 ≤ lim) (h : ∀ s', St cx (H.set a (.dict (putV es (c.enc k) x))) s' → Ext H s.heap (H.set a (.dict (putV es (c.enc k) x))) s'.heap → Q () s') : wpAny (model cx.prog cx.w) A (setItem (.ref a) key v) Q NoE s := by
  obtain ⟨kvs, a1, d1, m1⟩ := dictOf_to (c := c) S e hk
  obtain ⟨i1, i2⟩ := c.to_is rk
  refine wpAny_setItem_pairs i1 d1 (fun h' d' hs => ?_) (by rw [a1.length, ← lim_eq]; exact Nat.le_of_succ_le hl)
  obtain ⟨o, _, _, ho, _⟩ := id d'
  refine h _ (S.update e hs ho (s.toks + 1) fun kt => dictOf_of (c := c) ((a1.store i2 rx).imp fun _ _ q => ⟨q.1, q.2.1, q.2.2.mono kt⟩) d' (Nat.le_trans (putV_length _ _ _) hl)) (Ext.update e hs)
end
end Mine

namespace Mine

noncomputable abbrev tupI (ks : List Int) : V := .tup (ks.map .int)
noncomputable abbrev KHe (h : Heap) (p : V × V) (q : List Int × Addr × Value) : Prop := p.1 = tupI q.1 ∧ Rep h (tupI q.1) (.ref q.2.1) ∧ Rep h p.2 q.2.2
theorem khe (h : Heap) : ∀ p q, KHe h p q → p.1 = tupI q.1 := fun _ _ x => x.1
theorem tupI_eq (a b : List Int) : veq (tupI a) (tupI b) = decide (a = b) := by
  show veq.go _ _ = _
  induction a generalizing b with
  | nil => cases b <;> rfl
  | cons k ks ih => cases b with
    | nil => rfl
    | cons j js =>
      show (decide (k = j) && veq.go (ks.map V.int) (js.map V.int)) = _
      rw [ih, Bool.eq_iff_iff]; simp
theorem reps_ints {prog : Program} {w : World} {h : Heap} {ks : List Int} {vs : List Value} (r : Reps h (ks.map .int) vs) : ItemsAre (intKind prog w) ks vs := by
  induction ks generalizing vs with
  | nil => obtain rfl := r.inv; exact .nil
  | cons k ks ih =>
    obtain ⟨v, r, rfl, r1, rs⟩ := r.inv
    obtain ⟨t, rfl⟩ := r1.inv
    exact .cons (intKind_is prog w k t) (ih rs)
theorem tupKey_of {prog : Program} {w : World} {h : Heap} {ks : List Int} {a : Addr} (r : Rep h (tupI ks) (.ref a)) : IsTupleKey (intKind prog w) h ks a := by
  obtain ⟨b, vs, n, e, e1, rs⟩ := r.inv
  obtain rfl := Value.ref.inj e
  exact ⟨_, _, _, e1, rfl, rfl, reps_ints rs⟩
theorem hash_tup (prog : Program) (w : World) (ks : List Int) : hashV w (tupI ks) = tupleKeyHash (intKind prog w) ks :=
  congrArg (tupleKeyHash (intKind prog w)) ((List.map_map (l := ks) (f := V.int)).trans (List.map_id ks))
theorem ref_of {h : Heap} {ls : List V} {v : Value} (r : Rep h (.tup ls) v) : ∃ b, v = .ref b := by obtain ⟨b, _, _, e, _⟩ := r.inv; exact ⟨b, e⟩

theorem in1_units {A : Around} (hu : A.units + 100 < cLine) : A.in1.units < cLine := Nat.lt_of_le_of_lt (Nat.add_le_add_left (by decide : 1 ≤ 100) _) hu
section
variable {cx : Cx} {A : Around} {H : AH} {s : Shared}
theorem dictH_to {a : Addr} {es : List (V × V)} (S : St cx H s) (e : H a = some (.dict es)) (hk : ∀ e ∈ es, ∃ k : List Int, e.1 = tupI k) :
    ∃ xs, All2 (KHe s.heap) es xs ∧ s.heap.DictOfH (tupleKind (intKind cx.prog cx.w)) a xs := by
  obtain ⟨ds, n, e1, r, hl, nd⟩ := S.objs a _ e
  have : ∃ xs, All2 (KHe s.heap) es xs ∧ ds = xs.map (entryOfKey (tupleKind (intKind cx.prog cx.w))) ∧ (∀ x ∈ xs, IsTupleKey (intKind cx.prog cx.w) s.heap x.1 x.2.1) := by
    clear e e1 nd hl
    induction r with
    | nil => exact ⟨[], .nil, rfl, fun _ h => nomatch h⟩
    | @cons p d es ds a _ ih =>
      obtain ⟨xs, a1, a2, a3⟩ := ih fun e he => hk e (List.mem_cons_of_mem _ he)
      obtain ⟨k, e1⟩ := hk p List.mem_cons_self
      obtain ⟨dh, dk, dv⟩ := d
      obtain ⟨r1, r2, r3⟩ := a
      rw [e1] at r1 r2
      obtain ⟨b, e2⟩ := ref_of r1
      obtain rfl : dk = .ref b := e2
      refine ⟨(k, b, dv) :: xs, .cons ⟨e1, r1, r3⟩ a1, ?_, fun y hy => ?_⟩
      · rw [List.map_cons, a2, show dh = _ from r2, hash_tup cx.prog]; rfl
      · rcases List.mem_cons.mp hy with rfl | hy
        · exact tupKey_of r1
        · exact a3 y hy
  obtain ⟨xs, a1, a2, a3⟩ := this
  exact ⟨xs, a1, _, ds.toArray, n, e1, ⟨rfl, rfl, rfl⟩, rfl, a2, a3, (kv_nodup tupI_eq (khe _) a1).mp nd⟩
theorem dictH_of {h' : Heap} {a : Addr} {es : List (V × V)} {xs} (r : All2 (KHe h') es xs) (d : h'.DictOfH (tupleKind (intKind cx.prog cx.w)) a xs) (hl : es.length ≤ lim) : ObjRep cx h' a (.dict es) := by
  obtain ⟨⟨oc, od, oda, osl⟩, es', ep, ho, ⟨hc, hd, hs⟩, hdd, he, hi, nd⟩ := d
  obtain rfl : oc = _ := hc
  obtain rfl : od = _ := hd
  obtain rfl : osl = _ := hs
  obtain rfl : oda = _ := hdd
  refine ⟨es'.toList, ep, ho, ?_, hl, (kv_nodup tupI_eq (khe _) r).mpr nd⟩
  rw [he]
  clear hi nd he hl
  induction r with
  | nil => exact .nil
  | @cons p q es xs a _ ih => exact .cons ⟨a.1 ▸ a.2.1, (hash_tup cx.prog cx.w q.1).symm.trans (congrArg (hashV cx.w) a.1.symm), a.2.2⟩ ih

theorem get2_dictH {a : Addr} {k : List Int} {key dv : Value} {d : V} {es : List (V × V)} {Q : V → AH → Prop} (ok : CxOk cx) (hu : A.units + 100 < cLine) (S : St cx H s) (e : H a = some (.dict es)) (hk : ∀ e ∈ es, ∃ k : List Int, e.1 = tupI k)
    (rk : Rep s.heap (tupI k) key) (rd : Rep s.heap d dv) (h : Q ((lookV es (tupI k)).getD d) H) : wpAny (model cx.prog cx.w) A (call (.builtin "dict.get") [.ref a, key, dv]) (Post cx H s.heap Q) NoE s := by
  obtain ⟨xs, a1, m1⟩ := dictH_to S e hk
  obtain ⟨b, rfl⟩ := ref_of rk
  obtain ⟨o, _, _, ho, hc, _⟩ := id m1
  refine call_meetsIn F.slot_dict_get ⟨o, ho, hc.1⟩ F.entry_dict_get (F.args_dict_get_3 _ _ _) (meetsH_dict_get_default (tupleKind (intKind cx.prog cx.w)) a b (S.notSys ok e) dv) ⟨in1_units hu, k, xs, tupKey_of rk, m1, ?_⟩
  rcases kv_look tupI_eq (khe _) a1 k with ⟨x, q, q1, q2, p, a, rfl⟩ | ⟨q1, q2⟩ <;> rw [q1] at h
  · rw [show atKey xs k = _ from q2]; exact Post.toks S a.2.2 h
  · rw [show atKey xs k = _ from q2]; exact Post.toks S rd h
theorem KH.store {h : Heap} {es xs} (r : All2 (KHe h) es xs) {k : List Int} {a : Addr} {x : V} {v : Value} (rk : Rep h (tupI k) (.ref a)) (rx : Rep h x v) : All2 (KHe h) (putV es (tupI k) x) (storedH xs k a v) := by
  unfold putV storedH
  rw [kv_any tupI_eq (khe _) r k, show (atKey xs k).isSome = xs.any fun q => decide (q.1 = k) by unfold atKey; rw [Option.isSome_map, List.isSome_find?]]
  split
  · exact kv_map tupI_eq (khe _) r (u := fun q => (q.1, q.2.1, v)) fun p q a _ => ⟨a.1, a.2.1, rx⟩
  · exact r.append (.cons ⟨rfl, rk, rx⟩ .nil)
theorem put_dictH {a : Addr} {k : List Int} {key v : Value} {x : V} {es : List (V × V)} {Q : Unit → Shared → Prop} (hu : A.units + 100 < cLine) (S : St cx H s) (e : H a = some (.dict es)) (hk : ∀ e ∈ es, ∃ k : List Int, e.1 = tupI k)
    (rk : Rep s.heap (tupI k) key) (rx : Rep s.heap x v) (hl : es.length + 1 ≤ lim)
    (h : ∀ s', St cx (H.set a (.dict (putV es (tupI k) x))) s' → Ext H s.heap (H.set a (.dict (putV es (tupI k) x))) s'.heap → Q () s') : wpAny (model cx.prog cx.w) A (setItem (.ref a) key v) Q NoE s := by
  obtain ⟨xs, a1, m1⟩ := dictH_to S e hk
  obtain ⟨b, rfl⟩ := ref_of rk
  refine wpAny_setItem_heap (knd := tupleKind (intKind cx.prog cx.w)) (in1_units hu) (tupKey_of rk) m1 (fun h' d' hs => ?_) (by rw [a1.length, ← lim_eq]; exact Nat.le_of_succ_le hl)
  obtain ⟨o, _, _, ho, _⟩ := id d'
  refine h _ (S.update e hs ho _ fun kt => dictH_of ((KH.store a1 rk rx).imp fun _ _ q => ⟨q.1, q.2.1.mono kt, q.2.2.mono kt⟩) d' (Nat.le_trans (putV_length _ _ _) hl)) (Ext.update e hs)
end
end Mine

namespace Mine

section
variable {cx : Cx} {A : Around} {H : AH} {s : Shared}
theorem key2 {k : V} {es : List (V × V)} {G : Prop} (h : keysOk2 k es) (hS : ∀ x : Str, k = (encS cx.prog cx.w).enc x → (∀ e ∈ es, ∃ y, e.1 = (encS cx.prog cx.w).enc y) → G) (hI : ∀ x : Int, k = (encI cx.prog cx.w).enc x → (∀ e ∈ es, ∃ y, e.1 = (encI cx.prog cx.w).enc y) → G) : G := by
  rcases h with ⟨l, rfl, q⟩ | ⟨i, rfl, q⟩
  · exact hS (mkS l) rfl fun e he => (q e he).elim fun t ht => ⟨mkS t, ht⟩
  · exact hI i rfl q
theorem key3 {k : V} {es : List (V × V)} {G : Prop} (h : keysOk k es) (h2 : keysOk2 k es → G) (hT : ∀ x : List Int, k = tupI x → (∀ e ∈ es, ∃ y, e.1 = tupI y) → G) : G := by
  rcases h with h | h | ⟨x, e, q⟩
  · exact h2 (.inl h)
  · exact h2 (.inr h)
  · exact hT x e q

theorem strs_go {h : Heap} {xs : List V} {vs : List Value} (r : Reps h xs vs) (k : xs.all isStrV = true) (l : List Nat) : ∃ ys : List Str, StrsAre vs ys ∧ (ys.any (· == mkS l)) = xs.any fun y => veq y (.str l) := by
  induction r with
  | nil => exact ⟨[], .nil, rfl⟩
  | @cons x v xs vs a _ ih =>
    rw [List.all_cons, Bool.and_eq_true] at k
    obtain ⟨ys, i1, i2⟩ := ih k.2
    cases x with
    | str m =>
      obtain ⟨t, rfl, _⟩ := a.inv
      refine ⟨mkS m :: ys, .cons _ _ i1, ?_⟩
      rw [List.any_cons, List.any_cons, i2, show (mkS m == mkS l) = veq (.str m) (.str l) from decide_eq_decide.mpr ⟨mkS_inj, fun e => congrArg mkS e⟩]
    | _ => exact absurd k.1 Bool.false_ne_true

noncomputable abbrev Two (cx : Cx) (A : Around) (op op' : CmpOp) (v w : Value) (p : Bool → Prop) (s : Shared) (Q Q' : Value → Shared → Prop) : Prop := wpAny (model cx.prog cx.w) A (compareOp op v w) Q NoE s ∧ wpAny (model cx.prog cx.w) A (compareOp op' v w) Q' NoE s
theorem inL_sound {x : V} {xs : List V} {vx : Value} {p : Bool → Prop} (rx : Rep s.heap x vx) (h : inL x xs p) : ∃ l t, vx = .str (mkS l) t ∧ xs.all isStrV = true ∧ p (xs.any fun y => veq y (.str l)) := by
  unfold inL at h
  split at h
  · rename_i e
    obtain ⟨e1, e2⟩ := Bool.and_eq_true_iff.mp e
    cases x with
    | str l => obtain ⟨t, rfl, _⟩ := rx.inv; exact ⟨l, t, rfl, e2, h⟩
    | _ => exact absurd e1 Bool.false_ne_true
  · exact h.elim
theorem inW_sound {x c : V} {vx vc : Value} {p : Bool → Prop} (ok : CxOk cx) (S : St cx H s) (rx : Rep s.heap x vx) (rc : Rep s.heap c vc) (h : inW x c H p) :
    (∀ Q : Value → Shared → Prop, (∀ t tk, p t → Q (.bool t) { s with toks := tk }) → wpAny (model cx.prog cx.w) A (compareOp .In vx vc) Q NoE s) ∧
    (∀ Q : Value → Shared → Prop, (∀ t tk, p t → Q (.bool (!t)) { s with toks := tk }) → wpAny (model cx.prog cx.w) A (compareOp .NotIn vx vc) Q NoE s) := by
  cases c with
  | str t =>
    obtain ⟨tk, rfl, _⟩ := rc.inv
    obtain ⟨l, tk', rfl, _, h⟩ := str1_go h rx
    cases l with
    | nil => exact h.elim
    | cons c r => cases r with
      | cons _ _ => exact h.elim
      | nil =>
        have e : (!(Builtin.Str.occurrences (mkS t) (mkS [c]) 0 (mkS t).length 1).isEmpty) = decide (c ∈ t) := by
          rw [show mkS [c] = (⟨#[c]⟩ : Str) from rfl, StrLaws.found_one]
          exact decide_eq_decide.mpr Iff.rfl
        exact ⟨fun Q k => PySem.P.in_str (e ▸ k _ s.toks h), fun Q k => PySem.P.notIn_str (e ▸ k _ s.toks h)⟩
  | tup vs =>
    obtain ⟨a, ws, n, rfl, e, rs⟩ := rc.inv
    obtain ⟨l, t, rfl, ha, h⟩ := inL_sound rx h
    obtain ⟨ys, i1, i2⟩ := strs_go rs ha l
    exact ⟨fun Q k => in_tuple_strs ⟨_, e, rfl, n, rfl⟩ i1 (i2 ▸ k _ s.toks h), fun Q k => notin_tuple_strs ⟨_, e, rfl, n, rfl⟩ i1 (i2 ▸ k _ s.toks h)⟩
  | ref a =>
    obtain rfl := rc.inv
    rcases h with ⟨xs, h1, h⟩ | ⟨es, h1, h2, h⟩
    · obtain ⟨ws, n, e, rs, _⟩ := S.list h1
      obtain ⟨l, t, rfl, ha, h⟩ := inL_sound rx h
      obtain ⟨ys, i1, i2⟩ := strs_go rs ha l
      exact ⟨fun Q k => in_list_strs ⟨_, e, rfl, n, rfl⟩ i1 (i2 ▸ k _ s.toks h), fun Q k => notin_list_strs ⟨_, e, rfl, n, rfl⟩ i1 (i2 ▸ k _ s.toks h)⟩
    · refine key2 (cx := cx) h2 (fun y e q => ?_) fun y e q => ?_
      · subst e; exact ⟨fun Q k => in_dict (c := encS cx.prog cx.w) ok S h1 q rx (k _ _ h), fun Q k => notin_dict (c := encS cx.prog cx.w) ok S h1 q rx (k _ _ h)⟩
      · subst e; exact ⟨fun Q k => in_dict (c := encI cx.prog cx.w) ok S h1 q rx (k _ _ h), fun Q k => notin_dict (c := encI cx.prog cx.w) ok S h1 q rx (k _ _ h)⟩
  | _ => exact h.elim
theorem mkS_eq (l m : List Nat) : (mkS l == mkS m) = decide (l = m) := decide_eq_decide.mpr ⟨mkS_inj, fun e => congrArg mkS e⟩
theorem eqT_at {l m : List Nat} {i j : Int} {t u t' u' : Tok} {ws : List Value} {B : Around} (k : Nat) (h1 : k < (Value.str (mkS l) t :: .int i u :: ws).toArray.size) (h2 : k < ([Value.str (mkS m) t', .int j u'] : List Value).toArray.size) :
    SeqAt.EqAt B s (Value.str (mkS l) t :: .int i u :: ws).toArray[k] ([Value.str (mkS m) t', .int j u'] : List Value).toArray[k] (if k = 0 then decide (l = m) else decide (i = j)) := by
  match k, h2 with
  | 0, _ => rw [if_pos rfl, ← mkS_eq]; exact SeqAt.EqAt.str_str _ _ _ _
  | 1, _ => exact SeqAt.EqAt.int_int i u j u'
  | k + 2, h => exact absurd (Nat.lt_of_succ_lt_succ (Nat.lt_of_succ_lt_succ h)) (Nat.not_lt_zero _)
theorem eqT_val {l m : List Nat} {i j : Int} {t u t' u' : Tok} {r : List V} {ws : List Value} (h : ws.length = r.length) :
    ((List.range (min (Value.str (mkS l) t :: .int i u :: ws).toArray.size ([Value.str (mkS m) t', .int j u'] : List Value).toArray.size)).all (fun k => if k = 0 then decide (l = m) else decide (i = j)) && (Value.str (mkS l) t :: .int i u :: ws).toArray.size == ([Value.str (mkS m) t', .int j u'] : List Value).toArray.size) =
      (decide (l = m) && (decide (i = j) && r.isEmpty)) := by
  rw [show min (Value.str (mkS l) t :: .int i u :: ws).toArray.size ([Value.str (mkS m) t', .int j u'] : List Value).toArray.size = 2 from Nat.min_eq_right (Nat.le_add_left 2 ws.length)]
  show (decide (l = m) && (decide (i = j) && true) && (ws.length + 2 == 2)) = _
  rw [Bool.and_true, Bool.and_assoc, h]
  cases r <;> rfl
theorem eqW_sound {a b : V} {va vb : Value} {p : Bool → Prop} (hu : A.units + 100 < cLine) (ra : Rep s.heap a va) (rb : Rep s.heap b vb) (h : eqW a b p) :
    (∀ Q : Value → Shared → Prop, (∀ t tk, p t → Q (.bool t) { s with toks := tk }) → wpAny (model cx.prog cx.w) A (compareOp .Eq va vb) Q NoE s) ∧
    (∀ Q : Value → Shared → Prop, (∀ t tk, p t → Q (.bool (!t)) { s with toks := tk }) → wpAny (model cx.prog cx.w) A (compareOp .NotEq va vb) Q NoE s) := by
  cases a with
  | int i =>
    obtain ⟨t, rfl⟩ := ra.inv
    obtain ⟨j, u, rfl, h⟩ := int1_go h rb
    exact ⟨fun Q k => PyProof.Rows.eq_int (k _ s.toks h), fun Q k => PyProof.Rows.ne_int (k _ s.toks h)⟩
  | str l =>
    obtain ⟨t, rfl, _⟩ := ra.inv
    obtain ⟨m, u, rfl, _, h⟩ := str1_go h rb
    rw [← mkS_eq] at h
    exact ⟨fun Q k => PyProof.Rows.eq_str (k _ s.toks h), fun Q k => PyProof.Rows.ne_str (k _ s.toks h)⟩
  | bool x =>
    obtain rfl := ra.inv
    obtain ⟨y, rfl, h⟩ := bool1_go h rb
    exact ⟨fun Q k => PyProof.Rows.eq_bool (k _ s.toks h), fun Q k => PyProof.Rows.ne_bool (k _ s.toks h)⟩
  | tup as =>
    obtain ⟨l, i, r, m, j, rfl, rfl, h⟩ := h
    obtain ⟨a, vs, n, rfl, e, rs⟩ := ra.inv
    obtain ⟨b, us, n', rfl, e', rs'⟩ := rb.inv
    obtain ⟨_, _, rfl, x1, r1⟩ := rs.inv
    obtain ⟨_, _, rfl, x2, r2⟩ := r1.inv
    obtain ⟨_, _, rfl, y1, q1⟩ := rs'.inv
    obtain ⟨_, _, rfl, y2, q2⟩ := q1.inv
    obtain rfl := q2.inv
    obtain ⟨t, rfl, _⟩ := x1.inv
    obtain ⟨u, rfl⟩ := x2.inv
    obtain ⟨t', rfl, _⟩ := y1.inv
    obtain ⟨u', rfl⟩ := y2.inv
    rw [← eqT_val (t := t) (u := u) (t' := t') (u' := u') r2.length] at h
    have hu : A.units < cLine := Nat.lt_of_le_of_lt (Nat.le_add_right _ _) hu
    exact ⟨fun Q k => SeqAt.RcAt.tuples ⟨_, e, rfl, n, rfl⟩ ⟨_, e', rfl, n', rfl⟩ hu eqT_at _ _ _ Q (k _ s.toks h), fun Q k => SeqAt.RcNeAt.tuples ⟨_, e, rfl, n, rfl⟩ ⟨_, e', rfl, n', rfl⟩ hu eqT_at _ _ _ Q (k _ s.toks h)⟩
  | _ => exact h.elim
theorem isNo_sound {a b : V} {va vb : Value} {p : Bool → Prop} (ra : Rep s.heap a va) (rb : Rep s.heap b vb) (h : isNo a b p) : vb = .none ∧ plainIs va .none = true ∧ p (va == .none) := by
  cases b with
  | none =>
    refine ⟨rb.inv, ?_⟩
    cases a with
    | none => obtain rfl := ra.inv; exact ⟨rfl, h⟩
    | bool b => obtain rfl := ra.inv; exact ⟨rfl, h⟩
    | int i => obtain ⟨t, rfl⟩ := ra.inv; exact ⟨rfl, h⟩
    | str l => obtain ⟨t, rfl, _⟩ := ra.inv; exact ⟨rfl, h⟩
    | tup l => obtain ⟨a, _, _, rfl, _⟩ := ra.inv; exact ⟨rfl, h⟩
    | ref a => obtain rfl := ra.inv; exact ⟨rfl, h⟩
  | _ => exact h.elim
theorem leS_lt (s t : List Nat) : (!decide (t < s)) = leS s t := by
  induction s generalizing t with
  | nil => simp [leS]
  | cons a s ih =>
    cases t with
    | nil => simp [leS]
    | cons b t =>
      have := ih t
      simp only [leS, List.cons_lt_cons_iff, ← this]
      by_cases h1 : a < b
      · have : ¬ b < a := by omega
        have h3 : b ≠ a := by omega
        simp [h1, this, h3]
      · by_cases h2 : a = b
        · subst h2; simp
        · have : b < a := by omega
          simp [h1, h2, this]

theorem cmpW_sound {op : CmpOp} {a b : V} {va vb : Value} {p : Bool → Prop} {Q : Value → Shared → Prop} (hu : A.units + 100 < cLine) (ok : CxOk cx) (S : St cx H s) (ra : Rep s.heap a va) (rb : Rep s.heap b vb) (h : cmpW op a b H p) (k : ∀ t tk, p t → Q (.bool t) { s with toks := tk }) :
    wpAny (model cx.prog cx.w) A (compareOp op va vb) Q NoE s := by
  cases op with
  | Eq => exact (eqW_sound hu ra rb h).1 Q k
  | NotEq => exact (eqW_sound (p := fun t => p (!t)) hu ra rb h).2 Q fun t => k (!t)
  | In => exact (inW_sound ok S ra rb h).1 Q k
  | NotIn => exact (inW_sound (p := fun t => p (!t)) ok S ra rb h).2 Q fun t => k (!t)
  | Is => obtain ⟨rfl, e, h⟩ := isNo_sound ra rb h; exact wpAny_is_plain e (k _ s.toks h)
  | IsNot => obtain ⟨rfl, e, h⟩ := isNo_sound (p := fun t => p (!t)) ra rb h; exact wpAny_isNot_plain e (k _ s.toks h)
  | Lt => obtain ⟨i, j, t, u, rfl, rfl, h⟩ := int2_go h ra rb; exact PySem.P.lt_int (k _ s.toks h)
  | Gt => obtain ⟨i, j, t, u, rfl, rfl, h⟩ := int2_go h ra rb; exact PySem.P.gt_int (k _ s.toks h)
  | GtE => obtain ⟨i, j, t, u, rfl, rfl, h⟩ := int2_go h ra rb; exact PySem.P.ge_int (k _ s.toks h)
  | LtE => cases a with
    | int i =>
      obtain ⟨t, rfl⟩ := ra.inv
      obtain ⟨j, u, rfl, h⟩ := int1_go h rb
      exact PySem.P.le_int (k _ s.toks h)
    | str l =>
      obtain ⟨t, rfl, _⟩ := ra.inv
      obtain ⟨m, u, rfl, _, h⟩ := str1_go h rb
      rw [← leS_lt] at h
      exact PySem.P.le_str (k _ s.toks h)
    | _ => exact h.elim
end
end Mine

namespace Mine

section
variable {cx : Cx} {A : Around} {H : AH} {s : Shared}
theorem St.grow {h' : Heap} (S : St cx H s) (k : ∀ b o, s.heap.get? b = some o → h'.get? b = some o) (t : Nat) : St cx H { s with heap := h', toks := t } :=
  ⟨fun a x e => ⟨k _ _ (S.keep a x e).1, (S.keep a x e).2⟩,
   fun a ao e => (S.objs a ao e).mono (fun _ _ _ q => k _ _ q) (by obtain ⟨x, q⟩ := (S.objs a ao e).some; rw [q]; exact k _ _ q), S.gens, S.os⟩
theorem Ext.grow {h h' : Heap} (k : ∀ b o, h.get? b = some o → h'.get? b = some o) : Ext H h H h' := fun _ _ e n => ⟨k _ _ e, n⟩
theorem Reps.grow {h h' : Heap} (k : ∀ b o, h.get? b = some o → h'.get? b = some o) {a : List V} {v : List Value} (r : Reps h a v) : Reps h' a v := r.mono fun _ _ _ e => k _ _ e

theorem attrOk_parts {K : Frag} {C : Addr} {n : Str} (h : attrOk K C n = true) : plainGet K C n = true ∧ hasDictIn K C = true ∧ (∃ attr, findIn K (.ref C) n = some attr ∧ noGet K attr = true) ∧
    findIn K (.ref C) "__setattr__" = some (some (.builtin "object.__setattr__")) ∧ plainOver K C = true ∧ takerIn K C n = some none := by
  obtain ⟨h, h6⟩ := Bool.and_eq_true_iff.mp h
  obtain ⟨h, h5⟩ := Bool.and_eq_true_iff.mp h
  obtain ⟨h, h4⟩ := Bool.and_eq_true_iff.mp h
  obtain ⟨h, h3⟩ := Bool.and_eq_true_iff.mp h
  obtain ⟨h1, h2⟩ := Bool.and_eq_true_iff.mp h
  refine ⟨h1, h2, ?_, eq_of_beq h4, h5, eq_of_beq h6⟩
  split at h3
  · rename_i attr e; exact ⟨attr, e, h3⟩
  · contradiction
theorem an_inj {an : List Str} (nd : an.Nodup) {i j : Nat} {n : Str} (h1 : an[i]? = some n) (h2 : an[j]? = some n) : i = j :=
  (List.getElem?_inj (List.getElem?_eq_some_iff.mp h1).1 nd).mp (h1.trans h2.symm)
section
variable {an : List Str} {h : Heap} {fs : List (Nat × V)} {ds : List DictEntry} {k : Nat} {n : Str}
theorem ns_key (nd : an.Nodup) (hn : an[k]? = some n) {p : Nat × V} {e : DictEntry} (r : NsEnt an h p e) : e.key.isStr n = (p.1 == k) := by
  obtain ⟨m, t, a, b, _⟩ := r
  rw [b, Bool.eq_iff_iff, beq_iff_eq]
  exact beq_iff_eq.trans ⟨fun z => an_inj nd (z ▸ a) hn, fun z => Option.some.inj (a.symm.trans (z ▸ hn))⟩
theorem NsRep.norefs (r : NsRep an h fs ds) : ds.any (·.refKey) = false := by
  induction r with
  | nil => rfl
  | cons a _ ih => obtain ⟨n, t, _, b, _⟩ := a; rw [List.any_cons, ih, DictEntry.refKey, b]; rfl
theorem NsRep.look (nd : an.Nodup) (hn : an[k]? = some n) (r : NsRep an h fs ds) :
    (∃ x e, lookN fs k = some x ∧ ds.find? (·.key.isStr n) = some e ∧ Rep h x e.val) ∨ (lookN fs k = none ∧ ds.find? (·.key.isStr n) = none) := by
  unfold lookN
  induction r with
  | nil => exact .inr ⟨rfl, rfl⟩
  | @cons p e fs ds a _ ih =>
    rw [List.find?_cons, List.find?_cons, ns_key nd hn a]
    cases p.1 == k with
    | true => obtain ⟨_, _, _, _, c⟩ := a; exact .inl ⟨_, _, rfl, rfl, c⟩
    | false => exact ih
theorem NsRep.put (nd : an.Nodup) (hn : an[k]? = some n) (r : NsRep an h fs ds) {x : V} {v : Value} (rx : Rep h x v) (hsh : Int) (t : Tok) :
    NsRep an h (putN' fs k x) (putL n hsh (.str n t) v ds) ∧ (putL n hsh (.str n t) v ds).length ≤ fs.length + 1 := by
  induction r with
  | nil => exact ⟨.cons ⟨n, t, hn, rfl, rx⟩ .nil, Nat.le_refl _⟩
  | @cons p e fs ds a r ih =>
    unfold putN' putL
    rw [ns_key nd hn a]
    split
    · obtain ⟨m, t, b, c, _⟩ := a; exact ⟨.cons ⟨m, t, b, c, rx⟩ r, by rw [List.length_cons, r.length]; exact Nat.le_succ _⟩
    · exact ⟨.cons a ih.1, Nat.succ_le_succ ih.2⟩
end
theorem instAt {a C d : Nat} {fs : List (Nat × V)} (S : St cx H s) (h1 : H a = some (.inst C d)) (h2 : H d = some (.ns fs)) : ∃ ds m, s.heap.get? d = some (dctObj ds m) ∧ NsRep cx.an s.heap fs ds ∧ W.InstAt s.heap a (instObj C d) C (some (dictOf ds m)) := by
  obtain ⟨ds, m, e2, r⟩ := S.objs _ _ h2
  exact ⟨ds, m, e2, r, S.objs _ _ h1, rfl, rfl, e2⟩

theorem attr_get {o : V} {vo : Value} {k : Nat} {nm : Str} {Q : V → AH → Prop} {expr : Bool} (ok : CxOk cx) (S : St cx H s) (ro : Rep s.heap o vo) (hn : cx.an[k]? = some nm) (h : attrW cx o k H Q) :
    wpAny (model cx.prog cx.w) A (getAttr vo nm expr) (Post cx H s.heap Q) NoE s := by
  cases o with
  | ref a =>
    obtain rfl := ro.inv
    obtain ⟨C, d, fs, n, x, h1, h2, h3, h4, h5, h⟩ := h
    obtain rfl := Option.some.inj (hn.symm.trans h3)
    obtain ⟨p1, p2, ⟨attr, p3, p4⟩, _⟩ := attrOk_parts h4
    obtain ⟨ds, m, e2, r, I⟩ := instAt S h1 h2
    rcases r.look ok.an_nd hn with ⟨x', e, q1, q2, rx⟩ | ⟨q1, q2⟩
    · obtain rfl := Option.some.inj (h5.symm.trans q1)
      refine get_value (S.inK ok) I (plainGet_of p1).1 (findObj_own p2 p3 p4 (v := e.val) ?_) rx.handed (Post.toks S rx h)
      rw [lookIn_dict]; unfold getL; rw [q2]
    · exact nomatch h5.symm.trans q1
  | _ => exact h.elim

theorem attr_set {o x : V} {vo v : Value} {k : Nat} {nm : Str} {P : AH → Prop} {Q : Unit → Shared → Prop} (ok : CxOk cx) (S : St cx H s) (ro : Rep s.heap o vo) (rx : Rep s.heap x v) (hn : cx.an[k]? = some nm)
    (h : setattrW cx o k x H P) (q : ∀ H' s', P H' → St cx H' s' → Ext H s.heap H' s'.heap → Q () s') :
    wpAny (model cx.prog cx.w) A (setAttr vo nm v) Q NoE s := by
  cases o with
  | ref a =>
    obtain rfl := ro.inv
    obtain ⟨C, d, fs, n, h1, h2, h3, h4, h5, h⟩ := h
    obtain rfl := Option.some.inj (hn.symm.trans h3)
    obtain ⟨p1, p2, _, p5, p6, p7⟩ := attrOk_parts h4
    obtain ⟨ds, m, e2, r, I⟩ := instAt S h1 h2
    have X := S.inK ok
    have X : cx.K.In ({ s with toks := s.toks + 1 } : Shared).heap := X
    obtain ⟨cd, hc, hd'⟩ := any_some p2
    refine set_plain X I p5 (osa_open (s := { s with toks := s.toks + 1 }) X I p6 p7 fun b => ?_)
    obtain ⟨_, lp⟩ := r.put ok.an_nd hn rx (PyData.keyHash cx.w.params nm) (s.toks + 1)
    have hs := Heap.SameBut.update s.heap d (Obj.putName nm (PyData.keyHash cx.w.params nm) (.str nm (s.toks + 1)) v)
    have hg : (s.heap.update d (Obj.putName nm (PyData.keyHash cx.w.params nm) (.str nm (s.toks + 1)) v)).get? d = some (dictOf (putL nm (PyData.keyHash cx.w.params nm) (.str nm (s.toks + 1)) v ds) (putN nm ds m)) := by
      rw [Heap.get?_update_self _ e2 (by rw [putName_dict]; rfl), putName_dict]
    have e1 : s.heap.get? a = some (instObj C d) := S.objs _ _ h1
    refine wpAny_bind (wpAny_pure (wpAny_bind (wpAny_bind (wpAny_loadPart e1 (wpAny_bind ((looks_clsIn X hc).here ?_))))))
    rw [hd']
    refine wpAny_pure (a := some d) (wpAny_bind (wpAny_pure (wpAny_bind ?_)))
    unfold nsSet
    refine wpAny_bind (wpAny_bind (wpAny_askSetting (wpAny_pure (wpAny_bind (wpAny_mkText (wpAny_bind (wpAny_loadPart e2 ?_)))))))
    dsimp only [dctObj]
    rw [aRefKeyMayBeTheName_at, List.any_toArray, List.any_toArray, r.norefs, Bool.and_false, if_neg Bool.false_ne_true]
    refine wpAny_updatePart e2 (wpAny_bind (wpAny_lookBehind hg (pastItsLine_dict (by rw [List.size_toArray, sizeLine_eq]; exact Nat.le_trans lp (Nat.le_trans (Nat.succ_le_succ h5) (by decide)))) (wpAny_pure ?_)))
    exact q _ _ h (S.update (ao' := .ns (putN' fs k x)) h2 hs hg _ fun kt => ⟨_, _, hg, (NsRep.put ok.an_nd hn (NsRep.mono kt r) (rx.mono kt) _ _).1⟩) (Ext.update h2 hs)
  | _ => exact h.elim

theorem meth_get {o : V} {vo : Value} {k : Nat} {nm : Str} {P : Addr → Prop} {Q : Value × List Value → Shared → Prop} {pl : Sem Bool} (ok : CxOk cx) (S : St cx H s) (ro : Rep s.heap o vo) (hn : cx.an[k]? = some nm)
    (n : Nat) (h : methW cx n o k H P) (q : ∀ f, P f → Q (.ref f, [vo]) s) :
    wpAny (model cx.prog cx.w) A (getMethod vo nm pl) Q NoE s := by
  cases o with
  | ref a =>
    obtain rfl := ro.inv
    obtain ⟨C, d, fs, n', f, h1, h2, h3, h4, h5, h⟩ := h
    obtain rfl := Option.some.inj (hn.symm.trans h3)
    obtain ⟨ds, m, e2, r, I⟩ := instAt S h1 h2
    unfold methIn at h4
    split at h4
    · rename_i f' hf
      split at h4
      · rename_i hb
        obtain rfl := Option.some.inj h4
        obtain ⟨b1, b2⟩ := Bool.and_eq_true_iff.mp hb
        refine method_fn (S.inK ok) I (plainGet_of b1).1 (plainGet_of b1).2 hf (eq_of_beq b2) ?_ (q _ h)
        show (lookIn nm (dictOf ds m)).map _ = _
        rw [lookIn_dict]
        unfold getL
        rcases r.look ok.an_nd hn with ⟨x, e, q1, q2, _⟩ | ⟨q1, q2⟩
        · exact nomatch h5.symm.trans q1
        · rw [q2, r.norefs]; rfl
      · contradiction
    · contradiction
  | _ => exact h.elim
end
end Mine

namespace Mine

section
variable {cx : Cx} {A : Around} {H : AH} {s : Shared}
theorem idx_seq {n : Nat} {i : Int} {j : Nat} (h : idx n i = some j) : (j < n ∧ -(n : Int) ≤ i ∧ i < n) ∧ ((0 ≤ i ∧ i.toNat = j ∧ seqIndex? i n = some j) ∨ (i < 0 ∧ (i + n).toNat = j ∧ seqIndex? i n = some j)) := by
  unfold idx at h
  unfold seqIndex?
  split at h
  · split at h
    · obtain rfl := Option.some.inj h
      refine ⟨by omega, .inl ⟨by assumption, rfl, ?_⟩⟩
      simp only [show ¬ i < 0 by omega, if_false]
      rw [if_pos (by simp; omega)]
    · contradiction
  · split at h
    · obtain rfl := Option.some.inj h
      refine ⟨by omega, .inr ⟨by omega, rfl, ?_⟩⟩
      simp only [show i < 0 by omega, if_true]
      rw [if_pos (by simp; omega)]
    · contradiction
theorem seqI {n : Nat} {i : Int} {j : Nat} (h : idx n i = some j) : seqIndex? i n = some j := (idx_seq h).2.elim (·.2.2) (·.2.2)
theorem idx_small {n : Nat} {i : Int} {j : Nat} (h : idx n i = some j) (hl : n ≤ 16777216) : -(2 ^ 63) ≤ i ∧ i < 2 ^ 63 := by have := (idx_seq h).1; omega

theorem subW_sound {o i : V} {vo vi : Value} {Q : V → AH → Prop} (S : St cx H s) (ro : Rep s.heap o vo) (ri : Rep s.heap i vi) (h : subW o i H Q) :
    (∃ T id, s.TypeIs vo T ∧ typeLookup (.type T) "__getitem__" = pure (some (.builtin id))) ∧ wpAny (model cx.prog cx.w) A (getItem vo vi) (Post cx H s.heap Q) NoE s := by
  cases o with
  | tup vs =>
    obtain ⟨a, ws, n, rfl, e, rs⟩ := ro.inv
    obtain ⟨i, t, rfl, j, x, h1, hl, h2, h⟩ := int1_go h ri
    obtain ⟨v, h3, rx⟩ := rs.get h2
    obtain ⟨b1, b2⟩ := idx_small h1 hl
    exact ⟨⟨"tuple", _, ⟨_, e, rfl⟩, PyProof.Rows.slot_tuple_getitem.lookup⟩, PyProof.Rows.getItem_tuple (items := _) ⟨_, e, rfl, _, rfl⟩ b1 b2 (by rw [List.size_toArray, rs.length]; exact seqI h1) ((List.getElem?_toArray ..).trans h3) (Post.toks (t := s.toks) S rx h)⟩
  | str l =>
    obtain ⟨t, rfl, okl⟩ := ro.inv
    obtain ⟨i, u, rfl, j, x, h1, h2, h⟩ := int1_go h ri
    obtain ⟨b1, b2⟩ := idx_small h1 (okS_len okl)
    refine ⟨⟨"str", _, typeIs_str _ _ _, PySem.F.slot_str_getitem.lookup⟩, PySem.P.getItem_str (c := x) (by rw [decide_eq_false (Int.not_lt.mpr b1), decide_eq_false (Int.not_le.mpr b2)]; rfl) ?_ (Post.toks S (.str [x] _ (okS_one (okS_all okl _ (List.mem_of_getElem? h2)))) h)⟩
    rw [mkS_length, seqI h1]; exact (List.getElem?_toArray ..).trans h2
  | ref a =>
    obtain rfl := ro.inv
    rcases h with ⟨xs, i, j, x, rfl, h1, h2, h3, h⟩ | ⟨es, x, h1, h2, h3, h⟩
    · obtain ⟨t, rfl⟩ := ri.inv
      obtain ⟨vs, n, e, rs, hl, hz⟩ := S.list h1
      obtain ⟨v, h4, rx⟩ := rs.get h3
      replace h4 := (List.getElem?_toArray ..).trans h4
      obtain ⟨b1, b2⟩ := idx_small h2 hl
      refine ⟨⟨"list", _, ⟨_, e, rfl⟩, PySem.F.slot_list_getitem.lookup⟩, ?_⟩
      obtain ⟨⟨_, q3, q4⟩, ⟨h0, rfl, _⟩ | ⟨h0, rfl, _⟩⟩ := idx_seq h2
      · exact wpAny_getItem_list (items := vs.toArray) ⟨_, e, rfl, n, rfl⟩ h0 b2 h4 (Post.toks (t := s.toks) S rx h)
      · rw [← hz] at q3 h4
        exact wpAny_getItem_list_neg (items := vs.toArray) ⟨_, e, rfl, n, rfl⟩ h0 q3 b1 h4 (Post.toks (t := s.toks) S rx h)
    · obtain ⟨_, _, e1, _⟩ := S.objs _ _ h1
      refine ⟨⟨"dict", _, ⟨_, e1, rfl⟩, PySem.F.slot_dict_getitem.lookup⟩, key2 (cx := cx) h2 (fun y e q => ?_) fun y e q => ?_⟩
      · subst e; exact item_dict (c := encS cx.prog cx.w) S h1 q ri h3 h
      · subst e; exact item_dict (c := encI cx.prog cx.w) S h1 q ri h3 h
  | _ => exact h.elim

theorem setsubW_sound {o i x : V} {vo vi v : Value} {P : AH → Prop} {Q : Unit → Shared → Prop} (hu : A.units + 100 < cLine) (S : St cx H s) (ro : Rep s.heap o vo) (ri : Rep s.heap i vi) (rx : Rep s.heap x v)
    (h : setsubW o i x H P) (q : ∀ H' s', P H' → St cx H' s' → Ext H s.heap H' s'.heap → Q () s') :
    wpAny (model cx.prog cx.w) A (setItem vo vi v) Q NoE s := by
  cases o with
  | ref a =>
    obtain rfl := ro.inv
    obtain ⟨es, h1, h2, h3, h⟩ := h
    refine key3 h2 (fun h2 => key2 (cx := cx) h2 (fun y e z => ?_) fun y e z => ?_) fun y e z => ?_
    · subst e; exact put_dict (c := encS cx.prog cx.w) S h1 z ri rx h3 fun s' S' E' => q _ s' h S' E'
    · subst e; exact put_dict (c := encI cx.prog cx.w) S h1 z ri rx h3 fun s' S' E' => q _ s' h S' E'
    · subst e; exact put_dictH hu S h1 z ri rx h3 fun s' S' E' => q _ s' h S' E'
  | _ => exact h.elim

theorem partI_part {lo : V} {vl : Value} {a : Option Int} {h : Heap} (r : Rep h lo vl) (e : partI lo = some a) : IsPart vl a := by
  cases lo with
  | none => obtain rfl := r.inv; obtain rfl := Option.some.inj e; exact .none
  | int i => obtain ⟨t, rfl⟩ := r.inv; obtain rfl := Option.some.inj e; exact .int _ _
  | _ => contradiction
theorem cut_len {α : Type} (l : List α) (a b : Option Int) : (cut l a b).length ≤ l.length :=
  Nat.le_trans (List.length_take_le' ..) (by rw [List.length_drop]; exact Nat.sub_le ..)

theorem sliceW_sound {o lo hi : V} {vo vl vu : Value} {a : Addr} {Q : V → AH → Prop} (S : St cx H s) (ro : Rep s.heap o vo) (rl : Rep s.heap lo vl) (ru : Rep s.heap hi vu) (hs : s.heap.get? a = some { cls := .type "slice", data := .fields #[vl, vu, .none] })
    (h : sliceW o lo hi cx H Q) : (∃ p xs, vo = .ref p ∧ s.heap.IsList p xs) ∧ wpAny (model cx.prog cx.w) A (getItem vo (.ref a)) (Post cx H s.heap Q) NoE s := by
  obtain ⟨a', b', h1, h2, h⟩ := h
  obtain ⟨p, rfl, xs, h3, h⟩ := ref1_go h ro
  have : ∃ vs, s.heap.IsList p vs.toArray ∧ Reps s.heap xs vs ∧ xs.length ≤ lim := by
    rcases h3 with h3 | ⟨vs, ⟨o, e, oc, n, od⟩, r, hl⟩
    · obtain ⟨vs, n, e, r, hl⟩ := S.objs _ _ h3
      exact ⟨vs, ⟨_, e, rfl, n, rfl⟩, r, hl⟩
    · exact ⟨vs, ⟨o, (S.keep _ _ e).1, oc, n, od⟩, r.mono fun b vs n q => (S.keep b _ q).1, hl⟩
  obtain ⟨vs, e, rs, hl⟩ := this
  refine ⟨⟨p, _, rfl, e⟩, wpAny_getItem_list_slice (items := vs.toArray) (st := none) e ⟨_, hs, rfl, rfl⟩ (partI_part rl h1) (partI_part ru h2) .none (by simp) ?_ (by rw [List.size_toArray, rs.length, ← lim_eq]; exact hl)⟩
  rw [slicePick_plain, show vs.toArray.size = xs.length from rs.length]
  refine Post.newList S (xs := cut xs a' b') (t := s.toks) (n := 0) ?_ (Nat.le_trans (cut_len _ _ _) hl) h
  exact (rs.drop _).take _
end
end Mine

namespace Mine

noncomputable def bmId : BM → String
  | .append => "list.append"
  | .pop => "list.pop"
  | .reverse => "list.reverse"
  | .get => "dict.get"
  | .join => "str.join"
  | .zfill => "str.zfill"
  | .startswith => "str.startswith"

theorem digits10_lt (n : Nat) : ∀ c ∈ digits10 n, c < 0x110000 := by
  intro c hc
  obtain ⟨d, hd, rfl⟩ := List.mem_map.mp hc
  have := Nat.isDigit_of_mem_toDigits (b := 10) (n := n) (c := d) (by decide) (by decide) hd
  exact Nat.lt_of_le_of_lt (of_decide_eq_true (Bool.and_eq_true_iff.mp this).2) (by decide)
theorem showI_ok (i : Int) : ∀ c ∈ showI i, c < 0x110000 := by
  intro c hc
  unfold showI at hc
  split at hc
  · rcases List.mem_cons.mp hc with rfl | hc
    · decide
    · exact digits10_lt _ c hc
  · exact digits10_lt _ c hc
theorem ofString_showI (i : Int) : Str.ofString (toString i) = mkS (showI i) := by
  have nat : ∀ m : Nat, Str.ofString (toString (m : Int)) = mkS (digits10 m) := fun m => by
    have := KIN.signs_num m
    rw [← mkS_cps (Str.ofString _), this]; rfl
  unfold showI
  by_cases h : i < 0
  · rw [if_pos h, toString_neg h, show 0 - i = ((i.natAbs : Nat) : Int) by omega, Str.ofString_eq_toList, String.toList_append, List.map_append]
    have e := congrArg Str.cps (nat i.natAbs)
    rw [Str.ofString_eq_toList] at e
    have e : (List.map Char.toNat (toString ((i.natAbs : Nat) : Int)).toList) = digits10 i.natAbs := congrArg Array.toList e
    rw [e]; rfl
  · rw [if_neg h, ← nat, show ((i.natAbs : Nat) : Int) = i by omega]

section
variable {cx : Cx} {A : Around} {H : AH} {s : Shared}
theorem St.adopt {a : Addr} {ao : AObj} (S : St cx H s) (g : cx.g0.get? a = none) (r : ObjRep cx s.heap a ao) : St cx (H.set a ao) s :=
  ⟨fun b x q => ⟨(S.keep b x q).1, (AH.set_ne _ _ (some_ne q g)).trans (S.keep b x q).2⟩,
   fun b bo q => by
    by_cases z : b = a
    · subst z; obtain rfl := Option.some.inj ((AH.set_same ..).symm.trans q); exact r
    · exact S.objs b bo ((AH.set_ne _ _ z).symm.trans q), S.gens, S.os⟩
theorem get_size_none (h : Heap) : h.get? h.objs.size = none := by
  cases q : h.get? h.objs.size with
  | none => rfl
  | some o => exact absurd (Heap.lt_size q) (Nat.lt_irrefl _)
theorem St.g0_fresh (S : St cx H s) {a : Addr} (h : s.heap.get? a = none) : cx.g0.get? a = none := by
  cases q : cx.g0.get? a with
  | none => rfl
  | some o => exact nomatch (S.keep _ _ q).1.symm.trans h

theorem strs_of {h : Heap} {xs : List V} {vs : List Value} (r : Reps h xs vs) : ∀ {t : List Nat}, catS xs = some t → ∃ ys : List Str, StrsAre vs ys ∧ (ys.map (·.length)).sum = t.length ∧ (ys.map (·.cps.toList)).flatten = t ∧ (∀ c ∈ t, c < 0x110000) := by
  induction r with
  | nil => intro t e; obtain rfl := Option.some.inj e; exact ⟨[], .nil, rfl, rfl, fun _ h => nomatch h⟩
  | @cons x v xs vs a _ ih =>
    intro t e
    cases x with
    | str l =>
      obtain ⟨k, rfl, ok⟩ := a.inv
      obtain ⟨u, e1, rfl⟩ := Option.map_eq_some_iff.mp (show (catS xs).map (l ++ ·) = some t from e)
      obtain ⟨ys, h1, h2, h3, h4⟩ := ih e1
      refine ⟨mkS l :: ys, .cons _ _ h1, ?_, congrArg (l ++ ·) h3, fun c hc => (List.mem_append.mp hc).elim (okS_all ok c) (h4 c)⟩
      rw [List.map_cons, List.sum_cons, h2, mkS_length, List.length_append]
    | _ => contradiction
theorem glued_empty (ys : List Str) : Txt.join Str.empty ys = mkS (ys.map (·.cps.toList)).flatten := by
  have key : ∀ (l : List Str) (acc : Array Nat), (l.foldl (fun acc p => acc ++ Str.empty.cps ++ p.cps) acc).toList = acc.toList ++ (l.map (·.cps.toList)).flatten := by
    intro l
    induction l with
    | nil => intro acc; exact (List.append_nil _).symm
    | cons y l ih => intro acc; rw [List.foldl_cons, ih]; simp [Str.empty]
  refine congrArg Str.mk (Array.toList_inj.mp ?_)
  cases ys with
  | nil => rfl
  | cons y l => exact key _ _
theorem join_len {l : List Nat} : (mkS []).length * l.length = 0 := Nat.zero_mul _
theorem join_sound {a : Addr} {xs : List V} {t : List Nat} {tk : Tok} {Q : V → AH → Prop} (S : St cx H s) (h1 : H a = some (.list xs)) (h2 : catS xs = some t) (h3 : t.length ≤ lim) (h : Q (.str t) H) :
    wpAny (model cx.prog cx.w) A (call (.builtin "str.join") [.str (mkS []) tk, .ref a]) (Post cx H s.heap Q) NoE s := by
  obtain ⟨vs, n, e, rs, _⟩ := S.list h1
  obtain ⟨ys, q1, q2, q3, q4⟩ := strs_of rs h2
  refine join_list (items := vs.toArray) ⟨_, e, rfl, n, rfl⟩ q1 ?_ fun t' k => ?_
  · rw [q2, show (mkS []).length = 0 from rfl, Nat.mul_zero]; exact h3
  · rw [show Txt.join (mkS []) ys = mkS t from q3 ▸ glued_empty ys]
    exact Post.toks S (.str _ _ (okS_mk h3 q4)) h

theorem log_small {n : Nat} (h : n < 2 ^ 1900) : n.log2 < 1920 := by
  by_cases h0 : n = 0
  · rw [h0]; decide +kernel
  · exact Nat.lt_trans ((Nat.log2_lt h0).mpr h) (by decide)
theorem abs_if (i : Int) : (if i < 0 then -i else i) = (i.natAbs : Int) := by split <;> omega
theorem biW_sound {b : BI} {args : List V} {vs : List Value} {Q : V → AH → Prop} (hh : A.handled = none) (S : St cx H s) (ra : Reps s.heap args vs) (h : biW b args H Q) :
    wpAny (model cx.prog cx.w) A (call (biVal b) vs) (Post cx H s.heap Q) NoE s := by
  cases b with
  | len =>
    obtain ⟨x, v, rfl, r, h⟩ := arg1_go h ra
    cases x with
    | str l =>
      obtain ⟨t, rfl, okl⟩ := r.inv
      refine PySem.P.len_str (by rw [mkS_length]; exact big (okS_len okl)) ?_
      rw [mkS_length]
      exact Post.toks S (.int _ _) h
    | tup l =>
      obtain ⟨a, ws, n, rfl, e, rs⟩ := r.inv
      obtain ⟨hl, h⟩ := lenP_inv h
      have z : ws.toArray.size = l.length := rs.length
      refine PyProof.Rows.len_tuple (items := _) ⟨_, e, rfl, _, rfl⟩ (by rw [z]; exact Int.not_le.mp (big hl)) ?_
      rw [z]
      exact Post.toks S (.int _ _) h
    | ref a =>
      obtain rfl := r.inv
      obtain ⟨xs, h1, h⟩ := h
      obtain ⟨ws, n, e, rs, hl, z⟩ := S.list h1
      refine Calls.call_len_list (items := ws.toArray) ⟨_, e, rfl, n, rfl⟩ (by rw [z]; exact Int.not_le.mp (big hl)) ?_
      rw [z]
      exact Post.toks S (.int _ _) h
    | _ => exact h.elim
  | str =>
    obtain ⟨x, v, rfl, r, h⟩ := arg1_go h ra
    obtain ⟨i, t, rfl, h1, h⟩ := int1_go h r
    refine PySem.P.str_of_int (log_small h1) ?_
    have hsz := int_text_fits (a := i) (log_small h1)
    rw [ofString_showI, mkS_length, ← lim_eq] at hsz
    show Post cx H s.heap Q (.str (Str.ofString (toString i)) s.toks) _
    rw [ofString_showI]
    exact Post.toks S (.str _ _ (okS_mk hsz (showI_ok i))) h
  | int =>
    obtain ⟨x, v, rfl, r, h⟩ := arg1_go h ra
    obtain ⟨i, t, rfl, h⟩ := int1_go h r
    exact call_int_int (Post.toks (t := s.toks) S (.int _ _) h)
  | chr =>
    obtain ⟨x, v, rfl, r, h⟩ := arg1_go h ra
    obtain ⟨i, t, rfl, h1, h2, h⟩ := int1_go h r
    exact PySem.P.chr_of_int (by simp; omega) (Post.toks S (.str [_] _ (okS_one (by omega))) h)
  | ord =>
    obtain ⟨x, v, rfl, r, h⟩ := arg1_go h ra
    obtain ⟨l, t, rfl, _, h⟩ := str1_go h r
    cases l with
    | nil => exact h.elim
    | cons c l => cases l with
      | nil => exact PySem.P.ord_of_char (Post.toks S (.int _ _) h)
      | cons _ _ => exact h.elim
  | abs =>
    obtain ⟨x, v, rfl, r, h⟩ := arg1_go h ra
    obtain ⟨i, t, rfl, h⟩ := int1_go h r
    refine call_abs_int fun u tk => ?_
    rw [abs_if]
    exact Post.toks S (.int _ _) h
  | divmod =>
    obtain ⟨x, y, v, w, rfl, r, r', h⟩ := arg2_go h ra
    obtain ⟨i, j, t, u, rfl, rfl, h1, h2, h⟩ := int2_go h r r'
    refine divmod_int (ne0 h1) ?_ (.inl (PyProof.noPylong_of_log2 (Nat.lt_trans (pos_small h1 h2) (by decide))))
    rw [Int.fdiv_eq_ediv_of_nonneg _ (Int.le_of_lt h1), Int.fmod_eq_emod_of_nonneg _ (Int.le_of_lt h1)]
    exact ⟨_, _, S.push (tupObj [.int (i / j) s.toks, .int (i % j) (s.toks + 1)] 0) _, Ext.push _ _ _, .tup (Heap.get?_push_size _ rfl) (.cons (.int _ _) (.cons (.int _ _) .nil)), h⟩
  | min =>
    obtain ⟨x, y, v, w, rfl, r, r', h⟩ := arg2_go h ra
    obtain ⟨i, j, t, u, rfl, rfl, h⟩ := int2_go h r r'
    refine min_two_ints hh fun h' tk k => ⟨_, _, S.grow k tk, Ext.grow k, ?_, h⟩
    split <;> exact .int _ _
  | tuple =>
    obtain ⟨x, v, rfl, r, h⟩ := arg1_go h ra
    obtain ⟨a, rfl, xs, h1, h⟩ := ref1_go h r
    obtain ⟨ws, n, e, rs, hl, z⟩ := S.list h1
    refine call_tuple_list (items := ws.toArray) ⟨_, e, rfl, n, rfl⟩ (fun h' k => ?_) (by rw [z, ← lim_eq]; exact hl)
    have kt : ∀ b o, s.heap.get? b = some o → (h'.push (tupObj ws 0)).get? b = some o := fun b o e => Heap.get?_push_of_some _ (k b o e)
    exact ⟨.tup xs, H, S.grow kt s.toks, Ext.grow kt, .tup (n := 0) (Heap.get?_push_size _ rfl) (rs.grow kt), h⟩

theorem pre_eq (l u : List Nat) : (decide (u.length ≤ l.length) && (l.toArray.extract 0 u.length == u.toArray)) = u.isPrefixOf l := by
  rw [Bool.eq_iff_iff, List.isPrefixOf_iff_prefix, List.prefix_iff_eq_take, Bool.and_eq_true, decide_eq_true_eq, beq_iff_eq, show l.toArray.extract 0 u.length = (l.take u.length).toArray by simp]
  refine ⟨fun h => (congrArg Array.toList h.2).symm, fun h => ⟨?_, congrArg List.toArray h.symm⟩⟩
  rw [h, List.length_take]; exact Nat.le_trans (Nat.min_le_right ..) (Nat.le_refl _)

theorem zpad (l : List Nat) (k : Nat) (h : ∀ c ∈ l, 48 ≤ c ∧ c ≤ 57) : zfilled (mkS l) k = mkS (List.replicate k 48 ++ l) := by
  have hp : Builtin.Str.padded (mkS l) k 0 48 = mkS (List.replicate k 48 ++ l) := by
    unfold Builtin.Str.padded mkS
    congr 1
    apply Array.toList_inj.mp
    simp
  have no : ∀ d, d < 48 → l[0]? ≠ some d := fun d hd e => absurd (h d (List.mem_of_getElem? e)).1 (Nat.not_le.mpr hd)
  unfold zfilled
  split
  · rename_i e; exact absurd ((List.getElem?_toArray ..).symm.trans e) (no 43 (by decide))
  · rename_i e; exact absurd ((List.getElem?_toArray ..).symm.trans e) (no 45 (by decide))
  · exact hp
theorem bmW_sound {m : BM} {o : V} {vo : Value} {args : List V} {vs : List Value} {Q : V → AH → Prop} (ok : CxOk cx) (hu : A.units + 100 < cLine) (S : St cx H s) (ro : Rep s.heap o vo) (ra : Reps s.heap args vs) (h : bmW m o args H Q) :
    wpAny (model cx.prog cx.w) A (call (.builtin (bmId m)) (vo :: vs)) (Post cx H s.heap Q) NoE s := by
  cases m with
  | append =>
    obtain ⟨a, rfl, h⟩ := ref1_go h ro
    obtain ⟨x, v, rfl, r, xs, h1, hl, h⟩ := arg1_go h ra
    obtain ⟨ws, n, e, rs, _, z⟩ := S.list h1
    refine call_meets PySem.F.slot_list_append ⟨_, e, rfl⟩ PySem.F.entry_list_append (PySem.F.args_list_append_2 _ _) (AutoListH.list_append_list_val_0 a ws.toArray n v (by rw [z, ← lim_eq]; exact Nat.le_of_succ_le hl)) ⟨e, ?_⟩
    have hs := Heap.SameBut.update s.heap a (Obj.mapSeq fun x => x.push v)
    have hg : (s.heap.update a (Obj.mapSeq fun x => x.push v)).get? a = some (lstObj (ws ++ [v]) (n + 1)) := by
      rw [Heap.get?_update_self _ e rfl]
      simp [Obj.mapSeq]
    exact ⟨.none, _, S.update (ao' := .list (xs ++ [x])) h1 hs hg s.toks fun kt => ⟨_, _, hg, (rs.mono kt).append (.cons (r.mono kt) .nil), by rw [List.length_append]; exact hl⟩, Ext.update h1 hs, .none, h⟩
  | pop =>
    obtain ⟨a, rfl, h⟩ := ref1_go h ro
    obtain ⟨rfl, xs, x, h1, h⟩ := arg0_go h ra
    obtain ⟨ws, n, e, rs, hl, z⟩ := S.list h1
    rw [List.length_append, List.length_singleton] at z hl
    obtain ⟨v, hv, rx⟩ := rs.get (i := xs.length) (a := x) (by simp)
    refine call_meets PySem.F.slot_list_pop ⟨_, e, rfl⟩ PySem.F.entry_list_pop (PySem.F.args_list_pop_1 _) (MeetsSeq.list_pop_last a ws.toArray n v (by rw [z]; exact (List.getElem?_toArray ..).trans hv) (by rw [z, ← lim_eq]; exact hl)) ⟨e, ?_⟩
    rw [z, Nat.add_sub_cancel]
    have hs := Heap.SameBut.update s.heap a (Obj.mapSeq fun y => y.eraseIdxIfInBounds xs.length)
    have htk : ws.toArray.eraseIdxIfInBounds xs.length = (ws.take xs.length).toArray := by
      refine Array.toList_inj.mp ?_
      rw [Array.eraseIdxIfInBounds, dif_pos (by rw [z]; exact Nat.lt_succ_self _), Array.toList_eraseIdx, List.eraseIdx_eq_take_drop_succ, List.drop_of_length_le (Nat.le_of_eq z), List.append_nil]
    have hg : (s.heap.update a (Obj.mapSeq fun y => y.eraseIdxIfInBounds xs.length)).get? a = some (lstObj (ws.take xs.length) (n + 1)) := by
      rw [Heap.get?_update_self _ e rfl]
      simp only [Obj.mapSeq, htk]
      simp [show ws.length = xs.length + 1 from z]
    refine ⟨x, _, S.update (ao' := .list xs) h1 hs hg s.toks fun kt => ⟨_, _, hg, ?_, Nat.le_of_succ_le hl⟩, Ext.update h1 hs, rx.mono (S.tupKeep (s' := { s with heap := s.heap.update a (Obj.mapSeq fun y => y.eraseIdxIfInBounds xs.length) }) (Ext.update (ao' := .list xs) h1 hs)), h⟩
    have := (rs.mono kt).take xs.length
    rwa [List.take_left] at this
  | reverse =>
    obtain ⟨a, rfl, h⟩ := ref1_go h ro
    obtain ⟨rfl, xs, h1, h⟩ := arg0_go h ra
    obtain ⟨ws, n, e, rs, hl, z⟩ := S.list h1
    refine call_meets PySem.F.slot_list_reverse ⟨_, e, rfl⟩ PySem.F.entry_list_reverse (PySem.F.args_list_reverse_1 _) (AutoListH.list_reverse_list_0 a ws.toArray n (by rw [z, ← lim_eq]; exact hl)) ⟨e, ?_⟩
    have hs := Heap.SameBut.update s.heap a (Obj.mapSeq fun x => x.reverse)
    have hg : (s.heap.update a (Obj.mapSeq fun x => x.reverse)).get? a = some (lstObj ws.reverse n) := by
      rw [Heap.get?_update_self _ e rfl]
      simp [Obj.mapSeq]
    exact ⟨.none, _, S.update (ao' := .list xs.reverse) h1 hs hg s.toks fun kt => ⟨_, _, hg, (rs.mono kt).reverse, by rw [List.length_reverse]; exact hl⟩, Ext.update h1 hs, .none, h⟩
  | get =>
    obtain ⟨a, rfl, h⟩ := ref1_go h ro
    cases args with
    | nil => exact h.elim
    | cons k args =>
      obtain ⟨v, r, rfl, r1, rs⟩ := ra.inv
      cases args with
      | nil =>
        obtain rfl := rs.inv
        obtain ⟨es, h1, h2, h⟩ := h
        refine key2 (cx := cx) h2 (fun y e z => ?_) fun y e z => ?_
        · subst e; exact get1_dict (c := encS cx.prog cx.w) ok S h1 z r1 h
        · subst e; exact get1_dict (c := encI cx.prog cx.w) ok S h1 z r1 h
      | cons d args =>
        obtain ⟨w, r, rfl, r2, rs⟩ := rs.inv
        obtain ⟨rfl, es, h1, h2, h⟩ := arg0_go h rs
        refine key3 h2 (fun h2 => key2 (cx := cx) h2 (fun y e z => ?_) fun y e z => ?_) fun y e z => ?_
        · subst e; exact get2_dict (c := encS cx.prog cx.w) ok S h1 z r1 r2 h
        · subst e; exact get2_dict (c := encI cx.prog cx.w) ok S h1 z r1 r2 h
        · subst e; exact get2_dictH ok hu S h1 z r1 r2 h
  | join =>
    obtain ⟨l, t, rfl, _, h⟩ := str1_go h ro
    cases l with
    | nil =>
      obtain ⟨x, v, rfl, r, h⟩ := arg1_go h ra
      obtain ⟨a, rfl, xs, t, h1, h2, h3, h⟩ := ref1_go h r
      exact join_sound S h1 h2 h3 h
    | cons _ _ => exact h.elim
  | zfill =>
    obtain ⟨l, t, rfl, okl, h⟩ := str1_go h ro
    obtain ⟨x, v, rfl, r, h⟩ := arg1_go h ra
    obtain ⟨n, u, rfl, h1, h2, h3, h4, h⟩ := int1_go h r
    refine call_gives PySem.F.slot_str_zfill (typeIs_str _ _ _) PySem.F.entry_str_zfill (PySem.F.args_str_zfill_2 _ _) (gives_str_zfill (mkS l) n t u (by simp; omega) (by simp [Builtin.Str.tooLong, sizeLine_eq]; omega)) ?_
    rw [mkS_length]
    have hok : okS (List.replicate (n.toNat - l.length) 48 ++ l) = true := okS_mk (by rw [List.length_append, List.length_replicate, lim_val]; omega) fun c hc => by
      rcases List.mem_append.mp hc with hc | hc
      · rw [(List.mem_replicate.mp hc).2]; decide
      · exact okS_all okl c hc
    split
    · rename_i hle
      rw [show n.toNat - l.length = 0 by omega] at h
      exact Post.toks (t := s.toks) S (.str _ _ okl) h
    · rw [zpad l _ h4]
      exact ⟨by rw [mkS_length, ← lim_eq]; exact okS_len hok, Post.toks S (.str _ _ hok) h⟩
  | startswith =>
    obtain ⟨l, t, rfl, okl, h⟩ := str1_go h ro
    obtain ⟨x, v, rfl, r, h⟩ := arg1_go h ra
    obtain ⟨u, k, rfl, oku, h⟩ := str1_go h r
    refine call_gives PySem.F.slot_str_startswith (typeIs_str _ _ _) PySem.F.entry_str_startswith (PySem.F.args_str_startswith_2 _ _) (gives_str_startswith (mkS l) (mkS u) t k) ?_
    rw [show (decide (0 + (mkS u).length ≤ (mkS l).length) && Builtin.Str.subAt (mkS l) (mkS u) 0) = u.isPrefixOf l by
      unfold Builtin.Str.subAt
      rw [mkS_length, mkS_length, Nat.zero_add]
      exact pre_eq l u]
    exact Post.toks (t := s.toks) S (.bool _) h
end
end Mine

namespace Mine
open PySem.Builtin PySem.Builtin.Str

theorem nolen_lri : typeLookup (.type "list_reverseiterator") "__len__" = pure none := by rw [typeLookup_type, builtinLookup_eq_fast]; kernel_rfl
theorem hint_lri : typeLookup (.type "list_reverseiterator") "__length_hint__" = pure (some (.builtin "list_reverseiterator.__length_hint__")) := by rw [typeLookup_type, builtinLookup_eq_fast]; kernel_rfl

section
variable {prog : Program} {w : World} {A : Around} {E : Value → Shared → Prop} {s : Shared} {I : Addr} {fp wr : List Addr} {G : Array GenState → Array GenState → Prop} {n : Nat} {P : Nat → Value → Prop} {St : Nat → Shared → Prop}
theorem collect_rev {Q : List Value → Shared → Prop}
    (W : WalksS prog w A.in1 I fp wr G n P St) (hT : ∀ i s, St i s → s.TypeIs (.ref I) "list_reverseiterator") (hst : St 0 s) (hfp : ∀ b ∈ fp, b < s.heap.objs.size) (hI : I ∈ fp)
    (hQ : ∀ s' acc, Moved wr G s s' → ItemsOf P acc n → Q acc.toList s') (hn : n ≤ sizeLine) : wpAny (model prog w) A (collect (.ref I)) Q E s := by
  have hSf : s.heap.objs.size ∉ fp := fun hm => Nat.lt_irrefl _ (hfp _ hm)
  have hSI : s.heap.objs.size ≠ I := fun e => hSf (e ▸ hI)
  unfold collect
  refine wpAny_bind (wpAny_runValue (codeAny_builtin PySem.F.entry_proto_collect ?_))
  rw [Around.under_plainId PySem.F.plain_proto_collect _]
  show wpAny _ A.in1 (newList [] >>= fun l => again (.builtin "list.__iadd__" ⟨[l, .ref I], []⟩)) _ _ s
  refine wpAny_bind (wpAny_newObj_type ?_)
  refine wpAny_pure ⟨plainId_quiet PySem.F.plain_list_iadd _, codeAny_builtin PySem.F.entry_list_iadd ?_⟩
  rw [Around.under_plainId PySem.F.plain_list_iadd _]
  have hst₁ := W.frame 0 s (s.heap.push { cls := .type "list", data := .seq ([] : List Value).toArray }) s.toks hst (Nat.le_refl _) fun b _ o e => Heap.get?_push_of_some _ e
  have hS₁ : (s.heap.push { cls := .type "list", data := .seq ([] : List Value).toArray }).get? s.heap.objs.size = some { cls := .type "list", data := .seq ([] : List Value).toArray } := Heap.get?_push_size _ rfl
  have h1 : Builtin.List.listSameRef (.ref s.heap.objs.size) (.ref I) = false := by simp [Builtin.List.listSameRef, hSI]
  show wpAny _ A.in1 (Builtin.List.listExtendWith (.ref s.heap.objs.size) (.ref I) (.ref s.heap.objs.size)) _ _ _
  unfold Builtin.List.listExtendWith
  refine wpAny_bind (wpAny_typeOf (hT 0 _ hst₁) ?_)
  rw [if_neg (by rw [h1]; decide)]
  refine wpAny_bind (W.self 0 _ _ _ hst₁ ?_)
  refine wpAny_bind (wpAny_holding ?_)
  unfold Builtin.List.listLengthHint
  refine wpAny_bind (wpAny_specialOf (hT 0 _ hst₁) nolen_lri ?_)
  show wpAny _ A.in1 (specialOf (Value.ref I) (Str.ofString "__length_hint__") >>= _) _ _ _
  refine wpAny_bind (wpAny_specialOf (hT 0 _ hst₁) hint_lri ?_)
  generalize hid : ("list_reverseiterator.__length_hint__" : String) = id0
  wp_delta
  rw [show splitId id0 = some ("list_reverseiterator", "__length_hint__") from by subst hid; decide +kernel]
  subst hid
  refine wpAny_bind (wpAny_isInstance (b := true) (hT 0 _ hst₁) (by rw [isSubtype_type]; kernel_rfl) ?_)
  refine wpAny_pure ?_
  rw [if_neg (by decide)]
  refine wpAny_pure ⟨plainId_quiet PySem.F.plain_extend_loop _, codeAny_extend_loopS W hn _ hSf _ n 0 _ _ _ rfl (Nat.zero_le _) hst₁ hS₁ (ItemsOf.nil P) fun s' acc' c' hm hS' hacc => ?_⟩
  show wpAny _ A (load s.heap.objs.size >>= _) _ _ s'
  refine wpAny_bind (wpAny_load hS' ?_)
  exact wpAny_pure (hQ s' acc' (Moved.drop_new (o := { cls := .type "list", data := .seq ([] : List Value).toArray }) (tk := s.toks) hm (Nat.le_refl _)) hacc)

theorem joinIt {x : Str} {t : Tok} {Q : Value → Shared → Prop} (W : WalksS prog w A.in1.in1 I fp wr G n P St) (hT : ∀ i s, St i s → s.TypeIs (.ref I) "list_reverseiterator") (hst : St 0 s) (hfp : ∀ b ∈ fp, b < s.heap.objs.size) (hI : I ∈ fp)
    (hstr : ∀ i v, P i v → ∃ y u, v = Value.str y u)
    (hq : ∀ s' (l : List (Str × Tok)), Moved wr G s s' → ItemsOf P (strValues l).toArray n → JoinOk x (l.map (·.1)) = true ∧ ∀ t' k, Q (.str (Txt.join x (l.map (·.1))) t') { s' with toks := k })
    (hsz : n ≤ sizeLine) :
    wpAny (model prog w) A (call (.builtin "str.join") [.str x t, .ref I]) Q E s := by
  refine wpAny_call (codeAny_call_builtin PySem.F.slot_str_join.plain PySem.F.entry_str_join (PySem.F.slot_str_join.check _ _ _ _ _ _ _ _ (typeIs_str _ _ _) (PySem.F.args_str_join_2 _ _) ?_))
  rw [join_tree_other]
  refine wpAny_bind (wpAny_typeOf (hT 0 s hst) ?_)
  show wpAny _ A.in1 ((pyIter (.ref I)).tryCatch _ >>= fun it => collect it >>= fun items => joinTail x items) _ _ s
  refine wpAny_bind (wpAny_tryCatch (W.of_in1.self 0 s _ _ hst ?_))
  refine wpAny_bind (collect_rev W hT hst hfp hI (fun s' acc hm hacc => ?_) hsz)
  obtain ⟨l, hl⟩ := exists_strValues acc.toList fun v hv => by
    obtain ⟨j, hj, rfl⟩ := Array.mem_iff_getElem.mp (Array.mem_toList_iff.mp hv)
    exact hstr j _ (hacc.2 j _ (Array.getElem?_eq_getElem hj))
  rw [← hl]
  have hacc' : ItemsOf P (strValues l).toArray n := by rw [hl]; simpa using hacc
  obtain ⟨hok, hpost⟩ := hq s' l hm hacc'
  unfold JoinOk at hok
  rw [Bool.not_eq_true'] at hok
  have g : Gives (joinTail x (strValues l)) (joinMade x l) := by
    have g0 := gives_joinTail x l hok
    cases l with
    | nil => exact g0
    | cons p r => cases r with
      | nil => exact g0
      | cons q r' => exact g0
  exact g prog w A (wants Q E) s' (post_join l ⟨joinFit_length hok, hpost⟩)
end
end Mine

namespace Mine

noncomputable def constIs (v : V) (k : Const) : Bool := match v with
  | .none => (match k with
    | .none => true
    | _ => false)
  | .bool a => (match k with
    | .bool b => a == b
    | _ => false)
  | .int a => (match k with
    | .int b => decide (a = b)
    | _ => false)
  | .str a => (match k with
    | .str b => okS a && (b.cps.toList == a)
    | _ => false)
  | _ => false
noncomputable def bmName : BM → Str
  | .append => "append"
  | .pop => "pop"
  | .reverse => "reverse"
  | .get => "get"
  | .join => "join"
  | .zfill => "zfill"
  | .startswith => "startswith"
noncomputable def isGlob (sc : Scope) (x : Str) : Bool := sc.names.lookup x == some .globalImplicit && !(x == ("__debug__" : Str))
noncomputable def isLoc (sc : Scope) (x : Str) : Bool := sc.names.lookup x == some .local && !(x == ("__debug__" : Str))
noncomputable def isCel (sc : Scope) (x : Str) : Bool := sc.names.lookup x == some .cell && !(x == ("__debug__" : Str))
noncomputable def isRefV : V → Bool
  | .ref _ => true
  | _ => false
theorem dite_of {P : Prop} [Decidable P] {g : P → Bool} (h : (if q : P then g q else false) = true) : ∃ q, g q = true := by
  split at h
  · exact ⟨_, h⟩
  · contradiction

section
variable {e : Expr} {st : Stmt}
noncomputable def isName (f : Str → Pos → Bool) (v : Expr) : Bool := if h : v.ctorIdx = 23 then Expr.Name.elim (motive_1 := fun _ => Bool) v h f else false
theorem ofName {f : Str → Pos → Bool} (h : isName f e = true) : ∃ id p, e = .Name id p ∧ f id p = true := by
  obtain ⟨q, h⟩ := dite_of h
  exact Expr.Name.elim (motive_1 := fun v => ∀ q, Expr.Name.elim (motive_1 := fun _ => Bool) v q f = true → ∃ id p, v = .Name id p ∧ f id p = true) e q (fun id p _ h => ⟨id, p, rfl, h⟩) q h
noncomputable def isConst (f : Const → Nat → Pos → Bool) (v : Expr) : Bool := if h : v.ctorIdx = 19 then Expr.Constant.elim (motive_1 := fun _ => Bool) v h f else false
theorem ofConst {f : Const → Nat → Pos → Bool} (h : isConst f e = true) : ∃ k a b, e = .Constant k a b ∧ f k a b = true := by
  obtain ⟨q, h⟩ := dite_of h
  exact Expr.Constant.elim (motive_1 := fun v => ∀ q, Expr.Constant.elim (motive_1 := fun _ => Bool) v q f = true → ∃ k a b, v = .Constant k a b ∧ f k a b = true) e q (fun k a b _ h => ⟨k, a, b, rfl, h⟩) q h
noncomputable def isBin (f : Expr → Operator → Expr → Pos → Bool) (v : Expr) : Bool := if h : v.ctorIdx = 2 then Expr.BinOp.elim (motive_1 := fun _ => Bool) v h f else false
theorem ofBin {f : Expr → Operator → Expr → Pos → Bool} (h : isBin f e = true) : ∃ l o r p, e = .BinOp l o r p ∧ f l o r p = true := by
  obtain ⟨q, h⟩ := dite_of h
  exact Expr.BinOp.elim (motive_1 := fun v => ∀ q, Expr.BinOp.elim (motive_1 := fun _ => Bool) v q f = true → ∃ l o r p, v = .BinOp l o r p ∧ f l o r p = true) e q (fun l o r p _ h => ⟨l, o, r, p, rfl, h⟩) q h
noncomputable def isUn (f : UnaryOp → Expr → Pos → Bool) (v : Expr) : Bool := if h : v.ctorIdx = 3 then Expr.UnaryOp.elim (motive_1 := fun _ => Bool) v h f else false
theorem ofUn {f : UnaryOp → Expr → Pos → Bool} (h : isUn f e = true) : ∃ o a p, e = .UnaryOp o a p ∧ f o a p = true := by
  obtain ⟨q, h⟩ := dite_of h
  exact Expr.UnaryOp.elim (motive_1 := fun v => ∀ q, Expr.UnaryOp.elim (motive_1 := fun _ => Bool) v q f = true → ∃ o a p, v = .UnaryOp o a p ∧ f o a p = true) e q (fun o a p _ h => ⟨o, a, p, rfl, h⟩) q h
noncomputable def isBop (f : BoolOp → List Expr → Pos → Bool) (v : Expr) : Bool := if h : v.ctorIdx = 0 then Expr.BoolOp.elim (motive_1 := fun _ => Bool) v h f else false
theorem ofBop {f : BoolOp → List Expr → Pos → Bool} (h : isBop f e = true) : ∃ o l p, e = .BoolOp o l p ∧ f o l p = true := by
  obtain ⟨q, h⟩ := dite_of h
  exact Expr.BoolOp.elim (motive_1 := fun v => ∀ q, Expr.BoolOp.elim (motive_1 := fun _ => Bool) v q f = true → ∃ o l p, v = .BoolOp o l p ∧ f o l p = true) e q (fun o l p _ h => ⟨o, l, p, rfl, h⟩) q h
noncomputable def isIte (f : Expr → Expr → Expr → Pos → Bool) (v : Expr) : Bool := if h : v.ctorIdx = 5 then Expr.IfExp.elim (motive_1 := fun _ => Bool) v h f else false
theorem ofIte {f : Expr → Expr → Expr → Pos → Bool} (h : isIte f e = true) : ∃ t a b p, e = .IfExp t a b p ∧ f t a b p = true := by
  obtain ⟨q, h⟩ := dite_of h
  exact Expr.IfExp.elim (motive_1 := fun v => ∀ q, Expr.IfExp.elim (motive_1 := fun _ => Bool) v q f = true → ∃ t a b p, v = .IfExp t a b p ∧ f t a b p = true) e q (fun t a b p _ h => ⟨t, a, b, p, rfl, h⟩) q h
noncomputable def isCmp (f : Expr → List CmpOp → List Expr → Pos → Bool) (v : Expr) : Bool := if h : v.ctorIdx = 15 then Expr.Compare.elim (motive_1 := fun _ => Bool) v h f else false
theorem ofCmp {f : Expr → List CmpOp → List Expr → Pos → Bool} (h : isCmp f e = true) : ∃ l o r p, e = .Compare l o r p ∧ f l o r p = true := by
  obtain ⟨q, h⟩ := dite_of h
  exact Expr.Compare.elim (motive_1 := fun v => ∀ q, Expr.Compare.elim (motive_1 := fun _ => Bool) v q f = true → ∃ l o r p, v = .Compare l o r p ∧ f l o r p = true) e q (fun l o r p _ h => ⟨l, o, r, p, rfl, h⟩) q h
noncomputable def isAttr (f : Expr → Str → Pos → Bool) (v : Expr) : Bool := if h : v.ctorIdx = 20 then Expr.Attribute.elim (motive_1 := fun _ => Bool) v h f else false
theorem ofAttr {f : Expr → Str → Pos → Bool} (h : isAttr f e = true) : ∃ o n p, e = .Attribute o n p ∧ f o n p = true := by
  obtain ⟨q, h⟩ := dite_of h
  exact Expr.Attribute.elim (motive_1 := fun v => ∀ q, Expr.Attribute.elim (motive_1 := fun _ => Bool) v q f = true → ∃ o n p, v = .Attribute o n p ∧ f o n p = true) e q (fun o n p _ h => ⟨o, n, p, rfl, h⟩) q h
noncomputable def isSub (f : Expr → Expr → Pos → Bool) (v : Expr) : Bool := if h : v.ctorIdx = 21 then Expr.Subscript.elim (motive_1 := fun _ => Bool) v h f else false
theorem ofSub {f : Expr → Expr → Pos → Bool} (h : isSub f e = true) : ∃ o i p, e = .Subscript o i p ∧ f o i p = true := by
  obtain ⟨q, h⟩ := dite_of h
  exact Expr.Subscript.elim (motive_1 := fun v => ∀ q, Expr.Subscript.elim (motive_1 := fun _ => Bool) v q f = true → ∃ o i p, v = .Subscript o i p ∧ f o i p = true) e q (fun o i p _ h => ⟨o, i, p, rfl, h⟩) q h
noncomputable def isSlice (f : Option Expr → Option Expr → Option Expr → Pos → Bool) (v : Expr) : Bool := if h : v.ctorIdx = 26 then Expr.Slice.elim (motive_1 := fun _ => Bool) v h f else false
theorem ofSlice {f : Option Expr → Option Expr → Option Expr → Pos → Bool} (h : isSlice f e = true) : ∃ l u s p, e = .Slice l u s p ∧ f l u s p = true := by
  obtain ⟨q, h⟩ := dite_of h
  exact Expr.Slice.elim (motive_1 := fun v => ∀ q, Expr.Slice.elim (motive_1 := fun _ => Bool) v q f = true → ∃ l u s p, v = .Slice l u s p ∧ f l u s p = true) e q (fun l u s p _ h => ⟨l, u, s, p, rfl, h⟩) q h
noncomputable def isCall (f : Expr → List Expr → List Keyword → Pos → Bool) (v : Expr) : Bool := if h : v.ctorIdx = 16 then Expr.Call.elim (motive_1 := fun _ => Bool) v h f else false
theorem ofCall {f : Expr → List Expr → List Keyword → Pos → Bool} (h : isCall f e = true) : ∃ g l k p, e = .Call g l k p ∧ f g l k p = true := by
  obtain ⟨q, h⟩ := dite_of h
  exact Expr.Call.elim (motive_1 := fun v => ∀ q, Expr.Call.elim (motive_1 := fun _ => Bool) v q f = true → ∃ g l k p, v = .Call g l k p ∧ f g l k p = true) e q (fun g l k p _ h => ⟨g, l, k, p, rfl, h⟩) q h
noncomputable def isList (f : List Expr → Pos → Bool) (v : Expr) : Bool := if h : v.ctorIdx = 24 then Expr.List.elim (motive_1 := fun _ => Bool) v h f else false
theorem ofList {f : List Expr → Pos → Bool} (h : isList f e = true) : ∃ l p, e = .List l p ∧ f l p = true := by
  obtain ⟨q, h⟩ := dite_of h
  exact Expr.List.elim (motive_1 := fun v => ∀ q, Expr.List.elim (motive_1 := fun _ => Bool) v q f = true → ∃ l p, v = .List l p ∧ f l p = true) e q (fun l p _ h => ⟨l, p, rfl, h⟩) q h
noncomputable def isTup (f : List Expr → Nat → Pos → Bool) (v : Expr) : Bool := if h : v.ctorIdx = 25 then Expr.Tuple.elim (motive_1 := fun _ => Bool) v h f else false
theorem ofTup {f : List Expr → Nat → Pos → Bool} (h : isTup f e = true) : ∃ l k p, e = .Tuple l k p ∧ f l k p = true := by
  obtain ⟨q, h⟩ := dite_of h
  exact Expr.Tuple.elim (motive_1 := fun v => ∀ q, Expr.Tuple.elim (motive_1 := fun _ => Bool) v q f = true → ∃ l k p, v = .Tuple l k p ∧ f l k p = true) e q (fun l k p _ h => ⟨l, k, p, rfl, h⟩) q h
noncomputable def isDict (f : List (Option Expr) → List Expr → Pos → Bool) (v : Expr) : Bool := if h : v.ctorIdx = 6 then Expr.Dict.elim (motive_1 := fun _ => Bool) v h f else false
theorem ofDict {f : List (Option Expr) → List Expr → Pos → Bool} (h : isDict f e = true) : ∃ k l p, e = .Dict k l p ∧ f k l p = true := by
  obtain ⟨q, h⟩ := dite_of h
  exact Expr.Dict.elim (motive_1 := fun v => ∀ q, Expr.Dict.elim (motive_1 := fun _ => Bool) v q f = true → ∃ k l p, v = .Dict k l p ∧ f k l p = true) e q (fun k l p _ h => ⟨k, l, p, rfl, h⟩) q h
noncomputable def isLC (f : Expr → List Comprehension → Scope → Pos → Bool) (v : Expr) : Bool := if h : v.ctorIdx = 8 then Expr.ListComp.elim (motive_1 := fun _ => Bool) v h f else false
theorem ofLC {f : Expr → List Comprehension → Scope → Pos → Bool} (h : isLC f e = true) : ∃ a g s p, e = .ListComp a g s p ∧ f a g s p = true := by
  obtain ⟨q, h⟩ := dite_of h
  exact Expr.ListComp.elim (motive_1 := fun v => ∀ q, Expr.ListComp.elim (motive_1 := fun _ => Bool) v q f = true → ∃ a g s p, v = .ListComp a g s p ∧ f a g s p = true) e q (fun a g s p _ h => ⟨a, g, s, p, rfl, h⟩) q h
noncomputable def isExprS (f : Expr → Pos → Bool) (v : Stmt) : Bool := if h : v.ctorIdx = 24 then Stmt.Expr.elim (motive_2 := fun _ => Bool) v h f else false
theorem ofExprS {f : Expr → Pos → Bool} (h : isExprS f st = true) : ∃ a p, st = .Expr a p ∧ f a p = true := by
  obtain ⟨q, h⟩ := dite_of h
  exact Stmt.Expr.elim (motive_2 := fun v => ∀ q, Stmt.Expr.elim (motive_2 := fun _ => Bool) v q f = true → ∃ a p, v = .Expr a p ∧ f a p = true) st q (fun a p _ h => ⟨a, p, rfl, h⟩) q h
noncomputable def isAssign (f : List Expr → Expr → Pos → Bool) (v : Stmt) : Bool := if h : v.ctorIdx = 5 then Stmt.Assign.elim (motive_2 := fun _ => Bool) v h f else false
theorem ofAssign {f : List Expr → Expr → Pos → Bool} (h : isAssign f st = true) : ∃ l a p, st = .Assign l a p ∧ f l a p = true := by
  obtain ⟨q, h⟩ := dite_of h
  exact Stmt.Assign.elim (motive_2 := fun v => ∀ q, Stmt.Assign.elim (motive_2 := fun _ => Bool) v q f = true → ∃ l a p, v = .Assign l a p ∧ f l a p = true) st q (fun l a p _ h => ⟨l, a, p, rfl, h⟩) q h
noncomputable def isIf (f : Expr → List Stmt → List Stmt → Pos → Bool) (v : Stmt) : Bool := if h : v.ctorIdx = 12 then Stmt.If.elim (motive_2 := fun _ => Bool) v h f else false
theorem ofIf {f : Expr → List Stmt → List Stmt → Pos → Bool} (h : isIf f st = true) : ∃ t a b p, st = .If t a b p ∧ f t a b p = true := by
  obtain ⟨q, h⟩ := dite_of h
  exact Stmt.If.elim (motive_2 := fun v => ∀ q, Stmt.If.elim (motive_2 := fun _ => Bool) v q f = true → ∃ t a b p, v = .If t a b p ∧ f t a b p = true) st q (fun t a b p _ h => ⟨t, a, b, p, rfl, h⟩) q h
noncomputable def isWhile (f : Expr → List Stmt → List Stmt → Pos → Bool) (v : Stmt) : Bool := if h : v.ctorIdx = 11 then Stmt.While.elim (motive_2 := fun _ => Bool) v h f else false
theorem ofWhile {f : Expr → List Stmt → List Stmt → Pos → Bool} (h : isWhile f st = true) : ∃ t a b p, st = .While t a b p ∧ f t a b p = true := by
  obtain ⟨q, h⟩ := dite_of h
  exact Stmt.While.elim (motive_2 := fun v => ∀ q, Stmt.While.elim (motive_2 := fun _ => Bool) v q f = true → ∃ t a b p, v = .While t a b p ∧ f t a b p = true) st q (fun t a b p _ h => ⟨t, a, b, p, rfl, h⟩) q h
noncomputable def isFor (f : Expr → Expr → List Stmt → List Stmt → Pos → Bool) (v : Stmt) : Bool := if h : v.ctorIdx = 9 then Stmt.For.elim (motive_2 := fun _ => Bool) v h f else false
theorem ofFor {f : Expr → Expr → List Stmt → List Stmt → Pos → Bool} (h : isFor f st = true) : ∃ t i a b p, st = .For t i a b p ∧ f t i a b p = true := by
  obtain ⟨q, h⟩ := dite_of h
  exact Stmt.For.elim (motive_2 := fun v => ∀ q, Stmt.For.elim (motive_2 := fun _ => Bool) v q f = true → ∃ t i a b p, v = .For t i a b p ∧ f t i a b p = true) st q (fun t i a b p _ h => ⟨t, i, a, b, p, rfl, h⟩) q h
noncomputable def isRet (f : Option Expr → Pos → Bool) (v : Stmt) : Bool := if h : v.ctorIdx = 3 then Stmt.Return.elim (motive_2 := fun _ => Bool) v h f else false
theorem ofRet {f : Option Expr → Pos → Bool} (h : isRet f st = true) : ∃ a p, st = .Return a p ∧ f a p = true := by
  obtain ⟨q, h⟩ := dite_of h
  exact Stmt.Return.elim (motive_2 := fun v => ∀ q, Stmt.Return.elim (motive_2 := fun _ => Bool) v q f = true → ∃ a p, v = .Return a p ∧ f a p = true) st q (fun a p _ h => ⟨a, p, rfl, h⟩) q h
noncomputable def plainBase (v : Expr) : Bool := if h : v.ctorIdx = 16 then Expr.Call.elim (motive_1 := fun _ => Bool) v h (fun _ l _ _ => !l.isEmpty) else !(v.ctorIdx == 25)
noncomputable def isBrk (v : Stmt) : Bool := decide (v.ctorIdx = 26)
theorem isBrk_eq (h : isBrk st = true) : ∃ p, st = .Break p :=
  Stmt.Break.elim (motive_2 := fun v => ∃ p, v = .Break p) st (of_decide_eq_true h) fun p => ⟨p, rfl⟩
noncomputable def one1 {α : Type} (f : α → Bool) : List α → Bool
  | [] => false
  | a :: l => l.isEmpty && f a
theorem isEmpty_of {α : Type} {l : List α} (h : l.isEmpty = true) : l = [] := List.isEmpty_iff.mp h
theorem and2 {a b : Bool} (h : (a && b) = true) : a = true ∧ b = true := Bool.and_eq_true_iff.mp h
theorem one1_of {α : Type} {f : α → Bool} {l : List α} (h : one1 f l = true) : ∃ a, l = [a] ∧ f a = true := by
  cases l with
  | nil => contradiction
  | cons a l => exact ⟨a, by rw [isEmpty_of (and2 h).1], (and2 h).2⟩
noncomputable def two2 {α : Type} (f : α → α → Bool) : List α → Bool
  | [] => false
  | a :: l => one1 (f a) l
theorem two2_of {α : Type} {f : α → α → Bool} {l : List α} (h : two2 f l = true) : ∃ a b, l = [a, b] ∧ f a b = true := by
  cases l with
  | nil => contradiction
  | cons a l => obtain ⟨b, rfl, h⟩ := one1_of h; exact ⟨a, b, rfl, h⟩
noncomputable def isCN (f : Str → List Expr → Pos → Bool) (v : Expr) : Bool := isCall (fun g l k p => k.isEmpty && isName (fun id _ => f id l p) g) v
theorem ofCN {f : Str → List Expr → Pos → Bool} (h : isCN f e = true) : ∃ id np l p, e = .Call (.Name id np) l [] p ∧ f id l p = true := by
  obtain ⟨g, l, k, p, rfl, h⟩ := ofCall h
  obtain ⟨id, np, rfl, h'⟩ := ofName (and2 h).2
  exact ⟨id, np, l, p, by rw [isEmpty_of (and2 h).1], h'⟩
noncomputable def isCA (f : Expr → Str → List Expr → Bool) (v : Expr) : Bool := isCall (fun g l k p => k.isEmpty && isAttr (fun o n ap => plainBase o && (ap.endLine == p.line) && f o n l) g) v
theorem ofCA {f : Expr → Str → List Expr → Bool} (h : isCA f e = true) : ∃ o n ap l p, e = .Call (.Attribute o n ap) l [] p ∧ plainBase o = true ∧ (ap.endLine == p.line) = true ∧ f o n l = true := by
  obtain ⟨g, l, k, p, rfl, h⟩ := ofCall h
  obtain ⟨o, n, ap, rfl, h'⟩ := ofAttr (and2 h).2
  obtain ⟨h1, h2⟩ := and2 h'
  exact ⟨o, n, ap, l, p, by rw [isEmpty_of (and2 h).1], (and2 h1).1, (and2 h1).2, h2⟩
noncomputable def isSS (f : Expr → Option Expr → Option Expr → Bool) (v : Expr) : Bool := isSub (fun o i _ => isSlice (fun l u s _ => s.isNone && f o l u) i) v
theorem ofSS {f : Expr → Option Expr → Option Expr → Bool} (h : isSS f e = true) : ∃ o l u p pos, e = .Subscript o (.Slice l u none p) pos ∧ f o l u = true := by
  obtain ⟨o, i, p, rfl, h⟩ := ofSub h
  obtain ⟨l, u, s, q, rfl, h⟩ := ofSlice h
  exact ⟨o, l, u, q, p, by rw [Option.isNone_iff_eq_none.mp (and2 h).1], (and2 h).2⟩
end
noncomputable def isNoneC : PE → Bool
  | .c v => (match v with
    | .none => true
    | _ => false)
  | _ => false
noncomputable def optC (f : Expr → Bool) (p : PE) : Option Expr → Bool
  | some e => f e
  | none => isNoneC p

noncomputable def compScope (sc scope : Scope) : Scope := { scope with names := scope.names.map fun (n, k) => if k == .free && sc.kind == .function && sc.names.lookup n == some .cell then (n, .cell) else (n, k) }
noncomputable def compNames (x g y : Str) : List (Str × NameKind) := [(".0", .local), (x, .local), (g, .globalImplicit), (y, .free)]
noncomputable def chkLC (cx : Cx) (sc : Scope) (y g x y' : Str) (scope : Scope) : Bool :=
  decide (scope.names = compNames x g y) && (decide (scope.kind = .function) && (isGlob (compScope sc scope) g && (isLoc (compScope sc scope) x && (isCel (compScope sc scope) y && (isCel sc y && (decide (x ≠ y) && y' == y))))))
mutual
noncomputable def chkE (cx : Cx) (sc : Scope) (nms : List Str) : PE → Expr → Bool
  | .bad, e => false
  | .c v, ee => isConst (fun k _ _ => constIs v k) ee
  | .x i, ee => isName (fun id _ => nms[i]? == some id && (isLoc sc id || isCel sc id)) ee
  | .g i, ee => isName (fun id _ => cx.gn[i]? == some id && isGlob sc id) ee
  | .bin op a b, ee => isBin (fun l o r _ => decide (op = o) && (chkE cx sc nms a l && chkE cx sc nms b r)) ee
  | .neg a, ee => isUn (fun o e _ => decide (o = .USub) && chkE cx sc nms a e) ee
  | .not a, ee => isUn (fun o e _ => decide (o = .Not) && chkE cx sc nms a e) ee
  | .bop isAnd es, ee => isBop (fun op l _ => (isAnd == decide (op = .And)) && chkEs cx sc nms es l) ee
  | .ite t a b, ee => isIte (fun t' a' b' _ => chkE cx sc nms t t' && (chkE cx sc nms a a' && chkE cx sc nms b b')) ee
  | .cmp op a b, ee => isCmp (fun l os rs _ => one1 (fun o => one1 (fun r => decide (op = o) && (!behindInMarks o r && (chkE cx sc nms a l && chkE cx sc nms b r))) rs) os) ee
  | .attr o k, ee => isAttr (fun e n _ => (cx.an[k]? == some n) && (plainBase e && chkE cx sc nms o e)) ee
  | .sub o i, ee => isSub (fun e sl _ => chkE cx sc nms o e && chkE cx sc nms i sl) ee
  | .slice o lo hi, ee => isSS (fun e l u => chkE cx sc nms o e && (optC (chkE cx sc nms lo) lo l && optC (chkE cx sc nms hi) hi u)) ee
  | .bi b es, ee => isCN (fun id args _ => id == biName b && (isGlob sc id && chkEs cx sc nms es args)) ee
  | .bm m o es, ee => isCA (fun e n args => n == bmName m && (decide (args.length < 30) && (chkE cx sc nms o e && chkEs cx sc nms es args))) ee
  | .call f es, ee => isCN (fun id args _ => (cx.gn[f]? == some id) && (isGlob sc id && (isRefV (cx.gl f) && chkEs cx sc nms es args))) ee
  | .new f es, ee => isCN (fun id args _ => (cx.gn[f]? == some id) && (isGlob sc id && (isRefV (cx.gl f) && chkEs cx sc nms es args))) ee
  | .meth o k es, ee => isCA (fun e n args => (cx.an[k]? == some n) && (decide (args.length < 30) && (chkE cx sc nms o e && chkEs cx sc nms es args))) ee
  | .list es, ee => isList (fun l _ => chkEs cx sc nms es l) ee
  | .tuple es, ee => isTup (fun l _ _ => chkEs cx sc nms es l) ee
  | .dict, ee => isDict (fun k l _ => k.isEmpty && l.isEmpty) ee
  | .joinrev sp o, ee => isCA (fun e n args => one1 (fun c => isCN (fun id l _ => one1 (fun x => n == ("join" : Str) && (id == ("reversed" : Str) && (isGlob sc id && (chkE cx sc nms sp e && chkE cx sc nms o x)))) l) c) args) ee
  | .comp f i e, te => isCN (fun t as _ => one1 (fun ee => t == biName .tuple && (isGlob sc t && isLC (fun elt gs scope _ => isCN (fun g args _ => two2 (fun a b => isName (fun xa _ => isName (fun ya _ => one1 (fun gn => gn.ifs.isEmpty && (gn.is_async == 0 && isName (fun x _ => xa == x && (cx.gn[f]? == some g && (isRefV (cx.gl f) && (nms[i]? == some ya && (chkLC cx sc ya g x ya scope && chkE cx sc nms e gn.iter))))) gn.target)) gs) b) a) args) elt) ee)) as) te
noncomputable def chkEs (cx : Cx) (sc : Scope) (nms : List Str) : PEs → List Expr → Bool
  | .nil, l => l.isEmpty
  | .cons e es, l => (match l with
    | x :: xs => chkE cx sc nms e x && chkEs cx sc nms es xs
    | [] => false)
noncomputable def chkSrc (cx : Cx) (sc : Scope) (nms : List Str) : Src → Expr → Bool
  | .val e, x => chkE cx sc nms e x
  | .range e, ee => isCN (fun id l _ => one1 (fun a => id == ("range" : Str) && (isGlob sc id && chkE cx sc nms e a)) l) ee
  | .rev e, ee => isCN (fun id l _ => one1 (fun a => id == ("reversed" : Str) && (isGlob sc id && chkE cx sc nms e a)) l) ee
end

structure Fr where
  cx : Cx
  n : Nat
  env : Env
  nms : List Str
structure FrOk (C : Fr) : Prop where
  ok : CxOk C.cx
  kind : C.env.scope.kind = .function
  glob : C.env.globals = mainGlobals
  blt : C.env.builtins = builtinsNs
  gL : C.cx.g0.get? C.env.locals = none
  nd : C.nms.Nodup
noncomputable abbrev Fr.M (C : Fr) : Model := model C.cx.prog C.cx.w
noncomputable def Named (C : Fr) (m : Str → Option Value) (H : AH) (h : Heap) (n : Str) (v : Value) : Prop :=
  (C.env.kindOf n ≠ some .cell ∧ m n = some v) ∨ C.env.kindOf n = some .cell ∧ ∃ c o, C.env.cells.lookup n = some c ∧ h.get? c = some o ∧ o.data = .cell (some v) ∧ H c = none ∧ c ≠ C.env.locals
noncomputable def FRel (C : Fr) (ρ : Rho) (H : AH) (h : Heap) : Prop := ∃ m : Str → Option Value, h.Ns C.env.locals m ∧ ∀ i x n, slot ρ i = some x → C.nms[i]? = some n → ∃ v, Named C m H h n v ∧ Rep h x v
structure At (C : Fr) (A : Around) (s : Shared) (H : AH) (ρ : Rho) : Prop where
  rm : Room C.n A
  st : St C.cx H s
  ln : ρ.length = C.nms.length
  lo : H C.env.locals = none
  fr : FRel C ρ H s.heap
section
variable {C : Fr} {A : Around} {H H' : AH} {s s' : Shared} {ρ : Rho}
theorem At.next (G : At C A s H ρ) (S : St C.cx H' s') (x : Ext H s.heap H' s'.heap) : At C A s' H' ρ := by
  obtain ⟨m, ⟨o, es, ep, e, r⟩, h3⟩ := G.fr
  refine ⟨G.rm, S, G.ln, (x _ _ e G.lo).2, m, ⟨o, es, ep, (x _ _ e G.lo).1, r⟩, fun i v n q1 q2 => ?_⟩
  obtain ⟨w, e1, e2⟩ := h3 i v n q1 q2
  refine ⟨w, e1.imp_right fun q => ?_, e2.ext G.st x⟩
  obtain ⟨k, c, o, q1, q2, q3, q4, q5⟩ := q
  exact ⟨k, c, o, q1, (x _ _ q2 q4).1, q3, (x _ _ q2 q4).2, q5⟩
theorem At.toks (G : At C A s H ρ) (t : Nat) : At C A { s with toks := t } H ρ := ⟨G.rm, G.st.toks t, G.ln, G.lo, G.fr⟩
theorem At.u100 (G : At C A s H ρ) : A.units + 100 < cLine := by have := G.rm.units; omega
noncomputable abbrev Cont (C : Fr) (A : Around) (s : Shared) (H : AH) (ρ : Rho) (P : V → AH → Prop) (R : Value → Shared → Prop) : Prop :=
  ∀ v s₁ x H₁, At C A s₁ H₁ ρ → Ext H s.heap H₁ s₁.heap → Rep s₁.heap x v → P x H₁ → R v s₁
theorem fin {t : Sem Value} {P : V → AH → Prop} {R : Value → Shared → Prop} {H₀ : AH} {s₀ : Shared} (G : At C A s H ρ) (x : Ext H₀ s₀.heap H s.heap) (k : Cont C A s₀ H₀ ρ P R) (h : wpAny C.M A t (Post C.cx H s.heap P) NoE s) : wpAny C.M A t R NoE s :=
  wpAny_mono h (fun v s₁ p => by obtain ⟨y, H₁, S₁, E₁, r, q⟩ := p; exact k v s₁ y H₁ (G.next S₁ E₁) (x.trans E₁) r q) fun _ _ e => e
theorem Cont.shift {P : V → AH → Prop} {R : Value → Shared → Prop} {H₁ : AH} {s₁ : Shared} (k : Cont C A s H ρ P R) (E : Ext H s.heap H₁ s₁.heap) : Cont C A s₁ H₁ ρ P R := fun v s₂ x H₂ G₂ E₂ => k v s₂ x H₂ G₂ (E.trans E₂)
noncomputable def SimE (C : Fr) (e : Expr) (p : PE) : Prop := ∀ {A s H ρ P R}, At C A s H ρ → wpE C.cx C.n p ρ H P → Cont C A s H ρ P R → wpAny C.M A (eval e C.env) R NoE s
noncomputable def SimB (C : Fr) (e : Expr) (p : PE) : Prop := ∀ {A s H ρ} {W : V → AH → Bool → Prop} {R : Bool → Shared → Prop}, At C A s H ρ → wpE C.cx C.n p ρ H (fun x H₁ => truW x H₁ fun t => W x H₁ t) →
    (∀ t x s₁ H₁, At C A s₁ H₁ ρ → Ext H s.heap H₁ s₁.heap → W x H₁ t → truW x H₁ (· = t) → R t s₁) → wpAny C.M A (isTrue e C.env (eval e C.env)) R NoE s
structure Plain (e : Expr) : Prop where
  star : ∀ es env, starEach (e :: es) env = (false, eval e env) :: starEach es env
  swap : ∀ t line env, swapsWith e t line env = pure false
  fold : ∀ env x, foldedSetIterable e env x = pure x
  sub : ∀ o i, subscripted e false o i = operate [o, i] (getItem o i)
structure Node (C : Fr) (e : Expr) (p : PE) : Prop where
  ev : SimE C e p
  tr : SimB C e p
  pl : Plain e
  ba : plainBase e = true → ∀ attr whole, attributeBase e attr C.env whole = whole
  sw : (e.ctorIdx == 25) = false → ∀ elts x pos, swappedStores [.Tuple elts x pos] e C.env = pure none
inductive SimEs (C : Fr) : List Expr → PEs → Prop
  | nil : SimEs C [] .nil
  | cons {e p es ps} : Node C e p → SimEs C es ps → SimEs C (e :: es) (.cons p ps)
theorem GlobIs.load {x : Str} {v : Value} {Q : Value → Shared → Prop} {pos : Pos} (g : GlobIs C.cx.g0 x v) (F : FrOk C) (G : At C A s H ρ) (hk : isGlob C.env.scope x = true) (q : Q v s) :
    wpAny C.M A (eval (.Name x pos) C.env) Q NoE s := by
  obtain ⟨mg, mb, g1, g2, h⟩ := g
  obtain ⟨k1, k2⟩ := and2 hk
  have k : ∀ b o, C.cx.g0.get? b = some o → s.heap.get? b = some o := fun b o e => (G.st.keep b o e).1
  refine Calls.Name_function_global F.kind (eq_of_beq k1) ?_ (Bool.not_eq_true' _ |>.mp k2)
  rcases h with h | ⟨h1, h2⟩
  · exact Calls.loadGlobal_global (by rw [F.glob]; exact g1.keeps k) h q
  · exact Calls.loadGlobal_builtin (by rw [F.glob]; exact g1.keeps k) h1 (by rw [F.blt]; exact g2.keeps k) h2 q
theorem Room.u (G : At C A s H ρ) : A.handled = none := G.rm.handled
end

section
variable {C : Fr} {A : Around} {H : AH} {s : Shared} {ρ : Rho}
theorem truW_at {x : V} {H : AH} {p : Bool → Prop} {t : Bool} (h : truW x H p) (e : truW x H (· = t)) : p t := by
  cases x with
  | ref a =>
    obtain ⟨xs, h1, h2⟩ := h
    obtain ⟨ys, e1, rfl⟩ := e
    obtain rfl : xs = ys := by injection Option.some.inj (h1.symm.trans e1)
    exact h2
  | tup _ => exact h.elim
  | _ => exact (show _ = t from e) ▸ h
theorem truW_both {x : V} {H : AH} {p : Bool → Prop} (h : truW x H p) : truW x H fun t => p t ∧ truW x H (· = t) := by
  cases x with
  | ref a => obtain ⟨xs, h1, h2⟩ := h; exact ⟨xs, h1, h2, xs, h1, rfl⟩
  | tup _ => exact h.elim
  | _ => exact ⟨h, rfl⟩
theorem star_plain {l : List Expr} {ps : PEs} (h : SimEs C l ps) (pos : Pos) : backTo pos (starEach l C.env) = l.map fun e => (false, eval e C.env) := by
  induction h with
  | nil => rfl
  | cons h _ ih => rw [h.pl.star]; exact congrArg (_ :: ·) ih
noncomputable abbrev ContL (C : Fr) (A : Around) (s : Shared) (H : AH) (ρ : Rho) (P : List V → AH → Prop) (R : List Value → Shared → Prop) : Prop :=
  ∀ vs s₁ xs H₁, At C A s₁ H₁ ρ → Ext H s.heap H₁ s₁.heap → Reps s₁.heap xs vs → P xs H₁ → R vs s₁
theorem spliced_sound {l : List Expr} {ps : PEs} (h : SimEs C l ps) {Q : List V → AH → Prop} {R : List Value → Shared → Prop} (G : At C A s H ρ) (w : wpEs C.cx C.n ps ρ H Q) (k : ContL C A s H ρ Q R) :
    wpAny C.M A (spliced (l.map fun e => (false, eval e C.env))) R NoE s := by
  induction h generalizing s H Q R with
  | nil => exact Calls.spliced_nil (k [] s [] H G (Ext.refl _ _) .nil w)
  | cons h _ ih =>
    exact Calls.spliced_cons (h.ev G w fun v s₁ x H₁ G₁ E₁ r w₁ => ih G₁ w₁ fun vs s₂ xs H₂ G₂ E₂ rs q => k _ s₂ _ H₂ G₂ (E₁.trans E₂) (.cons (r.ext G₁.st E₂) rs) q)
theorem args_any (l : List Expr) : (l.map fun e => ((false, eval e C.env) : Bool × Sem Value)).any (·.1) = false := by
  induction l with
  | nil => rfl
  | cons e l ih => exact ih
theorem evalArgs_sound {f : Value} {l : List Expr} {ps : PEs} {Q : List V → AH → Prop} {R : Args → Shared → Prop} (h : SimEs C l ps) (G : At C A s H ρ) (w : wpEs C.cx C.n ps ρ H Q) (k : ContL C A s H ρ Q fun vs s₁ => R ⟨vs, []⟩ s₁) :
    wpAny C.M A (evalArgs f true (l.map fun e => (false, eval e C.env)) []) R NoE s := by
  cases h with
  | nil => exact PySem.evalArgs_none (k [] s [] H G (Ext.refl _ _) .nil w)
  | cons a b => exact Calls.evalArgs_plain (spliced_sound (.cons a b) G w k)
theorem callWith_val {f : Value} {first : List Value} {pos : Pos} {l : List Expr} {ps : PEs} {Q : List V → AH → Prop} {R : Value → Shared → Prop} (hf : keeperOf f = pure .machine) (h : SimEs C l ps) (G : At C A s H ρ) (w : wpEs C.cx C.n ps ρ H Q)
    (k : ContL C A s H ρ Q fun vs s₁ => wpAny C.M A (call f (first ++ vs)) R NoE s₁) :
    wpAny C.M A (callWith pos f first (l.map fun e => (false, eval e C.env)) []) R NoE s :=
  callWith_of (P := fun _ => True) (by rw [args_any]; rfl) (fun h _ => ⟨.machine, .inr (.inl rfl), Looks.of_pure hf⟩) (evalArgs_sound h G w fun vs s₁ xs H₁ a b c d => ⟨trivial, k vs s₁ xs H₁ a b c d⟩)
theorem callWith_ref {f : Addr} {first : List Value} {pos : Pos} {l : List Expr} {ps : PEs} {Q : List V → AH → Prop} {R : Value → Shared → Prop} (F : FrOk C) (h : SimEs C l ps) (G : At C A s H ρ) (w : wpEs C.cx C.n ps ρ H Q)
    (k : ContL C A s H ρ Q fun vs s₁ => keepIn C.cx.K (.ref f) = true ∧ wpAny C.M A (call (.ref f) (first ++ vs)) R NoE s₁) :
    wpAny C.M A (callWith pos (.ref f) first (l.map fun e => (false, eval e C.env)) []) R NoE s :=
  callWith_of (P := fun h => keepIn C.cx.K (.ref f) = true ∧ C.cx.K.In h) (by rw [args_any]; rfl) (fun h p => keeps_K p.1 h p.2)
    (evalArgs_sound h G w fun vs s₁ xs H₁ a b c d => ⟨⟨(k vs s₁ xs H₁ a b c d).1, a.st.inK F.ok⟩, (k vs s₁ xs H₁ a b c d).2⟩)
theorem meth_form {l : List Expr} {pos : Pos} (hlen : l.length < 30) : methodCallForm (l.length + ([] : List Keyword).length) (l.map fun e => ((false, eval e C.env) : Bool × Sem Value)) (backToKw pos (keywordEach [] C.env)) = true := by
  unfold methodCallForm
  rw [show ((l.map fun e => ((false, eval e C.env) : Bool × Sem Value)).all fun x => !x.1) = true by rw [List.all_map]; exact List.all_eq_true.mpr fun _ _ => rfl]
  rw [show backToKw pos (keywordEach [] C.env) = [] from rfl]
  exact decide_eq_true (show l.length + 0 + 0 < 30 from hlen)
theorem methCall_sound {e : Expr} {nm : Str} {ap pos : Pos} {l : List Expr} {ps : PEs} {R : Value → Shared → Prop} (hs : SimEs C l ps) (hc : ∀ attr whole, attributeBase e attr C.env whole = whole) (hline : (ap.endLine == pos.line) = true) (hlen : l.length < 30)
    (h : wpAny C.M A (eval e C.env) (fun ov s₁ => ∀ pl, wpAny C.M A (getMethod ov nm pl) (fun fx s₂ => wpAny C.M A (callWith pos fx.1 fx.2 (l.map fun e => (false, eval e C.env)) []) R NoE s₂) NoE s₁) NoE s) :
    wpAny C.M A (eval (.Call (.Attribute e nm ap) l [] pos) C.env) R NoE s := by
  rw [arm_eval_Call, hc, star_plain hs]
  refine wpAny_bind (wpAny_mono h (fun ov s₁ h₁ => wpAny_bind (wpAny_standAt ?_)) fun _ _ e => e)
  unfold methodCall
  rw [meth_form hlen]
  refine wpAny_bind (wpAny_holding (wpAny_mono (h₁ _) (fun fx s₂ h₂ => ?_) fun _ _ e => e))
  have hpos : methodCallPos true e C.env ap pos = pure pos := by unfold methodCallPos; simp [hline]
  exact wpAny_bind (wpAny_of_eq hpos h₂)
end
end Mine

namespace Mine

section
variable {C : Fr}
theorem simB_of {e : Expr} {p : PE} (h : SimE C e p) (hb : ∀ whole, isTrue e C.env whole = (do let v ← whole; standAt e.pos; holding [v] (truthy v))) : SimB C e p := fun G w k =>
  isTrue_plain (h G w fun v s₁ x H₁ G₁ E₁ r q => truW_sound G₁.st r (truW_both q) fun b t hp => k b x { s₁ with toks := t } H₁ (G₁.toks t) E₁ hp.1 hp.2) (hb _)
theorem Plain.same {e : Expr} (a : ∀ es env, starEach (e :: es) env = (false, eval e env) :: starEach es env) (b : ∀ t line env, swapsWith e t line env = pure false) (c : ∀ env x, foldedSetIterable e env x = pure x) (d : ∀ o i, subscripted e false o i = operate [o, i] (getItem o i)) : Plain e := ⟨a, b, c, d⟩

theorem sim_c {k : Const} {a b} {v : V} (hc : constIs v k = true) : SimE C (.Constant k a b) (.c v) := fun {A s H ρ P R} G w K => by
  cases v with
  | none => cases k with
    | none => exact wpAny_Constant_none (K _ _ _ H G (Ext.refl _ _) .none w)
    | _ => contradiction
  | bool x => cases k with
    | bool y => obtain rfl := eq_of_beq hc; exact wpAny_Constant_bool (K _ _ _ H G (Ext.refl _ _) (.bool _) w)
    | _ => contradiction
  | int x => cases k with
    | int y => obtain rfl := of_decide_eq_true hc; exact wpAny_Constant_int (K _ _ _ H (G.toks _) (Ext.refl _ _) (.int _ _) w)
    | _ => contradiction
  | str x => cases k with
    | str y =>
      obtain ⟨h1, h2⟩ := and2 hc
      obtain rfl := eq_of_beq h2
      exact wpAny_Constant_str (K _ _ _ H (G.toks _) (Ext.refl _ _) (Rep.str _ s.toks h1) w)
    | _ => contradiction
  | _ => contradiction
theorem sim_x {i : Nat} {id : Str} {pos : Pos} (F : FrOk C) (h1 : C.nms[i]? = some id) (h2 : (isLoc C.env.scope id || isCel C.env.scope id) = true) : SimE C (.Name id pos) (.x i) := fun {A s H ρ P R} G w K => by
  obtain ⟨x, e, q⟩ := w
  obtain ⟨m, ns, h3⟩ := G.fr
  obtain ⟨v, e1, r⟩ := h3 i x id e h1
  have fin : R v s := K _ _ _ H G (Ext.refl _ _) r q
  rcases Bool.or_eq_true_iff.mp h2 with h2 | h2
  · rcases e1 with ⟨_, e1⟩ | ⟨k, _⟩
    · exact wpAny_Name (wpAny_loadName_local F.kind (eq_of_beq (and2 h2).1) ns e1 fin) ((Bool.not_eq_true' _).mp (and2 h2).2)
    · exact nomatch (eq_of_beq (and2 h2).1).symm.trans k
  · rcases e1 with ⟨k, _⟩ | ⟨k, c, o, q1, q2, q3, _⟩
    · exact absurd (eq_of_beq (and2 h2).1) k
    · exact wpAny_Name (wpAny_loadName_cell F.kind k q1 ⟨o, q2, q3⟩ fin) ((Bool.not_eq_true' _).mp (and2 h2).2)
theorem sim_g {i : Nat} {id : Str} {pos : Pos} (F : FrOk C) (h1 : C.cx.gn[i]? = some id) (h2 : isGlob C.env.scope id = true) : SimE C (.Name id pos) (.g i) := fun {A s H ρ P R} G w K => by
  obtain ⟨v, g, r⟩ := F.ok.glob i id h1
  exact g.load F G h2 (K _ _ _ H G (Ext.refl _ _) (r.mono fun a vs m e => (G.st.keep _ _ e).1) w)
theorem sim_bin {op : Operator} {l r : Expr} {a b : PE} {pos : Pos} (ha : SimE C l a) (hb : SimE C r b) : SimE C (.BinOp l op r pos) (.bin op a b) := fun G w K =>
  wpAny_BinOp (ha G w fun v s₁ x H₁ G₁ E₁ r₁ w₁ => hb G₁ w₁ fun v₂ s₂ y H₂ G₂ E₂ r₂ w₂ => fin G₂ (E₁.trans E₂) K (binW_sound G₂.st (r₁.ext G₁.st E₂) r₂ w₂))
theorem sim_neg {e : Expr} {a : PE} {pos : Pos} (ha : SimE C e a) : SimE C (.UnaryOp .USub e pos) (.neg a) := fun G w K =>
  wpAny_UnaryOp (ha G w fun v s₁ x H₁ G₁ E₁ r₁ w₁ => by obtain ⟨i, rfl, q⟩ := w₁; exact fin G₁ E₁ K (neg_sound G₁.st r₁ q))
theorem sim_not {e : Expr} {a : PE} {pos : Pos} (ha : SimE C e a) : SimE C (.UnaryOp .Not e pos) (.not a) := fun G w K =>
  wpAny_UnaryOp (ha G w fun v s₁ x H₁ G₁ E₁ r₁ w₁ => PyProof.Rows.not_of (truW_sound G₁.st r₁ w₁ fun b t hp => K _ _ _ H₁ (G₁.toks t) E₁ (.bool _) hp))
theorem simB_not {e : Expr} {a : PE} {pos : Pos} (ha : SimB C e a) : SimB C (.UnaryOp .Not e pos) (.not a) := fun {A s H ρ W R} G w k =>
  isTrue_not (ha (W := fun _ H t => W (.bool (!t)) H (!t)) G w fun t x s₁ H₁ G₁ E₁ h _ => k (!t) (.bool (!t)) s₁ H₁ G₁ E₁ h rfl)
theorem sim_ite {t b o : Expr} {a c d : PE} {pos : Pos} (ha : SimB C t a) (hc : SimE C b c) (hd : SimE C o d) : SimE C (.IfExp t b o pos) (.ite a c d) := fun G w K =>
  wpAny_IfExp (ha G w fun t x s₁ H₁ G₁ E₁ p _ => by
    cases t
    · exact hd G₁ p (K.shift E₁)
    · exact hc G₁ p (K.shift E₁))
theorem simB_ite {t b o : Expr} {a c d : PE} {pos : Pos} (ha : SimB C t a) (hc : SimB C b c) (hd : SimB C o d) : SimB C (.IfExp t b o pos) (.ite a c d) := fun {A s H ρ W R} G w k =>
  isTrue_IfExp (ha (W := fun _ H t => if t = true then _ else _) G w fun t x s₁ H₁ G₁ E₁ p _ => by
    cases t
    · exact hd G₁ p fun t x s₂ H₂ G₂ E₂ q => k t x s₂ H₂ G₂ (E₁.trans E₂) q
    · exact hc G₁ p fun t x s₂ H₂ G₂ E₂ q => k t x s₂ H₂ G₂ (E₁.trans E₂) q)
theorem sim_cmp {op : CmpOp} {l r : Expr} {a b : PE} {pos : Pos} (F : FrOk C) (hm : behindInMarks op r = false) (ha : SimE C l a) (hb : SimE C r b) : SimE C (.Compare l [op] [r] pos) (.cmp op a b) := fun G w K =>
  wpAny_Compare1 (hm := hm) (ha G w fun v s₁ x H₁ G₁ E₁ r₁ w₁ => hb G₁ w₁ fun v₂ s₂ y H₂ G₂ E₂ r₂ w₂ => cmpW_sound G.u100 F.ok G₂.st (r₁.ext G₁.st E₂) r₂ w₂ fun t tk p => K _ _ _ H₂ (G₂.toks tk) (E₁.trans E₂) (.bool _) p)
theorem ask_bool {A : Around} {s : Shared} {H : AH} {t : Bool} {Q : Bool → Shared → Prop} (S : St C.cx H s) (k : ∀ tk, Q t { s with toks := tk }) : wpAny C.M A (truthy (.bool t)) Q NoE s :=
  truW_sound (v := .bool t) (p := (· = t)) S (.bool t) rfl fun b tk e => e ▸ k tk
theorem simB_cmp {op : CmpOp} {l r : Expr} {a b : PE} {pos : Pos} (F : FrOk C) (hm : behindInMarks op r = false) (ha : SimE C l a) (hb : SimE C r b) : SimB C (.Compare l [op] [r] pos) (.cmp op a b) := fun G w k =>
  wpAny_isTrue_Compare1 (hm := hm) (ha G w fun v s₁ x H₁ G₁ E₁ r₁ w₁ => hb G₁ w₁ fun v₂ s₂ y H₂ G₂ E₂ r₂ w₂ => cmpW_sound G.u100 F.ok G₂.st (r₁.ext G₁.st E₂) r₂ w₂ fun t tk p =>
    ask_bool (G₂.st.toks tk) fun tk' => k t (.bool t) _ H₂ (G₂.toks tk') (E₁.trans E₂) p rfl)
theorem sim_bop {isAnd : Bool} {op : BoolOp} {pos : Pos} (ho : isAnd = decide (op = .And)) {l : List Expr} {ps : PEs} (h : SimEs C l ps) : SimE C (.BoolOp op l pos) (.bop isAnd ps) := fun {A s H ρ P R} G w K => by
  rw [arm_eval_BoolOp]
  replace w : wpBop C.cx C.n isAnd ps ρ H _ := w
  induction h generalizing s H with
  | nil => exact False.elim w
  | @cons e p es ps h hes ih =>
    cases hes with
    | nil => exact h.ev G w K
    | cons h2 hs2 =>
      refine wpAny_bind (h.ev G w fun v s₁ x H₁ G₁ E₁ r₁ w₁ => wpAny_bind (wpAny_standAt (wpAny_bind (wpAny_holding (truW_sound G₁.st r₁ w₁ fun b t hp => ?_)))))
      have go := ih (G₁.toks t) (K.shift E₁)
      have stop := fun q => wpAny_pure (M := C.M) (A := A) (E := NoE) (a := v) (K v { s₁ with toks := t } x H₁ (G₁.toks t) E₁ r₁ q)
      subst ho
      cases op <;> cases b
      · exact stop hp
      · exact go hp
      · exact go hp
      · exact stop hp
theorem simB_bop {isAnd : Bool} {op : BoolOp} {pos : Pos} (ho : isAnd = decide (op = .And)) {l : List Expr} {ps : PEs} (h : SimEs C l ps) : SimB C (.BoolOp op l pos) (.bop isAnd ps) := fun {A s H ρ W R} G w k => by
  show wpAny _ A (allTrue op l C.env) R NoE s
  replace w : wpBop C.cx C.n isAnd ps ρ H _ := w
  induction h generalizing s H with
  | nil => exact False.elim w
  | @cons e p es ps h hes ih =>
    cases hes with
    | nil =>
      refine wpAny_bind (h.tr G w fun t x s₁ H₁ G₁ E₁ h ht => ?_)
      have q := k t x s₁ H₁ G₁ E₁ h ht
      cases op <;> cases t <;> exact wpAny_pure q
    | cons h2 hs2 =>
      refine wpAny_bind (h.tr (W := fun x H t => if t = isAnd then _ else truW x H fun t => W x H t) G w fun t x s₁ H₁ G₁ E₁ p ht => ?_)
      have go := ih G₁ fun t x s₂ H₂ G₂ E₂ q => k t x s₂ H₂ G₂ (E₁.trans E₂) q
      have stop := fun (q : truW x H₁ fun t => W x H₁ t) => wpAny_pure (M := C.M) (A := A) (E := NoE) (a := t) (k t x s₁ H₁ G₁ E₁ (truW_at q ht) ht)
      subst ho
      cases op <;> cases t
      · exact stop p
      · exact go p
      · exact go p
      · exact stop p
end
end Mine

namespace Mine

section
variable {C : Fr}
noncomputable abbrev PlainB (C : Fr) (o : Expr) : Prop := ∀ attr whole, attributeBase o attr C.env whole = whole
theorem sim_attr {o : Expr} {nm : Str} {pos : Pos} {a : PE} {k : Nat} (F : FrOk C) (hn : C.cx.an[k]? = some nm) (hc : PlainB C o) (ha : SimE C o a) : SimE C (.Attribute o nm pos) (.attr a k) := fun G w K => by
  rw [arm_eval_Attribute, hc]
  exact wpAny_bind (ha G w fun v s₁ x H₁ G₁ E₁ r₁ w₁ => wpAny_bind (wpAny_standAt (wpAny_bind (wpAny_holding (fin G₁ E₁ (fun v s₂ x H₂ G₂ E₂ r q => wpAny_bind (wpAny_letTemporaryGo (wpAny_pure (K v s₂ x H₂ G₂ E₂ r q)))) (attr_get F.ok G₁.st r₁ hn w₁))))))
theorem sim_sub {o i : Expr} {pos : Pos} {a b : PE} (pi : Plain i) (ha : SimE C o a) (hb : SimE C i b) : SimE C (.Subscript o i pos) (.sub a b) := fun G w K =>
  Subscript_ (ha G w fun v s₁ x H₁ G₁ E₁ r₁ w₁ => hb G₁ w₁ fun v₂ s₂ y H₂ G₂ E₂ r₂ w₂ => by
    obtain ⟨⟨T, id, hT, hlk⟩, q⟩ := subW_sound (A := _) G₂.st (r₁.ext G₁.st E₂) r₂ w₂
    exact tail_any hT hlk (fin G₂ (E₁.trans E₂) K q) (ops := [v, v₂]) (pi.sub v v₂))

noncomputable def SimPart (C : Fr) (l : Option Expr) (p : PE) : Prop := ∀ {A s H ρ P R}, At C A s H ρ → wpE C.cx C.n p ρ H P → Cont C A s H ρ P R → wpAny C.M A (evalPart l C.env) R NoE s
theorem sim_slice {o : Expr} {l u : Option Expr} {p pos : Pos} {a lo hi : PE} (ha : SimE C o a) (h1 : SimPart C l lo) (h2 : SimPart C u hi) : SimE C (.Subscript o (.Slice l u none p) pos) (.slice a lo hi) := fun G w K =>
  Subscript_ (ha G w fun v s₁ x H₁ G₁ E₁ r₁ w₁ => wpAny_Slice (h1 G₁ w₁ fun v₂ s₂ y H₂ G₂ E₂ r₂ w₂ => h2 G₂ w₂ fun v₃ s₃ z H₃ G₃ E₃ r₃ w₃ => wpAny_pure (by
    have S4 := G₃.st.push { cls := .type "slice", data := .fields #[v₂, v₃, .none] } s₃.toks
    have E4 := Ext.push H₃ s₃.heap { cls := .type "slice", data := .fields #[v₂, v₃, .none] }
    have kt := G₃.st.tupKeep (s' := { s₃ with heap := s₃.heap.push { cls := .type "slice", data := .fields #[v₂, v₃, .none] } }) E4
    obtain ⟨⟨p, xs, rfl, hl⟩, q⟩ := sliceW_sound (A := _) S4 (((r₁.ext G₁.st E₂).ext G₂.st E₃).mono kt) ((r₂.ext G₂.st E₃).mono kt) (r₃.mono kt) (Heap.get?_push_size _ rfl) w₃
    obtain ⟨o, e, c, _⟩ := hl
    exact tail_any (T := "list") ⟨o, e, c⟩ PySem.F.slot_list_getitem.lookup (fin (G₃.next S4 E4) (((E₁.trans E₂).trans E₃).trans E4) K q) (ops := [_, _]) rfl)))

theorem sim_bi {b : BI} {id : Str} {np pos : Pos} {l : List Expr} {ps : PEs} (F : FrOk C) (hid : id = biName b) (hg : isGlob C.env.scope id = true) (hs : SimEs C l ps) : SimE C (.Call (.Name id np) l [] pos) (.bi b ps) := fun G w K => by
  subst hid
  refine wpAny_Call_NameR ((F.ok.bi b).load F G hg ?_)
  rw [star_plain hs]
  exact callWith_val (first := []) (by cases b <;> rfl) hs G w fun vs s₁ xs H₁ G₁ E₁ rs q => fin G₁ E₁ K (biW_sound G.rm.handled G₁.st rs q)

set_option maxHeartbeats 2000000 in
theorem getMethod_bm {m : BM} {x : V} {v : Value} {H : AH} {s : Shared} {A : Around} {pl : Sem Bool} {Q : Value × List Value → Shared → Prop} (S : St C.cx H s) (r : Rep s.heap x v) (hk : bmK m x H) (q : Q (.builtin (bmId m), [v]) s) :
    wpAny C.M A (getMethod v (bmName m) pl) Q NoE s := by
  have lst : (∃ a xs, x = .ref a ∧ H a = some (.list xs)) → ∃ a, v = .ref a ∧ s.TypeIs (.ref a) "list" ∧ ∀ b, Value.ref a = .ref b → ∃ o, s.heap.get? b = some o ∧ o.dict = none := fun h => by
    obtain ⟨a, xs, rfl, e⟩ := h
    obtain ⟨vs, n, e1, _⟩ := S.objs _ _ e
    exact ⟨a, r.inv, ⟨_, e1, rfl⟩, fun b e => Value.ref.inj e ▸ ⟨_, e1, rfl⟩⟩
  have str : (∃ l, x = .str l) → ∃ l t, v = .str l t := fun h => by
    obtain ⟨l, rfl⟩ := h
    obtain ⟨t, e, _⟩ := r.inv
    exact ⟨_, t, e⟩
  dsimp only [bmName, bmId] at q ⊢
  cases m with
  | append => obtain ⟨a, rfl, hT, ho⟩ := lst hk; exact getMethod_builtin hT PySem.F.plainAttrs_list PySem.F.slot_list_append PySem.F.type_list_append ho q
  | pop => obtain ⟨a, rfl, hT, ho⟩ := lst hk; exact getMethod_builtin hT PySem.F.plainAttrs_list PySem.F.slot_list_pop PySem.F.type_list_pop ho q
  | reverse => obtain ⟨a, rfl, hT, ho⟩ := lst hk; exact getMethod_builtin hT PySem.F.plainAttrs_list PySem.F.slot_list_reverse PySem.F.type_list_reverse ho q
  | get =>
    obtain ⟨a, es, rfl, e⟩ := hk
    obtain rfl := r.inv
    obtain ⟨vs, n, e1, _⟩ := S.objs _ _ e
    exact getMethod_builtin ⟨_, e1, rfl⟩ PySem.F.plainAttrs_dict PySem.F.slot_dict_get PySem.F.type_dict_get (fun b e => Value.ref.inj e ▸ ⟨_, e1, rfl⟩) q
  | join => obtain ⟨l, t, rfl⟩ := str hk; exact getMethod_builtin (typeIs_str _ _ _) PySem.F.plainAttrs_str PySem.F.slot_str_join PySem.F.type_str_join nofun q
  | zfill => obtain ⟨l, t, rfl⟩ := str hk; exact getMethod_builtin (typeIs_str _ _ _) PySem.F.plainAttrs_str PySem.F.slot_str_zfill PySem.F.type_str_zfill nofun q
  | startswith => obtain ⟨l, t, rfl⟩ := str hk; exact getMethod_builtin (typeIs_str _ _ _) PySem.F.plainAttrs_str PySem.F.slot_str_startswith PySem.F.type_str_startswith nofun q

theorem sim_bm {m : BM} {o : Expr} {nm : Str} {ap pos : Pos} {l : List Expr} {a : PE} {ps : PEs} (F : FrOk C) (hnm : nm = bmName m) (hc : PlainB C o) (hline : (ap.endLine == pos.line) = true) (hlen : l.length < 30) (ha : SimE C o a) (hs : SimEs C l ps) :
    SimE C (.Call (.Attribute o nm ap) l [] pos) (.bm m a ps) := fun G w K => by
  subst hnm
  exact methCall_sound hs hc hline hlen (ha G w fun ov s₁ x H₁ G₁ E₁ r₁ w₁ pl => getMethod_bm G₁.st r₁ w₁.1 (callWith_val (first := [ov]) (by cases m <;> rfl) hs G₁ w₁.2 fun vs s₂ xs H₂ G₂ E₂ rs q =>
    fin G₂ (E₁.trans E₂) K (bmW_sound F.ok G.u100 G₂.st (r₁.ext G₁.st E₂) rs q)))

theorem callOk_run {f : Addr} {args : List V} {vs : List Value} {A : Around} {s : Shared} {H : AH} {ρ : Rho} {Q : V → AH → Prop} (G : At C A s H ρ) (r : Reps s.heap args vs) (h : CallOk C.cx C.n f args H Q) :
    wpAny C.M A (call (.ref f) vs) (Post C.cx H s.heap Q) NoE s :=
  wpAny_call (codeAny_mono (h.2 A s vs G.rm G.st r) fun r s' h => by obtain ⟨v, rfl, p⟩ := h; exact p)
theorem glob_ref {f : Nat} {id : Str} (F : FrOk C) (hid : C.cx.gn[f]? = some id) (hr : isRefV (C.cx.gl f) = true) : ∃ a, C.cx.gl f = .ref a ∧ GlobIs C.cx.g0 id (.ref a) := by
  obtain ⟨v, g, rv⟩ := F.ok.glob f id hid
  revert hr rv
  cases C.cx.gl f with
  | ref a => intro _ rv; obtain rfl := rv.inv; exact ⟨a, rfl, g⟩
  | _ => intro hr; contradiction
theorem sim_call {f : Nat} {id : Str} {np pos : Pos} {l : List Expr} {ps : PEs} (F : FrOk C) (hid : C.cx.gn[f]? = some id) (hg : isGlob C.env.scope id = true) (hr : isRefV (C.cx.gl f) = true) (hs : SimEs C l ps) : SimE C (.Call (.Name id np) l [] pos) (.call f ps) := fun {A s H ρ P R} G w K => by
  obtain ⟨a, ha, g⟩ := glob_ref F hid hr
  replace w : wpEs C.cx C.n ps ρ H (fun vs H₁ => callW C.cx C.n (C.cx.gl f) vs H₁ P) := w
  rw [ha] at w
  refine wpAny_Call_NameR (g.load F G hg ?_)
  rw [star_plain hs]
  exact callWith_ref (first := []) F hs G w fun vs s₁ xs H₁ G₁ E₁ rs q => ⟨q.1, fin G₁ E₁ K (callOk_run G₁ rs q)⟩

theorem Room.make {D : Addr} {rest : List Value} {kw : List (Str × Value)} {m : Nat} {A : Around} (r : Room (m + 1) A) : Room m (A.under (.builtin "type.__call__" ⟨.ref D :: rest, kw⟩)) :=
  ⟨by have := r.depth; show A.depth + 1 + 2 * m + 20 ≤ recursionLimit; omega, by have := r.units; show A.units + 1 + 8 * m + 200 ≤ cLine; omega, r.handled⟩
theorem makes_go {cx : Cx} {D f : Addr} (h : makes cx D = some f) : findIn cx.K (.ref D) "__init__" = some (some (.ref f)) ∧ makesIn cx.K D = true ∧ isFn cx.K (.ref f) = true ∧ keepIn cx.K (.ref D) = true := by
  unfold makes at h
  split at h
  · rename_i f' hf
    split at h
    · rename_i hb
      obtain rfl := Option.some.inj h
      exact ⟨hf, (and2 (and2 hb).1).1, (and2 (and2 hb).1).2, (and2 hb).2⟩
    · contradiction
  · contradiction
theorem St.make {cx : Cx} {H : AH} {s : Shared} (S : St cx H s) (D : Addr) : St cx ((H.set s.heap.objs.size (.ns [])).set (s.heap.objs.size + 1) (.inst D s.heap.objs.size)) { s with heap := (s.heap.push emptyDict).push (instObj D s.heap.objs.size) } ∧
    Ext H s.heap ((H.set s.heap.objs.size (.ns [])).set (s.heap.objs.size + 1) (.inst D s.heap.objs.size)) ((s.heap.push emptyDict).push (instObj D s.heap.objs.size)) := by
  have S2 := S.alloc emptyDict (.ns []) s.toks rfl fun h' k e => ⟨[], 0, e, .nil⟩
  have S3 := S2.alloc (instObj D s.heap.objs.size) (.inst D s.heap.objs.size) s.toks rfl fun h' k e => e
  have E2 := (Ext.alloc (H := H) (h := s.heap) emptyDict (.ns [])).trans (Ext.alloc (instObj D s.heap.objs.size) (.inst D s.heap.objs.size))
  rw [show (s.heap.push emptyDict).objs.size = s.heap.objs.size + 1 from Heap.size_push ..] at S3 E2
  exact ⟨S3, E2⟩
theorem sim_new {f : Nat} {id : Str} {np pos : Pos} {l : List Expr} {ps : PEs} (F : FrOk C) (hid : C.cx.gn[f]? = some id) (hg : isGlob C.env.scope id = true) (hr : isRefV (C.cx.gl f) = true) (hs : SimEs C l ps) : SimE C (.Call (.Name id np) l [] pos) (.new f ps) := fun {A s H ρ P R} G w K => by
  obtain ⟨D, ha, g⟩ := glob_ref F hid hr
  replace w : wpEs C.cx C.n ps ρ H (fun vs H₁ => newW C.cx C.n (C.cx.gl f) vs H₁ P) := w
  rw [ha] at w
  refine wpAny_Call_NameR (g.load F G hg ?_)
  rw [star_plain hs]
  refine callWith_ref (first := []) F hs G w fun vs s₁ xs H₁ G₁ E₁ rs q => ?_
  obtain ⟨fI, m, e, hmk, q⟩ := q
  obtain ⟨hf, b1, b2, b3⟩ := makes_go hmk
  refine ⟨b3, wpAny_call ?_⟩
  have X := G₁.st.inK F.ok
  obtain ⟨S3, E2⟩ := G₁.st.make D
  have q' := q _ _ (G₁.st.fresh (Nat.le_refl _)) (G₁.st.fresh (Nat.le_succ _)) (Nat.ne_of_lt (Nat.lt_succ_self _))
  have rm := G.rm
  rw [e] at rm
  have rs' := rs.mono (G₁.st.tupKeep (s' := { s₁ with heap := (s₁.heap.push emptyDict).push (instObj D s₁.heap.objs.size) }) E2)
  have nx := G₁.next (s' := { s₁ with heap := (s₁.heap.push emptyDict).push (instObj D s₁.heap.objs.size) }) S3 E2
  obtain ⟨hh, gg, d, t, os⟩ := s₁
  refine make_core (makes_of X b1) (looks_findIn X hf) (fun self => bind_fn X self ?_) (.inl rfl) ?_
  · obtain ⟨ob, ho, hc⟩ := Option.map_eq_some_iff.mp (eq_of_beq b2)
    show Option.map (fun x => x.cls) (List.lookup fI C.cx.K) = _; rw [ho, ← hc]; rfl
  refine codeAny_mono (q'.2 _ ⟨(hh.push emptyDict).push (instObj D hh.objs.size), gg, d, t, os⟩ (.ref (hh.objs.size + 1) :: vs) rm.make S3 (.cons (.ref _) rs')) fun r s' h => ?_
  obtain ⟨v, rfl, x, H', S', E', rx, rfl, hq⟩ := h
  obtain rfl := rx.inv
  exact ⟨rfl, K _ _ _ H' (nx.next S' E') ((E₁.trans E2).trans E') (.ref _) hq⟩

theorem sim_meth {k : Nat} {o : Expr} {nm : Str} {ap pos : Pos} {l : List Expr} {a : PE} {ps : PEs} (F : FrOk C) (hn : C.cx.an[k]? = some nm) (hc : PlainB C o) (hline : (ap.endLine == pos.line) = true) (hlen : l.length < 30) (ha : SimE C o a) (hs : SimEs C l ps) :
    SimE C (.Call (.Attribute o nm ap) l [] pos) (.meth a k ps) := fun G w K =>
  methCall_sound hs hc hline hlen (ha G w fun ov s₁ x H₁ G₁ E₁ r₁ w₁ pl => meth_get F.ok G₁.st r₁ hn C.n w₁ fun f wf =>
    callWith_ref (first := [ov]) F hs G₁ wf fun vs s₂ xs H₂ G₂ E₂ rs q => ⟨q.1, fin G₂ (E₁.trans E₂) K (callOk_run G₂ (.cons (r₁.ext G₁.st E₂) rs) q)⟩)

theorem sim_list {l : List Expr} {pos : Pos} {ps : PEs} (hs : SimEs C l ps) : SimE C (.List l pos) (.list ps) := fun G w K => by
  refine PySem.wpAny_List ?_
  rw [star_plain hs]
  refine spliced_sound hs G w fun vs s₁ xs H₁ G₁ E₁ rs q => ⟨by rw [rs.length, ← lim_eq]; exact q.1, ?_⟩
  obtain ⟨y, H₂, S₂, E₂, r, p⟩ := Post.newList (t := s₁.toks) (n := 0) G₁.st rs q.1 q.2
  exact K _ _ y H₂ (G₁.next S₂ E₂) (E₁.trans E₂) r p
theorem sim_tuple {l : List Expr} {k : Nat} {pos : Pos} {ps : PEs} (hs : SimEs C l ps) : SimE C (.Tuple l k pos) (.tuple ps) := fun G w K => by
  refine PySem.wpAny_Tuple ?_
  rw [star_plain hs]
  refine spliced_sound hs G w fun vs s₁ xs H₁ G₁ E₁ rs q => ⟨by rw [rs.length, ← lim_eq]; exact q.1, ?_⟩
  have S₂ := G₁.st.push (tupObj vs 0) s₁.toks
  exact K _ _ _ H₁ (G₁.next S₂ (Ext.push H₁ _ _)) (E₁.trans (Ext.push H₁ _ _)) (.tup (n := 0) (Heap.get?_push_size _ rfl) (rs.grow fun _ _ e => Heap.get?_push_of_some _ e)) q.2
theorem sim_dict {pos : Pos} : SimE C (.Dict [] [] pos) .dict := fun {A s H ρ P R} G w K => by
  have S₂ := G.st.alloc emptyDict (.dict []) s.toks rfl fun h' k e => ⟨[], 0, e, .nil, Nat.zero_le _, List.nodup_nil⟩
  exact wpAny_Dict_empty (K _ _ _ _ (G.next S₂ (Ext.alloc (H := H) (h := s.heap) _ _)) (Ext.alloc (H := H) (h := s.heap) _ _) (.ref _) (w _ (G.st.fresh (Nat.le_refl _))))
end
end Mine

namespace Mine

noncomputable abbrev But (I : Addr) (h h' : Heap) : Prop := ∀ b o, b ≠ I → h.get? b = some o → h'.get? b = some o
noncomputable abbrev KeepsTup (h h' : Heap) : Prop := ∀ a vs n, h.get? a = some (tupObj vs n) → h'.get? a = some (tupObj vs n)
theorem But.tup {I : Addr} {h h' : Heap} (b : But I h h') (nt : ∀ vs n, h.get? I ≠ some (tupObj vs n)) : KeepsTup h h' := fun a vs n e => b a _ (fun q => nt vs n (q ▸ e)) e
theorem St.but {cx : Cx} {H : AH} {s : Shared} {I : Addr} {h' : Heap} (S : St cx H s) (n : H I = none) (g : cx.g0.get? I = none) (nt : ∀ vs n, s.heap.get? I ≠ some (tupObj vs n)) (b : But I s.heap h') (t : Nat) : St cx H { s with heap := h', toks := t } :=
  ⟨fun a o e => ⟨b a o (some_ne e g) (S.keep a o e).1, (S.keep a o e).2⟩,
   fun a ao e => by
     obtain ⟨o, q⟩ := (S.objs a ao e).some
     exact (S.objs a ao e).mono (b.tup nt) (q ▸ b a o (some_ne e n) q), S.gens, S.os⟩

section
variable {C : Fr}
theorem rev_items {vs : List Value} {l : List (Str × Tok)} (h : ItemsOf (fun i v => vs.toArray[vs.toArray.size - 1 - i]? = some v) (strValues l).toArray vs.toArray.size) : strValues l = vs.reverse := by
  obtain ⟨h1, h2⟩ := h
  have h1 : (strValues l).length = vs.length := h1
  apply List.ext_getElem?
  intro i
  by_cases hi : i < vs.length
  · have e : (strValues l)[i]? = some ((strValues l)[i]'(by rw [h1]; exact hi)) := List.getElem?_eq_getElem (by rw [h1]; exact hi)
    rw [e, List.getElem?_reverse hi, ← h2 i _ ((List.getElem?_toArray ..).trans e)]; exact List.getElem?_toArray ..
  · rw [List.getElem?_eq_none (by rw [h1]; exact Nat.not_lt.mp hi), List.getElem?_eq_none (by rw [List.length_reverse]; exact Nat.not_lt.mp hi)]
theorem strsAre_fst {l : List (Str × Tok)} : ∀ {ys : List Str}, StrsAre (strValues l) ys → l.map (·.1) = ys := by
  induction l with
  | nil => intro ys h; cases h; rfl
  | cons p l ih => intro ys h; cases h with | cons _ _ r => rw [List.map_cons, ih r]
theorem strsAre_mem {vs : List Value} {ys : List Str} (h : StrsAre vs ys) {v : Value} (hv : v ∈ vs) : ∃ y u, v = Value.str y u := by
  induction h with
  | nil => exact nomatch hv
  | cons y t _ ih =>
    rcases List.mem_cons.mp hv with rfl | hv
    · exact ⟨y, t, rfl⟩
    · exact ih hv
theorem joinrev_sound {A : Around} {s : Shared} {H : AH} {a : Nat} {ys : List V} {t : List Nat} {tk : Tok} {Q : Value → Shared → Prop} (hh : A.handled = none) (S₂ : St C.cx H s) (hx : H a = some (.list ys)) (hcat : catS ys.reverse = some t) (hlt : t.length ≤ lim)
    (k : ∀ t' s', St C.cx H s' → Ext H s.heap H s'.heap → Rep s'.heap (.str t) (.str (mkS t) t') → Q (.str (mkS t) t') s') :
    wpAny C.M A (call (.type "reversed") [.ref a]) (fun v s₁ => wpAny C.M A (call (.builtin "str.join") [.str (mkS []) tk, v]) Q NoE s₁) NoE s := by
  obtain ⟨ws, m, e, rw', hlm, hz⟩ := S₂.list hx
  have hL : s.heap.IsList a ws.toArray := ⟨_, e, rfl, m, rfl⟩
  refine call_reversed_list hL ?_
  have hI : s.heap.get? s.heap.objs.size = none := get_size_none _
  have hne : a ≠ s.heap.objs.size := some_ne e hI
  have S3 := S₂.push (revObj a ((ws.toArray.size : Int) - 1)) s.toks
  have E3 : Ext H s.heap H (s.heap.push (revObj a ((ws.toArray.size : Int) - 1))) := Ext.push _ _ _
  have hit : (s.heap.push (revObj a ((ws.toArray.size : Int) - 1))).IsRevIter s.heap.objs.size a ((ws.toArray.size : Int) - 1) := ⟨_, Heap.get?_push_size _ rfl, rfl, rfl⟩
  have hL3 : (s.heap.push (revObj a ((ws.toArray.size : Int) - 1))).IsList a ws.toArray := ⟨_, Heap.get?_push_of_some _ e, rfl, m, rfl⟩
  have hsz : s.heap.objs.size < (s.heap.push (revObj a ((ws.toArray.size : Int) - 1))).objs.size := by rw [Heap.size_push]; exact Nat.lt_succ_self _
  have hfr : H s.heap.objs.size = none := S₂.fresh (Nat.le_refl _)
  have hg0 := S₂.g0_fresh hI
  generalize s.heap.push (revObj a ((ws.toArray.size : Int) - 1)) = h3 at *
  generalize s.heap.objs.size = I at *
  obtain ⟨zs, q1, q2, q3, q4⟩ := strs_of rw'.reverse hcat
  refine joinIt ((Walks.listRev (A := A.in1.in1) hh I a hne ws.toArray).toS) (fun i s h => h.2.1.typeIs) ⟨Nat.zero_le _, by rw [Int.natCast_zero, Int.sub_zero]; exact hit, hL3⟩ (fun b hb => ?_) (List.mem_cons_self ..) (fun i v h => ?_) (fun s' l hm hi => ?_) (by rw [hz, ← lim_eq]; exact hlm)
  · rcases List.mem_cons.mp hb with rfl | hb
    · exact hsz
    · rw [List.mem_singleton.mp hb]; exact Heap.lt_size hL3.choose_spec.1
  · exact strsAre_mem q1 (List.mem_reverse.mpr (List.mem_of_getElem? ((List.getElem?_toArray ..).symm.trans h)))
  · rw [← rev_items hi] at q1
    rw [strsAre_fst q1]
    refine ⟨joinOk_of (by rw [q2, show (mkS []).length = 0 from rfl, Nat.mul_zero]; exact hlt), fun t' tk' => ?_⟩
    rw [show Txt.join (mkS []) zs = mkS t from q3 ▸ glued_empty zs]
    have nt : ∀ vs n, h3.get? I ≠ some (tupObj vs n) := fun vs n z => by
      obtain ⟨o, ho, hcl, _⟩ := hit
      obtain rfl := Option.some.inj (ho.symm.trans z)
      exact absurd (Value.type.inj hcl) (by decide)
    have hbut : But I h3 s'.heap := fun b o z e => hm.heap b o (fun y => z (List.mem_singleton.mp y)) e
    have S4 : St C.cx H { s' with toks := tk' } := by
      obtain ⟨g1, g2, _, _⟩ := S3.but hfr hg0 nt hbut tk'
      exact ⟨g1, g2, hm.gens.trans S₂.gens, hm.os.trans S₂.os⟩
    exact k t' _ S4 (fun b o e nn => ⟨hbut b o (some_ne e hI) (E3 b o e nn).1, nn⟩) (.str _ _ (okS_mk hlt q4))
theorem sim_joinrev {sep o : Expr} {nm id : Str} {ap np p2 pos : Pos} {a b : PE} (F : FrOk C) (hnm : nm = ("join" : Str)) (hid : id = ("reversed" : Str)) (hg : isGlob C.env.scope id = true) (hc : PlainB C sep) (hline : (ap.endLine == pos.line) = true)
    (hs : ∀ es env, starEach (.Call (.Name id np) [o] [] p2 :: es) env = (false, eval (.Call (.Name id np) [o] [] p2) env) :: starEach es env)
    (ha : SimE C sep a) (hb : Node C o b) : SimE C (.Call (.Attribute sep nm ap) [.Call (.Name id np) [o] [] p2] [] pos) (.joinrev a b) := fun {A s H ρ P R} G w K => by
  subst hid hnm
  have hbad : SimEs C [.Call (.Name ("reversed" : Str) np) [o] [] p2] (.cons .bad .nil) := .cons ⟨fun _ w _ => False.elim w, fun _ w _ => False.elim w, ⟨hs, fun _ _ _ => rfl, fun _ _ => rfl, fun _ _ => rfl⟩, fun _ _ _ => rfl, fun _ _ _ _ => rfl⟩ .nil
  refine methCall_sound hbad hc hline (show (1 : Nat) < 30 by decide) (ha G w fun ov s₁ x H₁ G₁ E₁ r₁ w₁ pl => ?_)
  obtain ⟨rfl, w₁⟩ := w₁
  obtain ⟨tk, rfl, _⟩ := r₁.inv
  refine getMethod_builtin (typeIs_str _ _ _) PySem.F.plainAttrs_str PySem.F.slot_str_join PySem.F.type_str_join nofun ?_
  refine callWith_of (P := fun _ => True) rfl (fun h _ => ⟨.machine, .inr (.inl rfl), Looks.of_pure rfl⟩) (Calls.evalArgs_plain (Calls.spliced_cons ?_))
  refine wpAny_Call_NameR (F.ok.reversed.load F G₁ hg ?_)
  rw [star_plain (.cons hb .nil)]
  refine callWith_val (first := []) rfl (.cons hb .nil) G₁ (Q := fun xs H => arg1 xs fun x => ∃ a ys t, x = .ref a ∧ H a = some (.list ys) ∧ catS ys.reverse = some t ∧ t.length ≤ lim ∧ P (.str t) H) w₁ fun vs s₂ xs H₂ G₂ E₂ rs q => ?_
  obtain ⟨x, v, rfl, r, a, ys, t, rfl, hx, hcat, hlt, q⟩ := arg1_go q rs
  obtain rfl := r.inv
  refine wpAny_mono (joinrev_sound (tk := tk) G.rm.handled G₂.st hx hcat hlt fun t' s' S' E' r => K _ s' _ H₂ (G₂.next S' E') ((E₁.trans E₂).trans E') r q) (fun v s₃ h => Calls.spliced_nil ⟨trivial, h⟩) fun _ _ e => e
end
end Mine

namespace Mine

noncomputable def OwnObj (h : Heap) (I : Addr) : Prop := ∃ o, h.get? I = some o ∧ (∀ vs n, o ≠ tupObj vs n) ∧ ∀ v, o.data ≠ .cell v
structure ItOk (cx : Cx) (I : Addr) (xs : List V) (G : AH → Prop) (σ : Nat → Heap → Prop) : Prop where
  live : ∀ {i h}, σ i h → OwnObj h I
  frame : ∀ {i h h'}, σ i h → (∀ o, h.get? I = some o → h'.get? I = some o) → KeepsTup h h' → σ i h'
  item : ∀ {A : Around} {i x s H} {Q : Option Value → Shared → Prop}, A.handled = none → St cx H s → G H → xs[i]? = some x → σ i s.heap →
    (∀ v h', Rep h' x v → σ (i + 1) h' → But I s.heap h' → ∀ tk, Q (some v) { s with heap := h', toks := tk }) → wpAny (model cx.prog cx.w) A (pyNext (.ref I)) Q NoE s
  done : ∀ {A : Around} {s H} {Q : Option Value → Shared → Prop}, A.handled = none → St cx H s → G H → σ xs.length s.heap →
    (∀ h', But I s.heap h' → ∀ tk, Q none { s with heap := h', toks := tk }) → wpAny (model cx.prog cx.w) A (pyNext (.ref I)) Q NoE s
noncomputable def ItAt (cx : Cx) (H : AH) (h : Heap) (xs : List V) (G : AH → Prop) (it : Value) (s₁ : Shared) : Prop :=
  ∃ I σ, it = .ref I ∧ ItOk cx I xs G σ ∧ h.get? I = none ∧ H I = none ∧ cx.g0.get? I = none ∧ σ 0 s₁.heap ∧ St cx H s₁ ∧ Ext H h H s₁.heap

section
variable {cx : Cx} {A : Around} {H : AH} {s : Shared}
theorem itNew {xs : List V} {G : AH → Prop} {ob : Obj} {φ : Nat → Obj → Prop} {T : Heap → Prop} (S : St cx H s) (hf : ob.isFreed = false) (h0 : φ 0 ob) (t0 : T (s.heap.push ob)) (cl : ∀ i o, φ i o → ∃ D, o.data = .fields D) (kt : ∀ h h', KeepsTup h h' → T h → T h')
    (item : ∀ (A : Around) i x s' H (Q : Option Value → Shared → Prop), A.handled = none → St cx H s' → G H → xs[i]? = some x → (∃ o, s'.heap.get? s.heap.objs.size = some o ∧ φ i o) → T s'.heap →
      (∀ v h', Heap.SameBut s.heap.objs.size s'.heap h' → (∃ o, h'.get? s.heap.objs.size = some o ∧ φ (i + 1) o) → (KeepsTup s'.heap h' → Rep h' x v) → ∀ tk, Q (some v) { s' with heap := h', toks := tk }) → wpAny (model cx.prog cx.w) A (pyNext (.ref s.heap.objs.size)) Q NoE s')
    (done : ∀ (A : Around) s' H (Q : Option Value → Shared → Prop), A.handled = none → St cx H s' → G H → (∃ o, s'.heap.get? s.heap.objs.size = some o ∧ φ xs.length o) → T s'.heap →
      (∀ h', But s.heap.objs.size s'.heap h' → ∀ tk, Q none { s' with heap := h', toks := tk }) → wpAny (model cx.prog cx.w) A (pyNext (.ref s.heap.objs.size)) Q NoE s') :
    ItAt cx H s.heap xs G (.ref s.heap.objs.size) { s with heap := s.heap.push ob } := by
  have nt : ∀ {i : Nat} {h : Heap}, (∃ o, h.get? s.heap.objs.size = some o ∧ φ i o) → ∀ vs n, h.get? s.heap.objs.size ≠ some (tupObj vs n) := fun st vs n q => by
    obtain ⟨o, e, p⟩ := st
    obtain rfl := Option.some.inj (e.symm.trans q)
    obtain ⟨D, p⟩ := cl _ _ p
    exact nomatch p
  refine ⟨_, fun i h => (∃ o, h.get? s.heap.objs.size = some o ∧ φ i o) ∧ T h, rfl, ⟨fun st => st.1.elim fun o h => (cl _ _ h.2).elim fun D d => ⟨o, h.1, fun _ _ z => by rw [z] at d; contradiction, fun _ z => by rw [z] at d; contradiction⟩, fun st k kt' => ⟨st.1.elim fun o h => ⟨o, k o h.1, h.2⟩, kt _ _ kt' st.2⟩, fun hh S' g ex st k => ?_, fun hh S' g st k => done _ _ _ _ hh S' g st.1 st.2 k⟩,
    get_size_none _, S.fresh (Nat.le_refl _), S.g0_fresh (get_size_none _), ⟨⟨ob, Heap.get?_push_size _ hf, h0⟩, t0⟩, S.push _ s.toks, Ext.push _ _ _⟩
  refine item _ _ _ _ _ _ hh S' g ex st.1 st.2 fun v h' hs st' r tk => ?_
  have kt' := But.tup (h' := h') hs.extBut (nt st.1)
  exact k v h' (r kt') ⟨st', kt _ _ kt' st.2⟩ hs.extBut tk

noncomputable abbrev fld (cn : String) (D : Nat → Array Value) (i : Nat) (o : Obj) : Prop := o.cls = .type cn ∧ o.data = .fields (D i)
theorem arr_none {α : Type} {l : List α} {n : Nat} (h : l.length = n) : l.toArray[n]? = none := (List.getElem?_toArray ..).trans (List.getElem?_eq_none (Nat.le_of_eq h))
theorem it_list {a : Addr} {xs : List V} (S : St cx H s) (e : H a = some (.list xs)) :
    wpAny (model cx.prog cx.w) A (pyIter (.ref a)) (ItAt cx H s.heap xs fun H' => H' a = some (.list xs)) NoE s := by
  obtain ⟨vs, n, e1, r, _⟩ := S.list e
  refine wpAny_pyIter_list ⟨_, e1, rfl, n, rfl⟩ (itNew (T := fun _ => True) (φ := fld "list_iterator" fun i => #[.ref a, .int i 0]) S rfl ⟨rfl, rfl⟩ trivial (fun _ _ p => ⟨_, p.2⟩) (fun _ _ _ _ => trivial) (fun A i x s' H' Q hh S' g ex st _ k => ?_) fun A s' H' Q hh S' g st _ k => ?_)
  · obtain ⟨vs, n, e1, r, _⟩ := S'.list g
    obtain ⟨v, ev, rv⟩ := r.get ex
    exact wpAny_pyNext_list_item st ⟨_, e1, rfl, n, rfl⟩ ((List.getElem?_toArray ..).trans ev) fun h' st' hs' => k v h' hs' st' rv.mono s'.toks
  · obtain ⟨vs, n, e1, r, _, z⟩ := S'.list g
    exact wpAny_pyNext_list_end hh st ⟨_, e1, rfl, n, rfl⟩ (arr_none z) fun h' he => k h' he s'.toks

theorem it_rev {a : Addr} {xs : List V} (S : St cx H s) (e : H a = some (.list xs)) :
    wpAny (model cx.prog cx.w) A (call (.type "reversed") [.ref a]) (fun v s₁ => wpAny (model cx.prog cx.w) A (pyIter v) (ItAt cx H s.heap xs.reverse fun H' => H' a = some (.list xs)) NoE s₁) NoE s := by
  obtain ⟨vs, n, e1, r, _, z⟩ := S.list e
  refine call_reversed_list ⟨_, e1, rfl, n, rfl⟩ ?_
  rw [z]
  refine wpAny_pyIter_revIter ⟨_, Heap.get?_push_size _ rfl, rfl, rfl⟩ (itNew (T := fun _ => True) (φ := fld "list_reverseiterator" fun i => #[.ref a, rawInt ((xs.length : Int) - 1 - (i : Int))]) S rfl ⟨rfl, congrArg (fun z => Data.fields #[.ref a, rawInt z]) (Int.sub_zero _).symm⟩ trivial (fun _ _ p => ⟨_, p.2⟩) (fun _ _ _ _ => trivial) (fun A i x s' H' Q hh S' g ex st _ k => ?_) fun A s' H' Q hh S' g st _ k => ?_)
  · obtain ⟨vs, n, e1, r, _⟩ := S'.list g
    have hi : i < xs.length := List.length_reverse (as := xs) ▸ (List.getElem?_eq_some_iff.mp ex).1
    rw [List.getElem?_reverse hi] at ex
    obtain ⟨v, ev, rv⟩ := r.get ex
    replace st : s'.heap.IsRevIter s.heap.objs.size a ((xs.length : Int) - 1 - (i : Int)) := st
    rw [show (xs.length : Int) - 1 - (i : Int) = ((xs.length - 1 - i : Nat) : Int) by omega] at st
    refine wpAny_pyNext_rev_item st ⟨_, e1, rfl, n, rfl⟩ ((List.getElem?_toArray ..).trans ev) fun h' st' hs' => k v h' hs' ?_ rv.mono s'.toks
    show h'.IsRevIter s.heap.objs.size a ((xs.length : Int) - 1 - ((i + 1 : Nat) : Int))
    rw [show (xs.length : Int) - 1 - ((i + 1 : Nat) : Int) = ((xs.length - 1 - i : Nat) : Int) - 1 by omega]
    exact st'
  · replace st : s'.heap.IsRevIter s.heap.objs.size a ((xs.length : Int) - 1 - (xs.reverse.length : Int)) := st
    rw [List.length_reverse, show (xs.length : Int) - 1 - (xs.length : Int) = -1 by omega] at st
    exact wpAny_pyNext_rev_end hh st fun h' he => k h' he s'.toks

theorem it_range {i : Int} {t : Tok} (S : St cx H s) (hi : i.natAbs < 2 ^ 62) :
    wpAny (model cx.prog cx.w) A (call (.type "range") [.int i t]) (fun v s₁ => wpAny (model cx.prog cx.w) A (pyIter v) (ItAt cx H s.heap ((List.range i.toNat).map fun (j : Nat) => V.int (j : Int)) fun _ => True) NoE s₁) NoE s := by
  refine call_range_1 ?_
  have S1 := S.push { cls := .type "range", data := .fields #[.int 0 s.toks, .int i t, .int 1 (s.toks + 1)] } (s.toks + 1 + 1)
  have E1 := Ext.push H s.heap { cls := .type "range", data := .fields #[.int 0 s.toks, .int i t, .int 1 (s.toks + 1)] }
  have hn : Builtin.Range.rangeSize 0 i 1 = (i.toNat : Int) := by rw [rangeSize_one]; split <;> omega
  refine wpAny_pyIter_range (t := s.toks) (u := t) (v := s.toks + 1) (Heap.get?_push_size _ rfl) (small_one (by decide) (by decide) (by omega) (by omega)) ?_
  rw [hn]
  have q := itNew (T := fun _ => True) (xs := (List.range i.toNat).map fun (j : Nat) => V.int (j : Int)) (G := fun _ => True)
    (φ := fun j o => o = { cls := .type "range_iterator", data := .fields #[rawInt (j : Int), rawInt ((i.toNat : Int) - (j : Int)), rawInt 1] }) S1 rfl (by rw [Int.natCast_zero, Int.sub_zero]) trivial (fun _ _ p => ⟨_, congrArg Obj.data p⟩) (fun _ _ _ _ => trivial) (fun A j x s' H' Q hh S' g ex st _ k => ?_) fun A s' H' Q hh S' g st _ k => ?_
  · obtain ⟨I, σ, e, ok, f1, f2, f3, f4, f5, f6⟩ := q
    refine ⟨I, σ, e, ok, ?_, f2, f3, f4, f5, E1.trans f6⟩
    cases q : s.heap.get? I with
    | none => rfl
    | some o => exact nomatch (Heap.get?_push_of_some { cls := .type "range", data := .fields #[.int 0 s.toks, .int i t, .int 1 (s.toks + 1)] } q).symm.trans f1
  · obtain ⟨o, st, rfl⟩ := st
    rw [List.getElem?_map] at ex
    obtain ⟨j', ej, rfl⟩ := Option.map_eq_some_iff.mp ex
    obtain ⟨hj, ej⟩ := List.getElem?_eq_some_iff.mp ej
    rw [List.getElem_range] at ej
    subst ej
    rw [List.length_range] at hj
    refine wpAny_pyNext_range_item st (by omega) fun h' st' hs' => k _ h' hs' ⟨_, st', ?_⟩ (fun _ => .int _ _) _
    rw [show (i.toNat : Int) - ((j : Nat) : Int) - 1 = (i.toNat : Int) - ((j + 1 : Nat) : Int) by omega]; rfl
  · obtain ⟨o, st, rfl⟩ := st
    rw [List.length_map, List.length_range] at st
    exact wpAny_pyNext_range_end hh st (by omega) fun h' he => k h' he s'.toks

theorem it_tuple {a : Addr} {vs : List Value} {n : Nat} {xs : List V} (S : St cx H s) (e : s.heap.get? a = some (tupObj vs n)) (r : Reps s.heap xs vs) :
    wpAny (model cx.prog cx.w) A (pyIter (.ref a)) (ItAt cx H s.heap xs fun _ => True) NoE s := by
  refine wpAny_pyIter_tuple ⟨_, e, rfl, n, rfl⟩ (itNew (T := fun h => h.get? a = some (tupObj vs n) ∧ Reps h xs vs) (φ := fld "tuple_iterator" fun i => #[.ref a, .int i 0]) S rfl ⟨rfl, rfl⟩ ⟨Heap.get?_push_of_some _ e, r.grow fun _ _ q => Heap.get?_push_of_some _ q⟩ (fun _ _ p => ⟨_, p.2⟩) (fun _ _ kt q => ⟨kt _ _ _ q.1, q.2.mono kt⟩) (fun A i x s' H' Q hh S' g ex st q k => ?_) fun A s' H' Q hh S' g st q k => ?_)
  · obtain ⟨v, ev, rv⟩ := q.2.get ex
    exact wpAny_pyNext_tuple_item st ⟨_, q.1, rfl, n, rfl⟩ ((List.getElem?_toArray ..).trans ev) fun h' st' hs' => k v h' hs' st' rv.mono s'.toks
  · exact wpAny_pyNext_tuple_end hh st ⟨_, q.1, rfl, n, rfl⟩ (arr_none r.length) fun h' he => k h' he s'.toks

theorem str_at {l : List Nat} (ok : okS l = true) {i : Nat} {x : V} (e : (l.map fun c => V.str [c])[i]? = some x) : ∃ c, (mkS l).cps[i]? = some c ∧ x = .str [c] ∧ okS [c] = true := by
  rw [List.getElem?_map] at e
  obtain ⟨c, q, rfl⟩ := Option.map_eq_some_iff.mp e
  exact ⟨c, (List.getElem?_toArray ..).trans q, rfl, okS_one (okS_all ok c (List.mem_of_getElem? q))⟩
theorem it_str {l : List Nat} {t : Tok} (S : St cx H s) (ok : okS l = true) :
    wpAny (model cx.prog cx.w) A (pyIter (.str (mkS l) t)) (ItAt cx H s.heap (l.map fun c => .str [c]) fun _ => True) NoE s := by
  have z : (mkS l).cps[(l.map fun c => V.str [c]).length]? = none := arr_none (List.length_map ..).symm
  cases ha : (mkS l).cps.all (· < 128)
  · refine wpAny_pyIter_wide ha (itNew (T := fun _ => True) (φ := fld "str_iterator" fun i => #[.str (mkS l) t, .int i 0]) S rfl ⟨rfl, rfl⟩ trivial (fun _ _ p => ⟨_, p.2⟩) (fun _ _ _ _ => trivial) (fun A i x s' H' Q hh S' g ex st _ k => ?_) fun A s' H' Q hh S' g st _ k => ?_)
    · obtain ⟨c, ec, rfl, okc⟩ := str_at ok ex
      exact wpAny_pyNext_wide_item st ec fun h' st' hs' => k _ h' hs' st' (fun _ => .str [c] _ okc) _
    · exact wpAny_pyNext_wide_end hh st z fun h' he => k h' he s'.toks
  · refine wpAny_pyIter_ascii ha (itNew (T := fun _ => True) (φ := fld "str_ascii_iterator" fun i => #[.str (mkS l) t, .int i 0]) S rfl ⟨rfl, rfl⟩ trivial (fun _ _ p => ⟨_, p.2⟩) (fun _ _ _ _ => trivial) (fun A i x s' H' Q hh S' g ex st _ k => ?_) fun A s' H' Q hh S' g st _ k => ?_)
    · obtain ⟨c, ec, rfl, okc⟩ := str_at ok ex
      exact wpAny_pyNext_ascii_item st ec fun h' st' hs' => k _ h' hs' st' (fun _ => .str [c] _ okc) _
    · exact wpAny_pyNext_ascii_end hh st z fun h' he => k h' he s'.toks
end
end Mine

namespace Mine

noncomputable def chkName (sc : Scope) (nms : List Str) (i : Nat) (e : Expr) : Bool := isName (fun id _ => nms[i]? == some id && isLoc sc id) e
noncomputable def ExtS (C : Fr) (H : AH) (h : Heap) (H' : AH) (h' : Heap) : Prop := ∀ b o, b ≠ C.env.locals → h.get? b = some o → H b = none → h'.get? b = some o ∧ H' b = none
noncomputable def FlowRel (h : Heap) (fl : FL) (f : Flow) : Prop := match fl with
  | .next => f = .next
  | .brk => f = .brk
  | .ret v => ∃ x, f = .ret x ∧ Rep h v x

section
variable {C : Fr} {A : Around} {H H' H'' : AH} {s s' s'' : Shared} {h h' h'' : Heap} {ρ : Rho}
theorem ExtS.refl (H : AH) (h : Heap) : ExtS C H h H h := fun _ _ _ e n => ⟨e, n⟩
theorem ExtS.trans (x : ExtS C H h H' h') (y : ExtS C H' h' H'' h'') : ExtS C H h H'' h'' := fun b o w e n => y b o w (x b o w e n).1 (x b o w e n).2
theorem Ext.st (x : Ext H h H' h') : ExtS C H h H' h' := fun b o _ e n => x b o e n
theorem At.notTup (G : At C A s H ρ) (vs : List Value) (n : Nat) : s.heap.get? C.env.locals ≠ some (tupObj vs n) := fun e => by
  obtain ⟨m, ⟨o, es, ep, q, d, _⟩, _⟩ := G.fr
  obtain rfl := Option.some.inj (q.symm.trans e)
  exact nomatch d
theorem ExtS.tup (x : ExtS C H s.heap H' h') (G : At C A s H ρ) : KeepsTup s.heap h' := fun a vs m e => (x a _ (fun w => G.notTup vs m (w ▸ e)) e (G.st.tupNone e)).1
theorem At.live (G : At C A s H ρ) : ∃ o, s.heap.get? C.env.locals = some o := by obtain ⟨m, ⟨o, es, ep, q, _⟩, _⟩ := G.fr; exact ⟨o, q⟩
theorem At.but {I : Addr} (G : At C A s H ρ) (n : H I = none) (g : C.cx.g0.get? I = none) (fl : OwnObj s.heap I) (ne : C.env.locals ≠ I) (b : But I s.heap h') (t : Nat) : At C A { s with heap := h', toks := t } H ρ := by
  obtain ⟨m, ⟨o, es, ep, e, r⟩, h3⟩ := G.fr
  obtain ⟨oI, eI, f1, f2⟩ := fl
  have nt : ∀ vs n, s.heap.get? I ≠ some (tupObj vs n) := fun vs n e => f1 vs n (Option.some.inj (eI.symm.trans e))
  refine ⟨G.rm, G.st.but n g nt b t, G.ln, G.lo, m, ⟨o, es, ep, b _ _ ne e, r⟩, fun i v n q1 q2 => ?_⟩
  obtain ⟨w, e1, e2⟩ := h3 i v n q1 q2
  refine ⟨w, e1.imp_right fun q => ?_, e2.mono (But.tup b nt)⟩
  obtain ⟨k, c, o, q1, q2, q3, q4, q5⟩ := q
  exact ⟨k, c, o, q1, b _ _ (fun z => by rw [z] at q2; exact f2 _ (Option.some.inj (eI.symm.trans q2) ▸ q3)) q2, q3, q4, q5⟩

noncomputable abbrev Stored (C : Fr) (A : Around) (s : Shared) (H : AH) (ρ' : Rho) (s' : Shared) : Prop := At C A s' H ρ' ∧ But C.env.locals s.heap s'.heap
theorem Stored.ext {ρ' : Rho} (x : Stored C A s H ρ' s') : ExtS C H s.heap H s'.heap := fun b o w e n => ⟨x.2 b o w e, n⟩
theorem store_local {i : Nat} {nm : Str} {x : V} {v : Value} {Q : Unit → Shared → Prop} (F : FrOk C) (G : At C A s H ρ) (hi : C.nms[i]? = some nm) (hk : isLoc C.env.scope nm = true) (r : Rep s.heap x v)
    (k : ∀ s', Stored C A s H (setSlot ρ i x) s' → Q () s') : wpAny C.M A (storeName C.env nm v) Q NoE s := by
  obtain ⟨m, ns, h3⟩ := G.fr
  refine wpAny_storeName_local (eq_of_beq (and2 hk).1) ns (fun h' ns' hs => ?_) (by rw [F.kind]; rfl)
  have kt : KeepsTup s.heap h' := But.tup hs.extBut G.notTup
  refine k _ ⟨⟨G.rm, G.st.own G.lo F.gL hs G.notTup _, (setSlot_length ..).trans G.ln, G.lo, _, ns', fun j y n' q1 q2 => ?_⟩, hs.extBut⟩
  rw [slot_setSlot] at q1
  by_cases hj : j = i
  · subst hj
    rw [if_pos ⟨rfl, by rw [G.ln]; exact (List.getElem?_eq_some_iff.mp hi).1⟩] at q1
    exact ⟨v, .inl ⟨fun z => by rw [Option.some.inj (q2.symm.trans hi)] at z; exact (nomatch (eq_of_beq (and2 hk).1).symm.trans z), if_pos (Option.some.inj (q2.symm.trans hi))⟩, Option.some.inj q1 ▸ r.mono kt⟩
  · rw [if_neg fun z => hj z.1] at q1
    obtain ⟨w, e1, e2⟩ := h3 j y n' q1 q2
    refine ⟨w, e1.imp (fun e => ⟨e.1, (if_neg fun z => hj (an_inj F.nd (z ▸ q2) hi)).trans e.2⟩) fun q => ?_, e2.mono kt⟩
    obtain ⟨k, c, o, q1, q2, q3, q4, q5⟩ := q
    exact ⟨k, c, o, q1, hs.extBut _ _ q5 q2, q3, q4, q5⟩
theorem assign_name {i : Nat} {t : Expr} {x : V} {v : Value} {Q : Unit → Shared → Prop} (F : FrOk C) (G : At C A s H ρ) (h : chkName C.env.scope C.nms i t = true) (r : Rep s.heap x v)
    (k : ∀ s', Stored C A s H (setSlot ρ i x) s' → Q () s') : wpAny C.M A (assign t C.env v) Q NoE s := by
  obtain ⟨id, p, rfl, h⟩ := ofName h
  exact wpAny_assign_Name (store_local F G (eq_of_beq (and2 h).1) (and2 h).2 r k)
theorem each_name {i : Nat} {t : Expr} {ts : List Expr} (h : chkName C.env.scope C.nms i t = true) : assignEach (t :: ts) C.env = (false, assign t C.env) :: assignEach ts C.env := by
  obtain ⟨id, p, rfl, h⟩ := ofName h; rfl
theorem noE {α : Type} {M : Model} {t : Sem α} {Q : α → Shared → Prop} {E : Value → Shared → Prop} (h : wpAny M A t Q NoE s) : wpAny M A t Q E s := wpAny_mono h (fun _ _ q => q) fun _ _ e => e.elim
theorem nodeOf {e : Expr} {p : PE} (ev : SimE C e p) (hb : ∀ whole, isTrue e C.env whole = (do let v ← whole; standAt e.pos; holding [v] (truthy v))) (pl : Plain e) (ba : plainBase e = true → ∀ attr whole, attributeBase e attr C.env whole = whole) (sw : (e.ctorIdx == 25) = false → ∀ elts x pos, swappedStores [.Tuple elts x pos] e C.env = pure none) : Node C e p := ⟨ev, simB_of ev hb, pl, ba, sw⟩
theorem noB {b : Bool} (h : (!b) = true) : b = false := (Bool.not_eq_true' b).mp h

theorem comp_names {x g y : Str} : (∀ z ∈ compNames x g y, z.2 = .local → (compNames x g y).lookup z.1 = some .local) ∧ ∀ z ∈ compNames x g y, z.2 ≠ .cell := by
  unfold compNames
  refine ⟨fun z hz e => ?_, fun z hz e => ?_⟩
  · rcases List.mem_cons.mp hz with rfl | hz
    · exact List.lookup_cons_self
    · rcases List.mem_cons.mp hz with rfl | hz
      · rw [List.lookup_cons]
        split
        · rfl
        · exact List.lookup_cons_self
      · rcases List.mem_cons.mp hz with rfl | hz
        · contradiction
        · rw [List.mem_singleton.mp hz] at e; contradiction
  · rcases List.mem_cons.mp hz with rfl | hz
    · contradiction
    · rcases List.mem_cons.mp hz with rfl | hz
      · contradiction
      · rcases List.mem_cons.mp hz with rfl | hz
        · contradiction
        · rw [List.mem_singleton.mp hz] at e; contradiction
theorem comp_clos {x g y : Str} {scope : Scope} {env : Env} {c : Addr} (hn : scope.names = compNames x g y) (hc : env.cells.lookup y = some c) : closureFor scope env = pure [(y, c)] := by
  unfold closureFor cellOf
  rw [hn, compNames]
  simp only [List.forIn_cons, List.forIn_nil, hc]
  rfl
theorem node_x {i : Nat} {id : Str} {pos : Pos} (F : FrOk C) (h1 : C.nms[i]? = some id) (h2 : (isLoc C.env.scope id || isCel C.env.scope id) = true) : Node C (.Name id pos) (.x i) :=
  nodeOf (sim_x F h1 h2) (fun _ => rfl) ⟨fun _ _ => rfl, fun _ _ _ => rfl, fun _ _ => rfl, fun _ _ => rfl⟩ (fun _ _ _ => rfl) (fun _ _ _ _ => rfl)
theorem none_of {h h' : Heap} {a : Addr} (k : ∀ b o, h.get? b = some o → h'.get? b = some o) (e : h'.get? a = none) : h.get? a = none := by
  cases q : h.get? a with
  | none => rfl
  | some o => exact nomatch (k a o q).symm.trans e
theorem St.untracked {cx : Cx} {H : AH} {s : Shared} (S : St cx H s) {a : Addr} (e : s.heap.get? a = none) : H a = none := by
  cases q : H a with
  | none => rfl
  | some o => obtain ⟨x, z⟩ := (S.objs a o q).some; exact nomatch z.symm.trans e
theorem Ext.adoptK {H₁ H₂ : AH} {h h' : Heap} {a : Addr} {ao : AObj} (x : Ext H₁ h H₂ h') (n : h.get? a = none) : Ext H₁ h (H₂.set a ao) h' := fun b o e q =>
  ⟨(x b o e q).1, (AH.set_ne _ _ (some_ne e n)).trans (x b o e q).2⟩
noncomputable abbrev cFr (C : Fr) (scope : Scope) (x y : Str) (c L : Addr) : Fr := ⟨C.cx, C.n, compEnvC scope [(y, c)] L C.env, [x, y]⟩
noncomputable abbrev itObj (a : Addr) : Obj := ⟨.type "tuple_iterator", none, .fields #[.ref a, .int 0 0], #[]⟩
noncomputable abbrev elT (g x y : Str) (gp xp yp ep px : Pos) (iter : Expr) (scope : Scope) (pos : Pos) : Expr := .ListComp (.Call (.Name g gp) [.Name x xp, .Name y yp] [] ep) [⟨.Name x px, iter, [], 0⟩] scope pos
theorem comp_go {f : Nat} {iter : Expr} {scope : Scope} {g x y : Str} {px gp xp yp ep pos : Pos} {A : Around} {s₁ : Shared} {H₁ : AH} {ρ : Rho} {P : V → AH → Prop} {R : Value → Shared → Prop} {vs : List V} {ws : List Value} {n a I D L c : Nat} {h₁ h₂ h₃ : Heap} {oc : Obj} {yv : V} {vy : Value} {t : Nat}
    (F : FrOk C) (k0 : scope.kind = .function) (hid : C.cx.gn[f]? = some g) (hr : isRefV (C.cx.gl f) = true) (hg : isGlob (compScope C.env.scope scope) g = true) (hx : isLoc (compScope C.env.scope scope) x = true) (hyc : isCel (compScope C.env.scope scope) y = true) (ne : x ≠ y)
    (G₁ : At C A s₁ H₁ ρ) (ea : s₁.heap.get? a = some (tupObj ws n)) (rs : Reps s₁.heap vs ws) (gc : s₁.heap.get? c = some oc) (dc : oc.data = .cell (some vy)) (nc : H₁ c = none) (ry : Rep s₁.heap yv vy)
    (fI : s₁.heap.get? I = none) (o2 : ∀ b o, s₁.heap.get? b = some o → h₁.get? b = some o) (eI : h₁.get? I = some (itObj a)) (fD : h₁.get? D = none) (o3 : ∀ b o, h₁.get? b = some o → h₂.get? b = some o) (eD : h₂.get? D = some (lstObj [] 0)) (fL : h₂.get? L = none)
    (o4 : ∀ b o, h₂.get? b = some o → h₃.get? b = some o) {m : Str → Option Value} (hns : h₃.Ns L m) (q : mapC C.cx C.n f yv D vs [] (H₁.set D (.list [])) P) (K : Cont C A s₁ H₁ ρ P R) :
    codeAny C.M A (.compStart (elT g x y gp xp yp ep px iter scope pos) 0 (.ref I) (.ref D) (compEnvC scope [(y, c)] L C.env)) (compPost C.M A NoE none R (.ref D) L) { s₁ with heap := h₃, toks := t } := by
  have old : ∀ b o, s₁.heap.get? b = some o → h₃.get? b = some o := fun b o e => o4 b o (o3 b o (o2 b o e))
  have nID : I ≠ D := some_ne eI fD
  have nDL : D ≠ L := some_ne eD fL
  have nIL : I ≠ L := some_ne (o3 _ _ eI) fL
  have fD1 := none_of o2 fD
  have fL1 := none_of (fun b o e => o3 b o (o2 b o e)) fL
  have S₃ := (G₁.st.grow old t).adopt (a := D) (ao := .list []) (G₁.st.g0_fresh fD1) ⟨[], 0, o4 _ _ eD, .nil, Nat.zero_le _⟩
  have F' : FrOk (cFr C scope x y c L) := ⟨F.ok, k0, F.glob, F.blt, G₁.st.g0_fresh fL1, List.nodup_cons.mpr ⟨fun z => ne (List.mem_singleton.mp z), List.nodup_cons.mpr ⟨fun z => (nomatch z), List.nodup_nil⟩⟩⟩
  have E₃ : Ext H₁ s₁.heap (H₁.set D (.list [])) h₃ := (Ext.grow old).adoptK fD1
  have G₃ : At (cFr C scope x y c L) A { s₁ with heap := h₃, toks := t } (H₁.set D (.list [])) [none, some yv] :=
    ⟨G₁.rm, S₃, rfl, (AH.set_ne _ _ nDL.symm).trans (G₁.st.untracked fL1), _, hns, fun j z m q1 q2 => by
      match j, q1, q2 with
      | 1, q1, q2 =>
        obtain rfl := Option.some.inj q1
        obtain rfl := Option.some.inj q2
        exact ⟨vy, .inr ⟨eq_of_beq (and2 hyc).1, c, oc, List.lookup_cons_self, old _ _ gc, dc, (E₃ _ _ gc nc).2, some_ne gc fL1⟩, ry.mono fun b vs n e => old _ _ e⟩⟩
  have eI3 : h₃.IsTupleIter I a 0 := ⟨_, o4 _ _ (o3 _ _ eI), rfl, rfl⟩
  have loop : codeAny C.M A (.compLoop (elT g x y gp xp yp ep px iter scope pos) 0 (.ref I) (.ref D) (compEnvC scope [(y, c)] L C.env)) (compPost C.M A NoE none R (.ref D) L) { s₁ with heap := h₃, toks := t } := by
    refine codeAny_compLoop_list (fun k s' => ∃ j acc H' ox, k = vs.length + 1 - j ∧ j ≤ vs.length ∧ At (cFr C scope x y c L) A s' H' [ox, some yv] ∧ Ext H₁ s₁.heap H' s'.heap ∧ s'.heap.IsTupleIter I a j ∧ H' I = none ∧ mapC C.cx C.n f yv D (vs.drop j) acc H' P)
      (fun k s' q => ?_) (vs.length + 1) ⟨0, [], _, none, rfl, Nat.zero_le _, G₃, E₃, eI3, (AH.set_ne _ _ nID).trans (G₁.st.untracked fI), q⟩
    obtain ⟨j, acc, H', ox, rfl, hj, G', E', hσ, hI', w'⟩ := q
    obtain ⟨ta, _⟩ := E' _ _ ea (G₁.st.tupNone ea)
    have own : OwnObj s'.heap I := by obtain ⟨o, e, _, d⟩ := hσ; exact ⟨o, e, fun _ _ z => by rw [z] at d; contradiction, fun _ z => by rw [z] at d; contradiction⟩
    have low : ∀ b o, s₁.heap.get? b = some o → b ≠ I ∧ b ≠ L := fun b o e => ⟨some_ne e fI, some_ne e fL1⟩
    by_cases hlt : j < vs.length
    · rw [List.drop_eq_getElem_cons hlt] at w'
      obtain ⟨v, ev, rv⟩ := rs.get (List.getElem?_eq_getElem hlt)
      refine noE (wpAny_pyNext_tuple_item hσ ⟨_, ta, rfl, n, rfl⟩ ((List.getElem?_toArray ..).trans ev) fun h₄ hσ' hs => ?_)
      have G4 := G'.but hI' (G₁.st.g0_fresh fI) own nIL.symm hs.extBut s'.toks
      have E4 : Ext H₁ s₁.heap H' h₄ := fun b o e z => ⟨(hs.2 b (low b o e).1).trans (E' b o e z).1, (E' b o e z).2⟩
      refine noE (assign_name (i := 0) (C := cFr C scope x y c L) (t := .Name x px) F' G4 (Bool.and_eq_true_iff.mpr ⟨beq_self_eq_true _, hx⟩) (rv.ext G₁.st E4) fun s₅ S₅ => noE ?_)
      have E5 : Ext H₁ s₁.heap H' s₅.heap := fun b o e z => ⟨S₅.2 b o (low b o e).2 (E4 b o e z).1, (E4 b o e z).2⟩
      have σ5 : s₅.heap.IsTupleIter I a (j + 1) := by obtain ⟨o, e, z⟩ := hσ'; exact ⟨o, S₅.2 _ _ nIL e, z⟩
      refine sim_call (C := cFr C scope x y c L) F' hid hg hr (.cons (node_x (i := 0) F' rfl (Bool.or_eq_true_iff.mpr (.inl hx))) (.cons (node_x (i := 1) F' rfl (Bool.or_eq_true_iff.mpr (.inr hyc))) .nil)) S₅.1 ⟨_, rfl, _, rfl, w'⟩ fun u s₆ z H₆ G₆ E₆ r₆ q₆ => noE ?_
      obtain ⟨q1, q2, q3⟩ := q₆
      refine wpAny_mono (bmW_sound (m := .append) (args := [z]) (Q := fun _ H => H = H₆.set D (.list (acc ++ [z]))) F.ok G₆.u100 G₆.st (.ref D) (.cons r₆ .nil) ⟨acc, q1, q2, rfl⟩) (fun _ s₇ p => ?_) fun _ _ e => e
      obtain ⟨_, H₇, S₇, E₇, _, rfl⟩ := p
      have E57 := E₆.trans E₇
      obtain ⟨o5, e5, z5⟩ := σ5
      obtain ⟨k7, n7⟩ := E57 I o5 e5 hI'
      exact ⟨vs.length + 1 - (j + 1), Nat.sub_succ_lt_self _ _ (Nat.lt_succ_of_lt hlt), j + 1, acc ++ [z], _, _, rfl, hlt, G₆.next S₇ E₇, E5.trans E57, ⟨o5, k7, z5⟩, n7, q3⟩
    · obtain rfl := Nat.le_antisymm hj (Nat.not_lt.mp hlt)
      rw [List.drop_length] at w'
      refine noE (wpAny_pyNext_tuple_end G'.rm.handled hσ ⟨_, ta, rfl, n, rfl⟩ (arr_none rs.length) fun h₄ hb => ?_)
      have G4 := G'.but hI' (G₁.st.g0_fresh fI) own nIL.symm hb s'.toks
      obtain ⟨m4, ns4, _⟩ := id G4.fr
      refine ⟨m4, ns4, fun h₅ hs => ?_⟩
      have E5 : Ext H₁ s₁.heap H' h₅ := fun b o e z => ⟨(hs.2 b (low b o e).2).trans (hb b o (low b o e).1 (E' b o e z).1), (E' b o e z).2⟩
      exact K _ _ (.ref D) H' (G₁.next (G4.st.own G4.lo F'.gL hs G4.notTup s'.toks) E5) E5 (.ref D) w'
  exact codeAny_compStart_list loop (wpAny_pyIter_tupleiter eI3 loop)
theorem sim_comp {f i : Nat} {p : PE} {iter : Expr} {scope : Scope} {g x y : Str} {px gp xp yp ep pos : Pos} (F : FrOk C) (hn : scope.names = compNames x g y) (k0 : scope.kind = .function)
    (hid : C.cx.gn[f]? = some g) (hr : isRefV (C.cx.gl f) = true) (hy : C.nms[i]? = some y) (hg : isGlob (compScope C.env.scope scope) g = true) (hx : isLoc (compScope C.env.scope scope) x = true)
    (hyc : isCel (compScope C.env.scope scope) y = true) (hyo : isCel C.env.scope y = true) (ne : x ≠ y) (he : Node C iter p) :
    ∀ {A s H ρ P R}, At C A s H ρ → (∃ y, slot ρ i = some y ∧ wpE C.cx C.n p ρ H fun x H₁ => ∃ vs, x = .tup vs ∧ ∀ c, H₁ c = none → mapC C.cx C.n f y c vs [] (H₁.set c (.list [])) P) → Cont C A s H ρ P R →
      wpAny C.M A (eval (elT g x y gp xp yp ep px iter scope pos) C.env) R NoE s := fun {A s H ρ P R} G w K => by
  obtain ⟨yv, sy, w⟩ := w
  obtain ⟨m0, ns0, h3⟩ := id G.fr
  obtain ⟨vy, nm, ry⟩ := h3 i yv y sy hy
  obtain ⟨c, oc, lc, gc, dc, nc, cl⟩ := (nm.resolve_left fun z => z.1 (eq_of_beq (and2 hyo).1)).2
  rw [eval_ListComp]
  refine wpAny_comprehension_free (g := ⟨.Name x px, iter, [], 0⟩) (gs := []) rfl (fun q => he.pl.fold _ _) (comp_clos hn lc) k0 (hn ▸ comp_names.1) (he.ev G w fun v s₁ xv H₁ G₁ E₁ r q => ?_)
  obtain ⟨vs, rfl, q⟩ := q
  obtain ⟨a, ws, n, rfl, ea, rs⟩ := r.inv
  refine wpAny_pyIter_tuple ⟨_, ea, rfl, n, rfl⟩ (wpAny_newObj_type (wpAny_newFunctionEnv (hn ▸ comp_names.2) (fun _ h => nomatch h) (fun h₃ hns hsb => ?_) k0))
  dsimp only at hns hsb ⊢
  generalize e1 : s₁.heap.push ⟨.type "tuple_iterator", none, .fields #[.ref a, .int 0 0], #[]⟩ = h₁ at hns hsb ⊢
  generalize e2 : h₁.push (lstObj [] 0) = h₂ at hns hsb ⊢
  subst e1
  have o2 : ∀ b o, s₁.heap.get? b = some o → (s₁.heap.push (itObj a)).get? b = some o := fun b o e => Heap.get?_push_of_some _ e
  have fD : (s₁.heap.push (itObj a)).get? (s₁.heap.push (itObj a)).objs.size = none := get_size_none _
  have fL : h₂.get? h₂.objs.size = none := get_size_none _
  exact comp_go (s₁ := s₁) (h₁ := s₁.heap.push (itObj a)) (h₂ := h₂) F k0 hid hr hg hx hyc ne G₁ ea rs (E₁ c oc gc nc).1 dc (E₁ c oc gc nc).2 (ry.ext G.st E₁) (get_size_none _) o2 (Heap.get?_push_size _ rfl) fD (e2 ▸ fun b o e => Heap.get?_push_of_some _ e) (e2 ▸ Heap.get?_push_size _ rfl) fL
    (fun b o e => hsb.extBut b o (some_ne e fL) (Heap.get?_push_of_some _ e)) hns (q _ (G₁.st.untracked (none_of o2 fD))) (K.shift E₁)
theorem sim_tcomp {f i : Nat} {p : PE} {iter : Expr} {scope : Scope} {t g x y : Str} {tp px gp xp yp ep pos cp : Pos} (F : FrOk C) (ht : t = biName .tuple) (hgt : isGlob C.env.scope t = true) (hn : scope.names = compNames x g y) (k0 : scope.kind = .function)
    (hid : C.cx.gn[f]? = some g) (hr : isRefV (C.cx.gl f) = true) (hy : C.nms[i]? = some y) (hg : isGlob (compScope C.env.scope scope) g = true) (hx : isLoc (compScope C.env.scope scope) x = true)
    (hyc : isCel (compScope C.env.scope scope) y = true) (hyo : isCel C.env.scope y = true) (ne : x ≠ y) (he : Node C iter p) :
    SimE C (.Call (.Name t tp) [.ListComp (.Call (.Name g gp) [.Name x xp, .Name y yp] [] ep) [⟨.Name x px, iter, [], 0⟩] scope pos] [] cp) (.comp f i p) := fun G w K => by
  subst ht
  refine wpAny_Call_NameR ((F.ok.bi .tuple).load F G hgt ?_)
  refine callWith_of (P := fun _ => True) rfl (fun h _ => ⟨.machine, .inr (.inl rfl), Looks.of_pure rfl⟩) (Calls.evalArgs_plain (Calls.spliced_cons (sim_comp F hn k0 hid hr hy hg hx hyc hyo ne he G w fun v s₁ z H₁ G₁ E₁ r q => Calls.spliced_nil ⟨trivial, ?_⟩)))
  exact fin G₁ E₁ K (biW_sound (b := .tuple) G.rm.handled G₁.st (.cons r .nil) q)
end
end Mine

namespace Mine

section
variable {C : Fr}
noncomputable def SimSrc (C : Fr) (iter : Expr) (p : Src) : Prop := ∀ {A s H ρ} {K : List V → (AH → Prop) → AH → Prop} {R : Value → Shared → Prop}, At C A s H ρ → wpSrc C.cx C.n p ρ H K →
    (∀ it s₂ xs G H₁ s₁, K xs G H₁ → At C A s₁ H₁ ρ → Ext H s.heap H₁ s₁.heap → ItAt C.cx H₁ s₁.heap xs G it s₂ → R it s₂) → wpAny C.M A (eval iter C.env) (fun xv s₁ => wpAny C.M A (pyIter xv) R NoE s₁) NoE s
theorem src_val {e : Expr} {p : PE} (h : SimE C e p) : SimSrc C e (.val p) := fun G w k => h G w fun v s₁ x H₁ G₁ E₁ r q => by
  cases x with
  | tup vs => obtain ⟨a, ws, n, rfl, e, rs⟩ := r.inv; exact wpAny_mono (it_tuple G₁.st e rs) (fun it s₂ h => k it s₂ _ _ H₁ s₁ q.2 G₁ E₁ h) fun _ _ e => e
  | str l => obtain ⟨t, rfl, ok⟩ := r.inv; exact wpAny_mono (it_str G₁.st ok) (fun it s₂ h => k it s₂ _ _ H₁ s₁ q G₁ E₁ h) fun _ _ e => e
  | ref a => obtain rfl := r.inv; obtain ⟨xs, hx, q⟩ := q; exact wpAny_mono (it_list G₁.st hx) (fun it s₂ h => k it s₂ _ _ H₁ s₁ q G₁ E₁ h) fun _ _ e => e
  | _ => exact q.elim
theorem src_range {id : Str} {np pos : Pos} {a : Expr} {p : PE} (F : FrOk C) (hid : id = ("range" : Str)) (hg : isGlob C.env.scope id = true) (ha : Node C a p) : SimSrc C (.Call (.Name id np) [a] [] pos) (.range p) := fun {A s H ρ K R} G w k => by
  subst hid
  refine wpAny_Call_NameR (F.ok.range.load F G hg ?_)
  rw [star_plain (.cons ha .nil)]
  refine callWith_val (first := []) rfl (.cons ha .nil) G (Q := fun xs H => arg1 xs fun x => rangeW x fun xs G => K xs G H) w fun vs s₁ xs H₁ G₁ E₁ rs q => ?_
  obtain ⟨x, v, rfl, r, q⟩ := arg1_go q rs
  cases x with
  | int i => obtain ⟨t, rfl⟩ := r.inv; exact wpAny_mono (it_range G₁.st q.1) (fun v s₂ h => wpAny_mono h (fun it s₃ h => k it s₃ _ _ H₁ s₁ q.2 G₁ E₁ h) fun _ _ e => e) fun _ _ e => e
  | _ => exact q.elim
theorem src_rev {id : Str} {np pos : Pos} {a : Expr} {p : PE} (F : FrOk C) (hid : id = ("reversed" : Str)) (hg : isGlob C.env.scope id = true) (ha : Node C a p) : SimSrc C (.Call (.Name id np) [a] [] pos) (.rev p) := fun {A s H ρ K R} G w k => by
  subst hid
  refine wpAny_Call_NameR (F.ok.reversed.load F G hg ?_)
  rw [star_plain (.cons ha .nil)]
  refine callWith_val (first := []) rfl (.cons ha .nil) G (Q := fun xs H => arg1 xs fun x => revW x H fun xs G => K xs G H) w fun vs s₁ xs H₁ G₁ E₁ rs q => ?_
  obtain ⟨x, v, rfl, r, q⟩ := arg1_go q rs
  cases x with
  | ref a => obtain rfl := r.inv; obtain ⟨xs, hx, q⟩ := q; exact wpAny_mono (it_rev G₁.st hx) (fun v s₂ h => wpAny_mono h (fun it s₃ h => k it s₃ _ _ H₁ s₁ q G₁ E₁ h) fun _ _ e => e) fun _ _ e => e
  | _ => exact q.elim
theorem part_go {p : PE} {l : Option Expr} {f : Expr → Bool} (h : optC f p l = true) (k : ∀ e, f e = true → SimE C e p) : SimPart C l p := by
  cases l with
  | some e => exact k e h
  | none =>
    intro A s H ρ P R G w K
    cases p with
    | c v => cases v with
      | none => exact wpAny_pure (K _ _ _ H G (Ext.refl _ _) .none w)
      | _ => contradiction
    | _ => contradiction
end

mutual
theorem simE {C : Fr} (F : FrOk C) : ∀ (p : PE) {e : Expr}, chkE C.cx C.env.scope C.nms p e = true → Node C e p
  | .bad, e, h => nomatch h
  | .c v, e, h => by
    obtain ⟨k, a, b, rfl, h⟩ := ofConst h
    exact nodeOf (sim_c h) (fun _ => rfl) ⟨fun _ _ => rfl, fun _ _ _ => rfl, fun _ _ => rfl, fun _ _ => rfl⟩ (fun _ _ _ => rfl) (fun _ _ _ _ => rfl)
  | .x i, e, h => by
    obtain ⟨id, pos, rfl, h⟩ := ofName h
    exact nodeOf (sim_x F (eq_of_beq (and2 h).1) (and2 h).2) (fun _ => rfl) ⟨fun _ _ => rfl, fun _ _ _ => rfl, fun _ _ => rfl, fun _ _ => rfl⟩ (fun _ _ _ => rfl) (fun _ _ _ _ => rfl)
  | .g i, e, h => by
    obtain ⟨id, pos, rfl, h⟩ := ofName h
    exact nodeOf (sim_g F (eq_of_beq (and2 h).1) (and2 h).2) (fun _ => rfl) ⟨fun _ _ => rfl, fun _ _ _ => rfl, fun _ _ => rfl, fun _ _ => rfl⟩ (fun _ _ _ => rfl) (fun _ _ _ _ => rfl)
  | .bin op a b, e, h => by
    obtain ⟨l, o, r, pos, rfl, h⟩ := ofBin h
    obtain ⟨h1, h2⟩ := and2 h
    obtain rfl := of_decide_eq_true h1
    exact nodeOf (sim_bin (simE F a (and2 h2).1).ev (simE F b (and2 h2).2).ev) (fun _ => rfl) ⟨fun _ _ => rfl, fun _ _ _ => rfl, fun _ _ => rfl, fun _ _ => rfl⟩ (fun _ _ _ => rfl) (fun _ _ _ _ => rfl)
  | .neg a, e, h => by
    obtain ⟨o, e, pos, rfl, h⟩ := ofUn h
    obtain ⟨h1, h2⟩ := and2 h
    obtain rfl := of_decide_eq_true h1
    exact nodeOf (sim_neg (simE F a h2).ev) (fun _ => rfl) ⟨fun _ _ => rfl, fun _ _ _ => rfl, fun _ _ => rfl, fun _ _ => rfl⟩ (fun _ _ _ => rfl) (fun _ _ _ _ => rfl)
  | .not a, e, h => by
    obtain ⟨o, e, pos, rfl, h⟩ := ofUn h
    obtain ⟨h1, h2⟩ := and2 h
    obtain rfl := of_decide_eq_true h1
    exact ⟨sim_not (simE F a h2).ev, simB_not (simE F a h2).tr, ⟨fun _ _ => rfl, fun _ _ _ => rfl, fun _ _ => rfl, fun _ _ => rfl⟩, fun _ _ _ => rfl, fun _ _ _ _ => rfl⟩
  | .bop isAnd es, e, h => by
    obtain ⟨op, l, pos, rfl, h⟩ := ofBop h
    obtain ⟨h1, h⟩ := and2 h
    exact ⟨sim_bop (eq_of_beq h1) (simEs F es h), simB_bop (eq_of_beq h1) (simEs F es h), ⟨fun _ _ => rfl, fun _ _ _ => rfl, fun _ _ => rfl, fun _ _ => rfl⟩, fun _ _ _ => rfl, fun _ _ _ _ => rfl⟩
  | .ite t a b, e, h => by
    obtain ⟨t', a', b', pos, rfl, h⟩ := ofIte h
    obtain ⟨h1, h⟩ := and2 h
    obtain ⟨h2, h3⟩ := and2 h
    exact ⟨sim_ite (simE F t h1).tr (simE F a h2).ev (simE F b h3).ev, simB_ite (simE F t h1).tr (simE F a h2).tr (simE F b h3).tr, ⟨fun _ _ => rfl, fun _ _ _ => rfl, fun _ _ => rfl, fun _ _ => rfl⟩, fun _ _ _ => rfl, fun _ _ _ _ => rfl⟩
  | .cmp op a b, e, h => by
    obtain ⟨l, os, rs, pos, rfl, h⟩ := ofCmp h
    obtain ⟨o, rfl, h⟩ := one1_of h
    obtain ⟨r, rfl, h⟩ := one1_of h
    obtain ⟨h1, h2⟩ := and2 h
    obtain rfl := of_decide_eq_true h1
    obtain ⟨h3, h4⟩ := and2 h2
    exact ⟨sim_cmp F (noB h3) (simE F a (and2 h4).1).ev (simE F b (and2 h4).2).ev, simB_cmp F (noB h3) (simE F a (and2 h4).1).ev (simE F b (and2 h4).2).ev, ⟨fun _ _ => rfl, fun _ _ _ => rfl, fun _ _ => rfl, fun _ _ => rfl⟩, fun _ _ _ => rfl, fun _ _ _ _ => rfl⟩
  | .attr o k, e, h => by
    obtain ⟨e, nm, pos, rfl, h⟩ := ofAttr h
    obtain ⟨h1, h⟩ := and2 h
    have n := simE F o (and2 h).2
    exact nodeOf (sim_attr F (eq_of_beq h1) (n.ba (and2 h).1) n.ev) (fun _ => rfl) ⟨fun _ _ => rfl, fun _ _ _ => rfl, fun _ _ => rfl, fun _ _ => rfl⟩ (fun _ _ _ => rfl) (fun _ _ _ _ => rfl)
  | .sub o i, e, h => by
    obtain ⟨e, sl, pos, rfl, h⟩ := ofSub h
    have n := simE F i (and2 h).2
    exact nodeOf (sim_sub n.pl (simE F o (and2 h).1).ev n.ev) (fun _ => rfl) ⟨fun _ _ => rfl, fun _ _ _ => rfl, fun _ _ => rfl, fun _ _ => rfl⟩ (fun _ _ _ => rfl) (fun _ _ _ _ => rfl)
  | .slice o lo hi, e, h => by
    obtain ⟨e, l, u, p, pos, rfl, h⟩ := ofSS h
    obtain ⟨h1, h⟩ := and2 h
    exact nodeOf (sim_slice (simE F o h1).ev (part_go (and2 h).1 fun e h => (simE F lo h).ev) (part_go (and2 h).2 fun e h => (simE F hi h).ev)) (fun _ => rfl) ⟨fun _ _ => rfl, fun _ _ _ => rfl, fun _ _ => rfl, fun _ _ => rfl⟩ (fun _ _ _ => rfl) (fun _ _ _ _ => rfl)
  | .bi b es, e, h => by
    obtain ⟨id, np, l, pos, rfl, h⟩ := ofCN h
    obtain ⟨h1, h⟩ := and2 h
    exact nodeOf (sim_bi F (eq_of_beq h1) (and2 h).1 (simEs F es (and2 h).2)) (fun _ => rfl) ⟨fun _ _ => rfl, fun _ _ _ => rfl, fun _ _ => rfl, fun _ _ => rfl⟩ (fun h => (by cases l with | nil => exact absurd h Bool.false_ne_true | cons _ _ => exact fun _ _ => rfl)) (fun _ _ _ _ => rfl)
  | .bm m o es, e, h => by
    obtain ⟨e, nm, ap, l, pos, rfl, hc, hl, h⟩ := ofCA h
    obtain ⟨h1, h⟩ := and2 h
    obtain ⟨h2, h⟩ := and2 h
    have n := simE F o (and2 h).1
    exact nodeOf (sim_bm F (eq_of_beq h1) (n.ba hc) hl (of_decide_eq_true h2) n.ev (simEs F es (and2 h).2)) (fun _ => rfl) ⟨fun _ _ => rfl, fun _ _ _ => rfl, fun _ _ => rfl, fun _ _ => rfl⟩ (fun _ _ _ => rfl) (fun _ _ _ _ => rfl)
  | .call f es, e, h => by
    obtain ⟨id, np, l, pos, rfl, h⟩ := ofCN h
    obtain ⟨h1, h⟩ := and2 h
    obtain ⟨h2, h⟩ := and2 h
    exact nodeOf (sim_call F (eq_of_beq h1) h2 (and2 h).1 (simEs F es (and2 h).2)) (fun _ => rfl) ⟨fun _ _ => rfl, fun _ _ _ => rfl, fun _ _ => rfl, fun _ _ => rfl⟩ (fun h => (by cases l with | nil => exact absurd h Bool.false_ne_true | cons _ _ => exact fun _ _ => rfl)) (fun _ _ _ _ => rfl)
  | .new f es, e, h => by
    obtain ⟨id, np, l, pos, rfl, h⟩ := ofCN h
    obtain ⟨h1, h⟩ := and2 h
    obtain ⟨h2, h⟩ := and2 h
    exact nodeOf (sim_new F (eq_of_beq h1) h2 (and2 h).1 (simEs F es (and2 h).2)) (fun _ => rfl) ⟨fun _ _ => rfl, fun _ _ _ => rfl, fun _ _ => rfl, fun _ _ => rfl⟩ (fun h => (by cases l with | nil => exact absurd h Bool.false_ne_true | cons _ _ => exact fun _ _ => rfl)) (fun _ _ _ _ => rfl)
  | .meth o k es, e, h => by
    obtain ⟨e, nm, ap, l, pos, rfl, hc, hl, h⟩ := ofCA h
    obtain ⟨h1, h⟩ := and2 h
    obtain ⟨h2, h⟩ := and2 h
    have n := simE F o (and2 h).1
    exact nodeOf (sim_meth F (eq_of_beq h1) (n.ba hc) hl (of_decide_eq_true h2) n.ev (simEs F es (and2 h).2)) (fun _ => rfl) ⟨fun _ _ => rfl, fun _ _ _ => rfl, fun _ _ => rfl, fun _ _ => rfl⟩ (fun _ _ _ => rfl) (fun _ _ _ _ => rfl)
  | .list es, e, h => by
    obtain ⟨l, pos, rfl, h⟩ := ofList h
    exact nodeOf (sim_list (simEs F es h)) (fun _ => rfl) ⟨fun _ _ => rfl, fun _ _ _ => rfl, fun _ _ => rfl, fun _ _ => rfl⟩ (fun _ _ _ => rfl) (fun _ _ _ _ => rfl)
  | .tuple es, e, h => by
    obtain ⟨l, k, pos, rfl, h⟩ := ofTup h
    exact nodeOf (sim_tuple (simEs F es h)) (fun _ => rfl) ⟨fun _ _ => rfl, fun _ _ _ => rfl, fun _ _ => rfl, fun _ _ => rfl⟩ (fun h => absurd h Bool.false_ne_true) (fun h => absurd h.symm Bool.false_ne_true)
  | .dict, e, h => by
    obtain ⟨k, l, pos, rfl, h⟩ := ofDict h
    obtain ⟨h1, h2⟩ := and2 h
    obtain rfl := isEmpty_of h1
    obtain rfl := isEmpty_of h2
    exact nodeOf (sim_dict) (fun _ => rfl) ⟨fun _ _ => rfl, fun _ _ _ => rfl, fun _ _ => rfl, fun _ _ => rfl⟩ (fun _ _ _ => rfl) (fun _ _ _ _ => rfl)
  | .joinrev a b, e, h => by
    obtain ⟨e, nm, ap, args, pos, rfl, hc, hl, h⟩ := ofCA h
    obtain ⟨c, rfl, h'⟩ := one1_of h
    obtain ⟨id, np, l, p2, rfl, g⟩ := ofCN h'
    obtain ⟨x, rfl, g'⟩ := one1_of g
    obtain ⟨h1, h2⟩ := and2 g'
    obtain ⟨h3, h4⟩ := and2 h2
    obtain ⟨h5, h6⟩ := and2 h4
    have n := simE F a (and2 h6).1
    exact nodeOf (sim_joinrev F (eq_of_beq h1) (eq_of_beq h3) h5 (n.ba hc) hl (fun _ _ => rfl) n.ev (simE F b (and2 h6).2)) (fun _ => rfl) ⟨fun _ _ => rfl, fun _ _ _ => rfl, fun _ _ => rfl, fun _ _ => rfl⟩ (fun _ _ _ => rfl) (fun _ _ _ _ => rfl)
  | .comp f i p, e, h => by
    obtain ⟨t, tp, as, cp, rfl, h⟩ := ofCN h
    obtain ⟨ee, rfl, h⟩ := one1_of h
    obtain ⟨t1, h⟩ := and2 h
    obtain ⟨t2, h⟩ := and2 h
    obtain ⟨elt, gs, scope, pos, rfl, h⟩ := ofLC h
    obtain ⟨g, gp, args, ep, rfl, h⟩ := ofCN h
    obtain ⟨a, b, rfl, h⟩ := two2_of h
    obtain ⟨xa, xp, rfl, h⟩ := ofName h
    obtain ⟨ya, yp, rfl, h⟩ := ofName h
    obtain ⟨⟨tg, iter, ifs, asy⟩, rfl, h⟩ := one1_of h
    obtain ⟨h1, h⟩ := and2 h
    obtain ⟨h2, h⟩ := and2 h
    obtain ⟨x, px, e3, h⟩ := ofName h
    obtain ⟨h4, h⟩ := and2 h
    obtain ⟨h5, h⟩ := and2 h
    obtain ⟨h6, h⟩ := and2 h
    obtain ⟨h7, h⟩ := and2 h
    obtain ⟨h8, h9⟩ := and2 h
    obtain ⟨c1, c⟩ := and2 h8
    obtain ⟨c2, c⟩ := and2 c
    obtain ⟨c3, c⟩ := and2 c
    obtain ⟨c4, c⟩ := and2 c
    obtain ⟨c5, c⟩ := and2 c
    obtain ⟨c6, c⟩ := and2 c
    obtain rfl := isEmpty_of h1
    obtain rfl : asy = 0 := eq_of_beq h2
    obtain rfl : tg = .Name x px := e3
    obtain rfl := eq_of_beq h4
    exact nodeOf (sim_tcomp F (eq_of_beq t1) t2 (of_decide_eq_true c1) (of_decide_eq_true c2) (eq_of_beq h5) h6 (eq_of_beq h7) c3 c4 c5 c6 (of_decide_eq_true (and2 c).1) (simE F p h9)) (fun _ => rfl) ⟨fun _ _ => rfl, fun _ _ _ => rfl, fun _ _ => rfl, fun _ _ => rfl⟩ (fun _ _ _ => rfl) (fun _ _ _ _ => rfl)
theorem simEs {C : Fr} (F : FrOk C) : ∀ (ps : PEs) {l : List Expr}, chkEs C.cx C.env.scope C.nms ps l = true → SimEs C l ps
  | .nil, l, h => by obtain rfl := isEmpty_of h; exact .nil
  | .cons p ps, l, h => by
    cases l with
    | nil => contradiction
    | cons a b => exact .cons (simE F p (and2 h).1) (simEs F ps (and2 h).2)
end
theorem simSrc {C : Fr} (F : FrOk C) (p : Src) {e : Expr} (h : chkSrc C.cx C.env.scope C.nms p e = true) : SimSrc C e p := by
  cases p with
  | val p => exact src_val (simE F p h).ev
  | range p =>
    obtain ⟨id, np, args, pos, rfl, h⟩ := ofCN h
    obtain ⟨a, rfl, h⟩ := one1_of h
    obtain ⟨h1, h⟩ := and2 h
    exact src_range F (eq_of_beq h1) (and2 h).1 (simE F p (and2 h).2)
  | rev p =>
    obtain ⟨id, np, args, pos, rfl, h⟩ := ofCN h
    obtain ⟨a, rfl, h⟩ := one1_of h
    obtain ⟨h1, h⟩ := and2 h
    exact src_rev F (eq_of_beq h1) (and2 h).1 (simE F p (and2 h).2)
end Mine

namespace Mine

noncomputable def chkNames (sc : Scope) (nms : List Str) : List Nat → List Expr → Bool
  | [], l => l.isEmpty
  | i :: is, l => (match l with
    | e :: es => chkName sc nms i e && chkNames sc nms is es
    | [] => false)
noncomputable def isBadS : PS → Bool
  | .bad => true
  | _ => false
mutual
noncomputable def chkS (cx : Cx) (sc : Scope) (nms : List Str) : PS → Stmt → Bool
  | .bad, _ => true
  | .expr e, ee => isExprS (fun x _ => chkE cx sc nms e x) ee
  | .asg i e, ee => isAssign (fun ts x _ => one1 (fun t => chkName sc nms i t && chkE cx sc nms e x) ts) ee
  | .unpack is e, ee => isAssign (fun ts x _ => one1 (fun t => isTup (fun elts _ _ => chkNames sc nms is elts && (!(x.ctorIdx == 25) && chkE cx sc nms e x)) t) ts) ee
  | .setattr o k e, ee => isAssign (fun ts x _ => one1 (fun t => isAttr (fun ox n _ => cx.an[k]? == some n && (chkE cx sc nms o ox && chkE cx sc nms e x)) t) ts) ee
  | .setsub o i e, ee => isAssign (fun ts x _ => one1 (fun t => isSub (fun ox ix _ => chkE cx sc nms o ox && (chkE cx sc nms i ix && chkE cx sc nms e x)) t) ts) ee
  | .ite t a b, ee => isIf (fun tx ax bx _ => chkE cx sc nms t tx && (chkSs cx sc nms a ax && chkSs cx sc nms b bx)) ee
  | .wh t b, ee => isWhile (fun tx bx ox _ => ox.isEmpty && (chkE cx sc nms t tx && chkSs cx sc nms b bx)) ee
  | .for1 i s b, ee => isFor (fun t iter bx ox _ => ox.isEmpty && (chkName sc nms i t && (chkSrc cx sc nms s iter && chkSs cx sc nms b bx))) ee
  | .forI i j e b, ee => isFor (fun t iter bx ox _ => ox.isEmpty && (isTup (fun elts _ _ => chkNames sc nms [i, j] elts) t && (isCA (fun o n args => n == ("items" : Str) && (args.isEmpty && chkE cx sc nms e o)) iter && chkSs cx sc nms b bx))) ee
  | .brk, ee => isBrk ee
  | .ret e, ee => isRet (fun x _ => match x with
    | some x => chkE cx sc nms e x
    | none => false) ee
noncomputable def chkSs (cx : Cx) (sc : Scope) (nms : List Str) : PSs → List Stmt → Bool
  | .nil, l => l.isEmpty
  | .cons p ps, l => (match l with
    | st :: sts => chkS cx sc nms p st && (isBadS p || chkSs cx sc nms ps sts)
    | [] => false)
end

section
variable {C : Fr} {A : Around} {H H' H'' : AH} {s s' s'' : Shared} {h h' h'' : Heap} {ρ : Rho}
theorem stores_sound (F : FrOk C) : ∀ (is : List Nat) {elts : List Expr}, chkNames C.env.scope C.nms is elts = true → ((assignEach elts C.env).findIdx? (·.1) = none ∧ (assignEach elts C.env).length = is.length) ∧
    ∀ {A : Around} {s : Shared} {ρ : Rho} {H : AH} {xs : List V} {vs : List Value} {Q : Unit → Shared → Prop}, At C A s H ρ → Reps s.heap xs vs → xs.length = is.length →
      (∀ s', Stored C A s H (setSlots ρ is xs) s' → Q () s') → wpAny C.M A (assignInOrder ((assignEach elts C.env).map (·.2)) vs) Q NoE s
  | [], elts, h => by
    obtain rfl := isEmpty_of h
    refine ⟨⟨rfl, rfl⟩, fun G r hx k => ?_⟩
    obtain rfl := List.length_eq_zero_iff.mp hx
    obtain rfl := r.inv
    exact wpAny_pure (k _ ⟨G, fun _ _ _ e => e⟩)
  | i :: is, elts, h => by
    cases elts with
    | nil => contradiction
    | cons t ts =>
      obtain ⟨h1, h2⟩ := and2 h
      obtain ⟨⟨a1, a2⟩, a3⟩ := stores_sound F is h2
      rw [each_name h1]
      refine ⟨⟨by rw [List.findIdx?_cons, a1]; rfl, congrArg (· + 1) a2⟩, fun G r hx k => ?_⟩
      rename_i xs vs _
      cases xs with
      | nil => contradiction
      | cons x xs =>
        obtain ⟨v, vs, rfl, r1, rs⟩ := r.inv
        refine wpAny_bind (wpAny_holding (assign_name F G h1 r1 fun s' S' => ?_))
        exact a3 S'.1 (Reps.mono (S'.ext.tup G) rs) (Nat.succ.inj hx) fun s'' S'' => k s'' ⟨S''.1, fun b o w e => S''.2 b o w (S'.2 b o w e)⟩

noncomputable abbrev ContS (C : Fr) (A : Around) (s : Shared) (H : AH) (R : FL → Rho → AH → Prop) (Z : Flow → Shared → Prop) : Prop :=
  ∀ f s' fl ρ' H', FlowRel s'.heap fl f → At C A s' H' ρ' → ExtS C H s.heap H' s'.heap → R fl ρ' H' → Z f s'
noncomputable def SimS (C : Fr) (st : Stmt) (p : PS) : Prop := ∀ {A s H ρ R Z}, At C A s H ρ → wpS C.cx C.n p ρ H R → ContS C A s H R Z → wpAny C.M A (exec st C.env) Z NoE s
noncomputable def SimSs (C : Fr) (sts : List Stmt) (p : PSs) : Prop := ∀ {A s H ρ R Z}, At C A s H ρ → wpSs C.cx C.n p ρ H R → ContS C A s H R Z → wpAny C.M A (execs sts C.env) Z NoE s
theorem ContS.shift {R : FL → Rho → AH → Prop} {Z : Flow → Shared → Prop} (k : ContS C A s H R Z) (E : ExtS C H s.heap H' s'.heap) : ContS C A s' H' R Z := fun f s₁ fl ρ' H₁ r G x q => k f s₁ fl ρ' H₁ r G (E.trans x) q

theorem simS_expr {e : Expr} {p : PE} {pos : Pos} (F : FrOk C) (he : Node C e p) : SimS C (.Expr e pos) (.expr p) := fun G w k =>
  wpAny_Expr_any (he.ev G w fun v s₁ x H₁ G₁ E₁ r q => k _ _ .next _ _ rfl G₁ E₁.st q) (by unfold interactive; rw [F.kind]; rfl) (he.pl.swap _ _ _)
theorem simS_asg {i : Nat} {t e : Expr} {p : PE} {pos : Pos} (F : FrOk C) (h : chkName C.env.scope C.nms i t = true) (he : Node C e p) : SimS C (.Assign [t] e pos) (.asg i p) := fun G w k => by
  obtain ⟨id, np, rfl, h⟩ := ofName h
  exact wpAny_Assign_Name (he.ev G w fun v s₁ x H₁ G₁ E₁ r q => store_local F G₁ (eq_of_beq (and2 h).1) (and2 h).2 r fun s' S' => k _ _ .next _ _ rfl S'.1 (E₁.st.trans S'.ext) q) (he.pl.swap _ _ _)
theorem simS_unpack {is : List Nat} {elts : List Expr} {x1 : Nat} {e : Expr} {p : PE} {np pos : Pos} (F : FrOk C) (hn : chkNames C.env.scope C.nms is elts = true) (hb : (e.ctorIdx == 25) = false) (he : Node C e p) :
    SimS C (.Assign [.Tuple elts x1 np] e pos) (.unpack is p) := fun G w k => by
  refine wpAny_Assign_stores (he.ev G w fun v s₁ x H₁ G₁ E₁ r q => ?_) (show swapsWith e (some (.Tuple elts x1 np)) pos.line C.env = pure false from he.pl.swap _ _ _) (he.sw hb _ _ _)
  show wpAny _ _ (assign (.Tuple elts x1 np) C.env v) _ _ _
  obtain ⟨xs, rfl, hx, q⟩ := q
  obtain ⟨a, vs, m, rfl, e, rs⟩ := r.inv
  obtain ⟨⟨a1, a2⟩, a3⟩ := stores_sound F is hn
  refine wpAny_assign_Tuple G₁.rm.handled (items := vs.toArray) ⟨_, e, rfl, m, rfl⟩ (by rw [a2, List.size_toArray, rs.length]; exact hx.symm) a1 fun h' he => ?_
  have kk : ∀ b o, s₁.heap.get? b = some o → h'.get? b = some o := fun b o q => he b o (Nat.ne_of_lt (Heap.lt_size q)) q
  have E' : Ext H₁ s₁.heap H₁ h' := Ext.grow kk
  exact a3 (G₁.next (s' := { s₁ with heap := h' }) (G₁.st.grow kk s₁.toks) E') (Reps.mono (fun b vs n q => kk _ _ q) rs) hx fun s' S' => k _ _ .next _ _ rfl S'.1 ((E₁.trans E').st.trans S'.ext) q
theorem simS_setattr {m : Nat} {nm : Str} {o e : Expr} {po p : PE} {np pos : Pos} (F : FrOk C) (hk : C.cx.an[m]? = some nm) (ho : SimE C o po) (he : Node C e p) : SimS C (.Assign [.Attribute o nm np] e pos) (.setattr po m p) := fun G w k =>
  plainObj_wpAny_Assign_Attribute (he.ev G w fun v s₁ x H₁ G₁ E₁ r q => ho G₁ q fun ov s₂ y H₂ G₂ E₂ r₂ q₂ =>
    attr_set F.ok G₂.st r₂ (r.ext G₁.st E₂) hk q₂ fun H₃ s₃ q₃ S₃ E₃ => k _ _ .next _ _ rfl (G₂.next S₃ E₃) ((E₁.trans E₂).trans E₃).st q₃) (he.pl.swap _ _ _)
theorem simS_setsub {o i e : Expr} {po pi p : PE} {np pos : Pos} (ho : SimE C o po) (hi : SimE C i pi) (he : Node C e p) : SimS C (.Assign [.Subscript o i np] e pos) (.setsub po pi p) := fun G w k =>
  PySem.wpAny_Assign_Subscript (he.ev G w fun v s₁ x H₁ G₁ E₁ r q => ho G₁ q fun ov s₂ y H₂ G₂ E₂ r₂ q₂ => hi G₂ q₂ fun iv s₃ z H₃ G₃ E₃ r₃ q₃ =>
    setsubW_sound G₃.u100 G₃.st (r₂.ext G₂.st E₃) r₃ ((r.ext G₁.st E₂).ext G₂.st E₃) q₃ fun H₄ s₄ q₄ S₄ E₄ => k _ _ .next _ _ rfl (G₃.next S₄ E₄) (((E₁.trans E₂).trans E₃).trans E₄).st q₄) (he.pl.swap _ _ _)
theorem simS_ite {t : Expr} {a b : List Stmt} {pt : PE} {pa pb : PSs} {pos : Pos} (ht : SimB C t pt) (ha : SimSs C a pa) (hb : SimSs C b pb) : SimS C (.If t a b pos) (.ite pt pa pb) := fun {A s H ρ R Z} G w k =>
  wpAny_If (ht (W := fun x H₁ t => if t = true then wpSs C.cx C.n pa ρ H₁ R else wpSs C.cx C.n pb ρ H₁ R) G w fun t x s₁ H₁ G₁ E₁ q _ => match t, q with
    | true, q => ha G₁ q (k.shift E₁.st)
    | false, q => hb G₁ q (k.shift E₁.st))
theorem simS_ret {e : Expr} {p : PE} {pos : Pos} (he : SimE C e p) : SimS C (.Return (some e) pos) (.ret p) := fun G w k =>
  wpAny_Return_some (he G w fun v s₁ x H₁ G₁ E₁ r q => k _ _ (.ret x) _ _ ⟨v, rfl, r⟩ G₁ E₁.st q)
theorem simS_brk {pos : Pos} : SimS C (.Break pos) .brk := fun G w k => wpAny_Break (k _ _ .brk _ _ rfl G (ExtS.refl _ _) w)
theorem simSs_nil : SimSs C [] .nil := fun G w k => wpAny_execs_nil (k _ _ .next _ _ rfl G (ExtS.refl _ _) w)
theorem simSs_cons {st : Stmt} {sts : List Stmt} {p : PS} {ps : PSs} (h1 : SimS C st p) (h2 : SimSs C sts ps) : SimSs C (st :: sts) (.cons p ps) := fun G w k =>
  wpAny_execs_cons (h1 G w fun f s₁ fl ρ' H' fr G' E' q => by
    cases fl with
    | next => obtain rfl := fr; exact h2 G' q (k.shift E')
    | brk => obtain rfl := fr; exact k _ _ .brk _ _ rfl G' E' q
    | ret v => obtain ⟨x, rfl, r⟩ := fr; exact k _ _ (.ret v) _ _ ⟨x, rfl, r⟩ G' E' q)
theorem simS_wh {t : Expr} {b : List Stmt} {pt : PE} {pb : PSs} {pos : Pos} (ht : SimB C t pt) (hb : SimSs C b pb) : SimS C (.While t b [] pos) (.wh pt pb) := fun {A s H ρ R Z} G w k => by
  obtain ⟨j, w⟩ := w
  refine wpAny_While (codeAny_whileLoop (fun m s' => ∃ ρ' H', At C A s' H' ρ' ∧ ExtS C H s.heap H' s'.heap ∧
    whC (fun ρ H Q => wpE C.cx C.n pt ρ H fun x H₁ => truW x H₁ fun t => Q t H₁) (fun ρ H R => wpSs C.cx C.n pb ρ H R) m ρ' H' R) (fun m s' I => ?_) j ⟨ρ, H, G, ExtS.refl _ _, w⟩)
  obtain ⟨ρ', H', G', E', w'⟩ := I
  cases m with
  | zero => exact w'.elim
  | succ m =>
    refine noE (ht (W := fun x H₁ t => ite (t = true) _ _) G' w' fun t x s₁ H₁ G₁ E₁ q _ => ?_)
    cases t with
    | false => exact wpAny_execs_nil (k _ _ .next _ _ rfl G₁ (E'.trans E₁.st) q)
    | true =>
      refine noE (hb G₁ q fun f s₂ fl ρ₂ H₂ fr G₂ E₂ q => ?_)
      have E3 := (E'.trans E₁.st).trans E₂
      cases fl with
      | next => obtain rfl := fr; exact ⟨m, Nat.lt_succ_self _, ρ₂, H₂, G₂, E3, q⟩
      | brk => obtain rfl := fr; exact k _ _ .next _ _ rfl G₂ E3 q
      | ret v => obtain ⟨x, rfl, r⟩ := fr; exact k _ _ (.ret v) _ _ ⟨x, rfl, r⟩ G₂ E3 q
theorem simS_for {i : Nat} {t iter : Expr} {body : List Stmt} {ps : Src} {pb : PSs} {pos : Pos} (F : FrOk C) (ht : chkName C.env.scope C.nms i t = true) (hf : ∀ env x, foldedSetIterable iter env x = pure x) (hs : SimSrc C iter ps) (hB : SimSs C body pb) :
    SimS C (.For t iter body [] pos) (.for1 i ps pb) := fun {A s H ρ R Z} G w k => by
  refine wpAny_For (hs G w fun it s₂ xs Gd H₁ s₁ w G₁ E₁ I => ?_) (hf _)
  obtain ⟨I, σ, rfl, ok, fI, hI, gI, h0, S₂, E₂⟩ := I
  have ne : C.env.locals ≠ I := fun z => by obtain ⟨o, e⟩ := G₁.live; rw [z] at e; exact nomatch e.symm.trans fI
  have fJ : ∀ b o, s.heap.get? b = some o → H b = none → b ≠ I := fun b o e q z => by have e1 := (E₁ b o e q).1; rw [z] at e1; exact nomatch e1.symm.trans fI
  refine codeAny_forLoop_any (fun m s' => ∃ j ρ' H', m = xs.length + 1 - j ∧ j ≤ xs.length ∧ At C A s' H' ρ' ∧ ExtS C H s.heap H' s'.heap ∧ σ j s'.heap ∧ H' I = none ∧
    forC (fun ρ H R => wpSs C.cx C.n pb ρ H R) (fun ρ x P => P (setSlot ρ i x)) Gd (xs.drop j) ρ' H' R) (fun m s' q => ?_) (xs.length + 1) ⟨0, ρ, H₁, rfl, Nat.zero_le _, G₁.next S₂ E₂, (E₁.trans E₂).st, h0, hI, w⟩
  obtain ⟨j, ρ', H', rfl, hj, G', E', hσ, hI', w'⟩ := q
  have nt := ok.live hσ
  by_cases hlt : j < xs.length
  · rw [List.drop_eq_getElem_cons hlt] at w'
    refine noE (ok.item G'.rm.handled G'.st w'.1 (List.getElem?_eq_getElem hlt) hσ fun v h₁ r hσ' hb tk => ?_)
    refine (show wpAny _ A (letOwnedTupleGo t (.ref I) v) _ _ _ from ?_)
    have G5 := G'.but hI' gI nt ne hb tk
    have E5 : ExtS C H s.heap H' h₁ := fun b o w e q => ⟨hb b o (fJ b o e q) (E' b o w e q).1, (E' b o w e q).2⟩
    have go : letOwnedTupleGo t (.ref I) v = pure () := by obtain ⟨id, p, rfl, _⟩ := ofName ht; rfl
    rw [go]
    refine wpAny_pure (noE (assign_name F G5 ht r fun s₆ S₆ => noE (hB S₆.1 w'.2 fun f s₇ fl ρ₇ H₇ fr G₇ E₇ q => ?_)))
    have E67 := S₆.ext.trans E₇
    have E57 := E5.trans E67
    have kI : ∀ o, h₁.get? I = some o → s₇.heap.get? I = some o ∧ H₇ I = none := fun o e => E67 I o ne.symm e hI'
    have nx := fun q => (⟨xs.length + 1 - (j + 1), Nat.sub_succ_lt_self _ _ (Nat.lt_succ_of_lt hlt), j + 1, ρ₇, H₇, rfl, hlt, G₇, E57, ok.frame hσ' (fun o e => (kI o e).1) (E67.tup G5), (ok.live hσ').elim fun o e => (kI o e.1).2, q⟩ : ∃ m', m' < xs.length + 1 - j ∧ ∃ j' ρ' H', m' = xs.length + 1 - j' ∧ j' ≤ xs.length ∧ At C A s₇ H' ρ' ∧ ExtS C H s.heap H' s₇.heap ∧ σ j' s₇.heap ∧ H' I = none ∧ forC (fun ρ H R => wpSs C.cx C.n pb ρ H R) (fun ρ x P => P (setSlot ρ i x)) Gd (xs.drop j') ρ' H' R)
    cases fl with
    | next => obtain rfl := fr; exact nx q
    | brk => obtain rfl := fr; exact k _ _ .next _ _ rfl G₇ E57 q
    | ret v => obtain ⟨x, rfl, r⟩ := fr; exact k _ _ (.ret v) _ _ ⟨x, rfl, r⟩ G₇ E57 q
  · obtain rfl := Nat.le_antisymm hj (Nat.not_lt.mp hlt)
    rw [List.drop_length] at w'
    refine noE (ok.done G'.rm.handled G'.st w'.1 hσ fun h₁ hb tk => wpAny_execs_nil (k _ _ .next _ _ rfl (G'.but hI' gI nt ne hb tk) (fun b o w e q => ⟨hb b o (fJ b o e q) (E' b o w e q).1, (E' b o w e q).2⟩) w'.2))
theorem St.freeze (S : St C.cx H s) {d : Addr} {ao ao' : AObj} (e : H d = some ao) (r : ObjRep C.cx s.heap d ao') : St C.cx (H.set d ao') s :=
  S.adopt (by
    cases q : C.cx.g0.get? d with
    | none => rfl
    | some o => exact nomatch (S.keep d o q).2.symm.trans e) r
theorem Ext.freeze (x : Ext H h H' h') {d : Addr} {ao ao' : AObj} (e : H d = some ao) : Ext H h (H'.set d ao') h' := fun b o q n =>
  ⟨(x b o q n).1, (AH.set_ne _ _ (some_ne e n).symm).trans (x b o q n).2⟩
theorem simS_forI {i j : Nat} {elts : List Expr} {x1 : Nat} {o : Expr} {nm : Str} {np ap ipos pos : Pos} {p : PE} {body : List Stmt} {pb : PSs} (F : FrOk C) (hn : chkNames C.env.scope C.nms [i, j] elts = true) (hnm : nm = ("items" : Str)) (hc : PlainB C o) (hline : (ap.endLine == ipos.line) = true)
    (ho : SimE C o p) (hB : SimSs C body pb) : SimS C (.For (.Tuple elts x1 np) (.Call (.Attribute o nm ap) [] [] ipos) body [] pos) (.forI i j p pb) := fun {A s H ρ R Z} G w k => by
  subst hnm
  refine wpAny_For (methCall_sound .nil hc hline (by decide) (ho G w fun ov s₁ x H₁ G₁ E₁ r₁ w₁ pl => ?_)) (fun _ => rfl)
  obtain ⟨d, es, rfl, hd, hk, w₁⟩ := w₁
  obtain rfl := r₁.inv
  obtain ⟨_, _, ed, _⟩ := G₁.st.objs d _ hd
  refine getMethod_builtin ⟨_, ed, rfl⟩ PySem.F.plainAttrs_dict PySem.F.slot_dict_items PySem.F.type_dict_items (fun b e => Value.ref.inj e ▸ ⟨_, ed, rfl⟩) ?_
  refine callWith_val (first := [.ref d]) rfl .nil G₁ (Q := fun vs H => vs = [] ∧ H = H₁) ⟨rfl, rfl⟩ fun vs s₂ xs H₂ G₂ E₂ rs q => ?_
  obtain ⟨rfl, rfl⟩ := q
  obtain rfl := rs.inv
  obtain ⟨ds, n, ed, rd, hlm, ndk⟩ := G₂.st.objs d _ hd
  replace w₁ := w₁ ds n
  obtain ⟨kvs, a1, b1, d1⟩ := ents_to (c := encI C.cx.prog C.cx.w) rd hk
  have at_ : ∀ h : Heap, h.get? d = some (dctObj ds n) → h.DictAt (encI C.cx.prog C.cx.w).knd d kvs n := fun h e => ⟨_, ds.toArray, e, ⟨rfl, rfl, rfl⟩, rfl, fun d hd => d1 d (List.mem_toArray.mp hd), b1, (kv_nodup (encI C.cx.prog C.cx.w).veq (kve _) a1).mp ndk⟩
  have hD := at_ _ ed
  refine call_meetsIn PySem.F.slot_dict_items hD.dictOf.typeIs PySem.F.entry_dict_items (PySem.F.args_dict_items_1 _) (meets_dict_items (encI C.cx.prog C.cx.w).knd d (G₂.st.notSys F.ok hd)) ⟨⟨_, hD.dictOf⟩, ?_⟩
  have eV : (s₂.heap.push ⟨.type "dict_items", none, .fields #[.ref d], #[]⟩).get? s₂.heap.objs.size = some ⟨.type "dict_items", none, .fields #[.ref d], #[]⟩ := Heap.get?_push_size _ rfl
  have o1 : ∀ b o, s₂.heap.get? b = some o → (s₂.heap.push ⟨.type "dict_items", none, .fields #[.ref d], #[]⟩).get? b = some o := fun b o e => Heap.get?_push_of_some _ e
  generalize s₂.heap.push ⟨.type "dict_items", none, .fields #[.ref d], #[]⟩ = h₁ at *
  refine wpAny_pyIter_items ⟨_, eV, rfl, rfl⟩ (at_ _ (o1 _ _ ed)) ?_
  dsimp only
  have fI := none_of o1 (get_size_none h₁)
  have eI : (h₁.push ⟨.type "dict_itemiterator", none, .fields #[.none, .bool false, .ref d, .int 0 0, .int kvs.length 0, .int n 0, .none, .none], #[]⟩).get? h₁.objs.size = some ⟨.type "dict_itemiterator", none, .fields #[.none, .bool false, .ref d, .int 0 0, .int kvs.length 0, .int n 0, .none, .none], #[]⟩ := Heap.get?_push_size _ rfl
  have old : ∀ b o, s₂.heap.get? b = some o → (h₁.push ⟨.type "dict_itemiterator", none, .fields #[.none, .bool false, .ref d, .int 0 0, .int kvs.length 0, .int n 0, .none, .none], #[]⟩).get? b = some o := fun b o e => Heap.get?_push_of_some _ (o1 b o e)
  generalize h₁.push ⟨.type "dict_itemiterator", none, .fields #[.none, .bool false, .ref d, .int 0 0, .int kvs.length 0, .int n 0, .none, .none], #[]⟩ = h₄ at *
  generalize h₁.objs.size = I at *
  have gI := G₂.st.g0_fresh fI
  have S₄ := (G₂.st.grow old s₂.toks).freeze (ao' := .fz ds n) hd (old _ _ ed)
  have E₄ : Ext H₂ s₂.heap (H₂.set d (.fz ds n)) h₄ := (Ext.grow old).freeze hd
  have ne : C.env.locals ≠ I := by obtain ⟨o, e⟩ := G₂.live; exact some_ne e fI
  refine codeAny_forLoop_any (fun m s' => ∃ k ρ' H', m = es.length + 1 - k ∧ k ≤ es.length ∧ At C A s' H' ρ' ∧ ExtS C H₂ s₂.heap H' s'.heap ∧ (∃ a b, IsItemIter s'.heap I d k kvs.length n a b) ∧ H' I = none ∧
    forD (fun ρ H R => wpSs C.cx C.n pb ρ H R) i j d (.fz ds n) (es.drop k) ρ' H' fun fl ρ' H' => R fl ρ' (H'.set d (.dict es))) (fun m s' q => ?_) (es.length + 1)
    ⟨0, ρ, _, rfl, Nat.zero_le _, G₂.next S₄ E₄, E₄.st, ⟨_, _, eI⟩, (AH.set_ne _ _ (some_ne ed fI).symm).trans (G₂.st.untracked fI), w₁⟩
  obtain ⟨k', ρ', H', rfl, hk', G', E', ⟨va, vb, hσ⟩, hI', w'⟩ := q
  have own : OwnObj s'.heap I := ⟨_, hσ, fun _ _ z => (nomatch congrArg Obj.data z), fun _ z => (nomatch z)⟩
  have low : ∀ b o, s₂.heap.get? b = some o → b ≠ I := fun b o e => some_ne e fI
  have aL := a1.length
  by_cases hlt : k' < es.length
  · rw [List.drop_eq_getElem_cons hlt] at w'
    obtain ⟨hf, w'⟩ := w'
    obtain ⟨⟨kk, kv⟩, ev, r1, r2, r3⟩ := a1.get (List.getElem?_eq_getElem hlt)
    refine noE (wpAny_pyNext_items_item hσ (at_ _ (G'.st.objs d _ hf)) ev fun key h₅ hkey hσ' ht hsz hb => ?_)
    have G5 := G'.but hI' gI own ne hb s'.toks
    have E5 : ExtS C H₂ s₂.heap H' h₅ := fun b o w e z => ⟨hb b o (low b o e) (E' b o w e z).1, (E' b o w e z).2⟩
    have own5 : OwnObj h₅ I := ⟨_, hσ', fun _ _ z => (nomatch congrArg Obj.data z), fun _ z => (nomatch z)⟩
    refine wpAny_letOwnedTupleGo_items hσ' fun h₆ hσ6 hs6 => ?_
    have G6 := G5.but hI' gI own5 ne hs6.extBut s'.toks
    have E6 : ExtS C H₂ s₂.heap H' h₆ := fun b o w e z => ⟨hs6.extBut b o (low b o e) (E5 b o w e z).1, (E5 b o w e z).2⟩
    have eT : h₆.get? s'.heap.objs.size = some (tupObj [key, kv] 0) := (hs6.2 _ (some_ne hσ (get_size_none _)).symm).trans ht
    obtain ⟨⟨x1, x2⟩, x3⟩ := stores_sound F [i, j] hn
    refine noE (wpAny_assign_Tuple G'.rm.handled (items := #[key, kv]) ⟨_, eT, rfl, _, rfl⟩ x2 x1 fun h₇ he => ?_)
    have kp : ∀ b o, h₆.get? b = some o → h₇.get? b = some o := fun b o q => he b o (Nat.ne_of_lt (Heap.lt_size q)) q
    have G7 := G6.next (s' := { s' with heap := h₇ }) (G6.st.grow kp s'.toks) (Ext.grow kp)
    have E7 := E6.trans (Ext.st (C := C) (Ext.grow (H := H') kp))
    refine x3 G7 (.cons (r1 ▸ (encI C.cx.prog C.cx.w).of_is r2 hkey) (.cons (r3.mono (E7.tup G₂)) .nil)) rfl fun s₈ S₈ => noE (hB S₈.1 w' fun f s₉ fl ρ₉ H₉ fr G₉ E₉ q => ?_)
    have E89 := S₈.ext.trans E₉
    obtain ⟨e9, n9⟩ := E89 I _ ne.symm (kp _ _ hσ6) hI'
    cases fl with
    | next => obtain rfl := fr; exact ⟨es.length + 1 - (k' + 1), Nat.sub_succ_lt_self _ _ (Nat.lt_succ_of_lt hlt), k' + 1, ρ₉, H₉, rfl, hlt, G₉, E7.trans E89, ⟨_, _, e9⟩, n9, q⟩
    | brk => exact q.elim
    | ret v => exact q.elim
  · obtain rfl := Nat.le_antisymm hk' (Nat.not_lt.mp hlt)
    rw [List.drop_length] at w'
    obtain ⟨hf, w'⟩ := w'
    refine noE (wpAny_pyNext_items_end G'.rm.handled hσ (at_ _ (G'.st.objs d _ hf)) (List.getElem?_eq_none (Nat.le_of_eq aL)) fun h₅ hb => wpAny_execs_nil ?_)
    have G5 := G'.but hI' gI own ne hb s'.toks
    have E5 : ExtS C H₂ s₂.heap H' h₅ := fun b o w e z => ⟨hb b o (low b o e) (E' b o w e z).1, (E' b o w e z).2⟩
    have S6 := G5.st.freeze (ao' := .dict es) hf ⟨ds, n, G5.st.objs d _ hf, rd.mono (E5.tup G₂), hlm, ndk⟩
    have X6 : Ext H' h₅ (H'.set d (.dict es)) h₅ := (Ext.refl _ _).freeze hf
    exact k _ _ .next _ _ rfl (G5.next (s' := { s' with heap := h₅ }) S6 X6) ((E₁.trans E₂).st.trans (E5.trans X6.st)) w'
end
end Mine

namespace Mine

theorem Node.fold {C : Fr} {e : Expr} {p : PE} (n : Node C e p) : ∀ env x, foldedSetIterable e env x = pure x := n.pl.fold
theorem srcFold {C : Fr} (F : FrOk C) (p : Src) {e : Expr} (h : chkSrc C.cx C.env.scope C.nms p e = true) : ∀ env x, foldedSetIterable e env x = pure x := by
  cases p with
  | val p => exact (simE F p h).fold
  | range p => obtain ⟨id, np, args, pos, rfl, h⟩ := ofCN h; exact fun _ _ => rfl
  | rev p => obtain ⟨id, np, args, pos, rfl, h⟩ := ofCN h; exact fun _ _ => rfl
mutual
theorem simS {C : Fr} (F : FrOk C) : ∀ (p : PS) {st : Stmt}, chkS C.cx C.env.scope C.nms p st = true → SimS C st p
  | .bad, st, h => fun G w k => w.elim
  | .expr e, st, h => by
    obtain ⟨x, pos, rfl, h⟩ := ofExprS h
    exact simS_expr F (simE F e h)
  | .asg i e, st, h => by
    obtain ⟨ts, x, pos, rfl, h1⟩ := ofAssign h
    obtain ⟨t, rfl, h2⟩ := one1_of h1
    exact simS_asg F (and2 h2).1 (simE F e (and2 h2).2)
  | .unpack is e, st, h => by
    obtain ⟨ts, x, pos, rfl, h1⟩ := ofAssign h
    obtain ⟨t, rfl, h2⟩ := one1_of h1
    obtain ⟨elts, x1, np, rfl, h3⟩ := ofTup h2
    obtain ⟨h4, h5⟩ := and2 h3
    exact simS_unpack F h4 (noB (and2 h5).1) (simE F e (and2 h5).2)
  | .setattr o k e, st, h => by
    obtain ⟨ts, x, pos, rfl, h1⟩ := ofAssign h
    obtain ⟨t, rfl, h2⟩ := one1_of h1
    obtain ⟨ox, nm, np, rfl, h3⟩ := ofAttr h2
    obtain ⟨h4, h5⟩ := and2 h3
    exact simS_setattr F (eq_of_beq h4) (simE F o (and2 h5).1).ev (simE F e (and2 h5).2)
  | .setsub o i e, st, h => by
    obtain ⟨ts, x, pos, rfl, h1⟩ := ofAssign h
    obtain ⟨t, rfl, h2⟩ := one1_of h1
    obtain ⟨ox, ix, np, rfl, h3⟩ := ofSub h2
    obtain ⟨h4, h5⟩ := and2 h3
    exact simS_setsub (simE F o h4).ev (simE F i (and2 h5).1).ev (simE F e (and2 h5).2)
  | .ite t a b, st, h => by
    obtain ⟨tx, ax, bx, pos, rfl, h1⟩ := ofIf h
    obtain ⟨h4, h5⟩ := and2 h1
    exact simS_ite (simE F t h4).tr (simSs F a (and2 h5).1) (simSs F b (and2 h5).2)
  | .wh t b, st, h => by
    obtain ⟨tx, bx, ox, pos, rfl, h1⟩ := ofWhile h
    obtain ⟨h2, h3⟩ := and2 h1
    obtain rfl := isEmpty_of h2
    exact simS_wh (simE F t (and2 h3).1).tr (simSs F b (and2 h3).2)
  | .for1 i s b, st, h => by
    obtain ⟨t, iter, bx, ox, pos, rfl, h1⟩ := ofFor h
    obtain ⟨h2, h3⟩ := and2 h1
    obtain rfl := isEmpty_of h2
    obtain ⟨h4, h5⟩ := and2 h3
    exact simS_for F h4 (srcFold F s (and2 h5).1) (simSrc F s (and2 h5).1) (simSs F b (and2 h5).2)
  | .forI i j e b, st, h => by
    obtain ⟨t, iter, bx, ox, pos, rfl, h1⟩ := ofFor h
    obtain ⟨h2, h3⟩ := and2 h1
    obtain rfl := isEmpty_of h2
    obtain ⟨h4, h5⟩ := and2 h3
    obtain ⟨elts, x1, np, rfl, h6⟩ := ofTup h4
    obtain ⟨h7, h8⟩ := and2 h5
    obtain ⟨o, nm, ap, l, ip, rfl, hc, hl, h9⟩ := ofCA h7
    obtain ⟨h10, h11⟩ := and2 h9
    obtain ⟨h12, h13⟩ := and2 h11
    obtain rfl := isEmpty_of h12
    have n := simE F e h13
    exact simS_forI F h6 (eq_of_beq h10) (n.ba hc) hl n.ev (simSs F b h8)
  | .brk, st, h => by
    obtain ⟨p, rfl⟩ := isBrk_eq h
    exact simS_brk
  | .ret e, st, h => by
    obtain ⟨x, pos, rfl, h1⟩ := ofRet h
    cases x with
    | none => contradiction
    | some x => exact simS_ret (simE F e h1).ev
theorem simSs {C : Fr} (F : FrOk C) : ∀ (p : PSs) {sts : List Stmt}, chkSs C.cx C.env.scope C.nms p sts = true → SimSs C sts p
  | .nil, sts, h => by
    obtain rfl := isEmpty_of h
    exact simSs_nil
  | .cons p ps, sts, h => by
    cases sts with
    | nil => contradiction
    | cons st sts =>
      obtain ⟨h1, h2⟩ := and2 h
      cases p with
      | bad => exact fun G w k => wpAny_execs_cons w.elim
      | _ => exact simSs_cons (simS F _ h1) (simSs F ps h2)
end
end Mine

namespace Mine

noncomputable def fdOf (K : Frag) (f : Addr) : FuncData := match K.lookup f with
  | some o => (match o.data with
    | .func fd => fd
    | _ => default)
  | none => default
noncomputable def bodyOf (fd : FuncData) : List Stmt := match fd.body with
  | .stmts b => b
  | _ => []
noncomputable def isDef (K : Frag) (f : Addr) : Bool := match K.lookup f with
  | some o => (match o.data with
    | .func fd => (match fd.body with
      | .stmts _ => true
      | _ => false)
    | _ => false)
  | none => false
theorem isDef_go {K : Frag} {f : Addr} (h : isDef K f = true) : ∃ o, K.lookup f = some o ∧ o.data = .func (fdOf K f) ∧ (fdOf K f).body = .stmts (bodyOf (fdOf K f)) := by
  unfold isDef at h
  unfold fdOf
  cases e : K.lookup f with
  | none => rw [e] at h; contradiction
  | some o =>
    rw [e] at h
    obtain ⟨oc, od, d, sl⟩ := o
    cases d with
    | func fd =>
      refine ⟨_, rfl, rfl, ?_⟩
      show fd.body = .stmts (bodyOf fd)
      unfold bodyOf
      replace h : (match fd.body with | .stmts _ => true | _ => false) = true := h
      cases q : fd.body with
      | stmts b => rfl
      | _ => rw [q] at h; contradiction
    | _ => contradiction
noncomputable def dfl : V → Value
  | .bool b => .bool b
  | _ => .none
noncomputable def isDfl : V → Bool
  | .bool _ => true
  | .none => true
  | _ => false
noncomputable def fnChk (cx : Cx) (f : Addr) (np : Nat) (nms : List Str) (dv : List V) (body : PSs) : Bool :=
  isDef cx.K f && (chkSs cx (fdOf cx.K f).scope nms body (bodyOf (fdOf cx.K f)) && (decide ((fdOf cx.K f).scope.kind = .function) && (!(fdOf cx.K f).scope.isCoroutine && (!(fdOf cx.K f).scope.isGenerator &&
    ((fdOf cx.K f).globals == mainGlobals && ((fdOf cx.K f).builtins == builtinsNs && (codeIn cx.K (fdOf cx.K f).code (fdOf cx.K f).qualname && (decide (np ≤ nms.length) && (decide nms.Nodup &&
      ((nms.take np).all (fun p => (fdOf cx.K f).scope.names.lookup p == some .local) && ((fdOf cx.K f).scope.names.all (fun p => !(p.2 == .cell)) && dv.all isDfl)))))))))))
noncomputable def bindP (K : Frag) (fd : FuncData) (as : List Str) (dl : List Value) : Nat → List Value → Prop
  | 0, vs => ∀ S, peek K S (bindArgs fd ⟨vs, []⟩) = some (as.zip (vs ++ dl))
  | k + 1, vs => ∀ v, bindP K fd as dl k (vs ++ [v])
noncomputable def fnBind (cx : Cx) (f : Addr) (np : Nat) (nms : List Str) (dv : List V) : Prop := bindP cx.K (fdOf cx.K f) (nms.take np) (dv.map dfl) (np - dv.length) []
structure Def (cx : Cx) (f np : Nat) (nms : List Str) (dv : List V) (b : PSs) : Prop where
  chk : fnChk cx f np nms dv b = true
  keep : keepIn cx.K (.ref f) = true
  bind : fnBind cx f np nms dv
theorem bindP_go {K : Frag} {fd : FuncData} {as : List Str} {dl : List Value} : ∀ (ws vs : List Value), bindP K fd as dl ws.length vs → ∀ S, peek K S (bindArgs fd ⟨vs ++ ws, []⟩) = some (as.zip (vs ++ ws ++ dl))
  | [], vs, h => by rw [List.append_nil]; exact h
  | w :: ws, vs, h => by have q := bindP_go ws (vs ++ [w]) (h w); rw [List.append_assoc] at q; exact q
theorem zip_lookup : ∀ {names : List Str} {vals : List Value} {i : Nat} {n : Str} {v : Value}, names.Nodup → names[i]? = some n → vals[i]? = some v → (names.zip vals).lookup n = some v
  | [], _, _, _, _, _, h, _ => nomatch h
  | _ :: _, [], _, _, _, _, _, h => nomatch h
  | a :: names, w :: vals, 0, n, v, nd, h1, h2 => by
    obtain rfl := Option.some.inj h1
    obtain rfl := Option.some.inj h2
    rw [List.zip_cons_cons, List.lookup_cons_self]
  | a :: names, w :: vals, i + 1, n, v, nd, h1, h2 => by
    rw [List.nodup_cons] at nd
    rw [List.zip_cons_cons, List.lookup_cons, beq_eq_false_iff_ne.mpr fun e : n = a => nd.1 (e ▸ List.mem_of_getElem? h1)]
    exact zip_lookup nd.2 h1 h2
theorem dfl_reps {h : Heap} : ∀ {dv : List V}, dv.all isDfl = true → Reps h dv (dv.map dfl)
  | [], _ => .nil
  | x :: dv, e => by
    rw [List.all_cons] at e
    refine .cons ?_ (dfl_reps (and2 e).2)
    cases x with
    | none => exact .none
    | bool b => exact .bool b
    | _ => exact absurd (and2 e).1 Bool.false_ne_true

noncomputable def valIs (a : V) (x : Value) : Bool := match a with
  | .none => (match x with
    | .none => true
    | _ => false)
  | .bool a => (match x with
    | .bool b => a == b
    | _ => false)
  | .int a => (match x with
    | .int b _ => decide (a = b)
    | _ => false)
  | .str a => (match x with
    | .str b _ => okS a && (b.cps.toList == a)
    | _ => false)
  | _ => false
theorem valIs_rep {v : V} {x : Value} {h : Heap} (e : valIs v x = true) : Rep h v x := by
  cases v with
  | none => cases x with
    | none => exact .none
    | _ => contradiction
  | bool a => cases x with
    | bool b => obtain rfl := eq_of_beq e; exact .bool _
    | _ => contradiction
  | int a => cases x with
    | int b t => obtain rfl := of_decide_eq_true e; exact .int _ _
    | _ => contradiction
  | str a => cases x with
    | str b t =>
      obtain ⟨h1, h2⟩ := and2 e
      obtain rfl := eq_of_beq h2
      exact .str _ t h1
    | _ => contradiction
  | _ => contradiction
noncomputable def valsIs : List V → List Value → Bool
  | [], l => l.isEmpty
  | v :: vs, l => (match l with
    | x :: xs => valIs v x && valsIs vs xs
    | [] => false)
theorem valsIs_reps {h : Heap} : ∀ {vs : List V} {xs : List Value}, valsIs vs xs = true → Reps h vs xs
  | [], _, e => by obtain rfl := isEmpty_of e; exact .nil
  | v :: vs, xs, e => by
    cases xs with
    | nil => contradiction
    | cons x xs => exact .cons (valIs_rep (and2 e).1) (valsIs_reps (and2 e).2)
noncomputable def rho0 (np nl : Nat) (dv args : List V) : Rho := (args ++ dv).map some ++ List.replicate (nl - np) none
theorem slot_map (l : List V) (k : Nat) (i : Nat) : slot (l.map some ++ List.replicate k none) i = l[i]? := by
  induction l generalizing i with
  | nil =>
    show slot (List.replicate k none) i = none
    induction k generalizing i with
    | zero => rfl
    | succ k ih => cases i with
      | zero => rfl
      | succ i => exact ih i
  | cons a l ih => cases i with
    | zero => rfl
    | succ i => exact ih i
noncomputable def doneW (Q : V → AH → Prop) : FL → Rho → AH → Prop := fun fl _ H' => match fl with
  | .ret v => Q v H'
  | .next => Q .none H'
  | _ => False
theorem callOk_def {cx : Cx} {n : Nat} {f : Addr} {np : Nat} {nms : List Str} {dv : List V} {body : PSs} {args : List V} {H : AH} {Q : V → AH → Prop} (ok : CxOk cx) (D : Def cx f np nms dv body) (h1 : args.length + dv.length ≤ np) (h2 : np ≤ args.length + dv.length)
    (w : wpSs cx n body (rho0 np nms.length dv args) H (doneW Q)) : CallOk cx (n + 1) f args H Q := by
  refine ⟨D.keep, fun A s vs rm S r => ?_⟩
  obtain ⟨c1, c⟩ := and2 D.chk
  obtain ⟨c2, c⟩ := and2 c
  obtain ⟨c3, c⟩ := and2 c
  obtain ⟨c4, c⟩ := and2 c
  obtain ⟨c5, c⟩ := and2 c
  obtain ⟨c6, c⟩ := and2 c
  obtain ⟨c7, c⟩ := and2 c
  obtain ⟨c8, c⟩ := and2 c
  obtain ⟨c9, c⟩ := and2 c
  obtain ⟨c10, c⟩ := and2 c
  obtain ⟨c11, c⟩ := and2 c
  obtain ⟨c12, c13⟩ := and2 c
  obtain ⟨o, hl, hd, hb⟩ := isDef_go c1
  have c3 := of_decide_eq_true c3
  have c9 := of_decide_eq_true c9
  have c10 := of_decide_eq_true c10
  have hv : args.length = vs.length := r.length.symm
  have X := S.inK ok
  have lt : (nms.take np).length = np := (List.length_take ..).trans (Nat.min_eq_left c9)
  have lv : (vs ++ dv.map dfl).length = np := by rw [List.length_append, List.length_map, ← hv]; exact Nat.le_antisymm h1 h2
  have bd : bindP cx.K (fdOf cx.K f) (nms.take np) (dv.map dfl) (np - dv.length) [] := D.bind
  rw [show np - dv.length = vs.length by omega] at bd
  have bd := bindP_go vs [] bd
  have nd : (nms.take np).Nodup := c10.sublist (List.take_sublist ..)
  have fst : ((nms.take np).zip (vs ++ dv.map dfl)).map (·.1) = nms.take np := List.map_fst_zip (Nat.le_of_eq (lt.trans lv.symm))
  have up := rm.units
  have dp := rm.depth
  refine codeAny_call_def (by unfold recursionLimit at *; omega) (X _ _ hl) hd (ok.nolimit.keeps fun b o e => (S.keep b o e).1) (codeRec_of X c8) hb (kp_binds X bd)
    (fun x hx q => absurd (List.all_eq_true.mp c12 x hx) (by rw [q]; decide)) (fun x hx => eq_of_beq (List.all_eq_true.mp c11 _ (fst ▸ List.mem_map_of_mem hx))) (fun h₀ ns kp => ?_) ((Bool.not_eq_true' _).mp c4) ((Bool.not_eq_true' _).mp c5) c3
  have E : Ext H s.heap H h₀ := Ext.grow kp
  have fr : ∀ b, s.heap.objs.size ≤ b → s.heap.get? b = none := fun b hb => by
    cases q : s.heap.get? b with
    | none => rfl
    | some o' => exact absurd (Heap.lt_size q) (Nat.not_lt.mpr hb)
  have F : FrOk ⟨cx, n, callEnv (fdOf cx.K f) s.heap.objs.size f, nms⟩ := ⟨ok, c3, eq_of_beq c6, eq_of_beq c7, S.g0_fresh (fr _ (Nat.le_refl _)), c10⟩
  have G : At ⟨cx, n, callEnv (fdOf cx.K f) s.heap.objs.size f, nms⟩ (A.deeper (callEnv (fdOf cx.K f) s.heap.objs.size f)) { s with heap := h₀, toks := s.toks + ((nms.take np).zip (vs ++ dv.map dfl)).length } H (rho0 np nms.length dv args) := by
    refine ⟨⟨?_, ?_, rm.handled⟩, S.grow kp _, ?_, S.fresh (Nat.le_refl _), _, ns, fun i x nm q1 q2 => ?_⟩
    · show A.depth + 1 + 2 * n + 20 ≤ recursionLimit; omega
    · show A.units + 3 + 8 * n + 200 ≤ cLine; omega
    · show (rho0 np nms.length dv args).length = nms.length
      unfold rho0
      rw [List.length_append, List.length_map, List.length_replicate, List.length_append]
      omega
    · obtain ⟨v, hv, rv⟩ := (Reps.grow kp (r.append (dfl_reps c13))).get ((slot_map ..).symm.trans q1)
      have hi : i < np := by have l := (List.getElem?_eq_some_iff.mp hv).1; rw [lv] at l; exact l
      have q3 := (List.getElem?_take_of_lt hi).trans q2
      refine ⟨v, .inl ⟨fun z => (nomatch (eq_of_beq (List.all_eq_true.mp c11 _ (List.mem_of_getElem? q3))).symm.trans z), ?_⟩, rv⟩
      exact (lookup_reverse_of_nodup _ (by rw [show (((nms.take np).zip ([] ++ vs ++ dv.map dfl)).map (·.1)) = nms.take np from fst]; exact nd) _).trans <| zip_lookup nd q3 hv
  refine noE (simSs F body c2 G w fun fl s' fl' ρ' H' fr' G' E' q => ?_)
  have X' : Ext H s.heap H' s'.heap := fun b o e nn => E' b o (fun z => by have l := Heap.lt_size e; rw [z] at l; exact absurd l (Nat.lt_irrefl _)) (kp b o e) nn
  cases fl' with
  | next => obtain rfl := fr'; exact ⟨_, rfl, _, H', G'.st, X', .none, q⟩
  | brk => exact q.elim
  | ret v => obtain ⟨x, rfl, r⟩ := fr'; exact ⟨_, rfl, _, H', G'.st, X', r, q⟩
structure DefC (cx : Cx) (f : Nat) (t c : Str) (b : PSs) : Prop where
  chk : (isDef cx.K f && (chkSs cx (fdOf cx.K f).scope [t, c] b (bodyOf (fdOf cx.K f)) && (decide ((fdOf cx.K f).scope.kind = .function) && (!(fdOf cx.K f).scope.isCoroutine && (!(fdOf cx.K f).scope.isGenerator &&
    ((fdOf cx.K f).globals == mainGlobals && ((fdOf cx.K f).builtins == builtinsNs && (codeIn cx.K (fdOf cx.K f).code (fdOf cx.K f).qualname && (decide (t ≠ c) && ((fdOf cx.K f).scope.names.lookup t == some .local && (fdOf cx.K f).scope.names.lookup c == some .cell)))))))))) = true
  keep : keepIn cx.K (.ref f) = true
  bind : fnBind cx f 2 [t, c] []
  clo : (fdOf cx.K f).closure = []
  cel : ∀ k, cellsFrom k (fdOf cx.K f).scope.names [] = [(c, k)]
theorem callOk_cell {cx : Cx} {n : Nat} {f : Addr} {t c : Str} {body : PSs} {a b : V} {H : AH} {Q : V → AH → Prop} (ok : CxOk cx) (D : DefC cx f t c body) (w : wpSs cx n body [some a, some b] H (doneW Q)) : CallOk cx (n + 1) f [a, b] H Q := by
  refine ⟨D.keep, fun A s vs rm S r => ?_⟩
  obtain ⟨va, _, rfl, ra, r⟩ := r.inv
  obtain ⟨vb, _, rfl, rb, r⟩ := r.inv
  obtain rfl := r.inv
  obtain ⟨c1, q⟩ := and2 D.chk
  obtain ⟨c2, q⟩ := and2 q
  obtain ⟨c3, q⟩ := and2 q
  obtain ⟨c4, q⟩ := and2 q
  obtain ⟨c5, q⟩ := and2 q
  obtain ⟨c6, q⟩ := and2 q
  obtain ⟨c7, q⟩ := and2 q
  obtain ⟨c8, q⟩ := and2 q
  obtain ⟨c9, q⟩ := and2 q
  obtain ⟨c10, c11⟩ := and2 q
  obtain ⟨o, hl, hd, hb⟩ := isDef_go c1
  have c3 := of_decide_eq_true c3
  have c9 := of_decide_eq_true c9
  have c10 := eq_of_beq c10
  have c11 := eq_of_beq c11
  have X := S.inK ok
  have bd := bindP_go [va, vb] [] D.bind
  have up := rm.units
  have dp := rm.depth
  refine codeAny_call_function (by unfold recursionLimit at *; omega) (X _ _ hl) hd ((Bool.not_eq_true' _).mp c4) ((Bool.not_eq_true' _).mp c5) hb (codeRec_of X c8) (kp_binds X bd _ _ _ _ ?_)
  rw [D.clo]
  refine wpAny_newFunctionEnv_cells c3 (fun x hx => ?_) fun env he s' x => ?_
  · rw [D.cel]
    rcases List.mem_cons.mp hx with rfl | hx
    · exact .inl c10
    · rw [List.mem_singleton.mp hx]; exact .inr ⟨c11, by rw [List.lookup_cons_self]; rfl⟩
  subst he
  refine ⟨(ok.nolimit.keeps fun b o e => (S.keep b o e).1).keeps x.toInCall.keep, codeAny_func ?_⟩
  change InCallC s (callEnvC (fdOf cx.K f) s.heap.objs.size f).locals (bindL (callEnvC (fdOf cx.K f) s.heap.objs.size f).kindOf [(t, va), (c, vb)] fun _ => none) (cellsFrom (s.heap.objs.size + 1) (fdOf cx.K f).scope.names []) (bindC (callEnvC (fdOf cx.K f) s.heap.objs.size f).kindOf [(t, va), (c, vb)] fun _ => none) s' at x
  have kt : (callEnvC (fdOf cx.K f) s.heap.objs.size f).kindOf t = some .local := c10
  have kc : (callEnvC (fdOf cx.K f) s.heap.objs.size f).kindOf c = some .cell := c11
  have nk : (callEnvC (fdOf cx.K f) s.heap.objs.size f).kindOf c ≠ some .local := fun z => (nomatch kc.symm.trans z)
  unfold bindL bindC bindL bindC bindL bindC at x
  rw [if_pos kt, if_neg nk, if_pos kt, if_neg nk, D.cel] at x
  obtain ⟨h', tk, rfl, kp⟩ := x.done
  have fr : s.heap.get? s.heap.objs.size = none := get_size_none _
  have fr1 : s.heap.get? (s.heap.objs.size + 1) = none := by
    cases z : s.heap.get? (s.heap.objs.size + 1) with
    | none => rfl
    | some o => exact absurd (Nat.lt_of_succ_lt (Heap.lt_size z)) (Nat.lt_irrefl _)
  have F : FrOk ⟨cx, n, callEnvC (fdOf cx.K f) s.heap.objs.size f, [t, c]⟩ := ⟨ok, c3, eq_of_beq c6, eq_of_beq c7, S.g0_fresh fr, List.nodup_cons.mpr ⟨fun z => c9 (List.mem_singleton.mp z), List.nodup_cons.mpr ⟨fun z => (nomatch z), List.nodup_nil⟩⟩⟩
  obtain ⟨oc, ec, dc⟩ := x.cell c (s.heap.objs.size + 1) List.lookup_cons_self
  have G : At ⟨cx, n, callEnvC (fdOf cx.K f) s.heap.objs.size f, [t, c]⟩ (A.deeper (callEnvC (fdOf cx.K f) s.heap.objs.size f)) { s with heap := h', toks := tk } H [some a, some b] := by
    refine ⟨⟨?_, ?_, rm.handled⟩, S.grow kp tk, rfl, S.untracked fr, _, x.toInCall.ns, fun i y nm q1 q2 => ?_⟩
    · show A.depth + 1 + 2 * n + 20 ≤ recursionLimit; omega
    · show A.units + 3 + 8 * n + 200 ≤ cLine; omega
    · match i, q1, q2 with
      | 0, q1, q2 =>
        obtain rfl := Option.some.inj q1
        obtain rfl := Option.some.inj q2
        exact ⟨va, .inl ⟨fun z => (nomatch kt.symm.trans z), if_pos rfl⟩, ra.mono fun b vs n e => kp _ _ e⟩
      | 1, q1, q2 =>
        obtain rfl := Option.some.inj q1
        obtain rfl := Option.some.inj q2
        refine ⟨vb, .inr ⟨kc, s.heap.objs.size + 1, oc, ?_, ec, ?_, S.untracked fr1, Nat.succ_ne_self _⟩, rb.mono fun b vs n e => kp _ _ e⟩
        · show (cellsFrom (s.heap.objs.size + 1) (fdOf cx.K f).scope.names []).lookup c = _
          rw [D.cel]; exact List.lookup_cons_self
        · rw [dc, if_pos rfl]
  refine noE (simSs F body c2 G w fun fl s' fl' ρ' H' fr' G' E' q => ?_)
  have X' : Ext H s.heap H' s'.heap := fun b o e nn => E' b o (fun z => by have l := Heap.lt_size e; rw [z] at l; exact absurd l (Nat.lt_irrefl _)) (kp b o e) nn
  cases fl' with
  | next => obtain rfl := fr'; exact ⟨_, rfl, _, H', G'.st, X', .none, q⟩
  | brk => exact q.elim
  | ret v => obtain ⟨x, rfl, r⟩ := fr'; exact ⟨_, rfl, _, H', G'.st, X', r, q⟩
end Mine

namespace Mine

theorem AH.set_eq {H : AH} {a : Addr} {o : AObj} (h : H a = some o) : H.set a o = H := by
  funext b
  unfold AH.set
  split
  · rename_i e; subst e; exact h.symm
  · rfl
theorem AH.set_set (H : AH) (a : Addr) (o o' : AObj) : (H.set a o).set a o' = H.set a o' := by
  funext b
  unfold AH.set
  split <;> rfl
noncomputable def blk (cx : Cx) (n : Nat) (b : PSs) : Rho → AH → (FL → Rho → AH → Prop) → Prop := fun ρ H R => wpSs cx n b ρ H R
noncomputable def seqK (cx : Cx) (n : Nat) (r : PSs) (R : FL → Rho → AH → Prop) : FL → Rho → AH → Prop := fun fl ρ' H' => match fl with
  | .next => wpSs cx n r ρ' H' R
  | .brk => R .brk ρ' H'
  | .ret v => R (.ret v) ρ' H'
noncomputable def st1 (i : Nat) : Rho → V → (Rho → Prop) → Prop := fun ρ x P => P (setSlot ρ i x)
section
variable {cx : Cx} {n : Nat} {ρ : Rho} {H : AH} {R : FL → Rho → AH → Prop} {Q : V → AH → Prop} {r : PSs} {B : Rho → AH → (FL → Rho → AH → Prop) → Prop} {st : Rho → V → (Rho → Prop) → Prop} {G : AH → Prop} {xs : List V} {v x : V} {QL : List V → AH → Prop}
theorem seqK_next : seqK cx n r R .next ρ H = wpSs cx n r ρ H R := rfl
theorem seqK_ret : seqK cx n r R (.ret v) ρ H = R (.ret v) ρ H := rfl
theorem Ss_nil : wpSs cx n .nil ρ H R = R .next ρ H := rfl
theorem Ss_cons {s : PS} : wpSs cx n (.cons s r) ρ H R = wpS cx n s ρ H (seqK cx n r R) := rfl
theorem S_expr {e : PE} : wpS cx n (.expr e) ρ H R = wpE cx n e ρ H fun _ H₁ => R .next ρ H₁ := rfl
theorem S_asg {i : Nat} {e : PE} : wpS cx n (.asg i e) ρ H R = wpE cx n e ρ H fun x H₁ => R .next (setSlot ρ i x) H₁ := rfl
theorem S_ite {t : PE} {a b : PSs} : wpS cx n (.ite t a b) ρ H R = wpE cx n t ρ H fun x H₁ => truW x H₁ fun t => if t = true then wpSs cx n a ρ H₁ R else wpSs cx n b ρ H₁ R := rfl
theorem S_for1 {i : Nat} {s : Src} {b : PSs} : wpS cx n (.for1 i s b) ρ H R = wpSrc cx n s ρ H fun xs G H₁ => forC (blk cx n b) (st1 i) G xs ρ H₁ R := rfl
theorem S_brk : wpS cx n .brk ρ H R = R .brk ρ H := rfl
theorem S_ret {e : PE} : wpS cx n (.ret e) ρ H R = wpE cx n e ρ H fun x H₁ => R (.ret x) ρ H₁ := rfl
theorem E_c {v : V} : wpE cx n (.c v) ρ H Q = Q v H := rfl
theorem E_x {i : Nat} : wpE cx n (.x i) ρ H Q = ∃ v, slot ρ i = some v ∧ Q v H := rfl
theorem E_xs {i : Nat} {v : V} (e : slot ρ i = some v) : wpE cx n (.x i) ρ H Q = Q v H := by rw [E_x, e]; simp
theorem E_bin {op : Operator} {a b : PE} : wpE cx n (.bin op a b) ρ H Q = wpE cx n a ρ H fun x H₁ => wpE cx n b ρ H₁ fun y H₂ => binW op x y H₂ Q := rfl
theorem E_neg {a : PE} : wpE cx n (.neg a) ρ H Q = wpE cx n a ρ H fun x H₁ => ∃ i, x = .int i ∧ Q (.int (-i)) H₁ := rfl
theorem E_bop {a : Bool} {es : PEs} : wpE cx n (.bop a es) ρ H Q = wpBop cx n a es ρ H Q := rfl
theorem B_one {a : Bool} {e : PE} : wpBop cx n a (.cons e .nil) ρ H Q = wpE cx n e ρ H Q := rfl
theorem B_more {a : Bool} {e e' : PE} {es : PEs} : wpBop cx n a (.cons e (.cons e' es)) ρ H Q = wpE cx n e ρ H fun x H₁ => truW x H₁ fun t => if t = a then wpBop cx n a (.cons e' es) ρ H₁ Q else Q x H₁ := rfl
theorem E_cmp {op : CmpOp} {a b : PE} : wpE cx n (.cmp op a b) ρ H Q = wpE cx n a ρ H fun x H₁ => wpE cx n b ρ H₁ fun y H₂ => cmpW op x y H₂ fun t => Q (.bool t) H₂ := rfl
theorem E_bi {b : BI} {es : PEs} : wpE cx n (.bi b es) ρ H Q = wpEs cx n es ρ H fun vs H₁ => biW b vs H₁ Q := rfl
theorem E_bm {m : BM} {o : PE} {es : PEs} : wpE cx n (.bm m o es) ρ H Q = wpE cx n o ρ H fun x H₁ => bmK m x H₁ ∧ wpEs cx n es ρ H₁ fun vs H₂ => bmW m x vs H₂ Q := rfl
theorem E_call {f : Nat} {es : PEs} : wpE cx n (.call f es) ρ H Q = wpEs cx n es ρ H fun vs H₁ => callW cx n (cx.gl f) vs H₁ Q := rfl
theorem Es_nil : wpEs cx n .nil ρ H QL = QL [] H := rfl
theorem Es_cons {e : PE} {es : PEs} : wpEs cx n (.cons e es) ρ H QL = wpE cx n e ρ H fun x H₁ => wpEs cx n es ρ H₁ fun xs H₂ => QL (x :: xs) H₂ := rfl
theorem slotE {P : V → Prop} : (∃ v', some v = some v' ∧ P v') = P v := by simp
end

noncomputable def Keep (H H' : AH) : Prop := ∀ b o, H b = some o → H' b = some o
theorem Keep.refl (H : AH) : Keep H H := fun _ _ e => e
theorem Keep.trans {H H' H'' : AH} (x : Keep H H') (y : Keep H' H'') : Keep H H'' := fun b o e => y b o (x b o e)
theorem Keep.fresh {H : AH} {a : Addr} (h : H a = none) (o : AObj) : Keep H (H.set a o) := fun b x e => by
  rw [AH.set_ne _ _ (some_ne e h)]; exact e
theorem ne_of_none {H : AH} {a b : Addr} {x : AObj} (h1 : H a = some x) (h2 : H b = none) : a ≠ b := some_ne h1 h2

noncomputable def attrAt (cx : Cx) (C : Addr) (k : Nat) : Bool := match cx.an[k]? with
  | some n => attrOk cx.K C n
  | none => false
theorem attrW_of {cx : Cx} {H : AH} {a C d k : Nat} {fs : List (Nat × V)} {x : V} {Q : V → AH → Prop} (h1 : H a = some (.inst C d)) (h2 : H d = some (.ns fs)) (ho : attrAt cx C k = true) (hl : lookN fs k = some x) (q : Q x H) : attrW cx (.ref a) k H Q := by
  unfold attrAt at ho
  split at ho
  · rename_i n hn
    exact ⟨C, d, fs, n, x, h1, h2, hn, ho, hl, q⟩
  · cases ho
theorem setattrW_of {cx : Cx} {H : AH} {a C d k : Nat} {fs : List (Nat × V)} {x : V} {Q : AH → Prop} (h1 : H a = some (.inst C d)) (h2 : H d = some (.ns fs)) (ho : attrAt cx C k = true) (hl : fs.length ≤ 100) (q : Q (H.set d (.ns (putN' fs k x)))) : setattrW cx (.ref a) k x H Q := by
  unfold attrAt at ho
  split at ho
  · rename_i n hn
    exact ⟨C, d, fs, n, h1, h2, hn, ho, hl, q⟩
  · cases ho
noncomputable def methAt (cx : Cx) (C : Addr) (k : Nat) : Option Addr := match cx.an[k]? with
  | some n => methIn cx.K C n
  | none => none
theorem methW_of {cx : Cx} {n : Nat} {H : AH} {a C d k f : Nat} {fs : List (Nat × V)} {P : Addr → Prop} (h1 : H a = some (.inst C d)) (h2 : H d = some (.ns fs)) (ho : methAt cx C k = some f) (hl : lookN fs k = none) (q : P f) : methW cx n (.ref a) k H P := by
  unfold methAt at ho
  split at ho
  · rename_i nm hn
    exact ⟨C, d, fs, nm, f, h1, h2, hn, ho, hl, q⟩
  · cases ho
end Mine

namespace Mine

theorem mg_non {K : Frag} {h : Heap} {mg : Str → Option Value} {n : Str} (X : K.In h) (G : h.Ns mainGlobals mg) (e : nsIn K mainGlobals n = some none) : mg n = none := by
  obtain ⟨o, es, ep, ho, hd, _, hf⟩ := G
  unfold nsIn at e
  split at e
  · rename_i c d es' n' sl q
    have := X _ _ q
    rw [ho] at this
    cases this
    cases hd
    split at e
    · cases e
    · rename_i en
      rw [← hf]
      unfold nsFind findBy
      rw [← Array.find?_toList, en]
      rfl
  · cases e

noncomputable def globRep (K : Frag) : V → Value → Bool
  | .ref a, .ref b => a == b
  | .tup ls, .ref a => (match K.lookup a with
    | some ⟨.type t, none, .seq items _, sl⟩ => t == "tuple" && sl.isEmpty && valsIs ls items.toList
    | _ => false)
  | v, x => valIs v x
theorem globRep_rep {K : Frag} {h : Heap} (X : K.In h) {v : V} {x : Value} (e : globRep K v x = true) : Rep h v x := by
  unfold globRep at e
  split at e
  · simp at e; subst e; exact .ref _
  · rename_i ls a
    split at e
    · rename_i t items n sl q
      simp only [Bool.and_eq_true, beq_iff_eq] at e
      obtain ⟨⟨e1, e2⟩, e3⟩ := e
      have := X _ _ q
      have hs : sl = #[] := by simpa using e2
      subst e1 hs
      exact .tup (vs := items.toList) (n := n) (by simpa using this) (valsIs_reps e3)
    · cases e
  · exact valIs_rep e
noncomputable def glChk (K : Frag) : List Str → List V → Bool
  | [], [] => true
  | x :: xs, v :: vs => (match nsIn K mainGlobals x with
    | some (some y) => globRep K v y
    | _ => false) && glChk K xs vs
  | _, _ => false
theorem glChk_at {K : Frag} : ∀ {gn : List Str} {gl : List V}, glChk K gn gl = true → ∀ i x, gn[i]? = some x → ∃ y, nsIn K mainGlobals x = some (some y) ∧ globRep K (gl.getD i .none) y = true
  | [], _, _, i, x, h => by simp at h
  | y :: gn, [], e, i, x, h => by unfold glChk at e; cases e
  | y :: gn, v :: gl, e, i, x, h => by
    unfold glChk at e
    rw [Bool.and_eq_true] at e
    obtain ⟨e1, e2⟩ := e
    cases i with
    | zero =>
      simp at h; subst h
      split at e1
      · rename_i z q; exact ⟨z, q, e1⟩
      · cases e1
    | succ i => exact glChk_at e2 i x (by simpa using h)

noncomputable def bltNames : List Str := ["len", "str", "int", "chr", "ord", "abs", "divmod", "min", "tuple", "range", "reversed"]
noncomputable def bltChk (K : Frag) : Bool := bltNames.all fun x => nsIn K mainGlobals x == some none

theorem cxOk_of {prog : Program} {w : World} {g0 : Heap} {os : OsState} {K : Frag} {an gn : List Str} {gl : List V} {mg mb : Str → Option Value} (X : K.In g0) (g : g0.Ns mainGlobals mg) (b : g0.Ns builtinsNs mb) (hb : ∀ x : Str, x ≠ "__name__" → mb x = bootBuiltins x)
    (nl : g0.NoLimit) (sm : ∃ o, g0.get? sysModules = some o) (nd : an.Nodup) (hg : glChk K gn gl = true) (hbl : bltChk K = true) : CxOk ⟨prog, w, g0, os, K, an, gn, fun i => gl.getD i .none⟩ := by
  have blt : ∀ (x : Str) (v : Value), x ∈ bltNames → x ≠ "__name__" → bootBuiltins x = some v → GlobIs g0 x v := fun x v hx hn e => by
    have := List.all_eq_true.mp hbl x hx
    exact ⟨mg, mb, g, b, .inr ⟨mg_non X g (by simpa using this), (hb x hn).trans e⟩⟩
  refine ⟨X, sm, nl, nd, fun i x hx => ?_, fun bi => ?_, ?_, ?_⟩
  · obtain ⟨y, h1, h2⟩ := glChk_at hg i x hx
    exact ⟨y, ⟨mg, mb, g, b, .inl (mg_of X g h1)⟩, globRep_rep X h2⟩
  · cases bi <;> exact blt _ _ (by simp [bltNames, biName]) (by decide +kernel) (by kernel_rfl)
  · exact blt _ _ (by simp [bltNames]) (by decide +kernel) (by kernel_rfl)
  · exact blt _ _ (by simp [bltNames]) (by decide +kernel) (by kernel_rfl)

theorem ints_reps {h : Heap} {vs : List Value} {ns : List Int} (i : IntsAre vs ns) : Reps h (ns.map .int) vs := by
  induction i with
  | nil => exact .nil
  | cons n t _ ih => exact .cons (.int n t) ih

theorem law_good {cx : Cx} {n : Nat} {f sa : Addr} {s₁ : Shared} {cl : Str → Option Addr} {mean : ExcName → Option Value} {args : List WData} {c : ClaimW} (hn : n ≤ 300) (h0 : cx.g0 = s₁.heap) (h1 : cx.os0 = s₁.os) (hg : s₁.gens = #[])
    (hr : ∀ cls, c.raises args cls = false) (hp : c.post args (.bool true) args = true)
    (h : CallOk cx n f [.ref sa] (fun _ => none) fun v _ => v = .bool true) : codeAny (model cx.prog cx.w) callerA (.call (.ref f) ⟨[.ref sa], []⟩) (GoodWG c cl mean args s₁) s₁ := by
  have S : St cx (fun _ => none) s₁ := ⟨fun a o e => ⟨h0 ▸ e, rfl⟩, fun a ao e => (by cases e), hg, h1.symm⟩
  refine codeAny_mono (h.2 callerA s₁ [.ref sa] ⟨?_, ?_, rfl⟩ S (.cons (.ref _) .nil)) fun r s' q => ?_
  · show 1 + claimMargin + 2 * n + 20 ≤ recursionLimit
    unfold claimMargin recursionLimit; omega
  · show 4 + 8 * n + 200 ≤ cLine
    unfold cLine; omega
  · obtain ⟨v, rfl, x, H', S', E, r, rfl⟩ := q
    cases r
    refine ⟨.inl ⟨_, _, [], rfl, hr, ReadsW.bool true, hp, fun _ => ⟨List.nodup_nil, fun _ hm => (nomatch hm)⟩⟩, .of_keep fun b o e => (S'.keep b o (h0 ▸ e)).1, S'.os.trans h1, .of_eq S'.gens⟩
end Mine

namespace Mine.PJ
open Mine
noncomputable def n_fixed_atoms : List Str := []
noncomputable def b_fixed_atoms : PSs := (.cons (.ret (.tuple (.cons (.c (.str [91, 93])) (.cons (.c (.str [46])) (.cons (.c (.str [123, 125])) (.cons (.c (.str [45])) (.cons (.c (.str [43])) (.cons (.c (.str [42])) (.cons (.c (.str [47])) (.cons (.c (.str [44])) (.cons (.c (.str [124])) (.cons (.c (.str [59])) (.cons (.c (.str [45, 62])) (.cons (.c (.str [92, 43])) (.cons (.c (.str [58, 45])) (.cons (.c (.str [63, 45])) (.cons (.c (.str [45, 45, 62])) (.cons (.c (.str [33])) (.cons (.c (.str [116, 114, 117, 101])) (.cons (.c (.str [102, 97, 105, 108])) (.cons (.c (.str [102, 97, 108, 115, 101])) (.cons (.c (.str [99, 97, 108, 108])) (.cons (.c (.str [61])) (.cons (.c (.str [94])) (.cons (.c (.str [101, 114, 114, 111, 114])) (.cons (.c (.str [])) (.cons (.c (.str [101, 110, 100, 95, 111, 102, 95, 102, 105, 108, 101])) (.cons (.c (.str [115, 121, 115, 116, 101, 109])) (.cons (.c (.str [36, 86, 65, 82])) (.cons (.c (.str [99, 97, 116, 99, 104])) (.cons (.c (.str [116, 104, 114, 111, 119])) .nil)))))))))))))))))))))))))))))))
 .nil)
noncomputable def n_fixed_functors : List Str := []
noncomputable def b_fixed_functors : PSs := (.cons (.ret (.tuple (.cons (.tuple (.cons (.c (.str [46])) (.cons (.c (.int 2)) .nil))) (.cons (.tuple (.cons (.c (.str [44])) (.cons (.c (.int 2)) .nil))) (.cons (.tuple (.cons (.c (.str [59])) (.cons (.c (.int 2)) .nil))) (.cons (.tuple (.cons (.c (.str [45, 62])) (.cons (.c (.int 2)) .nil))) (.cons (.tuple (.cons (.c (.str [92, 43])) (.cons (.c (.int 1)) .nil))) (.cons (.tuple (.cons (.c (.str [58, 45])) (.cons (.c (.int 2)) .nil))) (.cons (.tuple (.cons (.c (.str [58, 45])) (.cons (.c (.int 1)) .nil))) (.cons (.tuple (.cons (.c (.str [63, 45])) (.cons (.c (.int 1)) .nil))) (.cons (.tuple (.cons (.c (.str [45, 45, 62])) (.cons (.c (.int 2)) .nil))) (.cons (.tuple (.cons (.c (.str [123, 125])) (.cons (.c (.int 1)) .nil))) (.cons (.tuple (.cons (.c (.str [61])) (.cons (.c (.int 2)) .nil))) (.cons (.tuple (.cons (.c (.str [94])) (.cons (.c (.int 2)) .nil))) (.cons (.tuple (.cons (.c (.str [45])) (.cons (.c (.int 1)) .nil))) (.cons (.tuple (.cons (.c (.str [45])) (.cons (.c (.int 2)) .nil))) (.cons (.tuple (.cons (.c (.str [43])) (.cons (.c (.int 2)) .nil))) (.cons (.tuple (.cons (.c (.str [47])) (.cons (.c (.int 2)) .nil))) (.cons (.tuple (.cons (.c (.str [101, 114, 114, 111, 114])) (.cons (.c (.int 2)) .nil))) (.cons (.tuple (.cons (.c (.str [36, 86, 65, 82])) (.cons (.c (.int 1)) .nil))) (.cons (.tuple (.cons (.c (.str [99, 97, 116, 99, 104])) (.cons (.c (.int 3)) .nil))) (.cons (.tuple (.cons (.c (.str [116, 104, 114, 111, 119])) (.cons (.c (.int 1)) .nil))) (.cons (.tuple (.cons (.c (.str [33])) (.cons (.c (.int 0)) .nil))) (.cons (.tuple (.cons (.c (.str [116, 114, 117, 101])) (.cons (.c (.int 0)) .nil))) (.cons (.tuple (.cons (.c (.str [102, 97, 105, 108])) (.cons (.c (.int 0)) .nil))) (.cons (.tuple (.cons (.c (.str [102, 97, 108, 115, 101])) (.cons (.c (.int 0)) .nil))) (.cons (.tuple (.cons (.c (.str [99, 97, 108, 108])) (.cons (.c (.int 1)) .nil))) (.cons (.tuple (.cons (.c (.str [99, 97, 108, 108])) (.cons (.c (.int 2)) .nil))) (.cons (.tuple (.cons (.c (.str [99, 97, 108, 108])) (.cons (.c (.int 3)) .nil))) (.cons (.tuple (.cons (.c (.str [99, 97, 108, 108])) (.cons (.c (.int 4)) .nil))) (.cons (.tuple (.cons (.c (.str [99, 97, 108, 108])) (.cons (.c (.int 5)) .nil))) (.cons (.tuple (.cons (.c (.str [99, 97, 108, 108])) (.cons (.c (.int 6)) .nil))) (.cons (.tuple (.cons (.c (.str [99, 97, 108, 108])) (.cons (.c (.int 7)) .nil))) (.cons (.tuple (.cons (.c (.str [99, 97, 108, 108])) (.cons (.c (.int 8)) .nil))) .nil))))))))))))))))))))))))))))))))))
 .nil)
noncomputable def n_Symbols___init__ : List Str := ["self", "text", "row"]
noncomputable def b_Symbols___init__ : PSs := (.cons (.setattr (.x 0) 5 (.list .nil))
 (.cons (.setattr (.x 0) 4 .dict)
 (.cons (.setattr (.x 0) 3 (.list .nil))
 (.cons (.setattr (.x 0) 2 .dict)
 (.cons (.for1 1 (.val (.call 1 .nil)) (.cons (.expr (.meth (.x 0) 1 (.cons (.x 1) .nil)))
 .nil))
 (.cons (.for1 2 (.val (.call 0 .nil)) (.cons (.expr (.meth (.x 0) 0 (.cons (.sub (.x 2) (.c (.int 0))) (.cons (.sub (.x 2) (.c (.int 1))) .nil))))
 .nil))
 .nil))))))
noncomputable def n_Symbols_atom : List Str := ["self", "text", "found", "number"]
noncomputable def b_Symbols_atom : PSs := (.cons (.asg 2 (.bm .get (.attr (.x 0) 4) (.cons (.x 1) (.cons (.neg (.c (.int 1))) .nil))))
 (.cons (.ite (.cmp .GtE (.x 2) (.c (.int 0))) (.cons (.ret (.x 2))
 .nil) .nil)
 (.cons (.asg 3 (.bi .len (.cons (.attr (.x 0) 5) .nil)))
 (.cons (.expr (.bm .append (.attr (.x 0) 5) (.cons (.x 1) .nil)))
 (.cons (.setsub (.attr (.x 0) 4) (.x 1) (.x 3))
 (.cons (.ret (.x 3))
 .nil))))))
noncomputable def n_Symbols_text : List Str := ["self", "number"]
noncomputable def b_Symbols_text : PSs := (.cons (.ret (.sub (.attr (.x 0) 5) (.x 1)))
 .nil)
noncomputable def n_Symbols_functor : List Str := ["self", "atom", "arity", "key", "found", "number"]
noncomputable def b_Symbols_functor : PSs := (.cons (.asg 3 (.tuple (.cons (.x 1) (.cons (.x 2) .nil))))
 (.cons (.asg 4 (.bm .get (.attr (.x 0) 2) (.cons (.x 3) (.cons (.neg (.c (.int 1))) .nil))))
 (.cons (.ite (.cmp .GtE (.x 4) (.c (.int 0))) (.cons (.ret (.x 4))
 .nil) .nil)
 (.cons (.asg 5 (.bi .len (.cons (.attr (.x 0) 3) .nil)))
 (.cons (.expr (.bm .append (.attr (.x 0) 3) (.cons (.x 3) .nil)))
 (.cons (.setsub (.attr (.x 0) 2) (.x 3) (.x 5))
 (.cons (.ret (.x 5))
 .nil)))))))
noncomputable def n_Symbols_func : List Str := ["self", "text", "arity"]
noncomputable def b_Symbols_func : PSs := (.cons (.ret (.meth (.x 0) 6 (.cons (.meth (.x 0) 1 (.cons (.x 1) .nil)) (.cons (.x 2) .nil))))
 .nil)
noncomputable def n_Symbols_name : List Str := ["self", "functor"]
noncomputable def b_Symbols_name : PSs := (.cons (.ret (.sub (.sub (.attr (.x 0) 3) (.x 1)) (.c (.int 0))))
 .nil)
noncomputable def n_Symbols_arity : List Str := ["self", "functor"]
noncomputable def b_Symbols_arity : PSs := (.cons (.ret (.sub (.sub (.attr (.x 0) 3) (.x 1)) (.c (.int 1))))
 .nil)
noncomputable def n_list_items : List Str := ["term", "items"]
noncomputable def b_list_items : PSs := (.cons (.asg 1 (.list .nil))
 (.cons (.wh (.bop true (.cons (.cmp .Eq (.sub (.x 0) (.c (.int 0))) (.c (.str [115]))) (.cons (.cmp .Eq (.sub (.x 0) (.c (.int 1))) (.g 2)) .nil))) (.cons (.expr (.bm .append (.x 1) (.cons (.sub (.sub (.x 0) (.c (.int 2))) (.c (.int 0))) .nil)))
 (.cons (.asg 0 (.sub (.sub (.x 0) (.c (.int 2))) (.c (.int 1))))
 .nil)))
 (.cons (.ret (.tuple (.cons (.x 1) (.cons (.x 0) .nil))))
 .nil)))
noncomputable def n_is_digit : List Str := ["code"]
noncomputable def b_is_digit : PSs := (.cons (.ret (.bop true (.cons (.cmp .LtE (.c (.int 48)) (.x 0)) (.cons (.cmp .LtE (.x 0) (.c (.int 57))) .nil))))
 .nil)
noncomputable def n_is_small : List Str := ["code"]
noncomputable def b_is_small : PSs := (.cons (.ret (.bop true (.cons (.cmp .LtE (.c (.int 97)) (.x 0)) (.cons (.cmp .LtE (.x 0) (.c (.int 122))) .nil))))
 .nil)
noncomputable def n_is_capital : List Str := ["code"]
noncomputable def b_is_capital : PSs := (.cons (.ret (.bop true (.cons (.cmp .LtE (.c (.int 65)) (.x 0)) (.cons (.cmp .LtE (.x 0) (.c (.int 90))) .nil))))
 .nil)
noncomputable def n_is_alnum : List Str := ["code"]
noncomputable def b_is_alnum : PSs := (.cons (.ret (.bop false (.cons (.call 5 (.cons (.x 0) .nil)) (.cons (.call 4 (.cons (.x 0) .nil)) (.cons (.call 3 (.cons (.x 0) .nil)) (.cons (.cmp .Eq (.x 0) (.c (.int 95))) .nil))))))
 .nil)
noncomputable def n_is_symbol : List Str := ["code"]
noncomputable def b_is_symbol : PSs := (.cons (.ret (.bop true (.cons (.cmp .LtE (.c (.int 0)) (.x 0)) (.cons (.cmp .Lt (.x 0) (.c (.int 128))) (.cons (.cmp .In (.bi .chr (.cons (.x 0) .nil)) (.c (.str [43, 45, 42, 47, 92, 94, 60, 62, 61, 126, 58, 46, 63, 64, 35, 38, 36]))) .nil)))))
 .nil)
noncomputable def n_number_text : List Str := ["value", "rest", "pieces", "piece"]
noncomputable def b_number_text : PSs := (.cons (.asg 1 (.bi .abs (.cons (.x 0) .nil)))
 (.cons (.asg 2 (.list .nil))
 (.cons (.wh (.cmp .GtE (.x 1) (.bin .Pow (.c (.int 10)) (.c (.int 18)))) (.cons (.unpack [1, 3] (.bi .divmod (.cons (.x 1) (.cons (.bin .Pow (.c (.int 10)) (.c (.int 18))) .nil))))
 (.cons (.expr (.bm .append (.x 2) (.cons (.bm .zfill (.bi .str (.cons (.x 3) .nil)) (.cons (.c (.int 18)) .nil)) .nil)))
 .nil)))
 (.cons (.expr (.bm .append (.x 2) (.cons (.bi .str (.cons (.x 1) .nil)) .nil)))
 (.cons (.ite (.cmp .Lt (.x 0) (.c (.int 0))) (.cons (.expr (.bm .append (.x 2) (.cons (.c (.str [45])) .nil)))
 .nil) .nil)
 (.cons (.ret (.joinrev (.c (.str [])) (.x 2)))
 .nil))))))
noncomputable def n_is_alnum_name : List Str := ["text", "char"]
noncomputable def b_is_alnum_name : PSs := (.cons (.ite (.bop false (.cons (.cmp .Eq (.x 0) (.c (.str []))) (.cons (.not (.call 5 (.cons (.bi .ord (.cons (.sub (.x 0) (.c (.int 0))) .nil)) .nil))) .nil))) (.cons (.ret (.c (.bool false)))
 .nil) .nil)
 (.cons (.for1 1 (.val (.x 0)) (.cons (.ite (.not (.call 6 (.cons (.bi .ord (.cons (.x 1) .nil)) .nil))) (.cons (.ret (.c (.bool false)))
 .nil) .nil)
 .nil))
 (.cons (.ret (.c (.bool true)))
 .nil)))
noncomputable def n_is_symbol_name : List Str := ["text", "char"]
noncomputable def b_is_symbol_name : PSs := (.cons (.ite (.cmp .Eq (.x 0) (.c (.str []))) (.cons (.ret (.c (.bool false)))
 .nil) .nil)
 (.cons (.for1 1 (.val (.x 0)) (.cons (.ite (.not (.call 7 (.cons (.bi .ord (.cons (.x 1) .nil)) .nil))) (.cons (.ret (.c (.bool false)))
 .nil) .nil)
 .nil))
 (.cons (.ret (.c (.bool true)))
 .nil)))
noncomputable def n_is_plain_name : List Str := ["text"]
noncomputable def b_is_plain_name : PSs := (.cons (.ite (.cmp .In (.x 0) (.tuple (.cons (.c (.str [91, 93])) (.cons (.c (.str [123, 125])) (.cons (.c (.str [33])) (.cons (.c (.str [59])) .nil)))))) (.cons (.ret (.c (.bool true)))
 .nil) .nil)
 (.cons (.ite (.call 9 (.cons (.x 0) .nil)) (.cons (.ret (.c (.bool true)))
 .nil) .nil)
 (.cons (.ret (.bop true (.cons (.call 8 (.cons (.x 0) .nil)) (.cons (.cmp .NotEq (.x 0) (.c (.str [46]))) (.cons (.not (.bm .startswith (.x 0) (.cons (.c (.str [47, 42])) .nil))) .nil)))))
 .nil)))
noncomputable def n_fixity : List Str := ["type_text"]
noncomputable def b_fixity : PSs := (.cons (.ite (.cmp .In (.x 0) (.g 12)) (.cons (.ret (.c (.str [112, 114, 101, 102, 105, 120])))
 .nil) .nil)
 (.cons (.ite (.cmp .In (.x 0) (.g 11)) (.cons (.ret (.c (.str [105, 110, 102, 105, 120])))
 .nil) .nil)
 (.cons (.ite (.cmp .In (.x 0) (.g 10)) (.cons (.ret (.c (.str [112, 111, 115, 116, 102, 105, 120])))
 .nil) .nil)
 (.cons (.ret (.c .none))
 .nil))))
noncomputable def n_bounds : List Str := ["priority", "type_text", "lower"]
noncomputable def b_bounds : PSs := (.cons (.asg 2 (.bin .Sub (.x 0) (.c (.int 1))))
 (.cons (.ite (.cmp .Eq (.x 1) (.c (.str [102, 120]))) (.cons (.ret (.tuple (.cons (.c (.int 0)) (.cons (.x 2) .nil))))
 .nil) .nil)
 (.cons (.ite (.cmp .Eq (.x 1) (.c (.str [102, 121]))) (.cons (.ret (.tuple (.cons (.c (.int 0)) (.cons (.x 0) .nil))))
 .nil) .nil)
 (.cons (.ite (.cmp .Eq (.x 1) (.c (.str [120, 102]))) (.cons (.ret (.tuple (.cons (.x 2) (.cons (.c (.int 0)) .nil))))
 .nil) .nil)
 (.cons (.ite (.cmp .Eq (.x 1) (.c (.str [121, 102]))) (.cons (.ret (.tuple (.cons (.x 0) (.cons (.c (.int 0)) .nil))))
 .nil) .nil)
 (.cons (.ite (.cmp .Eq (.x 1) (.c (.str [120, 102, 121]))) (.cons (.ret (.tuple (.cons (.x 2) (.cons (.x 0) .nil))))
 .nil) .nil)
 (.cons (.ite (.cmp .Eq (.x 1) (.c (.str [121, 102, 120]))) (.cons (.ret (.tuple (.cons (.x 0) (.cons (.x 2) .nil))))
 .nil) .nil)
 (.cons (.ret (.tuple (.cons (.x 2) (.cons (.x 2) .nil))))
 .nil))))))))
noncomputable def n_OperatorTable___init__ : List Str := ["self", "symbols", "standard", "priority", "type_text", "names", "name"]
noncomputable def b_OperatorTable___init__ : PSs := (.cons (.setattr (.x 0) 11 (.x 1))
 (.cons (.setattr (.x 0) 10 .dict)
 (.cons (.setattr (.x 0) 9 .dict)
 (.cons (.setattr (.x 0) 8 .dict)
 (.cons (.expr (.meth (.x 0) 7 (.cons (.g 15) (.cons (.c (.str [120, 102, 121])) (.cons (.g 14) .nil)))))
 (.cons (.ite (.x 2) (.cons .bad
 .nil) .nil)
 .nil))))))
noncomputable def n_OperatorTable_prefix : List Str := ["self", "a"]
noncomputable def b_OperatorTable_prefix : PSs := (.cons (.ret (.bm .get (.attr (.x 0) 10) (.cons (.x 1) .nil)))
 .nil)
noncomputable def n_OperatorTable_infix : List Str := ["self", "a"]
noncomputable def b_OperatorTable_infix : PSs := (.cons (.ret (.bm .get (.attr (.x 0) 9) (.cons (.x 1) .nil)))
 .nil)
noncomputable def n_OperatorTable_postfix : List Str := ["self", "a"]
noncomputable def b_OperatorTable_postfix : PSs := (.cons (.ret (.bm .get (.attr (.x 0) 8) (.cons (.x 1) .nil)))
 .nil)
noncomputable def n_OperatorTable_is_operator : List Str := ["self", "a"]
noncomputable def b_OperatorTable_is_operator : PSs := (.cons (.ret (.bop false (.cons (.cmp .In (.x 1) (.attr (.x 0) 10)) (.cons (.cmp .In (.x 1) (.attr (.x 0) 9)) (.cons (.cmp .In (.x 1) (.attr (.x 0) 8)) .nil)))))
 .nil)
noncomputable def n_OperatorTable_table_of : List Str := ["self", "type_text", "kind"]
noncomputable def b_OperatorTable_table_of : PSs := (.cons (.asg 2 (.call 16 (.cons (.x 1) .nil)))
 (.cons (.ite (.cmp .Eq (.x 2) (.c (.str [112, 114, 101, 102, 105, 120]))) (.cons (.ret (.attr (.x 0) 10))
 .nil) .nil)
 (.cons (.ite (.cmp .Eq (.x 2) (.c (.str [105, 110, 102, 105, 120]))) (.cons (.ret (.attr (.x 0) 9))
 .nil) .nil)
 (.cons (.ret (.attr (.x 0) 8))
 .nil))))
noncomputable def n_OperatorTable_add : List Str := ["self", "priority", "type_text", "a", "table"]
noncomputable def b_OperatorTable_add : PSs := (.cons (.asg 4 (.meth (.x 0) 12 (.cons (.x 2) .nil)))
 (.cons (.ite (.cmp .Gt (.x 1) (.c (.int 0))) (.cons (.setsub (.x 4) (.x 3) (.tuple (.cons (.x 1) (.cons (.x 2) .nil))))
 .nil) (.cons (.ite (.cmp .In (.x 3) (.x 4)) (.cons .bad
 .nil) .nil)
 .nil))
 .nil))
noncomputable def n_escaped : List Str := ["code", "digits"]
noncomputable def b_escaped : PSs := (.cons (.ite (.bop false (.cons (.cmp .Eq (.x 0) (.c (.int 39))) (.cons (.cmp .Eq (.x 0) (.c (.int 92))) .nil))) (.cons (.ret (.bin .Add (.c (.str [92])) (.bi .chr (.cons (.x 0) .nil))))
 .nil) .nil)
 (.cons (.ite (.bop true (.cons (.cmp .LtE (.c (.int 7)) (.x 0)) (.cons (.cmp .LtE (.x 0) (.c (.int 13))) .nil))) (.cons (.ret (.bin .Add (.c (.str [92])) (.sub (.c (.str [97, 98, 116, 110, 118, 102, 114])) (.bin .Sub (.x 0) (.c (.int 7))))))
 .nil) .nil)
 (.cons (.ite (.bop false (.cons (.cmp .Lt (.x 0) (.c (.int 32))) (.cons (.cmp .Eq (.x 0) (.c (.int 127))) .nil))) (.cons (.asg 1 (.c (.str [48, 49, 50, 51, 52, 53, 54, 55, 56, 57, 97, 98, 99, 100, 101, 102])))
 (.cons (.ret (.bin .Add (.bin .Add (.bin .Add (.c (.str [92, 120])) (.sub (.x 1) (.bin .FloorDiv (.x 0) (.c (.int 16))))) (.sub (.x 1) (.bin .Mod (.x 0) (.c (.int 16))))) (.c (.str [92]))))
 .nil)) .nil)
 (.cons (.ret (.bi .chr (.cons (.x 0) .nil)))
 .nil))))
noncomputable def n_quoted_text : List Str := ["text", "parts", "char"]
noncomputable def b_quoted_text : PSs := (.cons (.asg 1 (.list (.cons (.c (.str [39])) .nil)))
 (.cons (.for1 2 (.val (.x 0)) (.cons (.expr (.bm .append (.x 1) (.cons (.call 17 (.cons (.bi .ord (.cons (.x 2) .nil)) .nil)) .nil)))
 .nil))
 (.cons (.expr (.bm .append (.x 1) (.cons (.c (.str [39])) .nil)))
 (.cons (.ret (.bm .join (.c (.str [])) (.cons (.x 1) .nil)))
 .nil))))
noncomputable def n_atom_text : List Str := ["symbols", "a", "quoted", "text"]
noncomputable def b_atom_text : PSs := (.cons (.asg 3 (.meth (.x 0) 13 (.cons (.x 1) .nil)))
 (.cons (.ite (.bop true (.cons (.x 2) (.cons (.not (.call 18 (.cons (.x 3) .nil))) .nil))) (.cons (.ret (.call 19 (.cons (.x 3) .nil)))
 .nil) .nil)
 (.cons (.ret (.x 3))
 .nil)))
noncomputable def n_numbered_text : List Str := ["number", "letter"]
noncomputable def b_numbered_text : PSs := (.cons (.asg 1 (.bi .chr (.cons (.bin .Add (.c (.int 65)) (.bin .Mod (.x 0) (.c (.int 26)))) .nil)))
 (.cons (.ite (.cmp .Lt (.x 0) (.c (.int 26))) (.cons (.ret (.x 1))
 .nil) .nil)
 (.cons (.ret (.bin .Add (.x 1) (.call 20 (.cons (.bin .FloorDiv (.x 0) (.c (.int 26))) .nil))))
 .nil)))
noncomputable def n_is_word : List Str := ["char", "code"]
noncomputable def b_is_word : PSs := (.cons (.asg 1 (.bi .ord (.cons (.x 0) .nil)))
 (.cons (.ret (.bop false (.cons (.call 6 (.cons (.x 1) .nil)) (.cons (.cmp .GtE (.x 1) (.c (.int 128))) .nil))))
 .nil))
noncomputable def n_is_tight : List Str := ["text"]
noncomputable def b_is_tight : PSs := (.cons (.ret (.bop false (.cons (.cmp .Eq (.x 0) (.c (.str [59]))) (.cons (.cmp .Eq (.x 0) (.c (.str [33]))) (.cons (.call 8 (.cons (.x 0) .nil)) .nil)))))
 .nil)
noncomputable def n_Writer___init__ : List Str := ["self", "symbols", "operators", "quoted", "ignore_ops", "numbervars", "names", "k", "text"]
noncomputable def b_Writer___init__ : PSs := (.cons (.setattr (.x 0) 11 (.x 1))
 (.cons (.setattr (.x 0) 23 (.x 2))
 (.cons (.setattr (.x 0) 22 (.x 3))
 (.cons (.setattr (.x 0) 21 (.x 4))
 (.cons (.setattr (.x 0) 20 (.x 5))
 (.cons (.setattr (.x 0) 19 .dict)
 (.cons (.setattr (.x 0) 18 .dict)
 (.cons (.ite (.cmp .IsNot (.x 6) (.c .none)) (.cons (.forI 7 8 (.x 6) (.cons (.setsub (.attr (.x 0) 19) (.x 7) (.x 8))
 (.cons (.setsub (.attr (.x 0) 18) (.x 8) (.c (.bool true)))
 .nil)))
 .nil) .nil)
 (.cons (.setattr (.x 0) 17 (.list .nil))
 (.cons (.setattr (.x 0) 16 (.c (.str [])))
 (.cons (.setattr (.x 0) 15 (.c (.bool false)))
 (.cons (.setattr (.x 0) 14 (.list .nil))
 .nil))))))))))))
noncomputable def n_Writer_text : List Str := ["self", "term", "most", "kind", "item", "limit", "alone"]
noncomputable def b_Writer_text : PSs := (.cons (.setattr (.x 0) 17 (.list .nil))
 (.cons (.setattr (.x 0) 16 (.c (.str [])))
 (.cons (.setattr (.x 0) 15 (.c (.bool false)))
 (.cons (.setattr (.x 0) 14 (.list (.cons (.tuple (.cons (.c (.str [116, 101, 114, 109])) (.cons (.x 1) (.cons (.x 2) (.cons (.cmp .GtE (.x 2) (.g 21)) .nil))))) .nil)))
 (.cons (.wh (.attr (.x 0) 14) (.cons (.unpack [3, 4, 5, 6] (.bm .pop (.attr (.x 0) 14) .nil))
 (.cons (.ite (.cmp .Eq (.x 3) (.c (.str [116, 101, 114, 109]))) (.cons (.expr (.meth (.x 0) 24 (.cons (.x 4) (.cons (.x 5) (.cons (.x 6) .nil)))))
 .nil) (.cons (.ite (.cmp .Eq (.x 3) (.c (.str [105, 110, 102, 105, 120]))) (.cons (.expr (.meth (.x 0) 25 (.cons (.x 4) .nil)))
 .nil) (.cons (.ite (.cmp .Eq (.x 3) (.c (.str [112, 111, 115, 116, 102, 105, 120]))) (.cons (.expr (.meth (.x 0) 26 (.cons (.x 4) .nil)))
 .nil) (.cons (.expr (.meth (.x 0) 27 (.cons (.x 4) .nil)))
 .nil))
 .nil))
 .nil))
 .nil)))
 (.cons (.ret (.bm .join (.c (.str [])) (.cons (.attr (.x 0) 17) .nil)))
 .nil))))))
noncomputable def n_Writer_raw : List Str := ["self", "text"]
noncomputable def b_Writer_raw : PSs := (.cons (.ite (.cmp .NotEq (.x 1) (.c (.str []))) (.cons (.expr (.bm .append (.attr (.x 0) 17) (.cons (.x 1) .nil)))
 (.cons (.setattr (.x 0) 16 (.sub (.x 1) (.bin .Sub (.bi .len (.cons (.x 1) .nil)) (.c (.int 1)))))
 (.cons (.setattr (.x 0) 15 (.c (.bool false)))
 .nil))) .nil)
 .nil)
noncomputable def n_Writer_token : List Str := ["self", "text"]
noncomputable def b_Writer_token : PSs := (.cons (.ite (.cmp .NotEq (.x 1) (.c (.str []))) (.cons (.ite (.meth (.x 0) 28 (.cons (.sub (.x 1) (.c (.int 0))) .nil)) (.cons (.expr (.bm .append (.attr (.x 0) 17) (.cons (.c (.str [32])) .nil)))
 .nil) .nil)
 (.cons (.expr (.meth (.x 0) 27 (.cons (.x 1) .nil)))
 .nil)) .nil)
 .nil)
noncomputable def n_Writer_needs_space : List Str := ["self", "first"]
noncomputable def b_Writer_needs_space : PSs := (.cons (.ite (.bop false (.cons (.cmp .Eq (.attr (.x 0) 16) (.c (.str []))) (.cons (.cmp .Eq (.attr (.x 0) 16) (.c (.str [32]))) .nil))) (.cons (.ret (.c (.bool false)))
 .nil) .nil)
 (.cons (.ite (.bop true (.cons (.attr (.x 0) 15) (.cons (.bop false (.cons (.cmp .Eq (.x 1) (.c (.str [40]))) (.cons (.bop true (.cons (.cmp .Eq (.attr (.x 0) 16) (.c (.str [45]))) (.cons (.call 3 (.cons (.bi .ord (.cons (.x 1) .nil)) .nil)) .nil))) .nil))) .nil))) (.cons (.ret (.c (.bool true)))
 .nil) .nil)
 (.cons (.ite (.call 22 (.cons (.attr (.x 0) 16) .nil)) (.cons (.ret (.bop false (.cons (.call 22 (.cons (.x 1) .nil)) (.cons (.cmp .Eq (.x 1) (.c (.str [39]))) .nil))))
 .nil) .nil)
 (.cons (.ite (.call 7 (.cons (.bi .ord (.cons (.attr (.x 0) 16) .nil)) .nil)) (.cons (.ret (.call 7 (.cons (.bi .ord (.cons (.x 1) .nil)) .nil)))
 .nil) .nil)
 (.cons (.ret (.bop true (.cons (.cmp .Eq (.attr (.x 0) 16) (.c (.str [39]))) (.cons (.cmp .Eq (.x 1) (.c (.str [39]))) .nil))))
 .nil)))))
noncomputable def n_Writer_later : List Str := ["self", "items", "item"]
noncomputable def b_Writer_later : PSs := (.cons (.for1 2 (.rev (.x 1)) (.cons (.expr (.bm .append (.attr (.x 0) 14) (.cons (.x 2) .nil)))
 .nil))
 .nil)
noncomputable def n_Writer_write : List Str := ["self", "term", "most", "alone", "kind", "shape"]
noncomputable def b_Writer_write : PSs := (.cons (.asg 4 (.sub (.x 1) (.c (.int 0))))
 (.cons (.ite (.cmp .Eq (.x 4) (.c (.str [118]))) (.cons (.expr (.meth (.x 0) 29 (.cons (.meth (.x 0) 30 (.cons (.sub (.x 1) (.c (.int 1))) .nil)) .nil)))
 .nil) (.cons (.ite (.cmp .Eq (.x 4) (.c (.str [105]))) (.cons (.expr (.meth (.x 0) 29 (.cons (.call 20 (.cons (.sub (.x 1) (.c (.int 1))) .nil)) .nil)))
 .nil) (.cons (.ite (.cmp .Eq (.x 4) (.c (.str [97]))) (.cons (.expr (.meth (.x 0) 31 (.cons (.sub (.x 1) (.c (.int 1))) (.cons (.x 3) .nil))))
 .nil) (.cons (.ite (.cmp .Eq (.sub (.x 1) (.c (.int 1))) (.g 2)) (.cons (.expr (.meth (.x 0) 32 (.cons (.x 1) .nil)))
 .nil) (.cons (.ite (.meth (.x 0) 33 (.cons (.x 1) .nil)) (.cons (.expr (.meth (.x 0) 29 (.cons (.call 23 (.cons (.sub (.sub (.sub (.x 1) (.c (.int 2))) (.c (.int 0))) (.c (.int 1))) .nil)) .nil)))
 .nil) (.cons (.ite (.bop true (.cons (.cmp .Eq (.sub (.x 1) (.c (.int 1))) (.g 24)) (.cons (.not (.attr (.x 0) 21)) .nil))) (.cons (.expr (.meth (.x 0) 29 (.cons (.c (.str [123])) .nil)))
 (.cons (.expr (.meth (.x 0) 34 (.cons (.list (.cons (.tuple (.cons (.c (.str [116, 101, 114, 109])) (.cons (.sub (.sub (.x 1) (.c (.int 2))) (.c (.int 0))) (.cons (.g 21) (.cons (.c (.bool true)) .nil))))) (.cons (.tuple (.cons (.c (.str [114, 97, 119])) (.cons (.c (.str [125])) (.cons (.c (.int 0)) (.cons (.c (.bool false)) .nil))))) .nil))) .nil)))
 .nil)) (.cons (.asg 5 (.meth (.x 0) 37 (.cons (.x 1) .nil)))
 (.cons (.ite (.cmp .Is (.x 5) (.c .none)) (.cons (.expr (.meth (.x 0) 35 (.cons (.x 1) .nil)))
 .nil) (.cons (.expr (.meth (.x 0) 36 (.cons (.x 1) (.cons (.x 5) (.cons (.x 2) .nil)))))
 .nil))
 .nil)))
 .nil))
 .nil))
 .nil))
 .nil))
 .nil))
 .nil))
noncomputable def n_Writer_variable_text : List Str := ["self", "k", "text"]
noncomputable def b_Writer_variable_text : PSs := (.cons (.ite (.cmp .In (.x 1) (.attr (.x 0) 19)) (.cons (.ret (.sub (.attr (.x 0) 19) (.x 1)))
 .nil) .nil)
 (.cons (.asg 2 (.bin .Add (.c (.str [95])) (.bi .str (.cons (.x 1) .nil))))
 (.cons (.wh (.cmp .In (.x 2) (.attr (.x 0) 18)) (.cons (.asg 2 (.bin .Add (.x 2) (.c (.str [95]))))
 .nil))
 (.cons (.ret (.x 2))
 .nil))))
noncomputable def n_Writer_is_numbered : List Str := ["self", "term"]
noncomputable def b_Writer_is_numbered : PSs := (.cons (.ite (.bop false (.cons (.not (.attr (.x 0) 20)) (.cons (.cmp .NotEq (.sub (.x 1) (.c (.int 1))) (.g 25)) .nil))) (.cons (.ret (.c (.bool false)))
 .nil) .nil)
 (.cons (.ret (.bop true (.cons (.cmp .Eq (.sub (.sub (.sub (.x 1) (.c (.int 2))) (.c (.int 0))) (.c (.int 0))) (.c (.str [105]))) (.cons (.cmp .GtE (.sub (.sub (.sub (.x 1) (.c (.int 2))) (.c (.int 0))) (.c (.int 1))) (.c (.int 0))) .nil))))
 .nil))
noncomputable def n_Writer_write_atom : List Str := ["self", "a", "alone", "text"]
noncomputable def b_Writer_write_atom : PSs := (.cons (.asg 3 (.call 26 (.cons (.attr (.x 0) 11) (.cons (.x 1) (.cons (.attr (.x 0) 22) .nil)))))
 (.cons (.ite (.bop true (.cons (.not (.x 2)) (.cons (.meth (.attr (.x 0) 23) 38 (.cons (.x 1) .nil)) .nil))) (.cons (.expr (.meth (.x 0) 29 (.cons (.c (.str [40])) .nil)))
 (.cons (.expr (.meth (.x 0) 27 (.cons (.x 3) .nil)))
 (.cons (.expr (.meth (.x 0) 27 (.cons (.c (.str [41])) .nil)))
 .nil))) (.cons (.expr (.meth (.x 0) 29 (.cons (.x 3) .nil)))
 .nil))
 .nil))
noncomputable def n_Writer_write_list : List Str := ["self", "term", "items", "tail", "rows", "item"]
noncomputable def b_Writer_write_list : PSs := (.cons (.unpack [2, 3] (.call 29 (.cons (.x 1) .nil)))
 (.cons (.expr (.meth (.x 0) 29 (.cons (.c (.str [91])) .nil)))
 (.cons (.asg 4 (.list .nil))
 (.cons (.for1 5 (.val (.x 2)) (.cons (.ite (.x 4) (.cons (.expr (.bm .append (.x 4) (.cons (.tuple (.cons (.c (.str [114, 97, 119])) (.cons (.c (.str [44])) (.cons (.c (.int 0)) (.cons (.c (.bool false)) .nil))))) .nil)))
 .nil) .nil)
 (.cons (.expr (.bm .append (.x 4) (.cons (.tuple (.cons (.c (.str [116, 101, 114, 109])) (.cons (.x 5) (.cons (.g 28) (.cons (.c (.bool true)) .nil))))) .nil)))
 .nil)))
 (.cons (.ite (.cmp .NotEq (.x 3) (.tuple (.cons (.c (.str [97])) (.cons (.g 27) .nil)))) (.cons (.expr (.bm .append (.x 4) (.cons (.tuple (.cons (.c (.str [114, 97, 119])) (.cons (.c (.str [124])) (.cons (.c (.int 0)) (.cons (.c (.bool false)) .nil))))) .nil)))
 (.cons (.expr (.bm .append (.x 4) (.cons (.tuple (.cons (.c (.str [116, 101, 114, 109])) (.cons (.x 3) (.cons (.g 28) (.cons (.c (.bool true)) .nil))))) .nil)))
 .nil)) .nil)
 (.cons (.expr (.bm .append (.x 4) (.cons (.tuple (.cons (.c (.str [114, 97, 119])) (.cons (.c (.str [93])) (.cons (.c (.int 0)) (.cons (.c (.bool false)) .nil))))) .nil)))
 (.cons (.expr (.meth (.x 0) 34 (.cons (.x 4) .nil)))
 .nil)))))))
noncomputable def n_Writer_write_functional : List Str := ["self", "term", "rows", "item"]
noncomputable def b_Writer_write_functional : PSs := (.cons (.expr (.meth (.x 0) 29 (.cons (.call 26 (.cons (.attr (.x 0) 11) (.cons (.meth (.attr (.x 0) 11) 39 (.cons (.sub (.x 1) (.c (.int 1))) .nil)) (.cons (.attr (.x 0) 22) .nil)))) .nil)))
 (.cons (.asg 2 (.list .nil))
 (.cons (.for1 3 (.val (.sub (.x 1) (.c (.int 2)))) (.cons (.ite (.x 2) (.cons (.expr (.bm .append (.x 2) (.cons (.tuple (.cons (.c (.str [114, 97, 119])) (.cons (.c (.str [44])) (.cons (.c (.int 0)) (.cons (.c (.bool false)) .nil))))) .nil)))
 .nil) (.cons (.expr (.bm .append (.x 2) (.cons (.tuple (.cons (.c (.str [114, 97, 119])) (.cons (.c (.str [40])) (.cons (.c (.int 0)) (.cons (.c (.bool false)) .nil))))) .nil)))
 .nil))
 (.cons (.expr (.bm .append (.x 2) (.cons (.tuple (.cons (.c (.str [116, 101, 114, 109])) (.cons (.x 3) (.cons (.g 28) (.cons (.c (.bool true)) .nil))))) .nil)))
 .nil)))
 (.cons (.expr (.bm .append (.x 2) (.cons (.tuple (.cons (.c (.str [114, 97, 119])) (.cons (.c (.str [41])) (.cons (.c (.int 0)) (.cons (.c (.bool false)) .nil))))) .nil)))
 (.cons (.expr (.meth (.x 0) 34 (.cons (.x 2) .nil)))
 .nil)))))
noncomputable def n_Writer_shape : List Str := ["self", "term", "name", "args", "entry"]
noncomputable def b_Writer_shape : PSs := (.cons (.ite (.bop false (.cons (.attr (.x 0) 21) (.cons (.cmp .NotEq (.sub (.x 1) (.c (.int 0))) (.c (.str [115]))) .nil))) (.cons (.ret (.c .none))
 .nil) .nil)
 (.cons (.ite (.bop false (.cons (.cmp .Eq (.sub (.x 1) (.c (.int 1))) (.g 2)) (.cons (.cmp .Eq (.sub (.x 1) (.c (.int 1))) (.g 24)) (.cons (.meth (.x 0) 33 (.cons (.x 1) .nil)) .nil)))) (.cons (.ret (.c .none))
 .nil) .nil)
 (.cons (.asg 2 (.meth (.attr (.x 0) 11) 39 (.cons (.sub (.x 1) (.c (.int 1))) .nil)))
 (.cons (.asg 3 (.sub (.x 1) (.c (.int 2))))
 (.cons (.ite (.cmp .Eq (.bi .len (.cons (.x 3) .nil)) (.c (.int 2))) (.cons (.asg 4 (.meth (.attr (.x 0) 23) 42 (.cons (.x 2) .nil)))
 (.cons (.ite (.cmp .IsNot (.x 4) (.c .none)) (.cons (.ret (.tuple (.cons (.c (.str [105, 110, 102, 105, 120])) (.cons (.sub (.x 4) (.c (.int 0))) (.cons (.sub (.x 4) (.c (.int 1))) .nil)))))
 .nil) .nil)
 .nil)) .nil)
 (.cons (.ite (.cmp .Eq (.bi .len (.cons (.x 3) .nil)) (.c (.int 1))) (.cons (.asg 4 (.meth (.attr (.x 0) 23) 41 (.cons (.x 2) .nil)))
 (.cons (.ite (.cmp .IsNot (.x 4) (.c .none)) (.cons (.ite (.bop true (.cons (.cmp .Eq (.x 2) (.g 30)) (.cons (.cmp .Eq (.sub (.sub (.x 3) (.c (.int 0))) (.c (.int 0))) (.c (.str [105]))) (.cons (.cmp .GtE (.sub (.sub (.x 3) (.c (.int 0))) (.c (.int 1))) (.c (.int 0))) .nil)))) (.cons (.ret (.c .none))
 .nil) .nil)
 (.cons (.ret (.tuple (.cons (.c (.str [112, 114, 101, 102, 105, 120])) (.cons (.sub (.x 4) (.c (.int 0))) (.cons (.sub (.x 4) (.c (.int 1))) .nil)))))
 .nil)) .nil)
 (.cons (.asg 4 (.meth (.attr (.x 0) 23) 40 (.cons (.x 2) .nil)))
 (.cons (.ite (.cmp .IsNot (.x 4) (.c .none)) (.cons (.ret (.tuple (.cons (.c (.str [112, 111, 115, 116, 102, 105, 120])) (.cons (.sub (.x 4) (.c (.int 0))) (.cons (.sub (.x 4) (.c (.int 1))) .nil)))))
 .nil) .nil)
 .nil)))) .nil)
 (.cons (.ret (.c .none))
 .nil)))))))
noncomputable def n_Writer_write_operation : List Str := ["self", "term", "shape", "most", "kind", "priority", "type_text", "left", "right", "name", "args", "rows"]
noncomputable def b_Writer_write_operation : PSs := (.cons (.unpack [4, 5, 6] (.x 2))
 (.cons (.unpack [7, 8] (.call 31 (.cons (.x 5) (.cons (.x 6) .nil))))
 (.cons (.asg 9 (.meth (.attr (.x 0) 11) 39 (.cons (.sub (.x 1) (.c (.int 1))) .nil)))
 (.cons (.asg 10 (.sub (.x 1) (.c (.int 2))))
 (.cons (.asg 11 (.list .nil))
 (.cons (.ite (.cmp .Gt (.x 5) (.x 3)) (.cons (.expr (.meth (.x 0) 29 (.cons (.c (.str [40])) .nil)))
 .nil) .nil)
 (.cons (.ite (.cmp .Eq (.x 4) (.c (.str [112, 114, 101, 102, 105, 120]))) (.cons (.expr (.meth (.x 0) 43 (.cons (.x 9) .nil)))
 (.cons (.expr (.bm .append (.x 11) (.cons (.tuple (.cons (.c (.str [116, 101, 114, 109])) (.cons (.sub (.x 10) (.c (.int 0))) (.cons (.x 8) (.cons (.c (.bool false)) .nil))))) .nil)))
 .nil)) (.cons (.expr (.bm .append (.x 11) (.cons (.tuple (.cons (.c (.str [116, 101, 114, 109])) (.cons (.sub (.x 10) (.c (.int 0))) (.cons (.meth (.x 0) 44 (.cons (.sub (.x 10) (.c (.int 0))) (.cons (.x 5) (.cons (.x 7) .nil)))) (.cons (.c (.bool false)) .nil))))) .nil)))
 (.cons (.expr (.bm .append (.x 11) (.cons (.tuple (.cons (.x 4) (.cons (.x 9) (.cons (.c (.int 0)) (.cons (.c (.bool false)) .nil))))) .nil)))
 (.cons (.ite (.cmp .Eq (.x 4) (.c (.str [105, 110, 102, 105, 120]))) (.cons (.expr (.bm .append (.x 11) (.cons (.tuple (.cons (.c (.str [116, 101, 114, 109])) (.cons (.sub (.x 10) (.c (.int 1))) (.cons (.x 8) (.cons (.c (.bool false)) .nil))))) .nil)))
 .nil) .nil)
 .nil))))
 (.cons (.ite (.cmp .Gt (.x 5) (.x 3)) (.cons (.expr (.bm .append (.x 11) (.cons (.tuple (.cons (.c (.str [114, 97, 119])) (.cons (.c (.str [41])) (.cons (.c (.int 0)) (.cons (.c (.bool false)) .nil))))) .nil)))
 .nil) .nil)
 (.cons (.expr (.meth (.x 0) 34 (.cons (.x 11) .nil)))
 .nil)))))))))
noncomputable def n_Writer_left_limit : List Str := ["self", "operand", "priority", "most", "shape"]
noncomputable def b_Writer_left_limit : PSs := (.cons (.asg 4 (.meth (.x 0) 37 (.cons (.x 1) .nil)))
 (.cons (.ite (.bop true (.cons (.cmp .IsNot (.x 4) (.c .none)) (.cons (.cmp .Eq (.sub (.x 4) (.c (.int 1))) (.x 2)) (.cons (.cmp .Eq (.sub (.call 31 (.cons (.sub (.x 4) (.c (.int 1))) (.cons (.sub (.x 4) (.c (.int 2))) .nil))) (.c (.int 1))) (.x 2)) .nil)))) (.cons (.ret (.bin .Sub (.x 2) (.c (.int 1))))
 .nil) .nil)
 (.cons (.ret (.x 3))
 .nil)))
noncomputable def n_Writer_prefix_operator : List Str := ["self", "a", "text"]
noncomputable def b_Writer_prefix_operator : PSs := (.cons (.asg 2 (.call 26 (.cons (.attr (.x 0) 11) (.cons (.x 1) (.cons (.attr (.x 0) 22) .nil)))))
 (.cons (.expr (.meth (.x 0) 29 (.cons (.x 2) .nil)))
 (.cons (.ite (.call 32 (.cons (.x 2) .nil)) (.cons (.setattr (.x 0) 15 (.c (.bool true)))
 .nil) (.cons (.expr (.meth (.x 0) 27 (.cons (.c (.str [32])) .nil)))
 .nil))
 .nil)))
noncomputable def n_Writer_infix_operator : List Str := ["self", "a", "text"]
noncomputable def b_Writer_infix_operator : PSs := (.cons (.asg 2 (.call 26 (.cons (.attr (.x 0) 11) (.cons (.x 1) (.cons (.attr (.x 0) 22) .nil)))))
 (.cons (.ite (.cmp .Eq (.x 1) (.g 14)) (.cons (.expr (.meth (.x 0) 27 (.cons (.c (.str [44])) .nil)))
 .nil) (.cons (.ite (.cmp .Eq (.x 1) (.g 33)) (.cons (.expr (.meth (.x 0) 27 (.cons (.c (.str [124])) .nil)))
 .nil) (.cons (.ite (.call 32 (.cons (.x 2) .nil)) (.cons (.expr (.meth (.x 0) 29 (.cons (.x 2) .nil)))
 .nil) (.cons (.expr (.meth (.x 0) 27 (.cons (.c (.str [32])) .nil)))
 (.cons (.expr (.meth (.x 0) 27 (.cons (.x 2) .nil)))
 (.cons (.expr (.meth (.x 0) 27 (.cons (.c (.str [32])) .nil)))
 .nil))))
 .nil))
 .nil))
 .nil))
noncomputable def n_Writer_postfix_operator : List Str := ["self", "a", "text"]
noncomputable def b_Writer_postfix_operator : PSs := (.cons (.asg 2 (.call 26 (.cons (.attr (.x 0) 11) (.cons (.x 1) (.cons (.attr (.x 0) 22) .nil)))))
 (.cons (.ite (.call 32 (.cons (.x 2) .nil)) (.cons (.expr (.meth (.x 0) 29 (.cons (.x 2) .nil)))
 .nil) (.cons (.expr (.meth (.x 0) 27 (.cons (.c (.str [32])) .nil)))
 (.cons (.expr (.meth (.x 0) 27 (.cons (.x 2) .nil)))
 .nil)))
 .nil))
noncomputable def n__law_row : List Str := ["script", "row", "cell", "rest", "turn"]
noncomputable def b__law_row : PSs := (.cons (.asg 1 (.list .nil))
 (.cons (.for1 2 (.val (.slice (.x 0) (.c .none) (.c (.int 40)))) (.cons (.asg 3 (.bi .int (.cons (.x 2) .nil)))
 (.cons (.for1 4 (.range (.bi .min (.cons (.c (.int 30)) (.cons (.bin .Sub (.c (.int 90)) (.bi .len (.cons (.x 1) .nil))) .nil)))) (.cons (.expr (.bm .append (.x 1) (.cons (.bin .Mod (.x 3) (.c (.int 96))) .nil)))
 (.cons (.asg 3 (.bin .FloorDiv (.x 3) (.c (.int 96))))
 (.cons (.ite (.bop false (.cons (.cmp .Eq (.x 3) (.c (.int 0))) (.cons (.cmp .Eq (.x 3) (.neg (.c (.int 1)))) .nil))) (.cons .brk
 .nil) .nil)
 .nil))))
 .nil)))
 (.cons (.expr (.bm .reverse (.x 1) .nil))
 (.cons (.ret (.x 1))
 .nil))))
noncomputable def n__law_next : List Str := ["row", "many"]
noncomputable def b__law_next : PSs := (.cons (.ret (.ite (.cmp .Gt (.bi .len (.cons (.x 0) .nil)) (.c (.int 0))) (.bin .Mod (.bm .pop (.x 0) .nil) (.x 1)) (.c (.int 0))))
 .nil)
noncomputable def anP : List Str := (["func", "atom", "functor_numbers", "functors", "atom_numbers", "texts", "functor", "add", "postfixes", "infixes", "prefixes", "symbols", "table_of", "text", "work", "prefixed"] : List Str) ++ (["last", "out", "taken", "names", "numbervars", "ignore_ops", "quoted", "operators", "write", "infix_operator", "postfix_operator", "raw", "needs_space", "token", "variable_text", "write_atom"] : List Str) ++ (["write_list", "is_numbered", "later", "write_functional", "write_operation", "shape", "is_operator", "name", "postfix", "prefix", "infix", "prefix_operator", "left_limit"] : List Str)
noncomputable def gnP : List Str := (["fixed_functors", "fixed_atoms", "F_DOT", "is_digit", "is_capital", "is_small", "is_alnum", "is_symbol", "is_symbol_name", "is_alnum_name", "POSTFIX_TYPES", "INFIX_TYPES", "PREFIX_TYPES", "standard_rows", "A_COMMA", "COMMA_PRIORITY"] : List Str) ++ (["fixity", "escaped", "is_plain_name", "quoted_text", "number_text", "WHOLE_PRIORITY", "is_word", "numbered_text", "F_CURLY", "F_VARNAME", "atom_text", "A_NIL", "ARGUMENT_PRIORITY", "list_items", "A_MINUS", "bounds"] : List Str) ++ (["is_tight", "A_BAR"] : List Str)
noncomputable def glP : List V := [.ref 35, .ref 28, (.int 0), .ref 140, .ref 154, .ref 147, .ref 161, .ref 168, .ref 189, .ref 182, (.tup [(.str [120, 102]), (.str [121, 102])]), (.tup [(.str [120, 102, 120]), (.str [120, 102, 121]), (.str [121, 102, 120])]), (.tup [(.str [102, 120]), (.str [102, 121])]), .ref 206, (.int 7), (.int 1000), .ref 213, .ref 298, .ref 196, .ref 305, .ref 175, (.int 1201), .ref 327, .ref 320, (.int 9), (.int 17), .ref 313, (.int 0), (.int 999), .ref 133, (.int 3), .ref 220, .ref 334, (.int 8)]
noncomputable def attrL : List (Nat × Nat) := [(122, 5), (122, 4), (122, 3), (122, 2), (287, 11), (287, 10), (287, 9), (287, 8), (472, 11), (472, 23), (472, 22), (472, 21), (472, 20), (472, 19), (472, 18), (472, 17), (472, 16), (472, 15), (472, 14)]
noncomputable def methL : List (Nat × Nat × Nat) := [(122, 1, 56), (122, 13, 63), (122, 6, 70), (122, 0, 77), (122, 39, 84), (287, 41, 242), (287, 42, 249), (287, 40, 256), (287, 38, 263), (287, 12, 270), (287, 7, 277), (472, 13, 357), (472, 27, 364), (472, 29, 371), (472, 28, 378), (472, 34, 385), (472, 24, 392), (472, 30, 399), (472, 33, 406), (472, 31, 413), (472, 32, 420), (472, 35, 427), (472, 37, 434), (472, 36, 441), (472, 44, 448), (472, 43, 455), (472, 25, 462), (472, 26, 469)]
noncomputable def newL : List (Nat × Nat) := [(122, 49), (287, 235), (472, 349)]
structure Base (cx : Cx) : Prop where
  ok : CxOk cx
  an : ∀ k, k < anP.length → cx.an[k]? = anP[k]?
  gl : ∀ i, i < glP.length → cx.gl i = glP.getD i .none
  at_ : attrL.all (fun p => attrAt cx p.1 p.2) = true
  me_ : methL.all (fun p => methAt cx p.1 p.2.1 == some p.2.2) = true
  nw_ : newL.all (fun p => makes cx p.1 == some p.2) = true
noncomputable abbrev D_fixed_atoms (cx : Cx) : Prop := Def cx 28 0 n_fixed_atoms [] b_fixed_atoms
noncomputable abbrev D_fixed_functors (cx : Cx) : Prop := Def cx 35 0 n_fixed_functors [] b_fixed_functors
noncomputable abbrev D_Symbols___init__ (cx : Cx) : Prop := Def cx 49 1 n_Symbols___init__ [] b_Symbols___init__
noncomputable abbrev D_Symbols_atom (cx : Cx) : Prop := Def cx 56 2 n_Symbols_atom [] b_Symbols_atom
noncomputable abbrev D_Symbols_text (cx : Cx) : Prop := Def cx 63 2 n_Symbols_text [] b_Symbols_text
noncomputable abbrev D_Symbols_functor (cx : Cx) : Prop := Def cx 70 3 n_Symbols_functor [] b_Symbols_functor
noncomputable abbrev D_Symbols_func (cx : Cx) : Prop := Def cx 77 3 n_Symbols_func [] b_Symbols_func
noncomputable abbrev D_Symbols_name (cx : Cx) : Prop := Def cx 84 2 n_Symbols_name [] b_Symbols_name
noncomputable abbrev D_Symbols_arity (cx : Cx) : Prop := Def cx 91 2 n_Symbols_arity [] b_Symbols_arity
noncomputable abbrev D_list_items (cx : Cx) : Prop := Def cx 133 1 n_list_items [] b_list_items
noncomputable abbrev D_is_digit (cx : Cx) : Prop := Def cx 140 1 n_is_digit [] b_is_digit
noncomputable abbrev D_is_small (cx : Cx) : Prop := Def cx 147 1 n_is_small [] b_is_small
noncomputable abbrev D_is_capital (cx : Cx) : Prop := Def cx 154 1 n_is_capital [] b_is_capital
noncomputable abbrev D_is_alnum (cx : Cx) : Prop := Def cx 161 1 n_is_alnum [] b_is_alnum
noncomputable abbrev D_is_symbol (cx : Cx) : Prop := Def cx 168 1 n_is_symbol [] b_is_symbol
noncomputable abbrev D_number_text (cx : Cx) : Prop := Def cx 175 1 n_number_text [] b_number_text
noncomputable abbrev D_is_alnum_name (cx : Cx) : Prop := Def cx 182 1 n_is_alnum_name [] b_is_alnum_name
noncomputable abbrev D_is_symbol_name (cx : Cx) : Prop := Def cx 189 1 n_is_symbol_name [] b_is_symbol_name
noncomputable abbrev D_is_plain_name (cx : Cx) : Prop := Def cx 196 1 n_is_plain_name [] b_is_plain_name
noncomputable abbrev D_fixity (cx : Cx) : Prop := Def cx 213 1 n_fixity [] b_fixity
noncomputable abbrev D_bounds (cx : Cx) : Prop := Def cx 220 2 n_bounds [] b_bounds
noncomputable abbrev D_OperatorTable___init__ (cx : Cx) : Prop := Def cx 235 3 n_OperatorTable___init__ [] b_OperatorTable___init__
noncomputable abbrev D_OperatorTable_prefix (cx : Cx) : Prop := Def cx 242 2 n_OperatorTable_prefix [] b_OperatorTable_prefix
noncomputable abbrev D_OperatorTable_infix (cx : Cx) : Prop := Def cx 249 2 n_OperatorTable_infix [] b_OperatorTable_infix
noncomputable abbrev D_OperatorTable_postfix (cx : Cx) : Prop := Def cx 256 2 n_OperatorTable_postfix [] b_OperatorTable_postfix
noncomputable abbrev D_OperatorTable_is_operator (cx : Cx) : Prop := Def cx 263 2 n_OperatorTable_is_operator [] b_OperatorTable_is_operator
noncomputable abbrev D_OperatorTable_table_of (cx : Cx) : Prop := Def cx 270 2 n_OperatorTable_table_of [] b_OperatorTable_table_of
noncomputable abbrev D_OperatorTable_add (cx : Cx) : Prop := Def cx 277 4 n_OperatorTable_add [] b_OperatorTable_add
noncomputable abbrev D_escaped (cx : Cx) : Prop := Def cx 298 1 n_escaped [] b_escaped
noncomputable abbrev D_quoted_text (cx : Cx) : Prop := Def cx 305 1 n_quoted_text [] b_quoted_text
noncomputable abbrev D_atom_text (cx : Cx) : Prop := Def cx 313 3 n_atom_text [] b_atom_text
noncomputable abbrev D_numbered_text (cx : Cx) : Prop := Def cx 320 1 n_numbered_text [] b_numbered_text
noncomputable abbrev D_is_word (cx : Cx) : Prop := Def cx 327 1 n_is_word [] b_is_word
noncomputable abbrev D_is_tight (cx : Cx) : Prop := Def cx 334 1 n_is_tight [] b_is_tight
noncomputable abbrev D_Writer___init__ (cx : Cx) : Prop := Def cx 349 7 n_Writer___init__ [(.bool true), (.bool false), (.bool false), .none] b_Writer___init__
noncomputable abbrev D_Writer_text (cx : Cx) : Prop := Def cx 357 3 n_Writer_text [] b_Writer_text
noncomputable abbrev D_Writer_raw (cx : Cx) : Prop := Def cx 364 2 n_Writer_raw [] b_Writer_raw
noncomputable abbrev D_Writer_token (cx : Cx) : Prop := Def cx 371 2 n_Writer_token [] b_Writer_token
noncomputable abbrev D_Writer_needs_space (cx : Cx) : Prop := Def cx 378 2 n_Writer_needs_space [] b_Writer_needs_space
noncomputable abbrev D_Writer_later (cx : Cx) : Prop := Def cx 385 2 n_Writer_later [] b_Writer_later
noncomputable abbrev D_Writer_write (cx : Cx) : Prop := Def cx 392 4 n_Writer_write [] b_Writer_write
noncomputable abbrev D_Writer_variable_text (cx : Cx) : Prop := Def cx 399 2 n_Writer_variable_text [] b_Writer_variable_text
noncomputable abbrev D_Writer_is_numbered (cx : Cx) : Prop := Def cx 406 2 n_Writer_is_numbered [] b_Writer_is_numbered
noncomputable abbrev D_Writer_write_atom (cx : Cx) : Prop := Def cx 413 3 n_Writer_write_atom [] b_Writer_write_atom
noncomputable abbrev D_Writer_write_list (cx : Cx) : Prop := Def cx 420 2 n_Writer_write_list [] b_Writer_write_list
noncomputable abbrev D_Writer_write_functional (cx : Cx) : Prop := Def cx 427 2 n_Writer_write_functional [] b_Writer_write_functional
noncomputable abbrev D_Writer_shape (cx : Cx) : Prop := Def cx 434 2 n_Writer_shape [] b_Writer_shape
noncomputable abbrev D_Writer_write_operation (cx : Cx) : Prop := Def cx 441 4 n_Writer_write_operation [] b_Writer_write_operation
noncomputable abbrev D_Writer_left_limit (cx : Cx) : Prop := Def cx 448 4 n_Writer_left_limit [] b_Writer_left_limit
noncomputable abbrev D_Writer_prefix_operator (cx : Cx) : Prop := Def cx 455 2 n_Writer_prefix_operator [] b_Writer_prefix_operator
noncomputable abbrev D_Writer_infix_operator (cx : Cx) : Prop := Def cx 462 2 n_Writer_infix_operator [] b_Writer_infix_operator
noncomputable abbrev D_Writer_postfix_operator (cx : Cx) : Prop := Def cx 469 2 n_Writer_postfix_operator [] b_Writer_postfix_operator
noncomputable abbrev D__law_row (cx : Cx) : Prop := Def cx 483 1 n__law_row [] b__law_row
noncomputable abbrev D__law_next (cx : Cx) : Prop := Def cx 490 2 n__law_next [] b__law_next
section
variable {cx : Cx}
theorem Base.attr (B : Base cx) {C k : Nat} (h : attrL.contains (C, k) = true) : attrAt cx C k = true := List.all_eq_true.mp B.at_ (C, k) (List.contains_iff_mem.mp h)
theorem Base.meth (B : Base cx) {C k f : Nat} (h : methL.contains (C, k, f) = true) : methAt cx C k = some f := by
  have := List.all_eq_true.mp B.me_ (C, k, f) (List.contains_iff_mem.mp h)
  simpa using this
theorem Base.new (B : Base cx) {C f : Nat} (h : newL.contains (C, f) = true) : makes cx C = some f := by
  have := List.all_eq_true.mp B.nw_ (C, f) (List.contains_iff_mem.mp h)
  simpa using this
theorem Base.glob (B : Base cx) {i : Nat} {v : V} (h : glP[i]? = some v) : cx.gl i = v := by
  obtain ⟨hi, e⟩ := List.getElem?_eq_some_iff.mp h
  rw [B.gl i hi, List.getD_eq_getElem?_getD, h]; rfl
theorem def_call {n f np : Nat} {nms : List Str} {dv : List V} {b : PSs} {args : List V} {H : AH} {Q : V → AH → Prop} (B : Base cx) (D : Def cx f np nms dv b) (h1 : args.length + dv.length ≤ np) (h2 : np ≤ args.length + dv.length) (w : wpSs cx n b (rho0 np nms.length dv args) H (doneW Q)) : CallOk cx (n + 1) f args H Q :=
  callOk_def B.ok D h1 h2 w
end
end Mine.PJ

namespace Mine.PJ
open Mine
noncomputable def stL (T : List (List Nat)) : List V := T.map .str
theorem stL_len (T : List (List Nat)) : (stL T).length = T.length := List.length_map ..
theorem stL_app (T T' : List (List Nat)) : stL (T ++ T') = stL T ++ stL T' := List.map_append ..
section
variable {α : Type} [DecidableEq α]
noncomputable def posn (s : α) : List α → Option Nat
  | [] => none
  | t :: r => if t = s then some 0 else (posn s r).map (· + 1)
theorem posn_get {s : α} : ∀ {T : List α} {i : Nat}, posn s T = some i → T[i]? = some s
  | [], i, h => by contradiction
  | t :: r, i, h => by
    unfold posn at h
    split at h
    · obtain rfl := Option.some.inj h; simpa
    · obtain ⟨j, hj, rfl⟩ := Option.map_eq_some_iff.mp h
      simpa using posn_get hj
theorem posn_none {s : α} : ∀ {T : List α}, posn s T = none → s ∉ T
  | [], _ => nofun
  | t :: r, h => by
    unfold posn at h
    split at h
    · contradiction
    · rename_i ne
      have := posn_none (Option.map_eq_none_iff.mp h)
      simp only [List.mem_cons, not_or]
      exact ⟨fun z => ne z.symm, this⟩
noncomputable def addP (T : List α) (s : α) : Nat × List α := match posn s T with
  | some i => (i, T)
  | none => (T.length, T ++ [s])
noncomputable def entsOf (f : α → V) : List α → Nat → List (V × V)
  | [], _ => []
  | t :: r, k => (f t, .int (k : Int)) :: entsOf f r (k + 1)
variable {f : α → V} (hf : ∀ a b, veq (f a) (f b) = decide (a = b))
include hf
theorem ents_look (s : α) : ∀ (T : List α) (k : Nat), lookV (entsOf f T k) (f s) = (posn s T).map fun i => V.int ((k + i : Nat) : Int)
  | [], k => rfl
  | t :: r, k => by
    unfold lookV entsOf posn
    rw [List.find?_cons]
    simp only [hf]
    by_cases q : t = s
    · simp [q]
    · simp only [q, decide_false, if_false]
      have := ents_look s r (k + 1)
      unfold lookV at this
      rw [this]
      cases posn s r with
      | none => rfl
      | some i => simp; omega
theorem ents_any (s : α) : ∀ (T : List α) (k : Nat), ((entsOf f T k).any fun e => veq e.1 (f s)) = (posn s T).isSome
  | [], k => rfl
  | t :: r, k => by
    unfold entsOf posn
    rw [List.any_cons, ents_any s r (k + 1)]
    simp only [hf]
    by_cases q : t = s
    · simp [q]
    · simp [q]
theorem ents_put {s : α} {T : List α} (h : posn s T = none) : putV (entsOf f T 0) (f s) (.int (T.length : Int)) = entsOf f (T ++ [s]) 0 := by
  unfold putV
  rw [ents_any hf, h]
  have : ∀ (T : List α) (k : Nat), entsOf f (T ++ [s]) k = entsOf f T k ++ [(f s, .int ((k + T.length : Nat) : Int))] := by
    intro T
    induction T with
    | nil => intro k; simp [entsOf]
    | cons t r ih => intro k; simp only [List.cons_append, entsOf, ih, List.length_cons]; simp; omega
  simp [this]
omit hf
theorem ents_len (f : α → V) : ∀ (T : List α) (k : Nat), (entsOf f T k).length = T.length
  | [], _ => rfl
  | _ :: r, k => by simp [entsOf, ents_len f r (k + 1)]
theorem ents_key (f : α → V) : ∀ (T : List α) (k : Nat), ∀ e ∈ entsOf f T k, ∃ a, e.1 = f a
  | [], _, e, h => by simp [entsOf] at h
  | t :: r, k, e, h => by
    simp only [entsOf, List.mem_cons] at h
    rcases h with rfl | h
    · exact ⟨t, rfl⟩
    · exact ents_key f r (k + 1) e h
end
theorem veq_str (a b : List Nat) : veq (.str a) (.str b) = decide (a = b) := rfl
noncomputable def prV (p : Int × Int) : V := .tup [.int p.1, .int p.2]
theorem veq_pr (a b : Int × Int) : veq (prV a) (prV b) = decide (a = b) := by
  show (decide (a.1 = b.1) && (decide (a.2 = b.2) && true)) = _
  rw [Bool.eq_iff_iff]; simp [Prod.ext_iff]
noncomputable def atoms0 : List (List Nat) := [[91, 93], [46], [123, 125], [45], [43], [42], [47], [44], [124], [59], [45, 62], [92, 43], [58, 45], [63, 45], [45, 45, 62], [33], [116, 114, 117, 101], [102, 97, 105, 108], [102, 97, 108, 115, 101], [99, 97, 108, 108], [61], [94], [101, 114, 114, 111, 114], [], [101, 110, 100, 95, 111, 102, 95, 102, 105, 108, 101], [115, 121, 115, 116, 101, 109], [36, 86, 65, 82], [99, 97, 116, 99, 104], [116, 104, 114, 111, 119]]
noncomputable def rows0 : List (List Nat × Int) := [([46], 2), ([44], 2), ([59], 2), ([45, 62], 2), ([92, 43], 1), ([58, 45], 2), ([58, 45], 1), ([63, 45], 1), ([45, 45, 62], 2), ([123, 125], 1), ([61], 2), ([94], 2), ([45], 1), ([45], 2), ([43], 2), ([47], 2), ([101, 114, 114, 111, 114], 2), ([36, 86, 65, 82], 1), ([99, 97, 116, 99, 104], 3), ([116, 104, 114, 111, 119], 1), ([33], 0), ([116, 114, 117, 101], 0), ([102, 97, 105, 108], 0), ([102, 97, 108, 115, 101], 0), ([99, 97, 108, 108], 1), ([99, 97, 108, 108], 2), ([99, 97, 108, 108], 3), ([99, 97, 108, 108], 4), ([99, 97, 108, 108], 5), ([99, 97, 108, 108], 6), ([99, 97, 108, 108], 7), ([99, 97, 108, 108], 8)]
noncomputable def rowV (r : List Nat × Int) : V := .tup [.str r.1, .int r.2]
noncomputable abbrev Tab := List (List Nat) × List (Int × Int)
noncomputable def funcP (t : Tab) (s : List Nat) (r : Int) : Nat × Tab := ((addP t.2 (((addP t.1 s).1 : Int), r)).1, ((addP t.1 s).2, (addP t.2 (((addP t.1 s).1 : Int), r)).2))
noncomputable def F0 : List (Int × Int) := [(1, 2), (7, 2), (9, 2), (10, 2), (11, 1), (12, 2), (12, 1), (13, 1), (14, 2), (2, 1), (20, 2), (21, 2), (3, 1), (3, 2), (4, 2), (6, 2), (22, 2), (26, 1), (27, 3), (28, 1), (15, 0), (16, 0), (17, 0), (18, 0), (19, 1), (19, 2), (19, 3), (19, 4), (19, 5), (19, 6), (19, 7), (19, 8)]
theorem fold_atoms : atoms0.foldl (fun T s => (addP T s).2) [] = atoms0 := by decide +kernel
theorem fold_rows : rows0.foldl (fun t r => (funcP t r.1 r.2).2) (atoms0, []) = (atoms0, F0) := by decide +kernel
theorem addP_len {α : Type} [DecidableEq α] (T : List α) (s : α) : (addP T s).2.length ≤ T.length + 1 := by
  unfold addP; split <;> simp
noncomputable abbrev OT := List (Int × (Int × List Nat))
noncomputable def otE (T : OT) : List (V × V) := T.map fun e => (.int e.1, .tup [.int e.2.1, .str e.2.2])
noncomputable def otPut (T : OT) (a : Int) (v : Int × List Nat) : OT := if T.any (fun e => decide (e.1 = a)) then T.map (fun e => if decide (e.1 = a) then (e.1, v) else e) else T ++ [(a, v)]
noncomputable def otGet (T : OT) (a : Int) : Option (Int × List Nat) := (T.find? fun e => decide (e.1 = a)).map (·.2)
theorem otE_any (T : OT) (a : Int) : ((otE T).any fun e => veq e.1 (.int a)) = T.any fun e => decide (e.1 = a) := by
  unfold otE; rw [List.any_map]; rfl
theorem otE_put (T : OT) (a : Int) (v : Int × List Nat) : putV (otE T) (.int a) (.tup [.int v.1, .str v.2]) = otE (otPut T a v) := by
  unfold putV otPut
  rw [otE_any]
  split
  · unfold otE
    rw [List.map_map, List.map_map]
    congr 1
    funext e
    show (if decide (e.1 = a) = true then (V.int e.1, V.tup [.int v.1, .str v.2]) else (V.int e.1, V.tup [.int e.2.1, .str e.2.2])) = (fun e : Int × (Int × List Nat) => (V.int e.1, V.tup [.int e.2.1, .str e.2.2])) (if decide (e.1 = a) = true then (e.1, v) else e)
    cases decide (e.1 = a) <;> rfl
  · simp [otE]
theorem otE_look (T : OT) (a : Int) : lookV (otE T) (.int a) = (otGet T a).map fun v => .tup [.int v.1, .str v.2] := by
  unfold lookV otE otGet
  rw [List.find?_map]
  have e : ((fun e : V × V => veq e.1 (.int a)) ∘ fun e : Int × (Int × List Nat) => (V.int e.1, V.tup [.int e.2.1, .str e.2.2])) = fun e => decide (e.1 = a) := rfl
  rw [e]
  cases T.find? fun e => decide (e.1 = a) <;> rfl
theorem otE_key (T : OT) : ∀ e ∈ otE T, ∃ j, e.1 = V.int j := fun e he => by
  unfold otE at he
  obtain ⟨e0, _, rfl⟩ := List.mem_map.mp he
  exact ⟨e0.1, rfl⟩
theorem otE_len (T : OT) : (otE T).length = T.length := List.length_map ..
noncomputable def kindOf (s : List Nat) : Nat := if s = [102, 120] ∨ s = [102, 121] then 0 else if s = [120, 102, 120] ∨ s = [120, 102, 121] ∨ s = [121, 102, 120] then 1 else 2
theorem kind3 (s : List Nat) : kindOf s = 0 ∨ kindOf s = 1 ∨ kindOf s = 2 := by
  unfold kindOf
  split
  · exact .inl rfl
  · split
    · exact .inr (.inl rfl)
    · exact .inr (.inr rfl)
noncomputable def kindV : Nat → V
  | 0 => .str [112, 114, 101, 102, 105, 120]
  | 1 => .str [105, 110, 102, 105, 120]
  | _ => .str [112, 111, 115, 116, 102, 105, 120]
noncomputable def types : List (List Nat) := [[121, 102, 120], [102, 121], [120, 102, 121], [120, 102, 120], [102, 120], [120, 102], [121, 102]]
end Mine.PJ

namespace Mine.PJ
open Mine

theorem dig_pad (n : Nat) (hn : 0 < n) : ∀ (k r : Nat), r < 10 ^ (k + 1) → Nat.toDigits 10 (n * 10 ^ (k + 1) + r) = Nat.toDigits 10 n ++ (List.replicate (k + 1 - (Nat.toDigits 10 r).length) '0' ++ Nat.toDigits 10 r)
  | 0, r, h => by
    have h10 : r < 10 := h
    rw [Nat.toDigits_of_lt_base h10]
    have := Nat.toDigits_append_toDigits (b := 10) (n := n) (d := r) (by decide) hn h10
    rw [Nat.toDigits_of_lt_base h10] at this
    simp only [Nat.zero_add, Nat.pow_one, List.length_singleton, Nat.sub_self, List.replicate_zero, List.nil_append]
    rw [this, Nat.mul_comm]
  | k + 1, r, h => by
    have hr : r / 10 < 10 ^ (k + 1) := by rw [Nat.div_lt_iff_lt_mul (by decide)]; rw [Nat.pow_succ] at h; exact h
    have hd : r % 10 < 10 := Nat.mod_lt _ (by decide)
    have ih := dig_pad n hn k (r / 10) hr
    have hpos : 0 < n * 10 ^ (k + 1) + r / 10 := Nat.lt_of_lt_of_le (Nat.mul_pos hn (Nat.pow_pos (by decide))) (Nat.le_add_right _ _)
    have e1 : n * 10 ^ (k + 1 + 1) + r = 10 * (n * 10 ^ (k + 1) + r / 10) + r % 10 := by
      have := Nat.div_add_mod r 10
      rw [Nat.pow_succ, Nat.mul_add, ← Nat.mul_assoc]
      have e : n * 10 ^ (k + 1) * 10 = 10 * (n * 10 ^ (k + 1)) := Nat.mul_comm _ _
      omega
    rw [e1, ← Nat.toDigits_append_toDigits (by decide) hpos hd, ih, List.append_assoc]
    congr 1
    by_cases h0 : r / 10 = 0
    · have hlt : r < 10 := by omega
      rw [h0, Nat.mod_eq_of_lt hlt, Nat.toDigits_of_lt_base hlt, Nat.toDigits_zero]
      simp only [List.length_singleton, Nat.add_sub_cancel]
      rw [show ['0'] = List.replicate 1 '0' from rfl, List.replicate_append_replicate]
    · have e2 := Nat.toDigits_append_toDigits (b := 10) (n := r / 10) (d := r % 10) (by decide) (by omega) hd
      rw [show 10 * (r / 10) + r % 10 = r from Nat.div_add_mod r 10] at e2
      rw [← e2, Nat.toDigits_of_lt_base hd]
      simp only [List.length_append, List.length_singleton]
      rw [List.append_assoc, show k + 1 + 1 - ((Nat.toDigits 10 (r / 10)).length + 1) = k + 1 - (Nat.toDigits 10 (r / 10)).length by omega]
theorem show_pad {q r : Nat} (hq : 0 < q) (h : r < 10 ^ 18) : digits10 (q * 10 ^ 18 + r) = digits10 q ++ (List.replicate (18 - (digits10 r).length) 48 ++ digits10 r) := by
  unfold digits10
  rw [dig_pad q hq 17 r h]
  simp
theorem dig_ok (m : Nat) : ∀ c ∈ digits10 m, 48 ≤ c ∧ c ≤ 57 := by
  unfold digits10
  intro c hc
  obtain ⟨ch, h1, rfl⟩ := List.mem_map.mp hc
  have := Nat.isDigit_of_mem_toDigits (by decide) (by decide) h1
  simp only [Char.isDigit, Bool.and_eq_true, decide_eq_true_eq] at this
  exact ⟨this.1, this.2⟩
theorem dig_len {m k : Nat} (hk : 0 < k) (h : m < 10 ^ k) : (digits10 m).length ≤ k := by
  unfold digits10
  rw [List.length_map]
  exact (Nat.length_toDigits_le_iff (by decide) hk).mpr h
theorem showI_nat (m : Nat) : showI (m : Int) = digits10 m := by unfold showI; rw [if_neg (by omega)]; simp

end Mine.PJ

namespace Mine.G
open Mine

inductive SV where
  | p (v : V)
  | r (i : Nat)
  | l (xs : List V)
  | al (xs : List V)
  | lp (xs : List V) (v : V)
  | no
inductive OB where
  | inst (C : Nat) (fs : List (Nat × SV))
  | list (xs : List V)
  | rlist (is : List Nat)
  | dict (es : List (V × V))
  | fz (ds : List DictEntry) (n : Nat)
noncomputable abbrev Env := List (Option SV)
noncomputable abbrev Gam := List OB
inductive FQ where
  | next | brk
  | ret (s : SV)
noncomputable abbrev KE := SV → Gam → Prop
noncomputable abbrev KS := FQ → Env → Gam → Prop
noncomputable def nil_ : AH := fun _ => none
noncomputable def qIf (b : Bool) (A B : Prop) : Prop := match b with
  | true => A
  | false => B
noncomputable def glen : Gam → Nat
  | [] => 0
  | _ :: r => glen r + 1
noncomputable def nthG : Gam → Nat → Option OB
  | [], _ => none
  | x :: _, 0 => some x
  | _ :: r, i + 1 => nthG r i
noncomputable def putG : Gam → Nat → OB → Gam
  | [], _, _ => []
  | _ :: r, 0, o => o :: r
  | x :: r, i + 1, o => x :: putG r i o
noncomputable def nthE : Env → Nat → Option SV
  | [], _ => none
  | x :: _, 0 => x
  | _ :: r, i + 1 => nthE r i
noncomputable def setE : Env → Nat → SV → Env
  | [], _, _ => []
  | _ :: r, 0, v => some v :: r
  | x :: r, i + 1, v => x :: setE r i v
noncomputable def hasF : List (Nat × SV) → Nat → Bool
  | [], _ => false
  | e :: r, k => (e.1 == k) || hasF r k
noncomputable def lookF : List (Nat × SV) → Nat → Option SV
  | [], _ => none
  | e :: r, k => match e.1 == k with
    | true => some e.2
    | false => lookF r k
noncomputable def putF : List (Nat × SV) → Nat → SV → List (Nat × SV)
  | [], k, x => [(k, x)]
  | e :: r, k, x => match e.1 == k with
    | true => (e.1, x) :: r
    | false => e :: putF r k x
noncomputable def allP : List SV → Option (List V)
  | [] => some []
  | .p v :: r => (match allP r with
    | some vs => some (v :: vs)
    | none => none)
  | _ :: _ => none
noncomputable def allR : List SV → Option (List Nat)
  | [] => some []
  | .r i :: r => (match allR r with
    | some vs => some (i :: vs)
    | none => none)
  | _ :: _ => none
noncomputable def toArg : SV → SV
  | .l xs => .al xs
  | .lp _ _ => .no
  | s => s
noncomputable def lst : SV → Option (List V)
  | .l xs => some xs
  | .al xs => some xs
  | _ => none
noncomputable def lstG (s : SV) (Γ : Gam) : Option (List V) := match s with
  | .l xs => some xs
  | .al xs => some xs
  | .r i => (match nthG Γ i with
    | some (.list xs) => some xs
    | _ => none)
  | _ => none
noncomputable def lenOk (n : Nat) : Bool := Nat.ble n lim

structure Tb where
  aok : Nat → Nat → Bool
  mok : Nat → Nat → Option Nat
  nok : Nat → Option Nat
  gl : Nat → V
noncomputable abbrev Call := Nat → Nat → List SV → Gam → KE → Prop

noncomputable def qTru (s : SV) (Γ : Gam) (P : Bool → Prop) : Prop := match s with
  | .p v => truW v nil_ P
  | s => match lstG s Γ with
    | some xs => P (!xs.isEmpty)
    | none => False
noncomputable def qAdd (op : Operator) (x y : SV) (Γ : Gam) (K : KE) : Prop := match op with
  | .Add => (match lst x with
    | some xs => (match lst y with
      | some ys => lenP (xs.length + ys.length) (K (.l (xs ++ ys)) Γ)
      | none => False)
    | none => False)
  | _ => False
noncomputable def qBin (op : Operator) (x y : SV) (Γ : Gam) (K : KE) : Prop := match x with
  | .p a => (match y with
    | .p b => binW op a b nil_ fun v _ => K (.p v) Γ
    | _ => False)
  | x => qAdd op x y Γ K
noncomputable def qIn (a : V) (y : SV) (Γ : Gam) (P : Bool → Prop) : Prop := match y with
  | .p b => inW a b nil_ P
  | .r i => (match nthG Γ i with
    | some (.list xs) => inL a xs P
    | some (.dict es) => inD a es P
    | _ => False)
  | .l xs => inL a xs P
  | .al xs => inL a xs P
  | _ => False
noncomputable def qCmp0 (op : CmpOp) (x y : SV) (P : Bool → Prop) : Prop := match x with
  | .p a => (match y with
    | .p b => cmpW op a b nil_ P
    | _ => False)
  | _ => False
noncomputable def qCmp (op : CmpOp) (x y : SV) (Γ : Gam) (P : Bool → Prop) : Prop := match op with
  | .In => (match x with
    | .p a => qIn a y Γ P
    | _ => False)
  | .NotIn => (match x with
    | .p a => qIn a y Γ fun t => P (!t)
    | _ => False)
  | .IsNot => (match x with
    | .r _ => (match y with
      | .p .none => P true
      | _ => False)
    | x => qCmp0 .IsNot x y P)
  | op => qCmp0 op x y P
noncomputable def qAttr (T : Tb) (o : SV) (k : Nat) (Γ : Gam) (K : KE) : Prop := match o with
  | .r i => (match nthG Γ i with
    | some (.inst C fs) => (match lookF fs k with
      | some s => (match T.aok C k with
        | true => K s Γ
        | false => False)
      | none => False)
    | _ => False)
  | _ => False
noncomputable def nthV : List V → Nat → Option V
  | [], _ => none
  | x :: _, 0 => some x
  | _ :: r, i + 1 => nthV r i
noncomputable def tupSub (vs : List V) (i : V) (P : V → Prop) : Prop := match i with
  | .int (.ofNat j) => (match lenOk vs.length with
    | true => (match nthV vs j with
      | some x => P x
      | none => False)
    | false => False)
  | i => subW (.tup vs) i nil_ fun v _ => P v
noncomputable def listSub (xs : List V) (i : SV) (P : V → Prop) : Prop := match i with
  | .p (.int j) => ∃ k x, idx xs.length j = some k ∧ xs[k]? = some x ∧ P x
  | _ => False
noncomputable def qSub (x i : SV) (Γ : Gam) (K : KE) : Prop := match x with
  | .p a => (match i with
    | .p b => (match a with
      | .tup vs => tupSub vs b fun v => K (.p v) Γ
      | .str s => subW (.str s) b nil_ fun v _ => K (.p v) Γ
      | _ => False)
    | _ => False)
  | .l xs => listSub xs i fun v => K (.p v) Γ
  | .al xs => listSub xs i fun v => K (.p v) Γ
  | .r o => (match nthG Γ o with
    | some (.list xs) => listSub xs i fun v => K (.p v) Γ
    | some (.rlist is) => (match i with
      | .p (.int j) => ∃ k m, idx is.length j = some k ∧ is[k]? = some m ∧ K (.r m) Γ
      | _ => False)
    | some (.dict es) => (match i with
      | .p k => keysOk2 k es ∧ ∃ x, lookV es k = some x ∧ K (.p x) Γ
      | _ => False)
    | _ => False)
  | _ => False
noncomputable def qSlice (x lo hi : SV) (Γ : Gam) (K : KE) : Prop := match lo with
  | .p a => (match hi with
    | .p b => (match partI a with
      | some i => (match partI b with
        | some j => (match lst x with
          | some xs => K (.l (cut xs i j)) Γ
          | none => False)
        | none => False)
      | none => False)
    | _ => False)
  | _ => False
noncomputable def qLen (s : SV) (Γ : Gam) (K : KE) : Prop := match s with
  | .p v => biW .len [v] nil_ fun v _ => K (.p v) Γ
  | s => match lstG s Γ with
    | some xs => K (.p (.int xs.length)) Γ
    | none => False
noncomputable def qBi (b : BI) (args : List SV) (Γ : Gam) (K : KE) : Prop := match b with
  | .len => (match args with
    | [s] => qLen s Γ K
    | _ => False)
  | b => match allP args with
    | some vs => biW b vs nil_ fun v _ => K (.p v) Γ
    | none => False
noncomputable def isLst (o : SV) (Γ : Gam) : Bool := match o with
  | .r i => (match nthG Γ i with
    | some (.list _) => true
    | _ => false)
  | _ => false
noncomputable def isDct (o : SV) (Γ : Gam) : Bool := match o with
  | .r i => (match nthG Γ i with
    | some (.dict _) => true
    | _ => false)
  | _ => false
noncomputable def isStr (o : SV) : Bool := match o with
  | .p (.str _) => true
  | _ => false
noncomputable def kBm (m : BM) (o : SV) (Γ : Gam) : Bool := match m with
  | .append => isLst o Γ
  | .pop => isLst o Γ
  | .get => isDct o Γ
  | .reverse => false
  | .join => isStr o
  | .zfill => isStr o
  | .startswith => isStr o
noncomputable def bmL (m : BM) (i : Nat) (xs : List V) (args : List SV) (Γ : Gam) (K : KE) : Prop := match m with
  | .append => (match args with
    | [s] => (match s with
      | .p x => xs.length + 1 ≤ lim ∧ K (.p .none) (putG Γ i (.list (xs ++ [x])))
      | _ => False)
    | _ => False)
  | .pop => (match args with
    | [] => ∃ ys x, xs = ys ++ [x] ∧ K (.p x) (putG Γ i (.list ys))
    | _ => False)
  | _ => False
noncomputable def bmD (m : BM) (es : List (V × V)) (args : List SV) (Γ : Gam) (K : KE) : Prop := match m with
  | .get => (match args with
    | [.p k] => keysOk2 k es ∧ K (.p ((lookV es k).getD .none)) Γ
    | [.p k, .p d] => keysOk k es ∧ K (.p ((lookV es k).getD d)) Γ
    | _ => False)
  | _ => False
noncomputable def bmJ (s : List Nat) (a : SV) (Γ : Gam) (K : KE) : Prop := match s with
  | [] => (match lstG a Γ with
    | some xs => ∃ t, catS xs = some t ∧ t.length ≤ lim ∧ K (.p (.str t)) Γ
    | none => False)
  | _ => False
noncomputable def bmP (m : BM) (a : V) (args : List SV) (Γ : Gam) (K : KE) : Prop := match allP args with
  | some vs => bmW m a vs nil_ fun v _ => K (.p v) Γ
  | none => False
noncomputable def qBm (m : BM) (o : SV) (args : List SV) (Γ : Gam) (K : KE) : Prop := match o with
  | .r i => (match nthG Γ i with
    | some (.list xs) => bmL m i xs args Γ K
    | some (.dict es) => bmD m es args Γ K
    | _ => False)
  | .p a => (match m with
    | .join => (match a with
      | .str s => (match args with
        | [b] => bmJ s b Γ K
        | _ => False)
      | _ => False)
    | .zfill => bmP .zfill a args Γ K
    | .startswith => bmP .startswith a args Γ K
    | _ => False)
  | _ => False
noncomputable def qMap (C : Call) (n : Nat) (g : V) (y : SV) : List V → List V → Gam → KE → Prop
  | [], acc, Γ, K => K (.p (.tup acc)) Γ
  | x :: xs, acc, Γ, K => (match g with
    | .ref a => C n a [.p x, y] Γ fun s Γ' => (match s with
      | .p v => lenP (acc.length + 1) (qMap C n g y xs (acc ++ [v]) Γ' K)
      | _ => False)
    | _ => False)
noncomputable def qForD (B : Env → Gam → KS → Prop) (i j c : Nat) (ds : List DictEntry) (m : Nat) (es0 : List (V × V)) : List (V × V) → Env → Gam → KS → Prop
  | [], env, Γ, R => nthG Γ c = some (.fz ds m) ∧ R .next env (putG Γ c (.dict es0))
  | x :: xs, env, Γ, R => nthG Γ c = some (.fz ds m) ∧ B (setE (setE env i (.p x.1)) j (.p x.2)) Γ fun fl env' Γ' => match fl with
    | .next => qForD B i j c ds m es0 xs env' Γ' R
    | _ => False
noncomputable def iterP (v : V) (k : List V → Prop) : Prop := match v with
  | .tup vs => (match lenOk vs.length with
    | true => k vs
    | false => False)
  | .str s => k (s.map fun c => .str [c])
  | _ => False
noncomputable def isX : PE → Option Nat
  | .x j => some j
  | _ => none
noncomputable def qHold (env : Env) (j : Nat) (Γ : Gam) (k : List V → Env → Prop) : Prop := match nthE env j with
  | some (.l xs) => k xs (setE env j (.al xs))
  | some (.al xs) => k xs env
  | some (.p v) => iterP v fun xs => k xs env
  | _ => False
noncomputable def qHoldL (env : Env) (j : Nat) (k : List V → Env → Prop) : Prop := match nthE env j with
  | some (.l xs) => k xs (setE env j (.al xs))
  | some (.al xs) => k xs env
  | _ => False
noncomputable def qFor0 (B : Env → Gam → KS → Prop) (st : Env → V → Env) : List V → Env → Gam → KS → Prop
  | [], env, Γ, R => R .next env Γ
  | x :: xs, env, Γ, R => B (st env x) Γ fun fl env' Γ' => match fl with
    | .next => qFor0 B st xs env' Γ' R
    | .brk => R .next env' Γ'
    | .ret s => R (.ret s) env' Γ'
noncomputable def qWh0 (t : Env → Gam → (Bool → Gam → Prop) → Prop) (B : Env → Gam → KS → Prop) : Nat → Env → Gam → KS → Prop
  | 0, _, _, _ => False
  | k + 1, env, Γ, R => t env Γ fun c Γ₁ => qIf c (B env Γ₁ fun fl env' Γ' => match fl with
    | .next => qWh0 t B k env' Γ' R
    | .brk => R .next env' Γ'
    | .ret s => R (.ret s) env' Γ') (R .next env Γ₁)

@[irreducible] def qFor (B : Env → Gam → KS → Prop) (st : Env → V → Env) (xs : List V) (env : Env) (Γ : Gam) (R : KS) : Prop := qFor0 B st xs env Γ R
@[irreducible] def qWh (t : Env → Gam → (Bool → Gam → Prop) → Prop) (B : Env → Gam → KS → Prop) (k : Nat) (env : Env) (Γ : Gam) (R : KS) : Prop := qWh0 t B k env Γ R
theorem qFor_eq {B : Env → Gam → KS → Prop} {st : Env → V → Env} {xs : List V} {env : Env} {Γ : Gam} {R : KS} : qFor B st xs env Γ R = qFor0 B st xs env Γ R := by unfold qFor; rfl
theorem qWh_eq {t : Env → Gam → (Bool → Gam → Prop) → Prop} {B : Env → Gam → KS → Prop} {k : Nat} {env : Env} {Γ : Gam} {R : KS} : qWh t B k env Γ R = qWh0 t B k env Γ R := by unfold qWh; rfl
theorem qIf_T {A B : Prop} : qIf true A B = A := by unfold qIf; rfl
theorem qIf_F {A B : Prop} : qIf false A B = B := by unfold qIf; rfl
mutual
noncomputable def wqE (T : Tb) (C : Call) (n : Nat) : PE → Env → Gam → KE → Prop
  | .bad, _, _, _ => False
  | .c v, _, Γ, K => K (.p v) Γ
  | .x i, env, Γ, K => (match nthE env i with
    | some s => K (toArg s) Γ
    | none => False)
  | .g i, _, Γ, K => K (.p (T.gl i)) Γ
  | .bin op a b, env, Γ, K => wqE T C n a env Γ fun x Γ₁ => wqE T C n b env Γ₁ fun y Γ₂ => qBin op x y Γ₂ K
  | .neg a, env, Γ, K => wqE T C n a env Γ fun x Γ₁ => (match x with
    | .p (.int i) => K (.p (.int (-i))) Γ₁
    | _ => False)
  | .not a, env, Γ, K => wqE T C n a env Γ fun x Γ₁ => qTru x Γ₁ fun t => K (.p (.bool (!t))) Γ₁
  | .bop isAnd es, env, Γ, K => wqBop T C n isAnd es env Γ K
  | .ite t a b, env, Γ, K => wqE T C n t env Γ fun x Γ₁ => qTru x Γ₁ fun t => qIf t (wqE T C n a env Γ₁ K) (wqE T C n b env Γ₁ K)
  | .cmp op a b, env, Γ, K => wqE T C n a env Γ fun x Γ₁ => wqE T C n b env Γ₁ fun y Γ₂ => qCmp op x y Γ₂ fun t => K (.p (.bool t)) Γ₂
  | .attr o k, env, Γ, K => wqE T C n o env Γ fun x Γ₁ => qAttr T x k Γ₁ K
  | .sub o i, env, Γ, K => wqE T C n o env Γ fun x Γ₁ => wqE T C n i env Γ₁ fun y Γ₂ => qSub x y Γ₂ K
  | .slice o lo hi, env, Γ, K => wqE T C n o env Γ fun x Γ₁ => wqE T C n lo env Γ₁ fun a Γ₂ => wqE T C n hi env Γ₂ fun b Γ₃ => qSlice x a b Γ₃ K
  | .bi b es, env, Γ, K => wqEs T C n es env Γ fun vs Γ₁ => qBi b vs Γ₁ K
  | .bm m o es, env, Γ, K => wqE T C n o env Γ fun x Γ₁ => (match kBm m x Γ₁ with
    | true => wqEs T C n es env Γ₁ fun vs Γ₂ => qBm m x vs Γ₂ K
    | false => False)
  | .call f es, env, Γ, K => wqEs T C n es env Γ fun vs Γ₁ => (match T.gl f with
    | .ref a => C n a (vs.map toArg) Γ₁ K
    | _ => False)
  | .new f es, env, Γ, K => wqEs T C n es env Γ fun vs Γ₁ => (match T.gl f with
    | .ref c => (match T.nok c with
      | some f0 => (match n with
        | m + 1 => C m f0 (.r (glen Γ₁) :: vs.map toArg) (Γ₁ ++ [.inst c []]) fun s Γ' => (match s with
          | .p .none => K (.r (glen Γ₁)) Γ'
          | _ => False)
        | 0 => False)
      | none => False)
    | _ => False)
  | .meth o k es, env, Γ, K => wqE T C n o env Γ fun x Γ₁ => (match x with
    | .r i => (match nthG Γ₁ i with
      | some (.inst c fs) => (match T.mok c k with
        | some f => (match hasF fs k with
          | false => wqEs T C n es env Γ₁ fun vs Γ₂ => C n f (.r i :: vs.map toArg) Γ₂ K
          | true => False)
        | none => False)
      | _ => False)
    | _ => False)
  | .list es, env, Γ, K => wqEs T C n es env Γ fun vs Γ₁ => (match lenOk vs.length with
    | true => (match allP vs with
      | some xs => K (.l xs) Γ₁
      | none => (match allR vs with
        | some is => K (.r (glen Γ₁)) (Γ₁ ++ [.rlist is])
        | none => False))
    | false => False)
  | .tuple es, env, Γ, K => wqEs T C n es env Γ fun vs Γ₁ => (match lenOk vs.length with
    | true => (match allP vs with
      | some xs => K (.p (.tup xs)) Γ₁
      | none => False)
    | false => False)
  | .comp f i e, env, Γ, K => (match nthE env i with
    | some s => wqE T C n e env Γ fun x Γ₁ => (match x with
      | .p (.tup vs) => qMap C n (T.gl f) (toArg s) vs [] Γ₁ K
      | _ => False)
    | none => False)
  | .dict, _, Γ, K => K (.r (glen Γ)) (Γ ++ [.dict []])
  | .joinrev sep o, env, Γ, K => wqE T C n sep env Γ fun y Γ₀ => (match y with
    | .p (.str []) => wqE T C n o env Γ₀ fun x Γ₁ => (match lst x with
      | some xs => ∃ t, catS xs.reverse = some t ∧ t.length ≤ lim ∧ K (.p (.str t)) Γ₁
      | none => False)
    | _ => False)
noncomputable def wqEs (T : Tb) (C : Call) (n : Nat) : PEs → Env → Gam → (List SV → Gam → Prop) → Prop
  | .nil, _, Γ, K => K [] Γ
  | .cons e es, env, Γ, K => wqE T C n e env Γ fun x Γ₁ => wqEs T C n es env Γ₁ fun xs Γ₂ => K (x :: xs) Γ₂
noncomputable def wqBop (T : Tb) (C : Call) (n : Nat) (isAnd : Bool) : PEs → Env → Gam → KE → Prop
  | .nil, _, _, _ => False
  | .cons e es, env, Γ, K => wqE T C n e env Γ fun x Γ₁ => match es with
    | .nil => K x Γ₁
    | .cons _ _ => qTru x Γ₁ fun t => match isAnd with
      | true => qIf t (wqBop T C n isAnd es env Γ₁ K) (K x Γ₁)
      | false => qIf t (K x Γ₁) (wqBop T C n isAnd es env Γ₁ K)
noncomputable def wqSrc (T : Tb) (C : Call) (n : Nat) : Src → Env → Gam → (List V → Env → Gam → Prop) → Prop
  | .val e, env, Γ, K => (match isX e with
    | some j => qHold env j Γ fun xs env₁ => K xs env₁ Γ
    | none => wqE T C n e env Γ fun x Γ₁ => (match x with
      | .p v => iterP v fun xs => K xs env Γ₁
      | .l xs => K xs env Γ₁
      | _ => False))
  | .range e, env, Γ, K => wqE T C n e env Γ fun x Γ₁ => (match x with
    | .p v => rangeW v fun xs _ => K xs env Γ₁
    | _ => False)
  | .rev e, env, Γ, K => (match isX e with
    | some j => qHoldL env j fun xs env₁ => K xs.reverse env₁ Γ
    | none => False)
end

noncomputable def unpE : Env → List Nat → List V → Option Env
  | env, [], [] => some env
  | env, i :: is, v :: vs => unpE (setE env i (.p v)) is vs
  | _, _, _ => none
noncomputable def isApp : PE → Option (Nat × PE)
  | .bm .append (.x j) (.cons e .nil) => some (j, e)
  | _ => none
noncomputable def isPair : PE → Option (Nat × PE)
  | .tuple (.cons (.x j) (.cons e .nil)) => some (j, e)
  | _ => none
noncomputable def isIte : PE → Option (PE × PE × PE)
  | .ite t a b => some (t, a, b)
  | _ => none
noncomputable def wqRet (T : Tb) (C : Call) (n : Nat) (e : PE) (env : Env) (Γ : Gam) (R : KS) : Prop := match isX e with
  | some j => (match nthE env j with
    | some (.al _) => False
    | some s => R (.ret s) env Γ
    | none => False)
  | none => (match isPair e with
    | some (j, e₁) => (match nthE env j with
      | some (.l xs) => wqE T C n e₁ env Γ fun s Γ₁ => (match s with
        | .p v => R (.ret (.lp xs v)) env Γ₁
        | _ => False)
      | _ => wqE T C n e env Γ fun s Γ₁ => (match s with
        | .al _ => False
        | s => R (.ret s) env Γ₁))
    | none => wqE T C n e env Γ fun s Γ₁ => (match s with
      | .al _ => False
      | s => R (.ret s) env Γ₁))
mutual
noncomputable def wqS (T : Tb) (C : Call) (n : Nat) (pr : List Nat) : PS → Env → Gam → KS → Prop
  | .bad, _, _, _ => False
  | .expr e, env, Γ, R => (match isApp e with
    | some (j, e₁) => (match nthE env j with
      | some (.l xs) => wqE T C n e₁ env Γ fun s Γ₁ => (match s with
        | .p x => lenP (xs.length + 1) (R .next (setE env j (.l (xs ++ [x]))) Γ₁)
        | _ => False)
      | _ => wqE T C n e env Γ fun s Γ₁ => R .next env Γ₁)
    | none => wqE T C n e env Γ fun s Γ₁ => R .next env Γ₁)
  | .asg i e, env, Γ, R => wqE T C n e env Γ fun s Γ₁ => (match s with
    | .p v => R .next (setE env i (.p v)) Γ₁
    | .r j => R .next (setE env i (.r j)) Γ₁
    | .l xs => (match pr.contains i with
      | true => R .next (setE env i (.r (glen Γ₁))) (Γ₁ ++ [.list xs])
      | false => R .next (setE env i (.l xs)) Γ₁)
    | _ => False)
  | .unpack is e, env, Γ, R => wqE T C n e env Γ fun s Γ₁ => (match s with
    | .p (.tup vs) => (match unpE env is vs with
      | some env₁ => R .next env₁ Γ₁
      | none => False)
    | .lp xs v => (match is with
      | [i, j] => R .next (setE (setE env i (.l xs)) j (.p v)) Γ₁
      | _ => False)
    | _ => False)
  | .setattr o k e, env, Γ, R => wqE T C n e env Γ fun s Γ₁ => wqE T C n o env Γ₁ fun y Γ₂ => (match y with
    | .r i => (match nthG Γ₂ i with
      | some (.inst c fs) => (match T.aok c k with
        | true => (match Nat.ble fs.length 100 with
          | true => (match s with
            | .p v => R .next env (putG Γ₂ i (.inst c (putF fs k (.p v))))
            | .r j => R .next env (putG Γ₂ i (.inst c (putF fs k (.r j))))
            | .l xs => R .next env (putG (Γ₂ ++ [.list xs]) i (.inst c (putF fs k (.r (glen Γ₂)))))
            | _ => False)
          | false => False)
        | false => False)
      | _ => False)
    | _ => False)
  | .setsub o i e, env, Γ, R => wqE T C n e env Γ fun s Γ₁ => wqE T C n o env Γ₁ fun y Γ₂ => wqE T C n i env Γ₂ fun z Γ₃ => (match y with
    | .r a => (match nthG Γ₃ a with
      | some (.dict es) => (match z with
        | .p k => (match s with
          | .p x => keysOk k es ∧ es.length + 1 ≤ lim ∧ R .next env (putG Γ₃ a (.dict (putV es k x)))
          | _ => False)
        | _ => False)
      | _ => False)
    | _ => False)
  | .ite t a b, env, Γ, R => wqE T C n t env Γ fun x Γ₁ => qTru x Γ₁ fun t => qIf t (wqSs T C n pr a env Γ₁ R) (wqSs T C n pr b env Γ₁ R)
  | .wh t b, env, Γ, R => ∃ k, qWh (fun env Γ Q => wqE T C n t env Γ fun x Γ₁ => qTru x Γ₁ fun t => Q t Γ₁) (fun env Γ R => wqSs T C n pr b env Γ R) k env Γ R
  | .for1 i s b, env, Γ, R => wqSrc T C n s env Γ fun xs env₁ Γ₁ => qFor (fun env Γ R => wqSs T C n pr b env Γ R) (fun env x => setE env i (.p x)) xs env₁ Γ₁ R
  | .forI i j e b, env, Γ, R => wqE T C n e env Γ fun x Γ₁ => (match x with
    | .r c => (match nthG Γ₁ c with
      | some (.dict es) => (∀ e ∈ es, ∃ k, e.1 = .int k) ∧ ∀ ds m, qForD (fun env Γ R => wqSs T C n pr b env Γ R) i j c ds m es es env (putG Γ₁ c (.fz ds m)) R
      | _ => False)
    | _ => False)
  | .brk, env, Γ, R => R .brk env Γ
  | .ret e, env, Γ, R => (match isIte e with
    | some (t, a, b) => wqE T C n t env Γ fun x Γ₁ => qTru x Γ₁ fun t => qIf t (wqRet T C n a env Γ₁ R) (wqRet T C n b env Γ₁ R)
    | none => wqRet T C n e env Γ R)
noncomputable def wqSs (T : Tb) (C : Call) (n : Nat) (pr : List Nat) : PSs → Env → Gam → KS → Prop
  | .nil, env, Γ, R => R .next env Γ
  | .cons s r, env, Γ, R => wqS T C n pr s env Γ fun fl env' Γ' => match fl with
    | .next => wqSs T C n pr r env' Γ' R
    | .brk => R .brk env' Γ'
    | .ret v => R (.ret v) env' Γ'
end
noncomputable def doneQ (K : KE) : KS := fun fl _ Γ => match fl with
  | .next => K (.p .none) Γ
  | .ret s => K s Γ
  | .brk => False
noncomputable def env0 (np ns : Nat) (dv : List V) (args : List SV) : Env :=
  (args ++ dv.map SV.p).map some ++ List.replicate (ns - np) none
end Mine.G

namespace Mine.G
open Mine

structure Wd where
  (A D : Nat → Addr)
noncomputable def den (w : Wd) : SV → V
  | .p v => v
  | .r i => .ref (w.A i)
  | _ => .none
noncomputable def bdS (m : Nat) : SV → Prop
  | .p _ => True
  | .r i => i < m
  | _ => False
noncomputable def bdO (m : Nat) : OB → Prop
  | .inst _ fs => ∀ e ∈ fs, bdS m e.2
  | .rlist is => ∀ i ∈ is, i < m
  | _ => True
noncomputable def denF (w : Wd) (fs : List (Nat × SV)) : List (Nat × V) := fs.map fun e => (e.1, den w e.2)
noncomputable def atO (w : Wd) (i : Nat) (H : AH) : OB → Prop
  | .inst C fs => H (w.A i) = some (.inst C (w.D i)) ∧ H (w.D i) = some (.ns (denF w fs))
  | .list xs => H (w.A i) = some (.list xs) ∧ w.D i = w.A i
  | .rlist is => H (w.A i) = some (.list (is.map fun j => .ref (w.A j))) ∧ w.D i = w.A i
  | .dict es => H (w.A i) = some (.dict es) ∧ w.D i = w.A i
  | .fz ds n => H (w.A i) = some (.fz ds n) ∧ w.D i = w.A i
theorem nthG_lt : ∀ {Γ : Gam} {i : Nat}, i < glen Γ → ∃ o, nthG Γ i = some o
  | x :: _, 0, _ => ⟨x, rfl⟩
  | _ :: r, i + 1, h => nthG_lt (Γ := r) (Nat.lt_of_succ_lt_succ h)
theorem nthG_some : ∀ {Γ : Gam} {i : Nat} {o : OB}, nthG Γ i = some o → i < glen Γ
  | _ :: _, 0, _, _ => Nat.succ_pos _
  | _ :: r, i + 1, o, h => Nat.succ_lt_succ (nthG_some (Γ := r) h)
theorem glen_put : ∀ (Γ : Gam) (i : Nat) (o : OB), glen (putG Γ i o) = glen Γ
  | [], _, _ => rfl
  | _ :: _, 0, _ => rfl
  | _ :: r, i + 1, o => congrArg (· + 1) (glen_put r i o)
theorem nthG_put : ∀ (Γ : Gam) (i j : Nat) (o : OB), i < glen Γ → nthG (putG Γ i o) j = if j = i then some o else nthG Γ j
  | _ :: _, 0, 0, _, _ => rfl
  | _ :: _, 0, _ + 1, _, _ => rfl
  | _ :: _, _ + 1, 0, _, _ => rfl
  | _ :: r, i + 1, j + 1, o, h => by
    show nthG (putG r i o) j = _
    rw [nthG_put r i j o (Nat.lt_of_succ_lt_succ h)]
    simp [nthG]
theorem glen_add (Γ : Gam) (o : OB) : glen (Γ ++ [o]) = glen Γ + 1 := by
  induction Γ with
  | nil => rfl
  | cons x r ih => exact congrArg (· + 1) ih
theorem nthG_add (Γ : Gam) (o : OB) (j : Nat) : nthG (Γ ++ [o]) j = if j = glen Γ then some o else nthG Γ j := by
  induction Γ generalizing j with
  | nil => cases j <;> rfl
  | cons x r ih => cases j with
    | zero => rfl
    | succ j => show nthG (r ++ [o]) j = _; rw [ih]; simp [glen, nthG]

structure Wo (w : Wd) (Γ : Gam) (H : AH) : Prop where
  ob : ∀ i o, nthG Γ i = some o → atO w i H o
  bd : ∀ i o, nthG Γ i = some o → bdO (glen Γ) o
  ia : ∀ i j, i < glen Γ → j < glen Γ → w.A i = w.A j → i = j
  id : ∀ i j, i < glen Γ → j < glen Γ → w.D i = w.D j → i = j
noncomputable def Foot (w : Wd) (m : Nat) (b : Addr) : Prop := ∃ i, i < m ∧ (b = w.A i ∨ b = w.D i)
structure Go (w : Wd) (m : Nat) (H : AH) (w' : Wd) (m' : Nat) (H' : AH) : Prop where
  le : m ≤ m'
  ag : ∀ i, i < m → w'.A i = w.A i ∧ w'.D i = w.D i
  fr : ∀ i, m ≤ i → i < m' → H (w'.A i) = none ∧ H (w'.D i) = none
  pr : ∀ b o, ¬ Foot w m b → H b = some o → H' b = some o
  dm : ∀ b, H' b = none → H b = none
theorem Go.refl (w : Wd) (m : Nat) (H : AH) : Go w m H w m H := ⟨Nat.le_refl _, fun _ _ => ⟨rfl, rfl⟩, fun i h h' => absurd h' (Nat.not_lt.mpr h), fun _ _ _ e => e, fun _ e => e⟩
theorem Go.foot {w w' : Wd} {m m' : Nat} {H H' : AH} (g : Go w m H w' m' H') {b : Addr} {o : AObj} (hb : H b = some o) (h : ¬ Foot w m b) : ¬ Foot w' m' b := fun ⟨i, hi, e⟩ => by
  by_cases q : i < m
  · obtain ⟨a1, a2⟩ := g.ag i q
    exact h ⟨i, q, by rw [← a1, ← a2]; exact e⟩
  · obtain ⟨f1, f2⟩ := g.fr i (Nat.not_lt.mp q) hi
    rcases e with rfl | rfl
    · rw [f1] at hb; cases hb
    · rw [f2] at hb; cases hb
theorem Go.trans {w w' w'' : Wd} {m m' m'' : Nat} {H H' H'' : AH} (g : Go w m H w' m' H') (g' : Go w' m' H' w'' m'' H'') : Go w m H w'' m'' H'' := by
  refine ⟨Nat.le_trans g.le g'.le, fun i hi => ?_, fun i hi hi' => ?_, fun b o h e => g'.pr b o (g.foot e h) (g.pr b o h e), fun b e => g.dm b (g'.dm b e)⟩
  · obtain ⟨a1, a2⟩ := g.ag i hi
    obtain ⟨b1, b2⟩ := g'.ag i (Nat.lt_of_lt_of_le hi g.le)
    exact ⟨b1.trans a1, b2.trans a2⟩
  · by_cases q : i < m'
    · obtain ⟨b1, b2⟩ := g'.ag i q
      rw [b1, b2]; exact g.fr i hi q
    · obtain ⟨f1, f2⟩ := g'.fr i (Nat.not_lt.mp q) hi'
      exact ⟨g.dm _ f1, g.dm _ f2⟩

noncomputable def VR (w : Wd) (m : Nat) (H0 H : AH) : SV → V → Prop
  | .p x, v => v = x
  | .r i, v => i < m ∧ v = .ref (w.A i)
  | .l xs, v => ∃ c, v = .ref c ∧ H c = some (.list xs) ∧ ¬ Foot w m c ∧ H0 c = none
  | .al xs, v => ∃ c, v = .ref c ∧ H c = some (.list xs) ∧ ¬ Foot w m c
  | .lp xs u, v => ∃ c, v = .tup [.ref c, u] ∧ H c = some (.list xs) ∧ ¬ Foot w m c ∧ H0 c = none
  | .no, _ => True
theorem VR.go {w w' : Wd} {m m' : Nat} {H0 H H' : AH} (g : Go w m H w' m' H') : ∀ {s : SV} {v : V}, VR w m H0 H s v → VR w' m' H0 H' s v
  | .p _, _, h => h
  | .r i, v, ⟨h, e⟩ => ⟨Nat.lt_of_lt_of_le h g.le, by rw [(g.ag i h).1]; exact e⟩
  | .l _, _, ⟨c, e, h, f, z⟩ => ⟨c, e, g.pr _ _ f h, g.foot h f, z⟩
  | .al _, _, ⟨c, e, h, f⟩ => ⟨c, e, g.pr _ _ f h, g.foot h f⟩
  | .lp _ _, _, ⟨c, e, h, f, z⟩ => ⟨c, e, g.pr _ _ f h, g.foot h f, z⟩
  | .no, _, _ => trivial
theorem VR.arg {w : Wd} {m : Nat} {H0 H1 H : AH} : ∀ {s : SV} {v : V}, VR w m H0 H s v → VR w m H1 H (toArg s) v
  | .p _, _, h => h
  | .r _, _, h => h
  | .l _, _, ⟨c, e, h, f, _⟩ => ⟨c, e, h, f⟩
  | .al _, _, h => h
  | .lp _ _, _, _ => trivial
  | .no, _, _ => trivial
theorem VR.old {w : Wd} {m : Nat} {H0 H1 H : AH} (d : ∀ b, H0 b = none → H1 b = none) : ∀ {s : SV} {v : V}, VR w m H0 H s v → VR w m H1 H s v
  | .p _, _, h => h
  | .r _, _, h => h
  | .l _, _, ⟨c, e, h, f, z⟩ => ⟨c, e, h, f, d _ z⟩
  | .al _, _, h => h
  | .lp _ _, _, ⟨c, e, h, f, z⟩ => ⟨c, e, h, f, d _ z⟩
  | .no, _, _ => trivial
theorem VR.lst {w : Wd} {m : Nat} {H0 H : AH} {xs : List V} : ∀ {s : SV} {v : V}, VR w m H0 H s v → lst s = some xs → ∃ c, v = .ref c ∧ H c = some (.list xs)
  | .l _, _, ⟨c, e, h, _⟩, q => by cases q; exact ⟨c, e, h⟩
  | .al _, _, ⟨c, e, h, _⟩, q => by cases q; exact ⟨c, e, h⟩
theorem Wo.lst {w : Wd} {Γ : Gam} {H0 H : AH} {i : Nat} {xs : List V} (W : Wo w Γ H) (e : nthG Γ i = some (.list xs)) : H (w.A i) = some (.list xs) := (W.ob i _ e).1
theorem VR.lstG {w : Wd} {Γ : Gam} {H0 H : AH} {xs : List V} (W : Wo w Γ H) : ∀ {s : SV} {v : V}, VR w (glen Γ) H0 H s v → lstG s Γ = some xs → ∃ c, v = .ref c ∧ H c = some (.list xs)
  | .l _, _, ⟨c, e, h, _⟩, q => by cases q; exact ⟨c, e, h⟩
  | .al _, _, ⟨c, e, h, _⟩, q => by cases q; exact ⟨c, e, h⟩
  | .r i, v, ⟨h, e⟩, q => by
    unfold Mine.G.lstG at q
    dsimp only at q
    split at q
    · rename_i ys z
      cases q
      exact ⟨_, e, (W.ob i _ z).1⟩
    · cases q

theorem foot_of {w : Wd} {Γ : Gam} {i : Nat} {o : OB} (e : nthG Γ i = some o) : Foot w (glen Γ) (w.A i) ∧ Foot w (glen Γ) (w.D i) := ⟨⟨i, nthG_some e, .inl rfl⟩, ⟨i, nthG_some e, .inr rfl⟩⟩
theorem Wo.tmp {w : Wd} {Γ : Gam} {H : AH} {c : Addr} {o : AObj} (W : Wo w Γ H) (h : ¬ Foot w (glen Γ) c) : Wo w Γ (H.set c o) := by
  refine ⟨fun i ob e => ?_, W.bd, W.ia, W.id⟩
  have f := foot_of (w := w) e
  have n1 : w.A i ≠ c := fun z => h (z ▸ f.1)
  have n2 : w.D i ≠ c := fun z => h (z ▸ f.2)
  have := W.ob i ob e
  cases ob with
  | inst C fs => exact ⟨by rw [AH.set_ne _ _ n1]; exact this.1, by rw [AH.set_ne _ _ n2]; exact this.2⟩
  | list xs => exact ⟨by rw [AH.set_ne _ _ n1]; exact this.1, this.2⟩
  | rlist xs => exact ⟨by rw [AH.set_ne _ _ n1]; exact this.1, this.2⟩
  | dict xs => exact ⟨by rw [AH.set_ne _ _ n1]; exact this.1, this.2⟩
  | fz _ _ => exact ⟨by rw [AH.set_ne _ _ n1]; exact this.1, this.2⟩
theorem Wo.get {w : Wd} {Γ : Gam} {H : AH} {b : Addr} (W : Wo w Γ H) : Foot w (glen Γ) b → ∃ o, H b = some o := fun ⟨i, hi, e⟩ => by
  obtain ⟨o, ho⟩ := nthG_lt hi
  have := W.ob i o ho
  cases o with
  | inst C fs => rcases e with rfl | rfl; exact ⟨_, this.1⟩; exact ⟨_, this.2⟩
  | list xs => rcases e with rfl | rfl; exact ⟨_, this.1⟩; rw [this.2]; exact ⟨_, this.1⟩
  | rlist xs => rcases e with rfl | rfl; exact ⟨_, this.1⟩; rw [this.2]; exact ⟨_, this.1⟩
  | dict xs => rcases e with rfl | rfl; exact ⟨_, this.1⟩; rw [this.2]; exact ⟨_, this.1⟩
  | fz _ _ => rcases e with rfl | rfl; exact ⟨_, this.1⟩; rw [this.2]; exact ⟨_, this.1⟩
theorem Wo.no {w : Wd} {Γ : Gam} {H : AH} {c : Addr} (W : Wo w Γ H) (h : H c = none) : ¬ Foot w (glen Γ) c := fun f => by
  obtain ⟨o, e⟩ := W.get f
  rw [h] at e; cases e
theorem Go.tmp {w : Wd} {m : Nat} {H : AH} {c : Addr} {o : AObj} (h : H c = none) : Go w m H w m (H.set c o) :=
  ⟨Nat.le_refl _, fun _ _ => ⟨rfl, rfl⟩, fun i a b => absurd b (Nat.not_lt.mpr a), fun b x _ e => by rw [AH.set_ne _ _ (ne_of_none e h)]; exact e, fun b e => by
    unfold AH.set at e
    split at e
    · cases e
    · exact e⟩
theorem Wo.put {w : Wd} {Γ : Gam} {H : AH} {i : Nat} {o o' : OB} {x : AObj} (W : Wo w Γ H) (e : nthG Γ i = some o) (hd : w.D i = w.A i) (hx : atO w i (H.set (w.A i) x) o') (hb : bdO (glen Γ) o') : Wo w (putG Γ i o') (H.set (w.A i) x) := by
  have hi := nthG_some e
  refine ⟨fun j ob q => ?_, fun j ob q => ?_, by rw [glen_put]; exact W.ia, by rw [glen_put]; exact W.id⟩
  · rw [nthG_put _ _ _ _ hi] at q
    split at q
    · rename_i z; cases q; subst z; exact hx
    · rename_i z
      have hj := nthG_some q
      have n1 : w.A j ≠ w.A i := fun y => z (W.ia j i hj hi y)
      have n2 : w.D j ≠ w.A i := fun y => z (W.id j i hj hi (y.trans hd.symm))
      have := W.ob j ob q
      cases ob with
      | inst C fs => exact ⟨by rw [AH.set_ne _ _ n1]; exact this.1, by rw [AH.set_ne _ _ n2]; exact this.2⟩
      | list xs => exact ⟨by rw [AH.set_ne _ _ n1]; exact this.1, this.2⟩
      | rlist xs => exact ⟨by rw [AH.set_ne _ _ n1]; exact this.1, this.2⟩
      | dict xs => exact ⟨by rw [AH.set_ne _ _ n1]; exact this.1, this.2⟩
      | fz _ _ => exact ⟨by rw [AH.set_ne _ _ n1]; exact this.1, this.2⟩
  · rw [glen_put]
    rw [nthG_put _ _ _ _ hi] at q
    split at q
    · cases q; exact hb
    · exact W.bd j ob q
theorem Go.put {w : Wd} {m : Nat} {H : AH} {c : Addr} {x o : AObj} (hf : Foot w m c) (hc : H c = some o) : Go w m H w m (H.set c x) :=
  ⟨Nat.le_refl _, fun _ _ => ⟨rfl, rfl⟩, fun i a b => absurd b (Nat.not_lt.mpr a), fun b y f e => by rw [AH.set_ne _ _ (fun z => f (by rw [z]; exact hf))]; exact e, fun b e => by
    unfold AH.set at e
    split at e
    · cases e
    · exact e⟩
theorem Wo.putD {w : Wd} {Γ : Gam} {H : AH} {i C : Nat} {fs fs' : List (Nat × SV)} (W : Wo w Γ H) (e : nthG Γ i = some (.inst C fs)) (hb : bdO (glen Γ) (.inst C fs')) : Wo w (putG Γ i (.inst C fs')) (H.set (w.D i) (.ns (denF w fs'))) := by
  have hi := nthG_some e
  obtain ⟨h1, h2⟩ := W.ob i _ e
  have na : ∀ j ob, nthG Γ j = some ob → w.A j ≠ w.D i := fun j ob q z => by
    have := W.ob j ob q
    cases ob with
    | inst C' fs'' => have := this.1; rw [z, h2] at this; cases this
    | list xs => have := this.1; rw [z, h2] at this; cases this
    | rlist xs => have := this.1; rw [z, h2] at this; cases this
    | dict xs => have := this.1; rw [z, h2] at this; cases this
    | fz _ _ => have := this.1; rw [z, h2] at this; cases this
  refine ⟨fun j ob q => ?_, fun j ob q => ?_, by rw [glen_put]; exact W.ia, by rw [glen_put]; exact W.id⟩
  · rw [nthG_put _ _ _ _ hi] at q
    split at q
    · rename_i z; cases q; subst z
      exact ⟨by rw [AH.set_ne _ _ (na _ _ e)]; exact h1, AH.set_same ..⟩
    · rename_i z
      have n1 := na j ob q
      have n2 : w.D j ≠ w.D i := fun y => z (W.id j i (nthG_some q) hi y)
      have := W.ob j ob q
      cases ob with
      | inst C fs => exact ⟨by rw [AH.set_ne _ _ n1]; exact this.1, by rw [AH.set_ne _ _ n2]; exact this.2⟩
      | list xs => exact ⟨by rw [AH.set_ne _ _ n1]; exact this.1, this.2⟩
      | rlist xs => exact ⟨by rw [AH.set_ne _ _ n1]; exact this.1, this.2⟩
      | dict xs => exact ⟨by rw [AH.set_ne _ _ n1]; exact this.1, this.2⟩
      | fz _ _ => exact ⟨by rw [AH.set_ne _ _ n1]; exact this.1, this.2⟩
  · rw [glen_put]
    rw [nthG_put _ _ _ _ hi] at q
    split at q
    · cases q; exact hb
    · exact W.bd j ob q
noncomputable def Wd.add (w : Wd) (m : Nat) (a d : Addr) : Wd := ⟨fun i => if i = m then a else w.A i, fun i => if i = m then d else w.D i⟩
theorem den_add {w : Wd} {m : Nat} {a d : Addr} : ∀ {s : SV}, bdS m s → den (w.add m a d) s = den w s
  | .p _, _ => rfl
  | .r i, h => by unfold den Wd.add; dsimp only; rw [if_neg (Nat.ne_of_lt h)]
theorem denF_add {w : Wd} {m : Nat} {a d : Addr} {fs : List (Nat × SV)} (h : ∀ e ∈ fs, bdS m e.2) : denF (w.add m a d) fs = denF w fs := by
  unfold denF
  exact List.map_congr_left fun e he => by rw [den_add (h e he)]
theorem bdS.mono {m m' : Nat} (h : m ≤ m') : ∀ {s : SV}, bdS m s → bdS m' s
  | .p _, _ => trivial
  | .r i, q => Nat.lt_of_lt_of_le q h
theorem bdO.mono {m m' : Nat} (h : m ≤ m') : ∀ {o : OB}, bdO m o → bdO m' o
  | .inst _ _, q => fun e he => bdS.mono h (q e he)
  | .list _, _ => trivial
  | .rlist _, q => fun i hi => Nat.lt_of_lt_of_le (q i hi) h
  | .dict _, _ => trivial
  | .fz _ _, _ => trivial
theorem atO_add {w : Wd} {Γ : Gam} {H : AH} {a d : Addr} {j : Nat} {o : OB} (W : Wo w Γ H) (q : nthG Γ j = some o) : atO (w.add (glen Γ) a d) j H o := by
  have hj : j ≠ glen Γ := Nat.ne_of_lt (nthG_some q)
  have e1 : (w.add (glen Γ) a d).A j = w.A j := if_neg hj
  have e2 : (w.add (glen Γ) a d).D j = w.D j := if_neg hj
  have := W.ob j o q
  have b := W.bd j o q
  cases o with
  | inst C fs => exact ⟨by rw [e1, e2]; exact this.1, by rw [e2, denF_add b]; exact this.2⟩
  | list xs => exact ⟨by rw [e1]; exact this.1, by rw [e1, e2]; exact this.2⟩
  | dict xs => exact ⟨by rw [e1]; exact this.1, by rw [e1, e2]; exact this.2⟩
  | fz _ _ => exact ⟨by rw [e1]; exact this.1, by rw [e1, e2]; exact this.2⟩
  | rlist is =>
    refine ⟨?_, by rw [e1, e2]; exact this.2⟩
    rw [e1, this.1]
    congr 2
    refine List.map_congr_left fun i hi => ?_
    show V.ref (w.A i) = V.ref (if i = glen Γ then a else w.A i)
    rw [if_neg (Nat.ne_of_lt (b i hi))]
theorem Wo.add {w : Wd} {Γ : Gam} {H : AH} {a d : Addr} {o : OB} (W : Wo w Γ H) (ha : ¬ Foot w (glen Γ) a) (hd : ¬ Foot w (glen Γ) d) (ho : atO (w.add (glen Γ) a d) (glen Γ) H o) (hb : bdO (glen Γ + 1) o) : Wo (w.add (glen Γ) a d) (Γ ++ [o]) H := by
  refine ⟨fun j ob q => ?_, fun j ob q => ?_, fun i j hi hj e => ?_, fun i j hi hj e => ?_⟩
  · rw [nthG_add] at q
    split at q
    · rename_i z; cases q; subst z; exact ho
    · exact atO_add W q
  · rw [glen_add]
    rw [nthG_add] at q
    split at q
    · cases q; exact hb
    · exact (W.bd j ob q).mono (Nat.le_succ _)
  · rw [glen_add] at hi hj
    have e : (if i = glen Γ then a else w.A i) = (if j = glen Γ then a else w.A j) := e
    split at e
    · rename_i z
      split at e
      · rename_i y; rw [z, y]
      · rename_i y; exact absurd ⟨j, by omega, .inl e⟩ ha
    · rename_i z
      split at e
      · exact absurd ⟨i, by omega, .inl e.symm⟩ ha
      · exact W.ia i j (by omega) (by omega) e
  · rw [glen_add] at hi hj
    have e : (if i = glen Γ then d else w.D i) = (if j = glen Γ then d else w.D j) := e
    split at e
    · rename_i z
      split at e
      · rename_i y; rw [z, y]
      · rename_i y; exact absurd ⟨j, by omega, .inr e⟩ hd
    · rename_i z
      split at e
      · exact absurd ⟨i, by omega, .inr e.symm⟩ hd
      · exact W.id i j (by omega) (by omega) e
theorem Go.add {w : Wd} {Γ : Gam} {H H' : AH} {a d : Addr} (h1 : H a = none) (h2 : H d = none) (g : Go w (glen Γ) H w (glen Γ) H') : Go w (glen Γ) H (w.add (glen Γ) a d) (glen Γ + 1) H' := by
  refine ⟨Nat.le_succ _, fun i hi => ⟨if_neg (Nat.ne_of_lt hi), if_neg (Nat.ne_of_lt hi)⟩, fun i hi hi' => ?_, g.pr, g.dm⟩
  have : i = glen Γ := by omega
  subst this
  exact ⟨by show H (if _ then _ else _) = _; rw [if_pos rfl]; exact h1, by show H (if _ then _ else _) = _; rw [if_pos rfl]; exact h2⟩
end Mine.G

namespace Mine.G
open Mine

theorem truW_emp {v : V} {H : AH} {P : Bool → Prop} (h : truW v nil_ P) : truW v H P := by
  cases v with
  | ref a => obtain ⟨xs, e, _⟩ := h; contradiction
  | _ => exact h
theorem int1_mono {a : V} {P P' : Int → Prop} (k : ∀ i, P i → P' i) (h : int1 a P) : int1 a P' := by
  cases a with
  | int i => exact k i h
  | _ => exact h.elim
theorem str1_mono {a : V} {P P' : List Nat → Prop} (k : ∀ i, P i → P' i) (h : str1 a P) : str1 a P' := by
  cases a with
  | str i => exact k i h
  | _ => exact h.elim
theorem ref1_no {a : V} {P : Nat → Prop} {A : Prop} (k : ∀ i, ¬ P i) (h : ref1 a P) : A := by
  cases a with
  | ref i => exact (k i h).elim
  | _ => exact h.elim
theorem int2_mono {a b : V} {P P' : Int → Int → Prop} (k : ∀ i j, P i j → P' i j) (h : int2 a b P) : int2 a b P' := int1_mono (fun i => int1_mono (k i)) h
theorem arg1_mono {l : List V} {P P' : V → Prop} (k : ∀ i, P i → P' i) (h : arg1 l P) : arg1 l P' := by
  cases l with
  | nil => exact h.elim
  | cons a l => cases l with
    | nil => exact k a h
    | cons _ _ => exact h.elim
theorem arg2_mono {l : List V} {P P' : V → V → Prop} (k : ∀ i j, P i j → P' i j) (h : arg2 l P) : arg2 l P' := by
  cases l with
  | nil => exact h.elim
  | cons a l => exact arg1_mono (k a) h
theorem binW_emp {op : Operator} {a b : V} {H : AH} {Q Q' : V → AH → Prop} (k : ∀ v H', Q' v H' → Q v H) (h : binW op a b nil_ Q') : binW op a b H Q := by
  cases op with
  | Add => cases a with
    | int i => exact int1_mono (fun _ => k _ _) h
    | str s => exact str1_mono (fun _ h => ⟨h.1, k _ _ h.2⟩) h
    | ref a => exact ref1_no (fun _ ⟨_, _, e, _⟩ => nomatch e) h
    | _ => exact h.elim
  | Sub => exact int2_mono (fun _ _ => k _ _) h
  | Mult => exact int2_mono (fun _ _ h => ⟨h.1, h.2.1, k _ _ h.2.2⟩) h
  | FloorDiv => exact int2_mono (fun _ _ h => ⟨h.1, h.2.1, k _ _ h.2.2⟩) h
  | Mod => exact int2_mono (fun _ _ h => ⟨h.1, h.2.1, k _ _ h.2.2⟩) h
  | Pow => exact int2_mono (fun _ _ h => ⟨h.1, h.2.1, h.2.2.1, k _ _ h.2.2.2⟩) h
  | _ => exact h.elim
theorem inW_emp {a b : V} {H : AH} {P : Bool → Prop} (h : inW a b nil_ P) : inW a b H P := by
  cases b with
  | ref i => rcases h with ⟨_, e, _⟩ | ⟨_, e, _⟩ <;> contradiction
  | _ => exact h
theorem cmpW_emp {op : CmpOp} {a b : V} {H : AH} {P : Bool → Prop} (h : cmpW op a b nil_ P) : cmpW op a b H P := by
  cases op with
  | In => exact inW_emp h
  | NotIn => exact inW_emp (P := fun t => P (!t)) h
  | _ => exact h
theorem subW_emp {o i : V} {H : AH} {Q Q' : V → AH → Prop} (k : ∀ v H', Q' v H' → Q v H) (h : subW o i nil_ Q') : subW o i H Q := by
  cases o with
  | ref c => rcases h with ⟨_, _, _, _, _, e, _⟩ | ⟨_, _, e, _⟩ <;> contradiction
  | tup vs => exact int1_mono (fun _ ⟨m, x, h1, h2, h3, h4⟩ => ⟨m, x, h1, h2, h3, k _ _ h4⟩) h
  | str s => exact int1_mono (fun _ ⟨m, x, h1, h2, h3⟩ => ⟨m, x, h1, h2, k _ _ h3⟩) h
  | _ => exact h.elim
theorem biW_emp {b : BI} {vs : List V} {H : AH} {Q Q' : V → AH → Prop} (k : ∀ v H', Q' v H' → Q v H) (h : biW b vs nil_ Q') : biW b vs H Q := by
  cases b with
  | len => exact arg1_mono (fun x h => by
      cases x with
      | str s => exact k _ _ h
      | tup vs => exact lenP_mk (lenP_inv h).1 (k _ _ (lenP_inv h).2)
      | ref a => obtain ⟨_, e, _⟩ := h; contradiction
      | _ => exact h.elim) h
  | str => exact arg1_mono (fun _ => int1_mono fun _ h => ⟨h.1, k _ _ h.2⟩) h
  | int => exact arg1_mono (fun _ => int1_mono fun _ => k _ _) h
  | chr => exact arg1_mono (fun _ => int1_mono fun _ h => ⟨h.1, h.2.1, k _ _ h.2.2⟩) h
  | ord => exact arg1_mono (fun _ => str1_mono fun l h => by
      cases l with
      | nil => exact h.elim
      | cons c r => cases r with
        | nil => exact k _ _ h
        | cons _ _ => exact h.elim) h
  | abs => exact arg1_mono (fun _ => int1_mono fun _ => k _ _) h
  | divmod => exact arg2_mono (fun _ _ => int2_mono fun _ _ h => ⟨h.1, h.2.1, k _ _ h.2.2⟩) h
  | min => exact arg2_mono (fun _ _ => int2_mono fun _ _ => k _ _) h
  | tuple => exact arg1_mono (fun _ => ref1_no fun _ ⟨_, e, _⟩ => nomatch e) h
theorem zfill_emp {o : V} {vs : List V} {H : AH} {Q Q' : V → AH → Prop} (k : ∀ v H', Q' v H' → Q v H) (h : bmW .zfill o vs nil_ Q') : bmW .zfill o vs H Q :=
  str1_mono (fun _ => arg1_mono fun _ => int1_mono fun _ h => ⟨h.1, h.2.1, h.2.2.1, h.2.2.2.1, k _ _ h.2.2.2.2⟩) h
theorem startswith_emp {o : V} {vs : List V} {H : AH} {Q Q' : V → AH → Prop} (k : ∀ v H', Q' v H' → Q v H) (h : bmW .startswith o vs nil_ Q') : bmW .startswith o vs H Q :=
  str1_mono (fun _ => arg1_mono fun _ => str1_mono fun _ => k _ _) h
theorem iterP_ok {v : V} {H : AH} {k : List V → Prop} {k' : List V → (AH → Prop) → Prop} (kk : ∀ xs, k xs → k' xs fun _ => True) (h : iterP v k) : iterW v H k' := by
  cases v with
  | tup vs =>
    unfold iterP at h
    dsimp only at h
    split at h
    · rename_i e; exact ⟨Nat.le_of_ble_eq_true e, kk _ h⟩
    · exact h.elim
  | str s => exact kk _ h
  | _ => exact h.elim
theorem nthV_get : ∀ {vs : List V} {j : Nat} {x : V}, nthV vs j = some x → vs[j]? = some x ∧ j < vs.length
  | y :: _, 0, x, h => by cases h; simp
  | _ :: r, j + 1, x, h => by
    have := nthV_get (vs := r) (j := j) h
    exact ⟨by simpa using this.1, Nat.succ_lt_succ this.2⟩
theorem tupSub_ok {vs : List V} {i : V} {H : AH} {P : V → Prop} {Q : V → AH → Prop} (k : ∀ v, P v → Q v H) (h : tupSub vs i P) : subW (.tup vs) i H Q := by
  unfold tupSub at h
  split at h
  · split at h
    · rename_i e
      split at h
      · rename_i x q
        obtain ⟨h1, h2⟩ := nthV_get q
        exact ⟨_, x, by unfold idx; rw [if_pos (by exact Int.natCast_nonneg _), if_pos (by exact Int.ofNat_lt.mpr h2)]; rfl, Nat.le_of_ble_eq_true e, h1, k _ h⟩
      · exact h.elim
    · exact h.elim
  · exact subW_emp (fun v _ q => k v q) h
section
variable {w : Wd} {Γ : Gam} {H : AH} {K : KE} {Q : V → AH → Prop} {H1 H2 H3 : AH}
noncomputable abbrev PK (w : Wd) (Γ : Gam) (H : AH) (K : KE) (Q : V → AH → Prop) : Prop := ∀ w' Γ' H' s v, Go w (glen Γ) H w' (glen Γ') H' → Wo w' Γ' H' → VR w' (glen Γ') H H' s v → K s Γ' → Q v H'
theorem PK.here (k : PK w Γ H K Q) (W : Wo w Γ H) {v : V} (h : K (.p v) Γ) : Q v H := k w Γ H (.p v) v (Go.refl ..) W rfl h
theorem PK.new (k : PK w Γ H K Q) (W : Wo w Γ H) {xs : List V} {c : Addr} (hc : H c = none) (h : K (.l xs) Γ) : Q (.ref c) (H.set c (.list xs)) :=
  k w Γ _ (.l xs) _ (Go.tmp hc) (W.tmp (W.no hc)) ⟨c, rfl, AH.set_same .., W.no hc, hc⟩ h
theorem qTru_ok {s : SV} {v : V} {P : Bool → Prop} (W : Wo w Γ H) (r : VR w (glen Γ) H1 H s v) (h : qTru s Γ P) : truW v H P := by
  cases s with
  | p x => cases r; exact truW_emp h
  | _ =>
    unfold qTru at h
    dsimp only at h
    split at h
    · rename_i xs q
      obtain ⟨c, rfl, e⟩ := r.lstG W q
      exact ⟨_, e, h⟩
    · exact h.elim
theorem qAdd_ok {op : Operator} {x y : SV} {a b : V} (W : Wo w Γ H) (ra : VR w (glen Γ) H1 H x a) (rb : VR w (glen Γ) H2 H y b) (h : qAdd op x y Γ K) (k : PK w Γ H K Q) : binW op a b H Q := by
  cases op with
  | Add =>
    unfold qAdd at h
    dsimp only at h
    split at h
    · rename_i xs q
      split at h
      · rename_i ys q'
        obtain ⟨c, rfl, e⟩ := ra.lst q
        obtain ⟨d, rfl, e'⟩ := rb.lst q'
        exact ⟨_, _, e, e', (lenP_inv h).1, fun c hc => k.new W hc (lenP_inv h).2⟩
      · exact h.elim
    · exact h.elim
  | _ => exact h.elim
theorem qBin_ok {op : Operator} {x y : SV} {a b : V} (W : Wo w Γ H) (ra : VR w (glen Γ) H1 H x a) (rb : VR w (glen Γ) H2 H y b) (h : qBin op x y Γ K) (k : PK w Γ H K Q) : binW op a b H Q := by
  cases x with
  | p a' =>
    cases ra
    cases y with
    | p b' => cases rb; exact binW_emp (fun v _ q => k.here W q) h
    | _ => exact h.elim
  | _ => exact qAdd_ok W ra rb h k
theorem qIn_ok {y : SV} {a b : V} {P : Bool → Prop} (W : Wo w Γ H) (rb : VR w (glen Γ) H2 H y b) (h : qIn a y Γ P) : inW a b H P := by
  cases y with
  | p b' => cases rb; exact inW_emp h
  | l xs => obtain ⟨c, rfl, e, _⟩ := rb; exact .inl ⟨_, e, h⟩
  | al xs => obtain ⟨c, rfl, e, _⟩ := rb; exact .inl ⟨_, e, h⟩
  | r i =>
    obtain ⟨_, rfl⟩ := rb
    unfold qIn at h
    dsimp only at h
    split at h
    · rename_i xs q; exact .inl ⟨_, (W.ob i _ q).1, h⟩
    · rename_i es q; exact .inr ⟨_, (W.ob i _ q).1, h⟩
    · exact h.elim
  | _ => exact h.elim
theorem qCmp0_ok {op : CmpOp} {x y : SV} {a b : V} {P : Bool → Prop} (ra : VR w (glen Γ) H1 H x a) (rb : VR w (glen Γ) H2 H y b) (h : qCmp0 op x y P) : cmpW op a b H P := by
  cases x with
  | p a' => cases y with
    | p b' => cases ra; cases rb; exact cmpW_emp h
    | _ => exact h.elim
  | _ => exact h.elim
theorem qCmp_ok {op : CmpOp} {x y : SV} {a b : V} {P : Bool → Prop} (W : Wo w Γ H) (ra : VR w (glen Γ) H1 H x a) (rb : VR w (glen Γ) H2 H y b) (h : qCmp op x y Γ P) : cmpW op a b H P := by
  cases op with
  | In => cases x with
    | p a' => cases ra; exact qIn_ok W rb h
    | _ => exact h.elim
  | NotIn => cases x with
    | p a' => cases ra; exact qIn_ok W rb h
    | _ => exact h.elim
  | IsNot => cases x with
    | r i =>
      obtain ⟨_, rfl⟩ := ra
      cases y with
      | p b' => cases b' with
        | none => cases rb; exact h
        | _ => exact h.elim
      | _ => exact h.elim
    | _ => exact qCmp0_ok ra rb h
  | _ => exact qCmp0_ok ra rb h
theorem listSub_ok {xs : List V} {i : SV} {c : Addr} {b : V} (W : Wo w Γ H) (e : H c = some (.list xs)) (rb : VR w (glen Γ) H2 H i b) (h : listSub xs i fun v => K (.p v) Γ) (k : PK w Γ H K Q) : subW (.ref c) b H Q := by
  cases i with
  | p j => cases j with
    | int j =>
      cases rb
      obtain ⟨m, x, h1, h2, h3⟩ := h
      exact .inl ⟨_, _, _, _, rfl, e, h1, h2, k.here W h3⟩
    | _ => exact h.elim
  | _ => exact h.elim
theorem qSub_ok {x i : SV} {a b : V} (W : Wo w Γ H) (ra : VR w (glen Γ) H1 H x a) (rb : VR w (glen Γ) H2 H i b) (h : qSub x i Γ K) (k : PK w Γ H K Q) : subW a b H Q := by
  cases x with
  | p a' =>
    cases ra
    cases i with
    | p b' =>
      cases rb
      cases a with
      | tup vs => exact tupSub_ok (fun v q => k.here W q) h
      | str s => exact subW_emp (fun v _ q => k.here W q) h
      | _ => exact h.elim
    | _ => exact h.elim
  | l xs => obtain ⟨c, rfl, e, _⟩ := ra; exact listSub_ok W e rb h k
  | al xs => obtain ⟨c, rfl, e, _⟩ := ra; exact listSub_ok W e rb h k
  | r o =>
    obtain ⟨_, rfl⟩ := ra
    unfold qSub at h
    dsimp only at h
    split at h
    · rename_i xs q; exact listSub_ok W (W.ob o _ q).1 rb h k
    · rename_i is q
      split at h
      · rename_i j
        cases rb
        obtain ⟨m, x, h1, h2, h3⟩ := h
        refine .inl ⟨_, _, _, _, rfl, (W.ob o _ q).1, by rw [List.length_map]; exact h1, by rw [List.getElem?_map, h2]; rfl, ?_⟩
        refine k w Γ H (.r x) _ (Go.refl ..) W ⟨W.bd o _ q x (List.mem_of_getElem? h2), rfl⟩ h3
      · exact h.elim
    · rename_i es q
      split at h
      · rename_i kk
        cases rb
        obtain ⟨h1, x, h2, h3⟩ := h
        exact .inr ⟨_, _, (W.ob o _ q).1, h1, h2, k.here W h3⟩
      · exact h.elim
    · exact h.elim
  | _ => exact h.elim
theorem qSlice_ok {cx : Cx} {x lo hi : SV} {a b c : V} (W : Wo w Γ H) (ra : VR w (glen Γ) H1 H x a) (rb : VR w (glen Γ) H2 H lo b) (rc : VR w (glen Γ) H3 H hi c) (h : qSlice x lo hi Γ K) (k : PK w Γ H K Q) : sliceW a b c cx H Q := by
  cases lo with
  | p b' => cases hi with
    | p c' =>
      cases rb; cases rc
      unfold qSlice at h
      dsimp only at h
      split at h
      · rename_i i e1
        split at h
        · rename_i j e2
          split at h
          · rename_i xs q
            obtain ⟨d, rfl, e⟩ := ra.lst q
            exact ⟨_, _, e1, e2, _, .inl e, fun c hc => k.new W hc h⟩
          · exact h.elim
        · exact h.elim
      · exact h.elim
    | _ => exact h.elim
  | _ => exact h.elim
noncomputable abbrev VRs (w : Wd) (m : Nat) (H0 H : AH) : List SV → List V → Prop := All2 (VR w m H0 H)
theorem VRs_p {w : Wd} {m : Nat} {H0 H : AH} : ∀ {ss : List SV} {vs us : List V}, VRs w m H0 H ss vs → allP ss = some us → vs = us
  | [], _, _, .nil, q => by cases q; rfl
  | .p x :: ss, _, us, .cons r rs, q => by
    cases r
    unfold allP at q
    split at q
    · rename_i us' e; cases q; rw [VRs_p rs e]
    · cases q
  | .r _ :: _, _, _, _, q => by cases q
  | .l _ :: _, _, _, _, q => by cases q
  | .al _ :: _, _, _, _, q => by cases q
  | .lp _ _ :: _, _, _, _, q => by cases q
  | .no :: _, _, _, _, q => by cases q
theorem VRs_r {w : Wd} {m : Nat} {H0 H : AH} : ∀ {ss : List SV} {vs : List V} {is : List Nat}, VRs w m H0 H ss vs → allR ss = some is → vs = (is.map fun j => .ref (w.A j)) ∧ ∀ i ∈ is, i < m
  | [], _, _, .nil, q => by cases q; simp
  | .r x :: ss, _, us, .cons r rs, q => by
    obtain ⟨h, rfl⟩ := r
    unfold allR at q
    split at q
    · rename_i us' e
      cases q
      obtain ⟨h1, h2⟩ := VRs_r rs e
      exact ⟨by rw [h1]; rfl, fun i hi => by
        rcases List.mem_cons.mp hi with rfl | hi
        · exact h
        · exact h2 i hi⟩
    · cases q
  | .p _ :: _, _, _, _, q => by cases q
  | .l _ :: _, _, _, _, q => by cases q
  | .al _ :: _, _, _, _, q => by cases q
  | .lp _ _ :: _, _, _, _, q => by cases q
  | .no :: _, _, _, _, q => by cases q
theorem len_ref {c : Addr} {xs : List V} (e : H c = some (.list xs)) (q : Q (.int xs.length) H) : biW .len [.ref c] H Q := ⟨_, e, q⟩
theorem qLen_ok {s : SV} {v : V} (W : Wo w Γ H) (r : VR w (glen Γ) H1 H s v) (h : qLen s Γ K) (k : PK w Γ H K Q) : biW .len [v] H Q := by
  cases s with
  | p x => cases r; exact biW_emp (fun v _ z => k.here W z) h
  | _ =>
    unfold qLen at h
    dsimp only at h
    split at h
    · rename_i xs q
      obtain ⟨c, rfl, e⟩ := r.lstG W q
      exact len_ref e (k.here W h)
    · exact h.elim
theorem qBi_ok {b : BI} {ss : List SV} {vs : List V} (W : Wo w Γ H) (ra : VRs w (glen Γ) H1 H ss vs) (h : qBi b ss Γ K) (k : PK w Γ H K Q) : biW b vs H Q := by
  have rest : (match allP ss with
    | some vs => biW b vs nil_ fun v _ => K (.p v) Γ
    | none => False) → biW b vs H Q := fun h => by
    split at h
    · rename_i us q
      rw [VRs_p ra q]
      exact biW_emp (fun v _ z => k.here W z) h
    · exact h.elim
  cases b with
  | len => cases ra with
    | nil => exact h.elim
    | cons r rs => cases rs with
      | nil =>
        exact qLen_ok W r h k
      | cons _ _ => exact h.elim
  | _ => exact rest h
end
end Mine.G

namespace Mine.G
open Mine

noncomputable def isL : SV → Bool
  | .l _ => true
  | .al _ => true
  | _ => false
noncomputable abbrev Ex := List (List V × Addr)
structure ER (w : Wd) (m : Nat) (H0 H : AH) (ex : Ex) (env : Env) (ρ : Rho) : Prop where
  ln : env.length = ρ.length
  nl : ∀ i xs u, nthE env i ≠ some (.lp xs u)
  at_ : ∀ i s, nthE env i = some s → ∃ v, slot ρ i = some v ∧ VR w m H0 H s v
  sp : ∀ i j xs s c, i ≠ j → nthE env i = some (.l xs) → slot ρ i = some (.ref c) → nthE env j = some s → isL s = true → slot ρ j ≠ some (.ref c)
  ex : ∀ e ∈ ex, H e.2 = some (.list e.1) ∧ ¬ Foot w m e.2 ∧ ∀ i xs, nthE env i = some (.l xs) → slot ρ i ≠ some (.ref e.2)
theorem ER.go {w w' : Wd} {m m' : Nat} {H0 H H' : AH} {ex : Ex} {env : Env} {ρ : Rho} (g : Go w m H w' m' H') (E : ER w m H0 H ex env ρ) : ER w' m' H0 H' ex env ρ :=
  ⟨E.ln, E.nl, fun i s e => by obtain ⟨v, h1, h2⟩ := E.at_ i s e; exact ⟨v, h1, h2.go g⟩, E.sp, fun e he => by
    obtain ⟨h1, h2, h3⟩ := E.ex e he
    exact ⟨g.pr _ _ h2 h1, g.foot h1 h2, h3⟩⟩
theorem VRs.go {w w' : Wd} {m m' : Nat} {H0 H H' : AH} (g : Go w m H w' m' H') {ss : List SV} {vs : List V} (r : VRs w m H0 H ss vs) : VRs w' m' H0 H' ss vs := r.imp fun _ _ => VR.go g
theorem VRs.arg {w : Wd} {m : Nat} {H0 H1 H : AH} {ss : List SV} {vs : List V} (r : VRs w m H0 H ss vs) : VRs w m H1 H (ss.map toArg) vs := by
  induction r with
  | nil => exact .nil
  | cons r _ ih => exact .cons r.arg ih
theorem VRs.old {w : Wd} {m : Nat} {H0 H1 H : AH} (d : ∀ b, H0 b = none → H1 b = none) {ss : List SV} {vs : List V} (r : VRs w m H0 H ss vs) : VRs w m H1 H ss vs := r.imp fun _ _ => VR.old d
theorem PK.shift {w w1 : Wd} {Γ Γ1 : Gam} {H H1 : AH} {K : KE} {Q : V → AH → Prop} (k : PK w Γ H K Q) (g : Go w (glen Γ) H w1 (glen Γ1) H1) : PK w1 Γ1 H1 K Q :=
  fun w' Γ' H' s v g' W' r h => k w' Γ' H' s v (g.trans g') W' (r.old g.dm) h
noncomputable def Cq (cx : Cx) : Call := fun n f args Γ K => ∀ (w : Wd) (H : AH) (vs : List V) (Q : V → AH → Prop), Wo w Γ H → VRs w (glen Γ) H H args vs → PK w Γ H K Q → CallOk cx n f vs H Q
theorem Cq.mono {cx : Cx} {n f : Nat} {args : List SV} {Γ : Gam} {K K' : KE} (h : Cq cx n f args Γ K) (k : ∀ s Γ', K s Γ' → K' s Γ') : Cq cx n f args Γ K' :=
  fun w H vs Q W r kk => h w H vs Q W r fun w' Γ' H' s v g W' r' q => kk w' Γ' H' s v g W' r' (k s Γ' q)
structure TbOk (T : Tb) (cx : Cx) : Prop where
  at_ : ∀ C k, T.aok C k = true → attrAt cx C k = true
  me : ∀ C k f, T.mok C k = some f → methAt cx C k = some f
  nw : ∀ C f, T.nok C = some f → makes cx C = some f
  gl : ∀ i, cx.gl i = T.gl i

theorem lookF_den {w : Wd} {k : Nat} {s : SV} : ∀ {fs : List (Nat × SV)}, lookF fs k = some s → lookN (denF w fs) k = some (den w s) ∧ ∃ e ∈ fs, e.2 = s
  | e :: r, h => by
    unfold lookF at h
    split at h
    · rename_i q; cases h
      refine ⟨?_, e, List.mem_cons_self .., rfl⟩
      unfold lookN denF; rw [List.map_cons, List.find?_cons, q]; rfl
    · rename_i q
      obtain ⟨h1, e', he, h2⟩ := lookF_den (w := w) h
      refine ⟨?_, e', List.mem_cons_of_mem _ he, h2⟩
      unfold lookN denF at h1 ⊢; rw [List.map_cons, List.find?_cons, q]; exact h1
theorem hasF_den {w : Wd} {k : Nat} : ∀ {fs : List (Nat × SV)}, hasF fs k = false → lookN (denF w fs) k = none
  | [], _ => rfl
  | e :: r, h => by
    obtain ⟨h1, h2⟩ := Bool.or_eq_false_iff.mp h
    have := hasF_den (w := w) h2
    unfold lookN denF at this ⊢; rw [List.map_cons, List.find?_cons, h1]; exact this

section
variable {cx : Cx} {T : Tb} {n : Nat} {w : Wd} {Γ : Gam} {H H0 H1 H2 : AH} {K : KE} {Q : V → AH → Prop} {env : Env} {ρ : Rho} {ex : Ex}
theorem qAttr_ok (Ts : TbOk T cx) {o : SV} {v : V} {k : Nat} (W : Wo w Γ H) (r : VR w (glen Γ) H1 H o v) (h : qAttr T o k Γ K) (kk : PK w Γ H K Q) : attrW cx v k H Q := by
  cases o with
  | r i =>
    obtain ⟨_, rfl⟩ := r
    unfold qAttr at h
    dsimp only at h
    split at h
    · rename_i C fs q
      split at h
      · rename_i s e
        split at h
        · rename_i t
          obtain ⟨h1, h2⟩ := W.ob i _ q
          obtain ⟨l1, e', he, l2⟩ := lookF_den (w := w) e
          have b := W.bd i _ q e' he
          rw [l2] at b
          refine attrW_of h1 h2 (Ts.at_ _ _ t) l1 (kk w Γ H s _ (Go.refl ..) W ?_ h)
          cases s with
          | p x => rfl
          | r j => exact ⟨b, rfl⟩
          | _ => exact b.elim
        · exact h.elim
      · exact h.elim
    · exact h.elim
  | _ => exact h.elim

noncomputable abbrev EOk (cx : Cx) (T : Tb) (n : Nat) (e : PE) : Prop := ∀ {env : Env} {Γ : Gam} {K : KE} {w : Wd} {H H0 : AH} {ex : Ex} {ρ : Rho} {Q : V → AH → Prop},
  wqE T (Cq cx) n e env Γ K → Wo w Γ H → ER w (glen Γ) H0 H ex env ρ → PK w Γ H K Q → wpE cx n e ρ H Q
noncomputable abbrev PKs (w : Wd) (Γ : Gam) (H : AH) (K : List SV → Gam → Prop) (Q : List V → AH → Prop) : Prop := ∀ w' Γ' H' ss vs, Go w (glen Γ) H w' (glen Γ') H' → Wo w' Γ' H' → VRs w' (glen Γ') H H' ss vs → K ss Γ' → Q vs H'
noncomputable abbrev EsOk (cx : Cx) (T : Tb) (n : Nat) (es : PEs) : Prop := ∀ {env : Env} {Γ : Gam} {K : List SV → Gam → Prop} {w : Wd} {H H0 : AH} {ex : Ex} {ρ : Rho} {Q : List V → AH → Prop},
  wqEs T (Cq cx) n es env Γ K → Wo w Γ H → ER w (glen Γ) H0 H ex env ρ → PKs w Γ H K Q → wpEs cx n es ρ H Q
noncomputable abbrev BopOk (cx : Cx) (T : Tb) (n : Nat) (es : PEs) : Prop := ∀ {b : Bool} {env : Env} {Γ : Gam} {K : KE} {w : Wd} {H H0 : AH} {ex : Ex} {ρ : Rho} {Q : V → AH → Prop},
  wqBop T (Cq cx) n b es env Γ K → Wo w Γ H → ER w (glen Γ) H0 H ex env ρ → PK w Γ H K Q → wpBop cx n b es ρ H Q
noncomputable abbrev SrcOk (cx : Cx) (T : Tb) (n : Nat) (s : Src) : Prop := ∀ {env : Env} {Γ : Gam} {K : List V → Env → Gam → Prop} {w : Wd} {H H0 : AH} {ex : Ex} {ρ : Rho} {Q : List V → (AH → Prop) → AH → Prop},
  wqSrc T (Cq cx) n s env Γ K → Wo w Γ H → ER w (glen Γ) H0 H ex env ρ →
  (∀ w' Γ' H' xs env' ex' G, Go w (glen Γ) H w' (glen Γ') H' → Wo w' Γ' H' → ER w' (glen Γ') H0 H' ex' env' ρ → (∀ e ∈ ex, e ∈ ex') → (∀ w'' m'' H'' env'' ρ'', ER w'' m'' H0 H'' ex' env'' ρ'' → G H'') → K xs env' Γ' → Q xs G H') → wpSrc cx n s ρ H Q

theorem qIf_ok {b : Bool} {A B A' B' : Prop} (ha : A → A') (hb : B → B') (h : qIf b A B) : if b = true then A' else B' := by
  cases b
  · rw [if_neg (by simp)]; rw [qIf_F] at h; exact hb h
  · rw [if_pos rfl]; rw [qIf_T] at h; exact ha h
theorem o_x {i : Nat} : EOk cx T n (.x i) := fun {env Γ K w H H0 ex ρ Q} h W E k => by
  replace h : (match nthE env i with
    | some s => K (toArg s) Γ
    | none => False) := h
  split at h
  · rename_i s q
    obtain ⟨v, h1, h2⟩ := E.at_ i s q
    exact ⟨v, h1, k w Γ H _ v (Go.refl ..) W h2.arg h⟩
  · exact h.elim
theorem o_bin {op : Operator} {a b : PE} (ha : EOk cx T n a) (hb : EOk cx T n b) : EOk cx T n (.bin op a b) := fun h W E k =>
  ha h W E fun _ _ _ _ _ g1 W1 r1 h1 => hb h1 W1 (E.go g1) fun _ _ _ _ _ g2 W2 r2 h2 => qBin_ok W2 (r1.go g2) r2 h2 (PK.shift k (g1.trans g2))
theorem o_neg {a : PE} (ha : EOk cx T n a) : EOk cx T n (.neg a) := fun h W E k =>
  ha h W E fun w1 Γ1 H1 s v g1 W1 r1 h1 => by
    split at h1
    · rename_i i; cases r1; exact ⟨i, rfl, (PK.shift k g1).here W1 h1⟩
    · exact h1.elim
theorem truW_mono {v : V} {H : AH} {P P' : Bool → Prop} (k : ∀ t, P t → P' t) (h : truW v H P) : truW v H P' := by
  cases v with
  | ref a => obtain ⟨xs, e, q⟩ := h; exact ⟨xs, e, k _ q⟩
  | tup _ => exact h.elim
  | _ => exact k _ h
theorem o_not {a : PE} (ha : EOk cx T n a) : EOk cx T n (.not a) := fun h W E k =>
  ha h W E fun _ _ _ _ _ g1 W1 r1 h1 => truW_mono (fun t q => (PK.shift k g1).here W1 q) (qTru_ok W1 r1 h1)
theorem o_ite {t a b : PE} (ht : EOk cx T n t) (ha : EOk cx T n a) (hb : EOk cx T n b) : EOk cx T n (.ite t a b) := fun h W E k =>
  ht h W E fun _ _ _ _ _ g1 W1 r1 h1 => truW_mono (fun t q => qIf_ok (fun z => ha z W1 (E.go g1) (PK.shift k g1)) (fun z => hb z W1 (E.go g1) (PK.shift k g1)) q) (qTru_ok W1 r1 h1)
theorem inL_mono {a : V} {l : List V} {P P' : Bool → Prop} (k : ∀ t, P t → P' t) (h : inL a l P) : inL a l P' := by
  unfold inL at h ⊢
  split at h
  · exact k _ h
  · exact h.elim
theorem bool1_mono {a : V} {P P' : Bool → Prop} (k : ∀ i, P i → P' i) (h : bool1 a P) : bool1 a P' := by
  cases a with
  | bool i => exact k i h
  | _ => exact h.elim
theorem eqW_mono {a b : V} {P P' : Bool → Prop} (k : ∀ t, P t → P' t) (h : eqW a b P) : eqW a b P' := by
  cases a with
  | tup as => obtain ⟨s, i, r, t, j, e1, e2, h⟩ := h; exact ⟨s, i, r, t, j, e1, e2, k _ h⟩
  | int i => exact int1_mono (fun _ => k _) h
  | str s => exact str1_mono (fun _ => k _) h
  | bool x => exact bool1_mono (fun _ => k _) h
  | _ => exact h.elim
theorem inW_mono {a b : V} {H : AH} {P P' : Bool → Prop} (k : ∀ t, P t → P' t) (h : inW a b H P) : inW a b H P' := by
  cases b with
  | str t => exact str1_mono (fun l h => by
      cases l with
      | nil => exact h.elim
      | cons c r => cases r with
        | nil => exact k _ h
        | cons _ _ => exact h.elim) h
  | tup vs => exact inL_mono k h
  | ref i => exact h.imp (fun ⟨x, h1, h2⟩ => ⟨x, h1, inL_mono k h2⟩) fun ⟨x, h1, h2⟩ => ⟨x, h1, h2.1, k _ h2.2⟩
  | _ => exact h.elim
theorem isNo_mono {a b : V} {P P' : Bool → Prop} (k : ∀ t, P t → P' t) (h : isNo a b P) : isNo a b P' := by
  cases b with
  | none => cases a <;> exact k _ h
  | _ => exact h.elim
theorem cmpW_mono {op : CmpOp} {a b : V} {H : AH} {P P' : Bool → Prop} (k : ∀ t, P t → P' t) (h : cmpW op a b H P) : cmpW op a b H P' := by
  cases op with
  | Eq => exact eqW_mono k h
  | NotEq => exact eqW_mono (fun t => k (!t)) h
  | In => exact inW_mono k h
  | NotIn => exact inW_mono (fun t => k (!t)) h
  | Is => exact isNo_mono k h
  | IsNot => exact isNo_mono (fun t => k (!t)) h
  | Lt => exact int2_mono (fun _ _ => k _) h
  | Gt => exact int2_mono (fun _ _ => k _) h
  | GtE => exact int2_mono (fun _ _ => k _) h
  | LtE => cases a with
    | int i => exact int1_mono (fun _ => k _) h
    | str i => exact str1_mono (fun _ => k _) h
    | _ => exact h.elim
theorem o_cmp {op : CmpOp} {a b : PE} (ha : EOk cx T n a) (hb : EOk cx T n b) : EOk cx T n (.cmp op a b) := fun h W E k =>
  ha h W E fun _ _ _ _ _ g1 W1 r1 h1 => hb h1 W1 (E.go g1) fun _ _ _ _ _ g2 W2 r2 h2 => cmpW_mono (fun t q => (PK.shift k (g1.trans g2)).here W2 q) (qCmp_ok W2 (r1.go g2) r2 h2)
theorem o_attr (Ts : TbOk T cx) {o : PE} {k : Nat} (ho : EOk cx T n o) : EOk cx T n (.attr o k) := fun h W E kk =>
  ho h W E fun _ _ _ _ _ g1 W1 r1 h1 => qAttr_ok Ts W1 r1 h1 (PK.shift kk g1)
theorem o_sub {a b : PE} (ha : EOk cx T n a) (hb : EOk cx T n b) : EOk cx T n (.sub a b) := fun h W E k =>
  ha h W E fun _ _ _ _ _ g1 W1 r1 h1 => hb h1 W1 (E.go g1) fun _ _ _ _ _ g2 W2 r2 h2 => qSub_ok W2 (r1.go g2) r2 h2 (PK.shift k (g1.trans g2))
theorem o_slice {a b c : PE} (ha : EOk cx T n a) (hb : EOk cx T n b) (hc : EOk cx T n c) : EOk cx T n (.slice a b c) := fun h W E k =>
  ha h W E fun _ _ _ _ _ g1 W1 r1 h1 => hb h1 W1 (E.go g1) fun _ _ _ _ _ g2 W2 r2 h2 => hc h2 W2 (E.go (g1.trans g2)) fun _ _ _ _ _ g3 W3 r3 h3 =>
    qSlice_ok W3 (r1.go (g2.trans g3)) (r2.go g3) r3 h3 (PK.shift k ((g1.trans g2).trans g3))
theorem o_bi {b : BI} {es : PEs} (hs : EsOk cx T n es) : EOk cx T n (.bi b es) := fun h W E k =>
  hs h W E fun _ _ _ _ _ g1 W1 r1 h1 => qBi_ok W1 r1 h1 (PK.shift k g1)
theorem o_call (Ts : TbOk T cx) {f : Nat} {es : PEs} (hs : EsOk cx T n es) : EOk cx T n (.call f es) := fun h W E k =>
  hs h W E fun w1 Γ1 H1 ss vs g1 W1 r1 h1 => by
    show callW cx n (cx.gl f) vs H1 _
    rw [Ts.gl f]
    split at h1
    · rename_i a q
      rw [q]
      exact h1 w1 H1 vs _ W1 r1.arg (PK.shift k g1)
    · exact h1.elim
theorem o_tuple {es : PEs} (hs : EsOk cx T n es) : EOk cx T n (.tuple es) := fun h W E k =>
  hs h W E fun w1 Γ1 H1 ss vs g1 W1 r1 h1 => by
    split at h1
    · rename_i l
      split at h1
      · rename_i xs q
        rw [VRs_p r1 q]
        refine ⟨?_, (PK.shift k g1).here W1 h1⟩
        rw [← VRs_p r1 q, r1.length]; exact Nat.le_of_ble_eq_true l
      · exact h1.elim
    · exact h1.elim
theorem Wo.list {xs : List V} {c : Addr} (W : Wo w Γ H) (hc : ¬ Foot w (glen Γ) c) (h : H c = some (.list xs)) : Wo (w.add (glen Γ) c c) (Γ ++ [.list xs]) H :=
  W.add hc hc ⟨by rw [show (w.add (glen Γ) c c).A (glen Γ) = c from if_pos rfl]; exact h, by rw [show (w.add (glen Γ) c c).A (glen Γ) = c from if_pos rfl, show (w.add (glen Γ) c c).D (glen Γ) = c from if_pos rfl]⟩ trivial
theorem Wo.dict {es : List (V × V)} {c : Addr} (W : Wo w Γ H) (hc : ¬ Foot w (glen Γ) c) (h : H c = some (.dict es)) : Wo (w.add (glen Γ) c c) (Γ ++ [.dict es]) H :=
  W.add hc hc ⟨by rw [show (w.add (glen Γ) c c).A (glen Γ) = c from if_pos rfl]; exact h, by rw [show (w.add (glen Γ) c c).A (glen Γ) = c from if_pos rfl, show (w.add (glen Γ) c c).D (glen Γ) = c from if_pos rfl]⟩ trivial
theorem Wo.rlist {is : List Nat} {c : Addr} (W : Wo w Γ H) (hc : ¬ Foot w (glen Γ) c) (h : H c = some (.list (is.map fun j => .ref (w.A j)))) (hb : ∀ i ∈ is, i < glen Γ) : Wo (w.add (glen Γ) c c) (Γ ++ [.rlist is]) H :=
  W.add hc hc ⟨by
    rw [show (w.add (glen Γ) c c).A (glen Γ) = c from if_pos rfl, h]
    congr 2
    refine List.map_congr_left fun i hi => ?_
    show V.ref (w.A i) = V.ref (if i = glen Γ then c else w.A i)
    rw [if_neg (Nat.ne_of_lt (hb i hi))], by rw [show (w.add (glen Γ) c c).A (glen Γ) = c from if_pos rfl, show (w.add (glen Γ) c c).D (glen Γ) = c from if_pos rfl]⟩ (fun i hi => Nat.lt_succ_of_lt (hb i hi))
theorem PK.obj {o : OB} {c : Addr} {x : AObj} (k : PK w Γ H K Q) (hc : H c = none) (W : Wo (w.add (glen Γ) c c) (Γ ++ [o]) (H.set c x)) (h : K (.r (glen Γ)) (Γ ++ [o])) : Q (.ref c) (H.set c x) := by
  refine k (w.add (glen Γ) c c) (Γ ++ [o]) _ (.r (glen Γ)) _ ?_ W ⟨?_, ?_⟩ h
  · rw [glen_add]; exact Go.add hc hc (Go.tmp hc)
  · rw [glen_add]; exact Nat.lt_succ_self _
  · rw [show (w.add (glen Γ) c c).A (glen Γ) = c from if_pos rfl]
theorem o_dict : EOk cx T n .dict := fun h W E k => fun c hc => k.obj hc ((W.tmp (W.no hc)).dict (W.no hc) (AH.set_same ..)) h
theorem o_list {es : PEs} (hs : EsOk cx T n es) : EOk cx T n (.list es) := fun h W E k =>
  hs h W E fun w1 Γ1 H1 ss vs g1 W1 r1 h1 => by
    split at h1
    · rename_i l
      refine ⟨by rw [r1.length]; exact Nat.le_of_ble_eq_true l, fun c hc => ?_⟩
      split at h1
      · rename_i xs q
        rw [VRs_p r1 q]
        exact (PK.shift k g1).new W1 hc h1
      · split at h1
        · rename_i is q
          obtain ⟨e, hb⟩ := VRs_r r1 q
          rw [e]
          exact (PK.shift k g1).obj hc ((W1.tmp (W1.no hc)).rlist (W1.no hc) (AH.set_same ..) hb) h1
        · exact h1.elim
    · exact h1.elim
theorem o_meth (Ts : TbOk T cx) {o : PE} {k : Nat} {es : PEs} (ho : EOk cx T n o) (hs : EsOk cx T n es) : EOk cx T n (.meth o k es) := fun h W E kk =>
  ho h W E fun w1 Γ1 H1 s v g1 W1 r1 h1 => by
    split at h1
    · rename_i i
      obtain ⟨hi, rfl⟩ := r1
      split at h1
      · rename_i c fs q
        split at h1
        · rename_i f e
          split at h1
          · rename_i z
            obtain ⟨b1, b2⟩ := W1.ob i _ q
            refine methW_of b1 b2 (Ts.me _ _ _ e) (hasF_den z) ?_
            refine hs h1 W1 (E.go g1) fun w2 Γ2 H2 ss vs g2 W2 r2 h2 => h2 w2 H2 _ _ W2 (.cons ?_ r2.arg) (PK.shift kk (g1.trans g2))
            exact ⟨Nat.lt_of_lt_of_le hi g2.le, by rw [(g2.ag i hi).1]⟩
          · exact h1.elim
        · exact h1.elim
      · exact h1.elim
    · exact h1.elim
theorem o_new (Ts : TbOk T cx) {f : Nat} {es : PEs} (hs : EsOk cx T n es) : EOk cx T n (.new f es) := fun h W E k =>
  hs h W E fun w1 Γ1 H1 ss vs g1 W1 r1 h1 => by
    show newW cx n (cx.gl f) vs H1 _
    rw [Ts.gl f]
    split at h1
    · rename_i c q
      rw [q]
      split at h1
      · rename_i f0 e
        split at h1
        · rename_i m
          refine ⟨f0, m, rfl, Ts.nw _ _ e, fun d x hd hx ne => ?_⟩
          have nd := W1.no hd
          have nx := W1.no hx
          have hx1 : (H1.set d (.ns [])) x = none := by rw [AH.set_ne _ _ ne.symm]; exact hx
          have g2 : Go w1 (glen Γ1) H1 w1 (glen Γ1) ((H1.set d (.ns [])).set x (.inst c d)) := (Go.tmp hd).trans (Go.tmp hx1)
          have W2 : Wo (w1.add (glen Γ1) x d) (Γ1 ++ [.inst c []]) ((H1.set d (.ns [])).set x (.inst c d)) := by
            refine ((W1.tmp nd).tmp nx).add nx nd ?_ (fun e he => by cases he)
            have a1 : (w1.add (glen Γ1) x d).A (glen Γ1) = x := if_pos rfl
            have a2 : (w1.add (glen Γ1) x d).D (glen Γ1) = d := if_pos rfl
            exact ⟨by rw [a1, a2]; exact AH.set_same .., by rw [a2, AH.set_ne _ _ ne]; exact AH.set_same ..⟩
          have g3 : Go w1 (glen Γ1) H1 (w1.add (glen Γ1) x d) (glen (Γ1 ++ [.inst c []])) ((H1.set d (.ns [])).set x (.inst c d)) := by
            rw [glen_add]; exact Go.add hx hd g2
          have lt : glen Γ1 < glen (Γ1 ++ [.inst c []]) := by rw [glen_add]; exact Nat.lt_succ_self _
          refine h1 _ _ _ _ W2 (.cons ⟨lt, by rw [show (w1.add (glen Γ1) x d).A (glen Γ1) = x from if_pos rfl]⟩ (VRs.go g3 r1.arg)) fun w3 Γ3 H3 s v g4 W3 r3 h3 => ?_
          dsimp only at h3
          split at h3
          · cases r3
            refine ⟨rfl, k w3 Γ3 H3 (.r (glen Γ1)) _ ((g1.trans g3).trans g4) W3 ⟨Nat.lt_of_lt_of_le lt g4.le, ?_⟩ h3⟩
            rw [(g4.ag _ lt).1, show (w1.add (glen Γ1) x d).A (glen Γ1) = x from if_pos rfl]
          · exact h3.elim
        · exact h1.elim
      · exact h1.elim
    · exact h1.elim
end
end Mine.G

namespace Mine.G
open Mine
section
variable {cx : Cx} {T : Tb} {n : Nat} {w : Wd} {Γ : Gam} {H H0 H1 H2 : AH} {K : KE} {Q : V → AH → Prop} {env : Env} {ρ : Rho} {ex : Ex}
theorem VRs.one {w : Wd} {m : Nat} {H0 H : AH} {s : SV} {vs : List V} (r : VRs w m H0 H [s] vs) : ∃ v, vs = [v] ∧ VR w m H0 H s v := by
  cases r with | cons r rs => cases rs; exact ⟨_, rfl, r⟩
theorem PK.setL {i : Nat} {xs ys : List V} {v : V} (k : PK w Γ H K Q) (W : Wo w Γ H) (q : nthG Γ i = some (.list xs)) (h : K (.p v) (putG Γ i (.list ys))) : Q v (H.set (w.A i) (.list ys)) := by
  have b := W.ob i _ q
  refine k w (putG Γ i (.list ys)) _ (.p v) v ?_ (W.put q b.2 ⟨AH.set_same .., b.2⟩ trivial) rfl h
  rw [glen_put]; exact Go.put (foot_of q).1 b.1
theorem kBm_ok {m : BM} {o : SV} {v : V} (W : Wo w Γ H) (r : VR w (glen Γ) H1 H o v) (h : kBm m o Γ = true) : bmK m v H := by
  have li : isLst o Γ = true → ∃ a xs, v = .ref a ∧ H a = some (.list xs) := fun h => by
    cases o with
    | r i =>
      unfold isLst at h
      dsimp only at h
      split at h
      · rename_i xs q; exact ⟨_, _, r.2, (W.ob i _ q).1⟩
      · cases h
    | _ => cases h
  have di : isDct o Γ = true → ∃ a xs, v = .ref a ∧ H a = some (.dict xs) := fun h => by
    cases o with
    | r i =>
      unfold isDct at h
      dsimp only at h
      split at h
      · rename_i xs q; exact ⟨_, _, r.2, (W.ob i _ q).1⟩
      · cases h
    | _ => cases h
  have st : isStr o = true → ∃ l, v = .str l := fun h => by
    cases o with
    | p a => cases a with
      | str s => exact ⟨_, r⟩
      | _ => cases h
    | _ => cases h
  cases m with
  | append => exact li h
  | pop => exact li h
  | get => exact di h
  | reverse => cases h
  | _ => exact st h
theorem bmL_ok {m : BM} {i : Nat} {xs : List V} {ss : List SV} {vs : List V} (W : Wo w Γ H) (q : nthG Γ i = some (.list xs)) (ra : VRs w (glen Γ) H2 H ss vs) (h : bmL m i xs ss Γ K) (k : PK w Γ H K Q) : bmW m (.ref (w.A i)) vs H Q := by
  cases m with
  | append => cases ra with
    | nil => exact h.elim
    | cons r rs => cases rs with
      | nil =>
        rename_i s v
        cases s with
        | p x => cases r; exact ⟨_, (W.ob i _ q).1, h.1, k.setL W q h.2⟩
        | _ => exact h.elim
      | cons _ _ => exact h.elim
  | pop => cases ra with
    | nil =>
      obtain ⟨ys, x, rfl, h⟩ := h
      exact ⟨ys, x, (W.ob i _ q).1, k.setL W q h⟩
    | cons r rs => exact h.elim
  | _ => exact h.elim
theorem bmD_ok {m : BM} {i : Nat} {es : List (V × V)} {ss : List SV} {vs : List V} (W : Wo w Γ H) (q : nthG Γ i = some (.dict es)) (ra : VRs w (glen Γ) H2 H ss vs) (h : bmD m es ss Γ K) (k : PK w Γ H K Q) : bmW m (.ref (w.A i)) vs H Q := by
  cases m with
  | get =>
    unfold bmD at h
    dsimp only at h
    split at h
    · obtain ⟨u, rfl, ru⟩ := ra.one
      cases ru
      exact ⟨_, (W.ob i _ q).1, h.1, k.here W h.2⟩
    · cases ra with | cons r1 rs =>
      obtain ⟨u, rfl, ru⟩ := VRs.one rs
      cases ru; cases r1
      exact ⟨_, (W.ob i _ q).1, h.1, k.here W h.2⟩
    · exact h.elim
  | _ => exact h.elim
theorem bmP_ok {m : BM} {a : V} {ss : List SV} {vs : List V} (ra : VRs w (glen Γ) H2 H ss vs) (h : bmP m a ss Γ K) : ∃ us, vs = us ∧ bmW m a us nil_ fun v _ => K (.p v) Γ := by
  unfold bmP at h
  split at h
  · rename_i us q; exact ⟨us, VRs_p ra q, h⟩
  · exact h.elim
theorem bmJ_ok {s : List Nat} {b : SV} {u : V} (W : Wo w Γ H) (r : VR w (glen Γ) H2 H b u) (h : bmJ s b Γ K) (k : PK w Γ H K Q) : bmW .join (.str s) [u] H Q := by
  cases s with
  | nil =>
    unfold bmJ at h
    dsimp only at h
    split at h
    · rename_i xs q
      obtain ⟨c, rfl, e⟩ := r.lstG W q
      obtain ⟨t, h1, h2, h3⟩ := h
      exact ⟨_, _, e, h1, h2, k.here W h3⟩
    · exact h.elim
  | cons _ _ => exact h.elim
theorem qBm_ok {m : BM} {o : SV} {v : V} {ss : List SV} {vs : List V} (W : Wo w Γ H) (ro : VR w (glen Γ) H1 H o v) (ra : VRs w (glen Γ) H2 H ss vs) (h : qBm m o ss Γ K) (k : PK w Γ H K Q) : bmW m v vs H Q := by
  cases o with
  | r i =>
    obtain ⟨_, rfl⟩ := ro
    unfold qBm at h
    dsimp only at h
    split at h
    · rename_i xs q; exact bmL_ok W q ra h k
    · rename_i es q; exact bmD_ok W q ra h k
    · exact h.elim
  | p a =>
    cases ro
    cases m with
    | join => cases v with
      | str s => cases ra with
        | nil => exact h.elim
        | cons r rs => cases rs with
          | nil => exact bmJ_ok W r h k
          | cons _ _ => exact h.elim
      | _ => exact h.elim
    | zfill => obtain ⟨us, rfl, h⟩ := bmP_ok ra h; exact zfill_emp (fun v _ z => k.here W z) h
    | startswith => obtain ⟨us, rfl, h⟩ := bmP_ok ra h; exact startswith_emp (fun v _ z => k.here W z) h
    | _ => exact h.elim
  | _ => exact h.elim
theorem o_bm {m : BM} {o : PE} {es : PEs} (ho : EOk cx T n o) (hs : EsOk cx T n es) : EOk cx T n (.bm m o es) := fun h W E k =>
  ho h W E fun w1 Γ1 H1 s v g1 W1 r1 h1 => by
    split at h1
    · rename_i z
      exact ⟨kBm_ok W1 r1 z, hs h1 W1 (E.go g1) fun w2 Γ2 H2 ss vs g2 W2 r2 h2 => qBm_ok W2 (r1.go g2) r2 h2 (PK.shift k (g1.trans g2))⟩
    · exact h1.elim
theorem o_joinrev {s o : PE} (hs : EOk cx T n s) (ho : EOk cx T n o) : EOk cx T n (.joinrev s o) := fun h W E k =>
  hs h W E fun w1 Γ1 H1 y u g1 W1 r1 h1 => by
    split at h1
    · refine ⟨r1, ho h1 W1 (E.go g1) fun w2 Γ2 H2 x v g2 W2 r2 h2 => ?_⟩
      split at h2
      · rename_i xs q
        obtain ⟨c, rfl, e⟩ := r2.lst q
        obtain ⟨t, a1, a2, a3⟩ := h2
        exact ⟨_, _, _, rfl, e, a1, a2, (PK.shift k (g1.trans g2)).here W2 a3⟩
      · exact h2.elim
    · exact h1.elim
theorem Go.tmpK {w w' : Wd} {m m' : Nat} {H H' : AH} {c : Addr} {o : AObj} (g : Go w m H w' m' H') (h : H c = none) : Go w m H w' m' (H'.set c o) :=
  ⟨g.le, g.ag, g.fr, fun b x f e => by rw [AH.set_ne _ _ (ne_of_none e h)]; exact g.pr b x f e, fun b e => by
    unfold AH.set at e
    split at e
    · cases e
    · exact g.dm b e⟩
theorem map_ok (Ts : TbOk T cx) {f : Nat} {y : V} {s : SV} {c : Addr} (hc : H c = none) (r : VR w (glen Γ) H1 H s y) (k : PK w Γ H K Q) : ∀ (xs acc : List V) {w' : Wd} {Γ' : Gam} {H' : AH}, qMap (Cq cx) n (T.gl f) (toArg s) xs acc Γ' K → Go w (glen Γ) H w' (glen Γ') H' → Wo w' Γ' H' →
    H' c = some (.list acc) → ¬ Foot w' (glen Γ') c → mapC cx n f y c xs acc H' fun v H₂ => biW .tuple [v] H₂ Q
  | [], acc, w', Γ', H', h, g, W, e, nf => ⟨acc, e, k w' Γ' H' (.p (.tup acc)) _ g W rfl h⟩
  | x :: xs, acc, w', Γ', H', h, g, W, e, nf => by
    show callW cx n (cx.gl f) [x, y] H' _
    rw [Ts.gl f]
    unfold qMap at h
    split at h
    · rename_i a q
      rw [q]
      refine h w' H' [x, y] _ W (.cons rfl (.cons (r.go g).arg .nil)) fun w2 Γ2 H2 s2 v g2 W2 r2 h2 => ?_
      dsimp only at h2
      split at h2
      · cases r2
        obtain ⟨l, h2⟩ := lenP_inv h2
        have nf2 := g2.foot e nf
        exact ⟨g2.pr _ _ nf e, l, map_ok Ts hc r k xs _ h2 ((g.trans g2).tmpK hc) (W2.tmp nf2) (AH.set_same ..) nf2⟩
      · exact h2.elim
    · exact h.elim
theorem o_comp (Ts : TbOk T cx) {f i : Nat} {e : PE} (he : EOk cx T n e) : EOk cx T n (.comp f i e) := fun {env Γ K w H H0 ex ρ Q} h W E k => by
  replace h : (match nthE env i with
    | some s => wqE T (Cq cx) n e env Γ fun x Γ₁ => (match x with
      | .p (.tup vs) => qMap (Cq cx) n (T.gl f) (toArg s) vs [] Γ₁ K
      | _ => False)
    | none => False) := h
  split at h
  · rename_i s q
    obtain ⟨y, h1, h2⟩ := E.at_ i s q
    refine ⟨y, h1, he h W E fun w1 Γ1 H1 x v g1 W1 r1 h1 => ?_⟩
    split at h1
    · cases r1
      exact ⟨_, rfl, fun c hc => map_ok Ts hc (h2.go g1) (PK.shift k g1) _ [] h1 (Go.tmp hc) (W1.tmp (W1.no hc)) (AH.set_same ..) (W1.no hc)⟩
    · exact h1.elim
  · exact h.elim
theorem o_nil : EsOk cx T n .nil := fun h W E k => k _ _ _ [] [] (Go.refl ..) W .nil h
theorem o_cons {e : PE} {es : PEs} (he : EOk cx T n e) (hs : EsOk cx T n es) : EsOk cx T n (.cons e es) := fun h W E k =>
  he h W E fun _ _ _ _ _ g1 W1 r1 h1 => hs h1 W1 (E.go g1) fun w2 Γ2 H2 ss vs g2 W2 r2 h2 => k w2 Γ2 H2 _ _ (g1.trans g2) W2 (.cons (r1.go g2) (r2.old g1.dm)) h2
theorem o_one {e : PE} (he : EOk cx T n e) : BopOk cx T n (.cons e .nil) := fun h W E k => he h W E k
theorem o_more {e e' : PE} {es : PEs} (he : EOk cx T n e) (hs : BopOk cx T n (.cons e' es)) : BopOk cx T n (.cons e (.cons e' es)) := fun {b env Γ K w H H0 ex ρ Q} h W E k =>
  he h W E fun w1 Γ1 H1 s v g1 W1 r1 h1 => by
    refine truW_mono (fun t q => ?_) (qTru_ok W1 r1 h1)
    have a : wqBop T (Cq cx) n b (.cons e' es) env Γ1 K → wpBop cx n b (.cons e' es) ρ H1 Q := fun z => hs z W1 (E.go g1) (PK.shift k g1)
    have c : K s Γ1 → Q v H1 := fun z => k _ _ _ s v g1 W1 r1 z
    cases b <;> cases t
    · rw [if_pos rfl]; exact a (Eq.mp qIf_F q)
    · rw [if_neg (by simp)]; exact c (Eq.mp qIf_T q)
    · rw [if_neg (by simp)]; exact c (Eq.mp qIf_F q)
    · rw [if_pos rfl]; exact a (Eq.mp qIf_T q)

theorem len_set : ∀ (env : Env) (i : Nat) (s : SV), (setE env i s).length = env.length
  | [], _, _ => rfl
  | _ :: _, 0, _ => rfl
  | _ :: r, i + 1, s => congrArg (· + 1) (len_set r i s)
theorem nth_set : ∀ (env : Env) (i j : Nat) (s : SV), nthE (setE env i s) j = if j = i ∧ i < env.length then some s else nthE env j
  | [], _, _, _ => by simp [nthE, setE]
  | _ :: _, 0, 0, _ => by simp [nthE, setE]
  | _ :: _, 0, _ + 1, _ => by simp [nthE, setE]
  | _ :: _, _ + 1, 0, _ => by simp [nthE, setE]
  | _ :: r, i + 1, j + 1, v => by simp [nthE, setE, nth_set r i j v]
theorem nl_set {env : Env} {i : Nat} {s : SV} (h : ∀ j xs u, nthE env j ≠ some (.lp xs u)) (hs : ∀ xs u, s ≠ .lp xs u) : ∀ j xs u, nthE (setE env i s) j ≠ some (.lp xs u) := fun j xs u => by
  rw [nth_set]
  split
  · exact fun z => hs _ _ (Option.some.inj z)
  · exact h j xs u
theorem nth_lt : ∀ {env : Env} {i : Nat} {s : SV}, nthE env i = some s → i < env.length
  | _ :: _, 0, _, _ => Nat.succ_pos _
  | _ :: r, i + 1, s, h => Nat.succ_lt_succ (nth_lt (env := r) h)
theorem ER.hold {m : Nat} {j : Nat} {xs : List V} {s : SV} (E : ER w m H0 H ex env ρ) (q : nthE env j = some s) (hs : lst s = some xs) :
    ∃ c, slot ρ j = some (.ref c) ∧ H c = some (.list xs) ∧ ER w m H0 H ((xs, c) :: ex) (setE env j (.al xs)) ρ := by
  obtain ⟨v, h1, h2⟩ := E.at_ j s q
  have hl := nth_lt q
  have il : isL s = true := by cases s <;> first | rfl | cases hs
  obtain ⟨c, rfl, h3, h4⟩ : ∃ c, v = .ref c ∧ H c = some (.list xs) ∧ ¬ Foot w m c := by
    cases s with
    | l ys => cases hs; obtain ⟨c, a, b, d, _⟩ := h2; exact ⟨c, a, b, d⟩
    | al ys => cases hs; exact h2
    | _ => cases hs
  have old : ∀ i x, nthE (setE env j (.al xs)) i = some (.l x) → i ≠ j ∧ nthE env i = some (.l x) := fun i x e => by
    rw [nth_set] at e
    split at e
    · cases e
    · rename_i z; exact ⟨fun y => z ⟨y, hl⟩, e⟩
  refine ⟨c, h1, h3, by rw [len_set]; exact E.ln, nl_set E.nl nofun, fun i t e => ?_, fun i k x t d ne e1 e2 e3 e4 => ?_, fun e he => ?_⟩
  · rw [nth_set] at e
    split at e
    · rename_i z; cases e; rw [z.1]; exact ⟨_, h1, c, rfl, h3, h4⟩
    · exact E.at_ i t e
  · obtain ⟨n1, e1⟩ := old i x e1
    rw [nth_set] at e3
    split at e3
    · rename_i z; rw [z.1]; exact E.sp i j x s d n1 e1 e2 q il
    · exact E.sp i k x t d ne e1 e2 e3 e4
  · rcases List.mem_cons.mp he with rfl | he
    · refine ⟨h3, h4, fun i x e => ?_⟩
      obtain ⟨n1, e⟩ := old i x e
      exact fun z => E.sp i j x s c n1 e z q il h1
    · obtain ⟨a1, a2, a3⟩ := E.ex e he
      exact ⟨a1, a2, fun i x e => a3 i x (old i x e).2⟩
theorem ER.held {m : Nat} {xs : List V} {c : Addr} (E : ER w m H0 H ex env ρ) (h3 : H c = some (.list xs)) (h4 : ¬ Foot w m c) (h5 : ∀ i x, nthE env i = some (.l x) → slot ρ i ≠ some (.ref c)) : ER w m H0 H ((xs, c) :: ex) env ρ :=
  ⟨E.ln, E.nl, E.at_, E.sp, fun e he => by
    rcases List.mem_cons.mp he with rfl | he
    · exact ⟨h3, h4, h5⟩
    · exact E.ex e he⟩
theorem ER.less {m : Nat} {ex' : Ex} (E : ER w m H0 H ex' env ρ) (h : ∀ e ∈ ex, e ∈ ex') : ER w m H0 H ex env ρ := ⟨E.ln, E.nl, E.at_, E.sp, fun e he => E.ex e (h e he)⟩
theorem iter_more {v : V} {H : AH} {k k' : List V → (AH → Prop) → Prop} (kk : ∀ xs G, k xs G → k' xs G) (h : iterW v H k) : iterW v H k' := by
  cases v with
  | tup vs => exact ⟨h.1, kk _ _ h.2⟩
  | str s => exact kk _ _ h
  | ref a => obtain ⟨xs, e, z⟩ := h; exact ⟨xs, e, kk _ _ z⟩
  | _ => exact h.elim
theorem o_val {e : PE} (he : EOk cx T n e) : SrcOk cx T n (.val e) := fun {env Γ K w H H0 ex ρ Q} h W E k => by
  replace h : (match isX e with
    | some j => qHold env j Γ fun xs env₁ => K xs env₁ Γ
    | none => wqE T (Cq cx) n e env Γ fun x Γ₁ => (match x with
      | .p v => iterP v fun xs => K xs env Γ₁
      | .l xs => K xs env Γ₁
      | _ => False)) := h
  split at h
  · rename_i j q
    have : e = .x j := by cases e <;> cases q; rfl
    subst this
    have main : ∀ xs s, nthE env j = some s → lst s = some xs → K xs (setE env j (.al xs)) Γ → wpSrc cx n (.val (.x j)) ρ H Q := fun xs s q hs z => by
      obtain ⟨c, h1, h2, E'⟩ := E.hold q hs
      exact ⟨_, h1, xs, h2, k w Γ H xs _ _ _ (Go.refl ..) W E' (fun e he => List.mem_cons_of_mem _ he) (fun w'' m'' H'' env'' ρ'' E'' => (E''.ex _ (List.mem_cons_self ..)).1) z⟩
    unfold qHold at h
    split at h
    · rename_i xs q; exact main xs _ q rfl h
    · rename_i xs q
      obtain ⟨c, h1, h2, E'⟩ := E.hold q rfl
      have E2 : ER w (glen Γ) H0 H ((xs, c) :: ex) env ρ := by
        obtain ⟨v, a1, a2⟩ := E.at_ j _ q
        rw [h1] at a1; cases a1
        obtain ⟨c', z, _, f⟩ := a2
        cases z
        exact E.held h2 f fun i x e y => E.sp i j x _ c (fun z => by rw [z, q] at e; cases e) e y q rfl h1
      exact ⟨_, h1, xs, h2, k w Γ H xs _ _ _ (Go.refl ..) W E2 (fun e he => List.mem_cons_of_mem _ he) (fun w'' m'' H'' env'' ρ'' E'' => (E''.ex _ (List.mem_cons_self ..)).1) h⟩
    · rename_i v q
      obtain ⟨u, h1, h2⟩ := E.at_ j _ q
      cases h2
      exact ⟨_, h1, iterP_ok (fun xs z => k w Γ H xs env ex _ (Go.refl ..) W E (fun _ h => h) (fun _ _ _ _ _ _ => trivial) z) h⟩
    · exact h.elim
  · refine he h W E fun w1 Γ1 H1 s v g1 W1 r1 h1 => ?_
    split at h1
    · cases r1
      exact iterP_ok (fun xs z => k w1 Γ1 H1 xs env ex _ g1 W1 (E.go g1) (fun _ h => h) (fun _ _ _ _ _ _ => trivial) z) h1
    · rename_i xs
      obtain ⟨c, rfl, a1, a2, a3⟩ := r1
      refine ⟨xs, a1, k w1 Γ1 H1 xs env _ _ g1 W1 ((E.go g1).held a1 a2 fun i x e y => ?_) (fun e he => List.mem_cons_of_mem _ he) (fun w'' m'' H'' env'' ρ'' E'' => (E''.ex _ (List.mem_cons_self ..)).1) h1⟩
      obtain ⟨u, b1, c', rfl, b2, _⟩ := E.at_ i _ e
      rw [b1] at y; cases y
      rw [a3] at b2; cases b2
    · exact h1.elim
theorem rangeW_mono {v : V} {k k' : List V → (AH → Prop) → Prop} (h : rangeW v k) (kk : ∀ xs, k xs (fun _ => True) → k' xs fun _ => True) : rangeW v k' := by
  cases v with
  | int i => exact ⟨h.1, kk _ h.2⟩
  | _ => exact h.elim
theorem o_range {e : PE} (he : EOk cx T n e) : SrcOk cx T n (.range e) := fun {env Γ K w H H0 ex ρ Q} h W E k =>
  he h W E fun w1 Γ1 H1 s v g1 W1 r1 h1 => by
    split at h1
    · cases r1
      exact rangeW_mono h1 fun xs z => k w1 Γ1 H1 xs env ex _ g1 W1 (E.go g1) (fun _ h => h) (fun _ _ _ _ _ _ => trivial) z
    · exact h1.elim
theorem o_rev {e : PE} : SrcOk cx T n (.rev e) := fun {env Γ K w H H0 ex ρ Q} h W E k => by
  replace h : (match isX e with
    | some j => qHoldL env j fun xs env₁ => K xs.reverse env₁ Γ
    | none => False) := h
  split at h
  · rename_i j q
    have : e = .x j := by cases e <;> cases q; rfl
    subst this
    unfold qHoldL at h
    split at h
    · rename_i xs q
      obtain ⟨c, h1, h2, E'⟩ := E.hold q rfl
      exact ⟨_, h1, xs, h2, k w Γ H _ _ _ _ (Go.refl ..) W E' (fun e he => List.mem_cons_of_mem _ he) (fun w'' m'' H'' env'' ρ'' E'' => (E''.ex _ (List.mem_cons_self ..)).1) h⟩
    · rename_i xs q
      obtain ⟨c, h1, h2, _⟩ := E.hold q rfl
      have E2 : ER w (glen Γ) H0 H ((xs, c) :: ex) env ρ := by
        obtain ⟨v, a1, a2⟩ := E.at_ j _ q
        rw [h1] at a1; cases a1
        obtain ⟨c', z, _, f⟩ := a2
        cases z
        exact E.held h2 f fun i x e y => E.sp i j x _ c (fun z => by rw [z, q] at e; cases e) e y q rfl h1
      exact ⟨_, h1, xs, h2, k w Γ H _ _ _ _ (Go.refl ..) W E2 (fun e he => List.mem_cons_of_mem _ he) (fun w'' m'' H'' env'' ρ'' E'' => (E''.ex _ (List.mem_cons_self ..)).1) h⟩
    · exact h.elim
  · exact h.elim
end
end Mine.G

namespace Mine.G
open Mine
theorem o_g {cx : Cx} {T : Tb} (Ts : TbOk T cx) {n i : Nat} : EOk cx T n (.g i) := fun {env Γ K w H H0 ex ρ Q} h W _ k => by
  show Q (cx.gl i) H
  rw [Ts.gl]; exact k.here W h
mutual
theorem sE {cx : Cx} {T : Tb} (Ts : TbOk T cx) {n : Nat} : ∀ e : PE, EOk cx T n e
  | .bad => fun h _ _ _ => h.elim
  | .c _ => fun h W _ k => k.here W h
  | .x _ => o_x
  | .g _ => o_g Ts
  | .bin _ a b => o_bin (sE Ts a) (sE Ts b)
  | .neg a => o_neg (sE Ts a)
  | .not a => o_not (sE Ts a)
  | .bop _ es => fun h W E k => sBop Ts es h W E k
  | .ite t a b => o_ite (sE Ts t) (sE Ts a) (sE Ts b)
  | .cmp _ a b => o_cmp (sE Ts a) (sE Ts b)
  | .attr o _ => o_attr Ts (sE Ts o)
  | .sub a b => o_sub (sE Ts a) (sE Ts b)
  | .slice a b c => o_slice (sE Ts a) (sE Ts b) (sE Ts c)
  | .bi _ es => o_bi (sEs Ts es)
  | .bm _ o es => o_bm (sE Ts o) (sEs Ts es)
  | .call _ es => o_call Ts (sEs Ts es)
  | .new _ es => o_new Ts (sEs Ts es)
  | .meth o _ es => o_meth Ts (sE Ts o) (sEs Ts es)
  | .list es => o_list (sEs Ts es)
  | .tuple es => o_tuple (sEs Ts es)
  | .comp _ _ e => o_comp Ts (sE Ts e)
  | .dict => o_dict
  | .joinrev a b => o_joinrev (sE Ts a) (sE Ts b)
theorem sEs {cx : Cx} {T : Tb} (Ts : TbOk T cx) {n : Nat} : ∀ es : PEs, EsOk cx T n es
  | .nil => o_nil
  | .cons e es => o_cons (sE Ts e) (sEs Ts es)
theorem sBop {cx : Cx} {T : Tb} (Ts : TbOk T cx) {n : Nat} : ∀ es : PEs, BopOk cx T n es
  | .nil => fun h _ _ _ => h.elim
  | .cons e .nil => o_one (sE Ts e)
  | .cons e (.cons e' es) => o_more (sE Ts e) (sBop Ts (.cons e' es))
theorem sSrc {cx : Cx} {T : Tb} (Ts : TbOk T cx) {n : Nat} : ∀ s : Src, SrcOk cx T n s
  | .val e => o_val (sE Ts e)
  | .range e => o_range (sE Ts e)
  | .rev e => o_rev
end

noncomputable def FR (w : Wd) (m : Nat) (H0 H : AH) : FQ → FL → Prop
  | .next, .next => True
  | .brk, .brk => True
  | .ret s, .ret v => VR w m H0 H s v
  | _, _ => False
section
variable {cx : Cx} {T : Tb} {n : Nat} {w w0 : Wd} {m m0 : Nat} {Γ : Gam} {H H0 H1 H2 : AH} {K : KE} {Q : V → AH → Prop} {env : Env} {ρ : Rho} {ex : Ex} {pr : List Nat}
noncomputable def Sm (w : Wd) (m : Nat) (w' : Wd) (m' : Nat) : Prop := m ≤ m' ∧ ∀ i, i < m → w'.A i = w.A i
theorem Go.sm {w' : Wd} {m' : Nat} {H' : AH} (g : Go w m H w' m' H') : Sm w m w' m' := ⟨g.le, fun i h => (g.ag i h).1⟩
theorem Sm.refl (w : Wd) (m : Nat) : Sm w m w m := ⟨Nat.le_refl _, fun _ _ => rfl⟩
theorem Sm.trans {w1 w2 : Wd} {m1 m2 : Nat} (a : Sm w m w1 m1) (b : Sm w1 m1 w2 m2) : Sm w m w2 m2 := ⟨Nat.le_trans a.1 b.1, fun i h => (b.2 i (Nat.lt_of_lt_of_le h a.1)).trans (a.2 i h)⟩
noncomputable abbrev PKS (w0 : Wd) (m0 : Nat) (H0 : AH) (ex : Ex) (w : Wd) (m : Nat) (K : KS) (R : FL → Rho → AH → Prop) : Prop := ∀ w' Γ' H' flq fl env' ρ', Go w0 m0 H0 w' (glen Γ') H' → Sm w m w' (glen Γ') → Wo w' Γ' H' → ER w' (glen Γ') H0 H' ex env' ρ' → FR w' (glen Γ') H0 H' flq fl → K flq env' Γ' → R fl ρ' H'
noncomputable abbrev SOk (cx : Cx) (T : Tb) (n : Nat) (pr : List Nat) (s : PS) : Prop := ∀ {env : Env} {Γ : Gam} {K : KS} {w w0 : Wd} {m0 : Nat} {H H0 : AH} {ex : Ex} {ρ : Rho} {R : FL → Rho → AH → Prop},
  wqS T (Cq cx) n pr s env Γ K → Go w0 m0 H0 w (glen Γ) H → Wo w Γ H → ER w (glen Γ) H0 H ex env ρ → PKS w0 m0 H0 ex w (glen Γ) K R → wpS cx n s ρ H R
noncomputable abbrev SsOk (cx : Cx) (T : Tb) (n : Nat) (pr : List Nat) (s : PSs) : Prop := ∀ {env : Env} {Γ : Gam} {K : KS} {w w0 : Wd} {m0 : Nat} {H H0 : AH} {ex : Ex} {ρ : Rho} {R : FL → Rho → AH → Prop},
  wqSs T (Cq cx) n pr s env Γ K → Go w0 m0 H0 w (glen Γ) H → Wo w Γ H → ER w (glen Γ) H0 H ex env ρ → PKS w0 m0 H0 ex w (glen Γ) K R → wpSs cx n s ρ H R

theorem PKS.sh {w1 : Wd} {m1 : Nat} {K : KS} {R : FL → Rho → AH → Prop} (k : PKS w0 m0 H0 ex w m K R) (s : Sm w m w1 m1) : PKS w0 m0 H0 ex w1 m1 K R :=
  fun w' Γ' H' flq fl env' ρ' g' s' W' E' f h => k w' Γ' H' flq fl env' ρ' g' (s.trans s') W' E' f h
theorem ER.put {i : Nat} {s : SV} {v : V} (E : ER w m H0 H ex env ρ) (hs : isL s = false) (r : VR w m H0 H s v) (hp : ∀ xs u, s ≠ .lp xs u := by nofun) : ER w m H0 H ex (setE env i s) (setSlot ρ i v) := by
  have up : ∀ k xs, nthE (setE env i s) k = some (.l xs) → nthE env k = some (.l xs) ∧ slot (setSlot ρ i v) k = slot ρ k := fun k xs e => by
    rw [nth_set] at e
    split at e
    · cases e; cases hs
    · rename_i z; exact ⟨e, by rw [slot_setSlot, if_neg (by rw [← E.ln]; exact z)]⟩
  refine ⟨by rw [len_set, setSlot_length]; exact E.ln, nl_set E.nl hp, fun k t e => ?_, fun k j xs t c ne e1 e2 e3 e4 => ?_, fun e he => ?_⟩
  · rw [nth_set] at e
    rw [slot_setSlot, ← E.ln]
    split at e
    · rename_i z; cases e; rw [if_pos z]; exact ⟨v, rfl, r⟩
    · rename_i z; rw [if_neg z]; exact E.at_ k t e
  · obtain ⟨a1, a2⟩ := up k xs e1
    rw [a2] at e2
    rw [nth_set] at e3
    split at e3
    · cases e3; rw [hs] at e4; cases e4
    · rename_i z; rw [slot_setSlot, ← E.ln, if_neg z]; exact E.sp k j xs t c ne a1 e2 e3 e4
  · obtain ⟨a1, a2, a3⟩ := E.ex e he
    exact ⟨a1, a2, fun k xs e => by obtain ⟨b1, b2⟩ := up k xs e; rw [b2]; exact a3 k xs b1⟩
theorem ER.putL {i : Nat} {xs : List V} {c : Addr} (E : ER w m H0 H ex env ρ) (h1 : H c = some (.list xs)) (h2 : ¬ Foot w m c) (h3 : H0 c = none)
    (h4 : ∀ j t, j ≠ i → nthE env j = some t → isL t = true → slot ρ j ≠ some (.ref c)) (h5 : ∀ e ∈ ex, e.2 ≠ c) : ER w m H0 H ex (setE env i (.l xs)) (setSlot ρ i (.ref c)) := by
  refine ⟨by rw [len_set, setSlot_length]; exact E.ln, nl_set E.nl nofun, fun k t e => ?_, fun k j ys t d ne e1 e2 e3 e4 => ?_, fun e he => ?_⟩
  · rw [nth_set] at e
    rw [slot_setSlot, ← E.ln]
    split at e
    · rename_i z; cases e; rw [if_pos z]; exact ⟨_, rfl, c, rfl, h1, h2, h3⟩
    · rename_i z; rw [if_neg z]; exact E.at_ k t e
  · rw [nth_set] at e1 e3
    rw [slot_setSlot, ← E.ln] at e2 ⊢
    split at e1
    · rename_i z
      rw [if_pos z] at e2; cases e2
      have nj : ¬ (j = i ∧ i < env.length) := fun y => ne (z.1.trans y.1.symm)
      rw [if_neg nj] at e3 ⊢
      exact h4 j t (fun y => ne (z.1.trans y.symm)) e3 e4
    · rename_i z
      rw [if_neg z] at e2
      split at e3
      · rename_i y
        rw [if_pos y]
        intro q; cases q
        exact h4 k _ (fun q => z ⟨q, y.2⟩) e1 rfl e2
      · rename_i y; rw [if_neg y]; exact E.sp k j ys t d ne e1 e2 e3 e4
  · obtain ⟨a1, a2, a3⟩ := E.ex e he
    refine ⟨a1, a2, fun k ys e1 => ?_⟩
    rw [nth_set] at e1
    rw [slot_setSlot, ← E.ln]
    split at e1
    · rename_i z; rw [if_pos z]; intro q; cases q; exact h5 e he rfl
    · rename_i z; rw [if_neg z]; exact a3 k ys e1
theorem ER.free {c : Addr} (E : ER w m H0 H ex env ρ) (h : H c = none) : (∀ j t, nthE env j = some t → isL t = true → slot ρ j ≠ some (.ref c)) ∧ ∀ e ∈ ex, e.2 ≠ c := by
  refine ⟨fun j t e l q => ?_, fun e he q => ?_⟩
  · obtain ⟨v, a1, a2⟩ := E.at_ j t e
    rw [q] at a1; cases a1
    cases t with
    | l xs => obtain ⟨c', z, b, _⟩ := a2; cases z; rw [h] at b; cases b
    | al xs => obtain ⟨c', z, b, _⟩ := a2; cases z; rw [h] at b; cases b
    | _ => cases l
  · have := (E.ex e he).1
    rw [q, h] at this; cases this
theorem setSlot_same {ρ : Rho} {j : Nat} {v : V} (h : slot ρ j = some v) : setSlot ρ j v = ρ := by
  induction ρ generalizing j with
  | nil => rfl
  | cons x r ih => cases j with
    | zero => cases h; rfl
    | succ j => exact congrArg (x :: ·) (ih h)
theorem q_expr {e : PE} (he : EOk cx T n e) (he1 : ∀ j e₁, isApp e = some (j, e₁) → EOk cx T n e₁) : SOk cx T n pr (.expr e) := fun {env Γ K w w0 m0 H H0 ex ρ R} h g W E k => by
  have plain : (wqE T (Cq cx) n e env Γ fun s Γ₁ => K .next env Γ₁) → wpS cx n (.expr e) ρ H R := fun h => he h W E fun w1 Γ1 H1 s v g1 W1 r1 h1 =>
    k w1 Γ1 H1 .next .next env ρ (g.trans g1) g1.sm W1 (E.go g1) trivial h1
  replace h : (match isApp e with
    | some (j, e₁) => (match nthE env j with
      | some (.l xs) => wqE T (Cq cx) n e₁ env Γ fun s Γ₁ => (match s with
        | .p x => lenP (xs.length + 1) (K .next (setE env j (.l (xs ++ [x]))) Γ₁)
        | _ => False)
      | _ => wqE T (Cq cx) n e env Γ fun s Γ₁ => K .next env Γ₁)
    | none => wqE T (Cq cx) n e env Γ fun s Γ₁ => K .next env Γ₁) := h
  split at h
  · rename_i j e₁ q
    split at h
    · rename_i xs e0
      have q' := q
      have : e = .bm .append (.x j) (.cons e₁ .nil) := by
        unfold isApp at q
        split at q
        · cases q; rfl
        · cases q
      subst this
      obtain ⟨v, a1, c, rfl, a2, a3, a4⟩ := E.at_ j _ e0
      refine ⟨.ref c, a1, ⟨c, xs, rfl, a2⟩, he1 j e₁ q' h W E fun w1 Γ1 H1 s v g1 W1 r1 h1 => ?_⟩
      split at h1
      · cases r1
        replace h1 := lenP_inv h1
        have E1 := E.go g1
        have b2 := g1.pr _ _ a3 a2
        have b3 := g1.foot a2 a3
        refine ⟨xs, b2, h1.1, ?_⟩
        have W2 : Wo w1 Γ1 (H1.set c (.list (xs ++ [v]))) := W1.tmp b3
        have oth : ∀ j' t, j' ≠ j → nthE env j' = some t → isL t = true → slot ρ j' ≠ some (.ref c) := fun j' t ne e l => E.sp j j' xs t c ne.symm e0 a1 e l
        have hx : ∀ e ∈ ex, e.2 ≠ c := fun e he q => (E.ex e he).2.2 j xs e0 (by rw [a1, q])
        have sl : setSlot ρ j (.ref c) = ρ := setSlot_same a1
        refine k w1 Γ1 _ .next .next (setE env j (.l (xs ++ [v]))) ρ ⟨(g.trans g1).le, (g.trans g1).ag, (g.trans g1).fr, fun b o f e => ?_, fun b e => ?_⟩ g1.sm W2 ?_ trivial h1.2
        · rw [AH.set_ne _ _ (fun z => by rw [z, a4] at e; cases e)]; exact (g.trans g1).pr b o f e
        · unfold AH.set at e
          split at e
          · cases e
          · exact (g.trans g1).dm b e
        · refine ⟨by rw [len_set]; exact E.ln, nl_set E.nl nofun, fun i t e => ?_, fun i i' ys t d ne e1 e2 e3 e4 => ?_, fun e he => ?_⟩
          · rw [nth_set] at e
            split at e
            · rename_i z; cases e; rw [z.1]; exact ⟨_, a1, c, rfl, AH.set_same .., b3, a4⟩
            · rename_i z
              obtain ⟨u, d1, d2⟩ := E1.at_ i t e
              refine ⟨u, d1, ?_⟩
              have nc : isL t = true → u ≠ .ref c := fun l q => oth i t (fun y => z ⟨y, nth_lt e0⟩) e l (by rw [d1, q])
              cases t with
              | p _ => exact d2
              | r _ => exact d2
              | l ys => obtain ⟨d, rfl, f1, f2⟩ := d2; exact ⟨d, rfl, by rw [AH.set_ne _ _ (fun y => nc rfl (by rw [y]))]; exact f1, f2⟩
              | al ys => obtain ⟨d, rfl, f1, f2⟩ := d2; exact ⟨d, rfl, by rw [AH.set_ne _ _ (fun y => nc rfl (by rw [y]))]; exact f1, f2⟩
              | lp ys v => exact absurd e (E1.nl i ys v)
              | no => trivial
          · rw [nth_set] at e1 e3
            have one : ∃ zs, nthE env i = some (.l zs) := by
              split at e1
              · rename_i z; rw [z.1]; exact ⟨_, e0⟩
              · exact ⟨_, e1⟩
            have two : ∃ t', nthE env i' = some t' ∧ isL t' = true := by
              split at e3
              · rename_i z; rw [z.1]; exact ⟨_, e0, rfl⟩
              · exact ⟨_, e3, e4⟩
            obtain ⟨zs, f1⟩ := one
            obtain ⟨t', f2, f3⟩ := two
            exact E.sp i i' zs t' d ne f1 e2 f2 f3
          · obtain ⟨d1, d2, d3⟩ := E1.ex e he
            refine ⟨by rw [AH.set_ne _ _ (hx e he)]; exact d1, d2, fun i ys e1 => ?_⟩
            rw [nth_set] at e1
            split at e1
            · rename_i z; rw [z.1]; exact d3 j xs e0
            · exact d3 i ys e1
      · exact h1.elim
    · exact plain h
  · exact plain h
end
end Mine.G

namespace Mine.G
open Mine
section
variable {cx : Cx} {T : Tb} {n : Nat} {w w0 : Wd} {m m0 : Nat} {Γ : Gam} {H H0 H1 H2 : AH} {K : KE} {Q : V → AH → Prop} {env : Env} {ρ : Rho} {ex : Ex} {pr : List Nat}
theorem Go.addL {w1 : Wd} {Γ1 : Gam} {H1 : AH} {c : Addr} {o : OB} (g1 : Go w m H w1 (glen Γ1) H1) (a3 : H c = none) : Go w m H (w1.add (glen Γ1) c c) (glen (Γ1 ++ [o])) H1 := by
  rw [glen_add]
  refine ⟨Nat.le_succ_of_le g1.le, fun i hi => ?_, fun i hi hi' => ?_, g1.pr, g1.dm⟩
  · obtain ⟨z1, z2⟩ := g1.ag i hi
    have : i ≠ glen Γ1 := Nat.ne_of_lt (Nat.lt_of_lt_of_le hi g1.le)
    exact ⟨(if_neg this).trans z1, (if_neg this).trans z2⟩
  · by_cases z : i = glen Γ1
    · exact ⟨by rw [show (w1.add (glen Γ1) c c).A i = c from if_pos z]; exact a3, by rw [show (w1.add (glen Γ1) c c).D i = c from if_pos z]; exact a3⟩
    · rw [show (w1.add (glen Γ1) c c).A i = w1.A i from if_neg z, show (w1.add (glen Γ1) c c).D i = w1.D i from if_neg z]
      exact g1.fr i hi (by omega)
theorem q_asg {i : Nat} {e : PE} (he : EOk cx T n e) : SOk cx T n pr (.asg i e) := fun h g W E k =>
  he h W E fun w1 Γ1 H1 s v g1 W1 r1 h1 => by
    have E1 := E.go g1
    split at h1
    · exact k w1 Γ1 H1 .next .next _ _ (g.trans g1) g1.sm W1 (E1.put rfl (r1.old g.dm)) trivial h1
    · exact k w1 Γ1 H1 .next .next _ _ (g.trans g1) g1.sm W1 (E1.put rfl (r1.old g.dm)) trivial h1
    · rename_i xs
      obtain ⟨c, rfl, a1, a2, a3⟩ := r1
      have a4 := g.dm _ a3
      obtain ⟨f1, f2⟩ := E.free a3
      split at h1
      · have g2 := g1.addL (c := c) (o := .list xs) a3
        refine k _ _ H1 .next .next _ _ (g.trans g2) g2.sm (W1.list a2 a1) ((E.go g2).put (s := .r (glen Γ1)) rfl ⟨?_, ?_⟩) trivial h1
        · rw [glen_add]; exact Nat.lt_succ_self _
        · rw [show (w1.add (glen Γ1) c c).A (glen Γ1) = c from if_pos rfl]
      · exact k w1 Γ1 H1 .next .next _ _ (g.trans g1) g1.sm W1 (E1.putL a1 a2 a4 (fun j t _ => f1 j t) f2) trivial h1
    · exact h1.elim
theorem unp_ok : ∀ {is : List Nat} {vs : List V} {env env' : Env} {ρ : Rho}, unpE env is vs = some env' → ER w m H0 H ex env ρ → vs.length = is.length ∧ ER w m H0 H ex env' (setSlots ρ is vs)
  | [], [], env, _, ρ, h, E => by cases h; exact ⟨rfl, E⟩
  | i :: is, v :: vs, env, env', ρ, h, E => by
    have := unp_ok (is := is) (vs := vs) h (E.put (i := i) (s := .p v) (v := v) rfl rfl)
    exact ⟨congrArg (· + 1) this.1, this.2⟩
  | [], _ :: _, _, _, _, h, _ => by cases h
  | _ :: _, [], _, _, _, h, _ => by cases h
theorem q_unpack {is : List Nat} {e : PE} (he : EOk cx T n e) : SOk cx T n pr (.unpack is e) := fun h g W E k =>
  he h W E fun w1 Γ1 H1 s v g1 W1 r1 h1 => by
    split at h1
    · rename_i vs
      split at h1
      · rename_i env1 q
        cases r1
        obtain ⟨l, E2⟩ := unp_ok q (E.go g1)
        exact ⟨vs, rfl, l, k w1 Γ1 H1 .next .next _ _ (g.trans g1) g1.sm W1 E2 trivial h1⟩
      · exact h1.elim
    · rename_i xs u
      split at h1
      · obtain ⟨c, rfl, a1, a2, a3⟩ := r1
        obtain ⟨f1, f2⟩ := E.free a3
        exact ⟨[.ref c, u], rfl, rfl, k w1 Γ1 H1 .next .next _ _ (g.trans g1) g1.sm W1 (((E.go g1).putL a1 a2 (g.dm _ a3) (fun j t _ => f1 j t) f2).put (s := .p u) rfl rfl) trivial h1⟩
      · exact h1.elim
    · exact h1.elim
theorem putF_den {w : Wd} {k : Nat} {s : SV} : ∀ {fs : List (Nat × SV)}, denF w (putF fs k s) = putN' (denF w fs) k (den w s)
  | [] => rfl
  | e :: r => by
    show denF w (match e.1 == k with | true => _ | false => _) = if (e.1 == k) = true then _ else _
    cases e.1 == k with
    | true => rfl
    | false => exact congrArg ((e.1, den w e.2) :: ·) putF_den
theorem bd_putF {m k : Nat} {s : SV} (hs : bdS m s) : ∀ {fs : List (Nat × SV)}, (∀ e ∈ fs, bdS m e.2) → ∀ e ∈ putF fs k s, bdS m e.2
  | [], _, e, he => by rw [List.mem_singleton.mp he]; exact hs
  | x :: r, h, e, he => by
    unfold putF at he
    split at he
    · rcases List.mem_cons.mp he with rfl | he
      · exact hs
      · exact h e (List.mem_cons_of_mem _ he)
    · rcases List.mem_cons.mp he with rfl | he
      · exact h _ List.mem_cons_self
      · exact bd_putF hs (fun e he => h e (List.mem_cons_of_mem _ he)) e he
theorem nthG_old {o : OB} {i : Nat} {o' : OB} (h : nthG Γ i = some o) : nthG (Γ ++ [o']) i = some o := by
  rw [nthG_add, if_neg (Nat.ne_of_lt (nthG_some h))]; exact h
theorem q_setattr (Ts : TbOk T cx) {o e : PE} {k : Nat} (ho : EOk cx T n o) (he : EOk cx T n e) : SOk cx T n pr (.setattr o k e) := fun {env Γ K w w0 m0 H H0 ex ρ R} h g W E kk =>
  he h W E fun w1 Γ1 H1 s v g1 W1 r1 h1 => ho h1 W1 (E.go g1) fun w2 Γ2 H2 y u g2 W2 r2 h2 => by
    split at h2
    · rename_i i
      obtain ⟨hi, rfl⟩ := r2
      split at h2
      · rename_i c fs q
        split at h2
        · rename_i t
          split at h2
          · rename_i l
            obtain ⟨b1, b2⟩ := W2.ob i _ q
            have r3 := r1.go g2
            have l' : (denF w2 fs).length ≤ 100 := by unfold denF; rw [List.length_map]; exact Nat.le_of_ble_eq_true l
            have main : ∀ s', bdS (glen Γ2) s' → den w2 s' = v → K .next env (putG Γ2 i (.inst c (putF fs k s'))) → setattrW cx (.ref (w2.A i)) k v H2 fun H3 => R .next ρ H3 := fun s' hb hd z => by
              refine setattrW_of b1 b2 (Ts.at_ _ _ t) l' ?_
              rw [← hd, ← putF_den]
              have g3 : Go w2 (glen Γ2) H2 w2 (glen (putG Γ2 i (.inst c (putF fs k s')))) (H2.set (w2.D i) (.ns (denF w2 (putF fs k s')))) := by rw [glen_put]; exact Go.put (foot_of q).2 b2
              exact kk w2 _ _ .next .next env ρ ((g.trans (g1.trans g2)).trans g3) ((g1.trans g2).trans g3).sm (W2.putD q (bd_putF hb (W2.bd i _ q))) ((E.go (g1.trans g2)).go g3) trivial z
            split at h2
            · exact main (.p _) trivial (by cases r3; rfl) h2
            · exact main (.r _) r3.1 r3.2.symm h2
            · rename_i xs
              obtain ⟨d, rfl, a1, a2, a3⟩ := r3
              have dn : H d = none := a3
              have W3 := W2.list a2 a1
              have g3 := (g1.trans g2).addL (c := d) (o := .list xs) a3
              have q3 : nthG (Γ2 ++ [.list xs]) i = some (.inst c fs) := nthG_old q
              have ni : i ≠ glen Γ2 := Nat.ne_of_lt hi
              have e1 : (w2.add (glen Γ2) d d).A i = w2.A i := if_neg ni
              have e2 : (w2.add (glen Γ2) d d).D i = w2.D i := if_neg ni
              refine setattrW_of b1 b2 (Ts.at_ _ _ t) l' ?_
              have e3 : putN' (denF w2 fs) k (.ref d) = denF (w2.add (glen Γ2) d d) (putF fs k (.r (glen Γ2))) := by
                rw [putF_den, denF_add (W2.bd i _ q)]
                show _ = putN' _ _ (V.ref (if glen Γ2 = glen Γ2 then d else _))
                rw [if_pos rfl]
              rw [e3, ← e2]
              have b2' := (W3.ob i _ q3).2
              have lt : glen Γ2 < glen (Γ2 ++ [.list xs]) := by rw [glen_add]; exact Nat.lt_succ_self _
              have g4 : Go (w2.add (glen Γ2) d d) (glen (Γ2 ++ [.list xs])) H2 (w2.add (glen Γ2) d d) (glen (putG (Γ2 ++ [.list xs]) i (.inst c (putF fs k (.r (glen Γ2)))))) (H2.set ((w2.add (glen Γ2) d d).D i) (.ns (denF (w2.add (glen Γ2) d d) (putF fs k (.r (glen Γ2)))))) := by
                rw [glen_put]; exact Go.put (foot_of q3).2 b2'
              exact kk _ _ _ .next .next env ρ ((g.trans g3).trans g4) (g3.trans g4).sm (W3.putD q3 (bd_putF (s := .r _) lt (W3.bd i _ q3))) ((E.go g3).go g4) trivial h2
            · exact h2.elim
          · exact h2.elim
        · exact h2.elim
      · exact h2.elim
    · exact h2.elim
theorem q_setsub {o i e : PE} (ho : EOk cx T n o) (hi : EOk cx T n i) (he : EOk cx T n e) : SOk cx T n pr (.setsub o i e) := fun {env Γ K w w0 m0 H H0 ex ρ R} h g W E kk =>
  he h W E fun w1 Γ1 H1 s v g1 W1 r1 h1 => ho h1 W1 (E.go g1) fun w2 Γ2 H2 y u g2 W2 r2 h2 => hi h2 W2 (E.go (g1.trans g2)) fun w3 Γ3 H3 z t g3 W3 r3 h3 => by
    split at h3
    · rename_i a
      split at h3
      · rename_i es q
        split at h3
        · rename_i kx
          split at h3
          · rename_i x
            cases r3
            obtain ⟨hi', rfl⟩ := r2.go g3
            cases r1
            have b := W3.ob a _ q
            refine ⟨es, b.1, h3.1, h3.2.1, ?_⟩
            have g4 : Go w3 (glen Γ3) H3 w3 (glen (putG Γ3 a (.dict (putV es t v)))) (H3.set (w3.A a) (.dict (putV es t v))) := by rw [glen_put]; exact Go.put (foot_of q).1 b.1
            exact kk w3 _ _ .next .next env ρ ((g.trans ((g1.trans g2).trans g3)).trans g4) (((g1.trans g2).trans g3).trans g4).sm (W3.put (o' := .dict _) q b.2 ⟨AH.set_same .., b.2⟩ trivial) ((E.go ((g1.trans g2).trans g3)).go g4) trivial h3.2.2
          · exact h3.elim
        · exact h3.elim
      · exact h3.elim
    · exact h3.elim
theorem q_if {t : PE} {a b : PSs} (ht : EOk cx T n t) (ha : SsOk cx T n pr a) (hb : SsOk cx T n pr b) : SOk cx T n pr (.ite t a b) := fun h g W E k =>
  ht h W E fun _ _ _ _ _ g1 W1 r1 h1 => truW_mono (fun t q => qIf_ok (fun z => ha z (g.trans g1) W1 (E.go g1) (k.sh g1.sm)) (fun z => hb z (g.trans g1) W1 (E.go g1) (k.sh g1.sm)) q) (qTru_ok W1 r1 h1)
theorem ret1_ok {e : PE} (he : EOk cx T n e) (he1 : ∀ j e₁, isPair e = some (j, e₁) → EOk cx T n e₁) {K : KS} {R : FL → Rho → AH → Prop} (h : wqRet T (Cq cx) n e env Γ K) (g : Go w0 m0 H0 w (glen Γ) H) (W : Wo w Γ H) (E : ER w (glen Γ) H0 H ex env ρ) (k : PKS w0 m0 H0 ex w (glen Γ) K R) :
    wpE cx n e ρ H fun x H₁ => R (.ret x) ρ H₁ := by
  unfold wqRet at h
  split at h
  · rename_i j q
    have : e = .x j := by cases e <;> cases q; rfl
    subst this
    split at h
    · exact h.elim
    · rename_i s _ q
      obtain ⟨v, a1, a2⟩ := E.at_ j _ q
      exact ⟨v, a1, k w Γ H (.ret s) _ env ρ g (Sm.refl _ _) W E a2 h⟩
    · exact h.elim
  · have gen : (wqE T (Cq cx) n e env Γ fun s Γ₁ => (match s with
      | .al _ => False
      | s => K (.ret s) env Γ₁)) → wpE cx n e ρ H fun x H₁ => R (.ret x) ρ H₁ := fun h => he h W E fun w1 Γ1 H1 s v g1 W1 r1 h1 => by
        split at h1
        · exact h1.elim
        · exact k w1 Γ1 H1 (.ret s) _ env ρ (g.trans g1) g1.sm W1 (E.go g1) (r1.old g.dm) h1
    split at h
    · rename_i j e₁ q
      split at h
      · rename_i xs e0
        have : e = .tuple (.cons (.x j) (.cons e₁ .nil)) := by
          unfold isPair at q
          split at q
          · cases q; rfl
          · cases q
        subst this
        obtain ⟨u, a1, c, rfl, a2, a3, a4⟩ := E.at_ j _ e0
        refine ⟨.ref c, a1, he1 j e₁ rfl h W E fun w1 Γ1 H1 s v g1 W1 r1 h1 => ?_⟩
        split at h1
        · cases r1
          exact ⟨(by decide : 2 ≤ lim), k w1 Γ1 H1 (.ret (.lp xs _)) _ env ρ (g.trans g1) g1.sm W1 (E.go g1) ⟨c, rfl, g1.pr _ _ a3 a2, g1.foot a2 a3, a4⟩ h1⟩
        · exact h1.elim
      · exact gen h
    · exact gen h
theorem wh_ok {t : PE} {b : PSs} {wb : Wd} {mb : Nat} (ht : EOk cx T n t) (hb : SsOk cx T n pr b) {K : KS} {R : FL → Rho → AH → Prop} (k : PKS w0 m0 H0 ex wb mb K R) : ∀ (j : Nat) (env : Env) (Γ : Gam) (w : Wd) (H : AH) (ρ : Rho),
    qWh0 (fun env Γ Q => wqE T (Cq cx) n t env Γ fun x Γ₁ => qTru x Γ₁ fun t => Q t Γ₁) (fun env Γ R => wqSs T (Cq cx) n pr b env Γ R) j env Γ K → Go w0 m0 H0 w (glen Γ) H → Sm wb mb w (glen Γ) → Wo w Γ H → ER w (glen Γ) H0 H ex env ρ →
    whC (fun ρ H Q => wpE cx n t ρ H fun x H₁ => truW x H₁ fun t => Q t H₁) (fun ρ H R => wpSs cx n b ρ H R) j ρ H R
  | 0, _, _, _, _, _, h, _, _, _, _ => h.elim
  | j + 1, env, Γ, w, H, ρ, h, g, sm, W, E => by
    refine ht h W E fun w1 Γ1 H1 s v g1 W1 r1 h1 => truW_mono (fun t q => qIf_ok (fun z => ?_) (fun z => ?_) q) (qTru_ok W1 r1 h1)
    · refine hb z (g.trans g1) W1 (E.go g1) fun w2 Γ2 H2 flq fl env2 ρ2 g2 s2 W2 E2 f h2 => ?_
      have s2 := (sm.trans g1.sm).trans s2
      cases flq <;> cases fl <;> first | exact f.elim | skip
      · exact wh_ok ht hb k j env2 Γ2 w2 H2 ρ2 h2 g2 s2 W2 E2
      · exact k w2 Γ2 H2 .next .next _ _ g2 s2 W2 E2 trivial h2
      · exact k w2 Γ2 H2 (.ret _) (.ret _) _ _ g2 s2 W2 E2 f h2
    · exact k w1 Γ1 H1 .next .next _ _ (g.trans g1) (sm.trans g1.sm) W1 (E.go g1) trivial z
theorem q_wh {t : PE} {b : PSs} (ht : EOk cx T n t) (hb : SsOk cx T n pr b) : SOk cx T n pr (.wh t b) := fun ⟨j, h⟩ g W E k => ⟨j, wh_ok ht hb k j _ _ _ _ _ (by rw [← qWh_eq]; exact h) g (Sm.refl _ _) W E⟩
theorem for_ok {i : Nat} {b : PSs} {wb : Wd} {mb : Nat} (hb : SsOk cx T n pr b) {G : AH → Prop} {K : KS} {R : FL → Rho → AH → Prop} (g0 : ∀ w'' m'' H'' env'' ρ'', ER w'' m'' H0 H'' ex env'' ρ'' → G H'') (k : PKS w0 m0 H0 ex wb mb K R) : ∀ (xs : List V) (env : Env) (Γ : Gam) (w : Wd) (H : AH) (ρ : Rho),
    qFor0 (fun env Γ R => wqSs T (Cq cx) n pr b env Γ R) (fun env x => setE env i (.p x)) xs env Γ K → Go w0 m0 H0 w (glen Γ) H → Sm wb mb w (glen Γ) → Wo w Γ H → ER w (glen Γ) H0 H ex env ρ →
    forC (fun ρ H R => wpSs cx n b ρ H R) (fun ρ x P => P (setSlot ρ i x)) G xs ρ H R
  | [], env, Γ, w, H, ρ, h, g, sm, W, E => ⟨g0 _ _ _ _ _ E, k w Γ H .next .next _ _ g sm W E trivial h⟩
  | x :: xs, env, Γ, w, H, ρ, h, g, sm, W, E => by
    refine ⟨g0 _ _ _ _ _ E, hb h g W (E.put rfl rfl) fun w2 Γ2 H2 flq fl env2 ρ2 g2 s2 W2 E2 f h2 => ?_⟩
    have s2 := sm.trans s2
    cases flq <;> cases fl <;> first | exact f.elim | skip
    · exact for_ok hb g0 k xs env2 Γ2 w2 H2 ρ2 h2 g2 s2 W2 E2
    · exact k w2 Γ2 H2 .next .next _ _ g2 s2 W2 E2 trivial h2
    · exact k w2 Γ2 H2 (.ret _) (.ret _) _ _ g2 s2 W2 E2 f h2
theorem forD_ok {i j c : Nat} {b : PSs} {ds : List DictEntry} {m : Nat} {es : List (V × V)} {wb : Wd} {mb : Nat} (hc : c < mb) (hb : SsOk cx T n pr b) {K : KS} {R : FL → Rho → AH → Prop} (k : PKS w0 m0 H0 ex wb mb K R) :
    ∀ (xs : List (V × V)) (env : Env) (Γ : Gam) (w : Wd) (H : AH) (ρ : Rho), qForD (fun env Γ R => wqSs T (Cq cx) n pr b env Γ R) i j c ds m es xs env Γ K → Go w0 m0 H0 w (glen Γ) H → Sm wb mb w (glen Γ) → Wo w Γ H → ER w (glen Γ) H0 H ex env ρ →
    forD (fun ρ H R => wpSs cx n b ρ H R) i j (wb.A c) (.fz ds m) xs ρ H fun fl ρ' H' => R fl ρ' (H'.set (wb.A c) (.dict es))
  | [], env, Γ, w, H, ρ, h, g, sm, W, E => by
    obtain ⟨q, h⟩ := h
    have ob := W.ob c _ q
    rw [← sm.2 c hc]
    have g4 : Go w (glen Γ) H w (glen (putG Γ c (.dict es))) (H.set (w.A c) (.dict es)) := by rw [glen_put]; exact Go.put (foot_of q).1 ob.1
    exact ⟨ob.1, k w _ _ .next .next env ρ (g.trans g4) (sm.trans g4.sm) (W.put (o' := .dict es) q ob.2 ⟨AH.set_same .., ob.2⟩ trivial) (E.go g4) trivial h⟩
  | x :: xs, env, Γ, w, H, ρ, h, g, sm, W, E => by
    obtain ⟨q, h⟩ := h
    refine ⟨sm.2 c hc ▸ (W.ob c _ q).1, hb h g W ((E.put (s := .p x.1) rfl rfl).put (s := .p x.2) rfl rfl) fun w2 Γ2 H2 flq fl env2 ρ2 g2 s2 W2 E2 f h2 => ?_⟩
    cases flq <;> cases fl <;> first | exact f.elim | skip
    · exact forD_ok hc hb k xs env2 Γ2 w2 H2 ρ2 h2 g2 (sm.trans s2) W2 E2
    · exact h2.elim
    · exact h2.elim
theorem q_forI {i j : Nat} {e : PE} {b : PSs} (he : EOk cx T n e) (hb : SsOk cx T n pr b) : SOk cx T n pr (.forI i j e b) := fun {env Γ K w w0 m0 H H0 ex ρ R} h g W E k =>
  he h W E fun w1 Γ1 H1 s v g1 W1 r1 h1 => by
    split at h1
    · rename_i c
      obtain ⟨hi, rfl⟩ := r1
      split at h1
      · rename_i es q
        have ob := W1.ob c _ q
        refine ⟨w1.A c, es, rfl, ob.1, h1.1, fun ds m => ?_⟩
        have g4 : Go w1 (glen Γ1) H1 w1 (glen (putG Γ1 c (.fz ds m))) (H1.set (w1.A c) (.fz ds m)) := by rw [glen_put]; exact Go.put (foot_of q).1 ob.1
        exact forD_ok hi hb (k.sh g1.sm) es env _ w1 _ ρ (h1.2 ds m) ((g.trans g1).trans g4) g4.sm (W1.put (o' := .fz ds m) q ob.2 ⟨AH.set_same .., ob.2⟩ trivial) ((E.go g1).go g4)
      · exact h1.elim
    · exact h1.elim
theorem q_for1 {i : Nat} {s : Src} {b : PSs} (hs : SrcOk cx T n s) (hb : SsOk cx T n pr b) : SOk cx T n pr (.for1 i s b) := fun h g W E k =>
  hs h W E fun w1 Γ1 H1 xs env1 ex1 G g1 W1 E1 sub hG h1 => for_ok hb hG (fun w' Γ' H' flq fl env' ρ' g' s' W' E' f q => k w' Γ' H' flq fl env' ρ' g' s' W' (E'.less sub) f q) xs env1 Γ1 w1 H1 _ (by rw [← qFor_eq]; exact h1) (g.trans g1) g1.sm W1 E1
end
theorem isIte_eq {e t a b : PE} (h : isIte e = some (t, a, b)) : e = .ite t a b := by
  unfold isIte at h
  split at h
  · cases h; rfl
  · cases h
theorem q_ret {cx : Cx} {T : Tb} (Ts : TbOk T cx) {n : Nat} {pr : List Nat} {e : PE} : SOk cx T n pr (.ret e) := fun {env Γ K w w0 m0 H H0 ex ρ R} h g W E k => by
  replace h : (match isIte e with
    | some (t, a, b) => wqE T (Cq cx) n t env Γ fun x Γ₁ => qTru x Γ₁ fun t => qIf t (wqRet T (Cq cx) n a env Γ₁ K) (wqRet T (Cq cx) n b env Γ₁ K)
    | none => wqRet T (Cq cx) n e env Γ K) := h
  split at h
  · rename_i t a b q
    cases isIte_eq q
    exact sE Ts t h W E fun w1 Γ1 H1 s v g1 W1 r1 h1 => truW_mono (fun t q => qIf_ok (fun z => ret1_ok (sE Ts a) (fun _ e₁ _ => sE Ts e₁) z (g.trans g1) W1 (E.go g1) (k.sh g1.sm)) (fun z => ret1_ok (sE Ts b) (fun _ e₁ _ => sE Ts e₁) z (g.trans g1) W1 (E.go g1) (k.sh g1.sm)) q) (qTru_ok W1 r1 h1)
  · exact ret1_ok (sE Ts e) (fun _ e₁ _ => sE Ts e₁) h g W E k
theorem q_brk {cx : Cx} {T : Tb} {n : Nat} {pr : List Nat} : SOk cx T n pr .brk := fun h g W E k => k _ _ _ .brk .brk _ _ g (Sm.refl _ _) W E trivial h
theorem q_nil {cx : Cx} {T : Tb} {n : Nat} {pr : List Nat} : SsOk cx T n pr .nil := fun h g W E k => k _ _ _ .next .next _ _ g (Sm.refl _ _) W E trivial h
theorem q_cons {cx : Cx} {T : Tb} {n : Nat} {pr : List Nat} {s : PS} {r : PSs} (hs : SOk cx T n pr s) (hr : SsOk cx T n pr r) : SsOk cx T n pr (.cons s r) := fun {env Γ K w w0 m0 H H0 ex ρ R} h g W E k =>
  hs h g W E fun w2 Γ2 H2 flq fl env2 ρ2 g2 s2 W2 E2 f h2 => by
    cases flq <;> cases fl <;> first | exact f.elim | skip
    · exact hr h2 g2 W2 E2 (k.sh s2)
    · exact k w2 Γ2 H2 .brk .brk _ _ g2 s2 W2 E2 trivial h2
    · exact k w2 Γ2 H2 (.ret _) (.ret _) _ _ g2 s2 W2 E2 f h2
mutual
theorem sS {cx : Cx} {T : Tb} (Ts : TbOk T cx) {n : Nat} {pr : List Nat} : ∀ s : PS, SOk cx T n pr s
  | .bad => fun h _ _ _ _ => h.elim
  | .expr e => q_expr (sE Ts e) fun _ e₁ _ => sE Ts e₁
  | .asg _ e => q_asg (sE Ts e)
  | .unpack _ e => q_unpack (sE Ts e)
  | .setattr o _ e => q_setattr Ts (sE Ts o) (sE Ts e)
  | .setsub o i e => q_setsub (sE Ts o) (sE Ts i) (sE Ts e)
  | .ite t a b => q_if (sE Ts t) (sSs Ts a) (sSs Ts b)
  | .wh t b => q_wh (sE Ts t) (sSs Ts b)
  | .for1 _ s b => q_for1 (sSrc Ts s) (sSs Ts b)
  | .forI _ _ e b => q_forI (sE Ts e) (sSs Ts b)
  | .brk => q_brk
  | .ret _ => q_ret Ts
theorem sSs {cx : Cx} {T : Tb} (Ts : TbOk T cx) {n : Nat} {pr : List Nat} : ∀ s : PSs, SsOk cx T n pr s
  | .nil => q_nil
  | .cons s r => q_cons (sS Ts s) (sSs Ts r)
end
theorem VRs.app {w : Wd} {m : Nat} {H0 H : AH} {dv : List V} {ss : List SV} {vs : List V} (r : VRs w m H0 H ss vs) : VRs w m H0 H (ss ++ dv.map SV.p) (vs ++ dv) :=
  All2.append r (by
    induction dv with
    | nil => exact .nil
    | cons x r ih => exact .cons rfl ih)
theorem nthE_none : ∀ (k i : Nat) (s : SV), nthE (List.replicate k none) i ≠ some s
  | 0, _, _, h => nomatch h
  | k + 1, 0, _, h => nomatch h
  | k + 1, i + 1, s, h => nthE_none k i s h
theorem nthE_at {k : Nat} {s : SV} : ∀ {l : List SV} {i : Nat}, nthE (l.map some ++ List.replicate k none) i = some s → l[i]? = some s
  | [], i, h => absurd h (nthE_none k i s)
  | _ :: _, 0, h => h
  | _ :: l, i + 1, h => nthE_at (l := l) h
noncomputable def notL : SV → Bool
  | .l _ => false
  | .lp _ _ => false
  | _ => true
theorem def_q {cx : Cx} {T : Tb} (Ts : TbOk T cx) (ok : CxOk cx) {n f np : Nat} {nms : List Str} {dv : List V} {b : PSs} {args : List SV} {Γ : Gam} {K : KE} (pr : List Nat) (D : Def cx f np nms dv b)
    (h1 : args.length + dv.length ≤ np) (h2 : np ≤ args.length + dv.length) (hn : args.all notL = true) (h : wqSs T (Cq cx) n pr b (env0 np nms.length dv args) Γ (doneQ K)) : Cq cx (n + 1) f args Γ K := fun w H vs Q W r k => by
  have hl := All2.length r
  refine callOk_def ok D (by rw [hl]; exact h1) (by rw [hl]; exact h2) ?_
  have no : ∀ i s, notL s = false → nthE (env0 np nms.length dv args) i ≠ some s := fun i s ns e => by
    rcases List.mem_append.mp (List.mem_of_getElem? (nthE_at e)) with m | m
    · exact Bool.false_ne_true (ns.symm.trans (List.all_eq_true.mp hn _ m))
    · obtain ⟨_, _, rfl⟩ := List.mem_map.mp m; contradiction
  have nol : ∀ i xs, nthE (env0 np nms.length dv args) i ≠ some (.l xs) := fun i xs => no i _ rfl
  have nop : ∀ i xs u, nthE (env0 np nms.length dv args) i ≠ some (.lp xs u) := fun i xs u => no i _ rfl
  refine sSs Ts b (ex := []) h (Go.refl w (glen Γ) H) W ⟨?_, nop, fun i s e => ?_, fun i j xs s c ne e1 => absurd e1 (nol i xs), fun e he => nomatch he⟩ fun w' Γ' H' flq fl env' ρ' g' _ W' E' f h' => ?_
  · unfold env0 rho0; simp [hl]
  · obtain ⟨v, a1, a2⟩ := All2.get (VRs.app r (dv := dv)) (nthE_at e)
    exact ⟨v, (slot_map ..).trans a1, a2⟩
  · cases flq <;> cases fl <;> first | exact f.elim | skip
    · exact k w' Γ' H' (.p .none) _ g' W' rfl h'
    · exact h'.elim
    · exact k w' Γ' H' _ _ g' W' f h'
end Mine.G

namespace Mine.G
open Mine
theorem defC_q {cx : Cx} {T : Tb} (Ts : TbOk T cx) (ok : CxOk cx) {n f : Nat} {t c : Str} {b : PSs} {s1 s2 : SV} {Γ : Gam} {K : KE} (pr : List Nat) (D : DefC cx f t c b) (h1 : notL s1 = true) (h2 : notL s2 = true)
    (h : wqSs T (Cq cx) n pr b [some s1, some s2] Γ (doneQ K)) : Cq cx (n + 1) f [s1, s2] Γ K := fun w H vs Q W r k => by
  obtain ⟨v1, _, rfl, r1, r⟩ := r.inv
  obtain ⟨v2, _, rfl, r2, r⟩ := r.inv
  obtain rfl := r.inv
  refine callOk_cell ok D ?_
  have two : ∀ i s, nthE [some s1, some s2] i = some s → notL s = true ∧ ∃ v, slot [some v1, some v2] i = some v ∧ VR w (glen Γ) H H s v := fun i s e => by
    match i, e with
    | 0, e => obtain rfl := Option.some.inj e; exact ⟨h1, v1, rfl, r1⟩
    | 1, e => obtain rfl := Option.some.inj e; exact ⟨h2, v2, rfl, r2⟩
  refine sSs Ts b (ex := []) h (Go.refl w (glen Γ) H) W ⟨rfl, fun i xs u e => Bool.false_ne_true (two i _ e).1, fun i s e => (two i s e).2, fun i j xs s c ne e1 => absurd (two i _ e1).1 Bool.false_ne_true, fun e he => nomatch he⟩ fun w' Γ' H' flq fl env' ρ' g' _ W' E' f h' => ?_
  cases flq <;> cases fl <;> first | exact f.elim | skip
  · exact k w' Γ' H' (.p .none) _ g' W' rfl h'
  · exact h'.elim
  · exact k w' Γ' H' _ _ g' W' f h'

noncomputable def rn : List Nat → Nat → Nat → Nat
  | [], g, i => g + i
  | a :: _, _, 0 => a
  | _ :: r, g, i + 1 => rn r g i
noncomputable def renS (π : List Nat) (g : Nat) : SV → SV
  | .r i => .r (rn π g i)
  | s => s
noncomputable def renO (π : List Nat) (g : Nat) : OB → OB
  | .inst C fs => .inst C (fs.map fun e => (e.1, renS π g e.2))
  | .rlist is => .rlist (is.map (rn π g))
  | o => o
noncomputable def Sits (π : List Nat) (g : Nat) (Γ : Gam) : List Nat → Gam → Prop
  | [], [] => True
  | a :: r, o :: Δ => nthG Γ a = some (renO π g o) ∧ Sits π g Γ r Δ
  | _, _ => False
noncomputable def merg (π : List Nat) (g : Nat) : List Nat → Gam → Gam → Gam
  | a :: r, o :: Δ, Γ => merg π g r Δ (putG Γ a (renO π g o))
  | [], Δ, Γ => Γ ++ Δ.map (renO π g)
  | _ :: _, [], Γ => Γ
theorem rn_ge : ∀ {π : List Nat} {g j : Nat}, π.length ≤ j → rn π g j = g + (j - π.length)
  | [], g, j, _ => rfl
  | _ :: r, g, 0, h => absurd h (Nat.not_succ_le_zero _)
  | _ :: r, g, j + 1, h => by
    show rn r g j = _
    rw [rn_ge (Nat.le_of_succ_le_succ h), List.length_cons, Nat.add_sub_add_right]
theorem rn_mem : ∀ {π : List Nat} {g j : Nat}, j < π.length → rn π g j ∈ π
  | a :: _, _, 0, _ => List.mem_cons_self
  | _ :: r, g, j + 1, h => List.mem_cons_of_mem _ (rn_mem (Nat.lt_of_succ_lt_succ h))
theorem rn_of {g a : Nat} : ∀ {π : List Nat}, a ∈ π → ∃ j, j < π.length ∧ rn π g j = a
  | b :: r, h => by
    rcases List.mem_cons.mp h with rfl | h
    · exact ⟨0, Nat.succ_pos _, rfl⟩
    · obtain ⟨j, h1, h2⟩ := rn_of h; exact ⟨j + 1, Nat.succ_lt_succ h1, h2⟩
theorem rn_inj : ∀ {π : List Nat} {g i j : Nat}, π.Nodup → i < π.length → j < π.length → rn π g i = rn π g j → i = j
  | _ :: _, _, 0, 0, _, _, _, _ => rfl
  | a :: r, g, 0, j + 1, nd, _, h, e => absurd (show rn r g j ∈ r from rn_mem (Nat.lt_of_succ_lt_succ h)) (fun z => (List.nodup_cons.mp nd).1 (by rw [show a = rn r g j from e]; exact z))
  | a :: r, g, i + 1, 0, nd, h, _, e => absurd (show rn r g i ∈ r from rn_mem (Nat.lt_of_succ_lt_succ h)) (fun z => (List.nodup_cons.mp nd).1 (by rw [show rn r g i = a from e] at z; exact z))
  | _ :: r, g, i + 1, j + 1, nd, h, h', e => congrArg (· + 1) (rn_inj (List.nodup_cons.mp nd).2 (Nat.lt_of_succ_lt_succ h) (Nat.lt_of_succ_lt_succ h') e)
theorem glen_app (Γ Δ : Gam) : glen (Γ ++ Δ) = glen Γ + glen Δ := by
  induction Γ with
  | nil => exact (Nat.zero_add _).symm
  | cons x r ih => show glen (r ++ Δ) + 1 = glen r + 1 + glen Δ; rw [ih]; omega
theorem glen_map (f : OB → OB) (Δ : Gam) : glen (Δ.map f) = glen Δ := by
  induction Δ with
  | nil => rfl
  | cons x r ih => exact congrArg (· + 1) ih
theorem nthG_app {f : OB → OB} {Δ : Gam} {o : OB} : ∀ {Γ : Gam} {i : Nat}, nthG (Γ ++ Δ.map f) i = some o → (∃ j o', nthG Δ j = some o' ∧ i = glen Γ + j ∧ o = f o') ∨ nthG Γ i = some o
  | [], i, h => by
    refine .inl ?_
    have : ∀ (Δ : Gam) (i : Nat), nthG (Δ.map f) i = some o → ∃ j o', nthG Δ j = some o' ∧ i = 0 + j ∧ o = f o' := fun Δ => by
      induction Δ with
      | nil => intro _ h; contradiction
      | cons x r ih => intro i h; cases i with
        | zero => exact ⟨0, x, rfl, rfl, (Option.some.inj h).symm⟩
        | succ i => obtain ⟨j, o', h1, h2, h3⟩ := ih i h; exact ⟨j + 1, o', h1, by omega, h3⟩
    exact this Δ i h
  | x :: r, 0, h => .inr h
  | x :: r, i + 1, h => by
    rcases nthG_app (Γ := r) (i := i) h with ⟨j, o', h1, h2, h3⟩ | h
    · exact .inl ⟨j, o', h1, by show i + 1 = glen r + 1 + j; omega, h3⟩
    · exact .inr h
theorem merg_nth {π : List Nat} {g i : Nat} {o : OB} : ∀ {r : List Nat} {Δ Γ : Gam}, r.length ≤ glen Δ → (∀ a ∈ r, a < glen Γ) → nthG (merg π g r Δ Γ) i = some o →
    (∃ j o', nthG Δ j = some o' ∧ i = rn r (glen Γ) j ∧ o = renO π g o') ∨ ((∀ a ∈ r, a ≠ i) ∧ nthG Γ i = some o)
  | [], Δ, Γ, _, _, h => (nthG_app (f := renO π g) h).imp_right fun h => ⟨fun _ z => (nomatch z), h⟩
  | a :: r, [], Γ, hl, _, _ => absurd hl (Nat.not_succ_le_zero _)
  | a :: r, o1 :: Δ, Γ, hl, ha, h => by
    have la := ha a List.mem_cons_self
    have gp := glen_put Γ a (renO π g o1)
    rcases merg_nth (r := r) (Δ := Δ) (Γ := putG Γ a (renO π g o1)) (Nat.le_of_succ_le_succ hl) (fun b hb => by rw [gp]; exact ha b (List.mem_cons_of_mem _ hb)) h with ⟨j, o', h1, h2, h3⟩ | ⟨h1, h2⟩
    · rw [gp] at h2; exact .inl ⟨j + 1, o', h1, h2, h3⟩
    · rw [nthG_put _ _ _ _ la] at h2
      split at h2
      · rename_i e; exact .inl ⟨0, o1, rfl, e, (Option.some.inj h2).symm⟩
      · rename_i e
        refine .inr ⟨fun b hb => ?_, h2⟩
        rcases List.mem_cons.mp hb with rfl | hb
        · exact fun z => e z.symm
        · exact h1 b hb
theorem merg_len {π : List Nat} {g : Nat} : ∀ {r : List Nat} {Δ Γ : Gam}, r.length ≤ glen Δ → glen (merg π g r Δ Γ) = glen Γ + (glen Δ - r.length)
  | [], Δ, Γ, _ => by show glen (Γ ++ Δ.map _) = _; rw [glen_app, glen_map]; rfl
  | a :: r, [], Γ, hl => absurd hl (Nat.not_succ_le_zero _)
  | a :: r, o1 :: Δ, Γ, hl => by
    show glen (merg π g r Δ (putG Γ a (renO π g o1))) = _
    rw [merg_len (Nat.le_of_succ_le_succ hl), glen_put]
    show _ = glen Γ + (glen Δ + 1 - (r.length + 1))
    rw [Nat.add_sub_add_right]
theorem sits_nth {π : List Nat} {g : Nat} {Γ : Gam} {o : OB} : ∀ {r : List Nat} {Δ : Gam} {j : Nat}, Sits π g Γ r Δ → nthG Δ j = some o → nthG Γ (rn r g j) = some (renO π g o)
  | [], [], _, _, e => nomatch e
  | a :: r, o1 :: Δ, 0, h, e => by obtain rfl := Option.some.inj e; exact h.1
  | a :: r, o1 :: Δ, j + 1, h, e => sits_nth (r := r) (Δ := Δ) h.2 e
  | a :: r, [], _, h, _ => h.elim
  | [], _ :: _, _, h, _ => h.elim
theorem sits_len {π : List Nat} {g : Nat} {Γ : Gam} : ∀ {r : List Nat} {Δ : Gam}, Sits π g Γ r Δ → r.length = glen Δ ∧ ∀ a ∈ r, a < glen Γ
  | [], [], _ => ⟨rfl, fun _ z => (nomatch z)⟩
  | a :: r, o1 :: Δ, h => by
    obtain ⟨h1, h2⟩ := sits_len h.2
    refine ⟨congrArg (· + 1) h1, fun b hb => ?_⟩
    rcases List.mem_cons.mp hb with rfl | hb
    · exact nthG_some h.1
    · exact h2 b hb
  | a :: r, [], h => h.elim
  | [], _ :: _, h => h.elim
theorem atO_ren {π : List Nat} {g i : Nat} {w w' : Wd} {H : AH} {m : Nat} {o : OB} (hb : bdO m o) (hA : ∀ j, j < m → w.A (rn π g j) = w'.A j) (hi : i < m) (hD : w.D (rn π g i) = w'.D i) : atO w (rn π g i) H (renO π g o) ↔ atO w' i H o := by
  have eA := hA i hi
  cases o with
  | inst C fs =>
    have : denF w (fs.map fun e => (e.1, renS π g e.2)) = denF w' fs := by
      unfold denF
      rw [List.map_map]
      refine List.map_congr_left fun e he => ?_
      show (e.1, den w (renS π g e.2)) = (e.1, den w' e.2)
      have b := hb e he
      cases q : e.2 with
      | r j => rw [q] at b; exact congrArg (fun z => (e.1, V.ref z)) (hA j b)
      | _ => rfl
    show (H (w.A (rn π g i)) = some (.inst C (w.D (rn π g i))) ∧ H (w.D (rn π g i)) = some (.ns (denF w (fs.map fun e => (e.1, renS π g e.2))))) ↔ _
    rw [this, eA, hD]; rfl
  | rlist is =>
    have : (is.map (rn π g)).map (fun j => V.ref (w.A j)) = is.map fun j => V.ref (w'.A j) := by
      rw [List.map_map]
      exact List.map_congr_left fun j hj => congrArg V.ref (hA j (hb j hj))
    show (H (w.A (rn π g i)) = some (.list ((is.map (rn π g)).map fun j => V.ref (w.A j))) ∧ w.D (rn π g i) = w.A (rn π g i)) ↔ _
    rw [this, eA, hD]; rfl
  | list xs => show (H (w.A (rn π g i)) = some (.list xs) ∧ w.D (rn π g i) = w.A (rn π g i)) ↔ _; rw [eA, hD]; rfl
  | dict xs => show (H (w.A (rn π g i)) = some (.dict xs) ∧ w.D (rn π g i) = w.A (rn π g i)) ↔ _; rw [eA, hD]; rfl
  | fz a b => show (H (w.A (rn π g i)) = some (.fz a b) ∧ w.D (rn π g i) = w.A (rn π g i)) ↔ _; rw [eA, hD]; rfl
theorem bdO_ren {π : List Nat} {g m m' : Nat} {o : OB} (k : ∀ j, j < m → rn π g j < m') (h : bdO m o) : bdO m' (renO π g o) := by
  cases o with
  | inst C fs =>
    intro e he
    obtain ⟨e', he', rfl⟩ := List.mem_map.mp he
    have b := h e' he'
    show bdS m' (renS π g e'.2)
    cases q : e'.2 with
    | r j => rw [q] at b; exact k j b
    | p _ => trivial
    | _ => rw [q] at b; exact b.elim
  | rlist is =>
    intro i hi
    obtain ⟨j, hj, rfl⟩ := List.mem_map.mp hi
    exact k j (h j hj)
  | _ => trivial
theorem bdO_back {π : List Nat} {g : Nat} {o : OB} (h : bdO g (renO π g o)) : bdO π.length o := by
  have lt : ∀ j, rn π g j < g → j < π.length := fun j h => by
    rcases Nat.lt_or_ge j π.length with l | l
    · exact l
    · rw [rn_ge l] at h; exact absurd h (Nat.not_lt.mpr (Nat.le_add_right _ _))
  cases o with
  | inst C fs =>
    intro e he
    have b := h (e.1, renS π g e.2) (List.mem_map.mpr ⟨e, he, rfl⟩)
    cases q : e.2 with
    | r j => replace b : bdS g (renS π g e.2) := b; rw [q] at b; exact lt j b
    | p _ => trivial
    | _ => replace b : bdS g (renS π g e.2) := b; rw [q] at b; exact b.elim
  | rlist is => exact fun i hi => lt i (h _ (List.mem_map.mpr ⟨i, hi, rfl⟩))
  | _ => trivial
theorem atO_keep {i m : Nat} {w w' : Wd} {H H' : AH} {o : OB} (hb : bdO m o) (hA : ∀ j, j < m → w'.A j = w.A j) (hi : i < m) (hD : w'.D i = w.D i) (k1 : ∀ x, H (w.A i) = some x → H' (w.A i) = some x) (k2 : ∀ x, H (w.D i) = some x → H' (w.D i) = some x) (h : atO w i H o) : atO w' i H' o := by
  have eA := hA i hi
  cases o with
  | inst C fs =>
    have : denF w' fs = denF w fs := by
      unfold denF
      refine List.map_congr_left fun e he => ?_
      have b := hb e he
      cases q : e.2 with
      | r j => rw [q] at b; exact congrArg (fun z => (e.1, V.ref z)) (hA j b)
      | _ => rfl
    exact ⟨by rw [eA, hD]; exact k1 _ h.1, by rw [hD, this]; exact k2 _ h.2⟩
  | rlist is =>
    have : is.map (fun j => V.ref (w'.A j)) = is.map fun j => V.ref (w.A j) := List.map_congr_left fun j hj => congrArg V.ref (hA j (hb j hj))
    exact ⟨by rw [eA, this]; exact k1 _ h.1, by rw [eA, hD]; exact h.2⟩
  | list xs => exact ⟨by rw [eA]; exact k1 _ h.1, by rw [eA, hD]; exact h.2⟩
  | dict xs => exact ⟨by rw [eA]; exact k1 _ h.1, by rw [eA, hD]; exact h.2⟩
  | fz a b => exact ⟨by rw [eA]; exact k1 _ h.1, by rw [eA, hD]; exact h.2⟩
theorem frame_q {cx : Cx} {n f : Nat} {π : List Nat} {Γ0 Γ : Gam} {args : List SV} {K0 : V → Gam → Prop} {K : KE} (nd : π.Nodup) (st : Sits π (glen Γ) Γ π Γ0) (h : Cq cx n f args Γ0 fun s Δ => ∃ v, s = .p v ∧ K0 v Δ)
    (k : ∀ v Δ, K0 v Δ → K (.p v) (merg π (glen Γ) π Δ Γ)) : Cq cx n f (args.map (renS π (glen Γ))) Γ K := fun w H vs Q W r kk => by
  obtain ⟨hl, hp⟩ := sits_len st
  have lt0 : ∀ j, j < π.length → rn π (glen Γ) j < glen Γ := fun j hj => hp _ (rn_mem hj)
  have ft : ∀ c, Foot ⟨fun i => w.A (rn π (glen Γ) i), fun i => w.D (rn π (glen Γ) i)⟩ (glen Γ0) c → Foot w (glen Γ) c := fun c ⟨i, hi, e⟩ => ⟨_, lt0 i (hl ▸ hi), e⟩
  have W0 : Wo ⟨fun i => w.A (rn π (glen Γ) i), fun i => w.D (rn π (glen Γ) i)⟩ Γ0 H := by
    have bd : ∀ i o, nthG Γ0 i = some o → bdO π.length o := fun i o e => bdO_back (W.bd _ _ (sits_nth st e))
    exact ⟨fun i o e => (atO_ren (bd i o e) (fun _ _ => rfl) (hl ▸ nthG_some e) rfl).mp (W.ob _ _ (sits_nth st e)), fun i o e => hl ▸ bd i o e,
      fun i j hi hj e => rn_inj nd (hl ▸ hi) (hl ▸ hj) (W.ia _ _ (lt0 i (hl ▸ hi)) (lt0 j (hl ▸ hj)) e), fun i j hi hj e => rn_inj nd (hl ▸ hi) (hl ▸ hj) (W.id _ _ (lt0 i (hl ▸ hi)) (lt0 j (hl ▸ hj)) e)⟩
  have r0 : VRs ⟨fun i => w.A (rn π (glen Γ) i), fun i => w.D (rn π (glen Γ) i)⟩ (glen Γ0) H H args vs := by
    clear h
    induction args generalizing vs with
    | nil => obtain rfl := r.inv; exact .nil
    | cons s args ih =>
      obtain ⟨v, vs, rfl, r1, rs⟩ := r.inv
      refine .cons ?_ (ih vs rs)
      cases s with
      | r i =>
        refine ⟨?_, r1.2⟩
        rcases Nat.lt_or_ge i π.length with l | l
        · exact hl ▸ l
        · have := r1.1; rw [rn_ge l] at this; exact absurd this (Nat.not_lt.mpr (Nat.le_add_right _ _))
      | l xs => obtain ⟨c, a1, a2, a3, a4⟩ := r1; exact ⟨c, a1, a2, fun z => a3 (ft c z), a4⟩
      | al xs => obtain ⟨c, a1, a2, a3⟩ := r1; exact ⟨c, a1, a2, fun z => a3 (ft c z)⟩
      | lp xs u => obtain ⟨c, a1, a2, a3, a4⟩ := r1; exact ⟨c, a1, a2, fun z => a3 (ft c z), a4⟩
      | _ => exact r1
  refine h _ H vs Q W0 r0 fun w' Δ H' s v g' W' r' ⟨u, es, k0⟩ => ?_
  subst es
  obtain rfl : v = u := r'
  have le : π.length ≤ glen Δ := hl ▸ g'.le
  have lM := merg_len (π := π) (g := glen Γ) (Γ := Γ) le
  have rg : ∀ j, π.length ≤ j → rn π (glen Γ) j = glen Γ + (j - π.length) := fun j => rn_ge
  have hA : ∀ j, (if rn π (glen Γ) j < glen Γ then w.A (rn π (glen Γ) j) else w'.A (rn π (glen Γ) j - glen Γ + π.length)) = w'.A j ∧ (if rn π (glen Γ) j < glen Γ then w.D (rn π (glen Γ) j) else w'.D (rn π (glen Γ) j - glen Γ + π.length)) = w'.D j := fun j => by
    rcases Nat.lt_or_ge j π.length with l | l
    · rw [if_pos (lt0 j l), if_pos (lt0 j l)]
      obtain ⟨a, b⟩ := g'.ag j (hl ▸ l)
      exact ⟨a.symm, b.symm⟩
    · rw [rg j l, if_neg (Nat.not_lt.mpr (Nat.le_add_right _ _)), if_neg (Nat.not_lt.mpr (Nat.le_add_right _ _)), Nat.add_sub_cancel_left, Nat.sub_add_cancel l]
      exact ⟨rfl, rfl⟩
  have ltM : ∀ j, j < glen Δ → rn π (glen Γ) j < glen (merg π (glen Γ) π Δ Γ) := fun j hj => by
    rw [lM]
    rcases Nat.lt_or_ge j π.length with l | l
    · exact Nat.lt_of_lt_of_le (lt0 j l) (Nat.le_add_right _ _)
    · rw [rg j l]; omega
  have old : ∀ i, i < glen Γ → (∀ a ∈ π, a ≠ i) → ¬ Foot ⟨fun i => w.A (rn π (glen Γ) i), fun i => w.D (rn π (glen Γ) i)⟩ (glen Γ0) (w.A i) ∧ ¬ Foot ⟨fun i => w.A (rn π (glen Γ) i), fun i => w.D (rn π (glen Γ) i)⟩ (glen Γ0) (w.D i) := fun i hi hn => by
    obtain ⟨o, ho⟩ := nthG_lt hi
    have oi := W.ob i o ho
    have key : ∀ j, j < glen Γ0 → w.A i ≠ w.A (rn π (glen Γ) j) ∧ w.D i ≠ w.D (rn π (glen Γ) j) ∧ w.A i ≠ w.D (rn π (glen Γ) j) ∧ w.D i ≠ w.A (rn π (glen Γ) j) := fun j hj => by
      have hj' : j < π.length := hl ▸ hj
      have ne : i ≠ rn π (glen Γ) j := (hn _ (rn_mem hj')).symm
      have n1 : w.A i ≠ w.A (rn π (glen Γ) j) := fun z => ne (W.ia _ _ hi (lt0 j hj') z)
      have n2 : w.D i ≠ w.D (rn π (glen Γ) j) := fun z => ne (W.id _ _ hi (lt0 j hj') z)
      obtain ⟨o2, ho2⟩ := nthG_lt (lt0 j hj')
      have oj := W.ob _ o2 ho2
      refine ⟨n1, n2, fun z => ?_, fun z => ?_⟩
      · cases o2 with
        | inst C fs =>
          have h2 := oj.2
          rw [← z] at h2
          cases o with
          | inst C' fs' => exact nomatch oi.1.symm.trans h2
          | list _ => exact nomatch oi.1.symm.trans h2
          | rlist _ => exact nomatch oi.1.symm.trans h2
          | dict _ => exact nomatch oi.1.symm.trans h2
          | fz _ _ => exact nomatch oi.1.symm.trans h2
        | list _ => exact n1 (z.trans oj.2)
        | rlist _ => exact n1 (z.trans oj.2)
        | dict _ => exact n1 (z.trans oj.2)
        | fz _ _ => exact n1 (z.trans oj.2)
      · cases o with
        | inst C fs =>
          have h2 := oi.2
          rw [z] at h2
          cases o2 with
          | inst C' fs' => exact nomatch oj.1.symm.trans h2
          | list _ => exact nomatch oj.1.symm.trans h2
          | rlist _ => exact nomatch oj.1.symm.trans h2
          | dict _ => exact nomatch oj.1.symm.trans h2
          | fz _ _ => exact nomatch oj.1.symm.trans h2
        | list _ => exact n1 (oi.2.symm.trans z)
        | rlist _ => exact n1 (oi.2.symm.trans z)
        | dict _ => exact n1 (oi.2.symm.trans z)
        | fz _ _ => exact n1 (oi.2.symm.trans z)
    exact ⟨fun ⟨j, hj, e⟩ => e.elim (key j hj).1 (key j hj).2.2.1, fun ⟨j, hj, e⟩ => e.elim (key j hj).2.2.2 (key j hj).2.1⟩
  have nw : ∀ i, glen Γ ≤ i → i < glen (merg π (glen Γ) π Δ Γ) → H (w'.A (i - glen Γ + π.length)) = none ∧ H (w'.D (i - glen Γ + π.length)) = none ∧ i - glen Γ + π.length < glen Δ := fun i h1 h2 => by
    rw [lM] at h2
    have h3 : i - glen Γ + π.length < glen Δ := by omega
    obtain ⟨a, b⟩ := g'.fr _ (hl ▸ Nat.le_add_left π.length (i - glen Γ)) h3
    exact ⟨a, b, h3⟩
  have apart : ∀ i j, i < glen Γ → glen Γ ≤ j → j < glen (merg π (glen Γ) π Δ Γ) → w.A i ≠ w'.A (j - glen Γ + π.length) ∧ w.D i ≠ w'.D (j - glen Γ + π.length) := fun i j hi h1 h2 => by
    obtain ⟨a, b, _⟩ := nw j h1 h2
    obtain ⟨x, hx⟩ := W.get ⟨i, hi, .inl rfl⟩
    obtain ⟨y, hy⟩ := W.get ⟨i, hi, .inr rfl⟩
    exact ⟨some_ne hx a, some_ne hy b⟩
  refine kk ⟨fun i => if i < glen Γ then w.A i else w'.A (i - glen Γ + π.length), fun i => if i < glen Γ then w.D i else w'.D (i - glen Γ + π.length)⟩ (merg π (glen Γ) π Δ Γ) H' (.p v) v
    ⟨lM ▸ Nat.le_add_right _ _, fun i hi => ⟨if_pos hi, if_pos hi⟩, fun i h1 h2 => ?_, fun b o nf e => g'.pr b o (fun z => nf (ft b z)) e, g'.dm⟩ ⟨fun i o e => ?_, fun i o e => ?_, fun i j hi hj e => ?_, fun i j hi hj e => ?_⟩ rfl (k v Δ k0)
  · obtain ⟨a, b, _⟩ := nw i h1 h2
    exact ⟨(congrArg H (if_neg (Nat.not_lt.mpr h1))).trans a, (congrArg H (if_neg (Nat.not_lt.mpr h1))).trans b⟩
  · rcases merg_nth le hp e with ⟨j, o', h1, rfl, rfl⟩ | ⟨h1, h2⟩
    · exact (atO_ren (m := glen Δ) (W'.bd j o' h1) (fun j _ => (hA j).1) (nthG_some h1) (hA j).2).mpr (W'.ob j o' h1)
    · have hi := nthG_some h2
      obtain ⟨n1, n2⟩ := old i hi h1
      exact atO_keep (W.bd i o h2) (fun j hj => if_pos hj) hi (if_pos hi) (fun x hx => g'.pr _ _ n1 hx) (fun x hx => g'.pr _ _ n2 hx) (W.ob i o h2)
  · rcases merg_nth le hp e with ⟨j, o', h1, rfl, rfl⟩ | ⟨h1, h2⟩
    · exact bdO_ren ltM (W'.bd j o' h1)
    · exact (W.bd i o h2).mono (lM ▸ Nat.le_add_right _ _)
  · dsimp only at e
    rcases Nat.lt_or_ge i (glen Γ) with l1 | l1 <;> rcases Nat.lt_or_ge j (glen Γ) with l2 | l2
    · rw [if_pos l1, if_pos l2] at e; exact W.ia i j l1 l2 e
    · rw [if_pos l1, if_neg (Nat.not_lt.mpr l2)] at e; exact absurd e (apart i j l1 l2 hj).1
    · rw [if_neg (Nat.not_lt.mpr l1), if_pos l2] at e; exact absurd e.symm (apart j i l2 l1 hi).1
    · rw [if_neg (Nat.not_lt.mpr l1), if_neg (Nat.not_lt.mpr l2)] at e
      have := W'.ia _ _ (nw i l1 hi).2.2 (nw j l2 hj).2.2 e
      omega
  · dsimp only at e
    rcases Nat.lt_or_ge i (glen Γ) with l1 | l1 <;> rcases Nat.lt_or_ge j (glen Γ) with l2 | l2
    · rw [if_pos l1, if_pos l2] at e; exact W.id i j l1 l2 e
    · rw [if_pos l1, if_neg (Nat.not_lt.mpr l2)] at e; exact absurd e (apart i j l1 l2 hj).2
    · rw [if_neg (Nat.not_lt.mpr l1), if_pos l2] at e; exact absurd e.symm (apart j i l2 l1 hi).2
    · rw [if_neg (Nat.not_lt.mpr l1), if_neg (Nat.not_lt.mpr l2)] at e
      have := W'.id _ _ (nw i l1 hi).2.2 (nw j l2 hj).2.2 e
      omega
end Mine.G

namespace Mine.G
open Mine Mine.PJ
noncomputable def lkM : List (Nat × Nat × Nat) → Nat → Nat → Option Nat
  | [], _, _ => none
  | e :: r, c, k => match e.1 == c && e.2.1 == k with
    | true => some e.2.2
    | false => lkM r c k
noncomputable def lkP : List (Nat × Nat) → Nat → Option Nat
  | [], _ => none
  | e :: r, c => match e.1 == c with
    | true => some e.2
    | false => lkP r c
noncomputable def hasP : List (Nat × Nat) → Nat → Nat → Bool
  | [], _, _ => false
  | e :: r, c, k => (e.1 == c && e.2 == k) || hasP r c k
noncomputable def nthL : List V → Nat → V
  | [], _ => .none
  | x :: _, 0 => x
  | _ :: r, i + 1 => nthL r i
noncomputable def T0 (gx : List V) : Tb := ⟨hasP attrL, lkM methL, lkP newL, nthL (glP ++ gx)⟩
theorem nthL_getD : ∀ (l : List V) (i : Nat), nthL l i = l.getD i .none
  | [], _ => rfl
  | _ :: _, 0 => rfl
  | _ :: r, i + 1 => nthL_getD r i
theorem hasP_mem {C k : Nat} : ∀ {l : List (Nat × Nat)}, hasP l C k = true → (C, k) ∈ l
  | e :: r, h => by
    unfold hasP at h
    rcases Bool.or_eq_true_iff.mp h with h | h
    · simp at h; rw [← h.1, ← h.2]; exact List.mem_cons_self ..
    · exact List.mem_cons_of_mem _ (hasP_mem h)
theorem lkM_mem {C k f : Nat} : ∀ {l : List (Nat × Nat × Nat)}, lkM l C k = some f → (C, k, f) ∈ l
  | e :: r, h => by
    unfold lkM at h
    split at h
    · rename_i q; simp at q; cases h; rw [← q.1, ← q.2]; exact List.mem_cons_self ..
    · exact List.mem_cons_of_mem _ (lkM_mem h)
theorem lkP_mem {C f : Nat} : ∀ {l : List (Nat × Nat)}, lkP l C = some f → (C, f) ∈ l
  | e :: r, h => by
    unfold lkP at h
    split at h
    · rename_i q; simp at q; cases h; rw [← q]; exact List.mem_cons_self ..
    · exact List.mem_cons_of_mem _ (lkP_mem h)
structure Prj (cx : Cx) (gx : List V) : Prop where
  ok : CxOk cx
  tb : TbOk (T0 gx) cx
  d_fixed_atoms : D_fixed_atoms cx
  d_fixed_functors : D_fixed_functors cx
  d_Symbols___init__ : D_Symbols___init__ cx
  d_Symbols_atom : D_Symbols_atom cx
  d_Symbols_text : D_Symbols_text cx
  d_Symbols_functor : D_Symbols_functor cx
  d_Symbols_func : D_Symbols_func cx
  d_Symbols_name : D_Symbols_name cx
  d_Symbols_arity : D_Symbols_arity cx
  d_list_items : D_list_items cx
  d_is_digit : D_is_digit cx
  d_is_small : D_is_small cx
  d_is_capital : D_is_capital cx
  d_is_alnum : D_is_alnum cx
  d_is_symbol : D_is_symbol cx
  d_number_text : D_number_text cx
  d_is_alnum_name : D_is_alnum_name cx
  d_is_symbol_name : D_is_symbol_name cx
  d_is_plain_name : D_is_plain_name cx
  d_fixity : D_fixity cx
  d_bounds : D_bounds cx
  d_OperatorTable___init__ : D_OperatorTable___init__ cx
  d_OperatorTable_prefix : D_OperatorTable_prefix cx
  d_OperatorTable_infix : D_OperatorTable_infix cx
  d_OperatorTable_postfix : D_OperatorTable_postfix cx
  d_OperatorTable_is_operator : D_OperatorTable_is_operator cx
  d_OperatorTable_table_of : D_OperatorTable_table_of cx
  d_OperatorTable_add : D_OperatorTable_add cx
  d_escaped : D_escaped cx
  d_quoted_text : D_quoted_text cx
  d_atom_text : D_atom_text cx
  d_numbered_text : D_numbered_text cx
  d_is_word : D_is_word cx
  d_is_tight : D_is_tight cx
  d_Writer___init__ : D_Writer___init__ cx
  d_Writer_text : D_Writer_text cx
  d_Writer_raw : D_Writer_raw cx
  d_Writer_token : D_Writer_token cx
  d_Writer_needs_space : D_Writer_needs_space cx
  d_Writer_later : D_Writer_later cx
  d_Writer_write : D_Writer_write cx
  d_Writer_variable_text : D_Writer_variable_text cx
  d_Writer_is_numbered : D_Writer_is_numbered cx
  d_Writer_write_atom : D_Writer_write_atom cx
  d_Writer_write_list : D_Writer_write_list cx
  d_Writer_write_functional : D_Writer_write_functional cx
  d_Writer_shape : D_Writer_shape cx
  d_Writer_write_operation : D_Writer_write_operation cx
  d_Writer_left_limit : D_Writer_left_limit cx
  d_Writer_prefix_operator : D_Writer_prefix_operator cx
  d_Writer_infix_operator : D_Writer_infix_operator cx
  d_Writer_postfix_operator : D_Writer_postfix_operator cx
  d__law_row : D__law_row cx
  d__law_next : D__law_next cx
theorem tb_of {cx : Cx} {gx : List V} (h1 : attrL.all (fun q => attrAt cx q.1 q.2) = true) (h2 : methL.all (fun q => methAt cx q.1 q.2.1 == some q.2.2) = true) (h3 : newL.all (fun q => makes cx q.1 == some q.2) = true) (h4 : ∀ i, cx.gl i = (glP ++ gx).getD i .none) : TbOk (T0 gx) cx :=
  ⟨fun C k h => List.all_eq_true.mp h1 _ (hasP_mem h), fun C k f h => by simpa using List.all_eq_true.mp h2 _ (lkM_mem h), fun C f h => by simpa using List.all_eq_true.mp h3 _ (lkP_mem h), fun i => (h4 i).trans (nthL_getD _ _).symm⟩
theorem if_of {b : Bool} {A B : Prop} (h1 : b = true → A) (h2 : b = false → B) : qIf b A B := by
  cases b
  · rw [qIf_F]; exact h2 rfl
  · rw [qIf_T]; exact h1 rfl
theorem if_t {b : Bool} {A B : Prop} (h : b = true) (h1 : A) : qIf b A B := by subst h; rw [qIf_T]; exact h1
theorem if_f {b : Bool} {A B : Prop} (h : b = false) (h1 : B) : qIf b A B := by subst h; rw [qIf_F]; exact h1
noncomputable def arOk (np : Nat) (dv : List V) (args : List SV) : Bool := Nat.ble (args.length + dv.length) np && (Nat.ble np (args.length + dv.length) && args.all notL)
theorem dq {cx : Cx} {gx : List V} (P : Prj cx gx) {n f np : Nat} {nms : List Str} {dv : List V} {b : PSs} {args : List SV} {Γ : Gam} {K : KE} (pr : List Nat) (D : Def cx f np nms dv b) (ha : arOk np dv args = true)
    (h : wqSs (T0 gx) (Cq cx) n pr b (env0 np nms.length dv args) Γ (doneQ K)) : Cq cx (n + 1) f args Γ K := by
  obtain ⟨a, b⟩ := Bool.and_eq_true_iff.mp ha
  obtain ⟨b, c⟩ := Bool.and_eq_true_iff.mp b
  exact def_q P.tb P.ok pr D (Nat.le_of_ble_eq_true a) (Nat.le_of_ble_eq_true b) c h
end Mine.G

namespace Mine.G
open Mine Mine.PJ

noncomputable def isDig (c : Nat) : Bool := decide (48 ≤ c) && decide (c ≤ 57)
noncomputable def isSml (c : Nat) : Bool := decide (97 ≤ c) && decide (c ≤ 122)
noncomputable def isCap (c : Nat) : Bool := decide (65 ≤ c) && decide (c ≤ 90)
noncomputable def isAln (c : Nat) : Bool := isSml c || (isCap c || (isDig c || decide (c = 95)))
noncomputable def symL : List Nat := [43, 45, 42, 47, 92, 94, 60, 62, 61, 126, 58, 46, 63, 64, 35, 38, 36]
noncomputable def isSym (c : Nat) : Bool := decide (c ∈ symL)
noncomputable def isWrd (c : Nat) : Bool := isAln c || decide (128 ≤ c)
section
variable {cx : Cx} {gx : List V} {n c : Nat} {Γ : Gam} {K : KE}
theorem rngq {lo hi c : Nat} (k : K (.p (.bool (decide (lo ≤ c) && decide (c ≤ hi)))) Γ) : qIf (decide ((lo : Int) ≤ c)) (K (.p (.bool (decide ((c : Int) ≤ hi)))) Γ) (K (.p (.bool (decide ((lo : Int) ≤ c)))) Γ) := by
  have e1 : decide ((lo : Int) ≤ c) = decide (lo ≤ c) := by rw [Bool.eq_iff_iff]; simp only [decide_eq_true_eq]; omega
  have e2 : decide ((c : Int) ≤ hi) = decide (c ≤ hi) := by rw [Bool.eq_iff_iff]; simp only [decide_eq_true_eq]; omega
  rw [e1, e2]
  cases e : decide (lo ≤ c)
  · rw [e] at k; rw [qIf_F]; exact k
  · rw [e] at k; rw [qIf_T]; exact k
theorem isDigit_q (P : Prj cx gx) (k : K (.p (.bool (isDig c))) Γ) : Cq cx (n + 1) 140 [.p (.int c)] Γ K := dq P [] P.d_is_digit rfl (rngq (lo := 48) (hi := 57) k)
theorem isSmall_q (P : Prj cx gx) (k : K (.p (.bool (isSml c))) Γ) : Cq cx (n + 1) 147 [.p (.int c)] Γ K := dq P [] P.d_is_small rfl (rngq (lo := 97) (hi := 122) k)
theorem isCapital_q (P : Prj cx gx) (k : K (.p (.bool (isCap c))) Γ) : Cq cx (n + 1) 154 [.p (.int c)] Γ K := dq P [] P.d_is_capital rfl (rngq (lo := 65) (hi := 90) k)
theorem or_q {b x : Bool} {A : Prop} (h : K (.p (.bool (b || x))) Γ) (h1 : K (.p (.bool x)) Γ → A) : qIf b (K (.p (.bool b)) Γ) A := by
  cases b
  · rw [qIf_F]; exact h1 h
  · rw [qIf_T]; exact h
theorem and_q {b x : Bool} {A : Prop} (h : K (.p (.bool (b && x))) Γ) (h1 : K (.p (.bool x)) Γ → A) : qIf b A (K (.p (.bool b)) Γ) := by
  cases b
  · rw [qIf_F]; exact h
  · rw [qIf_T]; exact h1 h
theorem isAlnum_q (P : Prj cx gx) (k : K (.p (.bool (isAln c))) Γ) : Cq cx (n + 1 + 1) 161 [.p (.int c)] Γ K := by
  refine dq P [] P.d_is_alnum rfl ?_
  refine isSmall_q P ?_
  refine or_q (K := K) k fun k => ?_
  refine isCapital_q P ?_
  refine or_q (K := K) k fun k => ?_
  refine isDigit_q P ?_
  refine or_q (K := K) k fun k => ?_
  have : decide ((c : Int) = 95) = decide (c = 95) := by rw [Bool.eq_iff_iff]; simp only [decide_eq_true_eq]; omega
  rw [← this] at k
  exact k
end
end Mine.G

namespace Mine.G
open Mine Mine.PJ
section
variable {cx : Cx} {gx : List V} {n : Nat} {Γ : Gam} {K : KE}
theorem idx0 (n : Nat) : idx (n + 1) 0 = some 0 := by unfold idx; rw [if_pos (by omega), if_pos (by omega)]; rfl
theorem symL_lt : ∀ c ∈ symL, c < 128 := by decide
theorem isSymbol_q (P : Prj cx gx) {c : Nat} (k : K (.p (.bool (isSym c))) Γ) : Cq cx (n + 1) 168 [.p (.int c)] Γ K := by
  refine dq P [] P.d_is_symbol rfl ?_
  refine if_of (b := decide ((c : Int) < 128)) (fun e => ?_) fun e => ?_
  · have := of_decide_eq_true e
    exact ⟨Int.natCast_nonneg c, by omega, k⟩
  · have h := of_decide_eq_false e
    have : isSym c = false := decide_eq_false fun q => by have := symL_lt c q; omega
    rw [this, ← e] at k; exact k
theorem isWord_q (P : Prj cx gx) {c : Nat} (k : K (.p (.bool (isWrd c))) Γ) : Cq cx (n + 1 + 1 + 1) 327 [.p (.str [c])] Γ K := by
  refine dq P [] P.d_is_word rfl ?_
  refine isAlnum_q P ?_
  refine or_q (K := K) k fun k => ?_
  have : decide ((128 : Int) ≤ (c : Int)) = decide (128 ≤ c) := by rw [Bool.eq_iff_iff]; simp only [decide_eq_true_eq]; omega
  rw [← this] at k
  exact k
theorem chk_loop {B : Env → Gam → KS → Prop} {st : Env → V → Env} {R : KS} (q : Nat → Bool) (I : Env → Prop)
    (hB : ∀ env c (R' : KS), I env → (q c = true → ∀ env', I env' → R' .next env' Γ) → (q c = false → ∀ env', R' (.ret (.p (.bool false))) env' Γ) → B (st env (.str [c])) Γ R') : ∀ (t : List Nat) (env : Env),
    I env → (t.all q = true → ∀ env', I env' → R .next env' Γ) → (t.all q = false → ∀ env', R (.ret (.p (.bool false))) env' Γ) → qFor B st (t.map fun c => .str [c]) env Γ R
  | [], env, hi, h1, _ => by rw [qFor_eq]; exact h1 rfl env hi
  | c :: t, env, hi, h1, h2 => by
    rw [qFor_eq]
    refine hB env c _ hi (fun e env' hi' => (by rw [← qFor_eq]; exact chk_loop q I hB t env' hi' (fun a => h1 (by rw [List.all_cons, e, a]; rfl)) fun a => h2 (by rw [List.all_cons, e, a]; rfl))) fun e env' => h2 (by rw [List.all_cons, e]; rfl) env'
noncomputable def alnN : List Nat → Bool
  | [] => false
  | c :: r => isSml c && (c :: r).all isAln
noncomputable def symN : List Nat → Bool
  | [] => false
  | c :: r => (c :: r).all isSym
theorem alnName_q (P : Prj cx gx) {t : List Nat} (k : K (.p (.bool (alnN t))) Γ) : Cq cx (n + 1 + 1 + 1) 182 [.p (.str t)] Γ K := by
  refine dq P [] P.d_is_alnum_name rfl ?_
  cases t with
  | nil => exact k
  | cons c r =>
    refine ⟨0, c, idx0 _, rfl, ?_⟩
    refine isSmall_q P ?_
    replace k : K (.p (.bool (isSml c && (c :: r).all isAln))) Γ := k
    cases e : isSml c with
    | false => rw [e] at k; exact k
    | true =>
      rw [e, Bool.true_and] at k
      refine chk_loop isAln (fun env => ∃ x, env = [some (.p (.str (c :: r))), x]) ?_ (c :: r) _ ⟨_, rfl⟩ (fun a env' => ?_) fun a env' => ?_
      · rintro env d R' ⟨x, rfl⟩ h1 h2
        refine isAlnum_q P ?_
        cases q : isAln d
        · exact (h2 q _)
        · exact (h1 q _ ⟨_, rfl⟩)
      · rw [a] at k; exact fun _ => k
      · rw [a] at k; exact k
theorem symName_q (P : Prj cx gx) {t : List Nat} (k : K (.p (.bool (symN t))) Γ) : Cq cx (n + 1 + 1) 189 [.p (.str t)] Γ K := by
  refine dq P [] P.d_is_symbol_name rfl ?_
  cases t with
  | nil => exact k
  | cons c r =>
    replace k : K (.p (.bool ((c :: r).all isSym))) Γ := k
    refine chk_loop isSym (fun env => ∃ x, env = [some (.p (.str (c :: r))), x]) ?_ (c :: r) _ ⟨_, rfl⟩ (fun a env' => ?_) fun a env' => ?_
    · rintro env d R' ⟨x, rfl⟩ h1 h2
      refine isSymbol_q P ?_
      cases q : isSym d
      · exact (h2 q _)
      · exact (h1 q _ ⟨_, rfl⟩)
    · rw [a] at k; exact fun _ => k
    · rw [a] at k; exact k
noncomputable def plainA (t : List Nat) : Bool := [V.str [91, 93], .str [123, 125], .str [33], .str [59]].any fun y => veq y (.str t)
noncomputable def plainN (t : List Nat) : Bool := plainA t || (alnN t || (symN t && (!decide (t = [46]) && !List.isPrefixOf [47, 42] t)))
theorem plainName_q (P : Prj cx gx) {t : List Nat} (k : K (.p (.bool (plainN t))) Γ) : Cq cx (n + 1 + 1 + 1 + 1) 196 [.p (.str t)] Γ K := by
  refine dq P [] P.d_is_plain_name rfl ?_
  unfold plainN at k
  cases e : plainA t with
  | true => rw [e] at k; exact if_t e k
  | false =>
    rw [e, Bool.false_or] at k
    refine if_f e ?_
    refine alnName_q P ?_
    cases e : alnN t with
    | true => rw [e] at k; exact k
    | false =>
      rw [e, Bool.false_or] at k
      refine symName_q P ?_
      refine and_q (K := K) k fun k => ?_
      exact and_q (K := K) k fun k => k
noncomputable def bnd (p : Int) (t : List Nat) : Int × Int := match decide (t = [102, 120]) with
  | true => (0, p - 1)
  | false => match decide (t = [102, 121]) with
    | true => (0, p)
    | false => match decide (t = [120, 102]) with
      | true => (p - 1, 0)
      | false => match decide (t = [121, 102]) with
        | true => (p, 0)
        | false => match decide (t = [120, 102, 121]) with
          | true => (p - 1, p)
          | false => match decide (t = [121, 102, 120]) with
            | true => (p, p - 1)
            | false => (p - 1, p - 1)
theorem bounds_q (P : Prj cx gx) {p : Int} {t : List Nat} (k : K (.p (.tup [.int (bnd p t).1, .int (bnd p t).2])) Γ) : Cq cx (n + 1) 220 [.p (.int p), .p (.str t)] Γ K := by
  refine dq P [] P.d_bounds rfl ?_
  unfold bnd at k
  cases e : decide (t = [102, 120]) with
  | true => rw [e] at k; exact if_t e k
  | false =>
  rw [e] at k; refine if_f e ?_
  cases e : decide (t = [102, 121]) with
  | true => rw [e] at k; exact if_t e k
  | false =>
  rw [e] at k; refine if_f e ?_
  cases e : decide (t = [120, 102]) with
  | true => rw [e] at k; exact if_t e k
  | false =>
  rw [e] at k; refine if_f e ?_
  cases e : decide (t = [121, 102]) with
  | true => rw [e] at k; exact if_t e k
  | false =>
  rw [e] at k; refine if_f e ?_
  cases e : decide (t = [120, 102, 121]) with
  | true => rw [e] at k; exact if_t e k
  | false =>
  rw [e] at k; refine if_f e ?_
  cases e : decide (t = [121, 102, 120]) with
  | true => rw [e] at k; exact if_t e k
  | false =>
  rw [e] at k; exact if_f e k
noncomputable def tightN (t : List Nat) : Bool := decide (t = [59]) || (decide (t = [33]) || symN t)
theorem isTight_q (P : Prj cx gx) {t : List Nat} (k : K (.p (.bool (tightN t))) Γ) : Cq cx (n + 1 + 1 + 1) 334 [.p (.str t)] Γ K := by
  refine dq P [] P.d_is_tight rfl ?_
  refine or_q (K := K) k fun k => ?_
  refine or_q (K := K) k fun k => ?_
  exact symName_q P k
noncomputable def calmC (c : Nat) : Bool := decide (32 ≤ c) && (decide (c ≤ 126) && (!decide (c = 39) && !decide (c = 92)))
theorem escaped_q (P : Prj cx gx) {c : Nat} (h : calmC c = true) (k : K (.p (.str [c])) Γ) : Cq cx (n + 1) 298 [.p (.int c)] Γ K := by
  simp only [calmC, Bool.and_eq_true, Bool.not_eq_true', decide_eq_true_eq, decide_eq_false_iff_not] at h
  refine dq P [] P.d_escaped rfl ?_
  refine (if_f (decide_eq_false (by omega)) ?_)
  refine (if_f (decide_eq_false (by omega)) ?_)
  refine if_t (decide_eq_true (by omega)) (if_f (decide_eq_false (by omega)) ?_)
  refine if_f (decide_eq_false (by omega)) ?_
  refine (if_f (decide_eq_false (by omega)) ?_)
  exact ⟨Int.natCast_nonneg c, by omega, k⟩
end
end Mine.G

namespace Mine.G
open Mine Mine.PJ
section
variable {cx : Cx} {gx : List V} {n : Nat} {Γ : Gam} {K : KE}
theorem catS_st : ∀ (T : List (List Nat)), catS (stL T) = some T.flatten
  | [] => rfl
  | s :: T => by show (catS (stL T)).map (s ++ ·) = _; rw [catS_st T]; rfl
theorem dig_len40 {m : Nat} (h : m < 10 ^ 36) : (digits10 m).length ≤ 36 := dig_len (by decide) h
theorem lim_le {k : Nat} (h : k ≤ 1000) : k ≤ lim := Nat.le_trans h (by decide)
theorem showI_len {v : Int} (h : v.natAbs < 10 ^ 36) : (showI v).length ≤ 37 := by
  unfold showI
  have := dig_len40 h
  split
  · rw [List.length_cons]; exact Nat.succ_le_succ (by assumption)
  · exact Nat.le_succ_of_le (by assumption)
theorem number_q (P : Prj cx gx) {v : Int} (h : v.natAbs < 10 ^ 36) (k : K (.p (.str (showI v))) Γ) : Cq cx (n + 1) 175 [.p (.int v)] Γ K := by
  refine dq P [] P.d_number_text rfl ?_
  have hk : ∀ m : Nat, m < 10 ^ 36 → ((m : Int)).natAbs < 2 ^ 1900 := fun m hm => Nat.lt_of_lt_of_le (show m < 10 ^ 36 from hm) (by decide)
  have e0 : (10 : Int) ^ (18 : Int).toNat = ((10 ^ 18 : Nat) : Int) := by decide
  have fin : ∀ (T : List (List Nat)) (m : Nat) (x : Option SV), m < 10 ^ 36 → T.length ≤ 1 → digits10 v.natAbs = digits10 m ++ T.reverse.flatten →
      wqSs (T0 gx) (Cq cx) n [] (.cons (.expr (.bm .append (.x 2) (.cons (.bi .str (.cons (.x 1) .nil)) .nil)))
 (.cons (.ite (.cmp .Lt (.x 0) (.c (.int 0))) (.cons (.expr (.bm .append (.x 2) (.cons (.c (.str [45])) .nil)))
 .nil) .nil)
 (.cons (.ret (.joinrev (.c (.str [])) (.x 2)))
 .nil))) [some (.p (.int v)), some (.p (.int (m : Int))), some (.l (stL T)), x] Γ (doneQ K) := fun T m x hm hT e => by
    refine ⟨hk m hm, ?_⟩
    have lT : (stL T).length ≤ 1 := by rw [stL_len]; exact hT
    refine lenP_mk (lim_le (by omega)) ?_
    have em : showI (m : Int) = digits10 m := showI_nat m
    refine if_of (b := decide (v < 0)) (fun q => ?_) fun q => ?_
    · refine lenP_mk (lim_le (by rw [List.length_append]; simp only [List.length_singleton]; omega)) ?_
      have hv : showI v = 45 :: digits10 v.natAbs := by unfold showI; rw [if_pos (of_decide_eq_true q)]
      refine ⟨showI v, ?_, lim_le (Nat.le_trans (showI_len h) (by decide)), k⟩
      show catS (stL T ++ [V.str (showI (m : Int))] ++ [V.str [45]]).reverse = _
      rw [em, List.reverse_append, List.reverse_append]
      show catS (stL ([45] :: digits10 m :: [])  ++ (stL T).reverse) = _
      rw [show (stL T).reverse = stL T.reverse from (List.map_reverse ..).symm, ← stL_app, catS_st, hv, e]
      simp
    · have hv : showI v = digits10 v.natAbs := by unfold showI; rw [if_neg (of_decide_eq_false q)]
      refine ⟨showI v, ?_, lim_le (Nat.le_trans (showI_len h) (by decide)), k⟩
      show catS (stL T ++ [V.str (showI (m : Int))]).reverse = _
      rw [em, List.reverse_append]
      show catS (stL (digits10 m :: [])  ++ (stL T).reverse) = _
      rw [show (stL T).reverse = stL T.reverse from (List.map_reverse ..).symm, ← stL_app, catS_st, hv, e]
      simp
  by_cases hs : v.natAbs < 10 ^ 18
  · refine ⟨1, ?_⟩
    rw [qWh_eq]
    refine ⟨rfl, by decide, by decide, ?_⟩
    refine if_f (b := decide ((10 : Int) ^ (18 : Int).toNat ≤ (v.natAbs : Int))) (decide_eq_false (by rw [e0]; omega)) ?_
    exact fin [] v.natAbs none (Nat.lt_trans hs (by decide)) (by decide) (by simp)
  · refine ⟨2, ?_⟩
    rw [qWh_eq]
    refine ⟨rfl, by decide, by decide, ?_⟩
    refine if_t (b := decide ((10 : Int) ^ (18 : Int).toNat ≤ (v.natAbs : Int))) (decide_eq_true (by rw [e0]; omega)) ?_
    refine ⟨rfl, by decide, by decide, ?_⟩
    refine ⟨by decide, by decide, ?_⟩
    have q1 : (v.natAbs : Int) / (10 : Int) ^ (18 : Int).toNat = ((v.natAbs / 10 ^ 18 : Nat) : Int) := by rw [e0]; exact (Int.natCast_ediv ..).symm
    have q2 : (v.natAbs : Int) % (10 : Int) ^ (18 : Int).toNat = ((v.natAbs % 10 ^ 18 : Nat) : Int) := by rw [e0]; exact (Int.natCast_emod ..).symm
    have r1 : v.natAbs % 10 ^ 18 < 10 ^ 18 := Nat.mod_lt _ (by decide)
    have r2 : v.natAbs / 10 ^ 18 < 10 ^ 18 := by rw [Nat.div_lt_iff_lt_mul (by decide)]; exact Nat.lt_of_lt_of_le h (by decide)
    have r3 : 0 < v.natAbs / 10 ^ 18 := Nat.div_pos (Nat.le_of_not_lt hs) (by decide)
    rw [q1, q2]
    have sp : showI ((v.natAbs % 10 ^ 18 : Nat) : Int) = digits10 (v.natAbs % 10 ^ 18) := showI_nat _
    refine ⟨hk _ (Nat.lt_trans r1 (by decide)), ?_⟩
    refine ⟨by decide, by decide, by rw [sp]; exact Nat.le_trans (dig_len (by decide) r1) (by decide), by rw [sp]; exact dig_ok _, ?_⟩
    refine ⟨rfl, by decide, by decide, ?_⟩
    refine if_f (b := decide ((10 : Int) ^ (18 : Int).toNat ≤ ((v.natAbs / 10 ^ 18 : Nat) : Int))) (decide_eq_false (by rw [e0]; omega)) ?_
    refine fin [List.replicate (18 - (showI ((v.natAbs % 10 ^ 18 : Nat) : Int)).length) 48 ++ showI ((v.natAbs % 10 ^ 18 : Nat) : Int)] (v.natAbs / 10 ^ 18) _ (Nat.lt_trans r2 (by decide)) (Nat.le_refl 1) ?_
    rw [sp, List.reverse_singleton]
    simp only [List.flatten_cons, List.flatten_nil, List.append_nil]
    rw [← show_pad r3 r1]
    congr 1
    rw [Nat.mul_comm]; exact (Nat.div_add_mod _ _).symm
theorem flat_one : ∀ t : List Nat, (t.map fun c => [c]).flatten = t
  | [] => rfl
  | c :: t => congrArg (c :: ·) (flat_one t)
theorem quo_loop (P : Prj cx gx) {t0 : List Nat} {R : KS} : ∀ (t : List Nat) (T : List (List Nat)) (x : Option SV), t.all calmC = true → T.length + t.length ≤ 900 →
    (∀ x', R .next [some (.p (.str t0)), some (.l (stL (T ++ t.map fun c => [c]))), x'] Γ) →
    qFor0 (fun env Γ R => wqSs (T0 gx) (Cq cx) (n + 1) [] (.cons (.expr (.bm .append (.x 1) (.cons (.call 17 (.cons (.bi .ord (.cons (.x 2) .nil)) .nil)) .nil))) .nil) env Γ R)
      (fun env x => setE env 2 (.p x)) (t.map fun c => .str [c]) [some (.p (.str t0)), some (.l (stL T)), x] Γ R
  | [], T, x, _, _, k => by
    have := k x
    rw [List.map_nil, List.append_nil] at this
    exact this
  | c :: t, T, x, h, l, k => by
    rw [List.all_cons, Bool.and_eq_true] at h
    refine escaped_q P h.1 ?_
    have e : stL T ++ [V.str [c]] = stL (T ++ [[c]]) := (stL_app T [[c]]).symm
    refine lenP_mk (lim_le (by rw [stL_len]; rw [List.length_cons] at l; omega)) ?_
    have := quo_loop P t (T ++ [[c]]) (some (.p (.str [c]))) h.2 (by rw [List.length_append, List.length_singleton]; rw [List.length_cons] at l; omega) (R := R) (t0 := t0) (fun x' => by
      have := k x'
      rw [List.map_cons] at this
      rw [List.append_assoc]; exact this)
    rw [← e] at this
    exact this
noncomputable def quoN (t : List Nat) : List Nat := 39 :: (t ++ [39])
theorem quoted_q (P : Prj cx gx) {t : List Nat} (h : t.all calmC = true) (l : t.length ≤ 800) (k : K (.p (.str (quoN t))) Γ) : Cq cx (n + 1 + 1) 305 [.p (.str t)] Γ K := by
  refine dq P [] P.d_quoted_text rfl ?_
  refine Eq.mpr qFor_eq ?_
  refine quo_loop P (t0 := t) t [[39]] none h (by rw [List.length_singleton]; omega) fun x' => ?_
  refine lenP_mk (lim_le (by rw [stL_len, List.length_append, List.length_map, List.length_singleton]; omega)) ?_
  have e : stL ([[39]] ++ t.map fun c => [c]) ++ [V.str [39]] = stL (([[39]] ++ t.map fun c => [c]) ++ [[39]]) := (stL_app _ [[39]]).symm
  have f : (([[39]] ++ t.map fun c => [c]) ++ [[39]]).flatten = quoN t := by
    rw [List.flatten_append, List.flatten_append]
    rw [flat_one]; rfl
  refine ⟨quoN t, ?_, lim_le (by unfold quoN; simp; omega), k⟩
  show catS (stL ([[39]] ++ t.map fun c => [c]) ++ [V.str [39]]) = _
  rw [e, catS_st, f]
noncomputable def atomT (T : List (List Nat)) (q : Bool) (a : Nat) : List Nat := match q && !plainN (T.getD a []) with
  | true => quoN (T.getD a [])
  | false => T.getD a []
noncomputable def numberedT (m : Nat) : List Nat := match decide (m < 26) with
  | true => [65 + m % 26]
  | false => [65 + m % 26] ++ digits10 (m / 26)
theorem numbered_q (P : Prj cx gx) {m : Nat} (h : m < 10 ^ 36) (k : K (.p (.str (numberedT m))) Γ) : Cq cx (n + 1 + 1) 320 [.p (.int (m : Int))] Γ K := by
  refine dq P [] P.d_numbered_text rfl ?_
  refine ⟨by decide, by decide, ?_⟩
  have e : (65 : Int) + (m : Int) % 26 = ((65 + m % 26 : Nat) : Int) := by rfl
  have b : 65 + m % 26 < 91 := by omega
  refine ⟨(Int.natCast_nonneg _), by omega, ?_⟩
  have e1 : ((65 : Int) + (m : Int) % 26).toNat = 65 + m % 26 := by rfl
  rw [e1]
  unfold numberedT at k
  refine if_of (b := decide ((m : Int) < 26)) (fun q => ?_) fun q => ?_
  · have : decide (m < 26) = true := decide_eq_true (by have := of_decide_eq_true q; omega)
    rw [this] at k; exact k
  · have : decide (m < 26) = false := decide_eq_false (by have := of_decide_eq_false q; omega)
    rw [this] at k
    refine ⟨by decide, by decide, ?_⟩
    have e2 : (m : Int) / 26 = ((m / 26 : Nat) : Int) := by rfl
    rw [e2]
    refine number_q P (v := ((m / 26 : Nat) : Int)) (Nat.lt_of_le_of_lt (Nat.div_le_self _ _) h) ?_
    rw [showI_nat]
    exact ⟨lim_le (by have := dig_len40 (m := m / 26) (Nat.lt_of_le_of_lt (Nat.div_le_self _ _) h); rw [List.length_singleton]; omega), k⟩
end
end Mine.G

namespace Mine.G
open Mine Mine.PJ

inductive Tm where
  | v (k : Int)
  | i (k : Int)
  | a (n : Nat)
  | s1 (f : Nat) (x : Tm)
  | s2 (f : Nat) (x y : Tm)
noncomputable def tv : Tm → V
  | .v k => .tup [.str [118], .int k]
  | .i k => .tup [.str [105], .int k]
  | .a n => .tup [.str [97], .int (n : Int)]
  | .s1 f x => .tup [.str [115], .int (f : Int), .tup [tv x]]
  | .s2 f x y => .tup [.str [115], .int (f : Int), .tup [tv x, tv y]]
structure Cf where
  T : List (List Nat)
  F : List (Int × Int)
  P : OT
  N : OT
  S : OT
  quoted : Bool
  ign : Bool
  nv : Bool
  nm : List (Int × List Nat)
  tk : List (List Nat)
noncomputable def nmE (l : List (Int × List Nat)) : List (V × V) := l.map fun e => (.int e.1, .str e.2)
noncomputable def tkE (l : List (List Nat)) : List (V × V) := l.map fun t => (.str t, .bool true)
noncomputable def Cf.at (C : Cf) (a : Nat) : List Nat := atomT C.T C.quoted a
noncomputable def Cf.nam (C : Cf) (f : Nat) : Nat := (C.F.getD f (0, 0)).1.toNat
noncomputable def Cf.okA (C : Cf) (a : Nat) : Prop := a < C.T.length ∧ (C.T.getD a []).all calmC = true ∧ (C.T.getD a []).length ≤ 60
noncomputable def Cf.okF (C : Cf) (f : Nat) : Prop := f < C.F.length ∧ 0 ≤ (C.F.getD f (0, 0)).1 ∧ C.okA (C.nam f)
structure Cf.Ok (C : Cf) : Prop where
  t : C.T.length ≤ 5000
  f : C.F.length ≤ 5000
  k : ∀ t ∈ C.tk, t.head? ≠ some 95
  n : ∀ e ∈ C.nm, e.2.length ≤ 60
noncomputable abbrev WS := List V × Option Nat × Bool
noncomputable def optL : Option Nat → List Nat
  | none => []
  | some c => [c]
noncomputable def lastD (t : List Nat) : Nat := t.getLastD 0
noncomputable def rawP (q : WS) (t : List Nat) : WS := match t with
  | [] => q
  | c :: r => (q.1 ++ [.str (c :: r)], some (lastD (c :: r)), false)
noncomputable def needP (l : Option Nat) (pre : Bool) (f : Nat) : Bool := match l with
  | none => false
  | some l => match decide (l = 32) with
    | true => false
    | false => match pre && (decide (f = 40) || (decide (l = 45) && isDig f)) with
      | true => true
      | false => match isWrd l with
        | true => isWrd f || decide (f = 39)
        | false => match isSym l with
          | true => isSym f
          | false => decide (l = 39) && decide (f = 39)
noncomputable def tokP (q : WS) (t : List Nat) : WS := match t with
  | [] => q
  | c :: r => match needP q.2.1 q.2.2 c with
    | true => rawP (q.1 ++ [.str [32]], q.2) (c :: r)
    | false => rawP q (c :: r)
noncomputable def isNonneg : Tm → Bool
  | .i k => decide (0 ≤ k)
  | _ => false
noncomputable def Cf.isNum (C : Cf) : Tm → Bool
  | .s1 f x => C.nv && (decide (f = 17) && isNonneg x)
  | .s2 f x _ => C.nv && (decide (f = 17) && isNonneg x)
  | _ => false
noncomputable abbrev Sh := Nat × Int × List Nat
noncomputable def shV : Option Sh → V
  | none => .none
  | some (k, p, t) => .tup [kindV k, .int p, .str t]
noncomputable def Cf.shape1 (C : Cf) (a : Nat) (x : Tm) : Option Sh := match otGet C.P (a : Int) with
  | some e => (match decide (a = 3) && isNonneg x with
    | true => none
    | false => some (0, e))
  | none => match otGet C.S (a : Int) with
    | some e => some (2, e)
    | none => none
noncomputable def Cf.shape2 (C : Cf) (a : Nat) : Option Sh := match otGet C.N (a : Int) with
  | some e => some (1, e)
  | none => none
noncomputable def Cf.shape (C : Cf) : Tm → Option Sh
  | .s1 f x => (match C.ign || (decide (f = 0) || (decide (f = 9) || C.isNum (.s1 f x))) with
    | true => none
    | false => C.shape1 (C.nam f) x)
  | .s2 f x y => (match C.ign || (decide (f = 0) || (decide (f = 9) || C.isNum (.s2 f x y))) with
    | true => none
    | false => C.shape2 (C.nam f))
  | _ => none
noncomputable def Cf.left (C : Cf) (x : Tm) (p most : Int) : Int := match C.shape x with
  | some (_, p', t) => (match decide (p' = p) && decide ((bnd p' t).2 = p) with
    | true => p - 1
    | false => most)
  | none => most
noncomputable def Cf.isOp (C : Cf) (a : Nat) : Bool := (C.P.any fun e => decide (e.1 = (a : Int))) || ((C.N.any fun e => decide (e.1 = (a : Int))) || (C.S.any fun e => decide (e.1 = (a : Int))))
noncomputable def Cf.preO (C : Cf) (a : Nat) (q : WS) : WS := match tightN (C.at a) with
  | true => ((tokP q (C.at a)).1, (tokP q (C.at a)).2.1, true)
  | false => rawP (tokP q (C.at a)) [32]
noncomputable def Cf.infO (C : Cf) (a : Nat) (q : WS) : WS := match decide (a = 7) with
  | true => rawP q [44]
  | false => match decide (a = 8) with
    | true => rawP q [124]
    | false => match tightN (C.at a) with
      | true => tokP q (C.at a)
      | false => rawP (rawP (rawP q [32]) (C.at a)) [32]
noncomputable def Cf.posO (C : Cf) (a : Nat) (q : WS) : WS := match tightN (C.at a) with
  | true => tokP q (C.at a)
  | false => rawP (rawP q [32]) (C.at a)
noncomputable def Cf.var (C : Cf) (k : Int) : List Nat := match (C.nm.find? fun e => decide (e.1 = k)) with
  | some e => e.2
  | none => 95 :: showI k
noncomputable def Cf.atm (C : Cf) (a : Nat) (alone : Bool) (q : WS) : WS := match !alone && C.isOp a with
  | true => rawP (rawP (tokP q [40]) (C.at a)) [41]
  | false => tokP q (C.at a)
inductive It where
  | t (x : Tm) (m : Int) (al : Bool)
  | raw (s : List Nat)
  | inf (a : Nat)
  | pos (a : Nat)
noncomputable def itV : It → V
  | .t x m b => .tup [.str [116, 101, 114, 109], tv x, .int m, .bool b]
  | .raw s => .tup [.str [114, 97, 119], .str s, .int 0, .bool false]
  | .inf a => .tup [.str [105, 110, 102, 105, 120], .int (a : Int), .int 0, .bool false]
  | .pos a => .tup [.str [112, 111, 115, 116, 102, 105, 120], .int (a : Int), .int 0, .bool false]
noncomputable def clB (hi : Bool) : List It := match hi with
  | true => [.raw [41]]
  | false => []
noncomputable def midB (y : Option Tm) (r : Int) : List It := match y with
  | some y => [.t y r false]
  | none => []
noncomputable def Cf.opn (C : Cf) (sh : Sh) (a : Nat) (x : Tm) (y : Option Tm) (most : Int) (q : WS) : WS × List It :=
  let b := bnd sh.2.1 sh.2.2
  let hi := decide (most < sh.2.1)
  let q1 := match hi with
    | true => tokP q [40]
    | false => q
  let cl := clB hi
  match sh.1 with
  | 0 => (C.preO a q1, .t x b.2 false :: cl)
  | 1 => (q1, .t x (C.left x sh.2.1 b.1) false :: .inf a :: (midB y b.2 ++ cl))
  | _ => (q1, .t x (C.left x sh.2.1 b.1) false :: .pos a :: cl)
noncomputable def litems : Tm → List Tm × Tm
  | .s2 f x y => (match decide (f = 0) with
    | true => (x :: (litems y).1, (litems y).2)
    | false => ([], .s2 f x y))
  | t => ([], t)
noncomputable def commas : List Tm → List It
  | [] => []
  | [x] => [.t x 999 true]
  | x :: r => .t x 999 true :: .raw [44] :: commas r
noncomputable def isNil : Tm → Bool
  | .a n => decide (n = 0)
  | _ => false
noncomputable def tailI (t : Tm) : List It := match isNil t with
  | true => [.raw [93]]
  | false => [.raw [124], .t t 999 true, .raw [93]]
noncomputable def Cf.write (C : Cf) (t : Tm) (most : Int) (alone : Bool) (q : WS) : WS × List It := match t with
  | .v k => (tokP q (C.var k), [])
  | .i k => (tokP q (showI k), [])
  | .a n => (C.atm n alone q, [])
  | .s1 f x => (match C.isNum (.s1 f x) with
    | true => (match x with
      | .i k => (tokP q (numberedT k.toNat), [])
      | _ => (q, []))
    | false => match decide (f = 9) && !C.ign with
      | true => (tokP q [123], [.t x 1201 true, .raw [125]])
      | false => match C.shape (.s1 f x) with
        | none => (tokP q (C.at (C.nam f)), [.raw [40], .t x 999 true, .raw [41]])
        | some sh => C.opn sh (C.nam f) x none most q)
  | .s2 f x y => (match decide (f = 0) with
    | true => (tokP q [91], commas (litems (.s2 f x y)).1 ++ tailI (litems (.s2 f x y)).2)
    | false => match C.shape (.s2 f x y) with
      | none => (tokP q (C.at (C.nam f)), [.raw [40], .t x 999 true, .raw [44], .t y 999 true, .raw [41]])
      | some sh => C.opn sh (C.nam f) x (some y) most q)
noncomputable def Cf.step (C : Cf) (it : It) (q : WS) : WS × List It := match it with
  | .t x m b => C.write x m b q
  | .raw s => (rawP q s, [])
  | .inf a => (C.infO a q, [])
  | .pos a => (C.posO a q, [])
noncomputable def Cf.run (C : Cf) : Nat → List It → WS → WS
  | 0, _, q => q
  | _ + 1, [], q => q
  | n + 1, it :: r, q => C.run n ((C.step it q).2 ++ r) (C.step it q).1
noncomputable def Cf.ok (C : Cf) : Tm → Prop
  | .v k => k.natAbs < 10 ^ 30
  | .i k => k.natAbs < 10 ^ 30
  | .a n => C.okA n
  | .s1 f x => f ≠ 0 ∧ (f = 17 ∧ C.isNum (.s1 f x) = true ∨ C.okF f) ∧ C.ok x
  | .s2 f x y => f ≠ 9 ∧ f ≠ 17 ∧ C.okF f ∧ C.ok x ∧ C.ok y ∧ (f = 0 → (litems y).1.length ≤ 90)
noncomputable def Cf.okI (C : Cf) : It → Prop
  | .t x _ _ => C.ok x
  | .raw s => s.length ≤ 60
  | .inf a => C.okA a
  | .pos a => C.okA a
end Mine.G

namespace Mine.G
open Mine Mine.PJ
noncomputable abbrev iSY : Nat := 1
noncomputable abbrev iTB : Nat := 6
noncomputable abbrev iW : Nat := 10
structure Oth where
  row : List V
  d1 : List (V × V)
  d2 : List (V × V)
  o0 : List V
  w0 : List V
noncomputable def Gm (O : Oth) (C : Cf) (q : WS) (wk : List V) : Gam := [.list O.row, .inst 122 [(5, .r 2), (4, .r 3), (3, .r 4), (2, .r 5)], .list (stL C.T), .dict O.d1, .list (C.F.map prV), .dict O.d2,
  .inst 287 [(11, .r 1), (10, .r 7), (9, .r 8), (8, .r 9)], .dict (otE C.P), .dict (otE C.N), .dict (otE C.S),
  .inst 472 [(11, .r 1), (23, .r 6), (22, .p (.bool C.quoted)), (21, .p (.bool C.ign)), (20, .p (.bool C.nv)), (19, .r 11), (18, .r 12), (17, .r 15), (16, .p (.str (optL q.2.1))), (15, .p (.bool q.2.2)), (14, .r 16)],
  .dict (nmE C.nm), .dict (tkE C.tk), .list O.o0, .list O.w0, .list q.1, .list wk]
noncomputable def Gp (O : Oth) (C : Cf) (l : List Nat) (b : Bool) : Gam := [.list O.row, .inst 122 [(5, .r 2), (4, .r 3), (3, .r 4), (2, .r 5)], .list (stL C.T), .dict O.d1, .list (C.F.map prV), .dict O.d2,
  .inst 287 [(11, .r 1), (10, .r 7), (9, .r 8), (8, .r 9)], .dict (otE C.P), .dict (otE C.N), .dict (otE C.S),
  .inst 472 [(11, .r 1), (23, .r 6), (22, .p (.bool C.quoted)), (21, .p (.bool C.ign)), (20, .p (.bool C.nv)), (19, .r 11), (18, .r 12), (17, .r 13), (16, .p (.str l)), (15, .p (.bool b)), (14, .r 14)],
  .dict (nmE C.nm), .dict (tkE C.tk), .list O.o0, .list O.w0]
end Mine.G

namespace Mine.G
open Mine Mine.PJ
section
variable {cx : Cx} {gx : List V} {n : Nat} {K : KE} {O : Oth} {C : Cf} {q : WS} {wk : List V}
theorem idx_last (n : Nat) : idx (n + 1) ((n + 1 : Nat) - 1 : Int) = some n := by
  unfold idx
  rw [if_pos (by omega), if_pos (by omega)]
  congr 1; omega
theorem get_last (c : Nat) (r : List Nat) : (c :: r)[r.length]? = some (lastD (c :: r)) := by
  unfold lastD
  rw [List.getLastD_eq_getLast?, List.getLast?_eq_getElem?]
  simp
theorem raw_q (P : Prj cx gx) {t : List Nat} (hl : q.1.length + 1 ≤ lim) (k : K (.p .none) (Gm O C (rawP q t) wk)) : Cq cx (n + 1) 364 [.r iW, .p (.str t)] (Gm O C q wk) K := by
  refine dq P [] P.d_Writer_raw rfl ?_
  cases t with
  | nil => exact k
  | cons c r =>
    refine ⟨hl, ?_⟩
    exact ⟨r.length, lastD (c :: r), idx_last _, get_last c r, k⟩
theorem eq1 {a b : Nat} : veq (.str [a]) (.str [b]) = decide (a = b) := by
  show decide ([a] = [b]) = _
  rw [Bool.eq_iff_iff]; simp
theorem needs_q (P : Prj cx gx) {f : Nat} (k : K (.p (.bool (needP q.2.1 q.2.2 f))) (Gm O C q wk)) : Cq cx (n + 1 + 1 + 1 + 1) 378 [.r iW, .p (.str [f])] (Gm O C q wk) K := by
  refine dq P [] P.d_Writer_needs_space rfl ?_
  obtain ⟨o, l, p⟩ := q
  cases l with
  | none => exact (k)
  | some l =>
    simp only [needP] at k
    cases e32 : decide (l = 32) with
    | true => rw [e32] at k; exact if_t (eq1.trans e32) k
    | false =>
    rw [e32] at k
    refine if_f (eq1.trans e32) ?_
    have rest : K (.p (.bool (match isWrd l with
        | true => isWrd f || decide (f = 39)
        | false => match isSym l with
          | true => isSym f
          | false => decide (l = 39) && decide (f = 39)))) (Gm O C (o, some l, p) wk) → wqSs (T0 gx) (Cq cx) (n + 1 + 1 + 1) [] (.cons (.ite (.call 22 (.cons (.attr (.x 0) 16) .nil)) (.cons (.ret (.bop false (.cons (.call 22 (.cons (.x 1) .nil)) (.cons (.cmp .Eq (.x 1) (.c (.str [39]))) .nil))))
 .nil) .nil)
 (.cons (.ite (.call 7 (.cons (.bi .ord (.cons (.attr (.x 0) 16) .nil)) .nil)) (.cons (.ret (.call 7 (.cons (.bi .ord (.cons (.x 1) .nil)) .nil)))
 .nil) .nil)
 (.cons (.ret (.bop true (.cons (.cmp .Eq (.attr (.x 0) 16) (.c (.str [39]))) (.cons (.cmp .Eq (.x 1) (.c (.str [39]))) .nil))))
 .nil))) [some (.r iW), some (.p (.str [f]))] (Gm O C (o, some l, p) wk) (doneQ K) := fun k => by
      refine isWord_q P ?_
      cases e1 : isWrd l with
      | true =>
        rw [e1] at k
        refine isWord_q P ?_
        refine or_q (K := K) k fun k => ?_
        rw [← eq1] at k
        exact k
      | false =>
      rw [e1] at k
      refine isSymbol_q P ?_
      cases e2 : isSym l with
      | true => rw [e2] at k; exact (isSymbol_q P k)
      | false =>
      rw [e2] at k
      rw [← eq1, ← eq1] at k
      refine and_q (K := K) k fun k => ?_
      exact k
    cases p with
    | false => exact ((rest k))
    | true =>
    simp only [Bool.true_and] at k
    cases e3 : decide (f = 40) with
    | true => rw [e3] at k; exact if_t (eq1.trans e3) (if_t (eq1.trans e3) k)
    | false =>
    rw [e3] at k
    refine if_f (eq1.trans e3) ?_
    cases e4 : decide (l = 45) with
    | false => rw [e4] at k; exact if_f (eq1.trans e4) (if_f (eq1.trans e4) (rest k))
    | true =>
    rw [e4] at k
    refine if_t (eq1.trans e4) ?_
    refine isDigit_q P ?_
    cases e5 : isDig f with
    | true => rw [e5] at k; exact k
    | false => rw [e5] at k; exact (rest k)
theorem token_q (P : Prj cx gx) {t : List Nat} (hl : q.1.length + 2 ≤ lim) (k : K (.p .none) (Gm O C (tokP q t) wk)) : Cq cx (n + 1 + 1 + 1 + 1 + 1) 371 [.r iW, .p (.str t)] (Gm O C q wk) K := by
  refine dq P [] P.d_Writer_token rfl ?_
  cases t with
  | nil => exact k
  | cons c r =>
    refine ⟨0, c, idx0 _, rfl, ?_⟩
    refine needs_q P ?_
    simp only [tokP] at k
    cases e : needP q.2.1 q.2.2 c with
    | false =>
      rw [e] at k
      exact raw_q P ((Nat.le_of_lt (by assumption))) k
    | true =>
      rw [e] at k
      refine ⟨(Nat.le_of_lt (by assumption)), ?_⟩
      refine raw_q (O := O) (C := C) (q := (q.1 ++ [.str [32]], q.2)) (wk := wk) P ?_ ?_
      · simp; assumption
      · exact k
theorem later_loop {R : KS} {v0 v1 : SV} : ∀ (xs : List V) (wk : List V) (x : Option SV), wk.length + xs.length ≤ 10000 → (∀ x', R .next [some (.r iW), some v1, x'] (Gm O C q (wk ++ xs))) →
    qFor0 (fun env Γ R => wqSs (T0 gx) (Cq cx) n [] (.cons (.expr (.bm .append (.attr (.x 0) 14) (.cons (.x 2) .nil))) .nil) env Γ R) (fun env x => setE env 2 (.p x)) xs [some (.r iW), some v1, x] (Gm O C q wk) R
  | [], wk, x, _, k => by rw [List.append_nil] at k; exact k x
  | y :: xs, wk, x, h, k => by
    refine ⟨Nat.le_trans (Nat.succ_le_succ (Nat.le_of_add_right_le h)) (by decide), ?_⟩
    exact later_loop xs (wk ++ [y]) (some (.p y)) (by simp only [List.length_append, List.length_cons, List.length_nil] at h ⊢; omega) (fun x' => by
      have := k x'
      rw [List.append_assoc]; exact this) (v0 := v0)
theorem later_q (P : Prj cx gx) {xs : List V} (h : wk.length + xs.length ≤ 10000) (k : K (.p .none) (Gm O C q (wk ++ xs.reverse))) : Cq cx (n + 1) 385 [.r iW, .al xs] (Gm O C q wk) K := by
  refine dq P [] P.d_Writer_later rfl ?_
  refine Eq.mpr qFor_eq ?_
  exact later_loop xs.reverse wk none (by rw [List.length_reverse]; exact h) (fun _ => k) (v0 := .p .none)
end
end Mine.G

namespace Mine.G
open Mine Mine.PJ
section
variable {cx : Cx} {gx : List V} {n : Nat} {K : KE} {O : Oth} {C : Cf} {q : WS} {wk : List V}
theorem idxN {len a : Nat} (h : a < len) : idx len (a : Int) = some a := by
  unfold idx
  rw [if_pos ((Int.natCast_nonneg _)), if_pos (by omega)]
  congr 1
theorem getD_get {α : Type} {l : List α} {a : Nat} {d : α} (h : a < l.length) : l[a]? = some (l.getD a d) := by
  rw [List.getD_eq_getElem?_getD, List.getElem?_eq_getElem h]; rfl
theorem text_q (P : Prj cx gx) {a : Nat} (h : a < C.T.length) (k : K (.p (.str (C.T.getD a []))) (Gm O C q wk)) : Cq cx (n + 1) 63 [.r iSY, .p (.int (a : Int))] (Gm O C q wk) K := by
  refine dq P [] P.d_Symbols_text rfl ?_
  exact ⟨a, .str (C.T.getD a []), by rw [stL_len]; exact idxN h, by unfold stL; rw [List.getElem?_map, getD_get h]; rfl, k⟩
theorem name_q (P : Prj cx gx) {f : Nat} (h : f < C.F.length) (h0 : 0 ≤ (C.F.getD f (0, 0)).1) (k : K (.p (.int (C.nam f : Int))) (Gm O C q wk)) : Cq cx (n + 1) 84 [.r iSY, .p (.int (f : Int))] (Gm O C q wk) K := by
  refine dq P [] P.d_Symbols_name rfl ?_
  refine ⟨f, prV (C.F.getD f (0, 0)), by rw [List.length_map]; exact idxN h, by rw [List.getElem?_map, getD_get h]; rfl, ?_⟩
  have e : (C.nam f : Int) = (C.F.getD f (0, 0)).1 := Int.toNat_of_nonneg h0
  rw [e] at k
  exact k
theorem atomText_q (P : Prj cx gx) {a : Nat} {b : Bool} (h : C.okA a) (k : K (.p (.str (atomT C.T b a))) (Gm O C q wk)) : Cq cx (n + 1 + 1 + 1 + 1 + 1) 313 [.r iSY, .p (.int (a : Int)), .p (.bool b)] (Gm O C q wk) K := by
  refine dq P [] P.d_atom_text rfl ?_
  refine text_q P h.1 ?_
  unfold atomT at k
  cases b with
  | false => exact k
  | true =>
    refine plainName_q P ?_
    rw [Bool.true_and] at k
    cases e : plainN (C.T.getD a []) with
    | true => rw [e] at k; exact k
    | false =>
      rw [e] at k
      exact quoted_q P h.2.1 (Nat.le_trans h.2.2 (by decide)) k
theorem kO2 (T : OT) (a : Int) : keysOk2 (.int a) (otE T) := .inr ⟨a, rfl, otE_key T⟩
theorem isOp_q (P : Prj cx gx) {a : Nat} (k : K (.p (.bool (C.isOp a))) (Gm O C q wk)) : Cq cx (n + 1) 263 [.r iTB, .p (.int (a : Int))] (Gm O C q wk) K := by
  refine dq P [] P.d_OperatorTable_is_operator rfl ?_
  unfold Cf.isOp at k
  rw [← otE_any, ← otE_any, ← otE_any] at k
  refine ⟨kO2 _ _, ?_⟩
  refine or_q (K := K) k fun k => ?_
  refine ⟨kO2 _ _, ?_⟩
  refine or_q (K := K) k fun k => ?_
  exact ⟨kO2 _ _, k⟩
noncomputable def entV : Option (Int × List Nat) → V
  | none => .none
  | some e => .tup [.int e.1, .str e.2]
theorem entV_eq (T : OT) (a : Int) : (lookV (otE T) (.int a)).getD .none = entV (otGet T a) := by
  rw [otE_look]
  cases otGet T a <;> rfl
theorem prefix_q (P : Prj cx gx) {a : Nat} (k : K (.p (entV (otGet C.P (a : Int)))) (Gm O C q wk)) : Cq cx (n + 1) 242 [.r iTB, .p (.int (a : Int))] (Gm O C q wk) K := by
  rw [← entV_eq] at k
  exact dq P [] P.d_OperatorTable_prefix rfl ⟨kO2 _ _, k⟩
theorem infix_q (P : Prj cx gx) {a : Nat} (k : K (.p (entV (otGet C.N (a : Int)))) (Gm O C q wk)) : Cq cx (n + 1) 249 [.r iTB, .p (.int (a : Int))] (Gm O C q wk) K := by
  rw [← entV_eq] at k
  exact dq P [] P.d_OperatorTable_infix rfl ⟨kO2 _ _, k⟩
theorem postfix_q (P : Prj cx gx) {a : Nat} (k : K (.p (entV (otGet C.S (a : Int)))) (Gm O C q wk)) : Cq cx (n + 1) 256 [.r iTB, .p (.int (a : Int))] (Gm O C q wk) K := by
  rw [← entV_eq] at k
  exact dq P [] P.d_OperatorTable_postfix rfl ⟨kO2 _ _, k⟩
theorem rawP_len (q : WS) (t : List Nat) : (rawP q t).1.length ≤ q.1.length + 1 := by
  cases t with
  | nil => exact Nat.le_succ _
  | cons c r => show (q.1 ++ [_]).length ≤ _; rw [List.length_append]; exact Nat.le_refl _
theorem tokP_len (q : WS) (t : List Nat) : (tokP q t).1.length ≤ q.1.length + 2 := by
  cases t with
  | nil => exact Nat.le_add_right _ 2
  | cons c r =>
    unfold tokP
    dsimp only
    split
    · have := rawP_len (q.1 ++ [.str [32]], q.2) (c :: r)
      rw [List.length_append] at this
      exact this
    · have := rawP_len q (c :: r); exact Nat.le_succ_of_le (by assumption)
theorem atm_q (P : Prj cx gx) {a : Nat} {b : Bool} (h : C.okA a) (hl : q.1.length + 10 ≤ lim) (k : K (.p .none) (Gm O C (C.atm a b q) wk)) : Cq cx (n + 1 + 1 + 1 + 1 + 1 + 1) 413 [.r iW, .p (.int (a : Int)), .p (.bool b)] (Gm O C q wk) K := by
  refine dq P [] P.d_Writer_write_atom rfl ?_
  refine atomText_q P h ?_
  unfold Cf.atm at k
  have tok : ∀ {K : KE}, K (.p .none) (Gm O C (tokP q (C.at a)) wk) → Cq cx (n + 1 + 1 + 1 + 1 + 1) 371 [.r iW, .p (.str (atomT C.T C.quoted a))] (Gm O C q wk) K := fun k => token_q P (by omega) k
  cases b with
  | true => exact ((tok k))
  | false =>
    refine isOp_q P ?_
    rw [show (!false && C.isOp a) = C.isOp a from rfl] at k
    cases e : C.isOp a with
    | false => rw [e] at k; exact (tok k)
    | true =>
      rw [e] at k
      refine token_q P (by omega) ?_
      have l1 := tokP_len q [40]
      have l2 := rawP_len (tokP q [40]) (C.at a)
      refine raw_q P (by omega) ?_
      refine raw_q (q := rawP (tokP q [40]) (C.at a)) P (by omega) ?_
      exact k
theorem find_any {α : Type} (p : α → Bool) : ∀ l : List α, l.any p = (l.find? p).isSome
  | [] => rfl
  | a :: l => by
    rw [List.any_cons, List.find?_cons]
    cases p a
    · exact (Bool.false_or _).trans (find_any p l)
    · rfl
theorem var_q (P : Prj cx gx) (ok : C.Ok) {v : Int} (h : v.natAbs < 10 ^ 30) (k : K (.p (.str (C.var v))) (Gm O C q wk)) : Cq cx (n + 1) 399 [.r iW, .p (.int v)] (Gm O C q wk) K := by
  refine dq P [] P.d_Writer_variable_text rfl ?_
  have kk : keysOk2 (.int v) (nmE C.nm) := .inr ⟨v, rfl, fun e he => by
    unfold nmE at he
    obtain ⟨e0, _, rfl⟩ := List.mem_map.mp he
    exact ⟨e0.1, rfl⟩⟩
  have fnd : lookV (nmE C.nm) (.int v) = (C.nm.find? fun e => decide (e.1 = v)).map fun e => .str e.2 := by
    unfold lookV nmE
    rw [List.find?_map]
    have : ((fun e : V × V => veq e.1 (.int v)) ∘ fun e : Int × List Nat => (V.int e.1, V.str e.2)) = fun e => decide (e.1 = v) := rfl
    rw [this]
    cases C.nm.find? fun e => decide (e.1 = v) <;> rfl
  have any : ((nmE C.nm).any fun e => veq e.1 (.int v)) = (C.nm.find? fun e => decide (e.1 = v)).isSome := by
    unfold nmE
    rw [List.any_map, ← find_any]; rfl
  refine ⟨kk, ?_⟩
  unfold Cf.var at k
  cases e : C.nm.find? fun e => decide (e.1 = v) with
  | some u =>
    rw [e] at k fnd any
    refine if_t any ?_
    exact ⟨kk, _, fnd, k⟩
  | none =>
    rw [e] at k fnd any
    refine if_f any ?_
    have hs : (showI v).length ≤ 37 := showI_len (Nat.lt_trans h (by decide))
    refine ⟨Nat.lt_of_lt_of_le h (Nat.le_trans (by decide : 10 ^ 30 ≤ 2 ^ 100) (Nat.pow_le_pow_right (by decide) (by decide))), lim_le (by simp; omega), ?_⟩
    refine ⟨1, ?_⟩
    rw [qWh_eq]
    refine ⟨.inl ⟨_, rfl, fun e he => ?_⟩, ?_⟩
    · unfold tkE at he
      obtain ⟨t0, _, rfl⟩ := List.mem_map.mp he
      exact ⟨t0, rfl⟩
    · refine if_f ?_ k
      rw [List.any_eq_false]
      intro e he
      unfold tkE at he
      obtain ⟨t0, ht, rfl⟩ := List.mem_map.mp he
      intro z
      have : t0 = [95] ++ showI v := of_decide_eq_true z
      exact ok.k t0 ht (by rw [this]; rfl)
end
end Mine.G

namespace Mine.G
open Mine Mine.PJ
section
variable {cx : Cx} {gx : List V} {n : Nat} {K : KE} {O : Oth} {C : Cf} {q : WS} {wk : List V}
theorem natEq (a b : Nat) : decide ((a : Int) = (b : Int)) = decide (a = b) := by rw [Bool.eq_iff_iff]; simp only [decide_eq_true_eq]; omega
theorem isNum1_q (P : Prj cx gx) {f : Nat} {x : Tm} (k : K (.p (.bool (C.isNum (.s1 f x)))) (Gm O C q wk)) : Cq cx (n + 1) 406 [.r iW, .p (tv (.s1 f x))] (Gm O C q wk) K := by
  refine dq P [] P.d_Writer_is_numbered rfl ?_
  replace k : K (.p (.bool (C.nv && (decide (f = 17) && isNonneg x)))) (Gm O C q wk) := k
  cases e : C.nv with
  | false => rw [e] at k; exact if_t (by rw [e]; rfl) (if_t (by rw [e]; rfl) k)
  | true =>
  rw [e, Bool.true_and] at k
  refine if_f (by rw [e]; rfl) ?_
  cases e1 : decide (f = 17) with
  | false => rw [e1] at k; exact if_t (congrArg (!·) ((natEq f 17).trans e1)) k
  | true =>
    rw [e1, Bool.true_and] at k
    refine if_f (congrArg (!·) ((natEq f 17).trans e1)) ?_
    cases x with
    | i z => exact k
    | _ => exact k
theorem isNum2_q (P : Prj cx gx) {f : Nat} {x y : Tm} (k : K (.p (.bool (C.isNum (.s2 f x y)))) (Gm O C q wk)) : Cq cx (n + 1) 406 [.r iW, .p (tv (.s2 f x y))] (Gm O C q wk) K := by
  refine dq P [] P.d_Writer_is_numbered rfl ?_
  replace k : K (.p (.bool (C.nv && (decide (f = 17) && isNonneg x)))) (Gm O C q wk) := k
  cases e : C.nv with
  | false => rw [e] at k; exact if_t (by rw [e]; rfl) (if_t (by rw [e]; rfl) k)
  | true =>
  rw [e, Bool.true_and] at k
  refine if_f (by rw [e]; rfl) ?_
  cases e1 : decide (f = 17) with
  | false => rw [e1] at k; exact if_t (congrArg (!·) ((natEq f 17).trans e1)) k
  | true =>
    rw [e1, Bool.true_and] at k
    refine if_f (congrArg (!·) ((natEq f 17).trans e1)) ?_
    cases x with
    | i z => exact k
    | _ => exact k
theorem shape0_q (P : Prj cx gx) {x : Tm} (hx : (∃ k, x = .v k) ∨ (∃ k, x = .i k) ∨ ∃ a, x = .a a) (k : K (.p .none) (Gm O C q wk)) : Cq cx (n + 1) 434 [.r iW, .p (tv x)] (Gm O C q wk) K := by
  refine dq P [] P.d_Writer_shape rfl ?_
  cases e : C.ign with
  | true => exact if_t e (if_t e k)
  | false =>
    refine if_f e ?_
    rcases hx with ⟨z, rfl⟩ | ⟨z, rfl⟩ | ⟨z, rfl⟩
    · exact k
    · exact k
    · exact k
set_option maxHeartbeats 1000000 in
theorem shape1_q (P : Prj cx gx) {f : Nat} {x : Tm} (h : C.ign = true ∨ f = 9 ∨ C.isNum (.s1 f x) = true ∨ f < C.F.length ∧ 0 ≤ (C.F.getD f (0, 0)).1) (h0 : f ≠ 0) (k : K (.p (shV (C.shape (.s1 f x)))) (Gm O C q wk)) : Cq cx (n + 1 + 1) 434 [.r iW, .p (tv (.s1 f x))] (Gm O C q wk) K := by
  refine dq P [] P.d_Writer_shape rfl ?_
  simp only [Cf.shape] at k
  cases e : C.ign with
  | true => rw [e] at k; exact if_t e (if_t e k)
  | false =>
  rw [e] at k
  refine if_f e ?_
  have d0 : decide (f = 0) = false := decide_eq_false h0
  rw [d0] at k
  refine (if_f ((natEq f 0).trans d0) ?_)
  cases e9 : decide (f = 9) with
  | true => rw [e9] at k; exact if_t ((natEq f 9).trans e9) (if_t ((natEq f 9).trans e9) k)
  | false =>
  rw [e9] at k
  refine if_f ((natEq f 9).trans e9) ?_
  refine isNum1_q P ?_
  cases en : C.isNum (.s1 f x) with
  | true => rw [en] at k; exact k
  | false =>
  rw [en] at k
  obtain ⟨h1, h2⟩ : f < C.F.length ∧ 0 ≤ (C.F.getD f (0, 0)).1 := by
    rcases h with h | h | h | h
    · rw [e] at h; contradiction
    · rw [h] at e9; contradiction
    · rw [en] at h; contradiction
    · exact h
  refine name_q P h1 h2 ?_
  refine prefix_q P ?_
  replace k : K (.p (shV (C.shape1 (C.nam f) x))) (Gm O C q wk) := k
  unfold Cf.shape1 at k
  cases ep : otGet C.P (C.nam f : Int) with
  | some u =>
    rw [ep] at k
    cases e3 : decide (C.nam f = 3) with
    | false => rw [e3] at k; exact if_f ((natEq _ 3).trans e3) (if_f ((natEq _ 3).trans e3) k)
    | true =>
      rw [e3] at k
      refine if_t ((natEq _ 3).trans e3) ?_
      cases x with
      | i z =>
        cases en : decide (0 ≤ z) with
        | true => rw [show isNonneg (.i z) = true from en] at k; exact if_t en k
        | false => rw [show isNonneg (.i z) = false from en] at k; exact if_f en k
      | _ =>
        replace k : K (.p (.tup [kindV 0, .int u.1, .str u.2])) (Gm O C q wk) := k
        exact (k)
  | none =>
    rw [ep] at k
    refine postfix_q P ?_
    cases es : otGet C.S (C.nam f : Int) with
    | some u => rw [es] at k; exact k
    | none => rw [es] at k; exact k
theorem shape2_q (P : Prj cx gx) {f : Nat} {x y : Tm} (h : f < C.F.length ∧ 0 ≤ (C.F.getD f (0, 0)).1) (k : K (.p (shV (C.shape (.s2 f x y)))) (Gm O C q wk)) : Cq cx (n + 1 + 1) 434 [.r iW, .p (tv (.s2 f x y))] (Gm O C q wk) K := by
  refine dq P [] P.d_Writer_shape rfl ?_
  simp only [Cf.shape] at k
  cases e : C.ign with
  | true => rw [e] at k; exact if_t e (if_t e k)
  | false =>
  rw [e] at k
  refine if_f e ?_
  cases d0 : decide (f = 0) with
  | true => rw [d0] at k; exact if_t ((natEq f 0).trans d0) (if_t ((natEq f 0).trans d0) k)
  | false =>
  rw [d0] at k
  refine if_f ((natEq f 0).trans d0) ?_
  cases e9 : decide (f = 9) with
  | true => rw [e9] at k; exact if_t ((natEq f 9).trans e9) (if_t ((natEq f 9).trans e9) k)
  | false =>
  rw [e9] at k
  refine if_f ((natEq f 9).trans e9) ?_
  refine isNum2_q P ?_
  cases en : C.isNum (.s2 f x y) with
  | true => rw [en] at k; exact k
  | false =>
  rw [en] at k
  refine name_q P h.1 h.2 ?_
  refine infix_q P ?_
  replace k : K (.p (shV (C.shape2 (C.nam f)))) (Gm O C q wk) := k
  unfold Cf.shape2 at k
  cases ep : otGet C.N (C.nam f : Int) with
  | some u => rw [ep] at k; exact k
  | none =>
    rw [ep] at k
    exact k
end
end Mine.G

set_option maxHeartbeats 1000000
namespace Mine.G
open Mine Mine.PJ
section
variable {cx : Cx} {gx : List V} {n : Nat} {K : KE} {O : Oth} {C : Cf} {q : WS} {wk : List V}
theorem shape_q (P : Prj cx gx) : ∀ {x : Tm}, C.ok x → K (.p (shV (C.shape x))) (Gm O C q wk) → Cq cx (n + 1 + 1) 434 [.r iW, .p (tv x)] (Gm O C q wk) K
  | .v z, _, k => shape0_q P (.inl ⟨z, rfl⟩) k
  | .i z, _, k => shape0_q P (.inr (.inl ⟨z, rfl⟩)) k
  | .a z, _, k => shape0_q P (.inr (.inr ⟨z, rfl⟩)) k
  | .s1 f x, h, k => shape1_q P (by
      rcases h.2.1 with ⟨_, e⟩ | e
      · exact .inr (.inr (.inl e))
      · exact .inr (.inr (.inr ⟨e.1, e.2.1⟩))) h.1 k
  | .s2 f x y, h, k => shape2_q P ⟨h.2.2.1.1, h.2.2.1.2.1⟩ k
theorem left_q (P : Prj cx gx) {x : Tm} {p most : Int} (h : C.ok x) (k : K (.p (.int (C.left x p most))) (Gm O C q wk)) : Cq cx (n + 1 + 1 + 1) 448 [.r iW, .p (tv x), .p (.int p), .p (.int most)] (Gm O C q wk) K := by
  refine dq P [] P.d_Writer_left_limit rfl ?_
  refine shape_q P h ?_
  unfold Cf.left at k
  cases e : C.shape x with
  | none => rw [e] at k; exact k
  | some u =>
    obtain ⟨kd, p', ty⟩ := u
    rw [e] at k
    replace k : K (.p (.int (match decide (p' = p) && decide ((bnd p' ty).2 = p) with
      | true => p - 1
      | false => most))) (Gm O C q wk) := k
    cases e1 : decide (p' = p) with
    | false => rw [e1] at k; exact if_f e1 (if_f e1 k)
    | true =>
      rw [e1, Bool.true_and] at k
      refine if_t e1 ?_
      refine bounds_q P ?_
      cases e2 : decide ((bnd p' ty).2 = p) with
      | false => rw [e2] at k; exact if_f e2 k
      | true => rw [e2] at k; exact if_t e2 k
theorem pre_q (P : Prj cx gx) {a : Nat} (h : C.okA a) (hl : q.1.length + 10 ≤ lim) (k : K (.p .none) (Gm O C (C.preO a q) wk)) : Cq cx (n + 1 + 1 + 1 + 1 + 1 + 1) 455 [.r iW, .p (.int (a : Int))] (Gm O C q wk) K := by
  refine dq P [] P.d_Writer_prefix_operator rfl ?_
  refine atomText_q P h ?_
  refine token_q P (by omega) ?_
  refine isTight_q P ?_
  unfold Cf.preO at k
  cases e : tightN (C.at a) with
  | true => rw [e] at k; exact if_t e k
  | false =>
    rw [e] at k
    have := tokP_len q (C.at a)
    exact if_f e (raw_q (q := tokP q (C.at a)) P (by omega) k)
theorem inf_q (P : Prj cx gx) {a : Nat} (h : C.okA a) (hl : q.1.length + 10 ≤ lim) (k : K (.p .none) (Gm O C (C.infO a q) wk)) : Cq cx (n + 1 + 1 + 1 + 1 + 1 + 1) 462 [.r iW, .p (.int (a : Int))] (Gm O C q wk) K := by
  refine dq P [] P.d_Writer_infix_operator rfl ?_
  refine atomText_q P h ?_
  unfold Cf.infO at k
  cases e7 : decide (a = 7) with
  | true => rw [e7] at k; exact if_t ((natEq a 7).trans e7) (raw_q P (by omega) k)
  | false =>
  rw [e7] at k
  refine if_f ((natEq a 7).trans e7) ?_
  cases e8 : decide (a = 8) with
  | true => rw [e8] at k; exact if_t ((natEq a 8).trans e8) (raw_q P (by omega) k)
  | false =>
  rw [e8] at k
  refine if_f ((natEq a 8).trans e8) ?_
  refine isTight_q P ?_
  cases e : tightN (C.at a) with
  | true => rw [e] at k; exact if_t e (token_q P (by omega) k)
  | false =>
    rw [e] at k
    refine if_f e ?_
    have l1 := rawP_len q [32]
    have l2 := rawP_len (rawP q [32]) (C.at a)
    refine raw_q P (by omega) ?_
    refine raw_q (q := rawP q [32]) P (by omega) ?_
    exact raw_q (q := rawP (rawP q [32]) (C.at a)) P (by omega) k
theorem pos_q (P : Prj cx gx) {a : Nat} (h : C.okA a) (hl : q.1.length + 10 ≤ lim) (k : K (.p .none) (Gm O C (C.posO a q) wk)) : Cq cx (n + 1 + 1 + 1 + 1 + 1 + 1) 469 [.r iW, .p (.int (a : Int))] (Gm O C q wk) K := by
  refine dq P [] P.d_Writer_postfix_operator rfl ?_
  refine atomText_q P h ?_
  refine isTight_q P ?_
  unfold Cf.posO at k
  cases e : tightN (C.at a) with
  | true => rw [e] at k; exact if_t e (token_q P (by omega) k)
  | false =>
    rw [e] at k
    refine if_f e ?_
    have l1 := rawP_len q [32]
    refine raw_q P (by omega) ?_
    exact raw_q (q := rawP q [32]) P (by omega) k
noncomputable def puts (wk : List V) (its : List It) : List V := wk ++ (its.map itV).reverse
theorem fun1_q (P : Prj cx gx) {f : Nat} {x : Tm} (h : C.okF f) (hl : q.1.length + 10 ≤ lim) (hw : wk.length ≤ 9000) (k : K (.p .none) (Gm O C (tokP q (C.at (C.nam f))) (puts wk [.raw [40], .t x 999 true, .raw [41]]))) :
    Cq cx (n + 1 + 1 + 1 + 1 + 1 + 1) 427 [.r iW, .p (tv (.s1 f x))] (Gm O C q wk) K := by
  refine dq P [] P.d_Writer_write_functional rfl ?_
  refine name_q P h.1 h.2.1 ?_
  refine atomText_q P h.2.2 ?_
  refine token_q P (by omega) ?_
  refine Eq.mpr qFor_eq ?_
  refine (?_)
  refine later_q (q := tokP q (C.at (C.nam f))) (wk := wk) (xs := [.raw [40], .t x 999 true, .raw [41]].map itV) P ?_ ?_
  · show wk.length + 3 ≤ 10000; omega
  · exact k
theorem fun2_q (P : Prj cx gx) {f : Nat} {x y : Tm} (h : C.okF f) (hl : q.1.length + 10 ≤ lim) (hw : wk.length ≤ 9000) (k : K (.p .none) (Gm O C (tokP q (C.at (C.nam f))) (puts wk [.raw [40], .t x 999 true, .raw [44], .t y 999 true, .raw [41]]))) :
    Cq cx (n + 1 + 1 + 1 + 1 + 1 + 1) 427 [.r iW, .p (tv (.s2 f x y))] (Gm O C q wk) K := by
  refine dq P [] P.d_Writer_write_functional rfl ?_
  refine name_q P h.1 h.2.1 ?_
  refine atomText_q P h.2.2 ?_
  refine token_q P (by omega) ?_
  refine Eq.mpr qFor_eq ?_
  refine (?_)
  refine (?_)
  refine later_q (q := tokP q (C.at (C.nam f))) (wk := wk) (xs := [.raw [40], .t x 999 true, .raw [44], .t y 999 true, .raw [41]].map itV) P ?_ ?_
  · show wk.length + 5 ≤ 10000; omega
  · exact k
end
end Mine.G

set_option maxHeartbeats 4000000
namespace Mine.G
open Mine Mine.PJ
section
variable {cx : Cx} {gx : List V} {n : Nat} {K : KE} {O : Oth} {C : Cf} {q : WS} {wk : List V}
noncomputable def opTail : PSs := (.cons (.ite (.cmp .Gt (.x 5) (.x 3)) (.cons (.expr (.bm .append (.x 11) (.cons (.tuple (.cons (.c (.str [114, 97, 119])) (.cons (.c (.str [41])) (.cons (.c (.int 0)) (.cons (.c (.bool false)) .nil))))) .nil)))
 .nil) .nil)
 (.cons (.expr (.meth (.x 0) 34 (.cons (.x 11) .nil)))
 .nil))
theorem opTail_q (P : Prj cx gx) {e1 e2 e4 e6 e7 e8 e9 e10 : Option SV} {most p : Int} {its : List It} {hi : Bool} (eh : decide (most < p) = hi) (hw : wk.length ≤ 9000) (hx : its.length ≤ 10) (k : K (.p .none) (Gm O C q (puts wk (its ++ clB hi)))) :
    wqSs (T0 gx) (Cq cx) (n + 1) [] opTail [some (.r iW), e1, e2, some (.p (.int most)), e4, some (.p (.int p)), e6, e7, e8, e9, e10, some (.l (its.map itV))] (Gm O C q wk) (doneQ K) := by
  have hx' : (its.map itV).length ≤ 10 := by rw [List.length_map]; exact hx
  cases hi with
  | true =>
    refine if_t eh (lenP_mk (lim_le (by omega)) ?_)
    refine later_q (wk := wk) (q := q) (xs := its.map itV ++ [itV (.raw [41])]) P ?_ ?_
    · rw [List.length_append]; show _ + (_ + 1) ≤ _; omega
    · unfold puts at k
      rw [List.map_append] at k
      exact k
  | false =>
    refine if_f eh ?_
    refine later_q (wk := wk) (q := q) (xs := its.map itV) P ?_ ?_
    · omega
    · unfold puts at k
      rw [show clB false = [] from rfl, List.append_nil] at k
      exact k
noncomputable def openQ (hi : Bool) (q : WS) : WS := match hi with
  | true => tokP q [40]
  | false => q
noncomputable def opMain : PS := (.ite (.cmp .Eq (.x 4) (.c (.str [112, 114, 101, 102, 105, 120]))) (.cons (.expr (.meth (.x 0) 43 (.cons (.x 9) .nil)))
 (.cons (.expr (.bm .append (.x 11) (.cons (.tuple (.cons (.c (.str [116, 101, 114, 109])) (.cons (.sub (.x 10) (.c (.int 0))) (.cons (.x 8) (.cons (.c (.bool false)) .nil))))) .nil)))
 .nil)) (.cons (.expr (.bm .append (.x 11) (.cons (.tuple (.cons (.c (.str [116, 101, 114, 109])) (.cons (.sub (.x 10) (.c (.int 0))) (.cons (.meth (.x 0) 44 (.cons (.sub (.x 10) (.c (.int 0))) (.cons (.x 5) (.cons (.x 7) .nil)))) (.cons (.c (.bool false)) .nil))))) .nil)))
 (.cons (.expr (.bm .append (.x 11) (.cons (.tuple (.cons (.x 4) (.cons (.x 9) (.cons (.c (.int 0)) (.cons (.c (.bool false)) .nil))))) .nil)))
 (.cons (.ite (.cmp .Eq (.x 4) (.c (.str [105, 110, 102, 105, 120]))) (.cons (.expr (.bm .append (.x 11) (.cons (.tuple (.cons (.c (.str [116, 101, 114, 109])) (.cons (.sub (.x 10) (.c (.int 1))) (.cons (.x 8) (.cons (.c (.bool false)) .nil))))) .nil)))
 .nil) .nil)
 .nil))))
noncomputable def opRest : PSs := (.cons (.ite (.cmp .Gt (.x 5) (.x 3)) (.cons (.expr (.meth (.x 0) 29 (.cons (.c (.str [40])) .nil)))
 .nil) .nil)
 (.cons opMain opTail))
noncomputable def opSetup : PSs := (.cons (.unpack [4, 5, 6] (.x 2))
 (.cons (.unpack [7, 8] (.call 31 (.cons (.x 5) (.cons (.x 6) .nil))))
 (.cons (.asg 9 (.meth (.attr (.x 0) 11) 39 (.cons (.sub (.x 1) (.c (.int 1))) .nil)))
 (.cons (.asg 10 (.sub (.x 1) (.c (.int 2))))
 (.cons (.asg 11 (.list .nil))
 opRest)))))
theorem op_eq : b_Writer_write_operation = opSetup := rfl
theorem opRest_q (P : Prj cx gx) {e1 e2 e4 e6 e7 e8 e9 e10 e11 : Option SV} {most p : Int} {hi : Bool} {R : KS} (eh : decide (most < p) = hi) (hl : q.1.length + 20 ≤ lim)
    (k : ∀ q1 : WS, q1 = openQ hi q → q1.1.length + 10 ≤ lim → wqSs (T0 gx) (Cq cx) (n + 1 + 1 + 1 + 1 + 1) [] (.cons opMain opTail) [some (.r iW), e1, e2, some (.p (.int most)), e4, some (.p (.int p)), e6, e7, e8, e9, e10, e11] (Gm O C q1 wk) R) :
    wqSs (T0 gx) (Cq cx) (n + 1 + 1 + 1 + 1 + 1) [] opRest [some (.r iW), e1, e2, some (.p (.int most)), e4, some (.p (.int p)), e6, e7, e8, e9, e10, e11] (Gm O C q wk) R := by
  cases hi with
  | true =>
    have l1 := tokP_len q [40]
    refine if_t eh ?_
    refine token_q P (by omega) ?_
    exact k (tokP q [40]) rfl (by omega)
  | false => exact if_f eh (k q rfl (by omega))
theorem opMain0_q (P : Prj cx gx) {e1 e2 e6 e7 : Option SV} {r : Int} {nm : Nat} {x : Tm} {p most : Int} (h : C.okA nm) (hl : q.1.length + 10 ≤ lim) (hw : wk.length ≤ 9000)
    (k : K (.p .none) (Gm O C (C.preO nm q) (puts wk ([.t x r false] ++ clB (decide (most < p)))))) :
    wqSs (T0 gx) (Cq cx) (n + 1 + 1 + 1 + 1 + 1 + 1) [] (.cons opMain opTail) [some (.r iW), e1, e2, some (.p (.int most)), some (.p (.str [112, 114, 101, 102, 105, 120])), some (.p (.int p)), e6, e7, some (.p (.int r)), some (.p (.int (nm : Int))), some (.p (.tup [tv x])), some (.l [])] (Gm O C q wk) (doneQ K) := by
  refine pre_q P h hl ?_
  exact opTail_q (its := [.t x r false]) P rfl hw (Nat.le_of_ble_eq_true rfl) k
theorem opMain2_q (P : Prj cx gx) {e1 e2 e6 e8 : Option SV} {l : Int} {nm : Nat} {x : Tm} {p most : Int} (h : C.ok x) (hw : wk.length ≤ 9000)
    (k : K (.p .none) (Gm O C q (puts wk ([.t x (C.left x p l) false, .pos nm] ++ clB (decide (most < p)))))) :
    wqSs (T0 gx) (Cq cx) (n + 1 + 1 + 1) [] (.cons opMain opTail) [some (.r iW), e1, e2, some (.p (.int most)), some (.p (.str [112, 111, 115, 116, 102, 105, 120])), some (.p (.int p)), e6, some (.p (.int l)), e8, some (.p (.int (nm : Int))), some (.p (.tup [tv x])), some (.l [])] (Gm O C q wk) (doneQ K) := by
  refine left_q P h ?_
  exact opTail_q (its := [.t x (C.left x p l) false, .pos nm]) P rfl hw (Nat.le_of_ble_eq_true rfl) k
theorem opMain1_q (P : Prj cx gx) {e1 e2 e6 : Option SV} {l r : Int} {nm : Nat} {x y : Tm} {p most : Int} (h : C.ok x) (hw : wk.length ≤ 9000)
    (k : K (.p .none) (Gm O C q (puts wk ([.t x (C.left x p l) false, .inf nm, .t y r false] ++ clB (decide (most < p)))))) :
    wqSs (T0 gx) (Cq cx) (n + 1 + 1 + 1) [] (.cons opMain opTail) [some (.r iW), e1, e2, some (.p (.int most)), some (.p (.str [105, 110, 102, 105, 120])), some (.p (.int p)), e6, some (.p (.int l)), some (.p (.int r)), some (.p (.int (nm : Int))), some (.p (.tup [tv x, tv y])), some (.l [])] (Gm O C q wk) (doneQ K) := by
  refine left_q P h ?_
  exact opTail_q (its := [.t x (C.left x p l) false, .inf nm, .t y r false]) P rfl hw (Nat.le_of_ble_eq_true rfl) k
end
end Mine.G

set_option maxHeartbeats 4000000
namespace Mine.G
open Mine Mine.PJ
section
variable {cx : Cx} {gx : List V} {n : Nat} {K : KE} {O : Oth} {C : Cf} {q : WS} {wk : List V}
theorem opSet_q (P : Prj cx gx) {f : Nat} {as : List V} {kd ty : List Nat} {p most : Int} {R : KS} (h1 : f < C.F.length) (h2 : 0 ≤ (C.F.getD f (0, 0)).1)
    (k : wqSs (T0 gx) (Cq cx) (n + 1) [] opRest [some (.r iW), some (.p (.tup [.str [115], .int (f : Int), .tup as])), some (.p (.tup [.str kd, .int p, .str ty])), some (.p (.int most)), some (.p (.str kd)), some (.p (.int p)), some (.p (.str ty)), some (.p (.int (bnd p ty).1)), some (.p (.int (bnd p ty).2)), some (.p (.int (C.nam f : Int))), some (.p (.tup as)), some (.l [])] (Gm O C q wk) R) :
    wqSs (T0 gx) (Cq cx) (n + 1) [] opSetup [some (.r iW), some (.p (.tup [.str [115], .int (f : Int), .tup as])), some (.p (.tup [.str kd, .int p, .str ty])), some (.p (.int most)), none, none, none, none, none, none, none, none] (Gm O C q wk) R := by
  refine bounds_q P ?_
  refine name_q P h1 h2 ?_
  exact k
theorem opn_q (P : Prj cx gx) {t : Tm} {f : Nat} {as : List V} {kd ty : List Nat} {p most : Int} (et : tv t = .tup [.str [115], .int (f : Int), .tup as]) (h : C.okF f) (hl : q.1.length + 20 ≤ lim)
    (k : ∀ q1 : WS, q1 = openQ (decide (most < p)) q → q1.1.length + 10 ≤ lim → wqSs (T0 gx) (Cq cx) (n + 1 + 1 + 1 + 1 + 1 + 1) [] (.cons opMain opTail) [some (.r iW), some (.p (.tup [.str [115], .int (f : Int), .tup as])), some (.p (.tup [.str kd, .int p, .str ty])), some (.p (.int most)), some (.p (.str kd)), some (.p (.int p)), some (.p (.str ty)), some (.p (.int (bnd p ty).1)), some (.p (.int (bnd p ty).2)), some (.p (.int (C.nam f : Int))), some (.p (.tup as)), some (.l [])] (Gm O C q1 wk) (doneQ K)) :
    Cq cx (n + 1 + 1 + 1 + 1 + 1 + 1 + 1) 441 [.r iW, .p (tv t), .p (.tup [.str kd, .int p, .str ty]), .p (.int most)] (Gm O C q wk) K := by
  rw [et]
  refine dq P [] P.d_Writer_write_operation rfl ?_
  rw [op_eq]
  exact opSet_q P h.1 h.2.1 (opRest_q P rfl hl k)
theorem oper1_q (P : Prj cx gx) {f : Nat} {x : Tm} {sh : Sh} {most : Int} (hs : sh.1 = 0 ∨ sh.1 = 2) (h : C.okF f) (hx : C.ok x) (hl : q.1.length + 20 ≤ lim) (hw : wk.length ≤ 9000)
    (k : K (.p .none) (Gm O C (C.opn sh (C.nam f) x none most q).1 (puts wk (C.opn sh (C.nam f) x none most q).2))) :
    Cq cx (n + 1 + 1 + 1 + 1 + 1 + 1 + 1) 441 [.r iW, .p (tv (.s1 f x)), .p (shV (some sh)), .p (.int most)] (Gm O C q wk) K := by
  obtain ⟨kd, p, ty⟩ := sh
  rcases hs with hs | hs
  · replace hs : kd = 0 := hs
    subst hs
    refine opn_q (t := .s1 f x) P rfl h hl fun q1 e1 hl1 => ?_
    refine opMain0_q P h.2.2 hl1 hw ?_
    subst e1
    exact k
  · replace hs : kd = 2 := hs
    subst hs
    refine opn_q (t := .s1 f x) P rfl h hl fun q1 e1 hl1 => ?_
    refine opMain2_q P hx hw ?_
    subst e1
    exact k
theorem oper2_q (P : Prj cx gx) {f : Nat} {x y : Tm} {sh : Sh} {most : Int} (hs : sh.1 = 1) (h : C.okF f) (hx : C.ok x) (hl : q.1.length + 20 ≤ lim) (hw : wk.length ≤ 9000)
    (k : K (.p .none) (Gm O C (C.opn sh (C.nam f) x (some y) most q).1 (puts wk (C.opn sh (C.nam f) x (some y) most q).2))) :
    Cq cx (n + 1 + 1 + 1 + 1 + 1 + 1 + 1) 441 [.r iW, .p (tv (.s2 f x y)), .p (shV (some sh)), .p (.int most)] (Gm O C q wk) K := by
  obtain ⟨kd, p, ty⟩ := sh
  replace hs : kd = 1 := hs
  subst hs
  refine opn_q (t := .s2 f x y) P rfl h hl fun q1 e1 hl1 => ?_
  refine opMain1_q P hx hw ?_
  subst e1
  exact k
theorem shape_kd1 {f : Nat} {x : Tm} {sh : Sh} (h : C.shape (.s1 f x) = some sh) : sh.1 = 0 ∨ sh.1 = 2 := by
  unfold Cf.shape at h
  dsimp only at h
  split at h
  · contradiction
  · unfold Cf.shape1 at h
    split at h
    · split at h
      · contradiction
      · obtain rfl := Option.some.inj h; exact .inl rfl
    · split at h
      · obtain rfl := Option.some.inj h; exact .inr rfl
      · contradiction
theorem shape_kd2 {f : Nat} {x y : Tm} {sh : Sh} (h : C.shape (.s2 f x y) = some sh) : sh.1 = 1 := by
  unfold Cf.shape at h
  dsimp only at h
  split at h
  · contradiction
  · unfold Cf.shape2 at h
    split at h
    · obtain rfl := Option.some.inj h; rfl
    · contradiction
end
end Mine.G

set_option maxHeartbeats 4000000
namespace Mine.G
open Mine Mine.PJ
section
variable {cx : Cx} {gx : List V} {n : Nat} {K : KE} {O : Oth} {C : Cf} {q : WS} {wk : List V}
theorem puts_nil : puts wk [] = wk := List.append_nil wk
noncomputable def wrOp : PSs := (.cons (.asg 5 (.meth (.x 0) 37 (.cons (.x 1) .nil)))
 (.cons (.ite (.cmp .Is (.x 5) (.c .none)) (.cons (.expr (.meth (.x 0) 35 (.cons (.x 1) .nil)))
 .nil) (.cons (.expr (.meth (.x 0) 36 (.cons (.x 1) (.cons (.x 5) (.cons (.x 2) .nil)))))
 .nil))
 .nil))
theorem wrOp1_q (P : Prj cx gx) {f : Nat} {x : Tm} {e3 e4 e5 : Option SV} {most : Int} {R : KS} (h : C.ok (.s1 f x)) (hf : C.okF f) (hl : q.1.length + 20 ≤ lim) (hw : wk.length ≤ 9000)
    (k : ∀ env', R .next env' (Gm O C (match C.shape (.s1 f x) with
        | none => (tokP q (C.at (C.nam f)), [It.raw [40], .t x 999 true, .raw [41]])
        | some sh => C.opn sh (C.nam f) x none most q).1 (puts wk (match C.shape (.s1 f x) with
        | none => (tokP q (C.at (C.nam f)), [It.raw [40], .t x 999 true, .raw [41]])
        | some sh => C.opn sh (C.nam f) x none most q).2))) :
    wqSs (T0 gx) (Cq cx) (n + 7) [] wrOp [some (.r iW), some (.p (tv (.s1 f x))), some (.p (.int most)), e3, e4, e5] (Gm O C q wk) R := by
  refine shape_q P h ?_
  cases e : C.shape (.s1 f x) with
  | none =>
    rw [e] at k
    refine fun1_q P hf (by omega) hw ?_
    exact k _
  | some sh =>
    rw [e] at k
    refine oper1_q (n := n) P (shape_kd1 e) hf h.2.2 hl hw ?_
    exact k _
theorem wrOp2_q (P : Prj cx gx) {f : Nat} {x y : Tm} {e3 e4 e5 : Option SV} {most : Int} {R : KS} (h : C.ok (.s2 f x y)) (hl : q.1.length + 20 ≤ lim) (hw : wk.length ≤ 9000)
    (k : ∀ env', R .next env' (Gm O C (match C.shape (.s2 f x y) with
        | none => (tokP q (C.at (C.nam f)), [It.raw [40], .t x 999 true, .raw [44], .t y 999 true, .raw [41]])
        | some sh => C.opn sh (C.nam f) x (some y) most q).1 (puts wk (match C.shape (.s2 f x y) with
        | none => (tokP q (C.at (C.nam f)), [It.raw [40], .t x 999 true, .raw [44], .t y 999 true, .raw [41]])
        | some sh => C.opn sh (C.nam f) x (some y) most q).2))) :
    wqSs (T0 gx) (Cq cx) (n + 7) [] wrOp [some (.r iW), some (.p (tv (.s2 f x y))), some (.p (.int most)), e3, e4, e5] (Gm O C q wk) R := by
  refine shape_q P h ?_
  cases e : C.shape (.s2 f x y) with
  | none =>
    rw [e] at k
    refine fun2_q P h.2.2.1 (by omega) hw ?_
    exact k _
  | some sh =>
    rw [e] at k
    refine oper2_q (n := n) P (shape_kd2 e) h.2.2.1 h.2.2.2.1 hl hw ?_
    exact k _
theorem write_q (P : Prj cx gx) (ok : C.Ok) : ∀ {t : Tm} {most : Int} {al : Bool}, C.ok t → q.1.length + 20 ≤ lim → wk.length ≤ 9000 →
    (∀ f x y, t = .s2 f x y → f = 0 → ∀ {K : KE}, K (.p .none) (Gm O C (C.write t most al q).1 (puts wk (C.write t most al q).2)) → Cq cx (n + 7) 420 [.r iW, .p (tv t)] (Gm O C q wk) K) →
    K (.p .none) (Gm O C (C.write t most al q).1 (puts wk (C.write t most al q).2)) → Cq cx (n + 7 + 1) 392 [.r iW, .p (tv t), .p (.int most), .p (.bool al)] (Gm O C q wk) K
  | .v z, most, al, h, hl, hw, _, k => by
    refine dq P [] P.d_Writer_write rfl ?_
    refine var_q P ok h ?_
    refine token_q P (by omega) ?_
    rw [show (C.write (.v z) most al q).2 = [] from rfl, puts_nil] at k
    exact k
  | .i z, most, al, h, hl, hw, _, k => by
    refine dq P [] P.d_Writer_write rfl ?_
    refine (?_)
    refine number_q P (Nat.lt_trans h (by decide)) ?_
    refine token_q P (by omega) ?_
    rw [show (C.write (.i z) most al q).2 = [] from rfl, puts_nil] at k
    exact k
  | .a z, most, al, h, hl, hw, _, k => by
    refine dq P [] P.d_Writer_write rfl ?_
    refine ((?_))
    refine atm_q P h (by omega) ?_
    rw [show (C.write (.a z) most al q).2 = [] from rfl, puts_nil] at k
    exact k
  | .s1 f x, most, al, h, hl, hw, _, k => by
    refine dq P [] P.d_Writer_write rfl ?_
    refine ((((if_f ((natEq f 0).trans (decide_eq_false h.1)) ?_))))
    refine isNum1_q P ?_
    simp only [Cf.write] at k
    cases en : C.isNum (.s1 f x) with
    | true =>
      rw [en] at k
      have hx : ∃ m : Nat, x = .i (m : Int) := by
        have en : (C.nv && (decide (f = 17) && isNonneg x)) = true := en
        rw [Bool.and_eq_true, Bool.and_eq_true] at en
        cases x with
        | i z => exact ⟨z.toNat, by rw [Int.toNat_of_nonneg (of_decide_eq_true en.2.2)]⟩
        | _ => exact absurd en.2.2 Bool.false_ne_true
      obtain ⟨m, rfl⟩ := hx
      have hm : m < 10 ^ 36 := Nat.lt_trans (show m < 10 ^ 30 from h.2.2) (by decide)
      refine numbered_q P hm ?_
      refine token_q P (by omega) ?_
      replace k : K (.p .none) (Gm O C (tokP q (numberedT m)) (puts wk [])) := k
      rw [puts_nil] at k
      exact k
    | false =>
      rw [en] at k
      have hf : C.okF f := by
        rcases h.2.1 with ⟨_, e⟩ | e
        · rw [en] at e; contradiction
        · exact e
      have op : K (.p .none) (Gm O C (match C.shape (.s1 f x) with
        | none => (tokP q (C.at (C.nam f)), [It.raw [40], .t x 999 true, .raw [41]])
        | some sh => C.opn sh (C.nam f) x none most q).1 (puts wk (match C.shape (.s1 f x) with
        | none => (tokP q (C.at (C.nam f)), [It.raw [40], .t x 999 true, .raw [41]])
        | some sh => C.opn sh (C.nam f) x none most q).2)) → wqSs (T0 gx) (Cq cx) (n + 7) [] wrOp [some (.r iW), some (.p (tv (.s1 f x))), some (.p (.int most)), some (.p (.bool al)), some (.p (.str [115])), none] (Gm O C q wk) (doneQ K) := fun k =>
        wrOp1_q P h hf hl hw fun _ => k
      cases e9 : decide (f = 9) with
      | false =>
        rw [e9] at k
        refine if_f ((natEq f 9).trans e9) (if_f ((natEq f 9).trans e9) ?_)
        exact op k
      | true =>
        rw [e9] at k
        refine if_t ((natEq f 9).trans e9) ?_
        cases ei : C.ign with
        | true =>
          rw [ei] at k
          refine if_f (by rw [ei]; rfl) ?_
          exact op k
        | false =>
          rw [ei] at k
          refine if_t (by rw [ei]; rfl) ?_
          refine token_q P (by omega) ?_
          refine later_q (q := tokP q [123]) (wk := wk) (xs := [.t x 1201 true, .raw [125]].map itV) P ?_ ?_
          · show wk.length + 2 ≤ 10000; omega
          · exact k
  | .s2 f x y, most, al, h, hl, hw, hL, k => by
    refine dq P [] P.d_Writer_write rfl ?_
    refine ((?_))
    cases e0 : decide (f = 0) with
    | true =>
      refine if_t ((natEq f 0).trans e0) ?_
      exact hL f x y rfl (of_decide_eq_true e0) k
    | false =>
      simp only [Cf.write] at k
      rw [e0] at k
      refine if_f ((natEq f 0).trans e0) ?_
      refine isNum2_q P ?_
      have en : C.isNum (.s2 f x y) = false := by
        show (C.nv && (decide (f = 17) && isNonneg x)) = false
        rw [decide_eq_false h.2.1, Bool.false_and, Bool.and_false]
      refine if_f en (if_f ((natEq f 9).trans (decide_eq_false h.1)) (if_f ((natEq f 9).trans (decide_eq_false h.1)) ?_))
      exact wrOp2_q (e3 := some (.p (.bool al))) (e4 := some (.p (.str [115]))) (e5 := none) (R := doneQ K) P h hl hw fun _ => k
end
end Mine.G

set_option maxHeartbeats 4000000
namespace Mine.G
open Mine Mine.PJ
section
variable {cx : Cx} {gx : List V} {n : Nat} {K : KE} {O : Oth} {C : Cf} {q : WS} {wk : List V}
noncomputable def liT : PE := (.bop true (.cons (.cmp .Eq (.sub (.x 0) (.c (.int 0))) (.c (.str [115]))) (.cons (.cmp .Eq (.sub (.x 0) (.c (.int 1))) (.g 2)) .nil)))
noncomputable def liB : PSs := (.cons (.expr (.bm .append (.x 1) (.cons (.sub (.sub (.x 0) (.c (.int 2))) (.c (.int 0))) .nil)))
 (.cons (.asg 0 (.sub (.sub (.x 0) (.c (.int 2))) (.c (.int 1))))
 .nil))
theorem li_loop {Γ : Gam} {R : KS} : ∀ (t : Tm) (acc : List V), C.ok t → acc.length + (litems t).1.length ≤ 1000 → R .next [some (.p (tv (litems t).2)), some (.l (acc ++ (litems t).1.map tv))] Γ →
    qWh0 (fun env Γ Q => wqE (T0 gx) (Cq cx) n liT env Γ fun x Γ₁ => qTru x Γ₁ fun t => Q t Γ₁) (fun env Γ R => wqSs (T0 gx) (Cq cx) n [] liB env Γ R) ((litems t).1.length + 1) [some (.p (tv t)), some (.l acc)] Γ R
  | .v k, acc, _, _, h => by rw [show (litems (.v k)).1.map tv = [] from rfl, List.append_nil] at h; exact h
  | .i k, acc, _, _, h => by rw [show (litems (.i k)).1.map tv = [] from rfl, List.append_nil] at h; exact h
  | .a k, acc, _, _, h => by rw [show (litems (.a k)).1.map tv = [] from rfl, List.append_nil] at h; exact h
  | .s1 f x, acc, o, _, h => by
    rw [show (litems (.s1 f x)).1.map tv = [] from rfl, List.append_nil] at h
    refine if_f ((natEq f 0).trans (decide_eq_false o.1)) ?_
    exact h
  | .s2 f x y, acc, o, l, h => by
    cases e : decide (f = 0) with
    | false =>
      have e1 : litems (.s2 f x y) = ([], .s2 f x y) := by
        show (match decide (f = 0) with
          | true => (x :: (litems y).1, (litems y).2)
          | false => ([], .s2 f x y)) = _
        rw [e]
      rw [e1] at h ⊢
      rw [show ([] : List Tm).map tv = [] from rfl, List.append_nil] at h
      refine if_f ((natEq f 0).trans e) ?_
      exact h
    | true =>
      have e1 : litems (.s2 f x y) = (x :: (litems y).1, (litems y).2) := by
        show (match decide (f = 0) with
          | true => (x :: (litems y).1, (litems y).2)
          | false => ([], .s2 f x y)) = _
        rw [e]
      rw [e1] at h l ⊢
      rw [List.length_cons] at l
      refine if_t ((natEq f 0).trans e) ?_
      refine lenP_mk (lim_le (by omega)) ?_
      refine li_loop y (acc ++ [tv x]) o.2.2.2.2.1 (by rw [List.length_append]; show acc.length + 1 + _ ≤ _; omega) ?_
      rw [List.append_assoc]
      exact h
theorem list_q (P : Prj cx gx) {Γ : Gam} {t : Tm} (o : C.ok t) (l : (litems t).1.length ≤ 1000) (k : K (.lp ((litems t).1.map tv) (tv (litems t).2)) Γ) : Cq cx (n + 1) 133 [.p (tv t)] Γ K := by
  refine dq P [] P.d_list_items rfl ?_
  refine ⟨(litems t).1.length + 1, ?_⟩
  rw [qWh_eq]
  refine li_loop (C := C) t [] o (by rw [List.length_nil]; omega) ?_
  exact k
noncomputable def wlB : PSs := (.cons (.ite (.x 4) (.cons (.expr (.bm .append (.x 4) (.cons (.tuple (.cons (.c (.str [114, 97, 119])) (.cons (.c (.str [44])) (.cons (.c (.int 0)) (.cons (.c (.bool false)) .nil))))) .nil)))
 .nil) .nil)
 (.cons (.expr (.bm .append (.x 4) (.cons (.tuple (.cons (.c (.str [116, 101, 114, 109])) (.cons (.x 5) (.cons (.g 28) (.cons (.c (.bool true)) .nil))))) .nil)))
 .nil))
noncomputable def wlEnd : PSs := (.cons (.ite (.cmp .NotEq (.x 3) (.tuple (.cons (.c (.str [97])) (.cons (.g 27) .nil)))) (.cons (.expr (.bm .append (.x 4) (.cons (.tuple (.cons (.c (.str [114, 97, 119])) (.cons (.c (.str [124])) (.cons (.c (.int 0)) (.cons (.c (.bool false)) .nil))))) .nil)))
 (.cons (.expr (.bm .append (.x 4) (.cons (.tuple (.cons (.c (.str [116, 101, 114, 109])) (.cons (.x 3) (.cons (.g 28) (.cons (.c (.bool true)) .nil))))) .nil)))
 .nil)) .nil)
 (.cons (.expr (.bm .append (.x 4) (.cons (.tuple (.cons (.c (.str [114, 97, 119])) (.cons (.c (.str [93])) (.cons (.c (.int 0)) (.cons (.c (.bool false)) .nil))))) .nil)))
 (.cons (.expr (.meth (.x 0) 34 (.cons (.x 4) .nil)))
 .nil)))
theorem commas_len : ∀ l : List Tm, (commas l).length ≤ 2 * l.length
  | [] => Nat.le_refl _
  | [_] => Nat.le_succ 1
  | x :: y :: r => by have := commas_len (y :: r); show (commas (y :: r)).length + 1 + 1 ≤ 2 * ((y :: r).length + 1); omega
theorem commas_snoc (x : Tm) : ∀ l : List Tm, l ≠ [] → commas (l ++ [x]) = commas l ++ [.raw [44], .t x 999 true]
  | [], h => absurd rfl h
  | [_], _ => rfl
  | a :: b :: r, _ => by
    show It.t a 999 true :: .raw [44] :: commas ((b :: r) ++ [x]) = _
    rw [commas_snoc x (b :: r) (List.cons_ne_nil _ _)]; rfl
theorem wl_loop {e0 e1 e2 e3 : Option SV} {Γ : Gam} {R : KS} : ∀ (l done : List Tm) (e5 : Option SV), done.length + l.length ≤ 100 → (∀ e5, R .next [e0, e1, e2, e3, some (.l ((commas (done ++ l)).map itV)), e5] Γ) →
    qFor0 (fun env Γ R => wqSs (T0 gx) (Cq cx) n [] wlB env Γ R) (fun env x => setE env 5 (.p x)) (l.map tv) [e0, e1, e2, e3, some (.l ((commas done).map itV)), e5] Γ R
  | [], done, e5, _, k => by rw [List.append_nil] at k; exact k e5
  | x :: l, done, e5, h, k => by
    rw [List.length_cons] at h
    have cl : ((commas done).map itV).length ≤ 200 := by rw [List.length_map]; exact Nat.le_trans (commas_len done) (by omega)
    have nx := wl_loop (e0 := e0) (e1 := e1) (e2 := e2) (e3 := e3) (Γ := Γ) (R := R) l (done ++ [x]) (some (.p (tv x))) (by rw [List.length_append]; show done.length + 1 + _ ≤ _; omega) (fun e5 => by rw [List.append_assoc]; exact k e5)
    cases done with
    | nil =>
      exact nx
    | cons a r =>
      rw [commas_snoc x (a :: r) (List.cons_ne_nil _ _), List.map_append] at nx
      have ne : (!((commas (a :: r)).map itV).isEmpty) = true := by cases r <;> rfl
      refine if_t ne (lenP_mk (lim_le (by omega)) (lenP_mk (lim_le (by rw [List.length_append]; show _ + 1 + 1 ≤ _; omega)) ?_))
      rw [List.append_assoc]
      exact nx
theorem tail_eq : ∀ t : Tm, ∃ s i r, tv t = .tup (.str s :: .int i :: r) ∧ (decide (s = [97]) && (decide (i = 0) && r.isEmpty)) = isNil t
  | .v _ => ⟨_, _, _, rfl, rfl⟩
  | .i _ => ⟨_, _, _, rfl, rfl⟩
  | .a n => ⟨_, _, _, rfl, by show (true && (decide ((n : Int) = (0 : Nat)) && true)) = decide (n = 0); rw [natEq, Bool.true_and, Bool.and_true]⟩
  | .s1 _ _ => ⟨_, _, _, rfl, rfl⟩
  | .s2 _ _ _ => ⟨_, _, _, rfl, rfl⟩
theorem list_w (P : Prj cx gx) : ∀ (q : WS) (wk : List V) (f : Nat) (x y : Tm) (most : Int) (al : Bool), C.ok (.s2 f x y) → f = 0 → q.1.length + 20 ≤ lim → wk.length ≤ 9000 → ∀ {K : KE},
    K (.p .none) (Gm O C (C.write (.s2 f x y) most al q).1 (puts wk (C.write (.s2 f x y) most al q).2)) → Cq cx (n + 7) 420 [.r iW, .p (tv (.s2 f x y))] (Gm O C q wk) K := fun q wk f x y most al o e0 hl hw {K} k => by
  subst e0
  have hy := o.2.2.2.2.2 rfl
  have e1 : litems (.s2 0 x y) = (x :: (litems y).1, (litems y).2) := rfl
  have ew : C.write (.s2 0 x y) most al q = (tokP q [91], commas (litems (.s2 0 x y)).1 ++ tailI (litems (.s2 0 x y)).2) := rfl
  rw [ew] at k
  have l1 : (litems (.s2 0 x y)).1.length ≤ 91 := by rw [e1]; exact Nat.succ_le_succ hy
  refine dq P [] P.d_Writer_write_list rfl ?_
  refine list_q P o (by omega) ?_
  refine token_q P (by omega) ?_
  refine Eq.mpr qFor_eq ?_
  refine wl_loop (litems (.s2 0 x y)).1 [] none (by rw [List.length_nil]; omega) fun e5 => ?_
  rw [List.nil_append]
  have cl : ((commas (litems (.s2 0 x y)).1).map itV).length ≤ 200 := by rw [List.length_map]; exact Nat.le_trans (commas_len _) (by omega)
  obtain ⟨s, i, r, et, en⟩ := tail_eq (litems (.s2 0 x y)).2
  have fin : ∀ its : List It, its.length ≤ 2 → tailI (litems (.s2 0 x y)).2 = its ++ [.raw [93]] → wqSs (T0 gx) (Cq cx) (n + 6) [] (.cons (.expr (.bm .append (.x 4) (.cons (.tuple (.cons (.c (.str [114, 97, 119])) (.cons (.c (.str [93])) (.cons (.c (.int 0)) (.cons (.c (.bool false)) .nil))))) .nil)))
 (.cons (.expr (.meth (.x 0) 34 (.cons (.x 4) .nil)))
 .nil)) [some (.r iW), some (.p (tv (.s2 0 x y))), some (.al ((litems (.s2 0 x y)).1.map tv)), some (.p (tv (litems (.s2 0 x y)).2)), some (.l ((commas (litems (.s2 0 x y)).1).map itV ++ its.map itV)), e5] (Gm O C (tokP q [91]) wk) (doneQ K) := fun its hi ht => by
    have hm : (its.map itV).length ≤ 2 := by rw [List.length_map]; exact hi
    refine lenP_mk (lim_le (by rw [List.length_append]; omega)) ?_
    refine later_q (q := tokP q [91]) (wk := wk) (xs := ((commas (litems (.s2 0 x y)).1).map itV ++ its.map itV) ++ [itV (.raw [93])]) P ?_ ?_
    · rw [List.length_append, List.length_append]; show _ + (_ + _ + 1) ≤ _; omega
    · rw [ht] at k
      unfold puts at k
      rw [List.map_append, List.map_append, ← List.append_assoc ((commas (litems (.s2 0 x y)).1).map itV)] at k
      exact k
  have tl : ∀ b, isNil (litems (.s2 0 x y)).2 = b → tailI (litems (.s2 0 x y)).2 = (match b with
      | true => []
      | false => [It.raw [124], .t (litems (.s2 0 x y)).2 999 true]) ++ [.raw [93]] := fun b h => by
    unfold tailI; rw [h]; cases b <;> rfl
  rw [et] at fin ⊢
  refine ⟨s, i, r, [97], 0, rfl, rfl, ?_⟩
  rw [en]
  cases hb : isNil (litems (.s2 0 x y)).2 with
  | true =>
    have := fin [] (Nat.zero_le _) (tl true hb)
    rw [show ([] : List It).map itV = [] from rfl, List.append_nil] at this
    exact this
  | false =>
    have := fin [It.raw [124], .t (litems (.s2 0 x y)).2 999 true] (Nat.le_refl _) (tl false hb)
    refine lenP_mk (lim_le (by omega)) (lenP_mk (lim_le (by rw [List.length_append]; show _ + 1 + 1 ≤ _; omega)) ?_)
    rw [List.append_assoc]
    rw [show [It.raw [124], .t (litems (.s2 0 x y)).2 999 true].map itV = [itV (.raw [124]), .tup [.str [116, 101, 114, 109], tv (litems (.s2 0 x y)).2, .int 999, .bool true]] from rfl, et] at this
    exact this
end
end Mine.G

set_option maxHeartbeats 4000000
namespace Mine.G
open Mine Mine.PJ
noncomputable def szT : Tm → Nat
  | .s1 _ x => szT x + 4
  | .s2 _ x y => szT x + szT y + 5
  | _ => 1
noncomputable def szI : It → Nat
  | .t x _ _ => szT x
  | _ => 1
noncomputable def szL : List It → Nat
  | [] => 0
  | it :: r => szI it + szL r
theorem szT_pos : ∀ t : Tm, 1 ≤ szT t
  | .v _ => Nat.le_refl _
  | .i _ => Nat.le_refl _
  | .a _ => Nat.le_refl _
  | .s1 _ x => by show 1 ≤ szT x + 4; exact Nat.succ_pos _
  | .s2 _ x y => by show 1 ≤ szT x + szT y + 5; exact Nat.succ_pos _
theorem szL_app (a b : List It) : szL (a ++ b) = szL a + szL b := by
  induction a with
  | nil => exact (Nat.zero_add _).symm
  | cons x r ih => show szI x + szL (r ++ b) = szI x + szL r + szL b; omega
theorem szL_len : ∀ l : List It, l.length ≤ szL l
  | [] => Nat.le_refl _
  | .t x _ _ :: r => by have := szL_len r; have := szT_pos x; show r.length + 1 ≤ szT x + szL r; omega
  | .raw _ :: r => by have := szL_len r; show r.length + 1 ≤ 1 + szL r; omega
  | .inf _ :: r => by have := szL_len r; show r.length + 1 ≤ 1 + szL r; omega
  | .pos _ :: r => by have := szL_len r; show r.length + 1 ≤ 1 + szL r; omega
theorem tail_sz (t : Tm) : szL (tailI t) ≤ szT t + 2 := by
  have := szT_pos t
  unfold tailI
  split
  · show 1 + 0 ≤ _; exact Nat.succ_pos _
  · show 1 + (szT t + (1 + 0)) ≤ _; omega
theorem commas_sz (x : Tm) (l : List Tm) : szL (commas (x :: l)) ≤ szT x + 1 + szL (commas l) := by
  cases l with
  | nil => show szT x + 0 ≤ szT x + 1 + 0; exact Nat.le_succ _
  | cons y r => show szT x + (1 + szL (commas (y :: r))) ≤ _; omega
theorem list_sz : ∀ t : Tm, szL (commas (litems t).1) + szL (tailI (litems t).2) ≤ szT t + 2
  | .v k => by have := tail_sz (.v k); show 0 + szL (tailI (.v k)) ≤ _; exact Nat.le_refl _
  | .i k => by have := tail_sz (.i k); show 0 + szL (tailI (.i k)) ≤ _; exact Nat.le_refl _
  | .a k => by have := tail_sz (.a k); show 0 + szL (tailI (.a k)) ≤ _; omega
  | .s1 f x => by have := tail_sz (.s1 f x); show 0 + szL (tailI (.s1 f x)) ≤ _; omega
  | .s2 f x y => by
    unfold litems
    split
    · have := list_sz y
      have := commas_sz x (litems y).1
      show szL (commas (x :: (litems y).1)) + szL (tailI (litems y).2) ≤ szT x + szT y + 5 + 2
      omega
    · have := tail_sz (.s2 f x y); show 0 + szL (tailI (.s2 f x y)) ≤ _; omega
theorem cl_sz (b : Bool) : szL (clB b) ≤ 1 := by cases b <;> decide
noncomputable def szO : Option Tm → Nat
  | some y => szT y
  | none => 0
theorem mid_sz (y : Option Tm) (r : Int) : szL (midB y r) = szO y := by cases y <;> rfl
theorem opn_sz {C : Cf} {sh : Sh} {a : Nat} {x : Tm} {y : Option Tm} {most : Int} {q : WS} : szL (C.opn sh a x y most q).2 ≤ szT x + 2 + szO y := by
  obtain ⟨kd, p, ty⟩ := sh
  have c := cl_sz (decide (most < p))
  unfold Cf.opn
  dsimp only
  split
  · show szT x + szL (clB _) ≤ _; omega
  · show szT x + (1 + szL (midB y _ ++ clB _)) ≤ _
    rw [szL_app, mid_sz]; omega
  · show szT x + (1 + szL (clB _)) ≤ _; omega
theorem step_sz {C : Cf} (it : It) (q : WS) : szL (C.step it q).2 < szI it := by
  cases it with
  | raw s => exact Nat.zero_lt_one
  | inf s => exact Nat.zero_lt_one
  | pos s => exact Nat.zero_lt_one
  | t x m b =>
    cases x with
    | v k => exact Nat.zero_lt_one
    | i k => exact Nat.zero_lt_one
    | a k => exact Nat.zero_lt_one
    | s1 f x =>
      show szL (C.write (.s1 f x) m b q).2 < szT x + 4
      unfold Cf.write
      dsimp only
      split
      · split <;> exact Nat.succ_pos _
      · split
        · show szT x + (1 + 0) < _; omega
        · split
          · show 1 + (szT x + (1 + 0)) < _; omega
          · have := opn_sz (C := C) (sh := by assumption) (a := C.nam f) (x := x) (y := none) (most := m) (q := q); simp only [szO] at this; omega
    | s2 f x y =>
      show szL (C.write (.s2 f x y) m b q).2 < szT x + szT y + 5
      unfold Cf.write
      dsimp only
      split
      · rename_i e
        show szL (_ ++ _) < _
        rw [szL_app]
        have h1 := list_sz y
        have h2 := commas_sz x (litems y).1
        have e1 : litems (.s2 f x y) = (x :: (litems y).1, (litems y).2) := by
          show (match decide (f = 0) with
            | true => (x :: (litems y).1, (litems y).2)
            | false => ([], .s2 f x y)) = _
          rw [e]
        rw [e1]
        dsimp only
        omega
      · split
        · show 1 + (szT x + (1 + (szT y + (1 + 0)))) < _; omega
        · have := opn_sz (C := C) (sh := by assumption) (a := C.nam f) (x := x) (y := some y) (most := m) (q := q); simp only [szO] at this; omega
end Mine.G

set_option maxHeartbeats 4000000
namespace Mine.G
open Mine Mine.PJ
section
variable {C : Cf} {q : WS} {B : Nat}
noncomputable def Fits (q : WS) (B : Nat) : Prop := ∃ T, q.1 = stL T ∧ T.length ≤ B ∧ ∀ s ∈ T, s.length ≤ 100
theorem Fits.up {B' : Nat} (f : Fits q B) (h : B ≤ B') : Fits q B' := by obtain ⟨T, a, b, c⟩ := f; exact ⟨T, a, Nat.le_trans b h, c⟩
theorem Fits.add {s : List Nat} {l : Option Nat × Bool} (f : Fits q B) (h : s.length ≤ 100) : Fits (q.1 ++ [.str s], l) (B + 1) := by
  obtain ⟨T, a, b, c⟩ := f
  refine ⟨T ++ [s], by rw [stL_app, ← a]; rfl, by rw [List.length_append]; exact Nat.succ_le_succ b, fun x hx => ?_⟩
  rcases List.mem_append.mp hx with hx | hx
  · exact c x hx
  · rw [List.mem_singleton] at hx; rw [hx]; exact h
theorem Fits.raw {t : List Nat} (f : Fits q B) (h : t.length ≤ 100) : Fits (rawP q t) (B + 1) := by
  cases t with
  | nil => exact f.up (Nat.le_succ _)
  | cons c r => exact f.add h
theorem Fits.tok {t : List Nat} (f : Fits q B) (h : t.length ≤ 100) : Fits (tokP q t) (B + 2) := by
  cases t with
  | nil => exact f.up (Nat.le_add_right _ 2)
  | cons c r =>
    unfold tokP
    dsimp only
    split
    · exact Fits.raw (q := (q.1 ++ [.str [32]], q.2)) (f.add (by decide)) h
    · exact (f.raw h).up (Nat.le_succ _)
theorem Fits.len (f : Fits q B) : q.1.length ≤ B := by obtain ⟨T, a, b, _⟩ := f; rw [a, stL_len]; exact b
theorem at_len {a : Nat} (h : C.okA a) : (C.at a).length ≤ 100 := by
  unfold Cf.at atomT
  have := h.2.2
  split
  · show (C.T.getD a [] ++ [39]).length + 1 ≤ 100; rw [List.length_append]; show (_ + 1) + 1 ≤ 100; omega
  · omega
theorem var_len (ok : C.Ok) {v : Int} (h : v.natAbs < 10 ^ 30) : (C.var v).length ≤ 100 := by
  unfold Cf.var
  split
  · rename_i e q
    exact Nat.le_trans (ok.n e (List.mem_of_find?_eq_some q)) (by decide)
  · have := showI_len (v := v) (Nat.lt_trans h (by decide))
    show (showI v).length + 1 ≤ 100; omega
theorem num_len {m : Nat} (h : m < 10 ^ 30) : (numberedT m).length ≤ 100 := by
  unfold numberedT
  split
  · show 1 ≤ 100; decide
  · have := dig_len40 (m := m / 26) (Nat.lt_of_le_of_lt (Nat.div_le_self _ _) (Nat.lt_trans h (by decide)))
    show (digits10 (m / 26)).length + 1 ≤ 100; omega
theorem Fits.atm {a : Nat} {b : Bool} (f : Fits q B) (h : C.okA a) : Fits (C.atm a b q) (B + 4) := by
  unfold Cf.atm
  split
  · exact ((f.tok (by decide)).raw (at_len h)).raw (by decide)
  · exact (f.tok (at_len h)).up (by omega)
theorem Fits.pre {a : Nat} (f : Fits q B) (h : C.okA a) : Fits (C.preO a q) (B + 3) := by
  unfold Cf.preO
  split
  · exact ((f.tok (at_len h)) : Fits _ _).up ((Nat.le_succ _))
  · exact (f.tok (at_len h)).raw (by decide)
theorem Fits.inf {a : Nat} (f : Fits q B) (h : C.okA a) : Fits (C.infO a q) (B + 3) := by
  unfold Cf.infO
  split
  · exact (f.raw (by decide)).up (by omega)
  · split
    · exact (f.raw (by decide)).up (by omega)
    · split
      · exact (f.tok (at_len h)).up ((Nat.le_succ _))
      · exact ((f.raw (by decide)).raw (at_len h)).raw (by decide)
theorem Fits.pos {a : Nat} (f : Fits q B) (h : C.okA a) : Fits (C.posO a q) (B + 3) := by
  unfold Cf.posO
  split
  · exact (f.tok (at_len h)).up ((Nat.le_succ _))
  · exact ((f.raw (by decide)).raw (at_len h)).up ((Nat.le_succ _))
theorem Fits.opn {sh : Sh} {a : Nat} {x : Tm} {y : Option Tm} {most : Int} (f : Fits q B) (h : C.okA a) : Fits (C.opn sh a x y most q).1 (B + 5) := by
  obtain ⟨kd, p, ty⟩ := sh
  have f1 : Fits (match decide (most < p) with
    | true => tokP q [40]
    | false => q) (B + 2) := by
    split
    · exact f.tok (by decide)
    · exact f.up ((Nat.le_add_right _ _))
  unfold Cf.opn
  dsimp only
  split
  · exact f1.pre h
  · exact f1.up (by omega)
  · exact f1.up (by omega)
theorem nam_ok {f : Nat} (h : C.okF f) : C.okA (C.nam f) := h.2.2
theorem Fits.write (ok : C.Ok) : ∀ {t : Tm} {m : Int} {b : Bool}, C.ok t → Fits q B → Fits (C.write t m b q).1 (B + 6)
  | .v k, m, b, h, f => (f.tok (var_len ok h)).up (by omega)
  | .i k, m, b, h, f => (f.tok (Nat.le_trans (showI_len (Nat.lt_trans h (by decide))) (by decide))).up (by omega)
  | .a n, m, b, h, f => (f.atm h).up (by omega)
  | .s1 g x, m, b, h, f => by
    unfold Cf.write
    dsimp only
    split
    · split
      · refine Fits.up (Fits.tok f (num_len ?_)) (by omega)
        have : Int.natAbs _ < 10 ^ 30 := h.2.2
        omega
      · exact f.up ((Nat.le_add_right _ _))
    · rename_i en
      have hg : C.okF g := by
        rcases h.2.1 with ⟨_, e⟩ | e
        · rw [en] at e; contradiction
        · exact e
      split
      · exact (f.tok (by decide)).up (by omega)
      · split
        · exact (f.tok (at_len (nam_ok hg))).up (by omega)
        · exact (f.opn (nam_ok hg)).up ((Nat.le_succ _))
  | .s2 g x y, m, b, h, f => by
    unfold Cf.write
    dsimp only
    split
    · exact (f.tok (by decide)).up (by omega)
    · split
      · exact (f.tok (at_len (nam_ok h.2.2.1))).up (by omega)
      · exact (f.opn (nam_ok h.2.2.1)).up ((Nat.le_succ _))
theorem Fits.step (ok : C.Ok) {it : It} (h : C.okI it) (f : Fits q B) : Fits (C.step it q).1 (B + 6) := by
  cases it with
  | t x m b => exact f.write ok h
  | raw s => exact (f.raw (Nat.le_trans h (by decide))).up (by omega)
  | inf a => exact (f.inf h).up (by omega)
  | pos a => exact (f.pos h).up (by omega)
theorem ok_items : ∀ {t : Tm}, C.ok t → (∀ x ∈ (litems t).1, C.ok x) ∧ C.ok (litems t).2
  | .v _, h => ⟨fun _ hx => (by cases hx), h⟩
  | .i _, h => ⟨fun _ hx => (by cases hx), h⟩
  | .a _, h => ⟨fun _ hx => (by cases hx), h⟩
  | .s1 _ _, h => ⟨fun _ hx => (by cases hx), h⟩
  | .s2 f x y, h => by
    unfold litems
    split
    · have := ok_items h.2.2.2.2.1
      refine ⟨fun z hz => ?_, this.2⟩
      rcases List.mem_cons.mp hz with rfl | hz
      · exact h.2.2.2.1
      · exact this.1 z hz
    · exact ⟨fun _ hx => (by cases hx), h⟩
theorem ok_commas : ∀ {l : List Tm}, (∀ x ∈ l, C.ok x) → ∀ it ∈ commas l, C.okI it
  | [], _, _, h => by cases h
  | [x], h, it, hi => by
    rw [show commas [x] = [.t x 999 true] from rfl, List.mem_singleton] at hi
    subst hi; exact h x (List.mem_cons_self ..)
  | x :: y :: r, h, it, hi => by
    rw [show commas (x :: y :: r) = .t x 999 true :: .raw [44] :: commas (y :: r) from rfl] at hi
    rcases List.mem_cons.mp hi with rfl | hi
    · exact h x (List.mem_cons_self ..)
    · rcases List.mem_cons.mp hi with rfl | hi
      · show (1 : Nat) ≤ 60; decide
      · exact ok_commas (fun z hz => h z (List.mem_cons_of_mem _ hz)) it hi
theorem ok_cl {b : Bool} : ∀ it ∈ clB b, C.okI it := by
  intro it h
  cases b with
  | true => rw [show clB true = [.raw [41]] from rfl, List.mem_singleton] at h; subst h; show (1 : Nat) ≤ 60; decide
  | false => contradiction
theorem ok_opn {sh : Sh} {a : Nat} {x : Tm} {y : Option Tm} {most : Int} (ha : C.okA a) (hx : C.ok x) (hy : ∀ z, y = some z → C.ok z) : ∀ it ∈ (C.opn sh a x y most q).2, C.okI it := by
  obtain ⟨kd, p, ty⟩ := sh
  unfold Cf.opn
  dsimp only
  intro it h
  split at h
  · rcases List.mem_cons.mp h with rfl | h
    · exact hx
    · exact ok_cl it h
  · rcases List.mem_cons.mp h with rfl | h
    · exact hx
    · rcases List.mem_cons.mp h with rfl | h
      · exact ha
      · rcases List.mem_append.mp h with h | h
        · cases y with
          | none => contradiction
          | some z => rw [show midB (some z) (bnd p ty).2 = [.t z (bnd p ty).2 false] from rfl, List.mem_singleton] at h; subst h; exact hy z rfl
        · exact ok_cl it h
  · rcases List.mem_cons.mp h with rfl | h
    · exact hx
    · rcases List.mem_cons.mp h with rfl | h
      · exact ha
      · exact ok_cl it h
theorem ok_raw1 {c : Nat} : C.okI (.raw [c]) := show (1 : Nat) ≤ 60 by decide
theorem ok_step {it : It} (h : C.okI it) : ∀ it' ∈ (C.step it q).2, C.okI it' := by
  cases it with
  | raw s => intro _ h; contradiction
  | inf s => intro _ h; contradiction
  | pos s => intro _ h; contradiction
  | t x m b =>
    cases x with
    | v k => intro _ h; contradiction
    | i k => intro _ h; contradiction
    | a k => intro _ h; contradiction
    | s1 g x =>
      show ∀ it' ∈ (C.write (.s1 g x) m b q).2, C.okI it'
      unfold Cf.write
      dsimp only
      split
      · split <;> (intro _ h; contradiction)
      · rename_i en
        have hg : C.okF g := by
          rcases h.2.1 with ⟨_, e⟩ | e
          · rw [en] at e; contradiction
          · exact e
        split
        · intro it hi
          simp only [List.mem_cons, List.not_mem_nil, or_false] at hi
          rcases hi with rfl | rfl
          · exact h.2.2
          · exact ok_raw1
        · split
          · intro it hi
            simp only [List.mem_cons, List.not_mem_nil, or_false] at hi
            rcases hi with rfl | rfl | rfl
            · exact ok_raw1
            · exact h.2.2
            · exact ok_raw1
          · exact ok_opn (nam_ok hg) h.2.2 fun _ z => (by contradiction)
    | s2 g x y =>
      show ∀ it' ∈ (C.write (.s2 g x y) m b q).2, C.okI it'
      unfold Cf.write
      dsimp only
      split
      · intro it hi
        obtain ⟨h1, h2⟩ := ok_items (t := .s2 g x y) h
        rcases List.mem_append.mp hi with hi | hi
        · exact ok_commas h1 it hi
        · unfold tailI at hi
          split at hi
          · simp only [List.mem_cons, List.not_mem_nil, or_false] at hi
            subst hi; exact ok_raw1
          · simp only [List.mem_cons, List.not_mem_nil, or_false] at hi
            rcases hi with rfl | rfl | rfl
            · exact ok_raw1
            · exact h2
            · exact ok_raw1
      · split
        · intro it hi
          simp only [List.mem_cons, List.not_mem_nil, or_false] at hi
          rcases hi with rfl | rfl | rfl | rfl | rfl
          · exact ok_raw1
          · exact h.2.2.2.1
          · exact ok_raw1
          · exact h.2.2.2.2.1
          · exact ok_raw1
        · exact ok_opn (nam_ok h.2.2.1) h.2.2.2.1 fun _ z => (by obtain rfl := Option.some.inj z; exact h.2.2.2.2.1)
end
end Mine.G

set_option maxHeartbeats 4000000
namespace Mine.G
open Mine Mine.PJ
section
variable {cx : Cx} {gx : List V} {n : Nat} {K : KE} {O : Oth} {C : Cf} {q : WS} {wk : List V}
noncomputable def stk (its : List It) : List V := (its.map itV).reverse
theorem puts_stk (a b : List It) : puts (stk b) a = stk (a ++ b) := by
  unfold puts stk
  rw [List.map_append, List.reverse_append]
theorem stk_cons (it : It) (r : List It) : stk (it :: r) = stk r ++ [itV it] := by
  unfold stk; rw [List.map_cons, List.reverse_cons]
theorem stk_len (l : List It) : (stk l).length = l.length := by unfold stk; rw [List.length_reverse, List.length_map]
noncomputable def txBody : PSs := (.cons (.unpack [3, 4, 5, 6] (.bm .pop (.attr (.x 0) 14) .nil))
 (.cons (.ite (.cmp .Eq (.x 3) (.c (.str [116, 101, 114, 109]))) (.cons (.expr (.meth (.x 0) 24 (.cons (.x 4) (.cons (.x 5) (.cons (.x 6) .nil)))))
 .nil) (.cons (.ite (.cmp .Eq (.x 3) (.c (.str [105, 110, 102, 105, 120]))) (.cons (.expr (.meth (.x 0) 25 (.cons (.x 4) .nil)))
 .nil) (.cons (.ite (.cmp .Eq (.x 3) (.c (.str [112, 111, 115, 116, 102, 105, 120]))) (.cons (.expr (.meth (.x 0) 26 (.cons (.x 4) .nil)))
 .nil) (.cons (.expr (.meth (.x 0) 27 (.cons (.x 4) .nil)))
 .nil))
 .nil))
 .nil))
 .nil))
theorem turn_q (P : Prj cx gx) (ok : C.Ok) {it : It} {r : List It} {e1 e2 e3 e4 e5 e6 : Option SV} {R : KS} (h : C.okI it) (hl : q.1.length + 20 ≤ lim) (hw : r.length ≤ 9000)
    (k : ∀ e3 e4 e5 e6, R .next [some (.r iW), e1, e2, e3, e4, e5, e6] (Gm O C (C.step it q).1 (stk ((C.step it q).2 ++ r)))) :
    wqSs (T0 gx) (Cq cx) (n + 7 + 1) [] txBody [some (.r iW), e1, e2, e3, e4, e5, e6] (Gm O C q (stk (it :: r))) R := by
  have hw' : (stk r).length ≤ 9000 := by rw [stk_len]; exact hw
  rw [← puts_stk] at k
  cases it with
  | t x m b =>
    refine ⟨stk r, itV (.t x m b), stk_cons _ _, ?_⟩
    refine write_q (q := q) (wk := stk r) P ok (t := x) (most := m) (al := b) h hl hw' ?_ ?_
    · intro f y z e e0 K kk
      subst e
      exact list_w P q (stk r) f y z m b h e0 hl hw' kk
    · exact k _ _ _ _
  | raw s =>
    refine ⟨stk r, itV (.raw s), stk_cons _ _, ?_⟩
    refine ((?_))
    refine raw_q (q := q) (wk := stk r) P (by omega) ?_
    have := k (some (.p (.str [114, 97, 119]))) (some (.p (.str s))) (some (.p (.int 0))) (some (.p (.bool false)))
    rw [show (C.step (.raw s) q).2 = [] from rfl, puts_nil] at this
    exact this
  | inf a =>
    refine ⟨stk r, itV (.inf a), stk_cons _ _, ?_⟩
    refine (?_)
    refine inf_q (n := n + 2) (q := q) (wk := stk r) P h (by omega) ?_
    have := k (some (.p (.str [105, 110, 102, 105, 120]))) (some (.p (.int (a : Int)))) (some (.p (.int 0))) (some (.p (.bool false)))
    rw [show (C.step (.inf a) q).2 = [] from rfl, puts_nil] at this
    exact this
  | pos a =>
    refine ⟨stk r, itV (.pos a), stk_cons _ _, ?_⟩
    refine ((?_))
    refine pos_q (n := n + 2) (q := q) (wk := stk r) P h (by omega) ?_
    have := k (some (.p (.str [112, 111, 115, 116, 102, 105, 120]))) (some (.p (.int (a : Int)))) (some (.p (.int 0))) (some (.p (.bool false)))
    rw [show (C.step (.pos a) q).2 = [] from rfl, puts_nil] at this
    exact this
theorem loop_q (P : Prj cx gx) (ok : C.Ok) {e1 e2 : Option SV} {R : KS} : ∀ (m : Nat) (its : List It) (q : WS) (B : Nat) (e3 e4 e5 e6 : Option SV), szL its ≤ m → (∀ it ∈ its, C.okI it) → Fits q B → B + 6 * m ≤ 50000 → m ≤ 9000 →
    (∀ e3 e4 e5 e6, Fits (C.run m its q) (B + 6 * m) → R .next [some (.r iW), e1, e2, e3, e4, e5, e6] (Gm O C (C.run m its q) [])) →
    qWh0 (fun env Γ Q => wqE (T0 gx) (Cq cx) (n + 7 + 1) (.attr (.x 0) 14) env Γ fun x Γ₁ => qTru x Γ₁ fun t => Q t Γ₁) (fun env Γ R => wqSs (T0 gx) (Cq cx) (n + 7 + 1) [] txBody env Γ R) (m + 1) [some (.r iW), e1, e2, e3, e4, e5, e6] (Gm O C q (stk its)) R
  | m, [], q, B, e3, e4, e5, e6, hm, hi, f, hB, h9, k => by
    have e : C.run m [] q = q := by cases m <;> rfl
    rw [e] at k
    exact (k e3 e4 e5 e6 (f.up (by omega)))
  | 0, it :: r, q, B, e3, e4, e5, e6, hm, hi, f, hB, h9, k => by
    have := szL_len (it :: r)
    rw [List.length_cons] at this
    omega
  | m + 1, it :: r, q, B, e3, e4, e5, e6, hm, hi, f, hB, h9, k => by
    have hs := step_sz (C := C) it q
    have hr : szL ((C.step it q).2 ++ r) ≤ m := by rw [szL_app]; have : szI it + szL r ≤ m + 1 := hm; omega
    have f' := f.step ok (hi it (List.mem_cons_self ..))
    have lr : r.length ≤ 9000 := by have := szL_len (it :: r); rw [List.length_cons] at this; omega
    refine if_t (b := !(stk (it :: r)).isEmpty) (by rw [stk_cons]; simp) ?_
    refine turn_q P ok (hi it (List.mem_cons_self ..)) (by have := f.len; exact lim_le' (by omega)) lr fun e3 e4 e5 e6 => ?_
    refine loop_q P ok m _ _ (B + 6) e3 e4 e5 e6 hr (fun x hx => ?_) f' (by omega) (by omega) fun e3 e4 e5 e6 ff => ?_
    · rcases List.mem_append.mp hx with hx | hx
      · exact ok_step (hi it (List.mem_cons_self ..)) x hx
      · exact hi x (List.mem_cons_of_mem _ hx)
    · exact k e3 e4 e5 e6 (ff.up (by omega))
where lim_le' {k : Nat} (h : k ≤ 100000) : k ≤ lim := Nat.le_trans h (by decide)
end
end Mine.G

set_option maxHeartbeats 4000000
namespace Mine.G
open Mine Mine.PJ
section
variable {cx : Cx} {gx : List V} {n : Nat} {K : KE} {O : Oth} {C : Cf}
theorem flat_len : ∀ {T : List (List Nat)}, (∀ s ∈ T, s.length ≤ 100) → T.flatten.length ≤ 100 * T.length
  | [], _ => Nat.le_refl _
  | s :: T, h => by
    have := flat_len (T := T) fun x hx => h x (List.mem_cons_of_mem _ hx)
    have := h s (List.mem_cons_self ..)
    rw [List.flatten_cons, List.length_append, List.length_cons]; omega
noncomputable def Cf.out (C : Cf) (t : Tm) (most : Int) : WS := C.run (szT t) [.t t most (decide (1201 ≤ most))] ([], none, false)
noncomputable def unS (vs : List V) : List Nat := match catS vs with
  | some t => t
  | none => []
noncomputable def Cf.text (C : Cf) (t : Tm) (most : Int) : List Nat := unS (C.out t most).1
theorem wtext_q (P : Prj cx gx) (ok : C.Ok) {t : Tm} {most : Int} {l : List Nat} {b : Bool} (h : C.ok t) (hs : szT t ≤ 1000) (k : K (.p (.str (C.text t most))) (Gm O C (C.out t most) [])) :
    Cq cx (n + 7 + 1 + 1) 357 [.r iW, .p (tv t), .p (.int most)] (Gp O C l b) K := by
  refine dq P [] P.d_Writer_text rfl ?_
  refine ⟨szT t + 1, ?_⟩
  rw [qWh_eq]
  refine loop_q (R := _) P ok (szT t) [.t t most (decide (1201 ≤ most))] ([], none, false) 0 none none none none (Nat.le_refl _) (fun it hi => ?_) ⟨[], rfl, Nat.le_refl _, fun _ h => by contradiction⟩ (by omega) (by omega) fun e3 e4 e5 e6 f => ?_
  · rw [List.mem_singleton] at hi; subst hi; exact h
  · obtain ⟨T, a, b, c⟩ := f
    have e : C.text t most = T.flatten := by
      unfold Cf.text unS Cf.out
      rw [a, catS_st]
    refine ⟨T.flatten, ?_, ?_, ?_⟩
    · show catS (C.run (szT t) [.t t most (decide (1201 ≤ most))] ([], none, false)).1 = _
      rw [a, catS_st]
    · have := flat_len c
      exact Nat.le_trans this (Nat.le_trans (Nat.mul_le_mul_left 100 (Nat.le_trans b (show _ ≤ 10000 by omega))) (by decide))
    · rw [e] at k
      exact k
end
end Mine.G

set_option maxHeartbeats 4000000
namespace Mine.G
open Mine Mine.PJ
noncomputable def GS0 (row L : List V) (D : List (V × V)) (L2 : List V) (D2 : List (V × V)) (rest : Gam) : Gam := .list row :: .inst 122 [(5, .r 2), (4, .r 3), (3, .r 4), (2, .r 5)] :: .list L :: .dict D :: .list L2 :: .dict D2 :: rest
noncomputable def GS (row : List V) (T : List (List Nat)) (F : List (Int × Int)) (rest : Gam) : Gam := GS0 row (stL T) (entsOf V.str T 0) (F.map prV) (entsOf prV F 0) rest
section
variable {cx : Cx} {gx : List V} {n : Nat} {K : KE} {row : List V} {T : List (List Nat)} {F : List (Int × Int)} {rest : Gam}
theorem atom_q (P : Prj cx gx) {s : List Nat} (hT : T.length ≤ 5000) (k : K (.p (.int ((addP T s).1 : Int))) (GS row (addP T s).2 F rest)) : Cq cx (n + 1) 56 [.r iSY, .p (.str s)] (GS row T F rest) K := by
  refine dq P [] P.d_Symbols_atom rfl ?_
  have kk : keysOk (.str s) (entsOf V.str T 0) := .inl ⟨s, rfl, fun e he => ents_key V.str T 0 e he⟩
  refine ⟨kk, ?_⟩
  have lk := ents_look veq_str s T 0
  unfold addP at k
  cases e : posn s T with
  | some i =>
    rw [e] at k lk
    have e1 : (lookV (entsOf V.str T 0) (.str s)).getD (.int (-1)) = .int (i : Int) := by rw [lk]; simp
    refine Eq.mpr (congrArg (fun v => wqSs (T0 gx) (Cq cx) n [] (.cons (.ite (.cmp .GtE (.x 2) (.c (.int 0))) (.cons (.ret (.x 2))
 .nil) .nil)
 (.cons (.asg 3 (.bi .len (.cons (.attr (.x 0) 5) .nil)))
 (.cons (.expr (.bm .append (.attr (.x 0) 5) (.cons (.x 1) .nil)))
 (.cons (.setsub (.attr (.x 0) 4) (.x 1) (.x 3))
 (.cons (.ret (.x 3))
 .nil))))) [some (.r iSY), some (.p (.str s)), some (.p v), none] (GS row T F rest) (doneQ K)) e1) ?_
    exact k
  | none =>
    rw [e] at k lk
    have e1 : (lookV (entsOf V.str T 0) (.str s)).getD (.int (-1)) = .int (-1) := by rw [lk]; rfl
    refine Eq.mpr (congrArg (fun v => wqSs (T0 gx) (Cq cx) n [] (.cons (.ite (.cmp .GtE (.x 2) (.c (.int 0))) (.cons (.ret (.x 2))
 .nil) .nil)
 (.cons (.asg 3 (.bi .len (.cons (.attr (.x 0) 5) .nil)))
 (.cons (.expr (.bm .append (.attr (.x 0) 5) (.cons (.x 1) .nil)))
 (.cons (.setsub (.attr (.x 0) 4) (.x 1) (.x 3))
 (.cons (.ret (.x 3))
 .nil))))) [some (.r iSY), some (.p (.str s)), some (.p v), none] (GS row T F rest) (doneQ K)) e1) ?_
    refine ⟨by rw [stL_len]; exact Nat.le_trans (Nat.succ_le_succ hT) (by decide), ?_⟩
    refine ⟨kk, by rw [ents_len]; exact Nat.le_trans (Nat.succ_le_succ hT) (by decide), ?_⟩
    replace k : K (.p (.int (T.length : Int))) (GS0 row (stL (T ++ [s])) (entsOf V.str (T ++ [s]) 0) (F.map prV) (entsOf prV F 0) rest) := k
    rw [← ents_put veq_str e, stL_app, ← stL_len T] at k
    exact k
theorem functor_q (P : Prj cx gx) {a r : Int} (hF : F.length ≤ 5000) (k : K (.p (.int ((addP F (a, r)).1 : Int))) (GS row T (addP F (a, r)).2 rest)) : Cq cx (n + 1) 70 [.r iSY, .p (.int a), .p (.int r)] (GS row T F rest) K := by
  refine dq P [] P.d_Symbols_functor rfl ?_
  have kk : keysOk (prV (a, r)) (entsOf prV F 0) := .inr (.inr ⟨[a, r], rfl, fun e he => by
    obtain ⟨b, hb⟩ := ents_key prV F 0 e he
    exact ⟨[b.1, b.2], hb⟩⟩)
  refine ⟨kk, ?_⟩
  have lk := ents_look veq_pr (a, r) F 0
  unfold addP at k
  cases e : posn (a, r) F with
  | some i =>
    rw [e] at k lk
    have e1 : (lookV (entsOf prV F 0) (prV (a, r))).getD (.int (-1)) = .int (i : Int) := by rw [lk]; simp
    refine Eq.mpr (congrArg (fun v => wqSs (T0 gx) (Cq cx) n [] (.cons (.ite (.cmp .GtE (.x 4) (.c (.int 0))) (.cons (.ret (.x 4))
 .nil) .nil)
 (.cons (.asg 5 (.bi .len (.cons (.attr (.x 0) 3) .nil)))
 (.cons (.expr (.bm .append (.attr (.x 0) 3) (.cons (.x 3) .nil)))
 (.cons (.setsub (.attr (.x 0) 2) (.x 3) (.x 5))
 (.cons (.ret (.x 5))
 .nil))))) [some (.r iSY), some (.p (.int a)), some (.p (.int r)), some (.p (prV (a, r))), some (.p v), none] (GS row T F rest) (doneQ K)) e1) ?_
    exact k
  | none =>
    rw [e] at k lk
    have e1 : (lookV (entsOf prV F 0) (prV (a, r))).getD (.int (-1)) = .int (-1) := by rw [lk]; rfl
    refine Eq.mpr (congrArg (fun v => wqSs (T0 gx) (Cq cx) n [] (.cons (.ite (.cmp .GtE (.x 4) (.c (.int 0))) (.cons (.ret (.x 4))
 .nil) .nil)
 (.cons (.asg 5 (.bi .len (.cons (.attr (.x 0) 3) .nil)))
 (.cons (.expr (.bm .append (.attr (.x 0) 3) (.cons (.x 3) .nil)))
 (.cons (.setsub (.attr (.x 0) 2) (.x 3) (.x 5))
 (.cons (.ret (.x 5))
 .nil))))) [some (.r iSY), some (.p (.int a)), some (.p (.int r)), some (.p (prV (a, r))), some (.p v), none] (GS row T F rest) (doneQ K)) e1) ?_
    refine ⟨by rw [List.length_map]; exact Nat.le_trans (Nat.succ_le_succ hF) (by decide), ?_⟩
    refine ⟨kk, by rw [ents_len]; exact Nat.le_trans (Nat.succ_le_succ hF) (by decide), ?_⟩
    replace k : K (.p (.int (F.length : Int))) (GS0 row (stL T) (entsOf V.str T 0) ((F ++ [(a, r)]).map prV) (entsOf prV (F ++ [(a, r)]) 0) rest) := k
    rw [← ents_put veq_pr e, List.map_append, ← List.length_map (f := prV) (as := F)] at k
    exact k
theorem func_q (P : Prj cx gx) {s : List Nat} {r : Int} (hT : T.length ≤ 5000) (hF : F.length ≤ 5000) (k : K (.p (.int ((funcP (T, F) s r).1 : Int))) (GS row (funcP (T, F) s r).2.1 (funcP (T, F) s r).2.2 rest)) :
    Cq cx (n + 1 + 1) 77 [.r iSY, .p (.str s), .p (.int r)] (GS row T F rest) K := by
  refine dq P [] P.d_Symbols_func rfl ?_
  refine atom_q P hT ?_
  exact functor_q P hF k
theorem fixedA_q (P : Prj cx gx) {Γ : Gam} (k : K (.p (.tup (stL atoms0))) Γ) : Cq cx (n + 1) 28 [] Γ K := dq P [] P.d_fixed_atoms rfl k
theorem fixedF_q (P : Prj cx gx) {Γ : Gam} (k : K (.p (.tup (rows0.map rowV))) Γ) : Cq cx (n + 1) 35 [] Γ K := dq P [] P.d_fixed_functors rfl k
theorem atoms_loop (P : Prj cx gx) {R : KS} {e2 : Option SV} : ∀ (l : List (List Nat)) (T : List (List Nat)) (e1 : Option SV), T.length + l.length ≤ 5000 →
    (∀ e1, R .next [some (.r iSY), e1, e2] (GS row (l.foldl (fun T s => (addP T s).2) T) F rest)) →
    qFor0 (fun env Γ R => wqSs (T0 gx) (Cq cx) (n + 1) [] (.cons (.expr (.meth (.x 0) 1 (.cons (.x 1) .nil))) .nil) env Γ R) (fun env x => setE env 1 (.p x)) (stL l) [some (.r iSY), e1, e2] (GS row T F rest) R
  | [], T, e1, _, k => k e1
  | s :: l, T, e1, h, k => by
    refine atom_q P (by rw [List.length_cons] at h; omega) ?_
    have := addP_len T s
    exact atoms_loop P l (addP T s).2 (some (.p (.str s))) (by rw [List.length_cons] at h; omega) k
theorem rows_loop (P : Prj cx gx) {R : KS} {e1 : Option SV} : ∀ (l : List (List Nat × Int)) (t : Tab) (e2 : Option SV), t.1.length + l.length ≤ 5000 → t.2.length + l.length ≤ 5000 →
    (∀ e2, R .next [some (.r iSY), e1, e2] (GS row (l.foldl (fun t r => (funcP t r.1 r.2).2) t).1 (l.foldl (fun t r => (funcP t r.1 r.2).2) t).2 rest)) →
    qFor0 (fun env Γ R => wqSs (T0 gx) (Cq cx) (n + 1 + 1) [] (.cons (.expr (.meth (.x 0) 0 (.cons (.sub (.x 2) (.c (.int 0))) (.cons (.sub (.x 2) (.c (.int 1))) .nil)))) .nil) env Γ R) (fun env x => setE env 2 (.p x)) (l.map rowV) [some (.r iSY), e1, e2] (GS row t.1 t.2 rest) R
  | [], t, e2, _, _, k => k e2
  | s :: l, t, e2, h, h', k => by
    refine func_q P (by rw [List.length_cons] at h; omega) (by rw [List.length_cons] at h'; omega) ?_
    have a1 := addP_len t.1 s.1
    have a2 := addP_len t.2 (((addP t.1 s.1).1 : Int), s.2)
    refine rows_loop P l (funcP t s.1 s.2).2 (some (.p (rowV s))) ?_ ?_ k
    · show (addP t.1 s.1).2.length + l.length ≤ 5000
      rw [List.length_cons] at h; omega
    · show (addP t.2 (((addP t.1 s.1).1 : Int), s.2)).2.length + l.length ≤ 5000
      rw [List.length_cons] at h'; omega
theorem syInit_q (P : Prj cx gx) (k : K (.p .none) (GS row atoms0 F0 [])) : Cq cx (n + 1 + 1 + 1) 49 [.r iSY] [.list row, .inst 122 []] K := by
  refine dq P [] P.d_Symbols___init__ rfl ?_
  refine fixedA_q P ?_
  refine Eq.mpr qFor_eq ?_
  refine atoms_loop (row := row) (F := []) (rest := []) P atoms0 [] none (by decide) fun e1 => ?_
  rw [fold_atoms]
  refine fixedF_q P ?_
  refine Eq.mpr qFor_eq ?_
  refine rows_loop (row := row) (rest := []) P rows0 (atoms0, []) none (by decide) (by decide) fun e2 => ?_
  rw [fold_rows]
  exact k
end
end Mine.G

set_option maxHeartbeats 4000000
namespace Mine.G
open Mine Mine.PJ
section
variable {cx : Cx} {gx : List V} {n : Nat} {K : KE} {row : List V} {T : List (List Nat)} {F : List (Int × Int)} {rest : Gam} {A N S : OT} {cd : List (V × V)}
noncomputable abbrev iT3 : Nat := 7
noncomputable def GT (row : List V) (T : List (List Nat)) (F : List (Int × Int)) (cd A N S : List (V × V)) (rest : Gam) : Gam :=
  GS row T F (.dict cd :: .inst 287 [(11, .r iSY), (10, .r 8), (9, .r 9), (8, .r 10)] :: .dict A :: .dict N :: .dict S :: rest)
theorem fixity_q (P : Prj cx gx) {Γ : Gam} {s : List Nat} (hs : s ∈ types) (k : K (.p (kindV (kindOf s))) Γ) : Cq cx (n + 1) 213 [.p (.str s)] Γ K := by
  refine dq P [] P.d_fixity rfl ?_
  simp only [types, List.mem_cons, List.not_mem_nil, or_false] at hs
  rcases hs with rfl | rfl | rfl | rfl | rfl | rfl | rfl
  · exact (k)
  · exact k
  · exact (k)
  · exact (k)
  · exact k
  · exact ((k))
  · exact ((k))
noncomputable def kIx : Nat → Nat
  | 0 => 8
  | 1 => 9
  | _ => 10
theorem tableOf_q (P : Prj cx gx) {A N S : List (V × V)} {s : List Nat} (hs : s ∈ types) (k : K (.r (kIx (kindOf s))) (GT row T F cd A N S rest)) : Cq cx (n + 1 + 1) 270 [.r iT3, .p (.str s)] (GT row T F cd A N S rest) K := by
  refine dq P [] P.d_OperatorTable_table_of rfl ?_
  refine fixity_q P hs ?_
  rcases kind3 s with e | e | e <;> rw [e] at k ⊢
  · exact k
  · exact (k)
  · exact (k)
noncomputable def put3 (s : List Nat) (a p : Int) (t : OT × OT × OT) : OT × OT × OT := match kindOf s with
  | 0 => (otPut t.1 a (p, s), t.2)
  | 1 => (t.1, otPut t.2.1 a (p, s), t.2.2)
  | _ => (t.1, t.2.1, otPut t.2.2 a (p, s))
noncomputable abbrev GU (row : List V) (T : List (List Nat)) (F : List (Int × Int)) (cd : List (V × V)) (t : OT × OT × OT) (rest : Gam) : Gam := GT row T F cd (otE t.1) (otE t.2.1) (otE t.2.2) rest
theorem kO (T : OT) (a : Int) : keysOk (.int a) (otE T) := .inr (.inl ⟨a, rfl, otE_key T⟩)
theorem add_q (P : Prj cx gx) {t : OT × OT × OT} {a p : Int} {s : List Nat} (hs : s ∈ types) (hp : 0 < p) (l1 : t.1.length ≤ 5000) (l2 : t.2.1.length ≤ 5000) (l3 : t.2.2.length ≤ 5000) (k : K (.p .none) (GU row T F cd (put3 s a p t) rest)) :
    Cq cx (n + 1 + 1 + 1) 277 [.r iT3, .p (.int p), .p (.str s), .p (.int a)] (GU row T F cd t rest) K := by
  obtain ⟨A, N, S⟩ := t
  refine dq P [] P.d_OperatorTable_add rfl ?_
  refine tableOf_q P hs ?_
  unfold put3 at k
  have le : ∀ {T : OT}, T.length ≤ 5000 → (otE T).length + 1 ≤ lim := fun h => by rw [otE_len]; exact Nat.le_trans (Nat.succ_le_succ h) (by decide)
  rcases kind3 s with e | e | e <;> rw [e] at k ⊢
  · refine if_t (decide_eq_true hp) ⟨kO A a, le l1, ?_⟩
    replace k : K (.p .none) (GT row T F cd (otE (otPut A a (p, s))) (otE N) (otE S) rest) := k
    rw [← otE_put] at k
    exact k
  · refine if_t (decide_eq_true hp) ⟨kO N a, le l2, ?_⟩
    replace k : K (.p .none) (GT row T F cd (otE A) (otE (otPut N a (p, s))) (otE S) rest) := k
    rw [← otE_put] at k
    exact k
  · refine if_t (decide_eq_true hp) ⟨kO S a, le l3, ?_⟩
    replace k : K (.p .none) (GT row T F cd (otE A) (otE N) (otE (otPut S a (p, s))) rest) := k
    rw [← otE_put] at k
    exact k
theorem tbInit_q (P : Prj cx gx) (k : K (.p .none) (GU row T F cd ([], [(7, (1000, [120, 102, 121]))], []) [])) : Cq cx (n + 1 + 1 + 1 + 1) 235 [.r iT3, .r iSY, .p (.bool false)] (GS row T F [.dict cd, .inst 287 []]) K := by
  refine dq P [] P.d_OperatorTable___init__ rfl ?_
  refine add_q (row := row) (T := T) (F := F) (t := ([], [], [])) (rest := []) P (by decide) (by decide) (by decide) (by decide) (by decide) ?_
  exact k
theorem next_q (P : Prj cx gx) {l : List Int} {m : Int} (hm : 0 < m) (hm2 : m < 2 ^ 63) (k : ∀ (v : Int) (l' : List Int), 0 ≤ v → v < m → K (.p (.int v)) (.list (l'.map V.int) :: rest)) : Cq cx (n + 1) 490 [.r 0, .p (.int m)] (.list (l.map V.int) :: rest) K := by
  refine dq P [] P.d__law_next rfl ?_
  rcases List.eq_nil_or_concat l with rfl | ⟨l', x, rfl⟩
  · exact (k 0 [] (Int.le_refl _) hm)
  · refine if_t (decide_eq_true ?_) ?_
    · simp only [List.length_map, List.concat_eq_append, List.length_append, List.length_singleton]; omega
    · refine ⟨l'.map V.int, .int x, by rw [List.concat_eq_append, List.map_append]; rfl, ?_⟩
      exact ⟨hm, hm2, k _ l' (Int.emod_nonneg _ (by omega)) (Int.emod_lt_of_pos _ hm)⟩
end
end Mine.G

namespace Mine.G
open Mine Mine.PJ
section
variable {cx : Cx}
noncomputable abbrev rowIn : PSs := (.cons (.expr (.bm .append (.x 1) (.cons (.bin .Mod (.x 3) (.c (.int 96))) .nil)))
 (.cons (.asg 3 (.bin .FloorDiv (.x 3) (.c (.int 96))))
 (.cons (.ite (.bop false (.cons (.cmp .Eq (.x 3) (.c (.int 0))) (.cons (.cmp .Eq (.x 3) (.neg (.c (.int 1)))) .nil))) (.cons .brk
 .nil) .nil)
 .nil)))

theorem eq_if {a b : Int} {H : AH} {P : Bool → Prop} (h1 : a = b → P true) (h2 : a ≠ b → P false) : cmpW .Eq (.int a) (.int b) H P := by
  show P (decide (a = b))
  by_cases e : a = b
  · rw [decide_eq_true e]; exact h1 e
  · rw [decide_eq_false e]; exact h2 e
theorem row_in {n : Nat} {sa cell : Option V} {r : Addr} {R : FL → Rho → AH → Prop} : ∀ (xs : List V) (t : Option V) (rest : Int) (l : List Int) (H : AH), H r = some (.list (l.map .int)) → l.length + xs.length ≤ 90 →
    (∀ (t : Option V) (rest : Int) (l' : List Int), l'.length ≤ 90 → R .next [sa, some (.ref r), cell, some (.int rest), t] (H.set r (.list (l'.map .int)))) →
    forC (blk cx n rowIn) (st1 4) (fun _ => True) xs [sa, some (.ref r), cell, some (.int rest), t] H R
  | [], t, rest, l, H, hr, hl, k => by
    refine ⟨trivial, ?_⟩
    have := k t rest l (by simpa using hl)
    rwa [AH.set_eq hr] at this
  | x :: xs, t, rest, l, H, hr, hl, k => by
    refine ⟨trivial, ?_⟩
    have hlen : (l ++ [rest % 96]).length + xs.length ≤ 90 := by simp at hl ⊢; omega
    have e : l.map V.int ++ [.int (rest % 96)] = (l ++ [rest % 96]).map .int := by simp
    show wpSs cx n rowIn [sa, some (.ref r), cell, some (.int rest), some x] H _
    dsimp only [rowIn, Ss_cons, S_expr, S_asg, S_ite, seqK_next, E_bm, E_bin, E_x, E_c, Es_cons, Es_nil, E_bop, B_one, B_more, E_cmp, E_neg]
    refine ⟨.ref r, rfl, ⟨r, _, rfl, hr⟩, .int rest, rfl, by decide, by decide, _, hr, ?_, ?_⟩
    · rw [List.length_map]; exact Nat.le_trans (Nat.succ_le_succ (Nat.le_trans (Nat.le_add_right _ _) hl)) (by decide)
    rw [e]
    refine ⟨.int rest, rfl, by decide, by decide, .int (rest / 96), rfl, ?_⟩
    have hr' : (H.set r (.list ((l ++ [rest % 96]).map .int))) r = some (.list ((l ++ [rest % 96]).map .int)) := AH.set_same ..
    have stop : R .next [sa, some (.ref r), cell, some (.int (rest / 96)), some x] (H.set r (.list ((l ++ [rest % 96]).map .int))) := k _ _ _ (by omega)
    have go := row_in (n := n) (sa := sa) (cell := cell) (R := R) xs (some x) (rest / 96) (l ++ [rest % 96]) _ hr' hlen fun t rest l' hl' => by
      rw [AH.set_set]; exact k t rest l' hl'
    refine eq_if (a := rest / 96) (b := 0) (fun h0 => ?_) fun h0 => ?_
    · exact stop
    · refine ⟨.int (rest / 96), rfl, 1, rfl, ?_⟩
      refine eq_if (a := rest / 96) (b := -1) (fun h1 => ?_) fun h1 => ?_
      · exact stop
      · exact go

noncomputable abbrev rowMid : PSs := (.cons (.asg 3 (.bi .int (.cons (.x 2) .nil)))
 (.cons (.for1 4 (.range (.bi .min (.cons (.c (.int 30)) (.cons (.bin .Sub (.c (.int 90)) (.bi .len (.cons (.x 1) .nil))) .nil)))) rowIn)
 .nil))
theorem row_mid {n : Nat} {sa : Option V} {r c : Addr} {all : List V} {R : FL → Rho → AH → Prop} (hcr : c ≠ r) : ∀ (ys : List Int) (cell rest t : Option V) (l : List Int) (H : AH), H r = some (.list (l.map .int)) → H c = some (.list all) → l.length ≤ 90 →
    (∀ (cell rest t : Option V) (l' : List Int), l'.length ≤ 90 → R .next [sa, some (.ref r), cell, rest, t] (H.set r (.list (l'.map .int)))) →
    forC (blk cx n rowMid) (st1 2) (fun H' => H' c = some (.list all)) (ys.map .int) [sa, some (.ref r), cell, rest, t] H R
  | [], cell, rest, t, l, H, hr, hc, hl, k => by
    refine ⟨hc, ?_⟩
    have := k cell rest t l hl
    rwa [AH.set_eq hr] at this
  | y :: ys, cell, rest, t, l, H, hr, hc, hl, k => by
    refine ⟨hc, ?_⟩
    show wpSs cx n rowMid [sa, some (.ref r), some (.int y), rest, t] H _
    refine ⟨.int y, rfl, .ref r, rfl, _, hr, ?_, ?_⟩
    · show Int.natAbs (if (90 : Int) - ((l.map V.int).length : Int) < 30 then _ else _) < _; rw [List.length_map]; split <;> omega
    refine row_in _ _ _ l H hr ?_ ?_
    · simp only [List.length_map, List.length_range]
      split <;> omega
    intro t' rest' l' hl'
    refine row_mid hcr ys _ _ _ l' _ (AH.set_same ..) (by rw [AH.set_ne _ _ hcr]; exact hc) hl' fun cell rest t l'' hl'' => ?_
    rw [AH.set_set]; exact k _ _ _ l'' hl''

theorem cut_map {α β : Type} (f : α → β) (l : List α) (a b : Option Int) : cut (l.map f) a b = (cut l a b).map f := by
  unfold cut; simp [List.map_take, List.map_drop]

theorem row_spec {n : Nat} {sa : Addr} {ys : List Int} {vs : List Value} {Q : V → AH → Prop} {H : AH} (ok : CxOk cx) (D : D__law_row cx) (hs : cx.g0.IsList sa vs.toArray) (hv : Reps cx.g0 (ys.map .int) vs) (hl : ys.length ≤ lim)
    (k : ∀ (r : Addr) (l : List Int) (H' : AH), Keep H H' → H r = none → H' r = some (.list (l.map .int)) → Q (.ref r) H') : CallOk cx (n + 1) 483 [.ref sa] H Q := by
  refine callOk_def ok D (Nat.le_refl _) (Nat.le_refl _) ?_
  show wpSs _ n b__law_row [some (.ref sa), none, none, none, none] H _
  refine ⟨Nat.zero_le _, fun r hr => ⟨.ref sa, rfl, none, some 40, rfl, rfl, ys.map .int, .inr ⟨vs, hs, hv, by rw [List.length_map]; exact hl⟩, fun c hc => ?_⟩⟩
  have hrc : r ≠ c := fun z => by subst z; rw [AH.set_same] at hc; cases hc
  have hc0 : H c = none := by rw [AH.set_ne _ _ hrc.symm] at hc; exact hc
  refine ⟨_, AH.set_same .., ?_⟩
  rw [cut_map]
  refine row_mid (sa := some (.ref sa)) (r := r) hrc.symm _ none none none [] _ (by rw [AH.set_ne _ _ hrc, AH.set_same]; rfl) (AH.set_same ..) (by simp) fun cell rest t l' hl' => ?_
  refine ⟨.ref r, rfl, ⟨r, _, rfl, AH.set_same ..⟩, _, AH.set_same .., .ref r, rfl, ?_⟩
  rw [AH.set_set, ← List.map_reverse]
  refine k r l'.reverse _ (fun b o e => ?_) hr (AH.set_same ..)
  rw [AH.set_ne _ _ (ne_of_none e hr), AH.set_ne _ _ (ne_of_none e hc0), AH.set_ne _ _ (ne_of_none e hr)]
  exact e

end
end Mine.G

namespace Mine.L3
open Mine Mine.PJ
noncomputable def n__law_sown : List Str := ["row", "names", "words", "deep", "way", "first", "other"]
noncomputable def b__law_sown : PSs := (.cons (.asg 4 (.bin .Mod (.bin .Add (.call 34 (.cons (.x 0) (.cons (.c (.int 9)) .nil))) (.ite (.cmp .Gt (.x 3) (.c (.int 0))) (.c (.int 6)) (.c (.int 0)))) (.c (.int 9))))
 (.cons (.ite (.bop true (.cons (.cmp .Lt (.x 3) (.c (.int 3))) (.cons (.cmp .Lt (.x 4) (.c (.int 6))) .nil))) (.cons (.asg 5 (.call 35 (.cons (.x 0) (.cons (.x 1) (.cons (.x 2) (.cons (.bin .Add (.x 3) (.c (.int 1))) .nil))))))
 (.cons (.ite (.cmp .Eq (.x 4) (.c (.int 5))) (.cons (.ret (.tuple (.cons (.c (.str [115])) (.cons (.g 24) (.cons (.tuple (.cons (.x 5) .nil)) .nil)))))
 .nil) .nil)
 (.cons (.ite (.bop false (.cons (.cmp .Eq (.x 4) (.c (.int 2))) (.cons (.cmp .Eq (.x 4) (.c (.int 3))) .nil))) (.cons (.ret (.tuple (.cons (.c (.str [115])) (.cons (.meth (.x 1) 0 (.cons (.sub (.x 2) (.call 34 (.cons (.x 0) (.cons (.c (.int 5)) .nil)))) (.cons (.c (.int 1)) .nil))) (.cons (.tuple (.cons (.x 5) .nil)) .nil)))))
 .nil) .nil)
 (.cons (.asg 6 (.call 35 (.cons (.x 0) (.cons (.x 1) (.cons (.x 2) (.cons (.bin .Add (.x 3) (.c (.int 1))) .nil))))))
 (.cons (.ite (.cmp .Eq (.x 4) (.c (.int 4))) (.cons (.ret (.tuple (.cons (.c (.str [115])) (.cons (.g 2) (.cons (.tuple (.cons (.x 5) (.cons (.ite (.cmp .Eq (.call 34 (.cons (.x 0) (.cons (.c (.int 2)) .nil))) (.c (.int 0))) (.x 6) (.tuple (.cons (.c (.str [97])) (.cons (.g 27) .nil)))) .nil))) .nil)))))
 .nil) .nil)
 (.cons (.ret (.tuple (.cons (.c (.str [115])) (.cons (.meth (.x 1) 0 (.cons (.sub (.bin .Add (.x 2) (.list (.cons (.c (.str [44])) .nil))) (.call 34 (.cons (.x 0) (.cons (.c (.int 6)) .nil)))) (.cons (.c (.int 2)) .nil))) (.cons (.tuple (.cons (.x 5) (.cons (.x 6) .nil))) .nil)))))
 .nil)))))) .nil)
 (.cons (.ite (.cmp .Eq (.x 4) (.c (.int 8))) (.cons (.ret (.tuple (.cons (.c (.str [105])) (.cons (.bin .Sub (.call 34 (.cons (.x 0) (.cons (.c (.int 96)) .nil))) (.c (.int 40))) .nil))))
 .nil) .nil)
 (.cons (.ite (.cmp .Eq (.x 4) (.c (.int 7))) (.cons (.ret (.tuple (.cons (.c (.str [97])) (.cons (.meth (.x 1) 1 (.cons (.sub (.bin .Add (.x 2) (.list (.cons (.c (.str [98])) (.cons (.c (.str [36, 86, 65, 82])) .nil)))) (.call 34 (.cons (.x 0) (.cons (.c (.int 7)) .nil)))) .nil)) .nil))))
 .nil) .nil)
 (.cons (.ret (.tuple (.cons (.c (.str [118])) (.cons (.call 34 (.cons (.x 0) (.cons (.c (.int 3)) .nil))) .nil))))
 .nil)))))
noncomputable def n__law_marked : List Str := ["term", "numbers"]
noncomputable def b__law_marked : PSs := (.cons (.ite (.bop true (.cons (.cmp .Eq (.sub (.x 0) (.c (.int 0))) (.c (.str [118]))) (.cons (.cmp .Lt (.sub (.x 0) (.c (.int 1))) (.bi .len (.cons (.x 1) .nil))) .nil))) (.cons (.ret (.tuple (.cons (.c (.str [115])) (.cons (.g 25) (.cons (.tuple (.cons (.tuple (.cons (.c (.str [105])) (.cons (.sub (.x 1) (.sub (.x 0) (.c (.int 1)))) .nil))) .nil)) .nil)))))
 .nil) .nil)
 (.cons (.ite (.cmp .NotEq (.sub (.x 0) (.c (.int 0))) (.c (.str [115]))) (.cons (.ret (.x 0))
 .nil) .nil)
 (.cons (.ret (.tuple (.cons (.c (.str [115])) (.cons (.sub (.x 0) (.c (.int 1))) (.cons (.comp 36 1 (.sub (.x 0) (.c (.int 2)))) .nil)))))
 .nil)))
noncomputable def n_law : List Str := ["script", "row", "names", "numbers", "called", "k", "whole", "quoting", "ignoring", "most", "words", "table", "turn", "kind", "height", "term", "scribe", "other", "unmarked", "part", "one"]
noncomputable def b_law : PSs := (.cons (.asg 1 (.call 40 (.cons (.x 0) .nil)))
 (.cons (.asg 2 (.new 39 .nil))
 (.cons (.asg 3 (.list .nil))
 (.cons (.asg 4 .dict)
 (.cons (.for1 5 (.range (.bin .Add (.c (.int 1)) (.call 34 (.cons (.x 1) (.cons (.c (.int 3)) .nil))))) (.cons (.asg 6 (.call 34 (.cons (.x 1) (.cons (.c (.int 90)) .nil))))
 (.cons (.ite (.cmp .Eq (.call 34 (.cons (.x 1) (.cons (.c (.int 4)) .nil))) (.c (.int 3))) (.cons (.asg 6 (.bin .Add (.x 6) (.bin .Mult (.c (.int 26)) (.bin .Pow (.c (.int 10)) (.c (.int 20))))))
 .nil) .nil)
 (.cons (.expr (.bm .append (.x 3) (.cons (.x 6) .nil)))
 (.cons (.setsub (.x 4) (.x 5) (.bin .Add (.sub (.c (.str [65, 66, 67, 68, 69, 70, 71, 72, 73, 74, 75, 76, 77, 78, 79, 80, 81, 82, 83, 84, 85, 86, 87, 88, 89, 90])) (.bin .Mod (.x 6) (.c (.int 26)))) (.ite (.cmp .Gt (.x 6) (.c (.int 25))) (.bi .str (.cons (.bin .FloorDiv (.x 6) (.c (.int 26))) .nil)) (.c (.str [])))))
 .nil)))))
 (.cons (.asg 7 (.cmp .Eq (.call 34 (.cons (.x 1) (.cons (.c (.int 2)) .nil))) (.c (.int 0))))
 (.cons (.asg 8 (.cmp .Eq (.call 34 (.cons (.x 1) (.cons (.c (.int 4)) .nil))) (.c (.int 3))))
 (.cons (.asg 9 (.sub (.list (.cons (.c (.int 1201)) (.cons (.c (.int 999)) (.cons (.c (.int 1200)) (.cons (.c (.int 500)) (.cons (.c (.int 0)) .nil)))))) (.call 34 (.cons (.x 1) (.cons (.c (.int 5)) .nil)))))
 (.cons (.asg 10 (.list (.cons (.c (.str [45])) (.cons (.c (.str [102, 111, 111])) (.cons (.c (.str [94])) (.cons (.c (.str [109, 121, 32, 111, 112])) (.cons (.c (.str [126])) .nil)))))))
 (.cons (.asg 11 (.new 38 (.cons (.x 2) (.cons (.c (.bool false)) .nil))))
 (.cons (.for1 12 (.range (.bin .Add (.c (.int 3)) (.call 34 (.cons (.x 1) (.cons (.c (.int 5)) .nil))))) (.cons (.asg 13 (.sub (.list (.cons (.c (.str [121, 102, 120])) (.cons (.c (.str [102, 121])) (.cons (.c (.str [120, 102, 121])) (.cons (.c (.str [120, 102, 120])) (.cons (.c (.str [102, 120])) (.cons (.c (.str [120, 102])) (.cons (.c (.str [121, 102])) .nil)))))))) (.call 34 (.cons (.x 1) (.cons (.c (.int 7)) .nil)))))
 (.cons (.asg 14 (.sub (.list (.cons (.c (.int 500)) (.cons (.c (.int 200)) (.cons (.c (.int 1000)) (.cons (.c (.int 1200)) (.cons (.c (.int 1)) .nil)))))) (.call 34 (.cons (.x 1) (.cons (.c (.int 5)) .nil)))))
 (.cons (.expr (.meth (.x 11) 7 (.cons (.x 14) (.cons (.x 13) (.cons (.meth (.x 2) 1 (.cons (.sub (.bin .Add (.x 10) (.list (.cons (.c (.str [36, 86, 65, 82])) .nil))) (.bin .Mod (.bin .Add (.x 12) (.call 34 (.cons (.x 1) (.cons (.c (.int 6)) .nil)))) (.c (.int 6)))) .nil)) .nil)))))
 .nil))))
 (.cons (.asg 15 (.call 35 (.cons (.x 1) (.cons (.x 2) (.cons (.x 10) (.cons (.c (.int 0)) .nil))))))
 (.cons (.asg 16 (.new 37 (.cons (.x 2) (.cons (.x 11) (.cons (.x 7) (.cons (.x 8) (.cons (.c (.bool true)) .nil)))))))
 (.cons (.asg 17 (.new 37 (.cons (.x 2) (.cons (.x 11) (.cons (.x 7) (.cons (.x 8) (.cons (.cmp .Eq (.call 34 (.cons (.x 1) (.cons (.c (.int 2)) .nil))) (.c (.int 1))) (.cons (.x 4) .nil))))))))
 (.cons (.ite (.cmp .NotEq (.meth (.x 16) 13 (.cons (.call 36 (.cons (.x 15) (.cons (.x 3) .nil))) (.cons (.x 9) .nil))) (.meth (.x 17) 13 (.cons (.x 15) (.cons (.x 9) .nil)))) (.cons (.ret (.c (.bool false)))
 .nil) .nil)
 (.cons (.asg 18 (.new 37 (.cons (.x 2) (.cons (.x 11) (.cons (.x 7) (.cons (.x 8) (.cons (.c (.bool false)) .nil)))))))
 (.cons (.for1 6 (.val (.x 3)) (.cons (.for1 19 (.val (.list (.cons (.tuple (.cons (.c (.str [105])) (.cons (.x 6) .nil))) (.cons (.tuple (.cons (.c (.str [105])) (.cons (.bin .Sub (.neg (.c (.int 1))) (.x 6)) .nil))) (.cons (.tuple (.cons (.c (.str [97])) (.cons (.g 27) .nil))) (.cons (.tuple (.cons (.c (.str [118])) (.cons (.c (.int 0)) .nil))) (.cons (.tuple (.cons (.c (.str [115])) (.cons (.g 25) (.cons (.tuple (.cons (.tuple (.cons (.c (.str [105])) (.cons (.x 6) .nil))) .nil)) .nil)))) .nil))))))) (.cons (.asg 20 (.tuple (.cons (.c (.str [115])) (.cons (.g 25) (.cons (.tuple (.cons (.x 19) .nil)) .nil)))))
 (.cons (.ite (.bop false (.cons (.cmp .NotEq (.meth (.x 16) 33 (.cons (.x 20) .nil)) (.cmp .Eq (.x 19) (.tuple (.cons (.c (.str [105])) (.cons (.x 6) .nil))))) (.cons (.meth (.x 18) 33 (.cons (.x 20) .nil)) .nil))) (.cons (.ret (.c (.bool false)))
 .nil) .nil)
 .nil)))
 .nil))
 (.cons (.ret (.not (.meth (.x 16) 33 (.cons (.tuple (.cons (.c (.str [115])) (.cons (.g 24) (.cons (.tuple (.cons (.tuple (.cons (.c (.str [105])) (.cons (.sub (.x 3) (.c (.int 0))) .nil))) .nil)) .nil)))) .nil))))
 .nil))))))))))))))))))
noncomputable def anX : List Str := []
noncomputable def gnX : List Str := (["_law_next", "_law_sown", "_law_marked", "Writer", "OperatorTable", "Symbols", "_law_row"] : List Str)
noncomputable def glX : List V := [.ref 490, .ref 497, .ref 502, .ref 472, .ref 287, .ref 122, .ref 483]
noncomputable def cxh (h : Params → Frag) (p : Program) (w : World) (g0 : Heap) (os : OsState) : Cx := ⟨p, w, g0, os, h w.params, anP ++ anX, gnP ++ gnX, fun i => (glP ++ glX).getD i .none⟩
structure LD (cx : Cx) : Prop where
  P : Mine.G.Prj cx glX
  d__law_sown : Def cx 497 4 n__law_sown [] b__law_sown
  d__law_marked : DefC cx 502 "term" "numbers" b__law_marked
  d_law : Def cx 509 1 n_law [] b_law
  d_wi1 : Def cx 349 7 n_Writer___init__ [.none] b_Writer___init__
  d_wi0 : Def cx 349 7 n_Writer___init__ [] b_Writer___init__
structure F1 (h : Params → Frag) : Prop where
  gl : ∀ p, glChk (h p) (gnP ++ gnX) (glP ++ glX) = true
  bl : ∀ p, bltChk (h p) = true
  la : ∀ p, nsIn (h p) mainGlobals "law" = some (some (.ref 509))
  ld : ∀ p w g0 os, CxOk (cxh h p w g0 os) → LD (cxh h p w g0 os)
structure H1 where
  h : Params → Frag
  F : F1 h
noncomputable abbrev cxL (hh : H1) (p : Program) (w : World) (g0 : Heap) (os : OsState) : Cx := cxh hh.h p w g0 os
theorem ld_of {hh : H1} {p : Program} {w : World} {g0 : Heap} {os : OsState} (ok : CxOk (cxL hh p w g0 os)) : LD (cxL hh p w g0 os) := hh.F.ld _ _ _ _ ok
end Mine.L3

set_option maxHeartbeats 4000000
namespace Mine.L3
open Mine Mine.PJ Mine.G
noncomputable def ws5 : List (List Nat) := [[45], [102, 111, 111], [94], [109, 121, 32, 111, 112], [126]]
noncomputable def ws6 : List (List Nat) := ws5 ++ [[44]]
noncomputable def wsA : List (List Nat) := ws5 ++ [[98], [36, 86, 65, 82]]
noncomputable def wsF : List (List Nat) := [[45], [102, 111, 111], [94], [109, 121, 32, 111, 112], [126], [44], [46], [123, 125]]
noncomputable def wsB : List (List Nat) := [[45], [102, 111, 111], [94], [109, 121, 32, 111, 112], [126], [98], [36, 86, 65, 82], [91, 93]]
noncomputable abbrev Tb2 := List (List Nat) × List (Int × Int)
structure Ext2 (t t' : Tb2) : Prop where
  a : ∃ u, t'.1 = t.1 ++ u
  b : ∃ u, t'.2 = t.2 ++ u
theorem Ext2.refl (t : Tb2) : Ext2 t t := ⟨⟨[], (List.append_nil _).symm⟩, ⟨[], (List.append_nil _).symm⟩⟩
theorem Ext2.trans {t t' t'' : Tb2} (x : Ext2 t t') (y : Ext2 t' t'') : Ext2 t t'' := by
  obtain ⟨⟨u, a⟩, ⟨v, b⟩⟩ := x
  obtain ⟨⟨u', a'⟩, ⟨v', b'⟩⟩ := y
  exact ⟨⟨u ++ u', by rw [a', a, List.append_assoc]⟩, ⟨v ++ v', by rw [b', b, List.append_assoc]⟩⟩
theorem getD_app {α : Type} {l u : List α} {n : Nat} {d : α} (h : n < l.length) : (l ++ u).getD n d = l.getD n d := by
  rw [List.getD_eq_getElem?_getD, List.getElem?_append_left h, List.getD_eq_getElem?_getD]
noncomputable def gAt (W : List (List Nat)) (t : Tb2) (n : Nat) : Prop := n < t.1.length ∧ t.1.getD n [] ∈ W
noncomputable def gFn (W : List (List Nat)) (t : Tb2) (f r : Nat) : Prop := f < t.2.length ∧ ∃ a : Nat, t.2.getD f (0, 0) = ((a : Int), (r : Int)) ∧ gAt W t a
noncomputable def good (t : Tb2) : Tm → Prop
  | .v k => 0 ≤ k ∧ k < 3
  | .i k => k.natAbs < 10 ^ 30
  | .a n => gAt wsB t n
  | .s1 f x => gFn wsF t f 1 ∧ good t x
  | .s2 f x y => gFn wsF t f 2 ∧ good t x ∧ good t y
theorem gAt.ext {W : List (List Nat)} {t t' : Tb2} {n : Nat} (e : Ext2 t t') (h : gAt W t n) : gAt W t' n := by
  obtain ⟨u, hu⟩ := e.a
  unfold gAt at h ⊢
  rw [hu, getD_app h.1]
  exact ⟨by rw [List.length_append]; omega, h.2⟩
theorem gAt.mono {W W' : List (List Nat)} {t : Tb2} {n : Nat} (k : ∀ w ∈ W, w ∈ W') (h : gAt W t n) : gAt W' t n := ⟨h.1, k _ h.2⟩
theorem gFn.ext {W : List (List Nat)} {t t' : Tb2} {f r : Nat} (e : Ext2 t t') (h : gFn W t f r) : gFn W t' f r := by
  obtain ⟨h1, a, h2, h3⟩ := h
  obtain ⟨u, hu⟩ := e.b
  refine ⟨by rw [hu, List.length_append]; omega, a, by rw [hu, getD_app h1]; exact h2, h3.ext e⟩
theorem good.ext {t t' : Tb2} (e : Ext2 t t') : ∀ {x : Tm}, good t x → good t' x
  | .v _, h => h
  | .i _, h => h
  | .a _, h => gAt.ext e h
  | .s1 _ _, h => ⟨h.1.ext e, good.ext e h.2⟩
  | .s2 _ _ _, h => ⟨h.1.ext e, good.ext e h.2.1, good.ext e h.2.2⟩
theorem addP_ext {α : Type} [DecidableEq α] (T : List α) (s : α) (d : α) : (∃ u, (addP T s).2 = T ++ u) ∧ (addP T s).1 < (addP T s).2.length ∧ (addP T s).2.getD (addP T s).1 d = s := by
  unfold addP
  cases e : posn s T with
  | some i =>
    have g := posn_get e
    refine ⟨⟨[], (List.append_nil _).symm⟩, (List.getElem?_eq_some_iff.mp g).1, ?_⟩
    rw [List.getD_eq_getElem?_getD, g]; rfl
  | none =>
    refine ⟨⟨[s], rfl⟩, ?_, ?_⟩
    · show T.length < (T ++ [s]).length; rw [List.length_append]; exact Nat.lt_succ_self _
    · show (T ++ [s]).getD T.length d = s
      rw [List.getD_eq_getElem?_getD]; simp
theorem func_good {t : Tb2} {w : List Nat} {r : Nat} {ri : Int} (er : ri = (r : Int)) (hw : w ∈ wsF) : Ext2 t (funcP t w ri).2 ∧ gFn wsF (funcP t w ri).2 (funcP t w ri).1 r ∧ (funcP t w ri).2.1.length ≤ t.1.length + 1 ∧ (funcP t w ri).2.2.length ≤ t.2.length + 1 := by
  subst er
  obtain ⟨a1, a2, a3⟩ := addP_ext t.1 w []
  obtain ⟨b1, b2, b3⟩ := addP_ext t.2 (((addP t.1 w).1 : Int), (r : Int)) (0, 0)
  exact ⟨⟨a1, b1⟩, ⟨b2, (addP t.1 w).1, b3, a2, by show (addP t.1 w).2.getD (addP t.1 w).1 [] ∈ wsF; rw [a3]; exact hw⟩, addP_len _ _, addP_len _ _⟩
theorem base9 : gFn wsF (atoms0, F0) 9 1 := ⟨by decide, 2, by decide, by decide, by decide⟩
theorem base0 : gFn wsF (atoms0, F0) 0 2 := ⟨by decide, 1, by decide, by decide, by decide⟩
theorem baseN : gAt wsB (atoms0, F0) 0 := ⟨by decide, by decide⟩
theorem idxI {len : Nat} {v : Int} (h : 0 ≤ v) (h' : v < len) : idx len v = some v.toNat := by
  unfold idx; rw [if_pos h, if_pos h']
theorem stL_get {W : List (List Nat)} {k : Nat} (h : k < W.length) : (stL W)[k]? = some (.str (W.getD k [])) := by
  unfold stL; rw [List.getElem?_map, getD_get h]; rfl
theorem getD_mem {W : List (List Nat)} {k : Nat} (h : k < W.length) : W.getD k [] ∈ W := List.mem_of_getElem? (getD_get h)
theorem ws5_F : ∀ w ∈ ws5, w ∈ wsF := by decide
theorem ws6_F : ∀ w ∈ ws6, w ∈ wsF := by decide
theorem wsA_B : ∀ w ∈ wsA, w ∈ wsB := by decide
noncomputable def dep : Tm → Nat
  | .s1 _ x => dep x + 1
  | .s2 _ x y => (if dep x ≤ dep y then dep y else dep x) + 1
  | _ => 0
theorem dep2 {x y : Tm} {r : Nat} (hx : dep x ≤ r) (hy : dep y ≤ r) (f : Nat) : dep (.s2 f x y) ≤ r + 1 := by
  show (if dep x ≤ dep y then dep y else dep x) + 1 ≤ r + 1
  split
  · exact Nat.succ_le_succ hy
  · exact Nat.succ_le_succ hx
section
variable {cx : Cx} {n : Nat} {K : KE} {X : Gam}
noncomputable def szB : Nat → Nat
  | 0 => 1
  | r + 1 => 2 * szB r + 5
theorem szB_pos (r : Nat) : 1 ≤ szB r := by cases r <;> simp [szB]
noncomputable def GL (l : List Int) (t : Tb2) (X : Gam) : Gam := GS (l.map V.int) t.1 t.2 X
theorem nextL (D : LD cx) {l : List Int} {t : Tb2} {m : Int} (hm : 0 < m) (hm2 : m < 2 ^ 63) (k : ∀ (v : Int) (l' : List Int), 0 ≤ v → v < m → K (.p (.int v)) (GL l' t X)) : Cq cx (n + 1) 490 [.r 0, .p (.int m)] (GL l t X) K := next_q D.P hm hm2 k
noncomputable abbrev Grown (X : Gam) (r : Nat) (t : Tb2) (R : Tm → Gam → Prop) : Prop := ∀ (x : Tm) (l' : List Int) (t' : Tb2), good t' x → dep x ≤ r → szT x ≤ szB r → Ext2 t t' → t'.1.length ≤ t.1.length + szB r → t'.2.length ≤ t.2.length + szB r → R x (GL l' t' X)
noncomputable abbrev SwQ (cx : Cx) (X : Gam) (m r : Nat) (deep : Nat) : Prop := ∀ (l : List Int) (t : Tb2) {K : KE}, Ext2 (atoms0, F0) t → t.1.length + szB r ≤ 4000 → t.2.length + szB r ≤ 4000 →
  Grown X r t (fun x Γ => K (.p (tv x)) Γ) → Cq cx m 497 [.r 0, .r 1, .al (stL ws5), .p (.int (deep : Int))] (GL l t X) K
noncomputable def swLeaf : PSs := (.cons (.ite (.cmp .Eq (.x 4) (.c (.int 8))) (.cons (.ret (.tuple (.cons (.c (.str [105])) (.cons (.bin .Sub (.call 34 (.cons (.x 0) (.cons (.c (.int 96)) .nil))) (.c (.int 40))) .nil))))
 .nil) .nil)
 (.cons (.ite (.cmp .Eq (.x 4) (.c (.int 7))) (.cons (.ret (.tuple (.cons (.c (.str [97])) (.cons (.meth (.x 1) 1 (.cons (.sub (.bin .Add (.x 2) (.list (.cons (.c (.str [98])) (.cons (.c (.str [36, 86, 65, 82])) .nil)))) (.call 34 (.cons (.x 0) (.cons (.c (.int 7)) .nil)))) .nil)) .nil))))
 .nil) .nil)
 (.cons (.ret (.tuple (.cons (.c (.str [118])) (.cons (.call 34 (.cons (.x 0) (.cons (.c (.int 3)) .nil))) .nil))))
 .nil)))
theorem swLeaf_q (D : LD cx) {e3 e5 e6 : Option SV} {way : Int} {l : List Int} {t : Tb2} {r : Nat} (h1 : t.1.length + szB r ≤ 4000) (k : Grown X r t fun x Γ => K (.p (tv x)) Γ) :
    wqSs (T0 glX) (Cq cx) (n + 1) [] swLeaf [some (.r 0), some (.r 1), some (.al (stL ws5)), e3, some (.p (.int way)), e5, e6] (GL l t X) (doneQ K) := by
  have sp := szB_pos r
  refine if_of (fun e => ?_) fun e => if_of (fun e => ?_) fun e => ?_
  · refine nextL D (by decide) (by decide) fun v l' hv hv' => ?_
    exact k (.i (v - 40)) l' t (by show (v - 40).natAbs < 10 ^ 30; omega) (Nat.zero_le _) sp (Ext2.refl t) (Nat.le_add_right _ _) (Nat.le_add_right _ _)
  · refine nextL D (by decide) (by decide) fun v l' hv hv' => ?_
    have hk : v.toNat < wsA.length := by show v.toNat < 7; omega
    refine ⟨v.toNat, .str (wsA.getD v.toNat []), idxI hv (by show v < 7; exact hv'), stL_get hk, ?_⟩
    refine atom_q D.P (by omega) ?_
    obtain ⟨a1, a2, a3⟩ := addP_ext t.1 (wsA.getD v.toNat []) []
    have := addP_len t.1 (wsA.getD v.toNat [])
    refine k (.a (addP t.1 (wsA.getD v.toNat [])).1) l' ((addP t.1 (wsA.getD v.toNat [])).2, t.2) ⟨a2, ?_⟩ (Nat.zero_le _) sp ⟨a1, ⟨[], (List.append_nil _).symm⟩⟩ (by show (addP t.1 _).2.length ≤ _; omega) (Nat.le_add_right _ _)
    show (addP t.1 (wsA.getD v.toNat [])).2.getD (addP t.1 (wsA.getD v.toNat [])).1 [] ∈ wsB
    rw [a3]
    exact wsA_B _ (getD_mem hk)
  · refine nextL D (by decide) (by decide) fun v l' hv hv' => ?_
    exact k (.v v) l' t ⟨hv, hv'⟩ (Nat.zero_le _) sp (Ext2.refl t) (Nat.le_add_right _ _) (Nat.le_add_right _ _)
noncomputable def swTwo : PSs := (.cons (.asg 6 (.call 35 (.cons (.x 0) (.cons (.x 1) (.cons (.x 2) (.cons (.bin .Add (.x 3) (.c (.int 1))) .nil))))))
 (.cons (.ite (.cmp .Eq (.x 4) (.c (.int 4))) (.cons (.ret (.tuple (.cons (.c (.str [115])) (.cons (.g 2) (.cons (.tuple (.cons (.x 5) (.cons (.ite (.cmp .Eq (.call 34 (.cons (.x 0) (.cons (.c (.int 2)) .nil))) (.c (.int 0))) (.x 6) (.tuple (.cons (.c (.str [97])) (.cons (.g 27) .nil)))) .nil))) .nil)))))
 .nil) .nil)
 (.cons (.ret (.tuple (.cons (.c (.str [115])) (.cons (.meth (.x 1) 0 (.cons (.sub (.bin .Add (.x 2) (.list (.cons (.c (.str [44])) .nil))) (.call 34 (.cons (.x 0) (.cons (.c (.int 6)) .nil)))) (.cons (.c (.int 2)) .nil))) (.cons (.tuple (.cons (.x 5) (.cons (.x 6) .nil))) .nil)))))
 .nil)))
theorem swTwo_q (D : LD cx) {e6 : Option SV} {way : Int} {deep r : Nat} {l : List Int} {t t0 : Tb2} {x : Tm} (IH : SwQ cx X (n + 1 + 1) r (deep + 1)) (hb : Ext2 (atoms0, F0) t) (et : Ext2 t0 t) (gx : good t x) (dx : dep x ≤ r) (sx : szT x ≤ szB r)
    (b1 : t.1.length ≤ t0.1.length + szB r) (c1 : t.2.length ≤ t0.2.length + szB r) (h1 : t0.1.length + szB (r + 1) ≤ 4000) (h2 : t0.2.length + szB (r + 1) ≤ 4000) {R : KS} (k : ∀ env, Grown X (r + 1) t0 fun x Γ => R (.ret (.p (tv x))) env Γ) :
    wqSs (T0 glX) (Cq cx) (n + 1 + 1) [] swTwo [some (.r 0), some (.r 1), some (.al (stL ws5)), some (.p (.int (deep : Int))), some (.p (.int way)), some (.p (tv x)), e6] (GL l t X) R := by
  have eB : szB (r + 1) = 2 * szB r + 5 := rfl
  have sp := szB_pos r
  refine IH l t hb (by omega) (by omega) fun y l2 t2 gy dy sy e2 b2 c2 => ?_
  have dd := dep2 dx dy
  refine if_of (fun e => ?_) fun e => ?_
  · refine nextL D (by decide) (by decide) fun v l' hv hv' => if_of (fun e => ?_) fun e => ?_
    · exact k _ (.s2 0 x y) l' t2 ⟨base0.ext (hb.trans e2), gx.ext e2, gy⟩ (dd 0) (by show szT x + szT y + 5 ≤ _; omega) (et.trans e2) (by omega) (by omega)
    · exact k _ (.s2 0 x (.a 0)) l' t2 ⟨base0.ext (hb.trans e2), gx.ext e2, baseN.ext (hb.trans e2)⟩ (dep2 dx (Nat.zero_le _) 0) (by show szT x + 1 + 5 ≤ _; omega) (et.trans e2) (by omega) (by omega)
  · refine nextL D (by decide) (by decide) fun v l' hv hv' => ?_
    have hk : v.toNat < ws6.length := by show v.toNat < 6; omega
    refine ⟨v.toNat, .str (ws6.getD v.toNat []), idxI hv (by show v < 6; exact hv'), stL_get hk, ?_⟩
    obtain ⟨f1, f2, f3, f4⟩ := func_good (t := t2) (r := 2) (ri := 2) rfl (ws6_F _ (getD_mem hk))
    refine func_q D.P (by omega) (by omega) ?_
    exact k _ (.s2 (funcP t2 (ws6.getD v.toNat []) 2).1 x y) l' (funcP t2 (ws6.getD v.toNat []) 2).2 ⟨f2, gx.ext (e2.trans f1), gy.ext f1⟩ (dd _) (by show szT x + szT y + 5 ≤ _; omega) ((et.trans e2).trans f1) (by omega) (by omega)
noncomputable def swIn : PSs := (.cons (.asg 5 (.call 35 (.cons (.x 0) (.cons (.x 1) (.cons (.x 2) (.cons (.bin .Add (.x 3) (.c (.int 1))) .nil))))))
 (.cons (.ite (.cmp .Eq (.x 4) (.c (.int 5))) (.cons (.ret (.tuple (.cons (.c (.str [115])) (.cons (.g 24) (.cons (.tuple (.cons (.x 5) .nil)) .nil)))))
 .nil) .nil)
 (.cons (.ite (.bop false (.cons (.cmp .Eq (.x 4) (.c (.int 2))) (.cons (.cmp .Eq (.x 4) (.c (.int 3))) .nil))) (.cons (.ret (.tuple (.cons (.c (.str [115])) (.cons (.meth (.x 1) 0 (.cons (.sub (.x 2) (.call 34 (.cons (.x 0) (.cons (.c (.int 5)) .nil)))) (.cons (.c (.int 1)) .nil))) (.cons (.tuple (.cons (.x 5) .nil)) .nil)))))
 .nil) .nil)
 swTwo)))
theorem swIn_q (D : LD cx) {e5 e6 : Option SV} {way : Int} {deep r : Nat} {l : List Int} {t : Tb2} (IH : SwQ cx X (n + 1 + 1) r (deep + 1)) (hb : Ext2 (atoms0, F0) t) (h1 : t.1.length + szB (r + 1) ≤ 4000) (h2 : t.2.length + szB (r + 1) ≤ 4000) {R : KS} (k : ∀ env, Grown X (r + 1) t fun x Γ => R (.ret (.p (tv x))) env Γ) :
    wqSs (T0 glX) (Cq cx) (n + 1 + 1) [] swIn [some (.r 0), some (.r 1), some (.al (stL ws5)), some (.p (.int (deep : Int))), some (.p (.int way)), e5, e6] (GL l t X) R := by
  have eB : szB (r + 1) = 2 * szB r + 5 := rfl
  refine IH l t hb (by omega) (by omega) fun x l1 t1 gx dx sx e1 b1 c1 => ?_
  have d1 : ∀ f, dep (.s1 f x) ≤ r + 1 := fun _ => Nat.succ_le_succ dx
  have one : ∀ l1, wqSs (T0 glX) (Cq cx) (n + 1 + 1) [] (.cons (.ret (.tuple (.cons (.c (.str [115])) (.cons (.meth (.x 1) 0 (.cons (.sub (.x 2) (.call 34 (.cons (.x 0) (.cons (.c (.int 5)) .nil)))) (.cons (.c (.int 1)) .nil))) (.cons (.tuple (.cons (.x 5) .nil)) .nil)))))
 .nil) [some (.r 0), some (.r 1), some (.al (stL ws5)), some (.p (.int (deep : Int))), some (.p (.int way)), some (.p (tv x)), e6] (GL l1 t1 X) R := fun l1 => by
    refine nextL D (by decide) (by decide) fun v l' hv hv' => ?_
    have hk : v.toNat < ws5.length := by show v.toNat < 5; omega
    refine ⟨v.toNat, .str (ws5.getD v.toNat []), idxI hv (by show v < 5; exact hv'), stL_get hk, ?_⟩
    obtain ⟨f1, f2, f3, f4⟩ := func_good (t := t1) (r := 1) (ri := 1) rfl (ws5_F _ (getD_mem hk))
    refine func_q D.P (by omega) (by omega) ?_
    exact k _ (.s1 (funcP t1 (ws5.getD v.toNat []) 1).1 x) l' (funcP t1 (ws5.getD v.toNat []) 1).2 ⟨f2, gx.ext f1⟩ (d1 _) (by show szT x + 4 ≤ _; omega) (e1.trans f1) (by omega) (by omega)
  refine if_of (fun e => ?_) fun e => if_of (fun e => if_t e ?_) fun e => if_of (fun e => ?_) fun e => ?_
  · exact k _ (.s1 9 x) l1 t1 ⟨base9.ext (hb.trans e1), gx⟩ (d1 9) (by show szT x + 4 ≤ _; omega) e1 (by omega) (by omega)
  · exact one l1
  · exact one l1
  · exact swTwo_q (n := n) (r := r) D IH (hb.trans e1) e1 gx dx sx b1 c1 h1 h2 k
noncomputable def swBody : PSs := (.cons (.asg 4 (.bin .Mod (.bin .Add (.call 34 (.cons (.x 0) (.cons (.c (.int 9)) .nil))) (.ite (.cmp .Gt (.x 3) (.c (.int 0))) (.c (.int 6)) (.c (.int 0)))) (.c (.int 9))))
 (.cons (.ite (.bop true (.cons (.cmp .Lt (.x 3) (.c (.int 3))) (.cons (.cmp .Lt (.x 4) (.c (.int 6))) .nil))) swIn .nil) swLeaf))
theorem sw_eq : b__law_sown = swBody := rfl
theorem sown_q (D : LD cx) : ∀ (r deep : Nat), deep + r = 3 → SwQ cx X (n + r + 1 + 1 + 1) r deep
  | r, deep, hd => fun l t {K} hb h1 h2 k => by
    refine dq D.P [] D.d__law_sown rfl ?_
    rw [sw_eq]
    have mid : ∀ (way : Int) (l' : List Int), wqSs (T0 glX) (Cq cx) (n + r + 1 + 1) [] (.cons (.ite (.bop true (.cons (.cmp .Lt (.x 3) (.c (.int 3))) (.cons (.cmp .Lt (.x 4) (.c (.int 6))) .nil))) swIn .nil) swLeaf)
      [some (.r 0), some (.r 1), some (.al (stL ws5)), some (.p (.int (deep : Int))), some (.p (.int way)), none, none] (GL l' t X) (doneQ K) := fun way l' => by
      cases r with
      | zero =>
        have hd' : decide ((deep : Int) < 3) = false := decide_eq_false (by omega)
        exact if_f hd' (if_f hd' (swLeaf_q (n := n + 1) D h1 k))
      | succ r =>
        have hd' : decide ((deep : Int) < 3) = true := decide_eq_true (by omega)
        have IH := sown_q D r (deep + 1) (by omega)
        refine if_t hd' (if_of (fun e => ?_) fun e => ?_)
        · exact swIn_q (n := n + r + 1) D IH hb h1 h2 fun env x l' t' a b c d e f => k x l' t' a b c d e f
        · exact swLeaf_q (n := n + (r + 1) + 1) D h1 k
    refine nextL D (by decide) (by decide) fun v l' hv hv' => ?_
    refine if_of (fun e => ⟨by decide, by decide, ?_⟩) fun e => ⟨by decide, by decide, ?_⟩
    · exact mid _ l'
    · exact mid _ l'
end
end Mine.L3

set_option maxHeartbeats 4000000
namespace Mine.L3
open Mine Mine.PJ Mine.G
noncomputable def mark (ns : List Int) : Tm → Tm
  | .v k => (match decide (k < (ns.length : Int)) with
    | true => .s1 17 (.i (ns.getD k.toNat 0))
    | false => .v k)
  | .i k => .i k
  | .a n => .a n
  | .s1 f x => .s1 f (mark ns x)
  | .s2 f x y => .s2 f (mark ns x) (mark ns y)
noncomputable def vpos : Tm → Prop
  | .v k => 0 ≤ k
  | .s1 _ x => vpos x
  | .s2 _ x y => vpos x ∧ vpos y
  | _ => True
section
variable {cx : Cx} {n : Nat} {K : KE} {Γ : Gam}
theorem mk_leaf (D : LD cx) {t : Tm} {ns : List Int} (h : (∃ k, t = .i k) ∨ ∃ a, t = .a a) (k : K (.p (tv t)) Γ) : Cq cx (n + 1) 502 [.p (tv t), .al (ns.map V.int)] Γ K := by
  refine defC_q D.P.tb D.P.ok [] D.d__law_marked rfl rfl ?_
  rcases h with ⟨z, rfl⟩ | ⟨z, rfl⟩
  · exact k
  · exact k
theorem mk_var (D : LD cx) {z : Int} {ns : List Int} (hz : 0 ≤ z) (k : K (.p (tv (mark ns (.v z)))) Γ) : Cq cx (n + 1) 502 [.p (tv (.v z)), .al (ns.map V.int)] Γ K := by
  refine defC_q D.P.tb D.P.ok [] D.d__law_marked rfl rfl ?_
  have e : decide (z < ((ns.map V.int).length : Int)) = decide (z < (ns.length : Int)) := by rw [List.length_map]
  simp only [mark] at k
  cases q : decide (z < (ns.length : Int)) with
  | false =>
    rw [q] at k
    exact if_f (e.trans q) k
  | true =>
    rw [q] at k
    have lt := of_decide_eq_true q
    have lt' : z.toNat < ns.length := by omega
    refine if_t (e.trans q) ?_
    refine ⟨z.toNat, .int (ns.getD z.toNat 0), ?_, ?_, k⟩
    · rw [List.length_map]; exact idxI hz lt
    · rw [List.getElem?_map, getD_get lt']; rfl
theorem marked_q (D : LD cx) {ns : List Int} : ∀ {t : Tm} {K : KE} (r : Nat), vpos t → dep t ≤ r → K (.p (tv (mark ns t))) Γ → Cq cx (n + r + 1) 502 [.p (tv t), .al (ns.map V.int)] Γ K
  | .v z, K, r, h, _, k => mk_var D h k
  | .i z, K, r, _, _, k => mk_leaf D (.inl ⟨z, rfl⟩) k
  | .a z, K, r, _, _, k => mk_leaf D (.inr ⟨z, rfl⟩) k
  | .s1 f x, K, 0, _, hr, k => absurd hr (Nat.not_succ_le_zero _)
  | .s2 f x y, K, 0, _, hr, k => absurd hr (Nat.not_succ_le_zero _)
  | .s1 f x, K, r + 1, h, hr, k => by
    refine defC_q D.P.tb D.P.ok [] D.d__law_marked rfl rfl ?_
    refine marked_q D (t := x) r h (Nat.le_of_succ_le_succ hr) ?_
    exact k
  | .s2 f x y, K, r + 1, h, hr, k => by
    have hr : (if dep x ≤ dep y then dep y else dep x) ≤ r := Nat.le_of_succ_le_succ hr
    have hx : dep x ≤ r := by split at hr <;> omega
    have hy : dep y ≤ r := by split at hr <;> omega
    refine defC_q D.P.tb D.P.ok [] D.d__law_marked rfl rfl ?_
    refine marked_q D (t := x) r h.1 hx ?_
    refine marked_q D (t := y) r h.2 hy ?_
    exact k
end
end Mine.L3

namespace Mine.L3
open Mine Mine.PJ Mine.G
noncomputable def pln : Tm → Prop
  | .v k => 0 ≤ k
  | .s1 f x => f ≠ 17 ∧ pln x
  | .s2 f x y => f ≠ 17 ∧ pln x ∧ pln y
  | _ => True
noncomputable def plnI : It → Prop
  | .t x _ _ => pln x
  | _ => True
noncomputable def markI (ns : List Int) : It → It
  | .t x m b => .t (mark ns x) m b
  | it => it
noncomputable abbrev MR (ns : List Int) (it it' : It) : Prop := it' = markI ns it ∧ plnI it
structure Two (Cs Co : Cf) (ns : List Int) : Prop where
  T : Cs.T = Co.T
  F : Cs.F = Co.F
  P : Cs.P = Co.P
  N : Cs.N = Co.N
  S : Cs.S = Co.S
  quoted : Cs.quoted = Co.quoted
  ign : Cs.ign = Co.ign
  nv : Cs.nv = true
  pos : ∀ w ∈ ns, 0 ≤ w
  v1 : ∀ k, 0 ≤ k → decide (k < (ns.length : Int)) = false → Cs.var k = Co.var k
  v2 : ∀ k, 0 ≤ k → decide (k < (ns.length : Int)) = true → Co.var k = numberedT (ns.getD k.toNat 0).toNat
section
variable {Cs Co : Cf} {ns : List Int} {q : WS}
theorem Two.at_ (R : Two Cs Co ns) (a : Nat) : Cs.at a = Co.at a := by unfold Cf.at; rw [R.T, R.quoted]
theorem Two.nam (R : Two Cs Co ns) (f : Nat) : Cs.nam f = Co.nam f := by unfold Cf.nam; rw [R.F]
theorem Two.atm (R : Two Cs Co ns) (a : Nat) (b : Bool) : Cs.atm a b q = Co.atm a b q := by unfold Cf.atm Cf.isOp; rw [R.at_, R.P, R.N, R.S]
theorem Two.preO (R : Two Cs Co ns) (a : Nat) : Cs.preO a q = Co.preO a q := by unfold Cf.preO; rw [R.at_]
theorem Two.infO (R : Two Cs Co ns) (a : Nat) : Cs.infO a q = Co.infO a q := by unfold Cf.infO; rw [R.at_]
theorem Two.posO (R : Two Cs Co ns) (a : Nat) : Cs.posO a q = Co.posO a q := by unfold Cf.posO; rw [R.at_]
theorem mark_v0 {k : Int} (h : decide (k < (ns.length : Int)) = false) : mark ns (.v k) = .v k := by
  unfold mark; rw [h]
theorem mark_v1 {k : Int} (h : decide (k < (ns.length : Int)) = true) : mark ns (.v k) = .s1 17 (.i (ns.getD k.toNat 0)) := by
  unfold mark; rw [h]
theorem mark_or {p : Tm → Prop} {k : Int} (h0 : p (.v k)) (h1 : ∀ w, p (.s1 17 (.i w))) : p (mark ns (.v k)) := by
  cases h : decide (k < (ns.length : Int)) with
  | false => rw [mark_v0 h]; exact h0
  | true => rw [mark_v1 h]; exact h1 _
theorem mark_nonneg : ∀ x : Tm, isNonneg (mark ns x) = isNonneg x
  | .v k => mark_or (p := fun t => isNonneg t = false) rfl fun _ => rfl
  | .i _ => rfl
  | .a _ => rfl
  | .s1 _ _ => rfl
  | .s2 _ _ _ => rfl
theorem num_no (C : Cf) {f : Nat} (x : Tm) (h : f ≠ 17) : (C.nv && (decide (f = 17) && isNonneg x)) = false := by rw [decide_eq_false h, Bool.false_and, Bool.and_false]
theorem ns_pos (R : Two Cs Co ns) {k : Int} (h0 : 0 ≤ k) (h : decide (k < (ns.length : Int)) = true) : 0 ≤ ns.getD k.toNat 0 := by
  have lt : k.toNat < ns.length := by have := of_decide_eq_true h; omega
  exact R.pos _ (List.mem_of_getElem? (getD_get lt))
theorem num_yes (R : Two Cs Co ns) {k : Int} (h0 : 0 ≤ k) (h : decide (k < (ns.length : Int)) = true) : Cs.isNum (.s1 17 (.i (ns.getD k.toNat 0))) = true := by
  show (Cs.nv && (true && decide (0 ≤ ns.getD k.toNat 0))) = true
  rw [R.nv, decide_eq_true (ns_pos R h0 h)]; rfl
theorem shape_mark (R : Two Cs Co ns) : ∀ {x : Tm}, pln x → Cs.shape (mark ns x) = Co.shape x
  | .v k, h => by
    cases e : decide (k < (ns.length : Int)) with
    | false => rw [mark_v0 e]; rfl
    | true =>
      rw [mark_v1 e]
      show (match Cs.ign || (false || (false || Cs.isNum (.s1 17 (.i (ns.getD k.toNat 0))))) with
        | true => none
        | false => _) = none
      rw [num_yes R h e, Bool.or_true, Bool.or_true, Bool.or_true]
  | .i _, _ => rfl
  | .a _, _ => rfl
  | .s1 f x, h => by
    show (match Cs.ign || (decide (f = 0) || (decide (f = 9) || (Cs.nv && (decide (f = 17) && isNonneg (mark ns x))))) with
      | true => none
      | false => Cs.shape1 (Cs.nam f) (mark ns x)) = (match Co.ign || (decide (f = 0) || (decide (f = 9) || (Co.nv && (decide (f = 17) && isNonneg x)))) with
      | true => none
      | false => Co.shape1 (Co.nam f) x)
    rw [num_no Cs _ h.1, num_no Co _ h.1, R.ign, R.nam]
    unfold Cf.shape1
    rw [mark_nonneg, R.P, R.S]
  | .s2 f x y, h => by
    show (match Cs.ign || (decide (f = 0) || (decide (f = 9) || (Cs.nv && (decide (f = 17) && isNonneg (mark ns x))))) with
      | true => none
      | false => Cs.shape2 (Cs.nam f)) = (match Co.ign || (decide (f = 0) || (decide (f = 9) || (Co.nv && (decide (f = 17) && isNonneg x)))) with
      | true => none
      | false => Co.shape2 (Co.nam f))
    rw [num_no Cs _ h.1, num_no Co _ h.1, R.ign, R.nam]
    unfold Cf.shape2
    rw [R.N]
theorem left_mark (R : Two Cs Co ns) {x : Tm} (h : pln x) (p m : Int) : Cs.left (mark ns x) p m = Co.left x p m := by unfold Cf.left; rw [shape_mark R h]
noncomputable abbrev WR (ns : List Int) (w w' : WS × List It) : Prop := w'.1 = w.1 ∧ All2 (MR ns) w.2 w'.2
theorem raw1 {s : List Nat} : MR ns (.raw s) (.raw s) := ⟨rfl, trivial⟩
theorem cl_mark (b : Bool) : All2 (MR ns) (clB b) (clB b) := by cases b; exact .nil; exact .cons raw1 .nil
theorem opn_mark (R : Two Cs Co ns) {sh : Sh} {a : Nat} {x : Tm} {y : Option Tm} {most : Int} (hx : pln x) (hy : ∀ z, y = some z → pln z) : WR ns (Co.opn sh a x y most q) (Cs.opn sh a (mark ns x) (y.map (mark ns)) most q) := by
  obtain ⟨kd, p, ty⟩ := sh
  have l := left_mark R hx
  unfold Cf.opn
  dsimp only
  match kd with
  | 0 => exact ⟨R.preO a, .cons ⟨rfl, hx⟩ (cl_mark _)⟩
  | 1 =>
    refine ⟨rfl, .cons ⟨by rw [l]; rfl, hx⟩ (.cons ⟨rfl, trivial⟩ (All2.append ?_ (cl_mark _)))⟩
    cases y with
    | none => exact .nil
    | some z => exact .cons ⟨rfl, hy z rfl⟩ .nil
  | k + 2 => exact ⟨rfl, .cons ⟨by rw [l]; rfl, hx⟩ (.cons ⟨rfl, trivial⟩ (cl_mark _))⟩
theorem lit0 {f : Nat} {x y : Tm} (h : decide (f = 0) = false) : litems (.s2 f x y) = ([], .s2 f x y) := by
  unfold litems; rw [h]
theorem lit1 {f : Nat} {x y : Tm} (h : decide (f = 0) = true) : litems (.s2 f x y) = (x :: (litems y).1, (litems y).2) := by
  rw [litems]; rw [h]
theorem lit_mark : ∀ {x : Tm}, pln x → litems (mark ns x) = ((litems x).1.map (mark ns), mark ns (litems x).2) ∧ (∀ z ∈ (litems x).1, pln z) ∧ pln (litems x).2
  | .v k, h => by
    exact ⟨mark_or (p := fun t => litems t = ([], t)) rfl fun _ => rfl, fun _ z => (nomatch z), h⟩
  | .i _, h => ⟨rfl, fun _ z => (nomatch z), h⟩
  | .a _, h => ⟨rfl, fun _ z => (nomatch z), h⟩
  | .s1 _ _, h => ⟨rfl, fun _ z => (nomatch z), h⟩
  | .s2 f x y, h => by
    cases e : decide (f = 0) with
    | false => rw [show mark ns (.s2 f x y) = .s2 f (mark ns x) (mark ns y) from rfl, lit0 e, lit0 e]; exact ⟨rfl, fun _ z => (nomatch z), h⟩
    | true =>
      obtain ⟨h1, h2, h3⟩ := lit_mark (x := y) h.2.2
      rw [show mark ns (.s2 f x y) = .s2 f (mark ns x) (mark ns y) from rfl, lit1 e, lit1 e, h1]
      refine ⟨rfl, fun z hz => ?_, h3⟩
      rcases List.mem_cons.mp hz with rfl | hz
      · exact h.2.1
      · exact h2 z hz
theorem commas_mark : ∀ {l : List Tm}, (∀ z ∈ l, pln z) → All2 (MR ns) (commas l) (commas (l.map (mark ns)))
  | [], _ => .nil
  | [x], h => .cons ⟨rfl, h x List.mem_cons_self⟩ .nil
  | x :: y :: r, h => .cons ⟨rfl, h x List.mem_cons_self⟩ (.cons raw1 (commas_mark (l := y :: r) fun z hz => h z (List.mem_cons_of_mem _ hz)))
theorem nil_mark : ∀ x : Tm, isNil (mark ns x) = isNil x
  | .v k => mark_or (p := fun t => isNil t = false) rfl fun _ => rfl
  | .i _ => rfl
  | .a _ => rfl
  | .s1 _ _ => rfl
  | .s2 _ _ _ => rfl
theorem tail_mark {t : Tm} (h : pln t) : All2 (MR ns) (tailI t) (tailI (mark ns t)) := by
  unfold tailI
  rw [nil_mark]
  cases isNil t with
  | true => exact .cons raw1 .nil
  | false => exact .cons raw1 (.cons ⟨rfl, h⟩ (.cons raw1 .nil))
theorem write_mark (R : Two Cs Co ns) {m : Int} {b : Bool} : ∀ {x : Tm}, pln x → WR ns (Co.write x m b q) (Cs.write (mark ns x) m b q)
  | .v k, h => by
    cases e : decide (k < (ns.length : Int)) with
    | false => rw [mark_v0 e]; exact ⟨congrArg (tokP q) (R.v1 k h e), .nil⟩
    | true =>
      rw [mark_v1 e]
      show WR ns (tokP q (Co.var k), []) (match Cs.isNum (.s1 17 (.i (ns.getD k.toNat 0))) with
        | true => (tokP q (numberedT (ns.getD k.toNat 0).toNat), [])
        | false => _)
      rw [num_yes R h e, R.v2 k h e]
      exact ⟨rfl, .nil⟩
  | .i _, _ => ⟨rfl, .nil⟩
  | .a n, _ => ⟨R.atm n b, .nil⟩
  | .s1 f x, h => by
    have sm := shape_mark R (x := .s1 f x) h
    show WR ns (match Co.nv && (decide (f = 17) && isNonneg x) with
      | true => _
      | false => match decide (f = 9) && !Co.ign with
        | true => (tokP q [123], [.t x 1201 true, .raw [125]])
        | false => match Co.shape (.s1 f x) with
          | none => (tokP q (Co.at (Co.nam f)), [.raw [40], .t x 999 true, .raw [41]])
          | some sh => Co.opn sh (Co.nam f) x none m q) (match Cs.nv && (decide (f = 17) && isNonneg (mark ns x)) with
      | true => _
      | false => match decide (f = 9) && !Cs.ign with
        | true => (tokP q [123], [.t (mark ns x) 1201 true, .raw [125]])
        | false => match Cs.shape (mark ns (.s1 f x)) with
          | none => (tokP q (Cs.at (Cs.nam f)), [.raw [40], .t (mark ns x) 999 true, .raw [41]])
          | some sh => Cs.opn sh (Cs.nam f) (mark ns x) none m q)
    rw [num_no Cs _ h.1, num_no Co _ h.1, sm, R.ign, R.nam, R.at_]
    dsimp only
    cases decide (f = 9) && !Co.ign with
    | true => exact ⟨rfl, .cons ⟨rfl, h.2⟩ (.cons raw1 .nil)⟩
    | false =>
      cases Co.shape (.s1 f x) with
      | none => exact ⟨rfl, .cons raw1 (.cons ⟨rfl, h.2⟩ (.cons raw1 .nil))⟩
      | some sh => exact opn_mark R (y := none) h.2 nofun
  | .s2 f x y, h => by
    have sm := shape_mark R (x := .s2 f x y) h
    show WR ns (match decide (f = 0) with
      | true => (tokP q [91], commas (litems (.s2 f x y)).1 ++ tailI (litems (.s2 f x y)).2)
      | false => match Co.shape (.s2 f x y) with
        | none => (tokP q (Co.at (Co.nam f)), [.raw [40], .t x 999 true, .raw [44], .t y 999 true, .raw [41]])
        | some sh => Co.opn sh (Co.nam f) x (some y) m q) (match decide (f = 0) with
      | true => (tokP q [91], commas (litems (mark ns (.s2 f x y))).1 ++ tailI (litems (mark ns (.s2 f x y))).2)
      | false => match Cs.shape (mark ns (.s2 f x y)) with
        | none => (tokP q (Cs.at (Cs.nam f)), [.raw [40], .t (mark ns x) 999 true, .raw [44], .t (mark ns y) 999 true, .raw [41]])
        | some sh => Cs.opn sh (Cs.nam f) (mark ns x) (some (mark ns y)) m q)
    obtain ⟨l1, l2, l3⟩ := lit_mark (ns := ns) (x := .s2 f x y) h
    rw [sm, R.nam, R.at_, l1]
    cases decide (f = 0) with
    | true => exact ⟨rfl, (commas_mark l2).append (tail_mark l3)⟩
    | false =>
      cases Co.shape (.s2 f x y) with
      | none => exact ⟨rfl, .cons raw1 (.cons ⟨rfl, h.2.1⟩ (.cons raw1 (.cons ⟨rfl, h.2.2⟩ (.cons raw1 .nil))))⟩
      | some sh => exact opn_mark R (y := some y) h.2.1 fun z e => Option.some.inj e ▸ h.2.2
theorem step_mark (R : Two Cs Co ns) {it it' : It} (h : MR ns it it') : WR ns (Co.step it q) (Cs.step it' q) := by
  obtain ⟨rfl, h⟩ := h
  cases it with
  | t x m b => exact write_mark R h
  | raw s => exact ⟨rfl, .nil⟩
  | inf a => exact ⟨R.infO a, .nil⟩
  | pos a => exact ⟨R.posO a, .nil⟩
theorem run_mark (R : Two Cs Co ns) : ∀ (n : Nat) {l l' : List It} (q : WS), All2 (MR ns) l l' → Cs.run n l' q = Co.run n l q
  | 0, _, _, _, _ => rfl
  | n + 1, _, _, q, .nil => rfl
  | n + 1, it :: l, it' :: l', q, .cons h r => by
    obtain ⟨h1, h2⟩ := step_mark R (q := q) h
    show Cs.run n ((Cs.step it' q).2 ++ l') (Cs.step it' q).1 = Co.run n ((Co.step it q).2 ++ l) (Co.step it q).1
    rw [h1]
    exact run_mark R n _ (h2.append r)
theorem run_more (C : Cf) : ∀ (n m : Nat) (l : List It) (q : WS), szL l ≤ n → szL l ≤ m → C.run n l q = C.run m l q
  | n, m, [], q, _, _ => by cases n <;> cases m <;> rfl
  | 0, m, it :: l, q, h, _ => by have := szL_len (it :: l); rw [List.length_cons] at this; omega
  | n + 1, 0, it :: l, q, _, h => by have := szL_len (it :: l); rw [List.length_cons] at this; omega
  | n + 1, m + 1, it :: l, q, h, h' => by
    have := step_sz (C := C) it q
    have e : szL (it :: l) = szI it + szL l := rfl
    exact run_more C n m _ _ (by rw [szL_app]; omega) (by rw [szL_app]; omega)
theorem sz_mark : ∀ x : Tm, szT x ≤ szT (mark ns x) ∧ szT (mark ns x) ≤ 5 * szT x
  | .v k => mark_or (p := fun t => 1 ≤ szT t ∧ szT t ≤ 5 * 1) (by decide : 1 ≤ 1 ∧ 1 ≤ 5 * 1) fun _ => (by decide : 1 ≤ 1 + 4 ∧ 1 + 4 ≤ 5 * 1)
  | .i _ => (by decide : 1 ≤ 1 ∧ 1 ≤ 5 * 1)
  | .a _ => (by decide : 1 ≤ 1 ∧ 1 ≤ 5 * 1)
  | .s1 f x => by have := sz_mark x; show szT x + 4 ≤ szT (mark ns x) + 4 ∧ szT (mark ns x) + 4 ≤ 5 * (szT x + 4); omega
  | .s2 f x y => by
    have := sz_mark x; have := sz_mark y
    show szT x + szT y + 5 ≤ szT (mark ns x) + szT (mark ns y) + 5 ∧ szT (mark ns x) + szT (mark ns y) + 5 ≤ 5 * (szT x + szT y + 5); omega
theorem text_mark (R : Two Cs Co ns) {t : Tm} (h : pln t) (most : Int) : Cs.text (mark ns t) most = Co.text t most := by
  unfold Cf.text Cf.out
  rw [run_mark R (szT (mark ns t)) ([], none, false) (l := [.t t most (decide (1201 ≤ most))]) (l' := [.t (mark ns t) most (decide (1201 ≤ most))]) (.cons ⟨rfl, h⟩ .nil)]
  rw [run_more Co (szT (mark ns t)) (szT t) [.t t most (decide (1201 ≤ most))] ([], none, false) (sz_mark t).1 (Nat.le_refl _)]
end
end Mine.L3

set_option maxHeartbeats 4000000
namespace Mine.L3
open Mine Mine.PJ Mine.G
noncomputable def cdF (i : Nat) : List Int → List (Int × List Nat)
  | [] => []
  | w :: r => ((i : Int), numberedT w.toNat) :: cdF (i + 1) r
theorem cdF_snoc (w : Int) : ∀ (ns : List Int) (i : Nat), cdF i (ns ++ [w]) = cdF i ns ++ [(((i + ns.length : Nat) : Int), numberedT w.toNat)]
  | [], i => rfl
  | x :: r, i => by
    show ((i : Int), numberedT x.toNat) :: cdF (i + 1) (r ++ [w]) = ((i : Int), numberedT x.toNat) :: (cdF (i + 1) r ++ _)
    rw [cdF_snoc w r (i + 1), List.length_cons, show i + 1 + r.length = i + (r.length + 1) by omega]
theorem cdF_len : ∀ (ns : List Int) (i : Nat), (cdF i ns).length = ns.length
  | [], _ => rfl
  | _ :: r, i => congrArg (· + 1) (cdF_len r (i + 1))
theorem cdF_key : ∀ (ns : List Int) (i : Nat), ∀ e ∈ cdF i ns, (i : Int) ≤ e.1 ∧ e.1 < ((i + ns.length : Nat) : Int)
  | x :: r, i, e, h => by
    rcases List.mem_cons.mp h with rfl | h
    · exact ⟨Int.le_refl _, by show (i : Int) < _; rw [List.length_cons]; omega⟩
    · have := cdF_key r (i + 1) e h
      rw [List.length_cons]; omega
theorem cdF_find : ∀ (ns : List Int) (i : Nat) (k : Nat), k < ns.length → (cdF i ns).find? (fun e => decide (e.1 = ((i + k : Nat) : Int))) = some (((i + k : Nat) : Int), numberedT (ns.getD k 0).toNat)
  | x :: r, i, 0, _ => by
    exact List.find?_cons_of_pos (p := fun e : Int × List Nat => decide (e.1 = ((i + 0 : Nat) : Int))) (a := ((i : Int), numberedT x.toNat)) (decide_eq_true rfl)
  | x :: r, i, k + 1, h => by
    show List.find? _ (((i : Int), numberedT x.toNat) :: cdF (i + 1) r) = _
    rw [List.find?_cons_of_neg (by show ¬ decide ((i : Int) = _) = true; rw [decide_eq_true_eq]; omega)]
    have := cdF_find r (i + 1) k (Nat.lt_of_succ_lt_succ h)
    rw [show i + 1 + k = i + (k + 1) by omega] at this
    exact this
theorem nmE_key (l : List (Int × List Nat)) : ∀ e ∈ nmE l, ∃ k, e.1 = V.int k := fun e he => by
  obtain ⟨e0, _, rfl⟩ := List.mem_map.mp he
  exact ⟨e0.1, rfl⟩
theorem nmE_put {l : List (Int × List Nat)} {k : Int} {t : List Nat} (h : ∀ e ∈ l, e.1 ≠ k) : putV (nmE l) (.int k) (.str t) = nmE (l ++ [(k, t)]) := by
  unfold putV
  rw [if_neg]
  · unfold nmE; rw [List.map_append]; rfl
  · intro z
    obtain ⟨e, he, z⟩ := List.any_eq_true.mp z
    obtain ⟨e0, h0, rfl⟩ := List.mem_map.mp he
    exact h e0 h0 (of_decide_eq_true z)
theorem nmE_len (l : List (Int × List Nat)) : (nmE l).length = l.length := List.length_map ..
noncomputable def abc : List Nat := [65, 66, 67, 68, 69, 70, 71, 72, 73, 74, 75, 76, 77, 78, 79, 80, 81, 82, 83, 84, 85, 86, 87, 88, 89, 90]
theorem abc_get : ∀ j, j < 26 → abc[j]? = some (65 + j) := by decide
theorem name_text {w : Int} (h : 0 ≤ w) : numberedT w.toNat = (65 + (w % 26).toNat) :: (if 25 < w then showI (w / 26) else []) := by
  obtain ⟨m, rfl⟩ : ∃ m : Nat, w = (m : Int) := ⟨w.toNat, (Int.toNat_of_nonneg h).symm⟩
  have e1 : ((m : Int) % 26).toNat = m % 26 := by omega
  have e2 : (m : Int) / 26 = ((m / 26 : Nat) : Int) := by omega
  rw [e1, e2, showI_nat]
  unfold numberedT
  rw [Int.toNat_natCast]
  by_cases q : m < 26
  · rw [decide_eq_true q, if_neg (by omega)]
  · rw [decide_eq_false q, if_pos (by omega)]; rfl
section
variable {cx : Cx} {n : Nat}
noncomputable def numSet : PSs := (.cons (.expr (.bm .append (.x 3) (.cons (.x 6) .nil)))
 (.cons (.setsub (.x 4) (.x 5) (.bin .Add (.sub (.c (.str [65, 66, 67, 68, 69, 70, 71, 72, 73, 74, 75, 76, 77, 78, 79, 80, 81, 82, 83, 84, 85, 86, 87, 88, 89, 90])) (.bin .Mod (.x 6) (.c (.int 26)))) (.ite (.cmp .Gt (.x 6) (.c (.int 25))) (.bi .str (.cons (.bin .FloorDiv (.x 6) (.c (.int 26))) .nil)) (.c (.str [])))))
 .nil))
noncomputable abbrev Gn (l : List Int) (ns : List Int) : Gam := GS (l.map V.int) atoms0 F0 [.dict (nmE (cdF 0 ns))]
theorem numSet_q {R : KS} {e0 : Option SV} {tl : G.Env} {w : Int} {ns l : List Int} (h0 : 0 ≤ w) (h1 : w < 10 ^ 23) (hl : ns.length ≤ 10)
    (k : R .next (e0 :: some (.r 0) :: some (.r 1) :: some (.l ((ns ++ [w]).map V.int)) :: some (.r 6) :: some (.p (.int (ns.length : Int))) :: some (.p (.int w)) :: tl) (Gn l (ns ++ [w]))) :
    wqSs (T0 glX) (Cq cx) n [] numSet (e0 :: some (.r 0) :: some (.r 1) :: some (.l (ns.map V.int)) :: some (.r 6) :: some (.p (.int (ns.length : Int))) :: some (.p (.int w)) :: tl) (Gn l ns) R := by
  have m0 := Int.emod_nonneg w (show (26 : Int) ≠ 0 by decide)
  have m1 := Int.emod_lt_of_pos w (show (0 : Int) < 26 by decide)
  have fin : ∀ s : List Nat, numberedT w.toNat = (65 + (w % 26).toNat) :: s → s.length ≤ 100 → 1 + s.length ≤ lim ∧ (keysOk (.int (ns.length : Int)) (nmE (cdF 0 ns)) ∧ (nmE (cdF 0 ns)).length + 1 ≤ lim ∧
      R .next (e0 :: some (.r 0) :: some (.r 1) :: some (.l (ns.map V.int ++ [.int w])) :: some (.r 6) :: some (.p (.int (ns.length : Int))) :: some (.p (.int w)) :: tl) (GS (l.map V.int) atoms0 F0 [.dict (putV (nmE (cdF 0 ns)) (.int (ns.length : Int)) (.str ((65 + (w % 26).toNat) :: s)))])) := fun s e hs => by
    refine ⟨lim_le (by omega), .inr (.inl ⟨_, rfl, nmE_key _⟩), by rw [nmE_len, cdF_len]; exact lim_le (by omega), ?_⟩
    have c := cdF_snoc w ns 0
    rw [Nat.zero_add] at c
    rw [← e, nmE_put (fun e he => by have := (cdF_key ns 0 e he).2; rw [Nat.zero_add] at this; exact Int.ne_of_lt this), ← c]
    rw [List.map_append] at k
    exact k
  have nt := name_text h0
  refine lenP_mk (lim_le (by rw [List.length_map]; omega)) ?_
  refine ⟨by decide, by decide, (w % 26).toNat, 65 + (w % 26).toNat, idxI m0 m1, abc_get _ (by omega), ?_⟩
  refine if_of (fun e => ?_) fun e => ?_
  · have lt : 25 < w := of_decide_eq_true e
    rw [if_pos lt] at nt
    have hs : (w / 26).natAbs < 10 ^ 36 := by omega
    have sl := showI_len hs
    exact ⟨by decide, by decide, Nat.lt_of_lt_of_le hs (Nat.le_trans (by decide : 10 ^ 36 ≤ 2 ^ 120) (Nat.pow_le_pow_right (by decide) (by decide))), fin _ nt (by omega)⟩
  · rw [if_neg (of_decide_eq_false e)] at nt
    exact fin _ nt (Nat.zero_le _)
theorem nextN (D : LD cx) {K : KE} {l ns : List Int} {m : Int} (hm : 0 < m) (hm2 : m < 2 ^ 63) (k : ∀ (v : Int) (l' : List Int), 0 ≤ v → v < m → K (.p (.int v)) (Gn l' ns)) : Cq cx (n + 1) 490 [.r 0, .p (.int m)] (Gn l ns) K := next_q D.P hm hm2 k
noncomputable def numTurn : PSs := (.cons (.asg 6 (.call 34 (.cons (.x 1) (.cons (.c (.int 90)) .nil))))
 (.cons (.ite (.cmp .Eq (.call 34 (.cons (.x 1) (.cons (.c (.int 4)) .nil))) (.c (.int 3))) (.cons (.asg 6 (.bin .Add (.x 6) (.bin .Mult (.c (.int 26)) (.bin .Pow (.c (.int 10)) (.c (.int 20))))))
 .nil) .nil)
 numSet))
noncomputable abbrev NsOk (ns : List Int) : Prop := ns.length ≤ 3 ∧ ∀ w ∈ ns, 0 ≤ w ∧ w < 10 ^ 23
theorem num_loop (D : LD cx) {R : KS} {e0 : Option SV} {tl : G.Env} : ∀ (m : Nat) (ns l : List Int) (e5 e6 : Option SV), NsOk ns → ns.length + m ≤ 3 →
    (∀ ns' l' e5 e6, NsOk ns' → ns'.length = ns.length + m → R .next (e0 :: some (.r 0) :: some (.r 1) :: some (.l (ns'.map V.int)) :: some (.r 6) :: e5 :: e6 :: tl) (Gn l' ns')) →
    qFor0 (fun env Γ R => wqSs (T0 glX) (Cq cx) (n + 1) [] numTurn env Γ R) (fun env x => setE env 5 (.p x)) ((List.range' ns.length m).map fun (j : Nat) => V.int (j : Int)) (e0 :: some (.r 0) :: some (.r 1) :: some (.l (ns.map V.int)) :: some (.r 6) :: e5 :: e6 :: tl) (Gn l ns) R
  | 0, ns, l, e5, e6, o, h, k => k ns l e5 e6 o rfl
  | m + 1, ns, l, e5, e6, o, h, k => by
    rw [List.range'_succ]
    have go : ∀ (w : Int) (l' : List Int), 0 ≤ w → w < 10 ^ 23 → wqSs (T0 glX) (Cq cx) (n + 1) [] numSet (e0 :: some (.r 0) :: some (.r 1) :: some (.l (ns.map V.int)) :: some (.r 6) :: some (.p (.int (ns.length : Int))) :: some (.p (.int w)) :: tl) (Gn l' ns) fun fl env' Γ' => (match fl with
      | .next => qFor0 (fun env Γ R => wqSs (T0 glX) (Cq cx) (n + 1) [] numTurn env Γ R) (fun env x => setE env 5 (.p x)) ((List.range' (ns.length + 1) m).map fun (j : Nat) => V.int (j : Int)) env' Γ' R
      | .brk => R .next env' Γ'
      | .ret s => R (.ret s) env' Γ') := fun w l' h0 h1 => numSet_q h0 h1 (by omega) (by
        have ln : (ns ++ [w]).length = ns.length + 1 := List.length_append
        have := num_loop D m (ns ++ [w]) l' (some (.p (.int (ns.length : Int)))) (some (.p (.int w))) ⟨by omega, fun x hx => by
          rcases List.mem_append.mp hx with hx | hx
          · exact o.2 x hx
          · rw [List.mem_singleton.mp hx]; exact ⟨h0, h1⟩⟩ (by omega) (fun ns' l' e5 e6 o' h' => k ns' l' e5 e6 o' (by omega))
        rw [ln] at this
        exact this)
    refine nextN D (by decide) (by decide) fun v l1 hv hv' => ?_
    refine nextN D (by decide) (by decide) fun u l2 hu hu' => if_of (fun e => ?_) fun e => ?_
    · exact ⟨rfl, by decide, by decide, by decide, by decide, go _ l2 (by show 0 ≤ v + 26 * 10 ^ 20; omega) (by show v + 26 * 10 ^ 20 < 10 ^ 23; omega)⟩
    · exact go v l2 hv (by omega)
theorem two_of {T : List (List Nat)} {F : List (Int × Int)} {P N S : OT} {qd ig b : Bool} {tk : List (List Nat)} {ns : List Int} (o : NsOk ns) : Two ⟨T, F, P, N, S, qd, ig, true, [], []⟩ ⟨T, F, P, N, S, qd, ig, b, cdF 0 ns, tk⟩ ns := by
  have fnd : ∀ k : Int, 0 ≤ k → decide (k < (ns.length : Int)) = true → (cdF 0 ns).find? (fun e => decide (e.1 = k)) = some (k, numberedT (ns.getD k.toNat 0).toNat) := fun k h0 h => by
    have lt := of_decide_eq_true h
    have := cdF_find ns 0 k.toNat (by omega)
    rw [Nat.zero_add, Int.toNat_of_nonneg h0] at this
    exact this
  refine ⟨rfl, rfl, rfl, rfl, rfl, rfl, rfl, rfl, fun w hw => (o.2 w hw).1, fun k h0 h => ?_, fun k h0 h => ?_⟩
  · have no : (cdF 0 ns).find? (fun e => decide (e.1 = k)) = none := List.find?_eq_none.mpr fun e he z => by
      have := (cdF_key ns 0 e he).2
      rw [of_decide_eq_true z, Nat.zero_add] at this
      exact of_decide_eq_false h this
    show 95 :: showI k = (match (cdF 0 ns).find? (fun e => decide (e.1 = k)) with
      | some e => e.2
      | none => 95 :: showI k)
    rw [no]
  · show (match (cdF 0 ns).find? (fun e => decide (e.1 = k)) with
      | some e => e.2
      | none => 95 :: showI k) = _
    rw [fnd k h0 h]
end
end Mine.L3

set_option maxHeartbeats 4000000
namespace Mine.L3
open Mine Mine.PJ Mine.G
noncomputable def wsV : List (List Nat) := ws5 ++ [[36, 86, 65, 82]]
noncomputable def hts : List Int := [500, 200, 1000, 1200, 1]
structure TbOk3 (t : OT × OT × OT) (m : Nat) : Prop where
  a : t.1.length ≤ m
  b : t.2.1.length ≤ m
  c : t.2.2.length ≤ m
theorem otPut_len (T : OT) (a : Int) (v : Int × List Nat) : (otPut T a v).length ≤ T.length + 1 := by
  unfold otPut
  split
  · rw [List.length_map]; exact Nat.le_succ _
  · rw [List.length_append]; exact Nat.le_refl _
theorem TbOk3.put {t : OT × OT × OT} {m : Nat} (o : TbOk3 t m) (s : List Nat) (a p : Int) : TbOk3 (put3 s a p t) (m + 1) := by
  have u : ∀ {k}, k ≤ m → k ≤ m + 1 := fun h => Nat.le_succ_of_le h
  have v : ∀ (T : OT), T.length ≤ m → (otPut T a (p, s)).length ≤ m + 1 := fun T h => Nat.le_trans (otPut_len T a _) (Nat.succ_le_succ h)
  unfold put3
  split
  · exact ⟨v _ o.a, u o.b, u o.c⟩
  · exact ⟨u o.a, v _ o.b, u o.c⟩
  · exact ⟨u o.a, u o.b, v _ o.c⟩
section
variable {cx : Cx} {n : Nat}
noncomputable abbrev Gt (l : List Int) (T : List (List Nat)) (cd : List (V × V)) (t : OT × OT × OT) : Gam := GU (l.map V.int) T F0 cd t []
theorem nextT (D : LD cx) {K : KE} {l : List Int} {T : List (List Nat)} {cd : List (V × V)} {t : OT × OT × OT} {m : Int} (hm : 0 < m) (hm2 : m < 2 ^ 63) (k : ∀ (v : Int) (l' : List Int), 0 ≤ v → v < m → K (.p (.int v)) (Gt l' T cd t)) : Cq cx (n + 1) 490 [.r 0, .p (.int m)] (Gt l T cd t) K := next_q D.P hm hm2 k
noncomputable def tbTurn : PSs := (.cons (.asg 13 (.sub (.list (.cons (.c (.str [121, 102, 120])) (.cons (.c (.str [102, 121])) (.cons (.c (.str [120, 102, 121])) (.cons (.c (.str [120, 102, 120])) (.cons (.c (.str [102, 120])) (.cons (.c (.str [120, 102])) (.cons (.c (.str [121, 102])) .nil)))))))) (.call 34 (.cons (.x 1) (.cons (.c (.int 7)) .nil)))))
 (.cons (.asg 14 (.sub (.list (.cons (.c (.int 500)) (.cons (.c (.int 200)) (.cons (.c (.int 1000)) (.cons (.c (.int 1200)) (.cons (.c (.int 1)) .nil)))))) (.call 34 (.cons (.x 1) (.cons (.c (.int 5)) .nil)))))
 (.cons (.expr (.meth (.x 11) 7 (.cons (.x 14) (.cons (.x 13) (.cons (.meth (.x 2) 1 (.cons (.sub (.bin .Add (.x 10) (.list (.cons (.c (.str [36, 86, 65, 82])) .nil))) (.bin .Mod (.bin .Add (.x 12) (.call 34 (.cons (.x 1) (.cons (.c (.int 6)) .nil)))) (.c (.int 6)))) .nil)) .nil)))))
 .nil)))
theorem tb_loop (D : LD cx) {R : KS} {cd : List (V × V)} {e0 e3 e4 e5 e6 e7 e8 e9 : Option SV} {tl : G.Env} : ∀ (xs : List Nat) (l : List Int) (T : List (List Nat)) (t : OT × OT × OT) (m : Nat) (e12 e13 e14 : Option SV), Ext2 (atoms0, F0) (T, F0) → T.length ≤ 30 + m → TbOk3 t (1 + m) → m + xs.length ≤ 100 →
    (∀ l' T' t' e12 e13 e14, Ext2 (atoms0, F0) (T', F0) → T'.length ≤ 130 → TbOk3 t' 101 → R .next (e0 :: some (.r 0) :: some (.r 1) :: e3 :: e4 :: e5 :: e6 :: e7 :: e8 :: e9 :: some (.l (stL ws5)) :: some (.r 7) :: e12 :: e13 :: e14 :: tl) (Gt l' T' cd t')) →
    qFor0 (fun env Γ R => wqSs (T0 glX) (Cq cx) (n + 1 + 1 + 1) [] tbTurn env Γ R) (fun env x => setE env 12 (.p x)) (xs.map fun (j : Nat) => V.int (j : Int)) (e0 :: some (.r 0) :: some (.r 1) :: e3 :: e4 :: e5 :: e6 :: e7 :: e8 :: e9 :: some (.l (stL ws5)) :: some (.r 7) :: e12 :: e13 :: e14 :: tl) (Gt l T cd t) R
  | [], l, T, t, m, e12, e13, e14, x, hT, o, h, k => by
    rw [List.length_nil] at h
    exact k l T t e12 e13 e14 x (by omega) ⟨Nat.le_trans o.a (by omega), Nat.le_trans o.b (by omega), Nat.le_trans o.c (by omega)⟩
  | j :: xs, l, T, t, m, e12, e13, e14, x, hT, o, h, k => by
    rw [List.length_cons] at h
    refine nextT D (by decide) (by decide) fun v l1 hv hv' => ?_
    have hk : v.toNat < types.length := by show v.toNat < 7; omega
    refine ⟨v.toNat, .str (types.getD v.toNat []), idxI hv (by show v < (7 : Int); exact hv'), stL_get hk, ?_⟩
    refine nextT D (by decide) (by decide) fun v2 l2 hv2 hv2' => ?_
    have hk2 : v2.toNat < hts.length := by show v2.toNat < 5; omega
    have hh : 0 < hts.getD v2.toNat 0 := (by decide : ∀ h ∈ hts, 0 < h) _ (List.mem_of_getElem? (getD_get hk2))
    refine ⟨v2.toNat, .int (hts.getD v2.toNat 0), idxI hv2 (by show v2 < (5 : Int); exact hv2'), ?_, ?_⟩
    · show (hts.map V.int)[v2.toNat]? = _
      rw [List.getElem?_map, getD_get hk2]; rfl
    refine nextT D (by decide) (by decide) fun v3 l3 hv3 hv3' => ⟨by decide, by decide, ?_⟩
    have m0 : 0 ≤ ((j : Int) + v3) % 6 := Int.emod_nonneg _ (by decide)
    have m6 : ((j : Int) + v3) % 6 < 6 := Int.emod_lt_of_pos _ (by decide)
    have hk3 : (((j : Int) + v3) % 6).toNat < wsV.length := by show _ < 6; omega
    refine ⟨(((j : Int) + v3) % 6).toNat, .str (wsV.getD (((j : Int) + v3) % 6).toNat []), idxI m0 (by show _ < (6 : Int); exact m6), stL_get hk3, ?_⟩
    refine atom_q D.P (by omega) ?_
    obtain ⟨a1, a2, a3⟩ := addP_ext T (wsV.getD (((j : Int) + v3) % 6).toNat []) []
    have al := addP_len T (wsV.getD (((j : Int) + v3) % 6).toNat [])
    refine add_q (n := n) (t := t) (rest := []) D.P (getD_mem hk) hh (Nat.le_trans o.a (by omega)) (Nat.le_trans o.b (by omega)) (Nat.le_trans o.c (by omega)) ?_
    exact tb_loop D xs l3 _ _ (m + 1) _ _ _ (x.trans ⟨a1, ⟨[], (List.append_nil _).symm⟩⟩) (by omega) (by rw [show 1 + (m + 1) = 1 + m + 1 by omega]; exact o.put _ _ _) (by omega) k
end
end Mine.L3

set_option maxHeartbeats 4000000
namespace Mine.L3
open Mine Mine.PJ Mine.G
noncomputable def wrG (C : Cf) (i : Nat) : Gam := [.inst 472 [(11, .r 1), (23, .r 7), (22, .p (.bool C.quoted)), (21, .p (.bool C.ign)), (20, .p (.bool C.nv)), (19, .r (i + 1)), (18, .r (i + 2)), (17, .r (i + 3)), (16, .p (.str [])), (15, .p (.bool false)), (14, .r (i + 4))],
  .dict (nmE C.nm), .dict (tkE C.tk), .list [], .list []]
noncomputable def tkPut (tk : List (List Nat)) (t : List Nat) : List (List Nat) := if tk.any (fun u => decide (u = t)) then tk else tk ++ [t]
theorem tkE_put (tk : List (List Nat)) (t : List Nat) : putV (tkE tk) (.str t) (.bool true) = tkE (tkPut tk t) := by
  have a : ((tkE tk).any fun e => veq e.1 (.str t)) = tk.any fun u => decide (u = t) := by unfold tkE; rw [List.any_map]; rfl
  unfold putV tkPut
  rw [a]
  split
  · refine (List.map_congr_left fun e he => ?_).trans (List.map_id _)
    obtain ⟨u, _, rfl⟩ := List.mem_map.mp he
    show (if _ then _ else _) = _
    split <;> rfl
  · unfold tkE; rw [List.map_append]; rfl
theorem tkPut_len (tk : List (List Nat)) (t : List Nat) : (tkPut tk t).length ≤ tk.length + 1 := by
  unfold tkPut
  split
  · exact Nat.le_succ _
  · rw [List.length_append]; exact Nat.le_refl _
theorem tkPut_mem {tk : List (List Nat)} {t u : List Nat} (h : u ∈ tkPut tk t) : u ∈ tk ∨ u = t := by
  unfold tkPut at h
  split at h
  · exact .inl h
  · exact (List.mem_append.mp h).imp_right List.mem_singleton.mp
noncomputable def tkAll (l : List (Int × List Nat)) : List (List Nat) := l.foldl (fun tk e => tkPut tk e.2) []
section
variable {cx : Cx} {n : Nat} {K : KE} {row : List V} {T : List (List Nat)} {F : List (Int × Int)} {cd : List (V × V)} {t : OT × OT × OT}
theorem wr1_q (D : LD cx) {qd ig b : Bool} (k : K (.p .none) (GU row T F cd t (wrG ⟨T, F, t.1, t.2.1, t.2.2, qd, ig, b, [], []⟩ 11))) :
    Cq cx (n + 1) 349 [.r 11, .r 1, .r 7, .p (.bool qd), .p (.bool ig), .p (.bool b)] (GU row T F cd t [.inst 472 []]) K := by
  refine dq D.P [] D.d_wi1 rfl ?_
  exact k
noncomputable def nmB : PSs := (.cons (.setsub (.attr (.x 0) 19) (.x 7) (.x 8))
 (.cons (.setsub (.attr (.x 0) 18) (.x 8) (.c (.bool true)))
 .nil))
noncomputable def GZ (row : List V) (T : List (List Nat)) (F : List (Int × Int)) (ds : List DictEntry) (m : Nat) (t : OT × OT × OT) (rest : Gam) : Gam :=
  GS row T F (.fz ds m :: .inst 287 [(11, .r iSY), (10, .r 8), (9, .r 9), (8, .r 10)] :: .dict (otE t.1) :: .dict (otE t.2.1) :: .dict (otE t.2.2) :: rest)
theorem nm_loop (D : LD cx) {R : KS} {ds : List DictEntry} {m : Nat} {es0 : List (V × V)} {e1 e2 e3 e4 e5 e6 : Option SV} {C : Cf} {qd ig nv : Bool} : ∀ (r done : List (Int × List Nat)) (tk : List (List Nat)) (e7 e8 : Option SV), (∀ e ∈ r, ∀ e' ∈ done, e'.1 ≠ e.1) → (r.map (·.1)).Nodup → done.length + r.length ≤ 100 → tk.length + r.length ≤ 100 →
    (∀ e7 e8, R .next [some (.r 16), e1, e2, e3, e4, e5, e6, e7, e8] (GT row T F es0 (otE t.1) (otE t.2.1) (otE t.2.2) (wrG C 11 ++ [.inst 472 [(11, .r 1), (23, .r 7), (22, .p (.bool qd)), (21, .p (.bool ig)), (20, .p (.bool nv)), (19, .r 17), (18, .r 18)], .dict (nmE (done ++ r)), .dict (tkE (r.foldl (fun tk e => tkPut tk e.2) tk))]))) →
    qForD (fun env Γ R => wqSs (T0 glX) (Cq cx) n [] nmB env Γ R) 7 8 6 ds m es0 (nmE r) [some (.r 16), e1, e2, e3, e4, e5, e6, e7, e8]
      (GZ row T F ds m t (wrG C 11 ++ [.inst 472 [(11, .r 1), (23, .r 7), (22, .p (.bool qd)), (21, .p (.bool ig)), (20, .p (.bool nv)), (19, .r 17), (18, .r 18)], .dict (nmE done), .dict (tkE tk)])) R
  | [], done, tk, e7, e8, _, _, _, _, k => by
    rw [List.append_nil] at k
    exact ⟨rfl, k e7 e8⟩
  | e :: r, done, tk, e7, e8, h, nd, l1, l2, k => by
    obtain ⟨key, txt⟩ := e
    rw [List.length_cons] at l1 l2
    rw [List.map_cons, List.nodup_cons] at nd
    have p1 := nmE_put (l := done) (k := key) (t := txt) fun e' he' => h _ List.mem_cons_self e' he'
    have p2 := tkE_put tk txt
    refine ⟨rfl, ?_⟩
    refine ⟨.inr (.inl ⟨key, rfl, nmE_key _⟩), by rw [nmE_len]; exact lim_le (by omega), ?_⟩
    refine ⟨.inl ⟨txt, rfl, fun e he => ?_⟩, by unfold tkE; rw [List.length_map]; exact lim_le (by omega), ?_⟩
    · obtain ⟨u, _, rfl⟩ := List.mem_map.mp he
      exact ⟨u, rfl⟩
    have := nm_loop D (ds := ds) (m := m) r (done ++ [(key, txt)]) (tkPut tk txt) (some (.p (.int key))) (some (.p (.str txt))) (fun e he e' he' => by
      rcases List.mem_append.mp he' with he' | he'
      · exact h e (List.mem_cons_of_mem _ he) e' he'
      · rw [List.mem_singleton.mp he']
        exact fun z => nd.1 (List.mem_map.mpr ⟨e, he, z.symm⟩)) nd.2 (by rw [List.length_append]; show done.length + 1 + _ ≤ _; omega) (by have := tkPut_len tk txt; omega) (fun e7 e8 => by rw [List.append_assoc]; exact k e7 e8)
    rw [← p1, ← p2] at this
    exact this
theorem wr2_q (D : LD cx) {qd ig b : Bool} {C : Cf} {l : List (Int × List Nat)} (nd : (l.map (·.1)).Nodup) (hl : l.length ≤ 100) (k : K (.p .none) (GU row T F (nmE l) t (wrG C 11 ++ wrG ⟨T, F, t.1, t.2.1, t.2.2, qd, ig, b, l, tkAll l⟩ 16))) :
    Cq cx (n + 1) 349 [.r 16, .r 1, .r 7, .p (.bool qd), .p (.bool ig), .p (.bool b), .r 6] (GU row T F (nmE l) t (wrG C 11 ++ [.inst 472 []])) K := by
  refine dq D.P [] D.d_wi0 rfl ?_
  refine ⟨nmE_key _, fun ds m => ?_⟩
  refine nm_loop (C := C) D l [] [] none none nofun nd (by rw [List.length_nil]; omega) (by rw [List.length_nil]; omega) fun e7 e8 => ?_
  exact k
end
end Mine.L3

set_option maxHeartbeats 4000000
namespace Mine.L3
open Mine Mine.PJ Mine.G
noncomputable def wrT (C : Cf) (i : Nat) (q : G.WS) (o w : Nat) : Gam := [.inst 472 [(11, .r 1), (23, .r 7), (22, .p (.bool C.quoted)), (21, .p (.bool C.ign)), (20, .p (.bool C.nv)), (19, .r (i + 1)), (18, .r (i + 2)), (17, .r o), (16, .p (.str (optL q.2.1))), (15, .p (.bool q.2.2)), (14, .r w)],
  .dict (nmE C.nm), .dict (tkE C.tk), .list [], .list []]
noncomputable def Oo (row : List V) (T : List (List Nat)) (F : List (Int × Int)) : Oth := ⟨row, entsOf V.str T 0, entsOf prV F 0, [], []⟩
section
variable {cx : Cx} {n : Nat} {K : KE} {row : List V} {cd : List (V × V)} {Cs Co : Cf}
noncomputable abbrev GV (row : List V) (C : Cf) (cd : List (V × V)) (rest : Gam) : Gam := GU row C.T C.F cd (C.P, C.N, C.S) rest
theorem text1_q (D : LD cx) (ok : Cs.Ok) {t : Tm} {most : Int} (h : Cs.ok t) (hs : szT t ≤ 1000)
    (k : K (.p (.str (Cs.text t most))) (GV row Cs cd (wrT Cs 11 (Cs.out t most) 21 22 ++ wrG Co 16 ++ [.list (Cs.out t most).1, .list []]))) :
    Cq cx (n + 7 + 1 + 1) 357 [.r 11, .p (tv t), .p (.int most)] (GV row Cs cd (wrG Cs 11 ++ wrG Co 16)) K := by
  refine frame_q (π := [0, 1, 2, 3, 4, 5, 7, 8, 9, 10, 11, 12, 13, 14, 15]) (Γ0 := Gp (Oo row Cs.T Cs.F) Cs [] false) (args := [.r 10, .p (tv t), .p (.int most)]) (K0 := fun v Δ => v = .str (Cs.text t most) ∧ Δ = Gm (Oo row Cs.T Cs.F) Cs (Cs.out t most) []) (by decide)
    ⟨rfl, rfl, rfl, rfl, rfl, rfl, rfl, rfl, rfl, rfl, rfl, rfl, rfl, rfl, rfl, trivial⟩ (wtext_q D.P ok h hs ⟨_, rfl, rfl, rfl⟩) fun v Δ e => ?_
  obtain ⟨rfl, rfl⟩ := e
  exact k
theorem text2_q (D : LD cx) (ok : Co.Ok) {t : Tm} {most : Int} {q : G.WS} (h : Co.ok t) (hs : szT t ≤ 1000)
    (k : K (.p (.str (Co.text t most))) (GV row Co cd (wrT Cs 11 q 21 22 ++ wrT Co 16 (Co.out t most) 23 24 ++ [.list q.1, .list [], .list (Co.out t most).1, .list []]))) :
    Cq cx (n + 7 + 1 + 1) 357 [.r 16, .p (tv t), .p (.int most)] (GV row Co cd (wrT Cs 11 q 21 22 ++ wrG Co 16 ++ [.list q.1, .list []])) K := by
  refine frame_q (π := [0, 1, 2, 3, 4, 5, 7, 8, 9, 10, 16, 17, 18, 19, 20]) (Γ0 := Gp (Oo row Co.T Co.F) Co [] false) (args := [.r 10, .p (tv t), .p (.int most)]) (K0 := fun v Δ => v = .str (Co.text t most) ∧ Δ = Gm (Oo row Co.T Co.F) Co (Co.out t most) []) (by decide)
    ⟨rfl, rfl, rfl, rfl, rfl, rfl, rfl, rfl, rfl, rfl, rfl, rfl, rfl, rfl, rfl, trivial⟩ (wtext_q D.P ok h hs ⟨_, rfl, rfl, rfl⟩) fun v Δ e => ?_
  obtain ⟨rfl, rfl⟩ := e
  exact k
noncomputable def G4 (row : List V) (C : Cf) (cd : List (V × V)) (Cs Co Cu : Cf) (q1 q2 : G.WS) : Gam := GV row C cd (wrT Cs 11 q1 21 22 ++ wrT Co 16 q2 23 24 ++ [.list q1.1, .list [], .list q2.1, .list []] ++ wrG Cu 25)
noncomputable def CuOf (C : Cf) : Cf := ⟨C.T, C.F, C.P, C.N, C.S, C.quoted, C.ign, false, [], []⟩
variable {C Cu : Cf} {q1 q2 : G.WS}
theorem wr3_q (D : LD cx) (k : K (.p .none) (G4 row C cd Cs Co (CuOf C) q1 q2)) :
    Cq cx (n + 1) 349 [.r 25, .r 1, .r 7, .p (.bool C.quoted), .p (.bool C.ign), .p (.bool false)] (GV row C cd (wrT Cs 11 q1 21 22 ++ wrT Co 16 q2 23 24 ++ [.list q1.1, .list [], .list q2.1, .list []] ++ [.inst 472 []])) K := by
  refine frame_q (π := [0, 1, 2, 3, 4, 5, 6, 7, 8, 9, 10, 25]) (Γ0 := GV row C cd [.inst 472 []]) (args := [.r 11, .r 1, .r 7, .p (.bool C.quoted), .p (.bool C.ign), .p (.bool false)]) (K0 := fun v Δ => v = .none ∧ Δ = GV row C cd (wrG (CuOf C) 11)) (by decide)
    ⟨rfl, rfl, rfl, rfl, rfl, rfl, rfl, rfl, rfl, rfl, rfl, rfl, trivial⟩ (wr1_q D ⟨_, rfl, rfl, rfl⟩) fun v Δ e => ?_
  obtain ⟨rfl, rfl⟩ := e
  exact k
theorem num_s (D : LD cx) (hv : Cs.nv = true) {f : Nat} {x : Tm} (k : K (.p (.bool (decide (f = 17) && isNonneg x))) (G4 row C cd Cs Co Cu q1 q2)) : Cq cx (n + 1) 406 [.r 11, .p (tv (.s1 f x))] (G4 row C cd Cs Co Cu q1 q2) K := by
  refine dq D.P [] D.P.d_Writer_is_numbered rfl ?_
  refine if_f (by rw [hv]; rfl) ?_
  cases e1 : decide (f = 17) with
  | false => rw [e1] at k; exact if_t (congrArg (!·) ((natEq f 17).trans e1)) k
  | true =>
    rw [e1, Bool.true_and] at k
    refine if_f (congrArg (!·) ((natEq f 17).trans e1)) ?_
    cases x with
    | i z => exact k
    | _ => exact k
theorem num_u (D : LD cx) (hv : Cu.nv = false) {f : Nat} {x : Tm} (k : K (.p (.bool false)) (G4 row C cd Cs Co Cu q1 q2)) : Cq cx (n + 1) 406 [.r 25, .p (tv (.s1 f x))] (G4 row C cd Cs Co Cu q1 q2) K := by
  refine dq D.P [] D.P.d_Writer_is_numbered rfl ?_
  exact if_t (by rw [hv]; rfl) (if_t (by rw [hv]; rfl) k)
noncomputable def partB : PSs := (.cons (.asg 20 (.tuple (.cons (.c (.str [115])) (.cons (.g 25) (.cons (.tuple (.cons (.x 19) .nil)) .nil)))))
 (.cons (.ite (.bop false (.cons (.cmp .NotEq (.meth (.x 16) 33 (.cons (.x 20) .nil)) (.cmp .Eq (.x 19) (.tuple (.cons (.c (.str [105])) (.cons (.x 6) .nil))))) (.cons (.meth (.x 18) 33 (.cons (.x 20) .nil)) .nil))) (.cons (.ret (.c (.bool false)))
 .nil) .nil)
 .nil))
theorem part_q (D : LD cx) (hs : Cs.nv = true) (hu : Cu.nv = false) {R : KS} {e0 e1 e2 e3 e4 e5 e7 e8 e9 e10 e11 e12 e13 e14 e15 e17 e20 : Option SV} {w : Int} {x : Tm} {s : List Nat} {i : Int} {r : List V} (et : tv x = .tup (.str s :: .int i :: r)) (ee : (decide (s = [105]) && (decide (i = w) && r.isEmpty)) = isNonneg x)
    (k : ∀ e20, R .next [e0, e1, e2, e3, e4, e5, some (.p (.int w)), e7, e8, e9, e10, e11, e12, e13, e14, e15, some (.r 11), e17, some (.r 25), some (.p (tv x)), e20] (G4 row C cd Cs Co Cu q1 q2)) :
    wqSs (T0 glX) (Cq cx) (n + 1) [] partB [e0, e1, e2, e3, e4, e5, some (.p (.int w)), e7, e8, e9, e10, e11, e12, e13, e14, e15, some (.r 11), e17, some (.r 25), some (.p (tv x)), e20] (G4 row C cd Cs Co Cu q1 q2) R := by
  refine num_s D hs (f := 17) (x := x) ?_
  replace k := k (some (.p (tv (.s1 17 x))))
  have nu : ∀ K : KE, K (.p (.bool false)) (G4 row C cd Cs Co Cu q1 q2) → Cq cx (n + 1) 406 [.r 25, .p (tv (.s1 17 x))] (G4 row C cd Cs Co Cu q1 q2) K := fun K k => num_u D hu k
  have e1 : tv (.s1 17 x) = .tup [.str [115], .int 17, .tup [.tup (.str s :: .int i :: r)]] := by rw [← et]; rfl
  rw [e1, et] at k
  rw [e1] at nu
  rw [et]
  refine ⟨s, i, r, [105], w, rfl, rfl, ?_⟩
  have ne : (!((true && isNonneg x) == (decide (s = [105]) && (decide (i = w) && r.isEmpty)))) = false := by rw [ee]; cases isNonneg x <;> rfl
  refine if_f ne ?_
  refine nu _ ?_
  exact k
end
end Mine.L3

set_option maxHeartbeats 4000000
namespace Mine.L3
open Mine Mine.PJ Mine.G
theorem calmF : ∀ w ∈ wsF, w.all calmC = true ∧ w.length ≤ 60 := by decide
theorem calmB : ∀ w ∈ wsB, w.all calmC = true ∧ w.length ≤ 60 := by decide
theorem fn_ne {t : Tb2} (e : Ext2 (atoms0, F0) t) {f r : Nat} (g : gFn wsF t f r) : f ≠ 17 ∧ (r = 1 → f ≠ 0) ∧ (r = 2 → f ≠ 9) := by
  obtain ⟨⟨u, hu⟩, ⟨v, hv⟩⟩ := e
  obtain ⟨h1, a, h2, h3, h4⟩ := g
  have at_ : ∀ k (x : Int × Int), k < F0.length → F0.getD k (0, 0) = x → f = k → x = ((a : Int), (r : Int)) := fun k x hk hx z => by
    subst z; rw [← h2, hv, getD_app hk, hx]
  refine ⟨fun z => ?_, fun hr z => ?_, fun hr z => ?_⟩
  · have := at_ 17 (26, 1) (by decide) (by decide) z
    injection this with e1 _
    obtain rfl : a = 26 := by omega
    rw [hu, getD_app (by decide : 26 < atoms0.length)] at h4
    exact absurd h4 (by decide)
  · have := at_ 0 (1, 2) (by decide) (by decide) z
    injection this with _ e2
    omega
  · have := at_ 9 (2, 1) (by decide) (by decide) z
    injection this with _ e2
    omega
theorem good_pln {t : Tb2} (e : Ext2 (atoms0, F0) t) : ∀ {x : Tm}, good t x → pln x
  | .v _, h => h.1
  | .i _, _ => trivial
  | .a _, _ => trivial
  | .s1 _ _, h => ⟨(fn_ne e h.1).1, good_pln e h.2⟩
  | .s2 _ _ _, h => ⟨(fn_ne e h.1).1, good_pln e h.2.1, good_pln e h.2.2⟩
theorem pln_vpos : ∀ {x : Tm}, pln x → vpos x
  | .v _, h => h
  | .i _, _ => trivial
  | .a _, _ => trivial
  | .s1 _ x, h => pln_vpos (x := x) h.2
  | .s2 _ _ _, h => ⟨pln_vpos h.2.1, pln_vpos h.2.2⟩
theorem lit_dep : ∀ x : Tm, (litems x).1.length ≤ dep x
  | .v _ => Nat.le_refl _
  | .i _ => Nat.le_refl _
  | .a _ => Nat.le_refl _
  | .s1 _ _ => Nat.zero_le _
  | .s2 f x y => by
    have := lit_dep y
    cases e : decide (f = 0) with
    | false => rw [lit0 e]; exact Nat.zero_le _
    | true =>
      rw [lit1 e]
      show (litems y).1.length + 1 ≤ (if dep x ≤ dep y then dep y else dep x) + 1
      split <;> omega
theorem okF_of {C : Cf} {f r : Nat} (g : gFn wsF (C.T, C.F) f r) : C.okF f := by
  obtain ⟨h1, a, h2, h3, h4⟩ := g
  have h2 : C.F.getD f (0, 0) = ((a : Int), (r : Int)) := h2
  refine ⟨h1, by rw [h2]; exact Int.natCast_nonneg _, ?_⟩
  unfold Cf.nam
  rw [h2]
  exact ⟨h3, calmF _ h4⟩
theorem good_ok {C : Cf} (e : Ext2 (atoms0, F0) (C.T, C.F)) : ∀ {x : Tm}, dep x ≤ 90 → good (C.T, C.F) x → C.ok x
  | .v k, _, h => by obtain ⟨h1, h2⟩ := h; show k.natAbs < 10 ^ 30; omega
  | .i _, _, h => h
  | .a _, _, h => ⟨h.1, calmB _ h.2⟩
  | .s1 f x, d, h => ⟨(fn_ne e h.1).2.1 rfl, .inr (okF_of h.1), good_ok e (Nat.le_of_succ_le d) h.2⟩
  | .s2 f x y, d, h => by
    have d : (if dep x ≤ dep y then dep y else dep x) + 1 ≤ 90 := d
    have hx : dep x ≤ 90 := by split at d <;> omega
    have hy : dep y ≤ 90 := by split at d <;> omega
    exact ⟨(fn_ne e h.1).2.2 rfl, (fn_ne e h.1).1, okF_of h.1, good_ok e hx h.2.1, good_ok e hy h.2.2, fun _ => Nat.le_trans (lit_dep y) hy⟩
theorem mark_ok {C : Cf} {ns : List Int} (hv : C.nv = true) (o : NsOk ns) : ∀ {x : Tm}, pln x → C.ok x → C.ok (mark ns x)
  | .v k, h, c => by
    cases e : decide (k < (ns.length : Int)) with
    | false => rw [mark_v0 e]; exact c
    | true =>
      have lt : k.toNat < ns.length := by have := of_decide_eq_true e; have : 0 ≤ k := h; omega
      obtain ⟨w0, w1⟩ := o.2 _ (List.mem_of_getElem? (getD_get (d := 0) lt))
      rw [mark_v1 e]
      refine ⟨by decide, .inl ⟨rfl, ?_⟩, ?_⟩
      · show (C.nv && (true && decide (0 ≤ ns.getD k.toNat 0))) = true
        rw [hv, decide_eq_true w0]; rfl
      · show (ns.getD k.toNat 0).natAbs < 10 ^ 30; omega
  | .i _, _, c => c
  | .a _, _, c => c
  | .s1 f x, h, c => ⟨c.1, .inr (c.2.1.resolve_left fun z => h.1 z.1), mark_ok hv o h.2 c.2.2⟩
  | .s2 f x y, h, c => ⟨c.1, c.2.1, c.2.2.1, mark_ok hv o h.2.1 c.2.2.2.1, mark_ok hv o h.2.2 c.2.2.2.2.1, fun z => by
    rw [(lit_mark (ns := ns) h.2.2).1]
    show ((litems y).1.map (mark ns)).length ≤ 90
    rw [List.length_map]; exact c.2.2.2.2.2 z⟩
theorem name_head (m : Nat) : (numberedT m).head? ≠ some 95 := by
  have e : (numberedT m).head? = some (65 + m % 26) := by unfold numberedT; split <;> rfl
  rw [e]
  intro z
  have := Option.some.inj z
  omega
theorem name_len {m : Nat} (h : m < 10 ^ 30) : (numberedT m).length ≤ 60 := by
  unfold numberedT
  split
  · show 1 ≤ 60; decide
  · have := dig_len40 (m := m / 26) (Nat.lt_of_le_of_lt (Nat.div_le_self _ _) (Nat.lt_trans h (by decide)))
    show (digits10 (m / 26)).length + 1 ≤ 60; omega
theorem cdF_mem : ∀ (ns : List Int) (i : Nat), ∀ e ∈ cdF i ns, ∃ w ∈ ns, e.2 = numberedT w.toNat
  | w :: r, i, e, h => by
    rcases List.mem_cons.mp h with rfl | h
    · exact ⟨w, List.mem_cons_self, rfl⟩
    · obtain ⟨u, h1, h2⟩ := cdF_mem r (i + 1) e h
      exact ⟨u, List.mem_cons_of_mem _ h1, h2⟩
theorem cdF_nd : ∀ (ns : List Int) (i : Nat), ((cdF i ns).map (·.1)).Nodup
  | [], _ => List.nodup_nil
  | w :: r, i => by
    refine List.nodup_cons.mpr ⟨fun h => ?_, cdF_nd r (i + 1)⟩
    obtain ⟨e, he, z⟩ := List.mem_map.mp h
    have := (cdF_key r (i + 1) e he).1
    have z : e.1 = (i : Int) := z
    omega
theorem tkAll_mem (l : List (Int × List Nat)) : ∀ t ∈ tkAll l, ∃ e ∈ l, t = e.2 := by
  have key : ∀ (l : List (Int × List Nat)) (tk : List (List Nat)), ∀ t ∈ l.foldl (fun tk e => tkPut tk e.2) tk, t ∈ tk ∨ ∃ e ∈ l, t = e.2 := fun l => by
    induction l with
    | nil => exact fun tk t h => .inl h
    | cons e l ih =>
      intro tk t h
      rcases ih _ t h with h | ⟨e', he, z⟩
      · exact (tkPut_mem h).imp_right fun z => ⟨e, List.mem_cons_self, z⟩
      · exact .inr ⟨e', List.mem_cons_of_mem _ he, z⟩
  intro t h
  exact (key l [] t h).resolve_left nofun
noncomputable def Csf (T : List (List Nat)) (F : List (Int × Int)) (t : OT × OT × OT) (qd ig : Bool) : Cf := ⟨T, F, t.1, t.2.1, t.2.2, qd, ig, true, [], []⟩
noncomputable def Cof (T : List (List Nat)) (F : List (Int × Int)) (t : OT × OT × OT) (qd ig b : Bool) (ns : List Int) : Cf := ⟨T, F, t.1, t.2.1, t.2.2, qd, ig, b, cdF 0 ns, tkAll (cdF 0 ns)⟩
theorem csf_ok {T : List (List Nat)} {F : List (Int × Int)} {t : OT × OT × OT} {qd ig : Bool} (hT : T.length ≤ 5000) (hF : F.length ≤ 5000) : (Csf T F t qd ig).Ok := ⟨hT, hF, nofun, nofun⟩
theorem cof_ok {T : List (List Nat)} {F : List (Int × Int)} {t : OT × OT × OT} {qd ig b : Bool} {ns : List Int} (o : NsOk ns) (hT : T.length ≤ 5000) (hF : F.length ≤ 5000) : (Cof T F t qd ig b ns).Ok := by
  refine ⟨hT, hF, fun t h => ?_, fun e h => ?_⟩
  · obtain ⟨e, he, rfl⟩ := tkAll_mem _ t h
    obtain ⟨w, _, z⟩ := cdF_mem ns 0 e he
    rw [z]; exact name_head _
  · obtain ⟨w, hw, z⟩ := cdF_mem ns 0 e h
    rw [z]
    have := o.2 w hw
    exact name_len (by omega)
end Mine.L3

set_option maxHeartbeats 4000000
namespace Mine.L3
open Mine Mine.PJ Mine.G
noncomputable def KT : KE := fun s _ => s = .p (.bool true)
section
variable {cx : Cx} {n : Nat} {row : List V} {cd : List (V × V)} {C Cs Co Cu : Cf} {q1 q2 : G.WS}
noncomputable def flB : PSs := (.cons (.for1 19 (.val (.list (.cons (.tuple (.cons (.c (.str [105])) (.cons (.x 6) .nil))) (.cons (.tuple (.cons (.c (.str [105])) (.cons (.bin .Sub (.neg (.c (.int 1))) (.x 6)) .nil))) (.cons (.tuple (.cons (.c (.str [97])) (.cons (.g 27) .nil))) (.cons (.tuple (.cons (.c (.str [118])) (.cons (.c (.int 0)) .nil))) (.cons (.tuple (.cons (.c (.str [115])) (.cons (.g 25) (.cons (.tuple (.cons (.tuple (.cons (.c (.str [105])) (.cons (.x 6) .nil))) .nil)) .nil)))) .nil))))))) partB) .nil)
theorem fl_loop (D : LD cx) (hs : Cs.nv = true) (hu : Cu.nv = false) {R : KS} {e0 e1 e2 e3 e4 e5 e7 e8 e9 e10 e11 e12 e13 e14 e15 e17 : Option SV} : ∀ (xs : List Int) (e6 e19 e20 : Option SV), (∀ w ∈ xs, 0 ≤ w) →
    (∀ e6 e19 e20, R .next [e0, e1, e2, e3, e4, e5, e6, e7, e8, e9, e10, e11, e12, e13, e14, e15, some (.r 11), e17, some (.r 25), e19, e20] (G4 row C cd Cs Co Cu q1 q2)) →
    qFor0 (fun env Γ R => wqSs (T0 glX) (Cq cx) (n + 1) [] flB env Γ R) (fun env x => setE env 6 (.p x)) (xs.map V.int) [e0, e1, e2, e3, e4, e5, e6, e7, e8, e9, e10, e11, e12, e13, e14, e15, some (.r 11), e17, some (.r 25), e19, e20] (G4 row C cd Cs Co Cu q1 q2) R
  | [], e6, e19, e20, _, k => k e6 e19 e20
  | w :: xs, e6, e19, e20, h, k => by
    have h0 := h w List.mem_cons_self
    refine Eq.mpr qFor_eq ?_
    refine part_q D hs hu (x := .i w) (w := w) (s := [105]) (i := w) (r := []) rfl (by rw [decide_eq_true (rfl : w = w)]; exact (decide_eq_true h0).symm) fun e20 => ?_
    refine part_q D hs hu (x := .i (-1 - w)) (w := w) (s := [105]) (i := -1 - w) (r := []) rfl (by rw [decide_eq_false (by omega : ¬ -1 - w = w)]; exact (decide_eq_false (by omega : ¬ 0 ≤ -1 - w)).symm) fun e20 => ?_
    refine part_q D hs hu (x := .a 0) (w := w) (s := [97]) (i := 0) (r := []) rfl rfl fun e20 => ?_
    refine part_q D hs hu (x := .v 0) (w := w) (s := [118]) (i := 0) (r := []) rfl rfl fun e20 => ?_
    refine part_q D hs hu (x := .s1 17 (.i w)) (w := w) (s := [115]) (i := 17) (r := [.tup [tv (.i w)]]) rfl rfl fun e20 => ?_
    exact fl_loop D hs hu xs _ _ _ (fun x hx => h x (List.mem_cons_of_mem _ hx)) k
noncomputable def lw5 : PSs := (.cons (.for1 6 (.val (.x 3)) flB)
 (.cons (.ret (.not (.meth (.x 16) 33 (.cons (.tuple (.cons (.c (.str [115])) (.cons (.g 24) (.cons (.tuple (.cons (.tuple (.cons (.c (.str [105])) (.cons (.sub (.x 3) (.c (.int 0))) .nil))) .nil)) .nil)))) .nil))))
 .nil))
theorem lw5_q (D : LD cx) (hs : Cs.nv = true) (hu : Cu.nv = false) {ns : List Int} (o : NsOk ns) (ne : ns ≠ []) {e0 e1 e2 e4 e5 e6 e7 e8 e9 e10 e11 e12 e13 e14 e15 e17 e19 e20 : Option SV} :
    wqSs (T0 glX) (Cq cx) (n + 1) [] lw5 [e0, e1, e2, some (.l (ns.map V.int)), e4, e5, e6, e7, e8, e9, e10, e11, e12, e13, e14, e15, some (.r 11), e17, some (.r 25), e19, e20] (G4 row C cd Cs Co Cu q1 q2) (doneQ KT) := by
  refine Eq.mpr qFor_eq ?_
  refine fl_loop D hs hu ns e6 e19 e20 (fun w hw => (o.2 w hw).1) fun e6 e19 e20 => ?_
  cases ns with
  | nil => exact absurd rfl ne
  | cons w r =>
    refine ⟨0, .int w, idx0 _, rfl, ?_⟩
    refine num_s D hs (f := 9) (x := .i w) ?_
    exact rfl
noncomputable def lw4 : PSs := (.cons (.asg 18 (.new 37 (.cons (.x 2) (.cons (.x 11) (.cons (.x 7) (.cons (.x 8) (.cons (.c (.bool false)) .nil))))))) lw5)
theorem lw4_q (D : LD cx) (hs : Cs.nv = true) {ns : List Int} (o : NsOk ns) (ne : ns ≠ []) {e0 e1 e4 e5 e6 e9 e10 e12 e13 e14 e15 e17 e18 e19 e20 : Option SV} :
    wqSs (T0 glX) (Cq cx) (n + 2) [] lw4 [e0, e1, some (.r 1), some (.l (ns.map V.int)), e4, e5, e6, some (.p (.bool C.quoted)), some (.p (.bool C.ign)), e9, e10, some (.r 7), e12, e13, e14, e15, some (.r 11), e17, e18, e19, e20]
      (GV row C cd (wrT Cs 11 q1 21 22 ++ wrT Co 16 q2 23 24 ++ [.list q1.1, .list [], .list q2.1, .list []])) (doneQ KT) := by
  refine wr3_q (n := n) (Cs := Cs) (Co := Co) (q1 := q1) (q2 := q2) D ?_
  exact lw5_q D hs rfl o ne
end
end Mine.L3

set_option maxHeartbeats 4000000
namespace Mine.L3
open Mine Mine.PJ Mine.G
section
variable {cx : Cx} {n : Nat}
noncomputable def lw3 : PSs := (.cons (.ite (.cmp .NotEq (.meth (.x 16) 13 (.cons (.call 36 (.cons (.x 15) (.cons (.x 3) .nil))) (.cons (.x 9) .nil))) (.meth (.x 17) 13 (.cons (.x 15) (.cons (.x 9) .nil)))) (.cons (.ret (.c (.bool false)))
 .nil) .nil) lw4)
theorem lw3_q (D : LD cx) {row : List V} {T : List (List Nat)} {F : List (Int × Int)} {t : OT × OT × OT} {qd ig b : Bool} {ns : List Int} {tm : Tm} {most : Int} (o : NsOk ns) (ne : ns ≠ []) (e : Ext2 (atoms0, F0) (T, F)) (hT : T.length ≤ 5000) (hF : F.length ≤ 5000)
    (g : good (T, F) tm) (d : dep tm ≤ 3) (sz : szT tm ≤ 43) {e0 e1 e4 e5 e6 e10 e12 e13 e14 e18 e19 e20 : Option SV} :
    wqSs (T0 glX) (Cq cx) (n + 10) [] lw3 [e0, e1, some (.r 1), some (.l (ns.map V.int)), e4, e5, e6, some (.p (.bool qd)), some (.p (.bool ig)), some (.p (.int most)), e10, some (.r 7), e12, e13, e14, some (.p (tv tm)), some (.r 11), some (.r 16), e18, e19, e20]
      (GV row (Csf T F t qd ig) (nmE (cdF 0 ns)) (wrG (Csf T F t qd ig) 11 ++ wrG (Cof T F t qd ig b ns) 16)) (doneQ KT) := by
  have pl := good_pln e g
  have co : (Cof T F t qd ig b ns).ok tm := good_ok (C := Cof T F t qd ig b ns) e (Nat.le_trans d (by decide)) g
  have cs : (Csf T F t qd ig).ok (mark ns tm) := mark_ok rfl o pl (good_ok (C := Csf T F t qd ig) e (Nat.le_trans d (by decide)) g)
  refine marked_q (n := n + 6) D 3 (pln_vpos pl) d ?_
  refine text1_q (n := n + 1) (Co := Cof T F t qd ig b ns) D (csf_ok hT hF) cs (Nat.le_trans (sz_mark tm).2 (by omega)) ?_
  refine text2_q (n := n + 1) (Cs := Csf T F t qd ig) (Co := Cof T F t qd ig b ns) (q := (Csf T F t qd ig).out (mark ns tm) most) D (cof_ok o hT hF) co (by omega) ?_
  have tx : (Csf T F t qd ig).text (mark ns tm) most = (Cof T F t qd ig b ns).text tm most := text_mark (two_of o) pl most
  refine if_f (b := !decide ((Csf T F t qd ig).text (mark ns tm) most = (Cof T F t qd ig b ns).text tm most)) (by rw [decide_eq_true tx]; rfl) ?_
  exact lw4_q (n := n + 8) (C := Csf T F t qd ig) (Cs := Csf T F t qd ig) (Co := Cof T F t qd ig b ns) D rfl o ne
noncomputable def X3 (cd : List (V × V)) (t : OT × OT × OT) : Gam := [.dict cd, .inst 287 [(11, .r iSY), (10, .r 8), (9, .r 9), (8, .r 10)], .dict (otE t.1), .dict (otE t.2.1), .dict (otE t.2.2)]
noncomputable def lw2b : PSs := (.cons (.asg 17 (.new 37 (.cons (.x 2) (.cons (.x 11) (.cons (.x 7) (.cons (.x 8) (.cons (.cmp .Eq (.call 34 (.cons (.x 1) (.cons (.c (.int 2)) .nil))) (.c (.int 1))) (.cons (.x 4) .nil)))))))) lw3)
noncomputable def lw2 : PSs := (.cons (.asg 15 (.call 35 (.cons (.x 1) (.cons (.x 2) (.cons (.x 10) (.cons (.c (.int 0)) .nil))))))
 (.cons (.asg 16 (.new 37 (.cons (.x 2) (.cons (.x 11) (.cons (.x 7) (.cons (.x 8) (.cons (.c (.bool true)) .nil))))))) lw2b))
theorem lw2b_q (D : LD cx) {l : List Int} {T : List (List Nat)} {F : List (Int × Int)} {t : OT × OT × OT} {qd ig : Bool} {ns : List Int} {tm : Tm} {most : Int} (o : NsOk ns) (ne : ns ≠ []) (e : Ext2 (atoms0, F0) (T, F)) (hT : T.length ≤ 5000) (hF : F.length ≤ 5000)
    (g : good (T, F) tm) (d : dep tm ≤ 3) (sz : szT tm ≤ 43) {e0 e5 e6 e10 e12 e13 e14 e17 e18 e19 e20 : Option SV} :
    wqSs (T0 glX) (Cq cx) (n + 10) [] lw2b [e0, some (.r 0), some (.r 1), some (.l (ns.map V.int)), some (.r 6), e5, e6, some (.p (.bool qd)), some (.p (.bool ig)), some (.p (.int most)), e10, some (.r 7), e12, e13, e14, some (.p (tv tm)), some (.r 11), e17, e18, e19, e20]
      (GU (l.map V.int) T F (nmE (cdF 0 ns)) t (wrG (Csf T F t qd ig) 11)) (doneQ KT) := by
  refine next_q (n := n + 9) D.P (by decide) (by decide) fun v l' hv hv' => ?_
  refine wr2_q (n := n + 8) (row := l'.map V.int) (T := T) (F := F) (t := t) (qd := qd) (ig := ig) (b := decide (v = 1)) (C := Csf T F t qd ig) (l := cdF 0 ns) D (cdF_nd ns 0) (by rw [cdF_len]; have := o.1; omega) ?_
  exact lw3_q D o ne e hT hF g d sz
theorem lw2_q (D : LD cx) {l : List Int} {T : List (List Nat)} {t : OT × OT × OT} {qd ig : Bool} {ns : List Int} {most : Int} (o : NsOk ns) (ne : ns ≠ []) (e : Ext2 (atoms0, F0) (T, F0)) (hT : T.length ≤ 130) {e0 e5 e6 e12 e13 e14 e15 e16 e17 e18 e19 e20 : Option SV} :
    wqSs (T0 glX) (Cq cx) (n + 10) [] lw2 [e0, some (.r 0), some (.r 1), some (.l (ns.map V.int)), some (.r 6), e5, e6, some (.p (.bool qd)), some (.p (.bool ig)), some (.p (.int most)), some (.l (stL ws5)), some (.r 7), e12, e13, e14, e15, e16, e17, e18, e19, e20]
      (Gt l T (nmE (cdF 0 ns)) t) (doneQ KT) := by
  have s3 : szB 3 = 43 := rfl
  have f0 : F0.length = 32 := rfl
  refine sown_q (n := n + 4) (X := X3 (nmE (cdF 0 ns)) t) D 3 0 rfl l (T, F0) e (by show T.length + szB 3 ≤ 4000; omega) (by show F0.length + szB 3 ≤ 4000; omega) fun x l' t' gx dx sx ex b c => ?_
  have b : t'.1.length ≤ T.length + szB 3 := b
  have c : t'.2.length ≤ F0.length + szB 3 := c
  refine wr1_q (n := n + 8) (row := l'.map V.int) (T := t'.1) (F := t'.2) (cd := nmE (cdF 0 ns)) (t := t) (qd := qd) (ig := ig) (b := true) D ?_
  exact lw2b_q D o ne (e.trans ex) (by omega) (by omega) gx dx sx
end
end Mine.L3

set_option maxHeartbeats 4000000
namespace Mine.L3
open Mine Mine.PJ Mine.G
section
variable {cx : Cx} {n : Nat}
noncomputable def mosts : List Int := [1201, 999, 1200, 500, 0]
noncomputable def lwTb : PSs := (.cons (.for1 12 (.range (.bin .Add (.c (.int 3)) (.call 34 (.cons (.x 1) (.cons (.c (.int 5)) .nil))))) tbTurn) lw2)
theorem lwTb_q (D : LD cx) {l : List Int} {qd ig : Bool} {ns : List Int} {most : Int} (o : NsOk ns) (ne : ns ≠ []) {e0 e5 e6 e12 e13 e14 e15 e16 e17 e18 e19 e20 : Option SV} :
    wqSs (T0 glX) (Cq cx) (n + 10) [] lwTb [e0, some (.r 0), some (.r 1), some (.l (ns.map V.int)), some (.r 6), e5, e6, some (.p (.bool qd)), some (.p (.bool ig)), some (.p (.int most)), some (.l (stL ws5)), some (.r 7), e12, e13, e14, e15, e16, e17, e18, e19, e20]
      (Gt l atoms0 (nmE (cdF 0 ns)) ([], [(7, (1000, [120, 102, 121]))], [])) (doneQ KT) := by
  refine nextT (n := n + 9) D (by decide) (by decide) fun v l1 hv hv' => ⟨?_, ?_⟩
  · show (3 + v).natAbs < 2 ^ 62; omega
  · refine Eq.mpr qFor_eq ?_
    refine tb_loop (n := n + 7) D (List.range (3 + v).toNat) l1 atoms0 _ 0 e12 e13 e14 (Ext2.refl _) (by decide) ⟨by decide, by decide, by decide⟩ (by rw [List.length_range]; omega) fun l' T' t' e12 e13 e14 e hT _ => ?_
    exact lw2_q D o ne e hT
noncomputable def lwSet : PSs := (.cons (.asg 7 (.cmp .Eq (.call 34 (.cons (.x 1) (.cons (.c (.int 2)) .nil))) (.c (.int 0))))
 (.cons (.asg 8 (.cmp .Eq (.call 34 (.cons (.x 1) (.cons (.c (.int 4)) .nil))) (.c (.int 3))))
 (.cons (.asg 9 (.sub (.list (.cons (.c (.int 1201)) (.cons (.c (.int 999)) (.cons (.c (.int 1200)) (.cons (.c (.int 500)) (.cons (.c (.int 0)) .nil)))))) (.call 34 (.cons (.x 1) (.cons (.c (.int 5)) .nil)))))
 (.cons (.asg 10 (.list (.cons (.c (.str [45])) (.cons (.c (.str [102, 111, 111])) (.cons (.c (.str [94])) (.cons (.c (.str [109, 121, 32, 111, 112])) (.cons (.c (.str [126])) .nil)))))))
 (.cons (.asg 11 (.new 38 (.cons (.x 2) (.cons (.c (.bool false)) .nil)))) lwTb)))))
theorem lwSet_q (D : LD cx) {l ns : List Int} (o : NsOk ns) (ne : ns ≠ []) {e0 e5 e6 e7 e8 e9 e10 e11 e12 e13 e14 e15 e16 e17 e18 e19 e20 : Option SV} :
    wqSs (T0 glX) (Cq cx) (n + 10) [] lwSet [e0, some (.r 0), some (.r 1), some (.l (ns.map V.int)), some (.r 6), e5, e6, e7, e8, e9, e10, e11, e12, e13, e14, e15, e16, e17, e18, e19, e20] (Gn l ns) (doneQ KT) := by
  refine nextN (n := n + 9) D (by decide) (by decide) fun v1 l1 _ _ => ?_
  refine nextN (n := n + 9) D (by decide) (by decide) fun v2 l2 _ _ => ?_
  refine nextN (n := n + 9) D (by decide) (by decide) fun v l3 hv hv' => ?_
  have hk : v.toNat < mosts.length := by show v.toNat < 5; omega
  refine ⟨v.toNat, .int (mosts.getD v.toNat 0), idxI hv (by show v < (5 : Int); exact hv'), ?_, ?_⟩
  · show (mosts.map V.int)[v.toNat]? = _
    rw [List.getElem?_map, getD_get hk]; rfl
  · refine tbInit_q (n := n + 5) (row := l3.map V.int) (T := atoms0) (F := F0) (cd := nmE (cdF 0 ns)) D.P ?_
    exact lwTb_q D o ne
noncomputable def lwTop : PSs := (.cons (.asg 2 (.new 39 .nil))
 (.cons (.asg 3 (.list .nil))
 (.cons (.asg 4 .dict)
 (.cons (.for1 5 (.range (.bin .Add (.c (.int 1)) (.call 34 (.cons (.x 1) (.cons (.c (.int 3)) .nil))))) numTurn) lwSet))))
theorem law_eq : b_law = .cons (.asg 1 (.call 40 (.cons (.x 0) .nil))) lwTop := rfl
theorem lwTop_q (D : LD cx) {l : List Int} {e0 : Option SV} :
    wqSs (T0 glX) (Cq cx) (n + 10) [] lwTop [e0, some (.r 0), none, none, none, none, none, none, none, none, none, none, none, none, none, none, none, none, none, none, none] [.list (l.map V.int)] (doneQ KT) := by
  refine syInit_q (n := n + 6) (row := l.map V.int) D.P ?_
  refine nextN (n := n + 9) (ns := []) (l := l) D (by decide) (by decide) fun v l1 hv hv' => ⟨?_, ?_⟩
  · show (1 + v).natAbs < 2 ^ 62; omega
  · refine Eq.mpr qFor_eq ?_
    rw [List.range_eq_range']
    refine num_loop (n := n + 9) D (1 + v).toNat [] l1 none none ⟨Nat.zero_le _, nofun⟩ (by rw [List.length_nil]; omega) fun ns' l' e5 e6 o h => ?_
    exact lwSet_q D o fun z => by rw [z, List.length_nil] at h; omega
theorem law_body {hh : H1} {p : Program} {w : World} {g0 : Heap} {os : OsState} {sa : Addr} {ys : List Int} {vs : List Value} (ok : CxOk (cxL hh p w g0 os)) (hs : g0.IsList sa vs.toArray) (hv : Reps g0 (ys.map .int) vs) (hl : ys.length ≤ lim) :
    wpSs (cxL hh p w g0 os) 20 b_law (rho0 1 21 [] [.ref sa]) (fun _ => none) (doneW fun v _ => v = .bool true) := by
  have D := ld_of ok
  show wpSs (cxL hh p w g0 os) 20 b_law [some (.ref sa), none, none, none, none, none, none, none, none, none, none, none, none, none, none, none, none, none, none, none, none] (fun _ => none) _
  rw [law_eq, Ss_cons, S_asg, E_call, Es_cons, E_xs rfl, Es_nil]
  refine row_spec (n := 19) ok D.P.d__law_row hs hv hl fun r l H1 _ _ hr1 => ?_
  rw [seqK_next]
  have W0 : Wo ⟨fun _ => r, fun _ => r⟩ [.list (l.map V.int)] H1 := by
    refine ⟨fun i o e => ?_, fun i o e => ?_, fun i j hi hj _ => ?_, fun i j hi hj _ => ?_⟩
    · cases i with
      | zero => obtain rfl := Option.some.inj e; exact ⟨hr1, rfl⟩
      | succ i => contradiction
    · cases i with
      | zero => obtain rfl := Option.some.inj e; trivial
      | succ i => contradiction
    · have hi : i < 1 := hi
      have hj : j < 1 := hj
      omega
    · have hi : i < 1 := hi
      have hj : j < 1 := hj
      omega
  have env : ∀ i s, nthE [none, some (.r 0), none, none, none, none, none, none, none, none, none, none, none, none, none, none, none, none, none, none, none] i = some s → i = 1 ∧ s = .r 0 := fun i s e => by
    match i with
    | 0 => contradiction
    | 1 => exact ⟨rfl, (Option.some.inj e).symm⟩
    | i + 2 => exact absurd e (nthE_none 19 i s)
  refine sSs D.P.tb lwTop (pr := []) (ex := []) (lwTop_q (n := 10) (e0 := none) (l := l) D) (Go.refl ⟨fun _ => r, fun _ => r⟩ 1 H1) W0 ⟨rfl, fun i xs u e => (nomatch (env i _ e).2), fun i s e => ?_, fun i j xs s c ne e1 => (nomatch (env i _ e1).2), fun e he => absurd he (nofun)⟩ fun w' Γ' H' flq fl env' ρ' g' _ W' E' f h' => ?_
  · obtain ⟨rfl, rfl⟩ := env i s e
    exact ⟨_, rfl, Nat.zero_lt_one, rfl⟩
  · cases flq with
    | next => cases fl <;> first | exact f.elim | exact nomatch (show SV.p .none = .p (.bool true) from h')
    | brk => exact h'.elim
    | ret s =>
      cases fl with
      | ret v =>
        have h' : s = .p (.bool true) := h'
        subst h'
        exact f
      | _ => exact f.elim
end
end Mine.L3

set_option maxHeartbeats 8000000
namespace Mine.L3
open Mine Mine.PJ
theorem an_nd : (anP ++ anX).Nodup := by decide +kernel
theorem post_ok (args : List WData) : PySem.Challenge.rw_rh0094_03.row.claim.post args (.bool true) args = true := by kernel_rfl
theorem close {hh : H1} {v : Program} {lo : List Str} {XP : (Str → Option Value) → Heap → Prop} {as0 : List Addr} {e0 : ∀ P, as0 = (hh.h P).map (·.1)} {d : DefRec} (imp_ok : importsNone v = true) (dn : d.name = "law") :
    WalkO v lo XP (kHook hh.h as0 e0).says PySem.Challenge.rw_rh0094_03.row.toRowW d [] (fun f vs => call f vs) := by
  intro w s₀ s₁ mg mb G Y fa o pm cd doc dV kV ho hd hcd hD hmg hg args vals as hpre hlay hrd hwl hlo
  have KX := kIn_of Y
  refine Ground.open G ?_
  intro T B D TE TW
  wrow_args hpre hlay hrd hwl hlo
  refine enter_call ?_
  rename_i ns h1 h2 h3 h4 h5 as1 as2 sa vs as3 hL ra hw r0 hI hr hlen htr
  have hfa : fa = 509 := by
    have e1 := mg_of KX T.g (hh.F.la w.params)
    have e2 : mg "law" = some (.ref fa) := dn ▸ hmg
    rw [e1] at e2; cases e2; rfl
  subst hfa
  have hl : ns.length ≤ lim := by unfold lim; omega
  have ok : CxOk (cxL hh PySem.Challenge.rw_rh0094_03.row.prog w s₁.heap s₁.os) := cxOk_of KX T.g T.b T.builtins T.nolimit (by obtain ⟨mm, ⟨o, es, ep, e, _⟩, _⟩ := (T.seer imp_ok).mods; exact ⟨o, e⟩) an_nd (hh.F.gl _) (hh.F.bl _)
  refine law_good (cx := cxL hh PySem.Challenge.rw_rh0094_03.row.prog w s₁.heap s₁.os) (n := 21) (by decide) rfl rfl hg (fun _ => rfl) (post_ok _) ?_
  exact callOk_def ok (ld_of ok).d_law (Nat.le_refl _) (Nat.le_refl _) (law_body ok hL (ints_reps hI) hl)
end Mine.L3

set_option Elab.async true
set_option maxHeartbeats 8000000
theorem Mine.Q.hd.tw7891218201086646124 : True := trivial
theorem Mine.Q.hd.tw13140465622081023319 : True := trivial
theorem Mine.Q.hd.tw15095506436522783765 : True := trivial
theorem Mine.Q.hd.tw5428495091542029275 : True := trivial
theorem Mine.Q.hd.tw17912446283790122946 : True := trivial
theorem Mine.Q.hd.tw844618051750320741 : True := trivial
theorem Mine.Q.hd.tw17120049605942846252 : True := trivial
theorem Mine.Q.hd.tw15153555735514100310 : True := trivial
theorem Mine.Q.hd.tw4198539270498860642 : True := trivial
theorem Mine.Q.hd.tw5672142311467967860 : True := trivial
theorem Mine.Q.hd.tw6892945282753903749 : True := trivial
theorem Mine.Q.hd.tw15466628785720630401 : True := trivial
theorem Mine.Q.hd.tw11308262968781936872 : True := trivial
theorem Mine.Q.hd.tw2423970043480996683 : True := trivial
theorem Mine.Q.hd.tw8350907874753194219 : True := trivial
theorem Mine.Q.hd.tw14189726509556672563 : True := trivial
theorem Mine.Q.hd.tw14410602094919150560 : True := trivial
theorem Mine.Q.hd.tw11891346453450600533 : True := trivial
theorem Mine.Q.hd.tw7427704488188947965 : True := trivial
theorem Mine.Q.hd.tw17137934240645896065 : True := trivial
theorem Mine.Q.hd.tw3630162596801824278 : True := trivial
theorem Mine.Q.hd.tw8683669107717584998 : True := trivial
theorem Mine.Q.hd.tw8754599213272200841 : True := trivial
theorem Mine.Q.hd.tw7829901326778077549 : True := trivial
theorem Mine.Q.hd.tw15455576389239528154 : True := trivial
theorem Mine.Q.hd.tw11860063319504086129 : True := trivial
theorem Mine.Q.hd.tw7970543028497485785 : True := trivial
theorem Mine.Q.hd.tw2484547763237465362 : True := trivial
theorem Mine.Q.hd.tw10749371292669449073 : True := trivial
theorem Mine.Q.hd.tw15724622752993785473 : True := trivial
theorem Mine.Q.hd.tw10040101164709580851 : True := trivial
theorem Mine.Q.hd.tw12329676559814780593 : True := trivial
theorem Mine.Q.hd.tw829083951094561622 : True := trivial
theorem Mine.Q.hd.tw16685047171141102788 : True := trivial
theorem Mine.Q.hd.tw4756385627426250 : True := trivial
theorem Mine.Q.hd.tw6960198964830238291 : True := trivial
theorem Mine.Q.hd.tw10853923062103217212 : True := trivial
theorem Mine.Q.hd.tw4372082884475381610 : True := trivial
theorem Mine.Q.hd.tw11662285410382365413 : True := trivial
theorem Mine.Q.hd.tw6489837202263195512 : True := trivial
theorem Mine.Q.hd.tw10742978356836535130 : True := trivial
theorem Mine.Q.hd.tw15841882695493030448 : True := trivial
theorem Mine.Q.hd.tw12775759465235793114 : True := trivial
theorem Mine.Q.hd.tw11931234305060403425 : True := trivial
theorem Mine.Q.hd.tw524837261478274431 : True := trivial
theorem Mine.Q.hd.tw3955729112317485849 : True := trivial
theorem Mine.Q.hd.tw8058926224068261280 : True := trivial
theorem Mine.Q.hd.tw205854851003918817 : True := trivial
theorem Mine.Q.hd.tw13742721505542980885 : True := trivial
theorem Mine.Q.hd.tw16527828006916237877 : True := trivial
theorem Mine.Q.hd.tw9165962754066979168 : True := trivial
theorem Mine.Q.hd.tw16680068981569699285 : True := trivial
theorem Mine.Q.hd.tw9616014984975179080 : True := trivial
theorem Mine.Q.hd.tw9579277216869544023 : True := trivial
theorem Mine.Q.hd.tw6831652480784725172 : True := trivial
theorem Mine.Q.hd.tw2975775273769925685 : True := trivial
theorem Mine.Q.hd.tw12221186744293057323 : True := trivial
theorem Mine.Q.hd.tw6156424889414985113 : True := trivial
theorem Mine.Q.hd.tw938492553464377231 : True := trivial
theorem Mine.Q.hd.tw17519101165596381581 : True := trivial
theorem Mine.Q.hd.tw13981015281733614352 : True := trivial
theorem Mine.Q.hd.tw13693453905053076483 : True := trivial
theorem Mine.Q.hd.tw4636917647231441164 : True := trivial
theorem Mine.Q.hd.tw16275587816141384366 : True := trivial
theorem Mine.Q.hd.tw3779207904453295736 : True := trivial
theorem Mine.Q.hd.tw14159472105732870653 : True := trivial
theorem Mine.Q.hd.tw12210687535122251892 : True := trivial
theorem Mine.Q.hd.tw17886450880963914682 : True := trivial
theorem Mine.Q.hd.tw6668794327085692892 : True := trivial
theorem Mine.Q.hd.tw1175881552622464606 : True := trivial
theorem Mine.Q.hd.tw6911339838659411220 : True := trivial
theorem Mine.Q.hd.tw191033512385101244 : True := trivial
theorem Mine.Q.hd.tw17643629950739205176 : True := trivial
theorem Mine.Q.hd.tw3088598485713124149 : True := trivial
theorem Mine.Q.hd.tw14977975331232052470 : True := trivial
theorem Mine.Q.hd.tw207953481913026263 : True := trivial
theorem Mine.Q.hd.tw6681801571312011440 : True := trivial
theorem Mine.Q.hd.tw7482007179326118707 : True := trivial
theorem Mine.Q.hd.tw3279971375570700884 : True := trivial
theorem Mine.Q.hd.tw5145086888359705461 : True := trivial
theorem Mine.Q.hd.tw10129077709450230454 : True := trivial
theorem Mine.Q.hd.tw14942527934276697316 : True := trivial
theorem Mine.Q.hd.tw6712599322937761101 : True := trivial
theorem Mine.Q.hd.tw4065702126436995761 : True := trivial
theorem Mine.Q.hd.tw13585561253232947081 : True := trivial
theorem Mine.Q.hd.tw17005545289864403213 : True := trivial
theorem Mine.Q.hd.tw8478535742720418969 : True := trivial
theorem Mine.Q.hd.tw243187099428620653 : True := trivial
theorem Mine.Q.hd.tw9294797854675641719 : True := trivial
theorem Mine.Q.hd.tw1791223544141239757 : True := trivial
theorem Mine.Q.hd.tw18069825610233619436 : True := trivial
theorem Mine.Q.hd.tw11360069870151763568 : True := trivial
theorem Mine.Q.hd.tw12305834750088058544 : True := trivial
theorem Mine.Q.hd.tw15974840384540945119 : True := trivial
theorem Mine.Q.hd.tw6599618060772509261 : True := trivial
theorem Mine.Q.hd.tw8444446939146443727 : True := trivial
theorem Mine.Q.hd.tw11240324153536059958 : True := trivial
theorem Mine.Q.hd.tw11662302631397519697 : True := trivial
theorem Mine.Q.hd.tw10555853523381395709 : True := trivial
theorem Mine.Q.hd.tw13815615961721026135 : True := trivial
theorem Mine.Q.hd.tw6711098150076160543 : True := trivial
theorem Mine.Q.hd.tw17783154346313961128 : True := trivial
theorem Mine.Q.hd.tw6147518825799543443 : True := trivial
theorem Mine.Q.hd.tw12623425564297287442 : True := trivial
theorem Mine.Q.hd.tw15733961165076114137 : True := trivial
theorem Mine.Q.hd.tw5276480816367069104 : True := trivial
theorem Mine.Q.hd.tw4858725512724795861 : True := trivial
theorem Mine.Q.hd.tw13825281191339626340 : True := trivial
theorem Mine.Q.hd.tw6794796323832459650 : True := trivial
theorem Mine.Q.hd.tw11770759969255813156 : True := trivial
theorem Mine.Q.hd.tw14264151879982906326 : True := trivial
theorem Mine.Q.hd.tw13016092266122299372 : True := trivial
theorem Mine.Q.hd.tw15083881970598027826 : True := trivial
theorem Mine.Q.hd.tw15920892232559103999 : True := trivial
theorem Mine.Q.hd.tw16133522453944578956 : True := trivial
theorem Mine.Q.hd.tw6216807663964364225 : True := trivial
theorem Mine.Q.hd.tw1469020428663365775 : True := trivial
theorem Mine.Q.hd.tw9271109916430313771 : True := trivial
theorem Mine.Q.hd.tw6474673009364490592 : True := trivial
theorem Mine.Q.hd.tw11276731429388903587 : True := trivial
theorem Mine.Q.hd.tw4912005217360379667 : True := trivial
theorem Mine.Q.hd.tw17491369824612196977 : True := trivial
theorem Mine.Q.hd.tw17606814409069879655 : True := trivial
theorem Mine.Q.hd.tw2614304244100806907 : True := trivial
theorem Mine.Q.hd.tw5104595375588942643 : True := trivial
theorem Mine.Q.hd.tw11292441736946379998 : True := trivial
theorem Mine.Q.hd.tw8968586248322219498 : True := trivial
theorem Mine.Q.hd.tw14768961620276172320 : True := trivial
theorem Mine.Q.hd.tw4900458558888630985 : True := trivial
theorem Mine.Q.hd.tw5300958424569009926 : True := trivial
theorem Mine.Q.hd.tw10101971132677290038 : True := trivial
theorem Mine.Q.hd.tw1173499263263454580 : True := trivial
theorem Mine.Q.hd.tw18444039213112763002 : True := trivial
theorem Mine.Q.hd.tw11621006998219349945 : True := trivial
theorem Mine.Q.hd.tw11834762603919710364 : True := trivial
theorem Mine.Q.hd.tw6241377580941669731 : True := trivial
theorem Mine.Q.hd.tw7737896594532365226 : True := trivial
theorem Mine.Q.hd.tw6584309811360339686 : True := trivial
theorem Mine.Q.hd.tw8059276648069834820 : True := trivial
theorem Mine.Q.hd.tw1991115539885762705 : True := trivial
theorem Mine.Q.hd.tw5444496268496314569 : True := trivial
theorem Mine.Q.hd.tw9072546878412915368 : True := trivial
theorem Mine.Q.hd.tw12106486362453881625 : True := trivial
theorem Mine.Q.hd.tw12218483578299935045 : True := trivial
theorem Mine.Q.hd.tw6014933024820217421 : True := trivial
theorem Mine.Q.hd.tw16492539541746816853 : True := trivial
theorem Mine.Q.hd.tw12531004486558306315 : True := trivial
theorem Mine.Q.hd.tw7334799823360690431 : True := trivial
theorem Mine.Q.hd.tw6871383607575853671 : True := trivial
theorem Mine.Q.hd.tw3817988044312618409 : True := trivial
theorem Mine.Q.hd.tw13513105020605646355 : True := trivial
theorem Mine.Q.hd.tw10643614140272937169 : True := trivial
theorem Mine.Q.hd.tw4956991757362829451 : True := trivial
theorem Mine.Q.hd.tw4896461560201020521 : True := trivial
theorem Mine.Q.hd.tw4918309599926353139 : True := trivial
theorem Mine.Q.hd.tw9250617271818679035 : True := trivial
theorem Mine.Q.hd.tw3432979330106578971 : True := trivial
theorem Mine.Q.hd.tw12644963963476691215 : True := trivial
theorem Mine.Q.hd.tw7671768647848113747 : True := trivial
theorem Mine.Q.hd.tw12831458304173177498 : True := trivial
theorem Mine.Q.hd.tw8861959199045429025 : True := trivial
theorem Mine.Q.hd.tw15592965989540277356 : True := trivial
theorem Mine.Q.hd.tw18157425260332429748 : True := trivial
theorem Mine.Q.hd.tw10179434236888645607 : True := trivial
theorem Mine.Q.hd.tw6492228826839697248 : True := trivial
theorem Mine.Q.hd.tw2900512530555286193 : True := trivial
theorem Mine.Q.hd.tw7782138220547585214 : True := trivial
theorem Mine.Q.hd.tw15398408573788360204 : True := trivial
theorem Mine.Q.hd.tw4273038751760193566 : True := trivial
theorem Mine.Q.hd.tw16402252784957876941 : True := trivial
theorem Mine.Q.hd.tw15209713819822343238 : True := trivial
theorem Mine.Q.hd.tw7406274446694274253 : True := trivial
theorem Mine.Q.hd.tw9573706052066284325 : True := trivial
theorem Mine.Q.hd.tw2192154178758381616 : True := trivial
theorem Mine.Q.hd.tw10196723339700401280 : True := trivial
theorem Mine.Q.hd.tw201452942104613641 : True := trivial
theorem Mine.Q.hd.tw8333126890427093064 : True := trivial
theorem Mine.Q.hd.tw2367010654244041017 : True := trivial
theorem Mine.Q.hd.tw11977151725115026163 : True := trivial
theorem Mine.Q.hd.tw15115293366448797685 : True := trivial
theorem Mine.Q.hd.tw2017003803569876488 : True := trivial
theorem Mine.Q.hd.tw10499718284656358546 : True := trivial
theorem Mine.Q.hd.tw1238847111368601814 : True := trivial
theorem Mine.Q.hd.tw12582088908367390034 : True := trivial
theorem Mine.Q.hd.tw8995015149626709214 : True := trivial
theorem Mine.Q.hd.tw13797986779277857950 : True := trivial
theorem Mine.Q.hd.tw9414067965336219822 : True := trivial
theorem Mine.Q.hd.tw7064568808922942916 : True := trivial
theorem Mine.Q.hd.tw2936673365052958243 : True := trivial
theorem Mine.Q.hd.tw10067699556605640185 : True := trivial
theorem Mine.Q.hd.tw10655897461247635607 : True := trivial
theorem Mine.Q.hd.tw1820067607954719646 : True := trivial
theorem Mine.Q.hd.tw15403179356732851779 : True := trivial
theorem Mine.Q.hd.tw1572923382919298415 : True := trivial
theorem Mine.Q.hd.tw13374434531849660480 : True := trivial
theorem Mine.Q.hd.tw3719756977245662873 : True := trivial
theorem Mine.Q.hd.tw7472686092829446192 : True := trivial
theorem Mine.Q.hd.tw12628647675662076796 : True := trivial
theorem Mine.Q.hd.tw11046846713068532102 : True := trivial
theorem Mine.Q.hd.tw2795269348502581718 : True := trivial
theorem Mine.Q.hd.tw3261375959634906957 : True := trivial
theorem Mine.Q.hd.tw17666924836031989624 : True := trivial
theorem Mine.Q.hd.tw14155572456991801078 : True := trivial
theorem Mine.Q.hd.tw3875494800283307896 : True := trivial
theorem Mine.Q.hd.tw14916102404091395481 : True := trivial
theorem Mine.Q.hd.tw7701305140697991224 : True := trivial
theorem Mine.Q.hd.tw1574838220128592570 : True := trivial
theorem Mine.Q.hd.tw13776903131658224748 : True := trivial
theorem Mine.Q.hd.tw10026763171787714938 : True := trivial
theorem Mine.Q.hd.tw16111719539545469936 : True := trivial
theorem Mine.Q.hd.tw10603428521522445647 : True := trivial
theorem Mine.Q.hd.tw3596890209277029240 : True := trivial
theorem Mine.Q.hd.tw7602332049566814656 : True := trivial
theorem Mine.Q.hd.tw15791197676994706556 : True := trivial
theorem Mine.Q.hd.tw15878318974777794982 : True := trivial
theorem Mine.Q.hd.tw14160711472537900341 : True := trivial
theorem Mine.Q.hd.tw7416650824798621252 : True := trivial
theorem Mine.Q.hd.tw16128759153045249107 : True := trivial
theorem Mine.Q.hd.tw12128492383690142956 : True := trivial
theorem Mine.Q.hd.tw18352710037575816802 : True := trivial
theorem Mine.Q.hd.tw12319270352844800027 : True := trivial
theorem Mine.Q.hd.tw774897804068513722 : True := trivial
theorem Mine.Q.hd.tw4587365200336531940 : True := trivial
theorem Mine.Q.hd.tw9215245381863477374 : True := trivial
theorem Mine.Q.hd.tw17328725725405323763 : True := trivial
theorem Mine.Q.hd.tw1750816973494121531 : True := trivial
theorem Mine.Q.hd.tw9389103141884807768 : True := trivial
theorem Mine.Q.hd.tw11055414359329635168 : True := trivial
theorem Mine.Q.hd.tw12066159159979665033 : True := trivial
theorem Mine.Q.hd.tw8904935393530276418 : True := trivial
theorem Mine.Q.hd.tw16151330867012174520 : True := trivial
theorem Mine.Q.hd.tw2755801186265022047 : True := trivial
theorem Mine.Q.hd.tw18392690285002325062 : True := trivial
theorem Mine.Q.hd.tw18147668022513216797 : True := trivial
theorem Mine.Q.hd.tw10899895987517074240 : True := trivial
theorem Mine.Q.hd.tw15874333082773133124 : True := trivial
theorem Mine.Q.hd.tw16597418866121900396 : True := trivial
theorem Mine.Q.hd.tw5883363696661713137 : True := trivial
theorem Mine.Q.hd.tw17275124361755857309 : True := trivial
theorem Mine.Q.hd.tw2773702025700500286 : True := trivial
theorem Mine.Q.hd.tw3218463122415412745 : True := trivial
theorem Mine.Q.hd.tw652836983756841832 : True := trivial
theorem Mine.Q.hd.tw12317459873554328024 : True := trivial
theorem Mine.Q.hd.tw14578290416461094762 : True := trivial
theorem Mine.Q.hd.tw8051839629852666776 : True := trivial
theorem Mine.Q.hd.tw12361423929951711489 : True := trivial
theorem Mine.Q.hd.tw5713891578884469041 : True := trivial
theorem Mine.Q.hd.tw259835737206062315 : True := trivial
theorem Mine.Q.hd.tw13992375144647431698 : True := trivial
theorem Mine.Q.hd.tw1842600103021996791 : True := trivial
theorem Mine.Q.hd.tw6101614332391257910 : True := trivial
theorem Mine.Q.hd.tw15907617698774223247 : True := trivial
theorem Mine.Q.hd.tw16999781484152167800 : True := trivial
theorem Mine.Q.hd.tw9706258368113967240 : True := trivial
theorem Mine.Q.hd.tw3071293502512497523 : True := trivial
theorem Mine.Q.hd.tw3268324914607780729 : True := trivial
theorem Mine.Q.hd.tw11795727877464440723 : True := trivial
theorem Mine.Q.hd.tw13283073027077945181 : True := trivial
theorem Mine.Q.hd.tw15228907963196627197 : True := trivial
theorem Mine.Q.hd.tw11576817264345568800 : True := trivial
theorem Mine.Q.hd.tw1572162113449495650 : True := trivial
theorem Mine.Q.hd.tw3610654293016985230 : True := trivial
theorem Mine.Q.hd.tw7128432973703360624 : True := trivial
theorem Mine.Q.hd.tw320408678595718206 : True := trivial
theorem Mine.Q.hd.tw14352913783710169866 : True := trivial
theorem Mine.Q.hd.tw12454243580769550829 : True := trivial
theorem Mine.Q.hd.tw9588517462936125551 : True := trivial
theorem Mine.Q.hd.tw2513451660941595761 : True := trivial
theorem Mine.Q.hd.tw3787853002274892826 : True := trivial
theorem Mine.Q.hd.tw11181668063793630871 : True := trivial
theorem Mine.Q.hd.tw11601723773159535712 : True := trivial
theorem Mine.Q.hd.tw1056569804148999575 : True := trivial
theorem Mine.Q.hd.tw8822800682720014438 : True := trivial
theorem Mine.Q.hd.tw17186353619562818380 : True := trivial
theorem Mine.Q.hd.tw10564173231057992007 : True := trivial
theorem Mine.Q.hd.tw9945385980759175796 : True := trivial
theorem Mine.Q.hd.tw8258711715653737470 : True := trivial
theorem Mine.Q.hd.tw2835915587024964235 : True := trivial
theorem Mine.Q.hd.tw10608794724352917615 : True := trivial
theorem Mine.Q.hd.tw11610879121830488708 : True := trivial
theorem Mine.Q.hd.tw10602299077372451255 : True := trivial
theorem Mine.Q.hd.tw2633462220244247665 : True := trivial
theorem Mine.Q.hd.tw10805255540523558021 : True := trivial
theorem Mine.Q.hd.tw7296548682244928964 : True := trivial
theorem Mine.Q.hd.tw17630707484343866726 : True := trivial
theorem Mine.Q.hd.tw14489593617293953028 : True := trivial
theorem Mine.Q.hd.tw5508913211625357037 : True := trivial
theorem Mine.Q.hd.tw18055536955238566958 : True := trivial
theorem Mine.Q.hd.tw11666104697628213720 : True := trivial
theorem Mine.Q.hd.tw6593171280111790542 : True := trivial
theorem Mine.Q.hd.tw13878686127171480976 : True := trivial
theorem Mine.Q.hd.tw9265622256324725397 : True := trivial
theorem Mine.Q.hd.tw14366148674275821573 : True := trivial
theorem Mine.Q.hd.tw9472071266257889500 : True := trivial
theorem Mine.Q.hd.tw1422647047191588398 : True := trivial
theorem Mine.Q.hd.tw15306451318190764814 : True := trivial
theorem Mine.Q.hd.tw5974967929675031331 : True := trivial
theorem Mine.Q.hd.tw1912645514674293228 : True := trivial
theorem Mine.Q.hd.tw6947550773722115627 : True := trivial
theorem Mine.Q.hd.tw18315248508184913722 : True := trivial
theorem Mine.Q.hd.tw11017608061799241520 : True := trivial
theorem Mine.Q.hd.tw751553317393373573 : True := trivial
theorem Mine.Q.hd.tw9736936154762548900 : True := trivial
theorem Mine.Q.hd.tw1127438568279753159 : True := trivial
theorem Mine.Q.hd.tw17218843837534946972 : True := trivial
theorem Mine.Q.hd.tw10593747252588949835 : True := trivial
theorem Mine.Q.hd.tw6034907471818238373 : True := trivial
theorem Mine.Q.hd.tw10185420908462610085 : True := trivial
theorem Mine.Q.hd.tw11123047097038164987 : True := trivial
theorem Mine.Q.hd.tw10607439133074829226 : True := trivial
theorem Mine.Q.hd.tw3016626611375163745 : True := trivial
theorem Mine.Q.hd.tw6377584018923693439 : True := trivial
theorem Mine.Q.hd.tw3606856703192268444 : True := trivial
theorem Mine.Q.hd.tw7938452869122528479 : True := trivial
theorem Mine.Q.hd.tw10914565877548680346 : True := trivial
theorem Mine.Q.hd.tw15447243960614738552 : True := trivial
theorem Mine.Q.hd.tw10575295485196379350 : True := trivial
theorem Mine.Q.hd.tw2144777638167694550 : True := trivial
theorem Mine.Q.hd.tw4877860347538053312 : True := trivial
theorem Mine.Q.hd.tw1090533960443113453 : True := trivial
theorem Mine.Q.hd.tw4107549150443196831 : True := trivial
theorem Mine.Q.hd.tw726777159588594108 : True := trivial
theorem Mine.Q.hd.tw5535860032256431958 : True := trivial
theorem Mine.Q.hd.tw2705138907928513570 : True := trivial
theorem Mine.Q.hd.tw15541643890383032936 : True := trivial
theorem Mine.Q.hd.tw12932254233657289870 : True := trivial
theorem Mine.Q.hd.tw3337418730873359550 : True := trivial
theorem Mine.Q.hd.tw6820002183907499436 : True := trivial
theorem Mine.Q.hd.tw2395156514817112252 : True := trivial
theorem Mine.Q.hd.tw9205365851074855951 : True := trivial
theorem Mine.Q.hd.tw828482416239295131 : True := trivial
theorem Mine.Q.hd.tw6798206556718417970 : True := trivial
theorem Mine.Q.hd.tw66152208766896025 : True := trivial
theorem Mine.Q.hd.tw2965855901360751692 : True := trivial
theorem Mine.Q.hd.tw15627553864114485831 : True := trivial
theorem Mine.Q.hd.tw11144587514839342541 : True := trivial
theorem Mine.Q.hd.tw13267505065953748931 : True := trivial
theorem Mine.Q.hd.tw13481692797894371808 : True := trivial
theorem Mine.Q.hd.tw9712341526263511516 : True := trivial
theorem Mine.Q.hd.tw5647356307198066014 : True := trivial
theorem Mine.Q.hd.tw9624501934016928233 : True := trivial
theorem Mine.Q.hd.tw17171549599064438536 : True := trivial
theorem Mine.Q.hd.tw898850295196575306 : True := trivial
theorem Mine.Q.hd.tw16101005595172637542 : True := trivial
theorem Mine.Q.hd.tw17067678687568579545 : True := trivial
theorem Mine.Q.hd.tw14409557019282711908 : True := trivial
theorem Mine.Q.hd.tw3379151216127357930 : True := trivial
theorem Mine.Q.hd.tw13441252756208447463 : True := trivial
theorem Mine.Q.hd.tw6215724557207268629 : True := trivial
theorem Mine.Q.hd.tw6537477807492329985 : True := trivial
theorem Mine.Q.hd.tw4015038958588192427 : True := trivial
theorem Mine.Q.hd.tw16825256719199966118 : True := trivial
theorem Mine.Q.hd.tw10654009241532562613 : True := trivial
theorem Mine.Q.hd.tw13815401493976062961 : True := trivial
theorem Mine.Q.hd.tw8048334903430179409 : True := trivial
theorem Mine.Q.hd.tw1649627424000868967 : True := trivial
theorem Mine.Q.hd.tw595848174287694590 : True := trivial
theorem Mine.Q.hd.tw9006961217000556294 : True := trivial
theorem Mine.Q.hd.tw11426003584447911117 : True := trivial
theorem Mine.Q.hd.tw3151621423567875095 : True := trivial
theorem Mine.Q.hd.tw16387600589263644780 : True := trivial
theorem Mine.Q.hd.tw5225180008293679502 : True := trivial
theorem Mine.Q.hd.tw4594224268365335276 : True := trivial
theorem Mine.Q.hd.tw8416738904268220733 : True := trivial
theorem Mine.Q.hd.tw2474121487783681822 : True := trivial
theorem Mine.Q.hd.tw12379829720951946719 : True := trivial
theorem Mine.Q.hd.tw11582197552588493371 : True := trivial
theorem Mine.Q.hd.tw7765081483035710951 : True := trivial
theorem Mine.Q.hd.tw4824304524935656571 : True := trivial
theorem Mine.Q.hd.tw820107296550293540 : True := trivial
theorem Mine.Q.hd.tw3087887138631532027 : True := trivial
theorem Mine.Q.hd.tw2421177868643206350 : True := trivial
theorem Mine.Q.hd.tw12983544848426057556 : True := trivial
theorem Mine.Q.hd.tw11660197722864796174 : True := trivial
theorem Mine.Q.hd.tw16094894197317299160 : True := trivial
theorem Mine.Q.hd.tw16992963360766345728 : True := trivial
theorem Mine.Q.hd.tw7998887211044715746 : True := trivial
theorem Mine.Q.hd.tw3426437842817968908 : True := trivial
theorem Mine.Q.hd.tw9003544204060976977 : True := trivial
theorem Mine.Q.hd.tw14954648477773975637 : True := trivial
theorem Mine.Q.hd.tw14542377069360597644 : True := trivial
theorem Mine.Q.hd.tw8906612426424969735 : True := trivial
theorem Mine.Q.hd.tw4359337734231814435 : True := trivial
theorem Mine.Q.hd.tw4332680076680680070 : True := trivial
theorem Mine.Q.hd.tw2348406133999000136 : True := trivial
theorem Mine.Q.hd.tw9654838917835371759 : True := trivial
theorem Mine.Q.hd.tw10748767473974586579 : True := trivial
theorem Mine.Q.hd.tw5078457472980346234 : True := trivial
theorem Mine.Q.hd.tw3482473226056634287 : True := trivial
theorem Mine.Q.hd.tw14026055854670692884 : True := trivial
theorem Mine.Q.hd.tw2818027396524912455 : True := trivial
theorem Mine.Q.hd.tw9927268967466996675 : True := trivial
theorem Mine.Q.hd.tw14918105098981379955 : True := trivial
theorem Mine.Q.hd.tw10307506759134984030 : True := trivial
theorem Mine.Q.hd.tw12081072928626583103 : True := trivial
theorem Mine.Q.hd.tw6955321747998046809 : True := trivial
theorem Mine.Q.hd.tw9719863314109982833 : True := trivial
theorem Mine.Q.hd.tw7468033262353456978 : True := trivial
theorem Mine.Q.hd.tw12241927867242071649 : True := trivial
theorem Mine.Q.hd.tw12257014612043979622 : True := trivial
theorem Mine.Q.hd.tw15291817845268023466 : True := trivial
theorem Mine.Q.hd.tw17367927515558499553 : True := trivial
theorem Mine.Q.hd.tw776788611006427673 : True := trivial
theorem Mine.Q.hd.tw17909139558180463915 : True := trivial
theorem Mine.Q.hd.tw7723620323924446664 : True := trivial
theorem Mine.Q.hd.tw4361467935050139502 : True := trivial
theorem Mine.Q.hd.tw1401650825695821826 : True := trivial
theorem Mine.Q.hd.tw1444601312606610489 : True := trivial
theorem Mine.Q.hd.tw15355269064099613301 : True := trivial
theorem Mine.Q.hd.tw15957953805863546362 : True := trivial
theorem Mine.Q.hd.tw10333975555875527593 : True := trivial
theorem Mine.Q.hd.tw7984171266194367970 : True := trivial
theorem Mine.Q.hd.tw8980313592655345904 : True := trivial
theorem Mine.Q.hd.tw16311163538044004020 : True := trivial
theorem Mine.Q.hd.tw9603241793619494194 : True := trivial
theorem Mine.Q.hd.tw17558139887239289626 : True := trivial
theorem Mine.Q.hd.tw13516012112165437460 : True := trivial
theorem Mine.Q.hd.tw4858136247534789959 : True := trivial
theorem Mine.Q.hd.tw5212468065538704704 : True := trivial
theorem Mine.Q.hd.tw2780954358284006232 : True := trivial
theorem Mine.Q.hd.tw11248921170405388127 : True := trivial
theorem Mine.Q.hd.tw14403448172978595827 : True := trivial
theorem Mine.Q.hd.tw9336879599375187781 : True := trivial
theorem Mine.Q.hd.tw1535231180465829762 : True := trivial
theorem Mine.Q.hd.tw5631263900969151634 : True := trivial
theorem Mine.Q.hd.tw8866738408681927787 : True := trivial
theorem Mine.Q.hd.tw1351833596283289153 : True := trivial
theorem Mine.Q.hd.tw17604413060459671602 : True := trivial
theorem Mine.Q.hd.tw11297546845724593501 : True := trivial
theorem Mine.Q.hd.tw9891114696098799137 : True := trivial
theorem Mine.Q.hd.tw1372320381582530654 : True := trivial
theorem Mine.Q.hd.tw8426933443259139144 : True := trivial
theorem Mine.Q.hd.tw10339418980590412130 : True := trivial
theorem Mine.Q.hd.tw1595132055540218572 : True := trivial
theorem Mine.Q.hd.tw13496431834435508260 : True := trivial
theorem Mine.Q.hd.tw10393276803306412422 : True := trivial
theorem Mine.Q.hd.tw15277385954804714630 : True := trivial
theorem Mine.Q.hd.tw13754686859469231902 : True := trivial
theorem Mine.Q.hd.tw18445836414057632183 : True := trivial
theorem Mine.Q.hd.tw16464945041974671424 : True := trivial
theorem Mine.Q.hd.tw5179186476270713065 : True := trivial
theorem Mine.Q.hd.tw9654331209689135374 : True := trivial
theorem Mine.Q.hd.tw16024452008522816955 : True := trivial
theorem Mine.Q.hd.tw2084723084098826008 : True := trivial
theorem Mine.Q.hd.tw10429541573218683785 : True := trivial
theorem Mine.Q.hd.tw5711489716703607833 : True := trivial
theorem Mine.Q.hd.tw7027317152310954218 : True := trivial
theorem Mine.Q.hd.tw17452346556709086548 : True := trivial
theorem Mine.Q.hd.tw9109487208173088580 : True := trivial
theorem Mine.Q.hd.tw7807541369845179673 : True := trivial
theorem Mine.Q.hd.tw17724709445968879262 : True := trivial
theorem Mine.Q.hd.tw16030455954079722217 : True := trivial
theorem Mine.Q.hd.tw1728955853416136418 : True := trivial
theorem Mine.Q.hd.tw8239082449414636256 : True := trivial
theorem Mine.Q.hd.tw2635333122630595880 : True := trivial
theorem Mine.Q.hd.tw8320764905639215358 : True := trivial
theorem Mine.Q.hd.tw11353754606522366778 : True := trivial
theorem Mine.Q.hd.tw8652360671670436017 : True := trivial
theorem Mine.Q.hd.tw17724719830094348746 : True := trivial
theorem Mine.Q.hd.tw12817108252307477060 : True := trivial
theorem Mine.Q.hd.tw18411675381597028170 : True := trivial
theorem Mine.Q.hd.tw2389579518576422017 : True := trivial
theorem Mine.Q.hd.tw12139043420435973794 : True := trivial
theorem Mine.Q.hd.tw143893392850774895 : True := trivial
theorem Mine.Q.hd.tw14545027322759091971 : True := trivial
theorem Mine.Q.hd.tw9495084900718248381 : True := trivial
theorem Mine.Q.hd.tw15994406917996954618 : True := trivial
theorem Mine.Q.hd.tw16584057363753001292 : True := trivial
theorem Mine.Q.hd.tw13740116340756397230 : True := trivial
theorem Mine.Q.hd.tw14902256227288214784 : True := trivial
theorem Mine.Q.hd.tw2003697951086132836 : True := trivial
theorem Mine.Q.hd.tw6544207180810545863 : True := trivial
theorem Mine.Q.hd.tw12855421441116682057 : True := trivial
theorem Mine.Q.hd.tw1702639787250225261 : True := trivial
theorem Mine.Q.hd.tw14199706615527838514 : True := trivial
theorem Mine.Q.hd.tw8364925159378562316 : True := trivial
theorem Mine.Q.hd.tw6064914988600730540 : True := trivial
theorem Mine.Q.hd.tw14457572410276179859 : True := trivial
theorem Mine.Q.hd.tw2105716371930140346 : True := trivial
theorem Mine.Q.hd.tw7241741144917172417 : True := trivial
theorem Mine.Q.hd.tw18325268160912089195 : True := trivial
theorem Mine.Q.hd.tw9406756936193589978 : True := trivial
theorem Mine.Q.hd.tw11482440064819646558 : True := trivial
theorem Mine.Q.hd.tw737953460279389810 : True := trivial
theorem Mine.Q.hd.tw1179993180646371014 : True := trivial
theorem Mine.Q.hd.tw1705959307035821995 : True := trivial
theorem Mine.Q.hd.tw6493125057855691959 : True := trivial
theorem Mine.Q.hd.tw17832818088396936778 : True := trivial
theorem Mine.Q.hd.tw1545872781624098830 : True := trivial
theorem Mine.Q.hd.tw1656839508727902228 : True := trivial
theorem Mine.Q.hd.tw154036583502702755 : True := trivial
theorem Mine.Q.hd.tw6642713172711149085 : True := trivial
theorem Mine.Q.hd.tw16791819922884066807 : True := trivial
theorem Mine.Q.hd.tw6159704389196509282 : True := trivial
theorem Mine.Q.hd.tw9267355493269389291 : True := trivial
theorem Mine.Q.hd.tw14941455537910568331 : True := trivial
theorem Mine.Q.hd.tw11660135444323827354 : True := trivial
theorem Mine.Q.hd.tw9116322315796601023 : True := trivial
theorem Mine.Q.hd.tw3268539618620549676 : True := trivial
theorem Mine.Q.hd.tw9900907135903890152 : True := trivial
theorem Mine.Q.hd.tw12212673173653003000 : True := trivial
theorem Mine.Q.hd.tw3510210144806492259 : True := trivial
theorem Mine.Q.hd.tw8188775512771277488 : True := trivial
theorem Mine.Q.hd.tw5922587478115133409 : True := trivial
theorem Mine.Q.hd.tw4465358990180542299 : True := trivial
theorem Mine.Q.hd.tw9776799858947328789 : True := trivial
theorem Mine.Q.hd.tw16768373498126294101 : True := trivial
theorem Mine.Q.hd.tw4082077966979429888 : True := trivial
theorem Mine.Q.hd.tw11483149856934329680 : True := trivial
theorem Mine.Q.hd.tw5622152810647698390 : True := trivial
theorem Mine.Q.hd.tw1022923430508496914 : True := trivial
theorem Mine.Q.hd.tw11556124621525369366 : True := trivial
theorem Mine.Q.hd.tw4164244853374747118 : True := trivial
theorem Mine.Q.hd.tw4011885445829214056 : True := trivial
theorem Mine.Q.hd.tw18132297994068338938 : True := trivial
theorem Mine.Q.hd.tw18202274461112879184 : True := trivial
theorem Mine.Q.hd.tw5790174495316967436 : True := trivial
theorem Mine.Q.hd.tw11017549874465612638 : True := trivial
theorem Mine.Q.hd.tw16615711966373345316 : True := trivial
theorem Mine.Q.hd.tw15528330068777790305 : True := trivial
theorem Mine.Q.hd.tw13224896276315786096 : True := trivial
theorem Mine.Q.hd.tw1456918054451538628 : True := trivial
theorem Mine.Q.hd.tw7070539425991983249 : True := trivial
theorem Mine.Q.hd.tw16055410596858236496 : True := trivial
theorem Mine.Q.hd.tw3793528668408378878 : True := trivial
theorem Mine.Q.hd.tw4940200048509078448 : True := trivial
theorem Mine.Q.hd.tw1399368510119470399 : True := trivial
theorem Mine.Q.hd.tw3055833750195313067 : True := trivial
theorem Mine.Q.hd.tw3325509586503563081 : True := trivial
theorem Mine.Q.hd.tw12213835358161523966 : True := trivial
theorem Mine.Q.hd.tw1512061087143430034 : True := trivial
theorem Mine.Q.hd.tw2691362162693984125 : True := trivial
theorem Mine.Q.hd : PySem.Challenge.rw_rh0094_03.Holds := by
  w_on; o_law; k_head
  case hw => w_witness2
  exact Mine.L3.close (hh := ⟨_, ⟨fun _ => by kernel_rfl, fun _ => by kernel_rfl, fun _ => by kernel_rfl, fun _ _ _ _ ok => ⟨⟨ok, Mine.G.tb_of (by kernel_rfl) (by kernel_rfl) (by kernel_rfl) (fun _ => rfl), ⟨by kernel_rfl, by kernel_rfl, fun _ => by kernel_rfl⟩, ⟨by kernel_rfl, by kernel_rfl, fun _ => by kernel_rfl⟩, ⟨by kernel_rfl, by kernel_rfl, fun _ _ => by kernel_rfl⟩, ⟨by kernel_rfl, by kernel_rfl, fun _ _ _ => by kernel_rfl⟩, ⟨by kernel_rfl, by kernel_rfl, fun _ _ _ => by kernel_rfl⟩, ⟨by kernel_rfl, by kernel_rfl, fun _ _ _ _ => by kernel_rfl⟩, ⟨by kernel_rfl, by kernel_rfl, fun _ _ _ _ => by kernel_rfl⟩, ⟨by kernel_rfl, by kernel_rfl, fun _ _ _ => by kernel_rfl⟩, ⟨by kernel_rfl, by kernel_rfl, fun _ _ _ => by kernel_rfl⟩, ⟨by kernel_rfl, by kernel_rfl, fun _ _ => by kernel_rfl⟩, ⟨by kernel_rfl, by kernel_rfl, fun _ _ => by kernel_rfl⟩, ⟨by kernel_rfl, by kernel_rfl, fun _ _ => by kernel_rfl⟩, ⟨by kernel_rfl, by kernel_rfl, fun _ _ => by kernel_rfl⟩, ⟨by kernel_rfl, by kernel_rfl, fun _ _ => by kernel_rfl⟩, ⟨by kernel_rfl, by kernel_rfl, fun _ _ => by kernel_rfl⟩, ⟨by kernel_rfl, by kernel_rfl, fun _ _ => by kernel_rfl⟩, ⟨by kernel_rfl, by kernel_rfl, fun _ _ => by kernel_rfl⟩, ⟨by kernel_rfl, by kernel_rfl, fun _ _ => by kernel_rfl⟩, ⟨by kernel_rfl, by kernel_rfl, fun _ _ => by kernel_rfl⟩, ⟨by kernel_rfl, by kernel_rfl, fun _ _ => by kernel_rfl⟩, ⟨by kernel_rfl, by kernel_rfl, fun _ _ _ => by kernel_rfl⟩, ⟨by kernel_rfl, by kernel_rfl, fun _ _ _ _ => by kernel_rfl⟩, ⟨by kernel_rfl, by kernel_rfl, fun _ _ _ => by kernel_rfl⟩, ⟨by kernel_rfl, by kernel_rfl, fun _ _ _ => by kernel_rfl⟩, ⟨by kernel_rfl, by kernel_rfl, fun _ _ _ => by kernel_rfl⟩, ⟨by kernel_rfl, by kernel_rfl, fun _ _ _ => by kernel_rfl⟩, ⟨by kernel_rfl, by kernel_rfl, fun _ _ _ => by kernel_rfl⟩, ⟨by kernel_rfl, by kernel_rfl, fun _ _ _ _ _ => by kernel_rfl⟩, ⟨by kernel_rfl, by kernel_rfl, fun _ _ => by kernel_rfl⟩, ⟨by kernel_rfl, by kernel_rfl, fun _ _ => by kernel_rfl⟩, ⟨by kernel_rfl, by kernel_rfl, fun _ _ _ _ => by kernel_rfl⟩, ⟨by kernel_rfl, by kernel_rfl, fun _ _ => by kernel_rfl⟩, ⟨by kernel_rfl, by kernel_rfl, fun _ _ => by kernel_rfl⟩, ⟨by kernel_rfl, by kernel_rfl, fun _ _ => by kernel_rfl⟩, ⟨by kernel_rfl, by kernel_rfl, fun _ _ _ _ => by kernel_rfl⟩, ⟨by kernel_rfl, by kernel_rfl, fun _ _ _ _ => by kernel_rfl⟩, ⟨by kernel_rfl, by kernel_rfl, fun _ _ _ => by kernel_rfl⟩, ⟨by kernel_rfl, by kernel_rfl, fun _ _ _ => by kernel_rfl⟩, ⟨by kernel_rfl, by kernel_rfl, fun _ _ _ => by kernel_rfl⟩, ⟨by kernel_rfl, by kernel_rfl, fun _ _ _ => by kernel_rfl⟩, ⟨by kernel_rfl, by kernel_rfl, fun _ _ _ _ _ => by kernel_rfl⟩, ⟨by kernel_rfl, by kernel_rfl, fun _ _ _ => by kernel_rfl⟩, ⟨by kernel_rfl, by kernel_rfl, fun _ _ _ => by kernel_rfl⟩, ⟨by kernel_rfl, by kernel_rfl, fun _ _ _ _ => by kernel_rfl⟩, ⟨by kernel_rfl, by kernel_rfl, fun _ _ _ => by kernel_rfl⟩, ⟨by kernel_rfl, by kernel_rfl, fun _ _ _ => by kernel_rfl⟩, ⟨by kernel_rfl, by kernel_rfl, fun _ _ _ => by kernel_rfl⟩, ⟨by kernel_rfl, by kernel_rfl, fun _ _ _ _ _ => by kernel_rfl⟩, ⟨by kernel_rfl, by kernel_rfl, fun _ _ _ _ _ => by kernel_rfl⟩, ⟨by kernel_rfl, by kernel_rfl, fun _ _ _ => by kernel_rfl⟩, ⟨by kernel_rfl, by kernel_rfl, fun _ _ _ => by kernel_rfl⟩, ⟨by kernel_rfl, by kernel_rfl, fun _ _ _ => by kernel_rfl⟩, ⟨by kernel_rfl, by kernel_rfl, fun _ _ => by kernel_rfl⟩, ⟨by kernel_rfl, by kernel_rfl, fun _ _ _ => by kernel_rfl⟩⟩, ⟨by kernel_rfl, by kernel_rfl, fun _ _ _ _ _ => by kernel_rfl⟩, ⟨by kernel_rfl, by kernel_rfl, fun _ _ _ => by kernel_rfl, by kernel_rfl, fun _ => by kernel_rfl⟩, ⟨by kernel_rfl, by kernel_rfl, fun _ _ => by kernel_rfl⟩, ⟨by kernel_rfl, by kernel_rfl, fun _ _ _ _ _ _ _ => by kernel_rfl⟩, ⟨by kernel_rfl, by kernel_rfl, fun _ _ _ _ _ _ _ _ => by kernel_rfl⟩⟩⟩⟩) (by kernel_rfl) rfl
set_option Elab.async false
theorem PySem.Challenge.cw_rh0094_03_holds : PySem.Challenge.rw_rh0094_03.Holds := by
  exact Mine.Q.hd

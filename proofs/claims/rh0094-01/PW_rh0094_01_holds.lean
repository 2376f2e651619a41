import PyProof.Rows.All
import Wide.All
import OpenK.AllK
import Wide.FinOn
import PySem.Challenge.RW_rh0094_01
open PySem PySem.W PyProof.Rows
set_option Elab.async false
set_option maxRecDepth 1000000
set_option linter.unusedVariables false
set_option linter.unusedSimpArgs false

namespace Mine


inductive V where
  | none
  | bool (b : Bool)
  | int (i : Int)
  | str (s : List Nat)
  | tup (vs : List V)
  | ref (a : Addr)
  | raw (v : Value)

inductive AObj where
  | list (xs : List V)
  | dict (es : List (V × V))
  | inst (C d : Addr)
  | ns (fs : List (Nat × V))

noncomputable abbrev AH := Addr → Option AObj
noncomputable def AH.set (H : AH) (a : Addr) (o : AObj) : AH := fun b => if b = a then some o else H b
theorem AH.set_same (H : AH) (a : Addr) (o : AObj) : (H.set a o) a = some o := if_pos rfl
theorem AH.set_ne (H : AH) {a b : Addr} (o : AObj) (h : b ≠ a) : (H.set a o) b = H b := if_neg h

noncomputable def lim : Nat := 2 ^ 24
noncomputable def okS (s : List Nat) : Bool := s.all (· < 0x110000) && decide (s.length ≤ lim)
noncomputable def mkS (s : List Nat) : Str := ⟨s.toArray⟩
theorem mkS_inj {s t : List Nat} (h : mkS s = mkS t) : s = t := by
  have := congrArg Str.cps h
  simpa [mkS] using this
theorem mkS_cps (x : Str) : mkS x.cps.toList = x := by cases x; simp [mkS]
theorem mkS_length (s : List Nat) : (mkS s).length = s.length := by simp [mkS, Str.length]

noncomputable abbrev tupObj (vs : List Value) (n : Nat) : Obj := ⟨.type "tuple", none, .seq vs.toArray n, #[]⟩
noncomputable abbrev lstObj (vs : List Value) (n : Nat) : Obj := ⟨.type "list", none, .seq vs.toArray n, #[]⟩
noncomputable abbrev dctObj (es : List DictEntry) (n : Nat) : Obj := ⟨.type "dict", none, .dict es.toArray n, #[]⟩

mutual
inductive Rep (h : Heap) : V → Value → Prop
  | none : Rep h .none .none
  | bool (b) : Rep h (.bool b) (.bool b)
  | int (i t) : Rep h (.int i) (.int i t)
  | str (s t) : okS s = true → Rep h (.str s) (.str (mkS s) t)
  | ref (a) : Rep h (.ref a) (.ref a)
  | raw (v) : handedIn v = true → Rep h (.raw v) v
  | tup {a vs n ls} : h.get? a = some (tupObj vs n) → Reps h ls vs → Rep h (.tup ls) (.ref a)
inductive Reps (h : Heap) : List V → List Value → Prop
  | nil : Reps h [] []
  | cons {a l v vs} : Rep h a v → Reps h l vs → Reps h (a :: l) (v :: vs)
end

mutual
theorem Rep.mono {h h' : Heap} (k : ∀ a vs n, h.get? a = some (tupObj vs n) → h'.get? a = some (tupObj vs n)) {a : V} {v : Value} : Rep h a v → Rep h' a v
  | .none => .none
  | .bool b => .bool b
  | .int i t => .int i t
  | .str s t k => .str s t k
  | .ref a => .ref a
  | .raw v k => .raw v k
  | .tup e r => .tup (k _ _ _ e) (Reps.mono k r)
theorem Reps.mono {h h' : Heap} (k : ∀ a vs n, h.get? a = some (tupObj vs n) → h'.get? a = some (tupObj vs n)) {l : List V} {vs : List Value} : Reps h l vs → Reps h' l vs
  | .nil => .nil
  | .cons r rs => .cons (Rep.mono k r) (Reps.mono k rs)
end

theorem Rep.handed {h : Heap} {a : V} {v : Value} (r : Rep h a v) : handedIn v = true := by
  cases r <;> first | rfl | assumption
theorem Reps.length {h : Heap} {l : List V} {vs : List Value} (r : Reps h l vs) : vs.length = l.length := by
  induction l generalizing vs with
  | nil => cases r; rfl
  | cons a l ih => cases r with | cons r rs => simp [ih rs]
theorem Reps.append {h : Heap} {l l' : List V} {vs vs' : List Value} (r : Reps h l vs) (r' : Reps h l' vs') : Reps h (l ++ l') (vs ++ vs') := by
  induction l generalizing vs with
  | nil => cases r; exact r'
  | cons a l ih => cases r with | cons r rs => exact .cons r (ih rs)
theorem Reps.get {h : Heap} {l : List V} {vs : List Value} (r : Reps h l vs) {i : Nat} {a : V} (e : l[i]? = some a) : ∃ v, vs[i]? = some v ∧ Rep h a v := by
  induction l generalizing vs i with
  | nil => simp at e
  | cons b l ih =>
    cases r with
    | cons r rs =>
      cases i with
      | zero => simp at e; subst e; exact ⟨_, rfl, r⟩
      | succ i => simp only [List.getElem?_cons_succ] at e ⊢; exact ih rs e
theorem Reps.take {h : Heap} {l : List V} {vs : List Value} (r : Reps h l vs) (n : Nat) : Reps h (l.take n) (vs.take n) := by
  induction l generalizing vs n with
  | nil => cases r; simp; exact .nil
  | cons b l ih =>
    cases r with
    | cons r rs => cases n with
      | zero => simp; exact .nil
      | succ n => simp only [List.take_succ_cons]; exact .cons r (ih rs n)
theorem Reps.drop {h : Heap} {l : List V} {vs : List Value} (r : Reps h l vs) (n : Nat) : Reps h (l.drop n) (vs.drop n) := by
  induction l generalizing vs n with
  | nil => cases r; simp; exact .nil
  | cons b l ih =>
    cases n with
    | zero => exact r
    | succ n => cases r with | cons r rs => simp only [List.drop_succ_cons]; exact ih rs n
theorem Reps.reverse {h : Heap} {l : List V} {vs : List Value} (r : Reps h l vs) : Reps h l.reverse vs.reverse := by
  induction l generalizing vs with
  | nil => cases r; exact .nil
  | cons b l ih =>
    cases r with
    | cons r rs => rw [List.reverse_cons, List.reverse_cons]; exact (ih rs).append (.cons r .nil)


structure Cx where
  prog : Program
  w : World
  g0 : Heap
  os0 : OsState
  K : Frag
  an : List Str
  gn : List Str
  gl : Nat → V

noncomputable def hashV (w : World) : V → Int
  | .str s => hashStr w (mkS s)
  | .int i => hashInt i
  | .tup ks => tupleKeyHash (intKind default w) (ks.map fun | .int i => i | _ => 0)
  | _ => 0

inductive Ents (w : World) (h : Heap) : List (V × V) → List DictEntry → Prop
  | nil : Ents w h [] []
  | cons {k x : V} {es : List (V × V)} {e : DictEntry} {ds : List DictEntry} : Rep h k e.key → e.hash = hashV w k → Rep h x e.val → Ents w h es ds → Ents w h ((k, x) :: es) (e :: ds)

inductive NsRep (an : List Str) (h : Heap) : List (Nat × V) → List DictEntry → Prop
  | nil : NsRep an h [] []
  | cons {i : Nat} {x : V} {n : Str} {t : Tok} {es : List (Nat × V)} {e : DictEntry} {ds : List DictEntry} : an[i]? = some n → e.key = .str n t → Rep h x e.val → NsRep an h es ds → NsRep an h ((i, x) :: es) (e :: ds)

noncomputable def ObjRep (cx : Cx) (h : Heap) (a : Addr) : AObj → Prop
  | .list xs => ∃ vs n, h.get? a = some (lstObj vs n) ∧ Reps h xs vs ∧ xs.length ≤ lim
  | .dict es => ∃ ds n, h.get? a = some (dctObj ds n) ∧ Ents cx.w h es ds ∧ es.length ≤ lim ∧ (es.map (·.1)).Nodup
  | .inst C d => h.get? a = some (instObj C d)
  | .ns fs => ∃ ds n, h.get? a = some (dctObj ds n) ∧ NsRep cx.an h fs ds ∧ (fs.map (·.1)).Nodup

theorem Ents.mono {w : World} {h h' : Heap} (k : ∀ a vs n, h.get? a = some (tupObj vs n) → h'.get? a = some (tupObj vs n)) {es ds} (r : Ents w h es ds) : Ents w h' es ds := by
  induction r with
  | nil => exact .nil
  | cons a b c _ ih => exact .cons (a.mono k) b (c.mono k) ih
theorem NsRep.mono {an : List Str} {h h' : Heap} (k : ∀ a vs n, h.get? a = some (tupObj vs n) → h'.get? a = some (tupObj vs n)) {es ds} (r : NsRep an h es ds) : NsRep an h' es ds := by
  induction r with
  | nil => exact .nil
  | cons a b c _ ih => exact .cons a b (c.mono k) ih
theorem ObjRep.mono {cx : Cx} {h h' : Heap} {a : Addr} {o : AObj} (k : ∀ a vs n, h.get? a = some (tupObj vs n) → h'.get? a = some (tupObj vs n))
    (e : h'.get? a = h.get? a) (r : ObjRep cx h a o) : ObjRep cx h' a o := by
  cases o with
  | list xs => obtain ⟨vs, n, e1, r, l⟩ := r; exact ⟨vs, n, e.trans e1, r.mono k, l⟩
  | dict es => obtain ⟨vs, n, e1, r, l⟩ := r; exact ⟨vs, n, e.trans e1, r.mono k, l⟩
  | inst C d => exact e.trans r
  | ns fs => obtain ⟨vs, n, e1, r, l⟩ := r; exact ⟨vs, n, e.trans e1, r.mono k, l⟩
theorem ObjRep.noTup {cx : Cx} {h : Heap} {a : Addr} {o : AObj} (r : ObjRep cx h a o) {vs n} : h.get? a ≠ some (tupObj vs n) := by
  intro e
  cases o with
  | list xs => obtain ⟨_, _, e1, _⟩ := r; rw [e1] at e; simp at e
  | dict es => obtain ⟨_, _, e1, _⟩ := r; rw [e1] at e; simp at e
  | inst C d => rw [show h.get? a = _ from r] at e; simp at e
  | ns fs => obtain ⟨_, _, e1, _⟩ := r; rw [e1] at e; simp at e
theorem ObjRep.some {cx : Cx} {h : Heap} {a : Addr} {o : AObj} (r : ObjRep cx h a o) : ∃ x, h.get? a = some x := by
  cases o with
  | list xs => obtain ⟨_, _, e1, _⟩ := r; exact ⟨_, e1⟩
  | dict es => obtain ⟨_, _, e1, _⟩ := r; exact ⟨_, e1⟩
  | inst C d => exact ⟨_, r⟩
  | ns fs => obtain ⟨_, _, e1, _⟩ := r; exact ⟨_, e1⟩

structure St (cx : Cx) (H : AH) (s : Shared) : Prop where
  keep : ∀ a o, cx.g0.get? a = some o → s.heap.get? a = some o ∧ H a = none
  objs : ∀ a ao, H a = some ao → ObjRep cx s.heap a ao
  gens : s.gens = #[]
  os : s.os = cx.os0

noncomputable def Ext (H : AH) (h : Heap) (H' : AH) (h' : Heap) : Prop := ∀ b o, h.get? b = some o → H b = none → h'.get? b = some o ∧ H' b = none
theorem Ext.refl (H : AH) (h : Heap) : Ext H h H h := fun _ _ e n => ⟨e, n⟩
theorem Ext.trans {H H' H'' : AH} {h h' h'' : Heap} (x : Ext H h H' h') (y : Ext H' h' H'' h'') : Ext H h H'' h'' := fun b o e n => by
  obtain ⟨e1, n1⟩ := x b o e n
  exact y b o e1 n1

theorem St.tupNone {cx : Cx} {H : AH} {s : Shared} (S : St cx H s) {a vs n} (e : s.heap.get? a = some (tupObj vs n)) : H a = none := by
  cases q : H a with
  | none => rfl
  | some o => exact absurd e (S.objs a o q).noTup
theorem St.tupKeep {cx : Cx} {H H' : AH} {s s' : Shared} (S : St cx H s) (x : Ext H s.heap H' s'.heap) : ∀ a vs n, s.heap.get? a = some (tupObj vs n) → s'.heap.get? a = some (tupObj vs n) :=
  fun a _ _ e => (x a _ e (S.tupNone e)).1
theorem Rep.ext {cx : Cx} {H H' : AH} {s s' : Shared} {a : V} {v : Value} (r : Rep s.heap a v) (S : St cx H s) (x : Ext H s.heap H' s'.heap) : Rep s'.heap a v := r.mono (S.tupKeep x)
theorem Reps.ext {cx : Cx} {H H' : AH} {s s' : Shared} {a : List V} {v : List Value} (r : Reps s.heap a v) (S : St cx H s) (x : Ext H s.heap H' s'.heap) : Reps s'.heap a v := r.mono (S.tupKeep x)

theorem St.lt {cx : Cx} {H : AH} {s : Shared} (S : St cx H s) {a ao} (e : H a = some ao) : a < s.heap.objs.size := by
  obtain ⟨o, e⟩ := (S.objs a ao e).some
  exact Heap.lt_size e
theorem St.fresh {cx : Cx} {H : AH} {s : Shared} (S : St cx H s) {a : Addr} (h : s.heap.objs.size ≤ a) : H a = none := by
  cases q : H a with
  | none => rfl
  | some o => exact absurd (S.lt q) (Nat.not_lt.mpr h)

theorem St.toks {cx : Cx} {H : AH} {s : Shared} (S : St cx H s) (t : Nat) : St cx H { s with toks := t } := ⟨S.keep, S.objs, S.gens, S.os⟩

theorem St.push {cx : Cx} {H : AH} {s : Shared} (S : St cx H s) (o : Obj) (t : Nat) : St cx H { s with heap := s.heap.push o, toks := t } :=
  ⟨fun a x e => ⟨Heap.get?_push_of_some o (S.keep a x e).1, (S.keep a x e).2⟩,
   fun a ao e => (S.objs a ao e).mono (fun _ _ _ q => Heap.get?_push_of_some o q) (by obtain ⟨x, q⟩ := (S.objs a ao e).some; rw [q]; exact Heap.get?_push_of_some o q), S.gens, S.os⟩
theorem Ext.push (H : AH) (h : Heap) (o : Obj) : Ext H h H (h.push o) := fun _ _ e n => ⟨Heap.get?_push_of_some o e, n⟩

theorem St.alloc {cx : Cx} {H : AH} {s : Shared} (S : St cx H s) (o : Obj) (ao : AObj) (t : Nat) (ho : o.isFreed = false)
    (r : ∀ h' : Heap, (∀ b x, s.heap.get? b = some x → h'.get? b = some x) → h'.get? s.heap.objs.size = some o → ObjRep cx h' s.heap.objs.size ao) :
    St cx (H.set s.heap.objs.size ao) { s with heap := s.heap.push o, toks := t } := by
  have P := S.push o t
  refine ⟨fun a x e => ⟨(P.keep a x e).1, ?_⟩, fun a ao' e => ?_, S.gens, S.os⟩
  · have lt := Heap.lt_size (S.keep a x e).1
    rw [AH.set_ne _ _ (Nat.ne_of_lt lt)]
    exact (S.keep a x e).2
  · by_cases q : a = s.heap.objs.size
    · subst q
      rw [AH.set_same] at e
      cases e
      exact r _ (fun _ _ e => Heap.get?_push_of_some o e) (Heap.get?_push_size _ ho)
    · rw [AH.set_ne _ _ q] at e
      exact P.objs a ao' e
theorem Ext.alloc {H : AH} {h : Heap} (o : Obj) (ao : AObj) : Ext H h (H.set h.objs.size ao) (h.push o) := fun b x e n =>
  ⟨Heap.get?_push_of_some o e, by rw [AH.set_ne _ _ (Nat.ne_of_lt (Heap.lt_size e))]; exact n⟩

theorem St.update {cx : Cx} {H : AH} {s : Shared} {a : Addr} {ao ao' : AObj} {o' : Obj} {h' : Heap} (S : St cx H s) (e : H a = some ao) (hs : Heap.SameBut a s.heap h') (ho : h'.get? a = some o') (t : Nat)
    (r : (∀ b vs n, s.heap.get? b = some (tupObj vs n) → h'.get? b = some (tupObj vs n)) → ObjRep cx h' a ao') : St cx (H.set a ao') { s with heap := h', toks := t } := by
  have kt : ∀ b vs n, s.heap.get? b = some (tupObj vs n) → h'.get? b = some (tupObj vs n) := fun b vs n q => by
    have : b ≠ a := fun z => by subst z; rw [S.tupNone q] at e; cases e
    exact (hs.2 b this).trans q
  refine ⟨fun b x q => ?_, fun b bo q => ?_, S.gens, S.os⟩
  · obtain ⟨q1, q2⟩ := S.keep b x q
    have : b ≠ a := fun z => by subst z; rw [q2] at e; cases e
    exact ⟨(hs.2 b this).trans q1, by rw [AH.set_ne _ _ this]; exact q2⟩
  · by_cases z : b = a
    · subst z
      rw [AH.set_same] at q
      cases q
      exact r kt
    · rw [AH.set_ne _ _ z] at q
      exact (S.objs b bo q).mono kt (hs.2 b z)
theorem Ext.update {H : AH} {h h' : Heap} {a : Addr} {ao ao' : AObj} (e : H a = some ao) (hs : Heap.SameBut a h h') : Ext H h (H.set a ao') h' := fun b x q n => by
  have : b ≠ a := fun z => by subst z; rw [n] at e; cases e
  exact ⟨(hs.2 b this).trans q, by rw [AH.set_ne _ _ this]; exact n⟩

theorem St.own {cx : Cx} {H : AH} {s : Shared} {a : Addr} {h' : Heap} (S : St cx H s) (e : H a = none) (g : cx.g0.get? a = none) (hs : Heap.SameBut a s.heap h') (nt : ∀ vs n, s.heap.get? a ≠ some (tupObj vs n)) (t : Nat) :
    St cx H { s with heap := h', toks := t } := by
  have kt : ∀ b vs n, s.heap.get? b = some (tupObj vs n) → h'.get? b = some (tupObj vs n) := fun b vs n q => by
    have : b ≠ a := fun z => nt vs n (z ▸ q)
    exact (hs.2 b this).trans q
  refine ⟨fun b x q => ?_, fun b bo q => ?_, S.gens, S.os⟩
  · obtain ⟨q1, q2⟩ := S.keep b x q
    have : b ≠ a := fun z => by subst z; rw [g] at q; cases q
    exact ⟨(hs.2 b this).trans q1, q2⟩
  · have : b ≠ a := fun z => by subst z; rw [e] at q; cases q
    exact (S.objs b bo q).mono kt (hs.2 b this)


noncomputable def Post (cx : Cx) (H : AH) (h : Heap) (Q : V → AH → Prop) : Value → Shared → Prop :=
  fun v s' => ∃ x H', St cx H' s' ∧ Ext H h H' s'.heap ∧ Rep s'.heap x v ∧ Q x H'
noncomputable def NoE : Value → Shared → Prop := fun _ _ => False

theorem Post.ext {cx : Cx} {H H' : AH} {h h' : Heap} {Q : V → AH → Prop} (x : Ext H h H' h') {v : Value} {s' : Shared} (p : Post cx H' h' Q v s') : Post cx H h Q v s' :=
  let ⟨y, H'', a, b, c, d⟩ := p; ⟨y, H'', a, x.trans b, c, d⟩
theorem Post.mono {cx : Cx} {H : AH} {h : Heap} {Q Q' : V → AH → Prop} (k : ∀ x H', Q x H' → Q' x H') {v : Value} {s' : Shared} (p : Post cx H h Q v s') : Post cx H h Q' v s' :=
  let ⟨y, H'', a, b, c, d⟩ := p; ⟨y, H'', a, b, c, k _ _ d⟩
theorem Post.now {cx : Cx} {H : AH} {s : Shared} {Q : V → AH → Prop} {x : V} {v : Value} (S : St cx H s) (r : Rep s.heap x v) (t : Nat) (q : Q x H) : Post cx H s.heap Q v { s with toks := t } :=
  ⟨x, H, S.toks t, Ext.refl _ _, r, q⟩

structure Room (n : Nat) (A : Around) : Prop where
  depth : A.depth + 2 * n + 20 ≤ recursionLimit
  units : A.units + 8 * n + 200 ≤ cLine
  handled : A.handled = none

end Mine

namespace Mine

inductive BI where
  | len | str | int | chr | ord | min
  deriving DecidableEq
inductive BM where
  | append | pop | reverse | get | join
  deriving DecidableEq

set_option genSizeOf false
set_option genInjectivity false
mutual
inductive PE where
  | bad
  | c (v : V)
  | x (i : Nat)
  | g (i : Nat)
  | bin (op : Operator) (a b : PE)
  | neg (a : PE)
  | not (a : PE)
  | bop (isAnd : Bool) (es : PEs)
  | ite (t a b : PE)
  | cmp (op : CmpOp) (a b : PE)
  | cmp2 (o1 o2 : CmpOp) (a b c : PE)
  | attr (o : PE) (k : Nat)
  | sub (o i : PE)
  | slice (o lo hi : PE)
  | bi (b : BI) (es : PEs)
  | bm (m : BM) (o : PE) (es : PEs)
  | call (f : Nat) (es : PEs)
  | new (f : Nat) (es : PEs)
  | meth (o : PE) (k : Nat) (es : PEs)
  | list (es : PEs)
  | tuple (es : PEs)
  | dict
  | comp (e : PE) (s : Src)
inductive PEs where
  | nil
  | cons (e : PE) (es : PEs)
inductive Src where
  | val (e : PE)
  | range (e : PE)
  | rev (e : PE)
end

mutual
inductive PS where
  | bad
  | expr (e : PE)
  | asg (i : Nat) (e : PE)
  | setattr (o : PE) (k : Nat) (e : PE)
  | setsub (o i e : PE)
  | aug (i : Nat) (op : Operator) (e : PE)
  | ite (t : PE) (a b : PSs)
  | wh (t : PE) (b : PSs)
  | for1 (i : Nat) (s : Src) (b : PSs)
  | brk
  | ret (e : PE)
inductive PSs where
  | nil
  | cons (s : PS) (r : PSs)
end

inductive FL where
  | next | brk | cont
  | ret (v : V)

set_option genSizeOf true
set_option genInjectivity true

noncomputable abbrev Rho := List (Option V)
noncomputable def slot : Rho → Nat → Option V
  | [], _ => none
  | x :: _, 0 => x
  | _ :: r, i + 1 => slot r i
noncomputable def setSlot : Rho → Nat → V → Rho
  | [], _, _ => []
  | _ :: r, 0, v => some v :: r
  | x :: r, i + 1, v => x :: setSlot r i v
noncomputable def setSlots : Rho → List Nat → List V → Rho
  | ρ, i :: is, v :: vs => setSlots (setSlot ρ i v) is vs
  | ρ, _, _ => ρ
theorem setSlot_length : ∀ (ρ : Rho) (i : Nat) (v : V), (setSlot ρ i v).length = ρ.length
  | [], _, _ => rfl
  | _ :: _, 0, _ => rfl
  | _ :: r, i + 1, v => congrArg (· + 1) (setSlot_length r i v)
theorem slot_setSlot : ∀ (ρ : Rho) (i j : Nat) (v : V), slot (setSlot ρ i v) j = if j = i ∧ i < ρ.length then some v else slot ρ j
  | [], _, _, _ => by simp [slot, setSlot]
  | _ :: _, 0, 0, _ => by simp [slot, setSlot]
  | _ :: _, 0, _ + 1, _ => by simp [slot, setSlot]
  | _ :: _, _ + 1, 0, _ => by simp [slot, setSlot]
  | _ :: r, i + 1, j + 1, v => by simp [slot, setSlot, slot_setSlot r i j v]
theorem slot_append (ρ : Rho) (v : V) (j : Nat) : slot (ρ ++ [some v]) j = if j = ρ.length then some v else slot ρ j := by
  induction ρ generalizing j with
  | nil => cases j <;> simp [slot]
  | cons x r ih => cases j with
    | zero => simp [slot]
    | succ j => simp only [List.cons_append, slot, ih, List.length_cons]; simp

noncomputable def truW (v : V) (H : AH) (P : Bool → Prop) : Prop := match v with
  | .bool b => P b
  | .int i => P (decide (i ≠ 0))
  | .str s => P (!s.isEmpty)
  | .none => P false
  | .ref a => ∃ xs, H a = some (.list xs) ∧ P (!xs.isEmpty)
  | _ => False


mutual
noncomputable def pureV : V → Bool
  | .none => true
  | .bool _ => true
  | .int _ => true
  | .str _ => true
  | .tup vs => pureVs vs
  | .ref _ => false
  | .raw _ => false
noncomputable def pureVs : List V → Bool
  | [] => true
  | v :: vs => pureV v && pureVs vs
end
mutual
noncomputable def toD : V → PyData
  | .none => .none
  | .bool b => .bool b
  | .int i => .int i
  | .str s => .str (mkS s)
  | .tup vs => .tuple (toDs vs)
  | .ref _ => .none
  | .raw _ => .none
noncomputable def toDs : List V → List PyData
  | [] => []
  | v :: vs => toD v :: toDs vs
end
noncomputable def veq : V → V → Bool
  | .none, .none => true
  | .bool a, .bool b => a == b
  | .int a, .int b => decide (a = b)
  | .bool a, .int b => decide ((if a then 1 else 0 : Int) = b)
  | .int a, .bool b => decide (a = (if b then 1 else 0 : Int))
  | .str a, .str b => decide (a = b)
  | .tup as, .tup bs => go as bs
  | _, _ => false
where go : List V → List V → Bool
  | [], [] => true
  | a :: as, b :: bs => veq a b && go as bs
  | _, _ => false

noncomputable def leS : List Nat → List Nat → Bool
  | [], _ => true
  | _ :: _, [] => false
  | a :: s, b :: t => decide (a < b) || (decide (a = b) && leS s t)

noncomputable def isScalar : V → Bool
  | .none => true
  | .bool _ => true
  | .int _ => true
  | .str _ => true
  | _ => false

noncomputable def inW (x c : V) (H : AH) (P : Bool → Prop) : Prop := match c, x with
  | .str t, .str [c] => P (decide (c ∈ t))
  | .tup vs, x => isScalar x = true ∧ vs.all isScalar = true ∧ P (vs.any fun y => veq y x)
  | .ref a, x => (∃ vs, H a = some (.list vs) ∧ isScalar x = true ∧ vs.all isScalar = true ∧ P (vs.any fun y => veq y x)) ∨
      (∃ es, H a = some (.dict es) ∧ ((∃ s, x = .str s ∧ ∀ e ∈ es, ∃ t, e.1 = .str t) ∨ (∃ i, x = .int i ∧ ∀ e ∈ es, ∃ j, e.1 = .int j)) ∧ P (es.any fun e => veq e.1 x))
  | _, _ => False

noncomputable def eqW (a b : V) (H : AH) (P : Bool → Prop) : Prop := match a, b with
  | .ref a, .ref b => (∃ xs ys, H a = some (.list xs) ∧ H b = some (.list ys) ∧ xs.all isScalar = true ∧ ys.all isScalar = true ∧ P (veq.go xs ys)) ∨
      (∃ ds es, H a = some (.dict ds) ∧ H b = some (.dict es) ∧ (∀ e ∈ ds, ∃ i s, e = (V.int i, V.str s)) ∧ (∀ e ∈ es, ∃ i s, e = (V.int i, V.str s)) ∧
        P (decide (ds.length = es.length) && ds.all fun d => es.any fun e => veq d.1 e.1 && veq d.2 e.2))
  | .tup as, .tup bs => pureVs as = true ∧ bs.all isScalar = true ∧ P (veq.go as bs)
  | a, b => isScalar a = true ∧ isScalar b = true ∧ P (veq a b)

noncomputable def cmpW (op : CmpOp) (a b : V) (H : AH) (P : Bool → Prop) : Prop := match op with
  | .Eq => eqW a b H P
  | .NotEq => eqW a b H fun t => P (!t)
  | .In => inW a b H P
  | .NotIn => inW a b H fun t => P (!t)
  | .Is => match b with
    | .none => match a with
      | .none => P true
      | .raw _ => False
      | _ => P false
    | _ => False
  | .IsNot => match b with
    | .none => match a with
      | .none => P false
      | .raw _ => False
      | _ => P true
    | _ => False
  | .Lt => match a, b with
    | .int i, .int j => P (decide (i < j))
    | _, _ => False
  | .Gt => match a, b with
    | .int i, .int j => P (decide (j < i))
    | _, _ => False
  | .GtE => match a, b with
    | .int i, .int j => P (decide (j ≤ i))
    | _, _ => False
  | .LtE => match a, b with
    | .int i, .int j => P (decide (i ≤ j))
    | .str s, .str t => P (leS s t)
    | _, _ => False

noncomputable def binW (op : Operator) (a b : V) (H : AH) (Q : V → AH → Prop) : Prop := match op with
  | .Add => (match a, b with
    | .int i, .int j => Q (.int (i + j)) H
    | .str s, .str t => s.length + t.length ≤ lim ∧ Q (.str (s ++ t)) H
    | .ref a, .ref b => ∃ xs ys, H a = some (.list xs) ∧ H b = some (.list ys) ∧ xs.length + ys.length ≤ lim ∧ ∀ c, H c = none → Q (.ref c) (H.set c (.list (xs ++ ys)))
    | _, _ => False)
  | .Sub => (match a, b with
    | .int i, .int j => Q (.int (i - j)) H
    | _, _ => False)
  | .Mult => (match a, b with
    | .int i, .int j => -(2 ^ 62) < i ∧ i < 2 ^ 62 ∧ Q (.int (i * j)) H
    | .str s, .int j => 0 ≤ j ∧ j ≤ lim ∧ s.length * j.toNat ≤ lim ∧ Q (.str (List.replicate j.toNat s).flatten) H
    | _, _ => False)
  | .FloorDiv => (match a, b with
    | .int i, .int j => 0 < j ∧ j < 2 ^ 63 ∧ Q (.int (i / j)) H
    | _, _ => False)
  | .Mod => (match a, b with
    | .int i, .int j => 0 < j ∧ j < 2 ^ 63 ∧ Q (.int (i % j)) H
    | _, _ => False)
  | .Pow => (match a, b with
    | .int i, .int j => i = 10 ∧ 1 ≤ j ∧ j < 100 ∧ Q (.int (i ^ j.toNat)) H
    | _, _ => False)
  | _ => False

noncomputable def idx (n : Nat) (i : Int) : Option Nat := if 0 ≤ i then (if i < n then some i.toNat else none) else if 0 ≤ i + n then some (i + n).toNat else none

noncomputable def lookV (es : List (V × V)) (k : V) : Option V := (es.find? fun e => veq e.1 k).map (·.2)
noncomputable def putV (es : List (V × V)) (k x : V) : List (V × V) :=
  if es.any (fun e => veq e.1 k) then es.map (fun e => if veq e.1 k then (e.1, x) else e) else es ++ [(k, x)]
noncomputable def keysOk (k : V) (es : List (V × V)) : Prop :=
  (∃ s, k = .str s ∧ ∀ e ∈ es, ∃ t, e.1 = .str t) ∨ (∃ i, k = .int i ∧ ∀ e ∈ es, ∃ j, e.1 = .int j) ∨
  (∃ ks : List Int, k = .tup (ks.map .int) ∧ ∀ e ∈ es, ∃ js : List Int, e.1 = .tup (js.map .int))

noncomputable def keysOk2 (k : V) (es : List (V × V)) : Prop :=
  (∃ s, k = .str s ∧ ∀ e ∈ es, ∃ t, e.1 = .str t) ∨ (∃ i, k = .int i ∧ ∀ e ∈ es, ∃ j, e.1 = .int j)

noncomputable def subW (o i : V) (H : AH) (Q : V → AH → Prop) : Prop := match o, i with
  | .tup vs, .int i => ∃ j x, idx vs.length i = some j ∧ vs.length ≤ lim ∧ vs[j]? = some x ∧ Q x H
  | .str s, .int i => ∃ j x, idx s.length i = some j ∧ s[j]? = some x ∧ Q (.str [x]) H
  | .ref a, k => (∃ xs i j x, k = .int i ∧ H a = some (.list xs) ∧ idx xs.length i = some j ∧ xs[j]? = some x ∧ Q x H) ∨
      (∃ es x, H a = some (.dict es) ∧ keysOk2 k es ∧ lookV es k = some x ∧ Q x H)
  | _, _ => False

noncomputable def partI : V → Option (Option Int)
  | .none => some none
  | .int i => some (some i)
  | _ => none
noncomputable def cut {α : Type} (l : List α) (lo hi : Option Int) : List α :=
  (l.drop (lo.elim 0 (clipAt l.length))).take (hi.elim l.length (clipAt l.length) - lo.elim 0 (clipAt l.length))

noncomputable def sliceW (o lo hi : V) (cx : Cx) (H : AH) (Q : V → AH → Prop) : Prop := ∃ a b, partI lo = some a ∧ partI hi = some b ∧ match o with
  | .str s => Q (.str (cut s a b)) H
  | .ref p => ∃ xs, (H p = some (.list xs) ∨ (∃ vs, cx.g0.IsList p vs.toArray ∧ Reps cx.g0 xs vs ∧ xs.length ≤ lim)) ∧ ∀ c, H c = none → Q (.ref c) (H.set c (.list (cut xs a b)))
  | _ => False

noncomputable def digits10 (n : Nat) : List Nat := (Nat.toDigits 10 n).map Char.toNat
noncomputable def showI (i : Int) : List Nat := if i < 0 then 45 :: digits10 i.natAbs else digits10 i.natAbs

noncomputable def biW (b : BI) (args : List V) (H : AH) (Q : V → AH → Prop) : Prop := match b with
  | .len => (match args with
    | [.str s] => Q (.int s.length) H
    | [.tup vs] => vs.length ≤ lim ∧ Q (.int vs.length) H
    | [.ref a] => ∃ xs, H a = some (.list xs) ∧ Q (.int xs.length) H
    | _ => False)
  | .str => (match args with
    | [.int i] => i.natAbs < 2 ^ 1900 ∧ Q (.str (showI i)) H
    | _ => False)
  | .int => (match args with
    | [.int i] => Q (.int i) H
    | _ => False)
  | .chr => (match args with
    | [.int i] => 0 ≤ i ∧ i < 0x110000 ∧ Q (.str [i.toNat]) H
    | _ => False)
  | .ord => (match args with
    | [.str [c]] => Q (.int c) H
    | _ => False)
  | .min => (match args with
    | [.int i, .int j] => Q (.int (if j < i then j else i)) H
    | _ => False)

noncomputable def catS : List V → Option (List Nat)
  | [] => some []
  | .str s :: r => (catS r).map (s ++ ·)
  | _ :: _ => none
noncomputable def bmW (m : BM) (o : V) (args : List V) (H : AH) (Q : V → AH → Prop) : Prop := match m with
  | .append => (match o, args with
    | .ref a, [x] => ∃ xs, H a = some (.list xs) ∧ xs.length + 1 ≤ lim ∧ Q .none (H.set a (.list (xs ++ [x])))
    | _, _ => False)
  | .pop => (match o, args with
    | .ref a, [] => ∃ xs x, H a = some (.list (xs ++ [x])) ∧ Q x (H.set a (.list xs))
    | _, _ => False)
  | .reverse => (match o, args with
    | .ref a, [] => ∃ xs, H a = some (.list xs) ∧ Q .none (H.set a (.list xs.reverse))
    | _, _ => False)
  | .get => (match o, args with
    | .ref a, [k, d] => ∃ es, H a = some (.dict es) ∧ keysOk k es ∧ Q ((lookV es k).getD d) H
    | _, _ => False)
  | .join => (match o, args with
    | .str [], [.ref a] => ∃ xs t, H a = some (.list xs) ∧ catS xs = some t ∧ t.length ≤ lim ∧ Q (.str t) H
    | _, _ => False)

noncomputable def bmK (m : BM) (o : V) (H : AH) : Prop := match m with
  | .append | .pop | .reverse => ∃ a xs, o = .ref a ∧ H a = some (.list xs)
  | .get => ∃ a es, o = .ref a ∧ H a = some (.dict es)
  | .join => ∃ l, o = .str l

noncomputable def methIn (K : Frag) (C : Addr) (name : Str) : Option Addr := match findIn K (.ref C) name with
  | some (some (.ref f)) => if plainGet K C name && isFn K (.ref f) then some f else none
  | _ => none
noncomputable def attrOk (K : Frag) (C : Addr) (name : Str) : Bool :=
  plainGet K C name && hasDictIn K C && (match findIn K (.ref C) name with | some attr => noGet K attr | none => false) &&
  findIn K (.ref C) "__setattr__" == some (some (.builtin "object.__setattr__")) && plainOver K C && takerIn K C name == some none

noncomputable def lookN (fs : List (Nat × V)) (k : Nat) : Option V := (fs.find? fun e => e.1 == k).map (·.2)
noncomputable def putN' (fs : List (Nat × V)) (k : Nat) (x : V) : List (Nat × V) :=
  if fs.any (fun e => e.1 == k) then fs.map (fun e => if e.1 == k then (e.1, x) else e) else fs ++ [(k, x)]

noncomputable def attrW (cx : Cx) (o : V) (k : Nat) (H : AH) (Q : V → AH → Prop) : Prop := match o with
  | .ref a => ∃ C d fs n x, H a = some (.inst C d) ∧ H d = some (.ns fs) ∧ cx.an[k]? = some n ∧ attrOk cx.K C n = true ∧ lookN fs k = some x ∧ Q x H
  | _ => False
noncomputable def setattrW (cx : Cx) (o : V) (k : Nat) (x : V) (H : AH) (Q : AH → Prop) : Prop := match o with
  | .ref a => ∃ C d fs n, H a = some (.inst C d) ∧ H d = some (.ns fs) ∧ cx.an[k]? = some n ∧ attrOk cx.K C n = true ∧ fs.length ≤ 100 ∧ Q (H.set d (.ns (putN' fs k x)))
  | _ => False
noncomputable def setsubW (o i x : V) (H : AH) (Q : AH → Prop) : Prop := match o with
  | .ref a => ∃ es, H a = some (.dict es) ∧ keysOk i es ∧ es.length + 1 ≤ lim ∧ Q (H.set a (.dict (putV es i x)))
  | _ => False

noncomputable def CallOk (cx : Cx) (n : Nat) (f : Addr) (args : List V) (H : AH) (Q : V → AH → Prop) : Prop :=
  keepIn cx.K (.ref f) = true ∧ ∀ (A : Around) (s : Shared) (vs : List Value), Room n A → St cx H s → Reps s.heap args vs →
    codeAny (model cx.prog cx.w) A (.call (.ref f) ⟨vs, []⟩) (fun r s' => ∃ v, r = .ok (.ret v) ∧ Post cx H s.heap Q v s') s

noncomputable def refOf : V → Option Addr
  | .ref a => some a
  | _ => none

noncomputable def makes (cx : Cx) (C : Addr) : Option Addr := match findIn cx.K (.ref C) "__init__" with
  | some (some (.ref f)) => if makesIn cx.K C && isFn cx.K (.ref f) && keepIn cx.K (.ref C) then some f else none
  | _ => none

noncomputable def newW (cx : Cx) (n : Nat) (c : V) (args : List V) (H : AH) (Q : V → AH → Prop) : Prop := match c with
  | .ref C => ∃ f m, n = m + 1 ∧ makes cx C = some f ∧ ∀ d x, H d = none → H x = none → d ≠ x → CallOk cx m f (.ref x :: args) ((H.set d (.ns [])).set x (.inst C d)) (fun v H' => v = .none ∧ Q (.ref x) H')
  | _ => False
noncomputable def callW (cx : Cx) (n : Nat) (c : V) (args : List V) (H : AH) (Q : V → AH → Prop) : Prop := match c with
  | .ref f => CallOk cx n f args H Q
  | _ => False
noncomputable def methW (cx : Cx) (n : Nat) (o : V) (k : Nat) (H : AH) (P : Addr → Prop) : Prop := match o with
  | .ref a => ∃ C d fs nm f, H a = some (.inst C d) ∧ H d = some (.ns fs) ∧ cx.an[k]? = some nm ∧ methIn cx.K C nm = some f ∧ lookN fs k = none ∧ P f
  | _ => False

noncomputable def iterW (v : V) (H : AH) (k : List V → (AH → Prop) → Prop) : Prop := match v with
  | .tup vs => vs.length ≤ lim ∧ k vs (fun _ => True)
  | .str s => k (s.map fun c => .str [c]) (fun _ => True)
  | .ref a => ∃ xs, H a = some (.list xs) ∧ k xs (fun H' => H' a = some (.list xs))
  | _ => False
noncomputable def rangeW (v : V) (k : List V → (AH → Prop) → Prop) : Prop := match v with
  | .int i => i.natAbs < 2 ^ 62 ∧ k ((List.range i.toNat).map fun (j : Nat) => V.int (j : Int)) (fun _ => True)
  | _ => False
noncomputable def revW (v : V) (H : AH) (k : List V → (AH → Prop) → Prop) : Prop := match v with
  | .ref a => ∃ xs, H a = some (.list xs) ∧ k xs.reverse (fun H' => H' a = some (.list xs))
  | _ => False
noncomputable def forC (B : Rho → AH → (FL → Rho → AH → Prop) → Prop) (st : Rho → V → (Rho → Prop) → Prop) (G : AH → Prop) : List V → Rho → AH → (FL → Rho → AH → Prop) → Prop
  | [], ρ, H, R => G H ∧ R .next ρ H
  | x :: xs, ρ, H, R => G H ∧ st ρ x fun ρ₁ => B ρ₁ H fun fl ρ' H' => match fl with
    | .next => forC B st G xs ρ' H' R
    | .cont => forC B st G xs ρ' H' R
    | .brk => R .next ρ' H'
    | .ret v => R (.ret v) ρ' H'
noncomputable def whC (T : Rho → AH → (Bool → AH → Prop) → Prop) (B : Rho → AH → (FL → Rho → AH → Prop) → Prop) : Nat → Rho → AH → (FL → Rho → AH → Prop) → Prop
  | 0, _, _, _ => False
  | n + 1, ρ, H, R => T ρ H fun t H₁ => if t = true then B ρ H₁ fun fl ρ' H' => (match fl with
      | .next => whC T B n ρ' H' R
      | .cont => whC T B n ρ' H' R
      | .brk => R .next ρ' H'
      | .ret v => R (.ret v) ρ' H')
    else R .next ρ H₁
noncomputable def compC (E : V → AH → (V → AH → Prop) → Prop) (G : AH → Prop) : List V → List V → AH → (List V → AH → Prop) → Prop
  | [], acc, H, Q => G H ∧ Q acc H
  | x :: xs, acc, H, Q => G H ∧ acc.length + 1 ≤ lim ∧ E x H fun y H' => compC E G xs (acc ++ [y]) H' Q

mutual
noncomputable def wpE (cx : Cx) (n : Nat) : PE → Rho → AH → (V → AH → Prop) → Prop
  | .bad, _, _, _ => False
  | .c v, _, H, Q => Q v H
  | .x i, ρ, H, Q => ∃ v, slot ρ i = some v ∧ Q v H
  | .g i, _, H, Q => Q (cx.gl i) H
  | .bin op a b, ρ, H, Q => wpE cx n a ρ H fun x H₁ => wpE cx n b ρ H₁ fun y H₂ => binW op x y H₂ Q
  | .neg a, ρ, H, Q => wpE cx n a ρ H fun x H₁ => ∃ i, x = .int i ∧ Q (.int (-i)) H₁
  | .not a, ρ, H, Q => wpE cx n a ρ H fun x H₁ => truW x H₁ fun t => Q (.bool (!t)) H₁
  | .bop isAnd es, ρ, H, Q => wpBop cx n isAnd es ρ H Q
  | .ite t a b, ρ, H, Q => wpE cx n t ρ H fun x H₁ => truW x H₁ fun t => if t = true then wpE cx n a ρ H₁ Q else wpE cx n b ρ H₁ Q
  | .cmp op a b, ρ, H, Q => wpE cx n a ρ H fun x H₁ => wpE cx n b ρ H₁ fun y H₂ => cmpW op x y H₂ fun t => Q (.bool t) H₂
  | .cmp2 o1 o2 a b c, ρ, H, Q => wpE cx n a ρ H fun x H₁ => wpE cx n b ρ H₁ fun y H₂ => cmpW o1 x y H₂ fun t =>
      if t = true then wpE cx n c ρ H₂ fun z H₃ => cmpW o2 y z H₃ fun t => Q (.bool t) H₃ else Q (.bool false) H₂
  | .attr o k, ρ, H, Q => wpE cx n o ρ H fun x H₁ => attrW cx x k H₁ Q
  | .sub o i, ρ, H, Q => wpE cx n o ρ H fun x H₁ => wpE cx n i ρ H₁ fun y H₂ => subW x y H₂ Q
  | .slice o lo hi, ρ, H, Q => wpE cx n o ρ H fun x H₁ => wpE cx n lo ρ H₁ fun a H₂ => wpE cx n hi ρ H₂ fun b H₃ => sliceW x a b cx H₃ Q
  | .bi b es, ρ, H, Q => wpEs cx n es ρ H fun vs H₁ => biW b vs H₁ Q
  | .bm m o es, ρ, H, Q => wpE cx n o ρ H fun x H₁ => bmK m x H₁ ∧ wpEs cx n es ρ H₁ fun vs H₂ => bmW m x vs H₂ Q
  | .call f es, ρ, H, Q => wpEs cx n es ρ H fun vs H₁ => callW cx n (cx.gl f) vs H₁ Q
  | .new f es, ρ, H, Q => wpEs cx n es ρ H fun vs H₁ => newW cx n (cx.gl f) vs H₁ Q
  | .meth o k es, ρ, H, Q => wpE cx n o ρ H fun x H₁ => methW cx n x k H₁ fun f => wpEs cx n es ρ H₁ fun vs H₂ => CallOk cx n f (x :: vs) H₂ Q
  | .list es, ρ, H, Q => wpEs cx n es ρ H fun vs H₁ => vs.length ≤ lim ∧ ∀ c, H₁ c = none → Q (.ref c) (H₁.set c (.list vs))
  | .tuple es, ρ, H, Q => wpEs cx n es ρ H fun vs H₁ => vs.length ≤ lim ∧ Q (.tup vs) H₁
  | .dict, ρ, H, Q => ∀ c, H c = none → Q (.ref c) (H.set c (.dict []))
  | .comp e s, ρ, H, Q => wpSrc cx n s ρ H fun xs G H₁ => compC (fun x H' Q' => wpE cx n e (ρ ++ [some x]) H' Q') G xs [] H₁ fun ys H₂ => ∀ c, H₂ c = none → Q (.ref c) (H₂.set c (.list ys))
noncomputable def wpEs (cx : Cx) (n : Nat) : PEs → Rho → AH → (List V → AH → Prop) → Prop
  | .nil, _, H, Q => Q [] H
  | .cons e es, ρ, H, Q => wpE cx n e ρ H fun x H₁ => wpEs cx n es ρ H₁ fun xs H₂ => Q (x :: xs) H₂
noncomputable def wpBop (cx : Cx) (n : Nat) (isAnd : Bool) : PEs → Rho → AH → (V → AH → Prop) → Prop
  | .nil, _, _, _ => False
  | .cons e es, ρ, H, Q => wpE cx n e ρ H fun x H₁ => match es with
    | .nil => Q x H₁
    | .cons _ _ => truW x H₁ fun t => if t = isAnd then wpBop cx n isAnd es ρ H₁ Q else Q x H₁
noncomputable def wpSrc (cx : Cx) (n : Nat) : Src → Rho → AH → (List V → (AH → Prop) → AH → Prop) → Prop
  | .val e, ρ, H, Q => wpE cx n e ρ H fun x H₁ => iterW x H₁ fun xs G => Q xs G H₁
  | .range e, ρ, H, Q => wpE cx n e ρ H fun x H₁ => rangeW x fun xs G => Q xs G H₁
  | .rev e, ρ, H, Q => wpE cx n e ρ H fun x H₁ => revW x H₁ fun xs G => Q xs G H₁
end

mutual
noncomputable def wpS (cx : Cx) (n : Nat) : PS → Rho → AH → (FL → Rho → AH → Prop) → Prop
  | .bad, _, _, _ => False
  | .expr e, ρ, H, R => wpE cx n e ρ H fun x H₁ => (∀ a, x ≠ .ref a) ∧ (∀ a, x ≠ .tup a) ∧ (∀ a, x ≠ .raw a) ∧ R .next ρ H₁
  | .asg i e, ρ, H, R => wpE cx n e ρ H fun x H₁ => R .next (setSlot ρ i x) H₁
  | .setattr o k e, ρ, H, R => wpE cx n e ρ H fun x H₁ => wpE cx n o ρ H₁ fun y H₂ => setattrW cx y k x H₂ fun H₃ => R .next ρ H₃
  | .setsub o i e, ρ, H, R => wpE cx n e ρ H fun x H₁ => wpE cx n o ρ H₁ fun y H₂ => wpE cx n i ρ H₂ fun z H₃ => setsubW y z x H₃ fun H₄ => R .next ρ H₄
  | .aug i op e, ρ, H, R => ∃ v, slot ρ i = some v ∧ wpE cx n e ρ H fun y H₁ => ∃ a b, op = .Add ∧ v = .int a ∧ y = .int b ∧ R .next (setSlot ρ i (.int (a + b))) H₁
  | .ite t a b, ρ, H, R => wpE cx n t ρ H fun x H₁ => truW x H₁ fun t => if t = true then wpSs cx n a ρ H₁ R else wpSs cx n b ρ H₁ R
  | .wh t b, ρ, H, R => ∃ k, whC (fun ρ H Q => wpE cx n t ρ H fun x H₁ => truW x H₁ fun t => Q t H₁) (fun ρ H R => wpSs cx n b ρ H R) k ρ H R
  | .for1 i s b, ρ, H, R => wpSrc cx n s ρ H fun xs G H₁ => forC (fun ρ H R => wpSs cx n b ρ H R) (fun ρ x P => P (setSlot ρ i x)) G xs ρ H₁ R
  | .brk, ρ, H, R => R .brk ρ H
  | .ret e, ρ, H, R => wpE cx n e ρ H fun x H₁ => R (.ret x) ρ H₁
noncomputable def wpSs (cx : Cx) (n : Nat) : PSs → Rho → AH → (FL → Rho → AH → Prop) → Prop
  | .nil, ρ, H, R => R .next ρ H
  | .cons s r, ρ, H, R => wpS cx n s ρ H fun fl ρ' H' => match fl with
    | .next => wpSs cx n r ρ' H' R
    | .brk => R .brk ρ' H'
    | .cont => R .cont ρ' H'
    | .ret v => R (.ret v) ρ' H'
end

end Mine

namespace Mine

theorem lim_eq : lim = sizeLine := by rw [sizeLine_eq]; rfl
theorem lim_val : lim = 16777216 := rfl
theorem okS_len {s : List Nat} (h : okS s = true) : s.length ≤ lim := by
  simp only [okS, Bool.and_eq_true, decide_eq_true_eq] at h; exact h.2
theorem okS_all {s : List Nat} (h : okS s = true) : ∀ c ∈ s, c < 0x110000 := by
  simp only [okS, Bool.and_eq_true, decide_eq_true_eq, List.all_eq_true] at h; exact h.1
theorem okS_mk {s : List Nat} (h : s.length ≤ lim) (k : ∀ c ∈ s, c < 0x110000) : okS s = true := by
  simp only [okS, Bool.and_eq_true, decide_eq_true_eq, List.all_eq_true]; exact ⟨k, h⟩
theorem mkS_append (s t : List Nat) : mkS s ++ mkS t = mkS (s ++ t) := by
  show (⟨_ ++ _⟩ : Str) = _
  simp [mkS]

section
variable {cx : Cx} {A : Around} {H : AH} {s : Shared}

theorem truW_sound {v : V} {x : Value} {p : Bool → Prop} {Q : Bool → Shared → Prop} (S : St cx H s) (r : Rep s.heap v x) (h : truW v H p) (k : ∀ b t, p b → Q b { s with toks := t }) :
    wpAny (model cx.prog cx.w) A (truthy x) Q NoE s := by
  cases v with
  | none => cases r; exact wpAny_of_eq rfl (k false s.toks h)
  | bool b => cases r; exact wpAny_truthy_bool (k b s.toks h)
  | int i =>
    cases r
    refine PySem.P.truthy_int ?_
    have := k _ s.toks h
    rwa [show (i != 0) = decide (i ≠ 0) by by_cases e : i = 0 <;> simp [e]]
  | str l =>
    cases r with
    | str _ _ ok =>
    have hl := okS_len ok
    rw [lim_val] at hl
    refine PySem.P.truthy_str (by rw [mkS_length]; omega) ?_
    have := k _ (s.toks + 1 + 1) h
    rw [mkS_length]
    rwa [show ((l.length : Int) != 0) = !l.isEmpty by cases l with
      | nil => rfl
      | cons c l => simp; omega]
  | tup l => exact h.elim
  | ref a =>
    cases r
    obtain ⟨xs, hx, hp⟩ := h
    obtain ⟨vs, n, e, rs, hl⟩ := S.objs a _ hx
    rw [lim_val] at hl
    have hlen := rs.length
    refine wpAny_truthy_list (items := vs.toArray) ⟨_, e, rfl, n, rfl⟩ (by rw [List.size_toArray, hlen]; omega) ?_
    have := k _ (s.toks + 1 + 1) hp
    rwa [show (!vs.toArray.isEmpty) = !xs.isEmpty by cases xs <;> cases vs <;> simp_all]
  | raw v => exact h.elim

theorem Post.toks {Q : V → AH → Prop} {x : V} {v : Value} {t : Nat} (S : St cx H s) (r : Rep s.heap x v) (q : Q x H) : Post cx H s.heap Q v { s with toks := t } := Post.now S r t q
theorem Post.newList {Q : V → AH → Prop} {xs : List V} {vs : List Value} {t n : Nat} (S : St cx H s) (r : Reps s.heap xs vs) (hl : xs.length ≤ lim) (q : ∀ c, H c = none → Q (.ref c) (H.set c (.list xs))) :
    Post cx H s.heap Q (.ref s.heap.objs.size) { s with heap := s.heap.push (lstObj vs n), toks := t } :=
  ⟨_, _, S.alloc _ (.list xs) t rfl fun h' k e => ⟨vs, n, e, r.mono fun _ _ _ e => k _ _ e, hl⟩, Ext.alloc _ _, .ref _, q _ (S.fresh (Nat.le_refl _))⟩

theorem replicate_fold (n : Nat) (x : Array Nat) (acc : Array Nat) : ((List.replicate n x).foldl (· ++ ·) acc).toList = acc.toList ++ (List.replicate n x.toList).flatten := by
  induction n generalizing acc with
  | zero => simp
  | succ n ih => rw [List.replicate_succ, List.foldl_cons, ih]; simp [List.replicate_succ]
theorem mul_mkS {l : List Nat} {j : Int} (h : 0 ≤ j) : Txt.mul (mkS l) j = mkS (List.replicate j.toNat l).flatten := by
  unfold Txt.mul
  by_cases h1 : j < 1
  · have : j.toNat = 0 := by omega
    rw [if_pos h1, this]; rfl
  · rw [if_neg h1]
    by_cases h2 : (j == 1 || (mkS l).length == 0) = true
    · rw [if_pos h2]
      rcases Bool.or_eq_true_iff.mp h2 with h2 | h2
      · have : j.toNat = 1 := by simp at h2; omega
        rw [this]; simp
      · have : l = [] := by rw [mkS_length] at h2; simpa using h2
        subst this
        simp
    · rw [if_neg h2]
      have := replicate_fold j.toNat (mkS l).cps #[]
      show (⟨_⟩ : Str) = ⟨_⟩
      congr 1
      apply Array.toList_inj.mp
      rw [this]; simp [mkS]

theorem rep_len (n : Nat) (l : List Nat) : (List.replicate n l).flatten.length = l.length * n := by
  induction n with
  | zero => rfl
  | succ n ih => rw [List.replicate_succ, List.flatten_cons, List.length_append, ih, Nat.mul_succ]; omega

theorem binW_sound {op : Operator} {a b : V} {va vb : Value} {Q : V → AH → Prop} (S : St cx H s) (ra : Rep s.heap a va) (rb : Rep s.heap b vb) (h : binW op a b H Q) :
    wpAny (model cx.prog cx.w) A (binaryOp op va vb) (Post cx H s.heap Q) NoE s := by
  unfold binW at h
  split at h
  case h_7 => exact h.elim
  all_goals (split at h <;> first | (exact h.elim) | skip)
  · cases ra; cases rb; exact PySem.P.add_int (Post.toks S (.int _ _) h)
  · cases ra with
    | str _ _ o1 => cases rb with
      | str _ _ o2 =>
        obtain ⟨h1, h⟩ := h
        refine SB.add (fun t k => ?_) (by rw [mkS_length, mkS_length, ← lim_eq]; exact h1)
        rw [mkS_append]
        exact Post.toks S (.str _ _ (okS_mk (by rw [List.length_append]; exact h1) fun c hc => (List.mem_append.mp hc).elim (okS_all o1 c) (okS_all o2 c))) h
  · cases ra; cases rb
    obtain ⟨xs, ys, hx, hy, hl, h⟩ := h
    obtain ⟨vs, n, e, rs, _⟩ := S.objs _ _ hx
    obtain ⟨ws, m, e', rs', _⟩ := S.objs _ _ hy
    have hq : vs.toArray ++ ws.toArray = (vs ++ ws).toArray := by simp
    refine concat_meets ⟨_, e, rfl⟩ ⟨_, e', rfl⟩ noFill_list_add seq_list_add PySem.F.slot_list_add PySem.F.entry_list_add (PySem.F.args_list_add_2 _ _)
      (list_addW _ _ vs.toArray ws.toArray n m none none #[] #[] (by rw [List.size_toArray, List.size_toArray, rs.length, rs'.length, ← lim_eq]; exact hl)) ⟨e, e', ?_⟩
    rw [hq]
    exact Post.newList S (rs.append rs') (by rw [List.length_append]; exact hl) h
  · cases ra; cases rb; exact PySem.P.sub_int (Post.toks S (.int _ _) h)
  · cases ra; cases rb; exact PySem.P.mul_int (Post.toks S (.int _ _) h.2.2) (IntMulOk.of_left (intBits_le_64 (by omega) (by omega)))
  · cases ra with
    | str l _ o1 =>
      cases rb
      rename_i j _ _
      obtain ⟨h1, h2, h3, h⟩ := h
      rw [lim_val] at h2
      refine SB.mul ⟨by simp; omega, fun k1 k2 => ?_, fun k1 k2 => ?_⟩ fun t k => ?_
      · rw [mkS_length]
        have hl := okS_len o1
        rw [lim_val] at hl
        have : (2 ^ 63 - 1 : Int) / j ≥ 2 ^ 30 := by
          rw [ge_iff_le, Int.le_ediv_iff_mul_le (by omega)]; omega
        omega
      · rw [mkS_length]; rw [lim_eq] at h3
        simp only [Builtin.Str.tooLong, decide_eq_false_iff_not]; omega
      · rw [mul_mkS h1]
        refine Post.toks S (.str _ _ (okS_mk ?_ fun c hc => ?_)) h
        · rw [rep_len]; exact h3
        · obtain ⟨l', h1, h2⟩ := List.mem_flatten.mp hc
          rw [(List.mem_replicate.mp h1).2] at h2
          exact okS_all o1 c h2
  · cases ra; cases rb
    rename_i i j _ _
    obtain ⟨h1, h2, h⟩ := h
    refine AutoIntOps.floordiv_1 (by simp; omega) ?_ (Post.toks S (.int _ _) ?_)
    · rw [PyProof.noPylong_of_log2 (by have : j.natAbs.log2 < 63 := (Nat.log2_lt (by omega)).mpr (by omega); omega)]; simp
    · rw [Int.fdiv_eq_ediv_of_nonneg _ (by omega)]; exact h
  · cases ra; cases rb
    obtain ⟨h1, h2, h⟩ := h
    refine AutoIntOps.mod_1 (by simp; omega) (Post.toks S (.int _ _) ?_)
    rw [Int.fmod_eq_emod_of_nonneg _ (by omega)]; exact h
  · cases ra; cases rb
    obtain ⟨rfl, h1, h2, h⟩ := h
    refine AutoIntOps.pow_4 (by omega) (by simp; omega) (by decide) (by decide) ?_ (Post.toks S (.int _ _) h)
    rw [show Builtin.Int.intBits 10 = 4 by decide +kernel]
    simp only [Builtin.Int.intTooBig, decide_eq_true_eq, show bitsLine = 134217728 by decide +kernel]
    omega

theorem neg_sound {i : Int} {va : Value} {Q : V → AH → Prop} (S : St cx H s) (ra : Rep s.heap (.int i) va) (h : Q (.int (-i)) H) :
    wpAny (model cx.prog cx.w) A (unaryOp .USub va) (Post cx H s.heap Q) NoE s := by
  cases ra; exact PySem.P.neg_int (Post.toks S (.int _ _) h)
end
end Mine

namespace Mine

mutual
theorem Rep.reads {h : Heap} {a : V} {v : Value} (p : pureV a = true) (r : Rep h a v) : Reads h v (toD a) [] ∧ (toD a).canLay0 = true := by
  cases r with
  | raw _ _ => cases p
  | ref _ => cases p
  | none => exact ⟨.none, by simp [toD, PyData.canLay0]⟩
  | bool b => exact ⟨.bool b, by simp [toD, PyData.canLay0]⟩
  | int i t => exact ⟨.int i t, by simp [toD, PyData.canLay0]⟩
  | str l t ok =>
    refine ⟨.str _ t, ?_⟩
    simp only [toD, PyData.canLay0, PyData.strOk, mkS]
    simpa using okS_all ok
  | tup e rs =>
    obtain ⟨h1, h2⟩ := Reps.reads p rs
    exact ⟨.tuple e rfl rfl (by simpa using h1), by simpa [toD, PyData.canLay0] using h2⟩
theorem Reps.reads {h : Heap} {l : List V} {vs : List Value} (p : pureVs l = true) (r : Reps h l vs) : ReadsAll h vs (toDs l) [] ∧ PyData.canLayAll0 (toDs l) = true := by
  cases r with
  | nil => exact ⟨.nil, by simp [toDs, PyData.canLayAll0]⟩
  | cons r rs =>
    simp only [pureVs, Bool.and_eq_true] at p
    obtain ⟨h1, h2⟩ := Rep.reads p.1 r
    obtain ⟨h3, h4⟩ := Reps.reads p.2 rs
    exact ⟨.cons h1 h3, by simp [toDs, PyData.canLayAll0, h2, h4]⟩
end

theorem mkS_beq (s t : List Nat) : (mkS s == mkS t) = decide (s = t) := by
  by_cases e : s = t
  · subst e; simp
  · rw [decide_eq_false e]
    exact beq_eq_false_iff_ne.mpr fun h => e (mkS_inj h)

mutual
theorem veq_toD : ∀ a b : V, pureV a = true → pureV b = true → PyData.eqv (toD a) (toD b) = veq a b
  | .tup as, .tup bs, p, q => by
    simp only [pureV] at p q
    simp only [toD, PyData.eqv, veq]
    exact veqs_toD as bs p q
  | .none, b, p, q => by cases b <;> simp_all [toD, PyData.eqv, veq, pureV]
  | .bool a, b, p, q => by cases b <;> simp_all [toD, PyData.eqv, veq, pureV] <;> rfl
  | .int a, b, p, q => by cases b <;> simp_all [toD, PyData.eqv, veq, pureV] <;> rfl
  | .str a, b, p, q => by cases b <;> simp_all [toD, PyData.eqv, veq, pureV, mkS_beq]
  | .tup as, .none, p, q => by simp [toD, PyData.eqv, veq]
  | .tup as, .bool _, p, q => by simp [toD, PyData.eqv, veq]
  | .tup as, .int _, p, q => by simp [toD, PyData.eqv, veq]
  | .tup as, .str _, p, q => by simp [toD, PyData.eqv, veq]
theorem veqs_toD : ∀ a b : List V, pureVs a = true → pureVs b = true → PyData.eqvAll (toDs a) (toDs b) = veq.go a b
  | [], [], _, _ => by simp [toDs, PyData.eqvAll, veq.go]
  | a :: as, b :: bs, p, q => by
    simp only [pureVs, Bool.and_eq_true] at p q
    simp only [toDs, PyData.eqvAll, veq.go]
    rw [veq_toD a b p.1 q.1, veqs_toD as bs p.2 q.2]
  | [], b :: bs, _, _ => by simp [toDs, PyData.eqvAll, veq.go]
  | a :: as, [], _, _ => by simp [toDs, PyData.eqvAll, veq.go]
end

theorem scalar_pure {a : V} (h : isScalar a = true) : pureV a = true := by cases a <;> simp_all [isScalar, pureV]
theorem scalar_depth {a : V} (h : isScalar a = true) : (toD a).depth = 0 := by cases a <;> simp_all [isScalar, toD, PyData.depth]
theorem scalars_pure {l : List V} (h : l.all isScalar = true) : pureVs l = true := by
  induction l with
  | nil => rfl
  | cons a l ih => simp only [List.all_cons, Bool.and_eq_true] at h; simp [pureVs, scalar_pure h.1, ih h.2]
theorem scalars_depth {l : List V} (h : l.all isScalar = true) : PyData.depthAll (toDs l) = 0 := by
  induction l with
  | nil => rfl
  | cons a l ih => simp only [List.all_cons, Bool.and_eq_true] at h; simp [toDs, PyData.depthAll, scalar_depth h.1, ih h.2]

noncomputable def valEq : Value → Value → Bool
  | .none, .none => true
  | .bool a, .bool b => a == b
  | .int a _, .int b _ => decide (a = b)
  | .bool a, .int b _ => decide ((if a then 1 else 0 : Int) = b)
  | .int a _, .bool b => decide (a = (if b then 1 else 0 : Int))
  | .str a _, .str b _ => a == b
  | _, _ => false
theorem valEq_rep {h : Heap} {a b : V} {va vb : Value} (sa : isScalar a = true) (sb : isScalar b = true) (ra : Rep h a va) (rb : Rep h b vb) : valEq va vb = veq a b := by
  cases a <;> first | (simp [isScalar] at sa; done) | skip
  all_goals cases b <;> first | (simp [isScalar] at sb; done) | skip
  all_goals cases ra; cases rb; simp [valEq, veq, mkS_beq]

section
variable {cx : Cx} {A : Around} {H : AH} {s : Shared}

theorem eqAt_rep {A' : Around} {a b : V} {va vb : Value} (sa : isScalar a = true) (sb : isScalar b = true) (ra : Rep s.heap a va) (rb : Rep s.heap b vb) (hu : A'.units < cLine) : SeqAt.EqAt A' s va vb (veq a b) := by
  intro prog w E Q q
  obtain ⟨r1, l1⟩ := Rep.reads (scalar_pure sa) ra
  obtain ⟨r2, l2⟩ := Rep.reads (scalar_pure sb) rb
  refine SeqAt.eqBoolOverData prog w A' E s va vb _ _ [] [] Q r1 r2 l1 l2 ?_ ?_
  · rw [scalar_depth sa]; simpa using hu
  · rw [veq_toD _ _ (scalar_pure sa) (scalar_pure sb)]; exact q

theorem any_rep {h : Heap} {x : V} {vx : Value} (sx : isScalar x = true) (rx : Rep h x vx) : ∀ {l : List V} {vs : List Value}, l.all isScalar = true → Reps h l vs → vs.toArray.any (fun y => valEq y vx) = l.any fun y => veq y x
  | [], _, _, .nil => by simp
  | a :: l, _, p, .cons r rs => by
    simp only [List.all_cons, Bool.and_eq_true] at p
    have := any_rep sx rx p.2 rs
    simp only [List.any_toArray] at this ⊢
    simp [List.any_cons, valEq_rep p.1 sx r rx, this]
theorem mem_rep {h : Heap} {l : List V} {vs : List Value} (p : l.all isScalar = true) (r : Reps h l vs) {y : Value} (hy : y ∈ vs) : ∃ a, isScalar a = true ∧ Rep h a y := by
  induction l generalizing vs with
  | nil => cases r; cases hy
  | cons a l ih =>
    simp only [List.all_cons, Bool.and_eq_true] at p
    cases r with
    | cons r rs =>
      cases hy with
      | head => exact ⟨a, p.1, r⟩
      | tail _ hy => exact ih p.2 rs hy
theorem eqs_rep {l : List V} {vs : List Value} {x : V} {vx : Value} (p : l.all isScalar = true) (r : Reps s.heap l vs) (sx : isScalar x = true) (rx : Rep s.heap x vx) (hu : A.in1.units < cLine) :
    ∀ y, y ∈ vs.toArray → SeqAt.EqAt A.in1 s y vx (valEq y vx) := fun y hy => by
  obtain ⟨a, sa, ra⟩ := mem_rep p r (by simpa using hy)
  rw [valEq_rep sa sx ra rx]
  exact eqAt_rep sa sx ra rx hu

noncomputable def biName : BI → Str
  | .len => "len"
  | .str => "str"
  | .int => "int"
  | .chr => "chr"
  | .ord => "ord"
  | .min => "min"
noncomputable def biVal : BI → Value
  | .len => .builtin "len"
  | .str => .type "str"
  | .int => .type "int"
  | .chr => .builtin "chr"
  | .ord => .builtin "ord"
  | .min => .builtin "min"
noncomputable def GlobIs (g : Heap) (x : Str) (v : Value) : Prop := ∃ mg mb, g.Ns mainGlobals mg ∧ g.Ns builtinsNs mb ∧ (mg x = some v ∨ (mg x = none ∧ mb x = some v))

structure CxOk (cx : Cx) : Prop where
  K_in : cx.K.In cx.g0
  sysmod : ∃ o, cx.g0.get? sysModules = some o
  nolimit : cx.g0.NoLimit
  an_nd : cx.an.Nodup
  glob : ∀ i x, cx.gn[i]? = some x → ∃ v, GlobIs cx.g0 x v ∧ Rep cx.g0 (cx.gl i) v
  bi : ∀ b, GlobIs cx.g0 (biName b) (biVal b)
  range : GlobIs cx.g0 "range" (.type "range")
  list : GlobIs cx.g0 "list" (.type "list")
  reversed : GlobIs cx.g0 "reversed" (.type "reversed")

theorem St.notSys (ok : CxOk cx) (S : St cx H s) {a ao} (e : H a = some ao) : (a == sysModules) = false := by
  obtain ⟨o, ho⟩ := ok.sysmod
  rw [beq_eq_false_iff_ne]
  rintro rfl
  rw [(S.keep _ _ ho).2] at e
  cases e

end
end Mine

namespace Mine

structure KEnc (prog : Program) (w : World) (K : Type) [DecidableEq K] where
  knd : KeyKind prog w K
  enc : K → V
  okK : K → Prop
  to_is : ∀ {h : Heap} {k : K} {v : Value}, Rep h (enc k) v → knd.is k v = true ∧ okK k
  of_is : ∀ {h : Heap} {k : K} {v : Value}, okK k → knd.is k v = true → Rep h (enc k) v
  hash : ∀ k, hashV w (enc k) = knd.hash k
  veq : ∀ a b, veq (enc a) (enc b) = decide (a = b)

noncomputable def encS (prog : Program) (w : World) : KEnc prog w Str where
  knd := strKind prog w
  enc := fun x => .str x.cps.toList
  okK := fun x => okS x.cps.toList = true
  to_is := fun {h k v} r => by
    cases r with
    | str _ t ok => exact ⟨by rw [mkS_cps]; exact strKind_is prog w k t, ok⟩
  of_is := fun {h k v} ok e => by
    obtain ⟨t, rfl⟩ := Value.isStrOf_shape e
    have := Rep.str (h := h) k.cps.toList t ok
    rwa [mkS_cps] at this
  hash := fun k => by show hashStr w (mkS _) = hashStr w k; rw [mkS_cps]
  veq := fun a b => by
    simp only [Mine.veq, decide_eq_decide]
    constructor
    · intro h; cases a; cases b; simp only [Str.mk.injEq]; exact Array.toList_inj.mp h
    · rintro rfl; rfl

noncomputable def encI (prog : Program) (w : World) : KEnc prog w Int where
  knd := intKind prog w
  enc := .int
  okK := fun _ => True
  to_is := fun {h k v} r => by
    cases r with
    | int _ t => exact ⟨intKind_is prog w k t, trivial⟩
  of_is := fun {h k v} _ e => by
    obtain ⟨t, rfl⟩ := Value.isInt_shape e
    exact .int _ _
  hash := fun k => rfl
  veq := fun a b => by simp [Mine.veq]

section
variable {prog : Program} {w : World} {K : Type} [DecidableEq K] (c : KEnc prog w K)

inductive KV (h : Heap) : List (V × V) → List (K × Value) → Prop
  | nil : KV h [] []
  | cons {k : K} {x : V} {v : Value} {es kvs} : c.okK k → Rep h x v → KV h es kvs → KV h ((c.enc k, x) :: es) ((k, v) :: kvs)

variable {c} {h : Heap}

theorem KV.mono {h' : Heap} {es kvs} (r : KV c h es kvs) (k : ∀ a vs n, h.get? a = some (tupObj vs n) → h'.get? a = some (tupObj vs n)) : KV c h' es kvs := by
  induction r with
  | nil => exact .nil
  | cons a b _ ih => exact .cons a (b.mono k) ih
theorem KV.length {es kvs} (r : KV c h es kvs) : kvs.length = es.length := by
  induction r with
  | nil => rfl
  | cons _ _ _ ih => simp [ih]

theorem ents_to {es : List (V × V)} {ds : List DictEntry} (r : Ents w h es ds) (hk : ∀ e ∈ es, ∃ k, e.1 = c.enc k) :
    ∃ kvs, KV c h es kvs ∧ Pairs c.knd ds kvs ∧ ∀ d ∈ ds, ∃ k, c.knd.is k d.key = true ∧ d.hash = c.knd.hash k := by
  induction r with
  | nil => exact ⟨[], .nil, .nil, fun _ h => nomatch h⟩
  | @cons k x es e ds r1 r2 r3 _ ih =>
    obtain ⟨kvs, a, b, d⟩ := ih fun e he => hk e (List.mem_cons_of_mem _ he)
    obtain ⟨k', e1⟩ := hk (k, x) List.mem_cons_self
    simp only at e1
    subst e1
    obtain ⟨i1, i2⟩ := c.to_is r1
    refine ⟨(k', e.val) :: kvs, .cons i2 r3 a, .cons i1 rfl b, fun d' hd => ?_⟩
    rcases List.mem_cons.mp hd with rfl | hd
    · exact ⟨k', i1, by rw [r2, c.hash]⟩
    · exact d d' hd
theorem ents_of {es : List (V × V)} {kvs : List (K × Value)} {ds : List DictEntry} (r : KV c h es kvs) (p : Pairs c.knd ds kvs) (hk : ∀ d ∈ ds, ∃ k, c.knd.is k d.key = true ∧ d.hash = c.knd.hash k) : Ents w h es ds := by
  induction r generalizing ds with
  | nil => cases p; exact .nil
  | @cons k x v es kvs r1 r2 _ ih =>
    cases p with
    | @cons e kv ds kvs p1 p2 p3 =>
      obtain ⟨k', h1, h2⟩ := hk _ List.mem_cons_self
      obtain rfl : k' = k := c.knd.inj _ _ _ h1 p1
      have := Ents.cons (w := w) (c.of_is r1 p1) (by rw [h2, c.hash]) (show Rep h x e.val by rw [p2]; exact r2) (ih p3 fun d hd => hk d (List.mem_cons_of_mem _ hd))
      exact this
theorem KV.look {es : List (V × V)} {kvs : List (K × Value)} (r : KV c h es kvs) (k : K) :
    (∃ x v, lookV es (c.enc k) = some x ∧ valueAt kvs k = some v ∧ Rep h x v) ∨ (lookV es (c.enc k) = none ∧ valueAt kvs k = none) := by
  induction r with
  | nil => exact .inr ⟨rfl, rfl⟩
  | @cons k' x v es kvs r1 r2 _ ih =>
    unfold lookV valueAt at *
    simp only [List.find?_cons, c.veq]
    by_cases e : k' = k
    · simp only [e, decide_true]; exact .inl ⟨x, v, rfl, rfl, r2⟩
    · simp only [e, decide_false]; exact ih
theorem KV.any {es : List (V × V)} {kvs : List (K × Value)} (r : KV c h es kvs) (k : K) : (es.any fun e => veq e.1 (c.enc k)) = kvs.any fun kv => decide (kv.1 = k) := by
  induction r with
  | nil => rfl
  | cons _ _ _ ih => simp [List.any_cons, c.veq, ih]
theorem KV.store {es : List (V × V)} {kvs : List (K × Value)} (r : KV c h es kvs) {k : K} (hk : c.okK k) {x : V} {v : Value} (rx : Rep h x v) : KV c h (putV es (c.enc k) x) (stored kvs k v) := by
  unfold putV stored
  rw [r.any k]
  by_cases e : (kvs.any fun kv => decide (kv.1 = k)) = true
  · rw [if_pos e, if_pos e]
    clear e
    induction r with
    | nil => exact .nil
    | @cons k' x' v' es kvs r1 r2 _ ih =>
      simp only [List.map_cons, c.veq]
      by_cases q : k' = k
      · simp only [q, decide_true, if_true]; exact .cons hk rx ih
      · simp only [q, decide_false, if_false, Bool.false_eq_true]; exact .cons r1 r2 ih
  · rw [if_neg e, if_neg e]
    clear e
    induction r with
    | nil => exact .cons hk rx .nil
    | cons r1 r2 _ ih => exact .cons r1 r2 ih
theorem KV.nodup {es : List (V × V)} {kvs : List (K × Value)} (r : KV c h es kvs) : (es.map (·.1)).Nodup ↔ (kvs.map (·.1)).Nodup := by
  have key : ∀ {es kvs}, KV c h es kvs → ∀ k, c.enc k ∈ es.map (·.1) ↔ k ∈ kvs.map (·.1) := by
    intro es kvs r k
    induction r with
    | nil => simp
    | @cons k' x v es kvs _ _ _ ih =>
      simp only [List.map_cons, List.mem_cons, ih]
      have : c.enc k = c.enc k' ↔ k = k' := by
        constructor
        · intro e
          have h1 := c.veq k k'
          rw [e, c.veq k' k'] at h1
          simpa using h1.symm
        · rintro rfl; rfl
      rw [this]
  induction r with
  | nil => simp
  | @cons k x v es kvs _ _ r ih =>
    simp only [List.map_cons, List.nodup_cons, ih, key r k]
end

theorem lookV_any (es : List (V × V)) (k : V) : (lookV es k).isSome = es.any fun e => veq e.1 k := by
  unfold lookV
  induction es with
  | nil => rfl
  | cons e es ih =>
    simp only [List.find?_cons, List.any_cons]
    cases veq e.1 k with
    | true => rfl
    | false => simpa using ih
theorem putV_length (es : List (V × V)) (k x : V) : (putV es k x).length ≤ es.length + 1 := by
  unfold putV; split <;> simp

section
variable {cx : Cx} {A : Around} {H : AH} {s : Shared} {K : Type} [DecidableEq K] {c : KEnc cx.prog cx.w K}

theorem dictOf_to {a : Addr} {es : List (V × V)} (S : St cx H s) (e : H a = some (.dict es)) (hk : ∀ e ∈ es, ∃ k, e.1 = c.enc k) :
    ∃ kvs, KV c s.heap es kvs ∧ s.heap.DictOf c.knd a kvs ∧ s.heap.MapOf c.knd a (valueAt kvs) := by
  obtain ⟨ds, n, e1, r, hl, nd⟩ := S.objs a _ e
  obtain ⟨kvs, a1, b1, d1⟩ := ents_to (c := c) r hk
  have ko : KeysOf c.knd ds.toArray := fun d hd => d1 d (by simpa using hd)
  refine ⟨kvs, a1, ⟨_, ds.toArray, n, e1, ⟨rfl, rfl, rfl⟩, rfl, ko, by simpa using b1, a1.nodup.mp nd⟩, ⟨_, ds.toArray, n, e1, ⟨rfl, rfl, rfl⟩, rfl, ko, fun k => ?_⟩⟩
  rw [← b1.find k]
  simp [findBy]

theorem dictOf_of {h' : Heap} {a : Addr} {es : List (V × V)} {kvs : List (K × Value)} (r : KV c h' es kvs) (d : h'.DictOf c.knd a kvs) (hl : es.length ≤ lim) : ObjRep cx h' a (.dict es) := by
  obtain ⟨o, es', ep, ho, ⟨hc, hd, hs⟩, hdd, hk, hp, nd⟩ := d
  obtain ⟨oc, od, oda, osl⟩ := o
  simp only at hc hd hs hdd
  subst hc hd hs hdd
  refine ⟨es'.toList, ep, by simpa using ho, ents_of r hp fun d hd => hk d (by simpa using hd), hl, r.nodup.mpr nd⟩

theorem in_dict {a : Addr} {k : K} {key : Value} {es : List (V × V)} {Q : Value → Shared → Prop} (ok : CxOk cx) (S : St cx H s) (e : H a = some (.dict es)) (hk : ∀ e ∈ es, ∃ k, e.1 = c.enc k) (rk : Rep s.heap (c.enc k) key)
    (h : Q (.bool (es.any fun e => veq e.1 (c.enc k))) { s with toks := s.toks + 1 }) : wpAny (model cx.prog cx.w) A (compareOp .In key (.ref a)) Q NoE s := by
  obtain ⟨kvs, a1, _, m1⟩ := dictOf_to (c := c) S e hk
  refine wpAny_in_of (c.to_is rk).1 (S.notSys ok e) m1 ?_
  rw [← lookV_any] at h
  rcases a1.look k with ⟨x, v, q1, q2, _⟩ | ⟨q1, q2⟩ <;> rw [q1] at h <;> rw [q2] <;> exact h
theorem notin_dict {a : Addr} {k : K} {key : Value} {es : List (V × V)} {Q : Value → Shared → Prop} (ok : CxOk cx) (S : St cx H s) (e : H a = some (.dict es)) (hk : ∀ e ∈ es, ∃ k, e.1 = c.enc k) (rk : Rep s.heap (c.enc k) key)
    (h : Q (.bool (!es.any fun e => veq e.1 (c.enc k))) { s with toks := s.toks + 1 }) : wpAny (model cx.prog cx.w) A (compareOp .NotIn key (.ref a)) Q NoE s := by
  obtain ⟨kvs, a1, _, m1⟩ := dictOf_to (c := c) S e hk
  refine wpAny_notIn_of (c.to_is rk).1 (S.notSys ok e) m1 ?_
  rw [← lookV_any] at h
  rcases a1.look k with ⟨x, v, q1, q2, _⟩ | ⟨q1, q2⟩ <;> rw [q1] at h <;> rw [q2] <;> exact h
theorem get2_dict {a : Addr} {k : K} {key dv : Value} {d : V} {es : List (V × V)} {Q : V → AH → Prop} (ok : CxOk cx) (S : St cx H s) (e : H a = some (.dict es)) (hk : ∀ e ∈ es, ∃ k, e.1 = c.enc k) (rk : Rep s.heap (c.enc k) key) (rd : Rep s.heap d dv)
    (h : Q ((lookV es (c.enc k)).getD d) H) : wpAny (model cx.prog cx.w) A (call (.builtin "dict.get") [.ref a, key, dv]) (Post cx H s.heap Q) NoE s := by
  obtain ⟨kvs, a1, _, m1⟩ := dictOf_to (c := c) S e hk
  refine call_meetsIn F.slot_dict_get m1.typeIs F.entry_dict_get (F.args_dict_get_3 _ _ _) (meets_dict_get_default c.knd a (c.to_is rk).1 (S.notSys ok e) dv) ⟨_, m1, ?_⟩
  rcases a1.look k with ⟨x, v, q1, q2, rx⟩ | ⟨q1, q2⟩ <;> rw [q1] at h <;> rw [q2]
  · exact Post.toks S rx h
  · exact Post.toks S rd h
theorem get1_dict {a : Addr} {k : K} {key : Value} {es : List (V × V)} {Q : V → AH → Prop} (ok : CxOk cx) (S : St cx H s) (e : H a = some (.dict es)) (hk : ∀ e ∈ es, ∃ k, e.1 = c.enc k) (rk : Rep s.heap (c.enc k) key)
    (h : Q ((lookV es (c.enc k)).getD .none) H) : wpAny (model cx.prog cx.w) A (call (.builtin "dict.get") [.ref a, key]) (Post cx H s.heap Q) NoE s := by
  obtain ⟨kvs, a1, _, m1⟩ := dictOf_to (c := c) S e hk
  refine call_meetsIn F.slot_dict_get m1.typeIs F.entry_dict_get (F.args_dict_get_2 _ _) (meets_dict_get c.knd a (c.to_is rk).1 (S.notSys ok e)) ⟨_, m1, ?_⟩
  rcases a1.look k with ⟨x, v, q1, q2, rx⟩ | ⟨q1, q2⟩ <;> rw [q1] at h <;> rw [q2]
  · exact Post.toks S rx h
  · exact Post.toks S .none h
theorem item_dict {a : Addr} {k : K} {key : Value} {x : V} {es : List (V × V)} {Q : V → AH → Prop} (S : St cx H s) (e : H a = some (.dict es)) (hk : ∀ e ∈ es, ∃ k, e.1 = c.enc k) (rk : Rep s.heap (c.enc k) key)
    (hx : lookV es (c.enc k) = some x) (h : Q x H) : wpAny (model cx.prog cx.w) A (getItem (.ref a) key) (Post cx H s.heap Q) NoE s := by
  obtain ⟨kvs, a1, _, m1⟩ := dictOf_to (c := c) S e hk
  rcases a1.look k with ⟨y, v, q1, q2, rx⟩ | ⟨q1, q2⟩
  · rw [hx] at q1
    cases q1
    exact wpAny_getItem_of (c.to_is rk).1 m1 q2 (Post.toks S rx h)
  · rw [hx] at q1; cases q1
theorem put_dict {a : Addr} {k : K} {key v : Value} {x : V} {es : List (V × V)} {Q : Unit → Shared → Prop} (S : St cx H s) (e : H a = some (.dict es)) (hk : ∀ e ∈ es, ∃ k, e.1 = c.enc k) (rk : Rep s.heap (c.enc k) key) (rx : Rep s.heap x v)
    (hl : es.length + 1 ≤ lim) (h : ∀ s', St cx (H.set a (.dict (putV es (c.enc k) x))) s' → Ext H s.heap (H.set a (.dict (putV es (c.enc k) x))) s'.heap → Q () s') : wpAny (model cx.prog cx.w) A (setItem (.ref a) key v) Q NoE s := by
  obtain ⟨kvs, a1, d1, m1⟩ := dictOf_to (c := c) S e hk
  obtain ⟨i1, i2⟩ := c.to_is rk
  refine wpAny_setItem_pairs i1 d1 (fun h' d' hs => ?_) (by rw [a1.length, ← lim_eq]; omega)
  have hg : ∃ o, h'.get? a = some o := by obtain ⟨o, _, _, ho, _⟩ := d'; exact ⟨o, ho⟩
  obtain ⟨o, ho⟩ := hg
  refine h _ (S.update e hs ho (s.toks + 1) fun kt => dictOf_of (c := c) ((a1.store i2 rx).mono kt) d' ?_) (Ext.update e hs)
  exact Nat.le_trans (putV_length _ _ _) hl
end

inductive KH (w : World) (h : Heap) : List (V × V) → List (List Int × Addr × Value) → Prop
  | nil : KH w h [] []
  | cons {ks : List Int} {a : Addr} {x : V} {v : Value} {es xs} : Rep h (.tup (ks.map .int)) (.ref a) → Rep h x v → KH w h es xs → KH w h ((.tup (ks.map .int), x) :: es) ((ks, a, v) :: xs)

theorem reps_ints {prog : Program} {w : World} {h : Heap} : ∀ {ks : List Int} {vs : List Value}, Reps h (ks.map .int) vs → ItemsAre (intKind prog w) ks vs
  | [], _, .nil => .nil
  | k :: ks, _, .cons r rs => by
    cases r with
    | int _ t => exact .cons (intKind_is prog w k t) (reps_ints rs)
theorem tupKey_of {prog : Program} {w : World} {h : Heap} {ks : List Int} {a : Addr} (r : Rep h (.tup (ks.map .int)) (.ref a)) : IsTupleKey (intKind prog w) h ks a := by
  cases r with
  | tup e rs => exact ⟨_, _, _, e, rfl, rfl, by simpa using reps_ints rs⟩
theorem tupInts_inj {ks js : List Int} : veq.go (ks.map V.int) (js.map V.int) = decide (ks = js) := by
  induction ks generalizing js with
  | nil => cases js <;> simp [veq.go]
  | cons k ks ih => cases js with
    | nil => simp [veq.go]
    | cons j js => simp [veq.go, veq, ih]
theorem hash_tup (prog : Program) (w : World) (ks : List Int) : hashV w (.tup (ks.map .int)) = tupleKeyHash (intKind prog w) ks := by
  simp only [hashV, List.map_map]
  have e : ∀ l : List Int, l.map ((fun x : V => match x with | .int i => i | _ => 0) ∘ V.int) = l := by
    intro l; induction l with
    | nil => rfl
    | cons a l ih => rw [List.map_cons, ih]; rfl
  exact congrArg (tupleKeyHash (intKind prog w)) (e ks)

section
variable {cx : Cx} {A : Around} {H : AH} {s : Shared}

theorem KH.look {w : World} {h : Heap} {es xs} (r : KH w h es xs) (k : List Int) :
    (∃ x p, lookV es (.tup (k.map .int)) = some x ∧ atKey xs k = some p ∧ Rep h x p.2) ∨ (lookV es (.tup (k.map .int)) = none ∧ atKey xs k = none) := by
  induction r with
  | nil => exact .inr ⟨rfl, rfl⟩
  | @cons k' a x v es xs r1 r2 _ ih =>
    unfold lookV atKey at *
    simp only [List.find?_cons, veq, tupInts_inj]
    by_cases e : k' = k
    · simp only [e, decide_true]; exact .inl ⟨x, (a, v), rfl, rfl, r2⟩
    · simp only [e, decide_false]; exact ih
theorem KH.length {w : World} {h : Heap} {es xs} (r : KH w h es xs) : xs.length = es.length := by
  induction r with
  | nil => rfl
  | cons _ _ _ ih => simp [ih]
theorem KH.mono {w : World} {h h' : Heap} {es xs} (r : KH w h es xs) (k : ∀ a vs n, h.get? a = some (tupObj vs n) → h'.get? a = some (tupObj vs n)) : KH w h' es xs := by
  induction r with
  | nil => exact .nil
  | cons a b _ ih => exact .cons (a.mono k) (b.mono k) ih
theorem KH.nodup {w : World} {h : Heap} {es xs} (r : KH w h es xs) : (es.map (·.1)).Nodup ↔ (xs.map (·.1)).Nodup := by
  have inj : ∀ a b : List Int, (V.tup (a.map .int) = V.tup (b.map .int)) ↔ a = b := by
    intro a b
    constructor
    · intro e
      have h1 := tupInts_inj (ks := a) (js := b)
      injection e with e
      rw [e, tupInts_inj] at h1
      simpa using h1.symm
    · rintro rfl; rfl
  have key : ∀ {es xs}, KH w h es xs → ∀ k : List Int, (V.tup (k.map .int)) ∈ es.map (·.1) ↔ k ∈ xs.map (·.1) := by
    intro es xs r k
    induction r with
    | nil => simp
    | @cons k' a x v es kvs _ _ _ ih => simp only [List.map_cons, List.mem_cons, ih, inj]
  induction r with
  | nil => simp
  | @cons k a x v es xs _ _ r ih => simp only [List.map_cons, List.nodup_cons, ih, key r k]
theorem KH.store {w : World} {h : Heap} {es xs} (r : KH w h es xs) {k : List Int} {a : Addr} {x : V} {v : Value} (rk : Rep h (.tup (k.map .int)) (.ref a)) (rx : Rep h x v) : KH w h (putV es (.tup (k.map .int)) x) (storedH xs k a v) := by
  have hany : (es.any fun e => veq e.1 (.tup (k.map .int))) = (atKey xs k).isSome := by
    rw [← lookV_any]
    rcases r.look k with ⟨x, p, q1, q2, _⟩ | ⟨q1, q2⟩ <;> rw [q1, q2] <;> rfl
  unfold putV storedH
  rw [hany]
  by_cases e : (atKey xs k).isSome = true
  · rw [if_pos e, if_pos e]
    clear e hany
    induction r with
    | nil => exact .nil
    | @cons k' a' x' v' es xs r1 r2 _ ih =>
      simp only [List.map_cons, veq, tupInts_inj, putAt]
      by_cases q : k' = k
      · simp only [q, decide_true, if_true]; exact .cons (q ▸ r1) rx ih
      · simp only [q, decide_false, if_false, Bool.false_eq_true]; exact .cons r1 r2 ih
  · rw [if_neg e, if_neg e]
    clear e hany
    induction r with
    | nil => exact .cons rk rx .nil
    | cons r1 r2 _ ih => exact .cons r1 r2 ih

theorem dictH_to {a : Addr} {es : List (V × V)} (S : St cx H s) (e : H a = some (.dict es)) (hk : ∀ e ∈ es, ∃ k : List Int, e.1 = .tup (k.map .int)) :
    ∃ xs, KH cx.w s.heap es xs ∧ s.heap.DictOfH (tupleKind (intKind cx.prog cx.w)) a xs := by
  obtain ⟨ds, n, e1, r, hl, nd⟩ := S.objs a _ e
  have : ∃ xs, KH cx.w s.heap es xs ∧ ds = xs.map (entryOfKey (tupleKind (intKind cx.prog cx.w))) ∧ (∀ x ∈ xs, IsTupleKey (intKind cx.prog cx.w) s.heap x.1 x.2.1) := by
    clear e e1 nd hl
    induction r with
    | nil => exact ⟨[], .nil, rfl, fun _ h => nomatch h⟩
    | @cons k x es d ds r1 r2 r3 _ ih =>
      obtain ⟨xs, a1, a2, a3⟩ := ih fun e he => hk e (List.mem_cons_of_mem _ he)
      obtain ⟨k', e1⟩ := hk (k, x) List.mem_cons_self
      simp only at e1
      subst e1
      obtain ⟨dh, dk, dv⟩ := d
      simp only at r1 r2 r3
      have hd : ∃ b, dk = .ref b := by cases r1; exact ⟨_, rfl⟩
      obtain ⟨b, rfl⟩ := hd
      refine ⟨(k', b, dv) :: xs, .cons r1 r3 a1, ?_, fun y hy => ?_⟩
      · rw [List.map_cons, a2]
        congr 1
        rw [r2, hash_tup cx.prog]
        rfl
      · rcases List.mem_cons.mp hy with rfl | hy
        · exact tupKey_of r1
        · exact a3 y hy
  obtain ⟨xs, a1, a2, a3⟩ := this
  exact ⟨xs, a1, _, ds.toArray, n, e1, ⟨rfl, rfl, rfl⟩, rfl, by simpa using a2, a3, a1.nodup.mp nd⟩
theorem dictH_of {h' : Heap} {a : Addr} {es : List (V × V)} {xs} (r : KH cx.w h' es xs) (d : h'.DictOfH (tupleKind (intKind cx.prog cx.w)) a xs) (hl : es.length ≤ lim) : ObjRep cx h' a (.dict es) := by
  obtain ⟨o, es', ep, ho, ⟨hc, hd, hs⟩, hdd, he, hi, nd⟩ := d
  obtain ⟨oc, od, oda, osl⟩ := o
  simp only at hc hd hs hdd
  subst hc hd hs hdd
  refine ⟨es'.toList, ep, by simpa using ho, ?_, hl, r.nodup.mpr nd⟩
  rw [he]
  clear hi nd he hl
  induction r with
  | nil => exact .nil
  | @cons k a x v es xs r1 r2 _ ih => exact .cons r1 (by rw [hash_tup cx.prog]; rfl) r2 ih

theorem get2_dictH {a : Addr} {k : List Int} {key dv : Value} {d : V} {es : List (V × V)} {Q : V → AH → Prop} (ok : CxOk cx) (hu : A.units + 10 < cLine) (S : St cx H s) (e : H a = some (.dict es)) (hk : ∀ e ∈ es, ∃ k : List Int, e.1 = .tup (k.map .int))
    (rk : Rep s.heap (.tup (k.map .int)) key) (rd : Rep s.heap d dv) (h : Q ((lookV es (.tup (k.map .int))).getD d) H) : wpAny (model cx.prog cx.w) A (call (.builtin "dict.get") [.ref a, key, dv]) (Post cx H s.heap Q) NoE s := by
  obtain ⟨xs, a1, m1⟩ := dictH_to S e hk
  have hk' : ∃ b, key = .ref b := by cases rk; exact ⟨_, rfl⟩
  obtain ⟨b, rfl⟩ := hk'
  have hT : s.TypeIs (.ref a) "dict" := by obtain ⟨o, _, _, ho, hc, _⟩ := m1; exact ⟨o, ho, hc.1⟩
  refine call_meetsIn F.slot_dict_get hT F.entry_dict_get (F.args_dict_get_3 _ _ _) (meetsH_dict_get_default (tupleKind (intKind cx.prog cx.w)) a b (S.notSys ok e) dv) ⟨by show A.in1.units < cLine; simp; omega, k, xs, tupKey_of rk, m1, ?_⟩
  rcases a1.look k with ⟨x, v, q1, q2, rx⟩ | ⟨q1, q2⟩ <;> rw [q1] at h <;> rw [q2]
  · exact Post.toks S rx h
  · exact Post.toks S rd h
theorem put_dictH {a : Addr} {k : List Int} {key v : Value} {x : V} {es : List (V × V)} {Q : Unit → Shared → Prop} (hu : A.units + 10 < cLine) (S : St cx H s) (e : H a = some (.dict es)) (hk : ∀ e ∈ es, ∃ k : List Int, e.1 = .tup (k.map .int))
    (rk : Rep s.heap (.tup (k.map .int)) key) (rx : Rep s.heap x v) (hl : es.length + 1 ≤ lim)
    (h : ∀ s', St cx (H.set a (.dict (putV es (.tup (k.map .int)) x))) s' → Ext H s.heap (H.set a (.dict (putV es (.tup (k.map .int)) x))) s'.heap → Q () s') : wpAny (model cx.prog cx.w) A (setItem (.ref a) key v) Q NoE s := by
  obtain ⟨xs, a1, m1⟩ := dictH_to S e hk
  have hk' : ∃ b, key = .ref b := by cases rk; exact ⟨_, rfl⟩
  obtain ⟨b, rfl⟩ := hk'
  refine wpAny_setItem_heap (knd := tupleKind (intKind cx.prog cx.w)) (by show A.in1.units < cLine; simp; omega) (tupKey_of rk) m1 (fun h' d' hs => ?_) (by rw [a1.length, ← lim_eq]; omega)
  have hg : ∃ o, h'.get? a = some o := by obtain ⟨o, _, _, ho, _⟩ := d'; exact ⟨o, ho⟩
  obtain ⟨o, ho⟩ := hg
  refine h _ (S.update e hs ho _ fun kt => dictH_of ((a1.store rk rx).mono kt) d' ?_) (Ext.update e hs)
  exact Nat.le_trans (putV_length _ _ _) hl
end

end Mine

namespace Mine

section
variable {cx : Cx} {A : Around} {H : AH} {s : Shared}

theorem keq_hits {ds es : List (V × V)} {ka kb : List (Int × Value)} (hu : A.in1.units < cLine) (ra : KV (encI cx.prog cx.w) s.heap ds ka) (rb : KV (encI cx.prog cx.w) s.heap es kb) (hd : ∀ e ∈ ds, ∃ i s, e = (V.int i, V.str s)) (he : ∀ e ∈ es, ∃ i s, e = (V.int i, V.str s)) (nd : (es.map (·.1)).Nodup) :
    KeqHits A.in1 s kb ka (ds.all fun d => es.any fun e => veq d.1 e.1 && veq d.2 e.2) := by
  induction ra with
  | nil => exact .nil
  | @cons k x v ds ka r1 r2 _ ih =>
    replace ih := ih fun e h => hd e (List.mem_cons_of_mem _ h)
    obtain ⟨i, l, e1⟩ := hd _ List.mem_cons_self
    obtain ⟨e2, rfl⟩ := Prod.mk.inj e1
    rcases rb.look k with ⟨y, vy, q1, q2, ry⟩ | ⟨q1, q2⟩
    · have hy : ∃ l', y = .str l' := by
        unfold lookV at q1
        obtain ⟨e, q3, rfl⟩ := Option.map_eq_some_iff.mp q1
        obtain ⟨j, l', e3⟩ := he e (List.mem_of_find?_eq_some q3)
        exact ⟨l', by rw [e3]⟩
      obtain ⟨l', rfl⟩ := hy
      have key : (es.any fun e => veq ((encI cx.prog cx.w).enc k) e.1 && veq (V.str l) e.2) = veq (V.str l) (V.str l') := by
        clear ih q2 rb
        unfold lookV at q1
        induction es with
        | nil => simp at q1
        | cons e es ih =>
          obtain ⟨j, l'', e3⟩ := he e List.mem_cons_self
          subst e3
          rw [List.map_cons, List.nodup_cons] at nd
          simp only [List.any_cons]
          simp only [List.find?_cons] at q1
          by_cases e4 : j = k
          · subst e4
            have : veq (V.int j) ((encI cx.prog cx.w).enc j) = true := by simp [encI, veq]
            rw [this] at q1
            simp only [Option.map_some, Option.some.injEq, V.str.injEq] at q1
            subst q1
            have h2 : (es.any fun e => veq ((encI cx.prog cx.w).enc j) e.1 && veq (V.str l) e.2) = false := by
              rw [List.any_eq_false]
              intro e hm
              obtain ⟨j', l3, e5⟩ := he e (List.mem_cons_of_mem _ hm)
              subst e5
              have : j ≠ j' := fun z => nd.1 (List.mem_map.mpr ⟨_, hm, by rw [z]⟩)
              simp [encI, veq, this]
            rw [h2]
            simp [encI, veq]
          · have : veq (V.int j) ((encI cx.prog cx.w).enc k) = false := by simp [encI, veq, e4]
            rw [this] at q1
            have := ih (fun e h => he e (List.mem_cons_of_mem _ h)) nd.2 q1
            rw [this]
            have : veq ((encI cx.prog cx.w).enc k) (V.int j) = false := by simp [encI, veq]; exact fun z => e4 z.symm
            rw [this]; simp
      rw [List.all_cons, key]
      exact .hit q2 (eqAt_rep rfl rfl r2 ry hu) ih
    · have key : (es.any fun e => veq ((encI cx.prog cx.w).enc k) e.1 && veq (V.str l) e.2) = false := by
        rw [List.any_eq_false]
        intro e hm
        obtain ⟨j', l3, e5⟩ := he e hm
        subst e5
        unfold lookV at q1
        rw [Option.map_eq_none_iff, List.find?_eq_none] at q1
        have := q1 _ hm
        have h3 : veq ((encI cx.prog cx.w).enc k) (V.int j') = false := by
          simp [encI, veq] at this ⊢; exact fun z => this z.symm
        simp [h3]
      rw [List.all_cons, key, Bool.false_and]
      exact .miss q2

theorem reads_list {a : Addr} {xs : List V} (S : St cx H s) (e : H a = some (.list xs)) (p : pureVs xs = true) : ∃ as, Reads s.heap (.ref a) (.list (toDs xs)) as ∧ (PyData.list (toDs xs)).canLay0 = true := by
  obtain ⟨vs, n, e1, r, _⟩ := S.objs a _ e
  obtain ⟨h1, h2⟩ := Reps.reads p r
  exact ⟨_, .list e1 rfl rfl (by simpa using h1), by simpa [PyData.canLay0] using h2⟩

theorem eqW_sound {a b : V} {va vb : Value} {p : Bool → Prop} {Q : Value → Shared → Prop} (ok : CxOk cx) (hu : A.units + 100 < cLine) (S : St cx H s) (ra : Rep s.heap a va) (rb : Rep s.heap b vb) (h : eqW a b H p) (k : ∀ t tk, p t → Q (.bool t) { s with toks := tk }) :
    wpAny (model cx.prog cx.w) A (compareOp .Eq va vb) Q NoE s ∧ wpAny (model cx.prog cx.w) A (compareOp .NotEq va vb) (fun v s' => ∃ t, v = .bool (!t) ∧ Q (.bool t) s') NoE s := by
  unfold eqW at h
  split at h
  · cases ra; cases rb
    rcases h with ⟨xs, ys, h1, h2, p1, p2, h⟩ | ⟨ds, es, h1, h2, p1, p2, h⟩
    · obtain ⟨_, r1, l1⟩ := reads_list S h1 (scalars_pure p1)
      obtain ⟨_, r2, l2⟩ := reads_list S h2 (scalars_pure p2)
      have hd : A.units + min (PyData.list (toDs xs)).depth (PyData.list (toDs ys)).depth < cLine := by
        simp only [PyData.depth, scalars_depth p1, scalars_depth p2]; omega
      have e : PyData.eqv (.list (toDs xs)) (.list (toDs ys)) = veq.go xs ys := by
        simp only [PyData.eqv]; exact veqs_toD _ _ (scalars_pure p1) (scalars_pure p2)
      exact ⟨SeqAt.compareEq_reads r1 r2 l1 l2 hd (by rw [e]; exact k _ s.toks h), SeqAt.compareNe_reads r1 r2 l1 l2 hd (by rw [e]; exact ⟨_, rfl, k _ s.toks h⟩)⟩
    · obtain ⟨ka, a1, d1, _⟩ := dictOf_to (c := encI cx.prog cx.w) S h1 fun e he => by obtain ⟨i, _, rfl⟩ := p1 e he; exact ⟨i, rfl⟩
      obtain ⟨kb, b1, d2, _⟩ := dictOf_to (c := encI cx.prog cx.w) S h2 fun e he => by obtain ⟨i, _, rfl⟩ := p2 e he; exact ⟨i, rfl⟩
      obtain ⟨_, _, _, _, _, nd⟩ := S.objs _ _ h2
      have hits := keq_hits (A := A) (by simp; omega) a1 b1 p1 p2 nd
      have e : (ka.length == kb.length) = decide (ds.length = es.length) := by rw [a1.length, b1.length]; rfl
      refine ⟨keq_eq (S.notSys ok h1) (S.notSys ok h2) d1 d2 (by omega) (fun _ => hits) ?_, keq_ne (S.notSys ok h1) (S.notSys ok h2) d1 d2 (by omega) (fun _ => hits) ?_⟩
      · rw [e]; exact k _ s.toks h
      · rw [e]; exact ⟨_, rfl, k _ s.toks h⟩
  · obtain ⟨p1, p2, h⟩ := h
    rename_i as bs
    have q1 : pureV (.tup as) = true := by simp only [pureV]; exact p1
    have q2 : pureV (.tup bs) = true := by simp only [pureV]; exact scalars_pure p2
    obtain ⟨r1, l1⟩ := Rep.reads q1 ra
    obtain ⟨r2, l2⟩ := Rep.reads q2 rb
    have hd : A.units + min (toD (.tup as)).depth (toD (.tup bs)).depth < cLine := by
      simp only [toD, PyData.depth, scalars_depth p2]; omega
    have e : PyData.eqv (toD (.tup as)) (toD (.tup bs)) = veq.go as bs := by rw [veq_toD _ _ q1 q2]; simp [veq]
    exact ⟨SeqAt.compareEq_reads r1 r2 l1 l2 hd (by rw [e]; exact k _ s.toks h), SeqAt.compareNe_reads r1 r2 l1 l2 hd (by rw [e]; exact ⟨_, rfl, k _ s.toks h⟩)⟩
  · obtain ⟨p1, p2, h⟩ := h
    obtain ⟨r1, l1⟩ := Rep.reads (scalar_pure p1) ra
    obtain ⟨r2, l2⟩ := Rep.reads (scalar_pure p2) rb
    have hd : A.units + min (toD a).depth (toD b).depth < cLine := by rw [scalar_depth p1]; simp; omega
    have e := veq_toD a b (scalar_pure p1) (scalar_pure p2)
    exact ⟨SeqAt.compareEq_reads r1 r2 l1 l2 hd (by rw [e]; exact k _ s.toks h), SeqAt.compareNe_reads r1 r2 l1 l2 hd (by rw [e]; exact ⟨_, rfl, k _ s.toks h⟩)⟩

theorem inW_sound {x c : V} {vx vc : Value} {p : Bool → Prop} {Q : Value → Shared → Prop} (ok : CxOk cx) (hu : A.units + 100 < cLine) (S : St cx H s) (rx : Rep s.heap x vx) (rc : Rep s.heap c vc) (h : inW x c H p) (k : ∀ t tk, p t → Q (.bool t) { s with toks := tk }) :
    wpAny (model cx.prog cx.w) A (compareOp .In vx vc) Q NoE s ∧ wpAny (model cx.prog cx.w) A (compareOp .NotIn vx vc) (fun v s' => ∃ t, v = .bool (!t) ∧ Q (.bool t) s') NoE s := by
  unfold inW at h
  split at h
  · cases rx; cases rc
    rename_i t c _ _ _ _
    have e : (!(Builtin.Str.occurrences (mkS t) (mkS [c]) 0 (mkS t).length 1).isEmpty) = decide (c ∈ t) := by
      rw [show mkS [c] = (⟨#[c]⟩ : Str) from rfl, StrLaws.found_one]
      exact decide_eq_decide.mpr (by simp [mkS])
    exact ⟨PySem.P.in_str (by rw [e]; exact k _ s.toks h), PySem.P.notIn_str (by rw [e]; exact ⟨_, rfl, k _ s.toks h⟩)⟩
  · obtain ⟨p1, p2, h⟩ := h
    cases rc with
    | tup e rs =>
      have he := eqs_rep (A := A) p2 rs p1 rx (by simp; omega)
      have hany := any_rep p1 rx p2 rs
      refine ⟨SeqRoads2.in_meets ⟨_, e, rfl⟩ PySem.F.slot_tuple_contains PySem.F.entry_tuple_contains (PySem.F.args_tuple_contains_2 _ _) (SeqAt.tuple_containsAt _ _ _ none #[] vx fun y => valEq y vx) ⟨e, he, _, rfl, ?_⟩,
        SeqRoads2.notIn_meets ⟨_, e, rfl⟩ PySem.F.slot_tuple_contains PySem.F.entry_tuple_contains (PySem.F.args_tuple_contains_2 _ _) (SeqAt.tuple_containsAt _ _ _ none #[] vx fun y => valEq y vx) ⟨e, he, _, rfl, ?_⟩⟩
      · rw [hany]; exact k _ s.toks h
      · rw [hany]; exact ⟨_, rfl, k _ s.toks h⟩
  · cases rc
    rcases h with ⟨vs, h1, p1, p2, h⟩ | ⟨es, h1, h2, h⟩
    · obtain ⟨ws, n, e, rs, _⟩ := S.objs _ _ h1
      have he := eqs_rep (A := A) p2 rs p1 rx (by simp; omega)
      have hany := any_rep p1 rx p2 rs
      refine ⟨SeqRoads2.in_meets ⟨_, e, rfl⟩ PySem.F.slot_list_contains PySem.F.entry_list_contains (PySem.F.args_list_contains_2 _ _) (SeqAt.list_containsAt _ _ _ none #[] vx fun y => valEq y vx) ⟨e, he, _, rfl, ?_⟩,
        SeqRoads2.notIn_meets ⟨_, e, rfl⟩ PySem.F.slot_list_contains PySem.F.entry_list_contains (PySem.F.args_list_contains_2 _ _) (SeqAt.list_containsAt _ _ _ none #[] vx fun y => valEq y vx) ⟨e, he, _, rfl, ?_⟩⟩
      · rw [hany]; exact k _ s.toks h
      · rw [hany]; exact ⟨_, rfl, k _ s.toks h⟩
    · rcases h2 with ⟨l, rfl, hk⟩ | ⟨i, rfl, hk⟩
      · have hl : V.str l = (encS cx.prog cx.w).enc (mkS l) := by simp [encS, mkS]
        rw [hl] at rx h
        have hk' : ∀ e ∈ es, ∃ k, e.1 = (encS cx.prog cx.w).enc k := fun e he => by obtain ⟨t, ht⟩ := hk e he; exact ⟨mkS t, by rw [ht]; simp [encS, mkS]⟩
        exact ⟨in_dict (c := encS cx.prog cx.w) ok S h1 hk' rx (k _ _ h), notin_dict (c := encS cx.prog cx.w) ok S h1 hk' rx ⟨_, rfl, k _ _ h⟩⟩
      · have hk' : ∀ e ∈ es, ∃ k, e.1 = (encI cx.prog cx.w).enc k := fun e he => by obtain ⟨t, ht⟩ := hk e he; exact ⟨t, ht⟩
        exact ⟨in_dict (c := encI cx.prog cx.w) ok S h1 hk' rx (k _ _ h), notin_dict (c := encI cx.prog cx.w) ok S h1 hk' rx ⟨_, rfl, k _ _ h⟩⟩
  · exact h.elim

theorem leS_lt (s t : List Nat) : (!decide (t < s)) = leS s t := by
  induction s generalizing t with
  | nil => simp [leS]
  | cons a s ih =>
    cases t with
    | nil => simp [leS]
    | cons b t =>
      have := ih t
      simp only [leS, List.cons_lt_cons_iff, ← this]
      by_cases h1 : a < b
      · have : ¬ b < a := by omega
        have h3 : b ≠ a := by omega
        simp [h1, this, h3]
      · by_cases h2 : a = b
        · subst h2; simp
        · have : b < a := by omega
          simp [h1, h2, this]

theorem cmpW_sound {op : CmpOp} {a b : V} {va vb : Value} {p : Bool → Prop} {Q : Value → Shared → Prop} (ok : CxOk cx) (hu : A.units + 100 < cLine) (S : St cx H s) (ra : Rep s.heap a va) (rb : Rep s.heap b vb) (h : cmpW op a b H p) (k : ∀ t tk, p t → Q (.bool t) { s with toks := tk }) :
    wpAny (model cx.prog cx.w) A (compareOp op va vb) Q NoE s := by
  unfold cmpW at h
  cases op <;> simp only at h
  · exact (eqW_sound ok hu S ra rb h k).1
  · refine wpAny_mono (eqW_sound ok hu S ra rb h (Q := fun v s' => ∃ t, v = .bool t ∧ Q (.bool (!t)) s') fun t tk h => ⟨t, rfl, k _ tk h⟩).2 (fun v s' => ?_) fun _ _ e => e
    rintro ⟨t, rfl, t', e, q⟩
    cases e
    exact q
  · split at h
    · cases ra; cases rb; exact PySem.P.lt_int (k _ s.toks h)
    · exact h.elim
  · split at h
    · cases ra; cases rb; exact PySem.P.le_int (k _ s.toks h)
    · cases ra; cases rb
      refine PySem.P.le_str ?_
      have := k _ s.toks h
      rw [← leS_lt] at this
      simp only [mkS]
      exact this
    · exact h.elim
  · split at h
    · cases ra; cases rb; exact PySem.P.gt_int (k _ s.toks h)
    · exact h.elim
  · split at h
    · cases ra; cases rb; exact PySem.P.ge_int (k _ s.toks h)
    · exact h.elim
  · split at h
    · cases rb
      split at h
      · cases ra; exact wpAny_is_plain rfl (k true s.toks h)
      · exact h.elim
      · rename_i n1 n2
        cases ra <;> first | exact (n1 rfl).elim | exact (n2 _ rfl).elim | exact wpAny_is_plain rfl (k false s.toks h)
    · exact h.elim
  · split at h
    · cases rb
      split at h
      · cases ra; exact wpAny_isNot_plain rfl (k false s.toks h)
      · exact h.elim
      · rename_i n1 n2
        cases ra <;> first | exact (n1 rfl).elim | exact (n2 _ rfl).elim | exact wpAny_isNot_plain rfl (k true s.toks h)
    · exact h.elim
  · exact (inW_sound ok hu S ra rb h k).1
  · refine wpAny_mono (inW_sound ok hu S ra rb h (Q := fun v s' => ∃ t, v = .bool t ∧ Q (.bool (!t)) s') fun t tk h => ⟨t, rfl, k _ tk h⟩).2 (fun v s' => ?_) fun _ _ e => e
    rintro ⟨t, rfl, t', e, q⟩
    cases e
    exact q
end
end Mine

namespace Mine

section
variable {cx : Cx} {A : Around} {H : AH} {s : Shared}

theorem St.grow {h' : Heap} (S : St cx H s) (k : ∀ b o, s.heap.get? b = some o → h'.get? b = some o) (t : Nat) : St cx H { s with heap := h', toks := t } :=
  ⟨fun a x e => ⟨k _ _ (S.keep a x e).1, (S.keep a x e).2⟩,
   fun a ao e => (S.objs a ao e).mono (fun _ _ _ q => k _ _ q) (by obtain ⟨x, q⟩ := (S.objs a ao e).some; rw [q]; exact k _ _ q), S.gens, S.os⟩
theorem Ext.grow {h h' : Heap} (k : ∀ b o, h.get? b = some o → h'.get? b = some o) : Ext H h H h' := fun _ _ e n => ⟨k _ _ e, n⟩
theorem Rep.grow {h h' : Heap} (k : ∀ b o, h.get? b = some o → h'.get? b = some o) {a : V} {v : Value} (r : Rep h a v) : Rep h' a v := r.mono fun _ _ _ e => k _ _ e
theorem Reps.grow {h h' : Heap} (k : ∀ b o, h.get? b = some o → h'.get? b = some o) {a : List V} {v : List Value} (r : Reps h a v) : Reps h' a v := r.mono fun _ _ _ e => k _ _ e

theorem attrOk_parts {K : Frag} {C : Addr} {n : Str} (h : attrOk K C n = true) : plainGet K C n = true ∧ hasDictIn K C = true ∧ (∃ attr, findIn K (.ref C) n = some attr ∧ noGet K attr = true) ∧
    findIn K (.ref C) "__setattr__" = some (some (.builtin "object.__setattr__")) ∧ plainOver K C = true ∧ takerIn K C n = some none := by
  unfold attrOk at h
  simp only [Bool.and_eq_true, beq_iff_eq] at h
  obtain ⟨⟨⟨⟨⟨h1, h2⟩, h3⟩, h4⟩, h5⟩, h6⟩ := h
  refine ⟨h1, h2, ?_, h4, h5, h6⟩
  split at h3
  · rename_i attr e; exact ⟨attr, e, h3⟩
  · cases h3

theorem NsRep.strs {an : List Str} {h : Heap} {fs : List (Nat × V)} {ds : List DictEntry} (r : NsRep an h fs ds) : ∀ d ∈ ds, ∃ n t, d.key = .str n t := by
  induction r with
  | nil => intro d hd; cases hd
  | cons a b c _ ih =>
    intro d hd
    rcases List.mem_cons.mp hd with rfl | hd
    · exact ⟨_, _, b⟩
    · exact ih d hd
theorem NsRep.norefs {an : List Str} {h : Heap} {fs : List (Nat × V)} {ds : List DictEntry} (r : NsRep an h fs ds) : ds.any (·.refKey) = false := by
  rw [List.any_eq_false]
  intro d hd
  obtain ⟨n, t, e⟩ := r.strs d hd
  simp [DictEntry.refKey, e]
theorem an_inj {an : List Str} (nd : an.Nodup) {i j : Nat} {n : Str} (h1 : an[i]? = some n) (h2 : an[j]? = some n) : i = j :=
  (List.getElem?_inj (List.getElem?_eq_some_iff.mp h1).1 nd).mp (h1.trans h2.symm)

theorem NsRep.look {an : List Str} {h : Heap} {fs : List (Nat × V)} {ds : List DictEntry} (nd : an.Nodup) (r : NsRep an h fs ds) {k : Nat} {n : Str} (hn : an[k]? = some n) :
    (∃ x e, lookN fs k = some x ∧ ds.find? (·.key.isStr n) = some e ∧ Rep h x e.val) ∨ (lookN fs k = none ∧ ds.find? (·.key.isStr n) = none) := by
  induction r with
  | nil => exact .inr ⟨rfl, rfl⟩
  | @cons i x m t fs e ds a b c _ ih =>
    unfold lookN at *
    simp only [List.find?_cons, b]
    by_cases q : i = k
    · subst q
      rw [hn] at a
      cases a
      exact .inl ⟨x, e, by simp, by simp [Value.isStr], c⟩
    · have h1 : (i == k) = false := by simpa using q
      have h2 : Value.isStr (.str m t) n = false := by
        simp only [Value.isStr, beq_eq_false_iff_ne]
        rintro rfl
        exact q (an_inj nd a hn)
      simp only [h1, h2]
      exact ih

theorem attr_get {o : V} {vo : Value} {k : Nat} {nm : Str} {Q : V → AH → Prop} {expr : Bool} (ok : CxOk cx) (nd : cx.an.Nodup) (S : St cx H s) (ro : Rep s.heap o vo) (hn : cx.an[k]? = some nm) (h : attrW cx o k H Q) :
    wpAny (model cx.prog cx.w) A (getAttr vo nm expr) (Post cx H s.heap Q) NoE s := by
  unfold attrW at h
  split at h
  · cases ro
    obtain ⟨C, d, fs, n, x, h1, h2, h3, h4, h5, h⟩ := h
    rw [hn] at h3
    cases h3
    obtain ⟨p1, p2, ⟨attr, p3, p4⟩, _⟩ := attrOk_parts h4
    have e1 := S.objs _ _ h1
    obtain ⟨ds, m, e2, r, _⟩ := S.objs _ _ h2
    have I : W.InstAt s.heap _ (instObj C d) C (some (dictOf ds m)) := ⟨e1, rfl, rfl, e2⟩
    have X : cx.K.In s.heap := ok.K_in.keeps fun b o e => (S.keep b o e).1
    rcases r.look nd hn with ⟨x', e, q1, q2, rx⟩ | ⟨q1, q2⟩
    · rw [h5] at q1
      cases q1
      refine get_value X I (plainGet_of p1).1 (findObj_own p2 p3 p4 (v := e.val) ?_) rx.handed (Post.toks S rx h)
      rw [lookIn_dict]; unfold getL; rw [q2]
    · rw [h5] at q1; cases q1
  · exact h.elim

theorem NsRep.put {an : List Str} {h : Heap} (nd : an.Nodup) {fs : List (Nat × V)} {ds : List DictEntry} (r : NsRep an h fs ds) (nf : (fs.map (·.1)).Nodup) {k : Nat} {n : Str} (hn : an[k]? = some n) {x : V} {v : Value} (rx : Rep h x v) (hsh : Int) (t : Tok) :
    NsRep an h (putN' fs k x) (putL n hsh (.str n t) v ds) := by
  have key : ∀ {fs ds}, NsRep an h fs ds → (fs.any fun e => e.1 == k) = false → NsRep an h (fs ++ [(k, x)]) (putL n hsh (.str n t) v ds) := by
    intro fs ds r
    induction r with
    | nil => intro _; exact .cons hn rfl rx .nil
    | @cons i y m u fs e ds a b c _ ih =>
      intro q
      simp only [List.any_cons, Bool.or_eq_false_iff, beq_eq_false_iff_ne] at q
      have h2 : e.key.isStr n = false := by
        rw [b]
        simp only [Value.isStr, beq_eq_false_iff_ne]
        rintro rfl
        exact q.1 (an_inj nd a hn)
      unfold putL
      rw [if_neg (by rw [h2]; exact Bool.false_ne_true)]
      exact .cons a b c (ih q.2)
  have key2 : ∀ {fs ds}, NsRep an h fs ds → (fs.map (·.1)).Nodup → (fs.any fun e => e.1 == k) = true → NsRep an h (fs.map fun e => if e.1 == k then (e.1, x) else e) (putL n hsh (.str n t) v ds) := by
    intro fs ds r
    induction r with
    | nil => intro _ q; cases q
    | @cons i y m u fs e ds a b c r ih =>
      intro nf q
      rw [List.map_cons, List.nodup_cons] at nf
      unfold putL
      by_cases e1 : i = k
      · subst e1
        rw [hn] at a
        cases a
        have h2 : e.key.isStr n = true := by rw [b]; simp [Value.isStr]
        rw [if_pos h2]
        have : (fs.map fun e => if e.1 == i then (e.1, x) else e) = fs := by
          have h3 : ∀ e ∈ fs, (if e.1 == i then (e.1, x) else e) = e := fun e he => by
            have : e.1 ≠ i := fun z => nf.1 (List.mem_map.mpr ⟨e, he, z⟩)
            simp [this]
          rw [List.map_congr_left h3]; simp
        simp only [List.map_cons, beq_self_eq_true, if_true, this]
        exact .cons hn b rx r
      · have h2 : e.key.isStr n = false := by
          rw [b]
          simp only [Value.isStr, beq_eq_false_iff_ne]
          rintro rfl
          exact e1 (an_inj nd a hn)
        rw [if_neg (by rw [h2]; exact Bool.false_ne_true)]
        have h3 : (i == k) = false := by simpa using e1
        simp only [List.any_cons, h3, Bool.false_or] at q
        simp only [List.map_cons, h3, Bool.false_eq_true, if_false]
        exact .cons a b c (ih nf.2 q)
  unfold putN'
  by_cases q : (fs.any fun e => e.1 == k) = true
  · rw [if_pos q]; exact key2 r nf q
  · rw [if_neg q]
    exact key r ((Bool.not_eq_true _).mp q)
theorem putN_nodup {fs : List (Nat × V)} (nf : (fs.map (·.1)).Nodup) (k : Nat) (x : V) : ((putN' fs k x).map (·.1)).Nodup := by
  unfold putN'
  split
  · have : (fs.map fun e => if e.1 == k then (e.1, x) else e).map (·.1) = fs.map (·.1) := by
      rw [List.map_map]
      refine List.map_congr_left fun e _ => ?_
      simp only [Function.comp]
      split <;> rfl
    rw [this]; exact nf
  · rename_i q
    rw [Bool.not_eq_true, List.any_eq_false] at q
    rw [List.map_append, List.nodup_append]
    refine ⟨nf, by simp, fun a ha b hb => ?_⟩
    simp only [List.map_cons, List.map_nil, List.mem_singleton] at hb
    subst hb
    obtain ⟨e, he, rfl⟩ := List.mem_map.mp ha
    exact fun z => q e he (by simpa using z)
theorem putL_length (n : Str) (hsh : Int) (key v : Value) : ∀ ds : List DictEntry, (putL n hsh key v ds).length ≤ ds.length + 1
  | [] => by simp [putL]
  | e :: ds => by
    unfold putL
    split
    · simp
    · have := putL_length n hsh key v ds
      simp only [List.length_cons]; omega
theorem NsRep.length {an : List Str} {h : Heap} {fs : List (Nat × V)} {ds : List DictEntry} (r : NsRep an h fs ds) : ds.length = fs.length := by
  induction r with
  | nil => rfl
  | cons _ _ _ _ ih => simp [ih]

theorem attr_set {o x : V} {vo v : Value} {k : Nat} {nm : Str} {P : AH → Prop} {Q : Unit → Shared → Prop} (ok : CxOk cx) (nd : cx.an.Nodup) (S : St cx H s) (ro : Rep s.heap o vo) (rx : Rep s.heap x v) (hn : cx.an[k]? = some nm)
    (h : setattrW cx o k x H P) (q : ∀ H' s', P H' → St cx H' s' → Ext H s.heap H' s'.heap → Q () s') :
    wpAny (model cx.prog cx.w) A (setAttr vo nm v) Q NoE s := by
  unfold setattrW at h
  split at h
  · rename_i a
    cases ro
    obtain ⟨C, d, fs, n, h1, h2, h3, h4, h5, h⟩ := h
    rw [hn] at h3
    cases h3
    obtain ⟨p1, p2, _, p5, p6, p7⟩ := attrOk_parts h4
    have e1 := S.objs _ _ h1
    obtain ⟨ds, m, e2, r, nf⟩ := S.objs _ _ h2
    have e1' : s.heap.get? a = some (instObj C d) := e1
    have I : W.InstAt { s with toks := s.toks + 1 }.heap a (instObj C d) C (some (dictOf ds m)) := ⟨e1, rfl, rfl, e2⟩
    have X : cx.K.In s.heap := ok.K_in.keeps fun b o e => (S.keep b o e).1
    obtain ⟨cd, hc, hd'⟩ := any_some p2
    have X1 : cx.K.In ({ s with toks := s.toks + 1 } : Shared).heap := X
    refine set_plain X I p5 (osa_open (s := { s with toks := s.toks + 1 }) X I p6 p7 fun b => ?_)
    have hs := Heap.SameBut.update s.heap d (Obj.putName nm (PyData.keyHash cx.w.params nm) (.str nm (s.toks + 1)) v)
    have hg : (s.heap.update d (Obj.putName nm (PyData.keyHash cx.w.params nm) (.str nm (s.toks + 1)) v)).get? d = some (dictOf (putL nm (PyData.keyHash cx.w.params nm) (.str nm (s.toks + 1)) v ds) (putN nm ds m)) := by
      rw [Heap.get?_update_self _ e2 (by rw [putName_dict]; rfl), putName_dict]
    have hlen : (putL nm (PyData.keyHash cx.w.params nm) (.str nm (s.toks + 1)) v ds).length ≤ 1000 := by
      have := putL_length nm (PyData.keyHash cx.w.params nm) (.str nm (s.toks + 1)) v ds
      rw [r.length] at this
      omega
    refine wpAny_bind (wpAny_pure (wpAny_bind (wpAny_bind (wpAny_loadPart e1' (wpAny_bind ((looks_clsIn X1 hc).here ?_))))))
    rw [hd']
    refine wpAny_pure (a := some d) (wpAny_bind (wpAny_pure (wpAny_bind ?_)))
    unfold nsSet
    refine wpAny_bind (wpAny_bind (wpAny_askSetting (wpAny_pure (wpAny_bind (wpAny_mkText (wpAny_bind (wpAny_loadPart e2 ?_)))))))
    have c : (!ds.toArray.any (·.key.isStr nm) && ds.toArray.any (·.refKey)) = false := by
      rw [List.any_toArray, List.any_toArray, r.norefs, Bool.and_false]
    dsimp only [dctObj]
    rw [aRefKeyMayBeTheName_at, c]
    simp only [Bool.false_eq_true, if_false]
    refine wpAny_updatePart e2 ?_
    refine wpAny_bind (wpAny_lookBehind hg (pastItsLine_dict (by rw [List.size_toArray, sizeLine_eq]; omega)) ?_)
    refine wpAny_pure ?_
    exact q _ _ h (S.update (ao' := .ns (putN' fs k x)) h2 hs hg _ fun kt => ⟨_, _, hg, (r.mono kt).put nd nf hn (rx.mono kt) _ _, putN_nodup nf k x⟩) (Ext.update h2 hs)
  · exact h.elim

theorem meth_get {o : V} {vo : Value} {k : Nat} {nm : Str} {P : Addr → Prop} {Q : Value × List Value → Shared → Prop} {pl : Sem Bool} (ok : CxOk cx) (nd : cx.an.Nodup) (S : St cx H s) (ro : Rep s.heap o vo) (hn : cx.an[k]? = some nm)
    (n : Nat) (h : methW cx n o k H P) (q : ∀ f, P f → (∃ x, s.heap.get? f = some x ∧ x.cls = .type "function") → Q (.ref f, [vo]) s) :
    wpAny (model cx.prog cx.w) A (getMethod vo nm pl) Q NoE s := by
  unfold methW at h
  split at h
  · cases ro
    obtain ⟨C, d, fs, n', f, h1, h2, h3, h4, h5, h⟩ := h
    rw [hn] at h3
    cases h3
    unfold methIn at h4
    split at h4
    · rename_i f' hf
      split at h4
      · rename_i hb
        cases h4
        simp only [Bool.and_eq_true] at hb
        have e1 := S.objs _ _ h1
        obtain ⟨ds, m, e2, r, nf⟩ := S.objs _ _ h2
        have I : W.InstAt s.heap _ (instObj C d) C (some (dictOf ds m)) := ⟨e1, rfl, rfl, e2⟩
        have X : cx.K.In s.heap := ok.K_in.keeps fun b o e => (S.keep b o e).1
        refine method_fn X I (plainGet_of hb.1).1 (plainGet_of hb.1).2 hf (beq_iff_eq.mp hb.2) ?_ (q _ h ?_)
        · show (lookIn nm (dictOf ds m)).map _ = _
          rw [lookIn_dict]
          unfold getL
          rcases r.look nd hn with ⟨x, e, q1, q2, _⟩ | ⟨q1, q2⟩
          · rw [h5] at q1; cases q1
          · rw [q2, r.norefs]; rfl
        · obtain ⟨ob, ho, hc⟩ := Option.map_eq_some_iff.mp (beq_iff_eq.mp hb.2)
          exact ⟨ob, X _ _ ho, hc⟩
      · cases h4
    · cases h4
  · exact h.elim
end
end Mine

namespace Mine

section
variable {cx : Cx} {A : Around} {H : AH} {s : Shared}

theorem idx_seq {n : Nat} {i : Int} {j : Nat} (h : idx n i = some j) : seqIndex? i n = some j ∧ -(n : Int) ≤ i ∧ i < n ∧ j < n := by
  unfold idx at h
  unfold seqIndex?
  by_cases h0 : 0 ≤ i
  · rw [if_pos h0] at h
    by_cases h1 : i < n
    · rw [if_pos h1] at h
      cases h
      have : ¬ i < 0 := by omega
      simp only [this, if_false]
      refine ⟨?_, by omega, h1, by omega⟩
      rw [if_pos (by simp; omega)]
    · rw [if_neg h1] at h; cases h
  · rw [if_neg h0] at h
    by_cases h1 : 0 ≤ i + n
    · rw [if_pos h1] at h
      cases h
      have : i < 0 := by omega
      simp only [this, if_true]
      refine ⟨?_, by omega, by omega, by omega⟩
      rw [if_pos (by simp; omega)]
    · rw [if_neg h1] at h; cases h

theorem subW_sound {o i : V} {vo vi : Value} {Q : V → AH → Prop} (ok : CxOk cx) (S : St cx H s) (ro : Rep s.heap o vo) (ri : Rep s.heap i vi) (h : subW o i H Q) :
    wpAny (model cx.prog cx.w) A (getItem vo vi) (Post cx H s.heap Q) NoE s := by
  unfold subW at h
  split at h
  · cases ri
    cases ro with
    | tup e rs =>
      obtain ⟨j, x, h1, hl, h2, h⟩ := h
      obtain ⟨v, h3, rx⟩ := rs.get h2
      obtain ⟨q1, q2, q3, _⟩ := idx_seq h1
      rw [lim_val] at hl
      exact PyProof.Rows.getItem_tuple (items := _) ⟨_, e, rfl, _, rfl⟩ (by omega) (by omega) (by rw [List.size_toArray, rs.length]; exact q1) (by simpa using h3) (Post.toks (t := s.toks) S rx h)
  · cases ri
    cases ro with
    | str l t okl =>
      obtain ⟨j, x, h1, h2, h⟩ := h
      obtain ⟨q1, q2, q3, q4⟩ := idx_seq h1
      have hl := okS_len okl
      rw [lim_val] at hl
      refine PySem.P.getItem_str (c := x) (by simp; omega) ?_ ?_
      · rw [mkS_length, q1]; simpa [mkS] using h2
      · refine Post.toks S (.str [x] _ (okS_mk (by simp [lim_val]) fun c hc => ?_)) h
        simp only [List.mem_singleton] at hc
        subst hc
        exact okS_all okl _ (List.mem_of_getElem? h2)
  · cases ro
    rcases h with ⟨xs, i, j, x, rfl, h1, h2, h3, h⟩ | ⟨es, x, h1, h2, h3, h⟩
    · cases ri
      obtain ⟨vs, n, e, rs, hl⟩ := S.objs _ _ h1
      obtain ⟨v, h4, rx⟩ := rs.get h3
      obtain ⟨q1, q2, q3, q4⟩ := idx_seq h2
      rw [lim_val] at hl
      have hsz : vs.toArray.size = xs.length := by rw [List.size_toArray, rs.length]
      unfold idx at h2
      by_cases h0 : 0 ≤ i
      · rw [if_pos h0, if_pos q3] at h2
        cases h2
        exact wpAny_getItem_list (items := vs.toArray) ⟨_, e, rfl, n, rfl⟩ h0 (by omega) (by simpa using h4) (Post.toks (t := s.toks) S rx h)
      · rw [if_neg h0, if_pos (by omega)] at h2
        cases h2
        exact wpAny_getItem_list_neg (items := vs.toArray) ⟨_, e, rfl, n, rfl⟩ (by omega) (by rw [hsz]; omega) (by omega) (by rw [hsz]; simpa using h4) (Post.toks (t := s.toks) S rx h)
    · rcases h2 with ⟨l, rfl, hk⟩ | ⟨i, rfl, hk⟩
      · have hl : V.str l = (encS cx.prog cx.w).enc (mkS l) := by simp [encS, mkS]
        rw [hl] at ri h3
        exact item_dict (c := encS cx.prog cx.w) S h1 (fun e he => by obtain ⟨t, ht⟩ := hk e he; exact ⟨mkS t, by rw [ht]; simp [encS, mkS]⟩) ri h3 h
      · exact item_dict (c := encI cx.prog cx.w) S h1 (fun e he => by obtain ⟨t, ht⟩ := hk e he; exact ⟨t, ht⟩) ri h3 h
  · exact h.elim

theorem setsubW_sound {o i x : V} {vo vi v : Value} {P : AH → Prop} {Q : Unit → Shared → Prop} (hu : A.units + 100 < cLine) (S : St cx H s) (ro : Rep s.heap o vo) (ri : Rep s.heap i vi) (rx : Rep s.heap x v)
    (h : setsubW o i x H P) (q : ∀ H' s', P H' → St cx H' s' → Ext H s.heap H' s'.heap → Q () s') :
    wpAny (model cx.prog cx.w) A (setItem vo vi v) Q NoE s := by
  unfold setsubW at h
  split at h
  · cases ro
    obtain ⟨es, h1, h2, h3, h⟩ := h
    rcases h2 with ⟨l, rfl, hk⟩ | ⟨i, rfl, hk⟩ | ⟨ks, rfl, hk⟩
    · have hl : V.str l = (encS cx.prog cx.w).enc (mkS l) := by simp [encS, mkS]
      rw [hl] at ri h
      exact put_dict (c := encS cx.prog cx.w) S h1 (fun e he => by obtain ⟨t, ht⟩ := hk e he; exact ⟨mkS t, by rw [ht]; simp [encS, mkS]⟩) ri rx h3 fun s' S' E' => q _ s' h S' E'
    · exact put_dict (c := encI cx.prog cx.w) S h1 (fun e he => by obtain ⟨t, ht⟩ := hk e he; exact ⟨t, ht⟩) ri rx h3 fun s' S' E' => q _ s' h S' E'
    · exact put_dictH (by omega) S h1 hk ri rx h3 fun s' S' E' => q _ s' h S' E'
  · exact h.elim

theorem partI_part {lo : V} {vl : Value} {a : Option Int} {h : Heap} (r : Rep h lo vl) (e : partI lo = some a) : IsPart vl a ∧ ∃ l, vl = partValue l ∧ l.map (·.1) = a := by
  cases lo <;> simp only [partI] at e <;> first | cases e | skip
  · cases r; exact ⟨.none, none, rfl, rfl⟩
  · cases r; exact ⟨.int _ _, some (_, _), rfl, rfl⟩

theorem cut_len {α : Type} (l : List α) (a b : Option Int) : (cut l a b).length ≤ l.length := by
  unfold cut; rw [List.length_take, List.length_drop]; omega
theorem cut_mem {α : Type} {l : List α} {a b : Option Int} {x : α} (h : x ∈ cut l a b) : x ∈ l := by
  unfold cut at h; exact List.mem_of_mem_drop (List.mem_of_mem_take h)

theorem strSlice_cut (l : List Nat) (a b : Option (Int × Tok)) :
    ((slicePicked (mkS l) a b none).filterMap ((mkS l).cps[·]?)) = cut l (a.map (·.1)) (b.map (·.1)) := by
  have h1 : slicePicked (mkS l) a b none = sliceRange (sliceBounds (a.map (·.1)) (b.map (·.1)) none l.length).1 (sliceBounds (a.map (·.1)) (b.map (·.1)) none l.length).2.1 1 := by
    unfold slicePicked
    rw [mkS_length]
    rfl
  rw [h1, sliceBounds_plain]
  simp only [sliceRange_one, pick_run]
  simp [mkS, cut]

theorem cut_whole {α : Type} {l : List α} {a b : Option Int} (h : (cut l a b).length = l.length) : cut l a b = l := by
  unfold cut at *
  rw [List.length_take, List.length_drop] at h
  generalize hd : a.elim 0 (clipAt l.length) = d at *
  generalize he : b.elim l.length (clipAt l.length) = e at *
  by_cases h0 : l.length = 0
  · have : l = [] := List.length_eq_zero_iff.mp h0
    subst this; simp
  · have : d = 0 := by omega
    subst this
    rw [List.drop_zero, List.take_of_length_le (by omega)]

theorem pickedLen (l : List Nat) (a b : Option (Int × Tok)) : (slicePicked (mkS l) a b none).length = (cut l (a.map (·.1)) (b.map (·.1))).length := by
  rw [← strSlice_cut]
  have h1 : slicePicked (mkS l) a b none = sliceRange (sliceBounds (a.map (·.1)) (b.map (·.1)) none l.length).1 (sliceBounds (a.map (·.1)) (b.map (·.1)) none l.length).2.1 1 := by
    unfold slicePicked
    rw [mkS_length]
    rfl
  rw [h1, sliceBounds_plain]
  simp only [sliceRange_one, pick_run]
  generalize b.map (·.1) = q
  generalize a.map (·.1) = p
  have hb : (q.elim l.length (clipAt l.length)) ≤ l.length := by
    cases q with
    | none => simp
    | some p => have := clipAt_cast l.length p; simp only [Option.elim]; omega
  generalize q.elim l.length (clipAt l.length) = q' at *
  generalize p.elim 0 (clipAt l.length) = p' at *
  simp [mkS]
  omega

theorem sliceW_sound {o lo hi : V} {vo vl vu : Value} {a : Addr} {Q : V → AH → Prop} (ok : CxOk cx) (S : St cx H s) (ro : Rep s.heap o vo) (rl : Rep s.heap lo vl) (ru : Rep s.heap hi vu) (hs : s.heap.get? a = some { cls := .type "slice", data := .fields #[vl, vu, .none] })
    (h : sliceW o lo hi cx H Q) : wpAny (model cx.prog cx.w) A (getItem vo (.ref a)) (Post cx H s.heap Q) NoE s := by
  obtain ⟨a', b', h1, h2, h⟩ := h
  obtain ⟨pl, l, rfl, rfl⟩ := partI_part rl h1
  obtain ⟨pu, u, rfl, rfl⟩ := partI_part ru h2
  split at h
  · cases ro with
    | str _ t okx =>
      rename_i x
      refine wpAny_getItem_str_slice (l := l) (u := u) (st := none) ⟨_, hs, rfl, rfl⟩ rfl ?_
      unfold sliceMade
      have okc : okS (cut x (l.map (·.1)) (u.map (·.1))) = true := okS_mk (Nat.le_trans (cut_len _ _ _) (okS_len okx)) fun c hc => okS_all okx c (cut_mem hc)
      split
      · rename_i hc
        simp only [Bool.and_eq_true, beq_iff_eq] at hc
        have hw := cut_whole (l := x) (a := l.map (·.1)) (b := u.map (·.1)) (by rw [← pickedLen, hc.2, mkS_length])
        rw [hw] at h
        exact Post.toks (t := s.toks) S (.str _ _ okx) h
      · rw [strSlice_cut]
        exact ⟨by show (mkS _).length ≤ sizeLine; rw [mkS_length, ← lim_eq]; exact okS_len okc, Post.toks S (.str _ _ okc) h⟩
  · cases ro
    rename_i p
    obtain ⟨xs, h3, h⟩ := h
    have : ∃ vs, s.heap.IsList p vs.toArray ∧ Reps s.heap xs vs ∧ xs.length ≤ lim := by
      rcases h3 with h3 | ⟨vs, ⟨o, e, oc, n, od⟩, r, hl⟩
      · obtain ⟨vs, n, e, r, hl⟩ := S.objs _ _ h3
        exact ⟨vs, ⟨_, e, rfl, n, rfl⟩, r, hl⟩
      · exact ⟨vs, ⟨o, (S.keep _ _ e).1, oc, n, od⟩, r.mono fun b vs n q => (S.keep b _ q).1, hl⟩
    obtain ⟨vs, e, rs, hl⟩ := this
    refine wpAny_getItem_list_slice (items := vs.toArray) (st := none) e ⟨_, hs, rfl, rfl⟩ pl pu .none (by simp) ?_ (by rw [List.size_toArray, rs.length, ← lim_eq]; exact hl)
    rw [slicePick_plain]
    have e1 : ((vs.toArray.toList.drop ((l.map (·.1)).elim 0 (clipAt vs.toArray.size))).take ((u.map (·.1)).elim vs.toArray.size (clipAt vs.toArray.size) - (l.map (·.1)).elim 0 (clipAt vs.toArray.size))) = cut vs (l.map (·.1)) (u.map (·.1)) := by
      unfold cut; simp
    rw [e1]
    refine Post.newList S (xs := cut xs (l.map (·.1)) (u.map (·.1))) (t := s.toks) (n := 0) ?_ (Nat.le_trans (cut_len _ _ _) hl) h
    unfold cut
    rw [rs.length]
    exact (rs.drop _).take _
  · exact h.elim
end
end Mine

namespace Mine

noncomputable def bmId : BM → String
  | .append => "list.append"
  | .pop => "list.pop"
  | .reverse => "list.reverse"
  | .get => "dict.get"
  | .join => "str.join"

theorem digits10_lt (n : Nat) : ∀ c ∈ digits10 n, 48 ≤ c ∧ c ≤ 57 := by
  intro c hc
  unfold digits10 at hc
  obtain ⟨d, hd, rfl⟩ := List.mem_map.mp hc
  have := Nat.isDigit_of_mem_toDigits (b := 10) (n := n) (c := d) (by decide) (by decide) hd
  simp only [Char.isDigit, Bool.and_eq_true, decide_eq_true_eq] at this
  exact ⟨this.1, this.2⟩
theorem showI_ok (i : Int) : ∀ c ∈ showI i, c = 45 ∨ (48 ≤ c ∧ c ≤ 57) := by
  intro c hc
  unfold showI at hc
  split at hc
  · rcases List.mem_cons.mp hc with rfl | hc
    · exact .inl rfl
    · exact .inr (digits10_lt _ c hc)
  · exact .inr (digits10_lt _ c hc)
theorem ofString_showI (i : Int) : Str.ofString (toString i) = mkS (showI i) := by
  have nat : ∀ m : Nat, Str.ofString (toString (m : Int)) = mkS (digits10 m) := fun m => by
    have := KIN.signs_num m
    rw [← mkS_cps (Str.ofString _), this]; rfl
  by_cases h : i < 0
  · rw [toString_neg h]
    have e : (0 - i) = ((i.natAbs : Nat) : Int) := by omega
    rw [e]
    have : Str.ofString ("-" ++ toString ((i.natAbs : Nat) : Int)) = Str.ofString "-" ++ Str.ofString (toString ((i.natAbs : Nat) : Int)) := by
      rw [Str.ofString_eq_toList, Str.ofString_eq_toList, Str.ofString_eq_toList, String.toList_append, List.map_append]
      show _ = (⟨_ ++ _⟩ : Str)
      simp
    rw [this, nat]
    have h1 : Str.ofString "-" = mkS [45] := by decide +kernel
    rw [h1, mkS_append]
    unfold showI
    rw [if_pos h]; rfl
  · have e : i = ((i.natAbs : Nat) : Int) := by omega
    have := nat i.natAbs
    rw [← e] at this
    rw [this]
    unfold showI
    rw [if_neg h]

section
variable {cx : Cx} {A : Around} {H : AH} {s : Shared}

theorem St.adopt {a : Addr} {ao : AObj} (S : St cx H s) (e : H a = none) (g : cx.g0.get? a = none) (r : ObjRep cx s.heap a ao) : St cx (H.set a ao) s :=
  ⟨fun b x q => ⟨(S.keep b x q).1, by rw [AH.set_ne _ _ (fun z => by subst z; rw [g] at q; cases q)]; exact (S.keep b x q).2⟩,
   fun b bo q => by
    by_cases z : b = a
    · subst z; rw [AH.set_same] at q; cases q; exact r
    · rw [AH.set_ne _ _ z] at q; exact S.objs b bo q, S.gens, S.os⟩
theorem Ext.adopt {H H' : AH} {h h' : Heap} {a : Addr} {ao : AObj} (x : Ext H h H' h') (n : h.get? a = none) : Ext H h (H'.set a ao) h' := fun b o e q => by
  obtain ⟨e1, n1⟩ := x b o e q
  exact ⟨e1, by rw [AH.set_ne _ _ (fun z => by subst z; rw [n] at e; cases e)]; exact n1⟩
theorem get_size_none (h : Heap) : h.get? h.objs.size = none := by
  cases q : h.get? h.objs.size with
  | none => rfl
  | some o => exact absurd (Heap.lt_size q) (Nat.lt_irrefl _)
theorem St.g0_fresh (S : St cx H s) {a : Addr} (h : s.heap.get? a = none) : cx.g0.get? a = none := by
  cases q : cx.g0.get? a with
  | none => rfl
  | some o => rw [(S.keep _ _ q).1] at h; cases h

theorem strs_of {h : Heap} : ∀ (xs : List V) {vs : List Value} {t : List Nat}, Reps h xs vs → catS xs = some t → ∃ ys : List Str, StrsAre vs ys ∧ (ys.map (·.length)).sum = t.length ∧ (ys.map (·.cps.toList)).flatten = t ∧ (∀ c ∈ t, c < 0x110000) := by
  intro xs
  induction xs with
  | nil => intro vs t r e; cases r; cases e; exact ⟨[], .nil, rfl, rfl, fun _ h => nomatch h⟩
  | cons x xs ih =>
    intro vs t r e
    cases r with | cons r rs =>
    cases r with
    | str l k ok =>
      replace e : (catS xs).map (l ++ ·) = some t := e
      rw [Option.map_eq_some_iff] at e
      obtain ⟨u, e, rfl⟩ := e
      obtain ⟨ys, h1, h2, h3, h4⟩ := ih rs e
      refine ⟨mkS l :: ys, .cons _ _ h1, by simp [h2, mkS_length], by simp [h3, mkS], fun c hc => ?_⟩
      rcases List.mem_append.mp hc with hc | hc
      · exact okS_all ok c hc
      · exact h4 c hc
    | _ => cases e

theorem glued_empty : ∀ ys : List Str, Txt.join Str.empty ys = mkS (ys.map (·.cps.toList)).flatten := by
  intro ys
  have key : ∀ (l : List Str) (acc : Array Nat), (l.foldl (fun acc p => acc ++ Str.empty.cps ++ p.cps) acc).toList = acc.toList ++ (l.map (·.cps.toList)).flatten := by
    intro l
    induction l with
    | nil => intro acc; simp
    | cons y l ih => intro acc; rw [List.foldl_cons, ih]; simp [Str.empty]
  show (⟨_⟩ : Str) = ⟨_⟩
  congr 1
  apply Array.toList_inj.mp
  cases ys with
  | nil => rfl
  | cons y l => simp only [List.drop_succ_cons, List.drop_zero, List.headD_cons]; rw [key]; simp

theorem join_sound {a : Addr} {xs : List V} {t : List Nat} {tk : Tok} {Q : V → AH → Prop} (S : St cx H s) (h1 : H a = some (.list xs)) (h2 : catS xs = some t) (h3 : t.length ≤ lim) (h : Q (.str t) H) :
    wpAny (model cx.prog cx.w) A (call (.builtin "str.join") [.str (mkS []) tk, .ref a]) (Post cx H s.heap Q) NoE s := by
  obtain ⟨vs, n, e, rs, _⟩ := S.objs _ _ h1
  obtain ⟨ys, q1, q2, q3, q4⟩ := strs_of _ rs h2
  refine join_list (items := vs.toArray) ⟨_, e, rfl, n, rfl⟩ (by simpa using q1) ?_ fun t' k => ?_
  · rw [q2]; have : (mkS []).length = 0 := rfl
    rw [this, Nat.mul_zero, Nat.add_zero]; exact h3
  · have : Txt.join (mkS []) ys = mkS t := by rw [← q3]; exact glued_empty ys
    rw [this]
    exact Post.toks S (.str _ _ (okS_mk h3 q4)) h

theorem biW_sound {b : BI} {args : List V} {vs : List Value} {Q : V → AH → Prop} (ok : CxOk cx) (hu : A.units + 100 < cLine) (hh : A.handled = none) (S : St cx H s) (ra : Reps s.heap args vs) (h : biW b args H Q) :
    wpAny (model cx.prog cx.w) A (call (biVal b) vs) (Post cx H s.heap Q) NoE s := by
  unfold biW at h
  split at h <;> (split at h <;> first | (exact h.elim) | skip)
  · cases ra with | cons r rs => cases rs; cases r with
    | str _ t okl =>
      have hl := okS_len okl
      rw [lim_val] at hl
      refine PySem.P.len_str (by rw [mkS_length]; omega) ?_
      rw [mkS_length]
      exact Post.toks S (.int _ _) h
  · cases ra with | cons r rs => cases rs; cases r with
    | tup e rs =>
      obtain ⟨hl, h⟩ := h
      rw [lim_val] at hl
      refine PyProof.Rows.len_tuple (items := _) ⟨_, e, rfl, _, rfl⟩ (by rw [List.size_toArray, rs.length]; omega) ?_
      rw [List.size_toArray, rs.length]
      exact Post.toks S (.int _ _) h
  · cases ra with | cons r rs =>
    cases rs; cases r
    obtain ⟨xs, h1, h⟩ := h
    obtain ⟨ws, n, e, rs, hl⟩ := S.objs _ _ h1
    rw [lim_val] at hl
    refine Calls.call_len_list (items := ws.toArray) ⟨_, e, rfl, n, rfl⟩ (by rw [List.size_toArray, rs.length]; omega) ?_
    rw [List.size_toArray, rs.length]
    exact Post.toks S (.int _ _) h
  · cases ra with | cons r rs =>
    cases rs; cases r
    rename_i i t
    obtain ⟨h1, h⟩ := h
    have hlog : i.natAbs.log2 < 1920 := by
      by_cases h0 : i.natAbs = 0
      · rw [h0]; decide +kernel
      · have := (Nat.log2_lt h0).mpr h1; omega
    refine PySem.P.str_of_int hlog ?_
    have e := ofString_showI i
    have hsz := int_text_fits (a := i) hlog
    rw [e, mkS_length, ← lim_eq] at hsz
    show Post cx H s.heap Q (.str (Str.ofString (toString i)) s.toks) _
    rw [e]
    exact Post.toks S (.str _ _ (okS_mk hsz fun c hc => by rcases showI_ok i c hc with h | h <;> omega)) h
  · cases ra with | cons r rs =>
    cases rs; cases r
    exact call_int_int (Post.toks (t := s.toks) S (.int _ _) h)
  · cases ra with | cons r rs =>
    cases rs; cases r
    obtain ⟨h1, h2, h⟩ := h
    refine PySem.P.chr_of_int (by simp; omega) (Post.toks S (.str [_] _ (okS_mk (by simp [lim_val]) fun c hc => ?_)) h)
    simp only [List.mem_singleton] at hc
    omega
  · cases ra with | cons r rs => cases rs; cases r with
    | str _ t okl => exact PySem.P.ord_of_char (Post.toks S (.int _ _) h)
  · cases ra with | cons r rs => cases rs with | cons r' rs' =>
    cases rs'; cases r; cases r'
    rename_i i t j u
    refine min_two_ints hh fun h' tk k => ?_
    refine ⟨_, _, S.grow k tk, Ext.grow k, ?_, h⟩
    split <;> exact .int _ _
theorem pre_eq (l u : List Nat) : (decide (u.length ≤ l.length) && (l.toArray.extract 0 u.length == u.toArray)) = u.isPrefixOf l := by
  rw [Bool.eq_iff_iff, List.isPrefixOf_iff_prefix, List.prefix_iff_eq_take, Bool.and_eq_true, decide_eq_true_eq, beq_iff_eq]
  have e : l.toArray.extract 0 u.length = (l.take u.length).toArray := by simp
  rw [e]
  constructor
  · rintro ⟨_, h⟩; have := congrArg Array.toList h; simpa using this.symm
  · intro h
    refine ⟨?_, by rw [← h]⟩
    have := congrArg List.length h
    rw [List.length_take] at this; omega

theorem bmW_sound {m : BM} {o : V} {vo : Value} {args : List V} {vs : List Value} {Q : V → AH → Prop} (ok : CxOk cx) (hu : A.units + 100 < cLine) (S : St cx H s) (ro : Rep s.heap o vo) (ra : Reps s.heap args vs) (h : bmW m o args H Q) :
    wpAny (model cx.prog cx.w) A (call (.builtin (bmId m)) (vo :: vs)) (Post cx H s.heap Q) NoE s := by
  unfold bmW at h
  split at h <;> (split at h <;> first | (exact h.elim) | skip)
  · cases ra with | cons r rs =>
    cases rs; cases ro
    rename_i a x v
    obtain ⟨xs, h1, hl, h⟩ := h
    obtain ⟨ws, n, e, rs, _⟩ := S.objs _ _ h1
    have hz : ws.toArray.size ≤ sizeLine := by rw [List.size_toArray, rs.length, ← lim_eq]; omega
    refine call_meets PySem.F.slot_list_append ⟨_, e, rfl⟩ PySem.F.entry_list_append (PySem.F.args_list_append_2 _ _) (AutoListH.list_append_list_val_0 a ws.toArray n v hz) ⟨e, ?_⟩
    have hs := Heap.SameBut.update s.heap a (Obj.mapSeq fun x => x.push v)
    have hg : (s.heap.update a (Obj.mapSeq fun x => x.push v)).get? a = some (lstObj (ws ++ [v]) (n + 1)) := by
      rw [Heap.get?_update_self _ e rfl]
      simp [Obj.mapSeq]
    refine ⟨.none, _, S.update (ao' := .list (xs ++ [x])) h1 hs hg s.toks fun kt => ⟨_, _, hg, (rs.mono kt).append (.cons (r.mono kt) .nil), by rw [List.length_append]; exact hl⟩, Ext.update h1 hs, .none, h⟩
  · cases ra; cases ro
    rename_i a
    obtain ⟨xs, x, h1, h⟩ := h
    obtain ⟨ws, n, e, rs, hl⟩ := S.objs _ _ h1
    have hlen := rs.length
    rw [List.length_append] at hlen hl
    simp only [List.length_cons, List.length_nil] at hlen hl
    obtain ⟨v, hv, rx⟩ := rs.get (i := xs.length) (a := x) (by simp)
    have hsz : ws.toArray.size = xs.length + 1 := by rw [List.size_toArray, hlen]
    have hz : ws.toArray.size ≤ sizeLine := by rw [hsz, ← lim_eq]; exact hl
    refine call_meets PySem.F.slot_list_pop ⟨_, e, rfl⟩ PySem.F.entry_list_pop (PySem.F.args_list_pop_1 _) (MeetsSeq.list_pop_last a ws.toArray n v (by rw [hsz]; simpa using hv) hz) ⟨e, ?_⟩
    have hs := Heap.SameBut.update s.heap a (Obj.mapSeq fun y => y.eraseIdxIfInBounds (ws.toArray.size - 1))
    have htk : ws.toArray.eraseIdxIfInBounds (ws.toArray.size - 1) = (ws.take xs.length).toArray := by
      rw [hsz]
      simp only [Nat.add_sub_cancel]
      apply Array.toList_inj.mp
      rw [Array.eraseIdxIfInBounds, dif_pos (by rw [hsz]; omega)]
      simp only [Array.toList_eraseIdx]
      rw [List.eraseIdx_eq_take_drop_succ]
      simp [List.drop_of_length_le (Nat.le_of_eq hlen)]
    have hg : (s.heap.update a (Obj.mapSeq fun y => y.eraseIdxIfInBounds (ws.toArray.size - 1))).get? a = some (lstObj (ws.take xs.length) (n + 1)) := by
      rw [Heap.get?_update_self _ e rfl]
      simp only [Obj.mapSeq, htk]
      simp [hlen]
    refine ⟨x, _, S.update (ao' := .list xs) h1 hs hg s.toks fun kt => ⟨_, _, hg, ?_, by omega⟩, Ext.update h1 hs, ?_, h⟩
    · have := (rs.mono kt).take xs.length
      simpa using this
    · exact rx.ext (s' := { s with heap := s.heap.update a (Obj.mapSeq fun y => y.eraseIdxIfInBounds (ws.toArray.size - 1)) }) S (Ext.update (ao' := .list xs) h1 hs)
  · cases ra; cases ro
    rename_i a
    obtain ⟨xs, h1, h⟩ := h
    obtain ⟨ws, n, e, rs, hl⟩ := S.objs _ _ h1
    have hz : ws.toArray.size ≤ sizeLine := by rw [List.size_toArray, rs.length, ← lim_eq]; exact hl
    refine call_meets PySem.F.slot_list_reverse ⟨_, e, rfl⟩ PySem.F.entry_list_reverse (PySem.F.args_list_reverse_1 _) (AutoListH.list_reverse_list_0 a ws.toArray n hz) ⟨e, ?_⟩
    have hs := Heap.SameBut.update s.heap a (Obj.mapSeq fun x => x.reverse)
    have hg : (s.heap.update a (Obj.mapSeq fun x => x.reverse)).get? a = some (lstObj ws.reverse n) := by
      rw [Heap.get?_update_self _ e rfl]
      simp [Obj.mapSeq]
    refine ⟨.none, _, S.update (ao' := .list xs.reverse) h1 hs hg s.toks fun kt => ⟨_, _, hg, (rs.mono kt).reverse, by rw [List.length_reverse]; exact hl⟩, Ext.update h1 hs, .none, h⟩
  · cases ra with | cons r rs => cases rs with | cons r' rs' =>
    cases rs'; cases ro
    obtain ⟨es, h1, h2, h⟩ := h
    rcases h2 with ⟨l, rfl, hk⟩ | ⟨i, rfl, hk⟩ | ⟨ks, rfl, hk⟩
    · have hl : V.str l = (encS cx.prog cx.w).enc (mkS l) := by simp [encS, mkS]
      rw [hl] at r h
      exact get2_dict (c := encS cx.prog cx.w) ok S h1 (fun e he => by obtain ⟨t, ht⟩ := hk e he; exact ⟨mkS t, by rw [ht]; simp [encS, mkS]⟩) r r' h
    · exact get2_dict (c := encI cx.prog cx.w) ok S h1 (fun e he => by obtain ⟨t, ht⟩ := hk e he; exact ⟨t, ht⟩) r r' h
    · exact get2_dictH ok (by omega) S h1 hk r r' h
  · cases ra with | cons r rs =>
    cases rs; cases ro; cases r
    obtain ⟨xs, t, h1, h2, h3, h⟩ := h
    exact join_sound S h1 h2 h3 h
end
end Mine

namespace Mine

noncomputable def constIs : V → Const → Bool
  | .none, .none => true
  | .bool a, .bool b => a == b
  | .int a, .int b => decide (a = b)
  | .str a, .str b => okS a && (b.cps.toList == a)
  | _, _ => false
noncomputable def bmName : BM → Str
  | .append => "append"
  | .pop => "pop"
  | .reverse => "reverse"
  | .get => "get"
  | .join => "join"
noncomputable def isGlob (sc : Scope) (x : Str) : Bool := sc.names.lookup x == some .globalImplicit && !(x == ("__debug__" : Str))
noncomputable def isLoc (sc : Scope) (x : Str) : Bool := (sc.names.lookup x == some .local || sc.names.lookup x == some .cell) && !(x == ("__debug__" : Str))
noncomputable def notCall : Expr → Bool
  | .Call .. => false
  | _ => true
noncomputable def notStar : Expr → Bool
  | .Starred .. => false
  | _ => true
noncomputable def notSlice : Expr → Bool
  | .Slice .. => false
  | _ => true
noncomputable def isRefV : V → Bool
  | .ref _ => true
  | _ => false
noncomputable def notSet : Expr → Bool
  | .Set .. => false
  | _ => true
noncomputable def compScope (sc scope : Scope) : Scope := { scope with names := scope.names.map fun (n, k) => if k == .free && sc.kind == .function && sc.names.lookup n == some .cell then (n, .cell) else (n, k) }

noncomputable def hideN (nms : List Str) (x : Str) : List Str := nms.map fun n => if n == x then "" else n
theorem hideN_length (nms : List Str) (x : Str) : (hideN nms x).length = nms.length := List.length_map ..

section
variable {e : Expr} {st : Stmt}
noncomputable def isName (f : Str → Pos → Bool) (v : Expr) : Bool := if h : v.ctorIdx = 23 then Expr.Name.elim (motive_1 := fun _ => Bool) v h f else false
theorem ofName {f : Str → Pos → Bool} (h : isName f e = true) : ∃ id p, e = .Name id p ∧ f id p = true := by
  unfold isName at h
  by_cases q : e.ctorIdx = 23
  · rw [dif_pos q] at h
    revert h
    exact Expr.Name.elim (motive_1 := fun v => ∀ q, Expr.Name.elim (motive_1 := fun _ => Bool) v q f = true → ∃ id p, v = .Name id p ∧ f id p = true) e q (fun id p q h => ⟨id, p, rfl, h⟩) q
  · rw [dif_neg q] at h; cases h
noncomputable def isConst (f : Const → Nat → Pos → Bool) (v : Expr) : Bool := if h : v.ctorIdx = 19 then Expr.Constant.elim (motive_1 := fun _ => Bool) v h f else false
theorem ofConst {f : Const → Nat → Pos → Bool} (h : isConst f e = true) : ∃ k a b, e = .Constant k a b ∧ f k a b = true := by
  unfold isConst at h
  by_cases q : e.ctorIdx = 19
  · rw [dif_pos q] at h
    revert h
    exact Expr.Constant.elim (motive_1 := fun v => ∀ q, Expr.Constant.elim (motive_1 := fun _ => Bool) v q f = true → ∃ k a b, v = .Constant k a b ∧ f k a b = true) e q (fun k a b q h => ⟨k, a, b, rfl, h⟩) q
  · rw [dif_neg q] at h; cases h
noncomputable def isBin (f : Expr → Operator → Expr → Pos → Bool) (v : Expr) : Bool := if h : v.ctorIdx = 2 then Expr.BinOp.elim (motive_1 := fun _ => Bool) v h f else false
theorem ofBin {f : Expr → Operator → Expr → Pos → Bool} (h : isBin f e = true) : ∃ l o r p, e = .BinOp l o r p ∧ f l o r p = true := by
  unfold isBin at h
  by_cases q : e.ctorIdx = 2
  · rw [dif_pos q] at h
    revert h
    exact Expr.BinOp.elim (motive_1 := fun v => ∀ q, Expr.BinOp.elim (motive_1 := fun _ => Bool) v q f = true → ∃ l o r p, v = .BinOp l o r p ∧ f l o r p = true) e q (fun l o r p q h => ⟨l, o, r, p, rfl, h⟩) q
  · rw [dif_neg q] at h; cases h
noncomputable def isUn (f : UnaryOp → Expr → Pos → Bool) (v : Expr) : Bool := if h : v.ctorIdx = 3 then Expr.UnaryOp.elim (motive_1 := fun _ => Bool) v h f else false
theorem ofUn {f : UnaryOp → Expr → Pos → Bool} (h : isUn f e = true) : ∃ o a p, e = .UnaryOp o a p ∧ f o a p = true := by
  unfold isUn at h
  by_cases q : e.ctorIdx = 3
  · rw [dif_pos q] at h
    revert h
    exact Expr.UnaryOp.elim (motive_1 := fun v => ∀ q, Expr.UnaryOp.elim (motive_1 := fun _ => Bool) v q f = true → ∃ o a p, v = .UnaryOp o a p ∧ f o a p = true) e q (fun o a p q h => ⟨o, a, p, rfl, h⟩) q
  · rw [dif_neg q] at h; cases h
noncomputable def isBop (f : BoolOp → List Expr → Pos → Bool) (v : Expr) : Bool := if h : v.ctorIdx = 0 then Expr.BoolOp.elim (motive_1 := fun _ => Bool) v h f else false
theorem ofBop {f : BoolOp → List Expr → Pos → Bool} (h : isBop f e = true) : ∃ o l p, e = .BoolOp o l p ∧ f o l p = true := by
  unfold isBop at h
  by_cases q : e.ctorIdx = 0
  · rw [dif_pos q] at h
    revert h
    exact Expr.BoolOp.elim (motive_1 := fun v => ∀ q, Expr.BoolOp.elim (motive_1 := fun _ => Bool) v q f = true → ∃ o l p, v = .BoolOp o l p ∧ f o l p = true) e q (fun o l p q h => ⟨o, l, p, rfl, h⟩) q
  · rw [dif_neg q] at h; cases h
noncomputable def isIte (f : Expr → Expr → Expr → Pos → Bool) (v : Expr) : Bool := if h : v.ctorIdx = 5 then Expr.IfExp.elim (motive_1 := fun _ => Bool) v h f else false
theorem ofIte {f : Expr → Expr → Expr → Pos → Bool} (h : isIte f e = true) : ∃ t a b p, e = .IfExp t a b p ∧ f t a b p = true := by
  unfold isIte at h
  by_cases q : e.ctorIdx = 5
  · rw [dif_pos q] at h
    revert h
    exact Expr.IfExp.elim (motive_1 := fun v => ∀ q, Expr.IfExp.elim (motive_1 := fun _ => Bool) v q f = true → ∃ t a b p, v = .IfExp t a b p ∧ f t a b p = true) e q (fun t a b p q h => ⟨t, a, b, p, rfl, h⟩) q
  · rw [dif_neg q] at h; cases h
noncomputable def isCmp (f : Expr → List CmpOp → List Expr → Pos → Bool) (v : Expr) : Bool := if h : v.ctorIdx = 15 then Expr.Compare.elim (motive_1 := fun _ => Bool) v h f else false
theorem ofCmp {f : Expr → List CmpOp → List Expr → Pos → Bool} (h : isCmp f e = true) : ∃ l o r p, e = .Compare l o r p ∧ f l o r p = true := by
  unfold isCmp at h
  by_cases q : e.ctorIdx = 15
  · rw [dif_pos q] at h
    revert h
    exact Expr.Compare.elim (motive_1 := fun v => ∀ q, Expr.Compare.elim (motive_1 := fun _ => Bool) v q f = true → ∃ l o r p, v = .Compare l o r p ∧ f l o r p = true) e q (fun l o r p q h => ⟨l, o, r, p, rfl, h⟩) q
  · rw [dif_neg q] at h; cases h
noncomputable def isAttr (f : Expr → Str → Pos → Bool) (v : Expr) : Bool := if h : v.ctorIdx = 20 then Expr.Attribute.elim (motive_1 := fun _ => Bool) v h f else false
theorem ofAttr {f : Expr → Str → Pos → Bool} (h : isAttr f e = true) : ∃ o n p, e = .Attribute o n p ∧ f o n p = true := by
  unfold isAttr at h
  by_cases q : e.ctorIdx = 20
  · rw [dif_pos q] at h
    revert h
    exact Expr.Attribute.elim (motive_1 := fun v => ∀ q, Expr.Attribute.elim (motive_1 := fun _ => Bool) v q f = true → ∃ o n p, v = .Attribute o n p ∧ f o n p = true) e q (fun o n p q h => ⟨o, n, p, rfl, h⟩) q
  · rw [dif_neg q] at h; cases h
noncomputable def isSub (f : Expr → Expr → Pos → Bool) (v : Expr) : Bool := if h : v.ctorIdx = 21 then Expr.Subscript.elim (motive_1 := fun _ => Bool) v h f else false
theorem ofSub {f : Expr → Expr → Pos → Bool} (h : isSub f e = true) : ∃ o i p, e = .Subscript o i p ∧ f o i p = true := by
  unfold isSub at h
  by_cases q : e.ctorIdx = 21
  · rw [dif_pos q] at h
    revert h
    exact Expr.Subscript.elim (motive_1 := fun v => ∀ q, Expr.Subscript.elim (motive_1 := fun _ => Bool) v q f = true → ∃ o i p, v = .Subscript o i p ∧ f o i p = true) e q (fun o i p q h => ⟨o, i, p, rfl, h⟩) q
  · rw [dif_neg q] at h; cases h
noncomputable def isSlice (f : Option Expr → Option Expr → Option Expr → Pos → Bool) (v : Expr) : Bool := if h : v.ctorIdx = 26 then Expr.Slice.elim (motive_1 := fun _ => Bool) v h f else false
theorem ofSlice {f : Option Expr → Option Expr → Option Expr → Pos → Bool} (h : isSlice f e = true) : ∃ l u s p, e = .Slice l u s p ∧ f l u s p = true := by
  unfold isSlice at h
  by_cases q : e.ctorIdx = 26
  · rw [dif_pos q] at h
    revert h
    exact Expr.Slice.elim (motive_1 := fun v => ∀ q, Expr.Slice.elim (motive_1 := fun _ => Bool) v q f = true → ∃ l u s p, v = .Slice l u s p ∧ f l u s p = true) e q (fun l u s p q h => ⟨l, u, s, p, rfl, h⟩) q
  · rw [dif_neg q] at h; cases h
noncomputable def isCall (f : Expr → List Expr → List Keyword → Pos → Bool) (v : Expr) : Bool := if h : v.ctorIdx = 16 then Expr.Call.elim (motive_1 := fun _ => Bool) v h f else false
theorem ofCall {f : Expr → List Expr → List Keyword → Pos → Bool} (h : isCall f e = true) : ∃ g l k p, e = .Call g l k p ∧ f g l k p = true := by
  unfold isCall at h
  by_cases q : e.ctorIdx = 16
  · rw [dif_pos q] at h
    revert h
    exact Expr.Call.elim (motive_1 := fun v => ∀ q, Expr.Call.elim (motive_1 := fun _ => Bool) v q f = true → ∃ g l k p, v = .Call g l k p ∧ f g l k p = true) e q (fun g l k p q h => ⟨g, l, k, p, rfl, h⟩) q
  · rw [dif_neg q] at h; cases h
noncomputable def isList (f : List Expr → Pos → Bool) (v : Expr) : Bool := if h : v.ctorIdx = 24 then Expr.List.elim (motive_1 := fun _ => Bool) v h f else false
theorem ofList {f : List Expr → Pos → Bool} (h : isList f e = true) : ∃ l p, e = .List l p ∧ f l p = true := by
  unfold isList at h
  by_cases q : e.ctorIdx = 24
  · rw [dif_pos q] at h
    revert h
    exact Expr.List.elim (motive_1 := fun v => ∀ q, Expr.List.elim (motive_1 := fun _ => Bool) v q f = true → ∃ l p, v = .List l p ∧ f l p = true) e q (fun l p q h => ⟨l, p, rfl, h⟩) q
  · rw [dif_neg q] at h; cases h
noncomputable def isTup (f : List Expr → Nat → Pos → Bool) (v : Expr) : Bool := if h : v.ctorIdx = 25 then Expr.Tuple.elim (motive_1 := fun _ => Bool) v h f else false
theorem ofTup {f : List Expr → Nat → Pos → Bool} (h : isTup f e = true) : ∃ l k p, e = .Tuple l k p ∧ f l k p = true := by
  unfold isTup at h
  by_cases q : e.ctorIdx = 25
  · rw [dif_pos q] at h
    revert h
    exact Expr.Tuple.elim (motive_1 := fun v => ∀ q, Expr.Tuple.elim (motive_1 := fun _ => Bool) v q f = true → ∃ l k p, v = .Tuple l k p ∧ f l k p = true) e q (fun l k p q h => ⟨l, k, p, rfl, h⟩) q
  · rw [dif_neg q] at h; cases h
noncomputable def isDict (f : List (Option Expr) → List Expr → Pos → Bool) (v : Expr) : Bool := if h : v.ctorIdx = 6 then Expr.Dict.elim (motive_1 := fun _ => Bool) v h f else false
theorem ofDict {f : List (Option Expr) → List Expr → Pos → Bool} (h : isDict f e = true) : ∃ k l p, e = .Dict k l p ∧ f k l p = true := by
  unfold isDict at h
  by_cases q : e.ctorIdx = 6
  · rw [dif_pos q] at h
    revert h
    exact Expr.Dict.elim (motive_1 := fun v => ∀ q, Expr.Dict.elim (motive_1 := fun _ => Bool) v q f = true → ∃ k l p, v = .Dict k l p ∧ f k l p = true) e q (fun k l p q h => ⟨k, l, p, rfl, h⟩) q
  · rw [dif_neg q] at h; cases h
noncomputable def isComp (f : Expr → List Comprehension → Scope → Pos → Bool) (v : Expr) : Bool := if h : v.ctorIdx = 8 then Expr.ListComp.elim (motive_1 := fun _ => Bool) v h f else false
theorem ofComp {f : Expr → List Comprehension → Scope → Pos → Bool} (h : isComp f e = true) : ∃ a l sc p, e = .ListComp a l sc p ∧ f a l sc p = true := by
  unfold isComp at h
  by_cases q : e.ctorIdx = 8
  · rw [dif_pos q] at h
    revert h
    exact Expr.ListComp.elim (motive_1 := fun v => ∀ q, Expr.ListComp.elim (motive_1 := fun _ => Bool) v q f = true → ∃ a l sc p, v = .ListComp a l sc p ∧ f a l sc p = true) e q (fun a l sc p q h => ⟨a, l, sc, p, rfl, h⟩) q
  · rw [dif_neg q] at h; cases h
noncomputable def isExprS (f : Expr → Pos → Bool) (v : Stmt) : Bool := if h : v.ctorIdx = 24 then Stmt.Expr.elim (motive_2 := fun _ => Bool) v h f else false
theorem ofExprS {f : Expr → Pos → Bool} (h : isExprS f st = true) : ∃ a p, st = .Expr a p ∧ f a p = true := by
  unfold isExprS at h
  by_cases q : st.ctorIdx = 24
  · rw [dif_pos q] at h
    revert h
    exact Stmt.Expr.elim (motive_2 := fun v => ∀ q, Stmt.Expr.elim (motive_2 := fun _ => Bool) v q f = true → ∃ a p, v = .Expr a p ∧ f a p = true) st q (fun a p q h => ⟨a, p, rfl, h⟩) q
  · rw [dif_neg q] at h; cases h
noncomputable def isAssign (f : List Expr → Expr → Pos → Bool) (v : Stmt) : Bool := if h : v.ctorIdx = 5 then Stmt.Assign.elim (motive_2 := fun _ => Bool) v h f else false
theorem ofAssign {f : List Expr → Expr → Pos → Bool} (h : isAssign f st = true) : ∃ l a p, st = .Assign l a p ∧ f l a p = true := by
  unfold isAssign at h
  by_cases q : st.ctorIdx = 5
  · rw [dif_pos q] at h
    revert h
    exact Stmt.Assign.elim (motive_2 := fun v => ∀ q, Stmt.Assign.elim (motive_2 := fun _ => Bool) v q f = true → ∃ l a p, v = .Assign l a p ∧ f l a p = true) st q (fun l a p q h => ⟨l, a, p, rfl, h⟩) q
  · rw [dif_neg q] at h; cases h
noncomputable def isAug (f : Expr → Operator → Expr → Pos → Bool) (v : Stmt) : Bool := if h : v.ctorIdx = 7 then Stmt.AugAssign.elim (motive_2 := fun _ => Bool) v h f else false
theorem ofAug {f : Expr → Operator → Expr → Pos → Bool} (h : isAug f st = true) : ∃ t o a p, st = .AugAssign t o a p ∧ f t o a p = true := by
  unfold isAug at h
  by_cases q : st.ctorIdx = 7
  · rw [dif_pos q] at h
    revert h
    exact Stmt.AugAssign.elim (motive_2 := fun v => ∀ q, Stmt.AugAssign.elim (motive_2 := fun _ => Bool) v q f = true → ∃ t o a p, v = .AugAssign t o a p ∧ f t o a p = true) st q (fun t o a p q h => ⟨t, o, a, p, rfl, h⟩) q
  · rw [dif_neg q] at h; cases h
noncomputable def isIf (f : Expr → List Stmt → List Stmt → Pos → Bool) (v : Stmt) : Bool := if h : v.ctorIdx = 12 then Stmt.If.elim (motive_2 := fun _ => Bool) v h f else false
theorem ofIf {f : Expr → List Stmt → List Stmt → Pos → Bool} (h : isIf f st = true) : ∃ t a b p, st = .If t a b p ∧ f t a b p = true := by
  unfold isIf at h
  by_cases q : st.ctorIdx = 12
  · rw [dif_pos q] at h
    revert h
    exact Stmt.If.elim (motive_2 := fun v => ∀ q, Stmt.If.elim (motive_2 := fun _ => Bool) v q f = true → ∃ t a b p, v = .If t a b p ∧ f t a b p = true) st q (fun t a b p q h => ⟨t, a, b, p, rfl, h⟩) q
  · rw [dif_neg q] at h; cases h
noncomputable def isWhile (f : Expr → List Stmt → List Stmt → Pos → Bool) (v : Stmt) : Bool := if h : v.ctorIdx = 11 then Stmt.While.elim (motive_2 := fun _ => Bool) v h f else false
theorem ofWhile {f : Expr → List Stmt → List Stmt → Pos → Bool} (h : isWhile f st = true) : ∃ t a b p, st = .While t a b p ∧ f t a b p = true := by
  unfold isWhile at h
  by_cases q : st.ctorIdx = 11
  · rw [dif_pos q] at h
    revert h
    exact Stmt.While.elim (motive_2 := fun v => ∀ q, Stmt.While.elim (motive_2 := fun _ => Bool) v q f = true → ∃ t a b p, v = .While t a b p ∧ f t a b p = true) st q (fun t a b p q h => ⟨t, a, b, p, rfl, h⟩) q
  · rw [dif_neg q] at h; cases h
noncomputable def isFor (f : Expr → Expr → List Stmt → List Stmt → Pos → Bool) (v : Stmt) : Bool := if h : v.ctorIdx = 9 then Stmt.For.elim (motive_2 := fun _ => Bool) v h f else false
theorem ofFor {f : Expr → Expr → List Stmt → List Stmt → Pos → Bool} (h : isFor f st = true) : ∃ t i a b p, st = .For t i a b p ∧ f t i a b p = true := by
  unfold isFor at h
  by_cases q : st.ctorIdx = 9
  · rw [dif_pos q] at h
    revert h
    exact Stmt.For.elim (motive_2 := fun v => ∀ q, Stmt.For.elim (motive_2 := fun _ => Bool) v q f = true → ∃ t i a b p, v = .For t i a b p ∧ f t i a b p = true) st q (fun t i a b p q h => ⟨t, i, a, b, p, rfl, h⟩) q
  · rw [dif_neg q] at h; cases h
noncomputable def isRet (f : Option Expr → Pos → Bool) (v : Stmt) : Bool := if h : v.ctorIdx = 3 then Stmt.Return.elim (motive_2 := fun _ => Bool) v h f else false
theorem ofRet {f : Option Expr → Pos → Bool} (h : isRet f st = true) : ∃ a p, st = .Return a p ∧ f a p = true := by
  unfold isRet at h
  by_cases q : st.ctorIdx = 3
  · rw [dif_pos q] at h
    revert h
    exact Stmt.Return.elim (motive_2 := fun v => ∀ q, Stmt.Return.elim (motive_2 := fun _ => Bool) v q f = true → ∃ a p, v = .Return a p ∧ f a p = true) st q (fun a p q h => ⟨a, p, rfl, h⟩) q
  · rw [dif_neg q] at h; cases h
noncomputable def isBrk (v : Stmt) : Bool := decide (v.ctorIdx = 26)
theorem isBrk_eq (h : isBrk st = true) : ∃ p, st = .Break p :=
  Stmt.Break.elim (motive_2 := fun v => ∃ p, v = .Break p) st (of_decide_eq_true h) fun p => ⟨p, rfl⟩
noncomputable def one1 {α : Type} (f : α → Bool) : List α → Bool
  | [a] => f a
  | _ => false
theorem one1_of {α : Type} {f : α → Bool} {l : List α} (h : one1 f l = true) : ∃ a, l = [a] ∧ f a = true := by
  cases l with
  | nil => cases h
  | cons a l => cases l with
    | nil => exact ⟨a, rfl, h⟩
    | cons _ _ => cases h
noncomputable def two2 {α : Type} (f : α → α → Bool) : List α → Bool
  | [a, b] => f a b
  | _ => false
theorem two2_of {α : Type} {f : α → α → Bool} {l : List α} (h : two2 f l = true) : ∃ a b, l = [a, b] ∧ f a b = true := by
  cases l with
  | nil => cases h
  | cons a l => cases l with
    | nil => cases h
    | cons b l => cases l with
      | nil => exact ⟨a, b, rfl, h⟩
      | cons _ _ => cases h
theorem isEmpty_of {α : Type} {l : List α} (h : l.isEmpty = true) : l = [] := by cases l <;> first | rfl | cases h
noncomputable def isCN (f : Str → Pos → List Expr → Pos → Bool) (v : Expr) : Bool := isCall (fun g l k p => k.isEmpty && isName (fun id np => f id np l p) g) v
theorem ofCN {f : Str → Pos → List Expr → Pos → Bool} (h : isCN f e = true) : ∃ id np l p, e = .Call (.Name id np) l [] p ∧ f id np l p = true := by
  replace h := ofCall h; obtain ⟨g, l, k, p, rfl, h⟩ := h
  rw [Bool.and_eq_true] at h
  obtain ⟨h1, h⟩ := h
  replace h := ofName h; obtain ⟨id, np, rfl, h⟩ := h
  cases isEmpty_of h1
  exact ⟨id, np, l, p, rfl, h⟩
noncomputable def isCA (f : Expr → Str → Pos → List Expr → Pos → Bool) (v : Expr) : Bool := isCall (fun g l k p => k.isEmpty && isAttr (fun o n ap => f o n ap l p) g) v
theorem ofCA {f : Expr → Str → Pos → List Expr → Pos → Bool} (h : isCA f e = true) : ∃ o n ap l p, e = .Call (.Attribute o n ap) l [] p ∧ f o n ap l p = true := by
  replace h := ofCall h; obtain ⟨g, l, k, p, rfl, h⟩ := h
  rw [Bool.and_eq_true] at h
  obtain ⟨h1, h⟩ := h
  replace h := ofAttr h; obtain ⟨o, n, ap, rfl, h⟩ := h
  cases isEmpty_of h1
  exact ⟨o, n, ap, l, p, rfl, h⟩
noncomputable def isSS (f : Expr → Option Expr → Option Expr → Pos → Pos → Bool) (v : Expr) : Bool := isSub (fun o i p => isSlice (fun l u s q => s.isNone && f o l u q p) i) v
theorem ofSS {f : Expr → Option Expr → Option Expr → Pos → Pos → Bool} (h : isSS f e = true) : ∃ o l u p pos, e = .Subscript o (.Slice l u none p) pos ∧ f o l u p pos = true := by
  replace h := ofSub h; obtain ⟨o, i, p, rfl, h⟩ := h
  replace h := ofSlice h; obtain ⟨l, u, s, q, rfl, h⟩ := h
  rw [Bool.and_eq_true] at h
  obtain ⟨h1, h⟩ := h
  cases s with
  | none => exact ⟨o, l, u, q, p, rfl, h⟩
  | some _ => cases h1
noncomputable def isGen1 (f : Str → Pos → Expr → Bool) : List Comprehension → Bool
  | [⟨t, i, [], 0⟩] => isName (fun x px => f x px i) t
  | _ => false
theorem ofGen1 {f : Str → Pos → Expr → Bool} {l : List Comprehension} (h : isGen1 f l = true) : ∃ x px i, l = [⟨.Name x px, i, [], 0⟩] ∧ f x px i = true := by
  unfold isGen1 at h
  split at h
  · replace h := ofName h; obtain ⟨x, px, rfl, h⟩ := h; exact ⟨x, px, _, rfl, h⟩
  · cases h
end

mutual
noncomputable def chkE (cx : Cx) (sc : Scope) (nms : List Str) : PE → Expr → Bool
  | .bad, e => notStar e
  | .c v, ee => isConst (fun k _ _ => constIs v k) ee
  | .x i, ee => isName (fun id _ => nms[i]? == some id && isLoc sc id) ee
  | .g i, ee => isName (fun id _ => cx.gn[i]? == some id && isGlob sc id) ee
  | .bin op a b, ee => isBin (fun l o r _ => decide (op = o) && chkE cx sc nms a l && chkE cx sc nms b r) ee
  | .neg a, ee => isUn (fun o e _ => decide (o = .USub) && chkE cx sc nms a e) ee
  | .not a, ee => isUn (fun o e _ => decide (o = .Not) && chkE cx sc nms a e) ee
  | .bop isAnd es, ee => isBop (fun op l _ => (isAnd == decide (op = .And)) && chkEs cx sc nms es l) ee
  | .ite t a b, ee => isIte (fun t' a' b' _ => chkE cx sc nms t t' && chkE cx sc nms a a' && chkE cx sc nms b b') ee
  | .cmp op a b, ee => isCmp (fun l os rs _ => one1 (fun o => one1 (fun r => decide (op = o) && chkE cx sc nms a l && chkE cx sc nms b r && !behindInMarks o r) rs) os) ee
  | .cmp2 o1 o2 a b c, ee => isCmp (fun l os rs _ => two2 (fun p1 p2 => two2 (fun r1 r2 => decide (o1 = p1) && decide (o2 = p2) && chkE cx sc nms a l && chkE cx sc nms b r1 && chkE cx sc nms c r2 && !behindInMarks p2 r2) rs) os) ee
  | .attr o k, ee => isAttr (fun e n _ => cx.an[k]? == some n && chkE cx sc nms o e && notCall e) ee
  | .sub o i, ee => isSub (fun e sl _ => chkE cx sc nms o e && chkE cx sc nms i sl && notSlice sl) ee
  | .slice o lo hi, ee => isSS (fun e l u _ _ => chkE cx sc nms o e && (match l with | some l => chkE cx sc nms lo l | none => (match lo with | .c .none => true | _ => false)) && (match u with | some u => chkE cx sc nms hi u | none => (match hi with | .c .none => true | _ => false))) ee
  | .bi b es, ee => isCN (fun id _ args _ => id == biName b && isGlob sc id && chkEs cx sc nms es args) ee
  | .bm m o es, ee => isCA (fun e n ap args pos => n == bmName m && chkE cx sc nms o e && chkEs cx sc nms es args && notCall e && ap.endLine == pos.line && decide (args.length < 30)) ee
  | .call f es, ee => isCN (fun id _ args _ => cx.gn[f]? == some id && isGlob sc id && chkEs cx sc nms es args && isRefV (cx.gl f)) ee
  | .new f es, ee => isCN (fun id _ args _ => cx.gn[f]? == some id && isGlob sc id && chkEs cx sc nms es args && isRefV (cx.gl f)) ee
  | .meth o k es, ee => isCA (fun e n ap args pos => cx.an[k]? == some n && chkE cx sc nms o e && chkEs cx sc nms es args && notCall e && ap.endLine == pos.line && decide (args.length < 30)) ee
  | .list es, ee => isList (fun l _ => chkEs cx sc nms es l) ee
  | .tuple es, ee => isTup (fun l _ _ => chkEs cx sc nms es l) ee
  | .dict, ee => isDict (fun k l _ => k.isEmpty && l.isEmpty) ee
  | .comp e s, ee => isComp (fun elt gs scope _ => isGen1 (fun x _ iter => chkSrc cx sc nms s iter && notSet iter && chkE cx (compScope sc scope) (hideN nms x ++ [x]) e elt && scope.names.all (fun p => p.2 != .local || !(hideN nms x).contains p.1) && scope.names.all (fun p => !(p.1 == ("" : Str))) &&
      scope.names.lookup x == some .local && scope.kind == .function && scope.names.all (fun p => p.2 != .cell) && scope.names.all (fun p => p.2 != .free || sc.names.lookup p.1 == some .cell) && decide (scope.names.map (·.1)).Nodup) gs) ee
noncomputable def chkEs (cx : Cx) (sc : Scope) (nms : List Str) : PEs → List Expr → Bool
  | .nil, l => l.isEmpty
  | .cons e es, l => (match l with
    | x :: xs => chkE cx sc nms e x && chkEs cx sc nms es xs
    | [] => false)
noncomputable def chkSrc (cx : Cx) (sc : Scope) (nms : List Str) : Src → Expr → Bool
  | .val e, x => chkE cx sc nms e x
  | .range e, ee => isCN (fun id _ l _ => one1 (fun a => id == ("range" : Str) && isGlob sc id && chkE cx sc nms e a) l) ee
  | .rev e, ee => isCN (fun id _ l _ => one1 (fun a => id == ("reversed" : Str) && isGlob sc id && chkE cx sc nms e a) l) ee
end

structure EnvOk (cx : Cx) (env : Env) : Prop where
  kind : env.scope.kind = .function
  glob : env.globals = mainGlobals
  blt : env.builtins = builtinsNs
  gL : cx.g0.get? env.locals = none
  gC : ∀ n c, env.cells.lookup n = some c → cx.g0.get? c = none ∧ c ≠ env.locals
  cellAll : ∀ n, env.scope.names.lookup n = some .cell → ∃ c, env.cells.lookup n = some c
  cellInj : ∀ n n' c, env.cells.lookup n = some c → env.cells.lookup n' = some c → n = n'

noncomputable def FRel (env : Env) (nms : List Str) (ρ : Rho) (H : AH) (h : Heap) : Prop := ∃ m cm : Str → Option Value, h.Ns env.locals m ∧ (∀ n c, env.cells.lookup n = some c → h.IsCell c (cm n)) ∧ H env.locals = none ∧ (∀ n c, env.cells.lookup n = some c → H c = none) ∧
  ∀ i x n, slot ρ i = some x → nms[i]? = some n → (env.kindOf n = some .local → ∃ v, m n = some v ∧ Rep h x v) ∧ (env.kindOf n = some .cell → ∃ c v, env.cells.lookup n = some c ∧ cm n = some v ∧ Rep h x v)

section
variable {cx : Cx} {A : Around} {H H' : AH} {s s' : Shared} {env : Env} {nms : List Str} {ρ : Rho}

theorem FRel.ext (F : FRel env nms ρ H s.heap) (S : St cx H s) (x : Ext H s.heap H' s'.heap) : FRel env nms ρ H' s'.heap := by
  obtain ⟨m, cm, ⟨o, es, ep, e, r⟩, hc, h1, h2, h3⟩ := F
  refine ⟨m, cm, ⟨o, es, ep, (x _ _ e h1).1, r⟩, fun n c q => ?_, (x _ _ e h1).2, fun n c q => ?_, fun i v n q1 q2 => ⟨fun k => ?_, fun k => ?_⟩⟩
  · obtain ⟨oc, e1, e2⟩ := hc n c q
    exact ⟨oc, (x _ _ e1 (h2 n c q)).1, e2⟩
  · obtain ⟨oc, e1, e2⟩ := hc n c q
    exact (x _ _ e1 (h2 n c q)).2
  · obtain ⟨w, e1, e2⟩ := (h3 i v n q1 q2).1 k; exact ⟨w, e1, e2.ext S x⟩
  · obtain ⟨c, w, e0, e1, e2⟩ := (h3 i v n q1 q2).2 k; exact ⟨c, w, e0, e1, e2.ext S x⟩

theorem GlobIs.load {x : Str} {v : Value} {Q : Value → Shared → Prop} {pos : Pos} (G : GlobIs cx.g0 x v) (E : EnvOk cx env) (S : St cx H s) (hk : isGlob env.scope x = true) (q : Q v s) :
    wpAny (model cx.prog cx.w) A (eval (.Name x pos) env) Q NoE s := by
  obtain ⟨mg, mb, g1, g2, h⟩ := G
  simp only [isGlob, Bool.and_eq_true, beq_iff_eq, Bool.not_eq_true'] at hk
  have k : ∀ b o, cx.g0.get? b = some o → s.heap.get? b = some o := fun b o e => (S.keep b o e).1
  refine Calls.Name_function_global E.kind hk.1 ?_ hk.2
  rcases h with h | ⟨h1, h2⟩
  · exact Calls.loadGlobal_global (by rw [E.glob]; exact g1.keeps k) h q
  · exact Calls.loadGlobal_builtin (by rw [E.glob]; exact g1.keeps k) h1 (by rw [E.blt]; exact g2.keeps k) h2 q

theorem local_load {i : Nat} {x : V} {n : Str} {Q : V → AH → Prop} {pos : Pos} (E : EnvOk cx env) (S : St cx H s) (F : FRel env nms ρ H s.heap) (hx : slot ρ i = some x) (hn : nms[i]? = some n) (hk : isLoc env.scope n = true) (q : Q x H) :
    wpAny (model cx.prog cx.w) A (eval (.Name n pos) env) (Post cx H s.heap Q) NoE s := by
  obtain ⟨m, cm, ns, hc, h1, h2, h3⟩ := F
  simp only [isLoc, Bool.and_eq_true, Bool.or_eq_true, beq_iff_eq, Bool.not_eq_true'] at hk
  rcases hk with ⟨hk | hk, hd⟩
  · obtain ⟨v, e1, e2⟩ := (h3 i x n hx hn).1 hk
    exact wpAny_Name (wpAny_loadName_local E.kind hk ns e1 (Post.toks (t := s.toks) S e2 q)) hd
  · obtain ⟨c, v, e0, e1, e2⟩ := (h3 i x n hx hn).2 hk
    exact wpAny_Name (wpAny_loadName_cell E.kind hk e0 (e1 ▸ hc n c e0) (Post.toks (t := s.toks) S e2 q)) hd

theorem loadName_local {i : Nat} {x : V} {n : Str} {Q : V → AH → Prop} (E : EnvOk cx env) (S : St cx H s) (F : FRel env nms ρ H s.heap) (hx : slot ρ i = some x) (hn : nms[i]? = some n) (hk : isLoc env.scope n = true) (q : Q x H) :
    wpAny (model cx.prog cx.w) A (loadName env n) (Post cx H s.heap Q) NoE s := by
  obtain ⟨m, cm, ns, hc, h1, h2, h3⟩ := F
  simp only [isLoc, Bool.and_eq_true, Bool.or_eq_true, beq_iff_eq, Bool.not_eq_true'] at hk
  rcases hk with ⟨hk | hk, hd⟩
  · obtain ⟨v, e1, e2⟩ := (h3 i x n hx hn).1 hk
    exact wpAny_loadName_local E.kind hk ns e1 (Post.toks (t := s.toks) S e2 q)
  · obtain ⟨c, v, e0, e1, e2⟩ := (h3 i x n hx hn).2 hk
    exact wpAny_loadName_cell E.kind hk e0 (e1 ▸ hc n c e0) (Post.toks (t := s.toks) S e2 q)

theorem then_ {β : Type} {t : Sem Value} {f : Value → Sem β} {P : V → AH → Prop} {Q : β → Shared → Prop} (h : wpAny (model cx.prog cx.w) A t (Post cx H s.heap P) NoE s)
    (k : ∀ v s₁ x H₁, St cx H₁ s₁ → Ext H s.heap H₁ s₁.heap → Rep s₁.heap x v → P x H₁ → wpAny (model cx.prog cx.w) A (f v) Q NoE s₁) : wpAny (model cx.prog cx.w) A (t >>= f) Q NoE s :=
  wpAny_bind (wpAny_mono h (fun v s₁ ⟨x, H₁, a, b, c, d⟩ => k v s₁ x H₁ a b c d) fun _ _ e => e)
theorem post_ext {t : Sem Value} {Q : V → AH → Prop} {H₁ : AH} {s₁ : Shared} (x : Ext H s.heap H₁ s₁.heap) (h : wpAny (model cx.prog cx.w) A t (Post cx H₁ s₁.heap Q) NoE s₁) : wpAny (model cx.prog cx.w) A t (Post cx H s.heap Q) NoE s₁ :=
  wpAny_mono h (fun _ _ p => p.ext x) fun _ _ e => e
end
end Mine

namespace Mine

noncomputable def SimE (cx : Cx) (n : Nat) (env : Env) (nms : List Str) (e : Expr) (p : PE) : Prop :=
  ∀ (A : Around) (s : Shared) (ρ : Rho) (H : AH) (Q : V → AH → Prop), Room n A → St cx H s → ρ.length = nms.length → FRel env nms ρ H s.heap → wpE cx n p ρ H Q → wpAny (model cx.prog cx.w) A (eval e env) (Post cx H s.heap Q) NoE s
noncomputable def SimB (cx : Cx) (n : Nat) (env : Env) (nms : List Str) (e : Expr) (p : PE) : Prop :=
  ∀ (A : Around) (s : Shared) (ρ : Rho) (H : AH) (R : Bool → Shared → Prop) (W : V → AH → Prop), Room n A → St cx H s → ρ.length = nms.length → FRel env nms ρ H s.heap → wpE cx n p ρ H W → (∀ x H₁, W x H₁ → truW x H₁ fun _ => True) →
    (∀ t x s₁ H₁, St cx H₁ s₁ → Ext H s.heap H₁ s₁.heap → W x H₁ → truW x H₁ (· = t) → R t s₁) → wpAny (model cx.prog cx.w) A (isTrue e env (eval e env)) R NoE s
theorem truW_at {x : V} {H : AH} {p : Bool → Prop} {t : Bool} (h : truW x H p) (e : truW x H (· = t)) : p t := by
  cases x <;> simp only [truW] at h e <;> first | (subst e; exact h) | skip
  obtain ⟨xs, h1, h2⟩ := h
  obtain ⟨ys, e1, e2⟩ := e
  rw [h1] at e1; cases e1; rw [← e2]; exact h2
theorem truW_self {x : V} {H : AH} (h : truW x H fun _ => True) : truW x H fun b => truW x H (· = b) := by
  cases x <;> simp only [truW] at h ⊢
  obtain ⟨xs, h1, _⟩ := h
  exact ⟨xs, h1, xs, h1, rfl⟩
theorem truW_true {x : V} {H : AH} {p : Bool → Prop} (h : truW x H p) : truW x H fun _ => True := by
  cases x <;> simp only [truW] at h ⊢
  obtain ⟨xs, h1, _⟩ := h
  exact ⟨xs, h1, trivial⟩
noncomputable def PEs.toL : PEs → List PE
  | .nil => []
  | .cons e es => e :: es.toL
inductive SimEs (cx : Cx) (n : Nat) (env : Env) (nms : List Str) : List Expr → PEs → Prop
  | nil : SimEs cx n env nms [] .nil
  | cons {e p es ps} : notStar e = true → SimE cx n env nms e p → SimB cx n env nms e p → SimEs cx n env nms es ps → SimEs cx n env nms (e :: es) (.cons p ps)

section
variable {cx : Cx} {n : Nat} {A : Around} {H : AH} {s : Shared} {env : Env} {nms : List Str} {ρ : Rho}

theorem star_plain {l : List Expr} {ps : PEs} (h : SimEs cx n env nms l ps) (pos : Pos) : backTo pos (starEach l env) = l.map fun e => (false, eval e env) := by
  induction h with
  | nil => rfl
  | @cons e p es ps hs _ _ _ ih =>
    have : starEach (e :: es) env = (false, eval e env) :: starEach es env := by
      cases e <;> first | rfl | (simp [notStar] at hs)
    rw [this]
    simp only [backTo, List.map_cons] at ih ⊢
    rw [ih]; rfl
theorem each_plain {l : List Expr} {ps : PEs} (h : SimEs cx n env nms l ps) : evalEach l env = l.map fun e => eval e env := by
  induction h with
  | nil => rfl
  | cons _ _ _ _ ih => simp only [evalEach, List.map_cons, ih]

theorem spliced_sound {l : List Expr} {ps : PEs} (h : SimEs cx n env nms l ps) : ∀ {A : Around} {s : Shared} {H : AH} {Q : List V → AH → Prop} {R : List Value → Shared → Prop}, Room n A → St cx H s → ρ.length = nms.length → FRel env nms ρ H s.heap → wpEs cx n ps ρ H Q →
    (∀ vs xs s₁ H₁, St cx H₁ s₁ → Ext H s.heap H₁ s₁.heap → Reps s₁.heap xs vs → Q xs H₁ → R vs s₁) → wpAny (model cx.prog cx.w) A (spliced (l.map fun e => (false, eval e env))) R NoE s := by
  induction h with
  | nil => intro A s H Q R rm S hl F h k; exact Calls.spliced_nil (k [] [] s H S (Ext.refl _ _) .nil h)
  | @cons e p es ps _ he _ _ ih =>
    intro A s H Q R rm S hl F h k
    rw [List.map_cons]
    refine Calls.spliced_cons (wpAny_mono (he A s ρ H _ rm S hl F h) (fun v s₁ ⟨x, H₁, S₁, E₁, r, h₁⟩ => ?_) fun _ _ e => e)
    exact ih rm S₁ hl (F.ext S E₁) h₁ fun vs xs s₂ H₂ S₂ E₂ rs q => k _ _ s₂ H₂ S₂ (E₁.trans E₂) (.cons (r.ext S₁ E₂) rs) q

theorem args_any {l : List Expr} : (l.map fun e => ((false, eval e env) : Bool × Sem Value)).any (·.1) = false := by
  induction l with
  | nil => rfl
  | cons e l ih => simp [List.any_cons, ih]

theorem evalArgs_sound {f : Value} {l : List Expr} {ps : PEs} {Q : List V → AH → Prop} {R : Args → Shared → Prop} (h : SimEs cx n env nms l ps) (rm : Room n A) (S : St cx H s) (hl : ρ.length = nms.length) (F : FRel env nms ρ H s.heap) (w : wpEs cx n ps ρ H Q)
    (k : ∀ vs xs s₁ H₁, St cx H₁ s₁ → Ext H s.heap H₁ s₁.heap → Reps s₁.heap xs vs → Q xs H₁ → R ⟨vs, []⟩ s₁) : wpAny (model cx.prog cx.w) A (evalArgs f true (l.map fun e => (false, eval e env)) []) R NoE s := by
  cases l with
  | nil =>
    cases h
    exact PySem.evalArgs_none (k [] [] s H S (Ext.refl _ _) .nil w)
  | cons e l => exact Calls.evalArgs_plain (spliced_sound h rm S hl F w k)

theorem callWith_val {f : Value} {first : List Value} {pos : Pos} {l : List Expr} {ps : PEs} {Q : List V → AH → Prop} {R : Value → Shared → Prop} (hf : ∀ a, f ≠ .ref a) (h : SimEs cx n env nms l ps) (rm : Room n A) (S : St cx H s) (hl : ρ.length = nms.length) (F : FRel env nms ρ H s.heap) (w : wpEs cx n ps ρ H Q)
    (k : ∀ vs xs s₁ H₁, St cx H₁ s₁ → Ext H s.heap H₁ s₁.heap → Reps s₁.heap xs vs → Q xs H₁ → wpAny (model cx.prog cx.w) A (call f (first ++ vs)) R NoE s₁) :
    wpAny (model cx.prog cx.w) A (callWith pos f first (l.map fun e => (false, eval e env)) []) R NoE s := by
  refine callWith_of (P := fun _ => True) (by rw [args_any]; rfl) (fun h _ => ⟨.machine, .inr (.inl rfl), Looks.of_pure ?_⟩) (evalArgs_sound h rm S hl F w fun vs xs s₁ H₁ a b c d => ⟨trivial, k vs xs s₁ H₁ a b c d⟩)
  cases f <;> first | rfl | exact absurd rfl (hf _)
theorem callWith_ref {f : Addr} {first : List Value} {pos : Pos} {l : List Expr} {ps : PEs} {Q : List V → AH → Prop} {R : Value → Shared → Prop} (ok : CxOk cx) (h : SimEs cx n env nms l ps) (rm : Room n A) (S : St cx H s) (hl : ρ.length = nms.length) (F : FRel env nms ρ H s.heap)
    (w : wpEs cx n ps ρ H Q)
    (k : ∀ vs xs s₁ H₁, St cx H₁ s₁ → Ext H s.heap H₁ s₁.heap → Reps s₁.heap xs vs → Q xs H₁ → keepIn cx.K (.ref f) = true ∧ wpAny (model cx.prog cx.w) A (call (.ref f) (first ++ vs)) R NoE s₁) :
    wpAny (model cx.prog cx.w) A (callWith pos (.ref f) first (l.map fun e => (false, eval e env)) []) R NoE s :=
  callWith_of (P := fun h => keepIn cx.K (.ref f) = true ∧ cx.K.In h) (by rw [args_any]; rfl) (fun h p => keeps_K p.1 h p.2) (evalArgs_sound h rm S hl F w fun vs xs s₁ H₁ a b c d => ⟨⟨(k vs xs s₁ H₁ a b c d).1, ok.K_in.keeps fun b o e => (a.keep b o e).1⟩, (k vs xs s₁ H₁ a b c d).2⟩)

theorem base_plain {e : Expr} {attr : Str} {whole : Sem Value} (h : notCall e = true) : attributeBase e attr env whole = whole := by
  cases e <;> first | rfl | (simp [notCall] at h)

theorem methCall_sound {e : Expr} {nm : Str} {ap pos : Pos} {l : List Expr} {ps : PEs} {R : Value → Shared → Prop} (hs : SimEs cx n env nms l ps) (hc : notCall e = true) (hline : (ap.endLine == pos.line) = true) (hlen : l.length < 30)
    (h : wpAny (model cx.prog cx.w) A (eval e env) (fun ov s₁ => ∀ pl, wpAny (model cx.prog cx.w) A (getMethod ov nm pl) (fun fx s₂ => wpAny (model cx.prog cx.w) A (callWith pos fx.1 fx.2 (l.map fun e => (false, eval e env)) []) R NoE s₂) NoE s₁) NoE s) :
    wpAny (model cx.prog cx.w) A (eval (.Call (.Attribute e nm ap) l [] pos) env) R NoE s := by
  rw [arm_eval_Call, base_plain hc, star_plain hs]
  have hform : methodCallForm (l.length + ([] : List Keyword).length) (l.map fun e => ((false, eval e env) : Bool × Sem Value)) (backToKw pos (keywordEach [] env)) = true := by
    have h1 : ((l.map fun e => ((false, eval e env) : Bool × Sem Value)).all fun x => !x.1) = true := by simp
    unfold methodCallForm
    rw [h1]
    simp [backToKw, keywordEach]
    omega
  refine wpAny_bind (wpAny_mono h (fun ov s₁ h₁ => wpAny_bind (wpAny_standAt ?_)) fun _ _ e => e)
  unfold methodCall
  rw [hform]
  refine wpAny_bind (wpAny_holding (wpAny_mono (h₁ _) (fun fx s₂ h₂ => ?_) fun _ _ e => e))
  have hpos : methodCallPos true e env ap pos = pure pos := by unfold methodCallPos; simp [hline]
  exact wpAny_bind (wpAny_of_eq hpos h₂)
end
end Mine

namespace Mine

noncomputable abbrev KeepsTup (h h' : Heap) : Prop := ∀ a vs n, h.get? a = some (tupObj vs n) → h'.get? a = some (tupObj vs n)
noncomputable abbrev But (I : Addr) (h h' : Heap) : Prop := ∀ b o, b ≠ I → h.get? b = some o → h'.get? b = some o

structure ItOk (cx : Cx) (I : Addr) (fp : List Addr) (simple : Bool) (xs : List V) (G : AH → Prop) (σ : Nat → Heap → Prop) (τ : Nat → Value → Heap → Prop) : Prop where
  mem : I ∈ fp
  live : ∀ i h, σ i h → ∀ b ∈ fp, ∃ o, h.get? b = some o
  noTup : ∀ i h, σ i h → ∀ vs n, h.get? I ≠ some (tupObj vs n)
  frame : ∀ i h h', σ i h → (∀ b ∈ fp, ∀ o, h.get? b = some o → h'.get? b = some o) → KeepsTup h h' → σ i h'
  plain : simple = true → ∀ i v h, τ i v h → σ i h
  go : ∀ (A : Around) i v s (Q : Unit → Shared → Prop) elts x1 pos, τ i v s.heap → (∀ h', σ i h' → Heap.SameBut I s.heap h' → KeepsTup s.heap h' → Q () { s with heap := h' }) → wpAny (model cx.prog cx.w) A (letOwnedTupleGo (.Tuple elts x1 pos) (.ref I) v) Q NoE s
  item : ∀ (A : Around) i x s H (Q : Option Value → Shared → Prop), A.handled = none → St cx H s → G H → xs[i]? = some x → σ i s.heap →
    (∀ v h' tk, Rep h' x v → τ (i + 1) v h' → But I s.heap h' → Q (some v) { s with heap := h', toks := tk }) → wpAny (model cx.prog cx.w) A (pyNext (.ref I)) Q NoE s
  done : ∀ (A : Around) s H (Q : Option Value → Shared → Prop), A.handled = none → St cx H s → G H → σ xs.length s.heap →
    (∀ h' tk, But I s.heap h' → Q none { s with heap := h', toks := tk }) → wpAny (model cx.prog cx.w) A (pyNext (.ref I)) Q NoE s
  self : simple = true → ∀ (A : Around) i s (Q : Value → Shared → Prop), σ i s.heap → Q (.ref I) s → wpAny (model cx.prog cx.w) A (pyIter (.ref I)) Q NoE s

section
variable {cx : Cx} {A : Around} {H : AH} {s : Shared}

theorem But.tup {I : Addr} {h h' : Heap} (b : But I h h') (nt : ∀ vs n, h.get? I ≠ some (tupObj vs n)) : KeepsTup h h' := fun a vs n e => b a _ (fun q => nt vs n (q ▸ e)) e
theorem St.but {I : Addr} {h' : Heap} (S : St cx H s) (n : H I = none) (g : cx.g0.get? I = none) (nt : ∀ vs n, s.heap.get? I ≠ some (tupObj vs n)) (b : But I s.heap h') (t : Nat) : St cx H { s with heap := h', toks := t } :=
  ⟨fun a o e => ⟨b a o (fun q => by subst q; rw [g] at e; cases e) (S.keep a o e).1, (S.keep a o e).2⟩,
   fun a ao e => by
     obtain ⟨o, q⟩ := (S.objs a ao e).some
     exact (S.objs a ao e).mono (b.tup nt) (by rw [q]; exact b a o (fun z => by subst z; rw [n] at e; cases e) q), S.gens, S.os⟩

theorem go_plain {I : Addr} {o : Obj} {n : String} {elts : List Expr} {x1} {pos : Pos} {v : Value} {Q : Unit → Shared → Prop} (e : s.heap.get? I = some o) (hc : o.cls = .type n)
    (hn : ["enumerate", "zip", "dict_itemiterator", "dict_reverseitemiterator", "odict_iterator", "itertools.zip_longest", "itertools.pairwise"].contains n = false) (h : Q () s) :
    wpAny (model cx.prog cx.w) A (letOwnedTupleGo (.Tuple elts x1 pos) (.ref I) v) Q NoE s := by
  cases v <;> first | exact wpAny_pure h | skip
  unfold letOwnedTupleGo
  refine wpAny_bind (wpAny_load e ?_)
  rw [hc]
  cases hd : o.data <;> first | exact wpAny_pure h | skip
  dsimp only
  rw [hn]
  simp only [Bool.false_and, Bool.false_eq_true, if_false]
  exact wpAny_pure h

noncomputable def ItAt (cx : Cx) (H : AH) (h : Heap) (simple : Bool) (xs : List V) (G : AH → Prop) (it : Value) (s₁ : Shared) : Prop :=
  ∃ I fp σ τ, it = .ref I ∧ ItOk cx I fp simple xs G σ τ ∧ h.get? I = none ∧ (∀ b ∈ fp, H b = none) ∧ (∀ b ∈ fp, b = I ∨ ∃ o, h.get? b = some o ∧ (∀ es ep, o.data ≠ .dict es ep) ∧ ∀ v, o.data ≠ .cell v) ∧ cx.g0.get? I = none ∧ σ 0 s₁.heap ∧ St cx H s₁ ∧ Ext H h H s₁.heap

theorem it_list {a : Addr} {xs : List V} (S : St cx H s) (e : H a = some (.list xs)) :
    wpAny (model cx.prog cx.w) A (pyIter (.ref a)) (ItAt cx H s.heap true xs fun H' => H' a = some (.list xs)) NoE s := by
  have isl : ∀ {H' : AH} {s' : Shared}, St cx H' s' → H' a = some (.list xs) → ∃ vs, s'.heap.IsList a vs.toArray ∧ Reps s'.heap xs vs := fun S' e' => by
    obtain ⟨vs, n, e1, r, _⟩ := S'.objs a _ e'
    exact ⟨vs, ⟨_, e1, rfl, n, rfl⟩, r⟩
  obtain ⟨vs, hl, r⟩ := isl S e
  refine wpAny_pyIter_list hl ⟨s.heap.objs.size, [s.heap.objs.size], fun i h => h.IsListIter s.heap.objs.size a i, fun i _ h => h.IsListIter s.heap.objs.size a i, rfl, ?_, get_size_none _,
    fun b hb => by simp at hb; subst hb; exact S.fresh (Nat.le_refl _), fun b hb => by simp at hb; exact .inl hb, S.g0_fresh (get_size_none _), ⟨_, Heap.get?_push_size _ rfl, rfl, rfl⟩, S.push _ s.toks, Ext.push _ _ _⟩
  refine ⟨by simp, fun i h st b hb => ?_, fun i h st vs n q => ?_, fun i h h' st k _ => st.at fun o q => k _ (by simp) o q, fun _ _ _ _ t => t, fun A i v s Q elts x1 pos st k => ?_, fun A i x s' H' Q hh S' g ex st k => ?_, fun A s' H' Q hh S' g st k => ?_, fun _ A i s' Q st q => wpAny_pyIter_listiter st q⟩
  · simp at hb; subst hb
    obtain ⟨o, q, c, d⟩ := st
    exact ⟨o, q⟩
  · obtain ⟨o, q', c, d⟩ := st
    rw [q'] at q; cases q; simp at d
  · obtain ⟨o, q, c, d⟩ := id st
    exact go_plain q c (by decide) (k _ st (Heap.SameBut.refl ..) (fun _ _ _ e => e))
  · obtain ⟨vs', hl', r'⟩ := isl S' g
    obtain ⟨v, ev, rv⟩ := r'.get ex
    refine wpAny_pyNext_list_item st hl' (x := v) (by simpa using ev) fun h' st' hs' => ?_
    refine k v h' s'.toks (rv.mono ?_) st' hs'.extBut
    obtain ⟨o, q, c, d⟩ := st
    exact But.tup (h := s'.heap) (h' := h') hs'.extBut fun vs n z => by rw [q] at z; cases z; simp at d
  · obtain ⟨vs', hl', r'⟩ := isl S' g
    exact wpAny_pyNext_list_end hh st hl' (by simp [r'.length]) fun h' he => k h' s'.toks he

theorem it_rev {a : Addr} {xs : List V} (S : St cx H s) (e : H a = some (.list xs)) :
    wpAny (model cx.prog cx.w) A (call (.type "reversed") [.ref a]) (fun v s₁ => wpAny (model cx.prog cx.w) A (pyIter v) (ItAt cx H s.heap true xs.reverse fun H' => H' a = some (.list xs)) NoE s₁) NoE s := by
  have isl : ∀ {H' : AH} {s' : Shared}, St cx H' s' → H' a = some (.list xs) → ∃ vs, s'.heap.IsList a vs.toArray ∧ Reps s'.heap xs vs := fun S' e' => by
    obtain ⟨vs, n, e1, r, _⟩ := S'.objs a _ e'
    exact ⟨vs, ⟨_, e1, rfl, n, rfl⟩, r⟩
  obtain ⟨vs, hl, r⟩ := isl S e
  refine call_reversed_list hl ?_
  have e0 : ((vs.toArray.size : Nat) : Int) - 1 = (xs.length : Int) - 1 := by simp [r.length]
  rw [e0]
  have hI : (s.heap.push (revObj a ((xs.length : Int) - 1))).IsRevIter s.heap.objs.size a ((xs.length : Int) - 1) := ⟨_, Heap.get?_push_size _ rfl, rfl, rfl⟩
  refine wpAny_pyIter_revIter hI ⟨s.heap.objs.size, [s.heap.objs.size], fun i h => h.IsRevIter s.heap.objs.size a ((xs.length : Int) - 1 - (i : Int)), fun i _ h => h.IsRevIter s.heap.objs.size a ((xs.length : Int) - 1 - (i : Int)), rfl, ?_, get_size_none _,
    fun b hb => by simp at hb; subst hb; exact S.fresh (Nat.le_refl _), fun b hb => by simp at hb; exact .inl hb, S.g0_fresh (get_size_none _), by simpa using hI, S.push _ s.toks, Ext.push _ _ _⟩
  refine ⟨by simp, fun i h st b hb => ?_, fun i h st vs n q => ?_, fun i h h' st k _ => st.at fun o q => k _ (by simp) o q, fun _ _ _ _ t => t, fun A i v s Q elts x1 pos st k => ?_, fun A i x s' H' Q hh S' g ex st k => ?_, fun A s' H' Q hh S' g st k => ?_, fun _ A i s' Q st q => wpAny_pyIter_revIter st q⟩
  · simp at hb; subst hb
    obtain ⟨o, q, c, d⟩ := st
    exact ⟨o, q⟩
  · obtain ⟨o, q', c, d⟩ := st
    rw [q'] at q; cases q; simp at d
  · obtain ⟨o, q, c, d⟩ := id st
    exact go_plain q c (by decide) (k _ st (Heap.SameBut.refl ..) (fun _ _ _ e => e))
  · obtain ⟨vs', hl', r'⟩ := isl S' g
    have hi : i < xs.reverse.length := (List.getElem?_eq_some_iff.mp ex).1
    simp at hi
    rw [List.getElem?_reverse (by simpa using hi)] at ex
    obtain ⟨v, ev, rv⟩ := r'.get ex
    have e1 : (xs.length : Int) - 1 - (i : Int) = ((xs.length - 1 - i : Nat) : Int) := by omega
    have st2 := st
    simp only [e1] at st2
    refine wpAny_pyNext_rev_item st2 hl' (x := v) (by simpa using ev) fun h' st' hs' => ?_
    refine k v h' s'.toks (rv.mono ?_) ?_ hs'.extBut
    · obtain ⟨o, q, c, d⟩ := st
      exact But.tup (h := s'.heap) (h' := h') hs'.extBut fun vs n z => by rw [q] at z; cases z; simp at d
    · have e2 : ((xs.length - 1 - i : Nat) : Int) - 1 = (xs.length : Int) - 1 - ((i + 1 : Nat) : Int) := by omega
      rw [e2] at st'
      exact st'
  · have e1 : (xs.length : Int) - 1 - (xs.reverse.length : Int) = -1 := by simp; omega
    simp only [e1] at st
    exact wpAny_pyNext_rev_end hh st fun h' he => k h' s'.toks he

theorem it_rangeObj {a : Addr} {i : Int} {t u v : Tok} (S : St cx H s) (e : IsRange s.heap a 0 i 1 t u v) (hi : i.natAbs < 2 ^ 62) :
    wpAny (model cx.prog cx.w) A (pyIter (.ref a)) (fun it s₁ => ∃ I fp σ τ, it = .ref I ∧ ItOk cx I fp true ((List.range i.toNat).map fun (j : Nat) => V.int (j : Int)) (fun _ => True) σ τ ∧ s.heap.get? I = none ∧ (∀ b ∈ fp, H b = none) ∧ (∀ b ∈ fp, b = I) ∧ cx.g0.get? I = none ∧ σ 0 s₁.heap ∧ St cx H s₁ ∧ Ext H s.heap H s₁.heap) NoE s := by
  have hn : Builtin.Range.rangeSize 0 i 1 = (i.toNat : Int) := by rw [rangeSize_one]; split <;> omega
  refine wpAny_pyIter_range e (small_one (by decide) (by decide) (by omega) (by omega)) ?_
  rw [hn]
  refine ⟨s.heap.objs.size, [s.heap.objs.size], fun j h => IsRangeIter h s.heap.objs.size (j : Int) ((i.toNat : Int) - (j : Int)) 1, fun j _ h => IsRangeIter h s.heap.objs.size (j : Int) ((i.toNat : Int) - (j : Int)) 1, rfl, ?_, get_size_none _,
    fun b hb => by simp at hb; subst hb; exact S.fresh (Nat.le_refl _), fun b hb => by simpa using hb, S.g0_fresh (get_size_none _), by simpa using Heap.get?_push_size _ rfl, S.push _ s.toks, Ext.push _ _ _⟩
  refine ⟨by simp, fun j h st b hb => ?_, fun j h st vs n q => ?_, fun j h h' st k _ => k _ (by simp) _ st, fun _ _ _ _ t => t, fun A j v s Q elts x1 pos st k => ?_, fun A j x s' H' Q hh S' g ex st k => ?_, fun A s' H' Q hh S' g st k => ?_, fun _ A j s' Q st q => wpAny_pyIter_rangeiter st q⟩
  · simp at hb; subst hb; exact ⟨_, st⟩
  · have := Option.some.inj ((show h.get? _ = _ from st).symm.trans q); simp at this
  · exact go_plain (show _ = _ from st) rfl (by decide) (k _ st (Heap.SameBut.refl ..) (fun _ _ _ e => e))
  · have hj : j < i.toNat := by have := (List.getElem?_eq_some_iff.mp ex).1; simpa using this
    have ev : x = .int (j : Int) := by simp [hj] at ex; exact ex.symm
    subst ev
    refine wpAny_pyNext_range_item st (by omega) fun h' st' hs' => k _ h' _ (.int _ _) ?_ hs'.extBut
    have e2 : (i.toNat : Int) - ((j + 1 : Nat) : Int) = (i.toNat : Int) - (j : Int) - 1 := by omega
    rw [show ((j + 1 : Nat) : Int) = (j : Int) + 1 from rfl] at e2
    show IsRangeIter h' _ (((j + 1 : Nat)) : Int) _ 1
    rw [show ((j + 1 : Nat) : Int) = (j : Int) + 1 from rfl, e2]
    exact st'
  · exact wpAny_pyNext_range_end hh st (by simp) fun h' he => k h' s'.toks he

theorem it_range {i : Int} {t : Tok} (S : St cx H s) (hi : i.natAbs < 2 ^ 62) :
    wpAny (model cx.prog cx.w) A (call (.type "range") [.int i t]) (fun v s₁ => wpAny (model cx.prog cx.w) A (pyIter v) (ItAt cx H s.heap true ((List.range i.toNat).map fun (j : Nat) => V.int (j : Int)) fun _ => True) NoE s₁) NoE s := by
  refine call_range_1 ?_
  have S1 := S.push { cls := .type "range", data := .fields #[.int 0 s.toks, .int i t, .int 1 (s.toks + 1)] } (s.toks + 1 + 1)
  have E1 := Ext.push H s.heap { cls := .type "range", data := .fields #[.int 0 s.toks, .int i t, .int 1 (s.toks + 1)] }
  refine wpAny_mono (it_rangeObj (a := s.heap.objs.size) (t := s.toks) (u := t) (v := s.toks + 1) S1 (Heap.get?_push_size _ rfl) hi) (fun it s₁ h => ?_) fun _ _ e => e
  obtain ⟨I, fp, σ, τ, h1, h2, h3, h4, h5, h6, h7, h8, h9⟩ := h
  have fresh : ∀ b, (s.heap.push { cls := .type "range", data := .fields #[.int 0 s.toks, .int i t, .int 1 (s.toks + 1)] }).get? b = none → s.heap.get? b = none := fun b e => by
    cases q : s.heap.get? b with
    | none => rfl
    | some o => have := Heap.get?_push_of_some { cls := .type "range", data := .fields #[.int 0 s.toks, .int i t, .int 1 (s.toks + 1)] } q; rw [this] at e; cases e
  refine ⟨I, fp, σ, τ, h1, h2, fresh I h3, h4, fun b hb => .inl (h5 b hb), h6, h7, h8, E1.trans h9⟩

theorem it_tuple {a : Addr} {vs : List Value} {n : Nat} {xs : List V} (S : St cx H s) (e : s.heap.get? a = some (tupObj vs n)) (r : Reps s.heap xs vs) :
    wpAny (model cx.prog cx.w) A (pyIter (.ref a)) (ItAt cx H s.heap true xs fun _ => True) NoE s := by
  have ne : a ≠ s.heap.objs.size := Nat.ne_of_lt (Heap.lt_size e)
  have isT : ∀ {h : Heap}, h.get? a = some (tupObj vs n) → h.IsTuple a vs.toArray := fun q => ⟨_, q, rfl, n, rfl⟩
  refine wpAny_pyIter_tuple (isT e) ⟨s.heap.objs.size, [s.heap.objs.size, a], fun i h => h.IsTupleIter s.heap.objs.size a i ∧ h.get? a = some (tupObj vs n) ∧ Reps h xs vs,
    fun i _ h => h.IsTupleIter s.heap.objs.size a i ∧ h.get? a = some (tupObj vs n) ∧ Reps h xs vs, rfl, ?_, get_size_none _,
    fun b hb => by simp at hb; rcases hb with rfl | rfl; exact S.fresh (Nat.le_refl _); exact S.tupNone e, fun b hb => (by simp at hb; rcases hb with rfl | rfl; exact .inl rfl; exact .inr ⟨_, e, fun _ _ => by simp, fun _ => by simp⟩), S.g0_fresh (get_size_none _),
    ⟨⟨_, Heap.get?_push_size _ rfl, rfl, rfl⟩, Heap.get?_push_of_some _ e, r.grow fun _ _ q => Heap.get?_push_of_some _ q⟩, S.push _ s.toks, Ext.push _ _ _⟩
  refine ⟨by simp, fun i h st b hb => ?_, fun i h st vs' n' q => ?_, fun i h h' st k kt => ?_, fun _ _ _ _ t => t, fun A i v s Q elts x1 pos st k => ?_, fun A i x s' H' Q hh S' g ex st k => ?_, fun A s' H' Q hh S' g st k => ?_, fun _ A i s' Q st q => ?_⟩
  · obtain ⟨⟨o, q, c, d⟩, q2, _⟩ := st
    simp at hb
    rcases hb with rfl | rfl
    · exact ⟨o, q⟩
    · exact ⟨_, q2⟩
  · obtain ⟨⟨o, q', c, d⟩, _⟩ := st
    rw [q'] at q; cases q; simp at d
  · obtain ⟨⟨o, q, c, d⟩, q2, r2⟩ := st
    exact ⟨⟨o, k _ (by simp) o q, c, d⟩, k _ (by simp) _ q2, r2.mono kt⟩
  · obtain ⟨o, q, c, d⟩ := id st.1
    exact go_plain q c (by decide) (k _ st (Heap.SameBut.refl ..) (fun _ _ _ e => e))
  · obtain ⟨v, ev, rv⟩ := st.2.2.get ex
    refine wpAny_pyNext_tuple_item st.1 (isT st.2.1) (x := v) (by simpa using ev) fun h' st' hs' => ?_
    have kt : KeepsTup s'.heap h' := by
      obtain ⟨o, q, c, d⟩ := st.1
      exact But.tup (h := s'.heap) (h' := h') hs'.extBut fun vs n z => by rw [q] at z; cases z; simp at d
    exact k v h' s'.toks (rv.mono kt) ⟨st', hs'.extBut a _ ne st.2.1, st.2.2.mono kt⟩ hs'.extBut
  · exact wpAny_pyNext_tuple_end hh st.1 (isT st.2.1) (by simp [r.length]) fun h' he => k h' s'.toks he
  · exact wpAny_pyIter_tupleiter st.1 q

theorem it_str {l : List Nat} {t : Tok} (S : St cx H s) (ok : okS l = true) :
    wpAny (model cx.prog cx.w) A (pyIter (.str (mkS l) t)) (ItAt cx H s.heap true (l.map fun c => .str [c]) fun _ => True) NoE s := by
  have okc : ∀ {i : Nat} {x : V}, (l.map fun c => V.str [c])[i]? = some x → ∃ c, (mkS l).cps[i]? = some c ∧ x = .str [c] ∧ okS [c] = true := fun {i x} e => by
    rw [List.getElem?_map] at e
    cases q : l[i]? with
    | none => simp [q] at e
    | some c =>
      simp [q] at e
      refine ⟨c, by simp [mkS, q], e.symm, ?_⟩
      have := (List.all_eq_true.mp (Bool.and_eq_true _ _ ▸ ok).1) c (List.mem_of_getElem? q)
      simp [okS, lim]; simpa using this
  cases ha : (mkS l).cps.all (· < 128)
  · refine wpAny_pyIter_wide ha ⟨s.heap.objs.size, [s.heap.objs.size], fun i h => h.IsStrIter s.heap.objs.size "str_iterator" (mkS l) t i, fun i _ h => h.IsStrIter s.heap.objs.size "str_iterator" (mkS l) t i, rfl, ?_, get_size_none _,
      fun b hb => by simp at hb; subst hb; exact S.fresh (Nat.le_refl _), fun b hb => by simp at hb; exact .inl hb, S.g0_fresh (get_size_none _), ⟨_, Heap.get?_push_size _ rfl, rfl, rfl⟩, S.push _ s.toks, Ext.push _ _ _⟩
    refine ⟨by simp, fun i h st b hb => ?_, fun i h st vs n q => ?_, fun i h h' st k _ => (let ⟨o, ho, r⟩ := st; ⟨o, k _ (by simp) o ho, r⟩), fun _ _ _ _ t => t, fun A i v s Q elts x1 pos st k => ?_, fun A i x s' H' Q hh S' g ex st k => ?_, fun A s' H' Q hh S' g st k => ?_, fun _ A i s' Q st q => wpAny_pyIter_striter_wide st q⟩
    · simp at hb; subst hb
      obtain ⟨o, q, c, d⟩ := st
      exact ⟨o, q⟩
    · obtain ⟨o, q', c, d⟩ := st
      rw [q'] at q; cases q; simp at d
    · obtain ⟨o, q, c, d⟩ := id st
      exact go_plain q c (by decide) (k _ st (Heap.SameBut.refl ..) (fun _ _ _ e => e))
    · obtain ⟨c, ec, rfl, okc⟩ := okc ex
      exact wpAny_pyNext_wide_item st ec fun h' st' hs' => k _ h' _ (.str [c] _ okc) st' hs'.extBut
    · exact wpAny_pyNext_wide_end hh st (by simp [mkS]) fun h' he => k h' s'.toks he
  · refine wpAny_pyIter_ascii ha ⟨s.heap.objs.size, [s.heap.objs.size], fun i h => h.IsStrIter s.heap.objs.size "str_ascii_iterator" (mkS l) t i, fun i _ h => h.IsStrIter s.heap.objs.size "str_ascii_iterator" (mkS l) t i, rfl, ?_, get_size_none _,
      fun b hb => by simp at hb; subst hb; exact S.fresh (Nat.le_refl _), fun b hb => by simp at hb; exact .inl hb, S.g0_fresh (get_size_none _), ⟨_, Heap.get?_push_size _ rfl, rfl, rfl⟩, S.push _ s.toks, Ext.push _ _ _⟩
    refine ⟨by simp, fun i h st b hb => ?_, fun i h st vs n q => ?_, fun i h h' st k _ => (let ⟨o, ho, r⟩ := st; ⟨o, k _ (by simp) o ho, r⟩), fun _ _ _ _ t => t, fun A i v s Q elts x1 pos st k => ?_, fun A i x s' H' Q hh S' g ex st k => ?_, fun A s' H' Q hh S' g st k => ?_, fun _ A i s' Q st q => wpAny_pyIter_striter_ascii st q⟩
    · simp at hb; subst hb
      obtain ⟨o, q, c, d⟩ := st
      exact ⟨o, q⟩
    · obtain ⟨o, q', c, d⟩ := st
      rw [q'] at q; cases q; simp at d
    · obtain ⟨o, q, c, d⟩ := id st
      exact go_plain q c (by decide) (k _ st (Heap.SameBut.refl ..) (fun _ _ _ e => e))
    · obtain ⟨c, ec, rfl, okc⟩ := okc ex
      exact wpAny_pyNext_ascii_item st ec fun h' st' hs' => k _ h' _ (.str [c] _ okc) st' hs'.extBut
    · exact wpAny_pyNext_ascii_end hh st (by simp [mkS]) fun h' he => k h' s'.toks he

end
end Mine

namespace Mine

theorem closureFor_cells {env : Env} {scope : Scope} (h : ∀ x ∈ scope.names, x.2 = .free → ∃ c, env.cells.lookup x.1 = some c) :
    ∃ cl, closureFor scope env = pure cl ∧ (∀ n c, cl.lookup n = some c → env.cells.lookup n = some c) ∧ ∀ n, (n, NameKind.free) ∈ scope.names → cl.lookup n = env.cells.lookup n := by
  unfold closureFor
  suffices key : ∀ (l : List (Str × NameKind)) (acc : List (Str × Addr)), (∀ x ∈ l, x.2 = .free → ∃ c, env.cells.lookup x.1 = some c) → (∀ n c, acc.lookup n = some c → env.cells.lookup n = some c) →
      ∃ cl, (forIn l acc fun x r => (match x with | (name, kind) => if (kind == NameKind.free) = true then do let a ← cellOf env name; pure (ForInStep.yield ((name, a) :: r)) else pure (ForInStep.yield r) : Sem (ForInStep (List (Str × Addr))))) = pure cl ∧
        (∀ n c, cl.lookup n = some c → env.cells.lookup n = some c) ∧ (∀ n, acc.lookup n ≠ none → cl.lookup n = env.cells.lookup n) ∧ ∀ n, (n, NameKind.free) ∈ l → cl.lookup n = env.cells.lookup n by
    obtain ⟨cl, e, a, _, b⟩ := key scope.names [] h (by simp)
    refine ⟨cl, ?_, a, b⟩
    have : (forIn scope.names ([] : List (Str × Addr)) fun x r => (match x with | (name, kind) => if (kind == NameKind.free) = true then do let a ← cellOf env name; pure (ForInStep.yield ((name, a) :: r)) else pure (ForInStep.yield r) : Sem (ForInStep (List (Str × Addr))))) >>= pure = pure cl := by rw [e]; rfl
    exact this
  intro l
  induction l with
  | nil =>
    intro acc _ ha
    refine ⟨acc, rfl, ha, fun n hn => ?_, fun n hn => nomatch hn⟩
    cases q : acc.lookup n with
    | none => exact absurd q hn
    | some c => rw [ha n c q]
  | cons x l ih =>
    intro acc hl ha
    obtain ⟨name, kind⟩ := x
    rw [List.forIn_cons]
    cases hk : kind == NameKind.free with
    | false =>
      obtain ⟨cl, e, a, b, c⟩ := ih acc (fun y hy => hl y (List.mem_cons_of_mem _ hy)) ha
      refine ⟨cl, ?_, a, b, fun n hn => ?_⟩
      · simp only [hk, Bool.false_eq_true, if_false, pure_bind]; exact e
      · rcases List.mem_cons.mp hn with q | q
        · cases q; simp at hk
        · exact c n q
    | true =>
      have hk' : kind = .free := by simpa using hk
      obtain ⟨cell, hc⟩ := hl (name, kind) List.mem_cons_self hk'
      have hcell : cellOf env name = pure cell := by unfold cellOf; simp only at hc; rw [hc]
      have ha' : ∀ n c, List.lookup n ((name, cell) :: acc) = some c → env.cells.lookup n = some c := fun n c q => by
        rw [List.lookup_cons] at q
        split at q
        · rename_i q2; cases q; have := eq_of_beq q2; subst this; exact hc
        · exact ha n c q
      obtain ⟨cl, e, a, b, c⟩ := ih ((name, cell) :: acc) (fun y hy => hl y (List.mem_cons_of_mem _ hy)) ha'
      refine ⟨cl, ?_, a, fun n hn => b n ?_, fun n hn => ?_⟩
      · simp only [hk, if_true, hcell, pure_bind]; exact e
      · rw [List.lookup_cons]; split
        · simp
        · exact hn
      · rcases List.mem_cons.mp hn with q | q
        · cases q; exact b name (by simp)
        · exact c n q

noncomputable def SrcAt (cx : Cx) (env : Env) (nms : List Str) (ρ : Rho) (H : AH) (h : Heap) (K : List V → (AH → Prop) → AH → Prop) (it : Value) (s₂ : Shared) : Prop :=
  ∃ xs G H₁ s₁, K xs G H₁ ∧ St cx H₁ s₁ ∧ Ext H h H₁ s₁.heap ∧ FRel env nms ρ H₁ s₁.heap ∧ ItAt cx H₁ s₁.heap true xs G it s₂

section
variable {cx : Cx} {n : Nat} {A : Around} {H : AH} {s : Shared} {env : Env} {nms : List Str} {ρ : Rho}

theorem compScope_relabel {scope : Scope} : compScope env.scope scope = relabel scope env := rfl

theorem lookup_mem {l : List (Str × NameKind)} {n : Str} {k : NameKind} (q : l.lookup n = some k) : (n, k) ∈ l := by
  induction l with
  | nil => simp at q
  | cons p l ih =>
    rw [List.lookup_cons] at q
    split at q
    · rename_i q2; cases q; have := eq_of_beq q2; subst this; exact List.mem_cons_self
    · exact List.mem_cons_of_mem _ (ih q)
theorem relabel_kind {scope : Scope} {n : Str} {k : NameKind} (q : (relabel scope env).names.lookup n = some k) : ∃ k0, (n, k0) ∈ scope.names ∧ (k = k0 ∨ (k0 = .free ∧ k = .cell)) := by
  have := lookup_mem q
  obtain ⟨⟨n0, k0⟩, q1, q2⟩ := List.mem_map.mp this
  replace q2 : (if (k0 == NameKind.free && env.scope.kind == .function && env.kindOf n0 == some .cell) = true then (n0, NameKind.cell) else (n0, k0)) = (n, k) := q2
  by_cases q3 : (k0 == NameKind.free && env.scope.kind == .function && env.kindOf n0 == some .cell) = true
  · rw [if_pos q3] at q2
    simp only [Prod.mk.injEq] at q2
    obtain ⟨rfl, rfl⟩ := q2
    simp at q3; exact ⟨k0, q1, .inr ⟨q3.1.1, rfl⟩⟩
  · rw [if_neg q3] at q2
    simp only [Prod.mk.injEq] at q2
    obtain ⟨rfl, rfl⟩ := q2
    exact ⟨k0, q1, .inl rfl⟩

theorem FRel.inner {scope : Scope} {x : Str} {cl : List (Str × Addr)} {C : Addr} {v : Value} {y : V} {m : Str → Option Value} {h : Heap} {env' : Env} (F : FRel env nms ρ H h) (hl : ρ.length = nms.length)
    (e1 : env'.scope = relabel scope env) (e2 : env'.locals = C) (e3 : env'.cells = cl)
    (c1 : ∀ n c, cl.lookup n = some c → env.cells.lookup n = some c) (c2 : ∀ n, (n, NameKind.free) ∈ scope.names → cl.lookup n = env.cells.lookup n)
    (k1 : scope.names.all (fun p => p.2 != .local || !(hideN nms x).contains p.1) = true) (k9 : scope.names.all (fun p => !(p.1 == ("" : Str))) = true) (k2 : scope.names.all (fun p => p.2 != .cell) = true) (k3 : scope.names.all (fun p => p.2 != .free || env.scope.names.lookup p.1 == some .cell) = true)
    (k4 : scope.names.lookup x = some .local) (nd : (scope.names.map (·.1)).Nodup)
    (hn : h.Ns C m) (hx : m x = some v) (hC : H C = none) (r : Rep h y v) : FRel env' (hideN nms x ++ [x]) (ρ ++ [some y]) H h := by
  obtain ⟨m0, cm, h0, hc, h1, h2, h3⟩ := F
  have kin : ∀ n k, env'.kindOf n = some k → (∃ k0, (n, k0) ∈ scope.names ∧ (k = k0 ∨ (k0 = .free ∧ k = .cell))) := fun n k q =>
    relabel_kind (env := env) (by unfold Env.kindOf at q; rw [e1] at q; exact q)
  refine ⟨m, fun n => cm n, e2 ▸ hn, fun n c q => hc n c (c1 n c (e3 ▸ q)), e2 ▸ hC, fun n c q => h2 n c (c1 n c (e3 ▸ q)), fun i z nm q1 q2 => ?_⟩
  rw [slot_append] at q1
  split at q1
  · rename_i q3
    subst q3
    cases q1
    rw [hl, ← hideN_length nms x, List.getElem?_append_right (Nat.le_refl _)] at q2
    simp at q2
    subst q2
    refine ⟨fun _ => ⟨v, hx, r⟩, fun q => ?_⟩
    exfalso
    have : env'.kindOf x = some .local := by unfold Env.kindOf; rw [e1]; exact lookup_relabel_local k4
    rw [this] at q; cases q
  · have lt : i < ρ.length := by
      rcases Nat.lt_or_ge i ρ.length with g | g
      · exact g
      · exfalso
        have : ∀ (ρ : Rho) i, ρ.length ≤ i → slot ρ i = none := fun ρ => by
          induction ρ with
          | nil => intro i _; rfl
          | cons a b ih => intro i hi; cases i with
            | zero => simp at hi
            | succ i => exact ih i (by simpa using hi)
        rw [this _ _ g] at q1; cases q1
    rw [List.getElem?_append_left (by rw [hideN_length, ← hl]; exact lt)] at q2
    have hmem : nm ∈ hideN nms x := List.mem_of_getElem? q2
    have nEmp : ∀ k, env'.kindOf nm = some k → nm ≠ "" := fun k q z => by
      obtain ⟨k0, q3, _⟩ := kin _ _ q
      have := List.all_eq_true.mp k9 _ q3
      rw [z] at this; simp at this
    have orig : nm ≠ "" → nms[i]? = some nm := fun ne => by
      unfold hideN at q2
      rw [List.getElem?_map] at q2
      cases e : nms[i]? with
      | none => rw [e] at q2; cases q2
      | some n0 =>
        rw [e] at q2
        simp only [Option.map_some, Option.some.injEq] at q2
        split at q2
        · exact absurd q2.symm ne
        · rw [q2]
    refine ⟨fun q => ?_, fun q => ?_⟩
    · exfalso
      obtain ⟨k0, q3, q4⟩ := kin _ _ q
      have kl : k0 = .local := by rcases q4 with q4 | ⟨_, q4⟩; exact q4.symm; cases q4
      have := List.all_eq_true.mp k1 _ q3
      simp [kl] at this
      exact this hmem
    · have o3 := h3 i z nm q1 (orig (nEmp _ q))
      obtain ⟨k0, q3, q4⟩ := kin _ _ q
      have kf : k0 = .free := by
        rcases q4 with q4 | ⟨q4, _⟩
        · have := List.all_eq_true.mp k2 _ q3; simp [← q4] at this
        · exact q4
      subst kf
      have kc : env.kindOf nm = some .cell := by
        have := List.all_eq_true.mp k3 _ q3; simpa [Env.kindOf] using this
      obtain ⟨c, w, a1, a2, a3⟩ := o3.2 kc
      exact ⟨c, w, by rw [e3, c2 nm q3]; exact a1, a2, a3⟩

theorem comp_sound {elt iter : Expr} {x : Str} {px : Pos} {scope : Scope} {pos : Pos} {p : PE} {Q : V → AH → Prop} (E : EnvOk cx env) (rm : Room n A) (hl : ρ.length = nms.length)
    (k0 : scope.kind = .function) (k1 : scope.names.all (fun p => p.2 != .local || !(hideN nms x).contains p.1) = true) (k9 : scope.names.all (fun p => !(p.1 == ("" : Str))) = true) (k2 : scope.names.all (fun p => p.2 != .cell) = true) (k3 : scope.names.all (fun p => p.2 != .free || env.scope.names.lookup p.1 == some .cell) = true)
    (k4 : scope.names.lookup x = some .local) (nd : (scope.names.map (·.1)).Nodup)
    (hs : ∀ x, foldedSetIterable iter env x = pure x)
    (hiter : wpAny (model cx.prog cx.w) A (eval iter env) (fun xv s₁ => wpAny (model cx.prog cx.w) A (pyIter xv) (SrcAt cx env nms ρ H s.heap fun xs G H₁ =>
      compC (fun x H' Q' => wpE cx n p (ρ ++ [some x]) H' Q') G xs [] H₁ fun ys H₂ => ∀ c, H₂ c = none → Q (.ref c) (H₂.set c (.list ys))) NoE s₁) NoE s)
    (helt : ∀ env' : Env, env'.scope = compScope env.scope scope → EnvOk cx env' → SimE cx n env' (hideN nms x ++ [x]) elt p) :
    wpAny (model cx.prog cx.w) A (eval (.ListComp elt [⟨.Name x px, iter, [], 0⟩] scope pos) env) (Post cx H s.heap Q) NoE s := by
  have hnames : ∀ y ∈ scope.names, y.2 = NameKind.local → scope.names.lookup y.1 = some .local := fun y hy q => by
    obtain ⟨a, b⟩ := y
    simp only at q; subst q
    have : ∀ (l : List (Str × NameKind)), (l.map (·.1)).Nodup → (a, NameKind.local) ∈ l → l.lookup a = some .local := fun l => by
      induction l with
      | nil => intro _ h; cases h
      | cons z l ih =>
        intro nd h
        rw [List.map_cons, List.nodup_cons] at nd
        rcases List.mem_cons.mp h with rfl | h
        · simp
        · have ne : (a == z.1) = false := by
            simp; rintro rfl; exact nd.1 (List.mem_map.mpr ⟨_, h, rfl⟩)
          rw [List.lookup_cons, ne]
          exact ih nd.2 h
    exact this _ nd hy
  obtain ⟨cl, hclos, c1, c2⟩ := closureFor_cells (env := env) (scope := scope) fun y hy q => E.cellAll _ (by
    have := List.all_eq_true.mp k3 y hy; simpa [q, Env.kindOf] using this)
  rw [eval_ListComp]
  refine wpAny_comprehension_free (g := ⟨.Name x px, iter, [], 0⟩) (gs := []) rfl hs hclos k0 hnames (wpAny_mono hiter (fun xv s₁ h₁ => wpAny_mono h₁ (fun it s₂ h₂ => ?_) fun _ _ e => e.elim) fun _ _ e => e.elim)
  obtain ⟨xs, G, H₁, s₁, hK, S₁, E₁, F₁, I, fp, σ, τ, rfl, ok, fI, hfp, hown, gI, h0, S₂, E₂⟩ := h₂
  have F₂ := F₁.ext S₁ E₂
  have cellsNo : ∀ y ∈ scope.names, y.2 ≠ NameKind.cell := fun y hy => by have := List.all_eq_true.mp k2 y hy; simpa using this
  refine wpAny_newObj_type (wpAny_newFunctionEnv cellsNo (by intro y hy; simp at hy) (fun h₃ hns hsb => ?_) k0)
  dsimp only at hns hsb ⊢
  generalize hD : s₂.heap.objs.size = D at hns hsb ⊢
  have eD : (s₂.heap.push { cls := .type "list", dict := none, data := .seq ([] : List Value).toArray }).get? D = some (lstObj [] 0) := by subst hD; exact Heap.get?_push_size _ rfl
  have oldD : ∀ b o, s₂.heap.get? b = some o → (s₂.heap.push { cls := .type "list", dict := none, data := .seq ([] : List Value).toArray }).get? b = some o := fun b o e => Heap.get?_push_of_some _ e
  have szD : (s₂.heap.push { cls := .type "list", dict := none, data := .seq ([] : List Value).toArray }).objs.size = D + 1 := by rw [Heap.size_push, hD]
  generalize s₂.heap.push { cls := .type "list", dict := none, data := .seq ([] : List Value).toArray } = h₂ at hns hsb eD oldD szD ⊢
  generalize hC : h₂.objs.size = C at hns hsb ⊢
  have nDC : D ≠ C := by rw [← hC, szD]; exact Nat.ne_of_lt (Nat.lt_succ_self _)
  have fD : s₂.heap.get? D = none := by rw [← hD]; exact get_size_none _
  have fC : s₂.heap.get? C = none := by
    cases q : s₂.heap.get? C with
    | none => rfl
    | some o => have := Heap.lt_size (oldD _ _ q); rw [hC] at this; exact absurd this (Nat.lt_irrefl _)
  have old : ∀ b o, s₂.heap.get? b = some o → h₃.get? b = some o := fun b o e => hsb.extBut b o (fun q => by subst q; rw [fC] at e; cases e) (Heap.get?_push_of_some _ (oldD b o e))
  have eD3 : h₃.PlainList D ([] : List Value).toArray := ⟨0, hsb.extBut D _ nDC (Heap.get?_push_of_some _ eD)⟩
  have hHD : H₁ D = none := S₂.fresh (by rw [hD]; exact Nat.le_refl _)
  have hHC : H₁ C = none := S₂.fresh (by rw [← hC, szD, hD]; exact Nat.le_succ _)
  have gD := S₂.g0_fresh fD
  have gC := S₂.g0_fresh fC
  have nI : ∀ b ∈ fp, b ≠ C ∧ b ≠ D := fun b hb => by
    obtain ⟨o, q⟩ := ok.live 0 _ h0 b hb
    exact ⟨fun z => (by subst z; rw [fC] at q; cases q), fun z => (by subst z; rw [fD] at q; cases q)⟩
  have nIC := (nI I ok.mem).1
  have nID := (nI I ok.mem).2
  have nLC : ∀ b, (b = env.locals ∨ ∃ n, env.cells.lookup n = some b) → b ≠ C ∧ b ≠ D ∧ ∃ o, s₂.heap.get? b = some o := fun b hb => by
    obtain ⟨m0, cm, ⟨o, _, _, q, _⟩, hc, _⟩ := F₂
    have : ∃ o, s₂.heap.get? b = some o := by
      rcases hb with rfl | ⟨nn, hb⟩
      · exact ⟨o, q⟩
      · obtain ⟨oc, q2, _⟩ := hc _ _ hb; exact ⟨oc, q2⟩
    obtain ⟨o, q⟩ := this
    exact ⟨fun z => (by subst z; rw [fC] at q; cases q), fun z => (by subst z; rw [fD] at q; cases q), o, q⟩
  have eLoc : (compEnvC scope cl C env).locals = C := rfl
  have E' : EnvOk cx (compEnvC scope cl C env) := ⟨k0, E.glob, E.blt, gC, fun nn c q => ⟨(E.gC nn c (c1 nn c q)).1, (nLC c (.inr ⟨nn, c1 nn c q⟩)).1⟩, fun nn q => by
    obtain ⟨k0, q3, q4⟩ := relabel_kind q
    rcases q4 with q4 | ⟨q4, _⟩
    · have := List.all_eq_true.mp k2 _ q3; simp [← q4] at this
    · subst q4
      obtain ⟨c, hc⟩ := E.cellAll nn (by have := List.all_eq_true.mp k3 _ q3; simpa using this)
      exact ⟨c, (c2 nn q3).trans hc⟩, fun n1 n2 c q1 q2 => E.cellInj n1 n2 c (c1 _ _ q1) (c1 _ _ q2)⟩
  have simE := helt (compEnvC scope cl C env) rfl E'
  have S₃ : St cx H₁ { s₂ with heap := h₃, toks := s₂.toks + ([] : List (Str × Value)).length } := S₂.grow old _
  have loop : ∀ s₃ : Shared, s₃ = { s₂ with heap := h₃, toks := s₂.toks + ([] : List (Str × Value)).length } →
      codeAny (model cx.prog cx.w) A (.compLoop (.ListComp elt [⟨.Name x px, iter, [], 0⟩] scope pos) 0 (.ref I) (.ref D) (compEnvC scope cl C env))
        (compPost (model cx.prog cx.w) A NoE none (Post cx H s.heap Q) (.ref D) C) s₃ := by
    rintro s₃ rfl
    refine codeAny_compLoop_list (fun k s' => ∃ i acc vs m H', k = xs.length + 1 - i ∧ i ≤ xs.length ∧ St cx H' s' ∧ Ext H₁ s₁.heap H' s'.heap ∧ σ i s'.heap ∧ s'.heap.PlainList D vs.toArray ∧ Reps s'.heap acc vs ∧ acc.length ≤ lim ∧
        s'.heap.Ns C m ∧ ((∀ b ∈ fp, H' b = none) ∧ H' C = none ∧ H' D = none) ∧ compC (fun x H' Q' => wpE cx n p (ρ ++ [some x]) H' Q') G (xs.drop i) acc H' fun ys H₂ => ∀ c, H₂ c = none → Q (.ref c) (H₂.set c (.list ys))) ?_ (xs.length + 1)
      ⟨0, [], [], _, H₁, rfl, Nat.zero_le _, S₃, E₂.trans (Ext.grow old), ok.frame _ _ _ h0 (fun b hb o e => old b o e) (fun a vs n e => old a _ e), eD3, .nil, Nat.zero_le _, hns, ⟨hfp, hHC, hHD⟩, hK⟩
    rintro k s' ⟨i, acc, vs, m, H', rfl, hi, S', E', hσ, hD', hacc, hlen, hns', ⟨hfp', hC0, hD0⟩, hW⟩
    have ntI := ok.noTup i _ hσ
    have low : ∀ b o, s₁.heap.get? b = some o → H₁ b = none → b ≠ I ∧ b ≠ C ∧ b ≠ D := fun b o e q => by
      obtain ⟨e2, _⟩ := E₂ b o e q
      exact ⟨fun z => (by subst z; rw [fI] at e; cases e), fun z => (by subst z; rw [fC] at e2; cases e2), fun z => (by subst z; rw [fD] at e2; cases e2)⟩
    by_cases hlt : i < xs.length
    · have ed : xs.drop i = xs[i] :: xs.drop (i + 1) := List.drop_eq_getElem_cons hlt
      rw [ed] at hW
      obtain ⟨hG, hle, hW⟩ := hW
      refine wpAny_mono (ok.item A i xs[i] s' H' _ rm.handled S' hG (by simp [hlt]) hσ fun v h₁ tk rv hτ hb => ?_) (fun _ _ q => q) (fun _ _ e => e.elim)
      have S4 := S'.but (hfp' I ok.mem) gI ntI hb tk
      have kt4 : KeepsTup s'.heap h₁ := But.tup hb ntI
      have hσ4 := ok.plain rfl _ _ _ hτ
      refine wpAny_assign_Name (wpAny_storeName_local (lookup_relabel_local k4) (hns'.at' fun o e => hb _ o nIC.symm e) (fun h₅ hns5 hs5 => ?_) (by simp [compEnvC, relabel, k0]))
      replace hs5 : Heap.SameBut C h₁ h₅ := hs5
      have nt5 : ∀ vs n, h₁.get? C ≠ some (tupObj vs n) := fun vs n e => by
        obtain ⟨o, es, ep, q, d, _⟩ := hns'.at' (h' := h₁) fun o e => hb _ o nIC.symm e
        rw [q] at e; cases e; simp at d
      have S5 : St cx H' { s' with heap := h₅, toks := tk + 1 } := S4.own hC0 gC hs5 nt5 _
      have kt5 : KeepsTup h₁ h₅ := But.tup hs5.extBut nt5
      have hσ5 := ok.frame _ _ _ hσ4 (fun b hb o e => hs5.extBut b o (nI b hb).1 e) kt5
      have E5 : Ext H₁ s₁.heap H' h₅ := fun b o e q => by
        obtain ⟨l1, l2, l3⟩ := low b o e q
        obtain ⟨e2, q2⟩ := E' b o e q
        exact ⟨hs5.extBut b o l2 (hb b o l1 e2), q2⟩
      have hD5 : h₅.PlainList D vs.toArray := hD'.at fun o e => hs5.extBut D o nDC (hb D o nID.symm e)
      have F5 : FRel (compEnvC scope cl C env) (hideN nms x ++ [x]) (ρ ++ [some xs[i]]) H' h₅ :=
        (F₁.ext (s' := { s' with heap := h₅, toks := tk + 1 }) S₁ E5).inner hl rfl rfl rfl c1 c2 k1 k9 k2 k3 k4 nd hns5 (by simp) hC0 (rv.mono kt5)
      refine wpAny_mono (simE A _ _ H' _ rm S5 (by simp [hl, hideN_length]) F5 hW) (fun y s₆ h₆ => ?_) (fun _ _ e => e.elim)
      obtain ⟨yv, H6, S6, E6, r6, hW6⟩ := h₆
      obtain ⟨nD6, eD6⟩ := hD5
      have eD6' := E6 D _ eD6 hD0
      have hns6 : s₆.heap.Ns C _ := hns5.at' fun o e => (E6 C o e hC0).1
      have hC6 : H6 C = none := by obtain ⟨o, _, _, q, _⟩ := hns5; exact (E6 C o q hC0).2
      have hfp6 : ∀ b ∈ fp, H6 b = none := fun b hb => by
        obtain ⟨o, q⟩ := ok.live _ _ hσ5 b hb
        exact (E6 b o q (hfp' b hb)).2
      have hσ6 := ok.frame _ _ _ hσ5 (fun b hb o e => (E6 b o e (hfp' b hb)).1) (S5.tupKeep E6)
      have hvl : vs.length = acc.length := hacc.length
      have hszz : vs.toArray.size ≤ sizeLine := by rw [List.size_toArray, sizeLine_eq]; unfold lim at hle; omega
      refine wpAny_list_append_plain (hsz := hszz) ⟨nD6, eD6'.1⟩ fun h₇ hl7 hs7 => ?_
      have nt7 : ∀ vs n, s₆.heap.get? D ≠ some (tupObj vs n) := fun vs n e => by rw [eD6'.1] at e; simp at e
      have kt7 : KeepsTup s₆.heap h₇ := But.tup hs7.extBut nt7
      have S7 : St cx H6 { s₆ with heap := h₇ } := S6.own eD6'.2 gD hs7 nt7 s₆.toks
      refine ⟨xs.length + 1 - (i + 1), by omega, i + 1, acc ++ [yv], vs ++ [y], _, H6, rfl, hlt, S7, fun b o e q => ?_, ok.frame _ _ _ hσ6 (fun b hb o e => hs7.extBut b o (nI b hb).2 e) kt7, by simpa using hl7,
        ((((hacc.mono kt4).mono kt5).ext S5 E6).mono kt7).append (.cons (r6.mono kt7) .nil), by simpa using hle, hns6.sameBut hs7 nDC.symm, ⟨hfp6, hC6, eD6'.2⟩, hW6⟩
      obtain ⟨l1, l2, l3⟩ := low b o e q
      obtain ⟨e2, q2⟩ := E5 b o e q
      obtain ⟨e3, q3⟩ := E6 b o e2 q2
      exact ⟨hs7.extBut b o l3 e3, q3⟩
    · have hin : i = xs.length := Nat.le_antisymm hi (Nat.not_lt.mp hlt)
      subst hin
      rw [List.drop_length] at hW
      obtain ⟨hG, hQ⟩ := hW
      refine wpAny_mono (ok.done A s' H' _ rm.handled S' hG hσ fun h₁ tk hb => ?_) (fun _ _ q => q) (fun _ _ e => e.elim)
      have S4 := S'.but (hfp' I ok.mem) gI ntI hb tk
      have kt4 : KeepsTup s'.heap h₁ := But.tup hb ntI
      have hns4 : h₁.Ns C m := hns'.at' fun o e => hb _ o nIC.symm e
      refine ⟨m, hns4, fun h₅ hs5 => ?_⟩
      replace hs5 : Heap.SameBut C h₁ h₅ := hs5
      have nt5 : ∀ vs n, h₁.get? C ≠ some (tupObj vs n) := fun vs n e => by
        obtain ⟨o, es, ep, q, d, _⟩ := hns4
        rw [q] at e; cases e; simp at d
      have kt5 : KeepsTup h₁ h₅ := But.tup hs5.extBut nt5
      have S5 : St cx H' { s' with heap := h₅, toks := tk } := S4.own hC0 gC hs5 nt5 _
      obtain ⟨nD', eD'⟩ := hD'
      have eD5 : h₅.get? D = some (lstObj vs nD') := hs5.extBut D _ nDC (hb D _ nID.symm eD')
      have S6 : St cx (H'.set D (.list acc)) { s' with heap := h₅, toks := tk } := S5.adopt hD0 gD ⟨vs, nD', eD5, ((hacc.mono kt4).mono kt5), hlen⟩
      refine ⟨.ref D, _, S6, ?_, .ref D, hQ D hD0⟩
      have E5 : Ext H₁ s₁.heap H' h₅ := fun b o e q => by
        obtain ⟨l1, l2, l3⟩ := low b o e q
        obtain ⟨e2, q2⟩ := E' b o e q
        exact ⟨hs5.extBut b o l2 (hb b o l1 e2), q2⟩
      intro b o e q
      obtain ⟨e1, q1⟩ := E₁ b o e q
      obtain ⟨l1, l2, l3⟩ := low b o e1 q1
      obtain ⟨e2, q2⟩ := E5 b o e1 q1
      exact ⟨e2, by rw [AH.set_ne _ _ l3]; exact q2⟩
  have h := loop _ rfl
  exact codeAny_compStart_list h (wpAny_mono (ok.self rfl A 0 _ (fun it s' => it = .ref I ∧ s' = { s₂ with heap := h₃, toks := s₂.toks + ([] : List (Str × Value)).length }) (ok.frame _ _ _ h0 (fun b hb o e => old b o e) (fun a vs n e => old a _ e)) ⟨rfl, rfl⟩)
    (fun it s' ⟨q1, q2⟩ => by subst q1 q2; exact h) (fun _ _ e => e.elim))
end
end Mine

namespace Mine

section
variable {cx : Cx} {n : Nat} {env : Env} {nms : List Str}

theorem simB_of {e : Expr} {p : PE} (h : SimE cx n env nms e p) (hb : ∀ whole, isTrue e env whole = (do let v ← whole; standAt e.pos; holding [v] (truthy v))) : SimB cx n env nms e p := by
  intro A s ρ H R W rm S hl F w g k
  refine isTrue_plain (wpAny_mono (h A s ρ H _ rm S hl F w) (fun v s₁ ⟨x, H₁, S₁, E₁, r, q⟩ => ?_) fun _ _ e => e) (hb _)
  exact truW_sound S₁ r (truW_self (g x H₁ q)) fun b t hp => k b x { s₁ with toks := t } H₁ (S₁.toks t) E₁ q hp

theorem sim_c {k : Const} {a b} {v : V} (hc : constIs v k = true) : SimE cx n env nms (.Constant k a b) (.c v) := by
  intro A s ρ H Q rm S hl F w
  unfold constIs at hc
  split at hc
  · exact wpAny_Constant_none (Post.toks (t := s.toks) S .none w)
  · simp at hc; subst hc; exact wpAny_Constant_bool (Post.toks (t := s.toks) S (.bool _) w)
  · simp at hc; subst hc; exact wpAny_Constant_int (Post.toks S (.int _ _) w)
  · simp only [Bool.and_eq_true, beq_iff_eq] at hc
    obtain ⟨h1, h2⟩ := hc
    subst h2
    refine wpAny_Constant_str (Post.toks S ?_ w)
    have := Rep.str (h := s.heap) _ s.toks h1
    rwa [mkS_cps] at this
  · cases hc

theorem sim_x {i : Nat} {id : Str} {pos : Pos} (E : EnvOk cx env) (h1 : nms[i]? = some id) (h2 : isLoc env.scope id = true) : SimE cx n env nms (.Name id pos) (.x i) := by
  intro A s ρ H Q rm S hl F w
  obtain ⟨v, e, q⟩ := w
  exact local_load E S F e h1 h2 q

theorem sim_g {i : Nat} {id : Str} {pos : Pos} (ok : CxOk cx) (E : EnvOk cx env) (h1 : cx.gn[i]? = some id) (h2 : isGlob env.scope id = true) : SimE cx n env nms (.Name id pos) (.g i) := by
  intro A s ρ H Q rm S hl F w
  obtain ⟨v, g, r⟩ := ok.glob i id h1
  refine g.load E S h2 (Post.toks (t := s.toks) S (r.mono fun a vs m e => (S.keep _ _ e).1) w)

theorem sim_bin {op : Operator} {l r : Expr} {a b : PE} {pos : Pos} (ha : SimE cx n env nms l a) (hb : SimE cx n env nms r b) : SimE cx n env nms (.BinOp l op r pos) (.bin op a b) := by
  intro A s ρ H Q rm S hl F w
  refine wpAny_BinOp (wpAny_mono (ha A s ρ H _ rm S hl F w) (fun v s₁ ⟨x, H₁, S₁, E₁, r₁, w₁⟩ => wpAny_mono (hb A s₁ ρ H₁ _ rm S₁ hl (F.ext S E₁) w₁) (fun v₂ s₂ ⟨y, H₂, S₂, E₂, r₂, w₂⟩ => ?_) fun _ _ e => e) fun _ _ e => e)
  exact post_ext (E₁.trans E₂) (binW_sound S₂ (r₁.ext S₁ E₂) r₂ w₂)

theorem sim_neg {e : Expr} {a : PE} {pos : Pos} (ha : SimE cx n env nms e a) : SimE cx n env nms (.UnaryOp .USub e pos) (.neg a) := by
  intro A s ρ H Q rm S hl F w
  refine wpAny_UnaryOp (wpAny_mono (ha A s ρ H _ rm S hl F w) (fun v s₁ ⟨x, H₁, S₁, E₁, r₁, w₁⟩ => ?_) fun _ _ e => e)
  obtain ⟨i, rfl, q⟩ := w₁
  exact post_ext E₁ (neg_sound S₁ r₁ q)

theorem sim_not {e : Expr} {a : PE} {pos : Pos} (ha : SimE cx n env nms e a) : SimE cx n env nms (.UnaryOp .Not e pos) (.not a) := by
  intro A s ρ H Q rm S hl F w
  refine wpAny_UnaryOp (wpAny_mono (ha A s ρ H _ rm S hl F w) (fun v s₁ ⟨x, H₁, S₁, E₁, r₁, w₁⟩ => ?_) fun _ _ e => e)
  exact PyProof.Rows.not_of (truW_sound S₁ r₁ w₁ fun b t hp => ⟨_, H₁, S₁.toks t, E₁, .bool _, hp⟩)
theorem simB_not {e : Expr} {a : PE} {pos : Pos} (ha : SimB cx n env nms e a) : SimB cx n env nms (.UnaryOp .Not e pos) (.not a) := by
  intro A s ρ H R W rm S hl F w g k
  refine isTrue_not (ha A s ρ H _ _ rm S hl F w (fun x H₁ h => truW_true h) fun t x s₁ H₁ S₁ E₁ h ht => ?_)
  exact k (!t) (.bool (!t)) s₁ H₁ S₁ E₁ (truW_at h ht) rfl

theorem sim_ite {t b o : Expr} {a c d : PE} {pos : Pos} (ha : SimB cx n env nms t a) (hc : SimE cx n env nms b c) (hd : SimE cx n env nms o d) : SimE cx n env nms (.IfExp t b o pos) (.ite a c d) := by
  intro A s ρ H Q rm S hl F w
  refine wpAny_IfExp (ha A s ρ H _ _ rm S hl F w (fun x H₁ h => truW_true h) fun t x s₁ H₁ S₁ E₁ h ht => ?_)
  have p := truW_at h ht
  cases t
  · simp only [Bool.false_eq_true, if_false] at p ⊢
    exact post_ext E₁ (hd A s₁ ρ H₁ _ rm S₁ hl (F.ext S E₁) p)
  · simp only [if_true] at p ⊢
    exact post_ext E₁ (hc A s₁ ρ H₁ _ rm S₁ hl (F.ext S E₁) p)
theorem simB_ite {t b o : Expr} {a c d : PE} {pos : Pos} (ha : SimB cx n env nms t a) (hc : SimB cx n env nms b c) (hd : SimB cx n env nms o d) : SimB cx n env nms (.IfExp t b o pos) (.ite a c d) := by
  intro A s ρ H R W rm S hl F w g k
  refine isTrue_IfExp (ha A s ρ H _ _ rm S hl F w (fun x H₁ h => truW_true h) fun t x s₁ H₁ S₁ E₁ h ht => ?_)
  have p := truW_at h ht
  cases t
  · simp only [Bool.false_eq_true, if_false] at p ⊢
    exact hd A s₁ ρ H₁ _ _ rm S₁ hl (F.ext S E₁) p g fun t x s₂ H₂ S₂ E₂ q => k t x s₂ H₂ S₂ (E₁.trans E₂) q
  · simp only [if_true] at p ⊢
    exact hc A s₁ ρ H₁ _ _ rm S₁ hl (F.ext S E₁) p g fun t x s₂ H₂ S₂ E₂ q => k t x s₂ H₂ S₂ (E₁.trans E₂) q

theorem sim_cmp {op : CmpOp} {l r : Expr} {a b : PE} {pos : Pos} (ok : CxOk cx) (hm : behindInMarks op r = false) (ha : SimE cx n env nms l a) (hb : SimE cx n env nms r b) : SimE cx n env nms (.Compare l [op] [r] pos) (.cmp op a b) := by
  intro A s ρ H Q rm S hl F w
  refine wpAny_Compare1 (hm := hm) (wpAny_mono (ha A s ρ H _ rm S hl F w) (fun v s₁ ⟨x, H₁, S₁, E₁, r₁, w₁⟩ => wpAny_mono (hb A s₁ ρ H₁ _ rm S₁ hl (F.ext S E₁) w₁) (fun v₂ s₂ ⟨y, H₂, S₂, E₂, r₂, w₂⟩ => ?_) fun _ _ e => e) fun _ _ e => e)
  exact cmpW_sound ok (by have := rm.units; omega) S₂ (r₁.ext S₁ E₂) r₂ w₂ fun t tk p => ⟨_, H₂, S₂.toks tk, E₁.trans E₂, .bool _, p⟩
theorem simB_cmp {op : CmpOp} {l r : Expr} {a b : PE} {pos : Pos} (ok : CxOk cx) (hm : behindInMarks op r = false) (ha : SimE cx n env nms l a) (hb : SimE cx n env nms r b) : SimB cx n env nms (.Compare l [op] [r] pos) (.cmp op a b) := by
  intro A s ρ H R W rm S hl F w g k
  refine wpAny_isTrue_Compare1 (hm := hm) (wpAny_mono (ha A s ρ H _ rm S hl F w) (fun v s₁ ⟨x, H₁, S₁, E₁, r₁, w₁⟩ => wpAny_mono (hb A s₁ ρ H₁ _ rm S₁ hl (F.ext S E₁) w₁) (fun v₂ s₂ ⟨y, H₂, S₂, E₂, r₂, w₂⟩ => ?_) fun _ _ e => e) fun _ _ e => e)
  exact cmpW_sound ok (by have := rm.units; omega) S₂ (r₁.ext S₁ E₂) r₂ w₂ fun t tk p => truW_sound (v := .bool t) (p := (· = t)) (S₂.toks tk) (.bool t) rfl fun b t' q => k b _ _ H₂ (S₂.toks t') (E₁.trans E₂) p q.symm

theorem lastMarks2 {o1 o2 : CmpOp} {a b : Expr} : lastMarks [o1, o2] [a, b] = behindInMarks o2 b := rfl

theorem sim_cmp2 {o1 o2 : CmpOp} {l r1 r2 : Expr} {a b c : PE} {pos : Pos} (ok : CxOk cx) (hm : behindInMarks o2 r2 = false) (ha : SimE cx n env nms l a) (hb : SimE cx n env nms r1 b) (hc : SimE cx n env nms r2 c) : SimE cx n env nms (.Compare l [o1, o2] [r1, r2] pos) (.cmp2 o1 o2 a b c) := by
  intro A s ρ H Q rm S hl F w
  have hu : A.units + 100 < cLine := by have := rm.units; omega
  refine Compare_chain (hm := hm) (wpAny_mono (ha A s ρ H _ rm S hl F w) (fun v s₁ ⟨x, H₁, S₁, E₁, r₁, w₁⟩ => chain_link (wpAny_mono (hb A s₁ ρ H₁ _ rm S₁ hl (F.ext S E₁) w₁) (fun v₂ s₂ ⟨y, H₂, S₂, E₂, r₂, w₂⟩ => ?_) fun _ _ e => e)) fun _ _ e => e)
  refine cmpW_sound ok hu S₂ (r₁.ext S₁ E₂) r₂ w₂ fun t tk p => truW_sound (v := .bool t) (p := fun b => b = t) (S₂.toks tk) (.bool t) rfl fun b t' q => ?_
  subst q
  have E12 := E₁.trans E₂
  cases b
  · simp only [Bool.false_eq_true, if_false] at p ⊢
    exact ⟨_, H₂, S₂.toks t', E12, .bool _, p⟩
  · simp only [if_true] at p ⊢
    refine chain_last (wpAny_mono (hc A { s₂ with toks := t' } ρ H₂ _ rm (S₂.toks t') hl (F.ext S E12) p) (fun v₃ s₃ ⟨z, H₃, S₃, E₃, r₃, w₃⟩ => ?_) fun _ _ e => e)
    exact cmpW_sound ok hu S₃ (Rep.ext (s := { s₂ with toks := t' }) r₂ (S₂.toks t') E₃) r₃ w₃ fun t tk p => ⟨_, H₃, S₃.toks tk, E12.trans E₃, .bool _, p⟩
theorem simB_cmp2 {o1 o2 : CmpOp} {l r1 r2 : Expr} {a b c : PE} {pos : Pos} (ok : CxOk cx) (hm : behindInMarks o2 r2 = false) (ha : SimE cx n env nms l a) (hb : SimE cx n env nms r1 b) (hc : SimE cx n env nms r2 c) : SimB cx n env nms (.Compare l [o1, o2] [r1, r2] pos) (.cmp2 o1 o2 a b c) := by
  intro A s ρ H R W rm S hl F w g k
  have hu : A.units + 100 < cLine := by have := rm.units; omega
  refine isTrue_chain (hm := hm) (wpAny_mono (ha A s ρ H _ rm S hl F w) (fun v s₁ ⟨x, H₁, S₁, E₁, r₁, w₁⟩ => test_link (wpAny_mono (hb A s₁ ρ H₁ _ rm S₁ hl (F.ext S E₁) w₁) (fun v₂ s₂ ⟨y, H₂, S₂, E₂, r₂, w₂⟩ => ?_) fun _ _ e => e)) fun _ _ e => e)
  refine cmpW_sound ok hu S₂ (r₁.ext S₁ E₂) r₂ w₂ fun t tk p => truW_sound (v := .bool t) (p := fun b => b = t) (S₂.toks tk) (.bool t) rfl fun b t' q => ?_
  subst q
  have E12 := E₁.trans E₂
  cases b
  · simp only [Bool.false_eq_true, if_false] at p ⊢
    exact k _ _ _ H₂ (S₂.toks t') E12 p rfl
  · simp only [if_true] at p ⊢
    refine test_last (wpAny_mono (hc A { s₂ with toks := t' } ρ H₂ _ rm (S₂.toks t') hl (F.ext S E12) p) (fun v₃ s₃ ⟨z, H₃, S₃, E₃, r₃, w₃⟩ => ?_) fun _ _ e => e)
    exact cmpW_sound ok hu S₃ (Rep.ext (s := { s₂ with toks := t' }) r₂ (S₂.toks t') E₃) r₃ w₃ fun t tk p => truW_sound (v := .bool t) (p := (· = t)) (S₃.toks tk) (.bool t) rfl fun b t' q => k b _ _ H₃ (S₃.toks t') (E12.trans E₃) p q.symm

theorem sim_bop {isAnd : Bool} {op : BoolOp} {pos : Pos} (ho : isAnd = decide (op = .And)) {l : List Expr} {ps : PEs} (h : SimEs cx n env nms l ps) : SimE cx n env nms (.BoolOp op l pos) (.bop isAnd ps) := by
  intro A s ρ H Q rm S hl F w
  rw [arm_eval_BoolOp]
  replace w : wpBop cx n isAnd ps ρ H _ := w
  induction h generalizing s H with
  | nil => exact False.elim w
  | @cons e p es ps hs he hb hes ih =>
    cases hes with
    | nil => exact he A s ρ H _ rm S hl F w
    | @cons e2 p2 es2 ps2 a1 a2 a3 a4 =>
      refine wpAny_bind (wpAny_mono (he A s ρ H _ rm S hl F w) (fun v s₁ ⟨x, H₁, S₁, E₁, r₁, w₁⟩ => wpAny_bind (wpAny_standAt (wpAny_bind (wpAny_holding (truW_sound S₁ r₁ w₁ fun b t hp => ?_))))) fun _ _ e => e)
      have stop : Q x H₁ → wpAny (model cx.prog cx.w) A (pure v : Sem Value) (Post cx H s.heap Q) NoE { s₁ with toks := t } := fun q => wpAny_pure ⟨x, H₁, S₁.toks t, E₁, r₁, q⟩
      have go : wpBop cx n isAnd (.cons p2 ps2) ρ H₁ Q → wpAny (model cx.prog cx.w) A (boolOp pos op (evalEach (e2 :: es2) env)) (Post cx H s.heap Q) NoE { s₁ with toks := t } := fun q => post_ext E₁ (ih _ _ (S₁.toks t) (F.ext S E₁) q)
      subst ho
      cases op <;> cases b <;> simp at hp ⊢ <;> first | exact stop hp | exact go hp
theorem simB_bop {isAnd : Bool} {op : BoolOp} {pos : Pos} (ho : isAnd = decide (op = .And)) {l : List Expr} {ps : PEs} (h : SimEs cx n env nms l ps) : SimB cx n env nms (.BoolOp op l pos) (.bop isAnd ps) := by
  intro A s ρ H R W rm S hl F w g k
  show wpAny _ A (allTrue op l env) R NoE s
  replace w : wpBop cx n isAnd ps ρ H _ := w
  induction h generalizing s H with
  | nil => exact False.elim w
  | @cons e p es ps hs he hb hes ih =>
    cases hes with
    | nil =>
      refine wpAny_bind (hb A s ρ H _ _ rm S hl F w g fun t x s₁ H₁ S₁ E₁ h ht => ?_)
      have hk := k t x s₁ H₁ S₁ E₁ h ht
      have : (match op, t with | .And, false => (pure false : Sem Bool) | .Or, true => pure true | _, _ => allTrue op [] env) = pure t := by
        cases op <;> cases t <;> rfl
      exact wpAny_of_eq this hk
    | cons a1 a2 a3 a4 =>
      refine wpAny_bind (hb A s ρ H _ _ rm S hl F w (fun x H₁ h => truW_true h) fun t x s₁ H₁ S₁ E₁ h ht => ?_)
      have p := truW_at h ht
      have hx := truW_true h
      clear h
      by_cases q : t = isAnd
      · rw [if_pos q] at p
        have hk := ih _ _ S₁ (F.ext S E₁) (fun t x s₂ H₂ S₂ E₂ q => k t x s₂ H₂ S₂ (E₁.trans E₂) q) p
        subst ho
        cases op <;> cases t <;> simp at q <;> exact hk
      · rw [if_neg q] at p
        have hk := k t x s₁ H₁ S₁ E₁ p ht
        subst ho
        cases op <;> cases t <;> simp at q <;> exact wpAny_pure hk
end
end Mine

namespace Mine

section
variable {cx : Cx} {n : Nat} {env : Env} {nms : List Str}

theorem sim_attr {o : Expr} {nm : Str} {pos : Pos} {a : PE} {k : Nat} (ok : CxOk cx) (hn : cx.an[k]? = some nm) (hc : notCall o = true) (ha : SimE cx n env nms o a) : SimE cx n env nms (.Attribute o nm pos) (.attr a k) := by
  intro A s ρ H Q rm S hl F w
  rw [arm_eval_Attribute, base_plain hc]
  refine wpAny_bind (wpAny_mono (ha A s ρ H _ rm S hl F w) (fun v s₁ ⟨x, H₁, S₁, E₁, r₁, w₁⟩ => wpAny_bind (wpAny_standAt (wpAny_bind (wpAny_holding (wpAny_mono (attr_get ok ok.an_nd S₁ r₁ hn w₁) (fun r s₂ p => ?_) fun _ _ e => e))))) fun _ _ e => e)
  exact wpAny_bind (wpAny_letTemporaryGo (wpAny_pure (p.ext E₁)))

theorem subW_type {o i : V} {H : AH} {Q : V → AH → Prop} {vo : Value} {s : Shared} (S : St cx H s) (h : subW o i H Q) (ro : Rep s.heap o vo) : ∃ T id, s.TypeIs vo T ∧ typeLookup (.type T) "__getitem__" = pure (some (.builtin id)) := by
  unfold subW at h
  split at h
  · cases ro with | tup e r => exact ⟨"tuple", _, ⟨_, e, rfl⟩, PyProof.Rows.slot_tuple_getitem.lookup⟩
  · cases ro with | str _ t ok => exact ⟨"str", _, typeIs_str _ _ _, PySem.F.slot_str_getitem.lookup⟩
  · cases ro
    rcases h with ⟨xs, i, j, x, rfl, e, _⟩ | ⟨es, x, e, _⟩
    · obtain ⟨vs, m, e1, _⟩ := S.objs _ _ e
      exact ⟨"list", _, ⟨_, e1, rfl⟩, PySem.F.slot_list_getitem.lookup⟩
    · obtain ⟨vs, m, e1, _⟩ := S.objs _ _ e
      exact ⟨"dict", _, ⟨_, e1, rfl⟩, PySem.F.slot_dict_getitem.lookup⟩
  · exact h.elim

theorem sim_sub {o i : Expr} {pos : Pos} {a b : PE} (ok : CxOk cx) (hs : notSlice i = true) (ha : SimE cx n env nms o a) (hb : SimE cx n env nms i b) : SimE cx n env nms (.Subscript o i pos) (.sub a b) := by
  intro A s ρ H Q rm S hl F w
  refine Subscript_ (wpAny_mono (ha A s ρ H _ rm S hl F w) (fun v s₁ ⟨x, H₁, S₁, E₁, r₁, w₁⟩ => wpAny_mono (hb A s₁ ρ H₁ _ rm S₁ hl (F.ext S E₁) w₁) (fun v₂ s₂ ⟨y, H₂, S₂, E₂, r₂, w₂⟩ => ?_) fun _ _ e => e) fun _ _ e => e)
  obtain ⟨T, id, hT, hlk⟩ := subW_type S₂ w₂ (r₁.ext S₁ E₂)
  refine tail_any hT hlk (post_ext (E₁.trans E₂) (subW_sound ok S₂ (r₁.ext S₁ E₂) r₂ w₂)) (ops := [v, v₂]) ?_
  cases i <;> first | rfl | cases hs

noncomputable def SimPart (cx : Cx) (n : Nat) (env : Env) (nms : List Str) : Option Expr → PE → Prop
  | some e, p => SimE cx n env nms e p
  | none, p => p = .c .none
theorem sim_part {l : Option Expr} {p : PE} {A : Around} {s : Shared} {ρ : Rho} {H : AH} {Q : V → AH → Prop} (hl : SimPart cx n env nms l p) (rm : Room n A) (S : St cx H s) (hln : ρ.length = nms.length) (F : FRel env nms ρ H s.heap) (w : wpE cx n p ρ H Q) :
    wpAny (model cx.prog cx.w) A (evalPart l env) (Post cx H s.heap Q) NoE s := by
  cases l with
  | none => unfold SimPart at hl; subst hl; exact wpAny_pure (Post.toks (t := s.toks) S .none w)
  | some e => exact hl A s ρ H Q rm S hln F w

theorem sliceW_type {o lo hi : V} {H : AH} {Q : V → AH → Prop} {vo : Value} {s : Shared} (S : St cx H s) (h : sliceW o lo hi cx H Q) (ro : Rep s.heap o vo) : ∃ T id, s.TypeIs vo T ∧ typeLookup (.type T) "__getitem__" = pure (some (.builtin id)) := by
  obtain ⟨a, b, h1, h2, h⟩ := h
  split at h
  · cases ro with | str _ t ok => exact ⟨"str", _, typeIs_str _ _ _, PySem.F.slot_str_getitem.lookup⟩
  · cases ro
    obtain ⟨xs, h3, _⟩ := h
    rcases h3 with e | ⟨vs, ⟨o, e, hc, _⟩, _⟩
    · obtain ⟨vs, m, e1, _⟩ := S.objs _ _ e
      exact ⟨"list", _, ⟨_, e1, rfl⟩, PySem.F.slot_list_getitem.lookup⟩
    · exact ⟨"list", _, ⟨o, (S.keep _ _ e).1, hc⟩, PySem.F.slot_list_getitem.lookup⟩
  · exact h.elim

theorem sim_slice {o : Expr} {l u : Option Expr} {p pos : Pos} {a lo hi : PE} (ok : CxOk cx) (ha : SimE cx n env nms o a) (h1 : SimPart cx n env nms l lo) (h2 : SimPart cx n env nms u hi) :
    SimE cx n env nms (.Subscript o (.Slice l u none p) pos) (.slice a lo hi) := by
  intro A s ρ H Q rm S hl F w
  refine Subscript_ (wpAny_mono (ha A s ρ H _ rm S hl F w) (fun v s₁ ⟨x, H₁, S₁, E₁, r₁, w₁⟩ => ?_) fun _ _ e => e)
  refine wpAny_Slice (wpAny_mono (sim_part h1 rm S₁ hl (F.ext S E₁) w₁) (fun v₂ s₂ ⟨y, H₂, S₂, E₂, r₂, w₂⟩ => wpAny_mono (sim_part h2 rm S₂ hl (F.ext S (E₁.trans E₂)) w₂) (fun v₃ s₃ ⟨z, H₃, S₃, E₃, r₃, w₃⟩ => wpAny_pure ?_) fun _ _ e => e) fun _ _ e => e)
  have S4 := S₃.push { cls := .type "slice", data := .fields #[v₂, v₃, .none] } s₃.toks
  have E4 := Ext.push H₃ s₃.heap { cls := .type "slice", data := .fields #[v₂, v₃, .none] }
  have r1 := ((r₁.ext S₁ E₂).ext S₂ E₃).ext (s' := { s₃ with heap := s₃.heap.push { cls := .type "slice", data := .fields #[v₂, v₃, .none] } }) S₃ E4
  have r2 := (r₂.ext S₂ E₃).ext (s' := { s₃ with heap := s₃.heap.push { cls := .type "slice", data := .fields #[v₂, v₃, .none] } }) S₃ E4
  have r3 := r₃.ext (s' := { s₃ with heap := s₃.heap.push { cls := .type "slice", data := .fields #[v₂, v₃, .none] } }) S₃ E4
  obtain ⟨T, id, hT, hlk⟩ := sliceW_type S4 w₃ r1
  exact tail_any hT hlk (post_ext (((E₁.trans E₂).trans E₃).trans E4) (sliceW_sound ok S4 r1 r2 r3 (Heap.get?_push_size _ rfl) w₃)) (ops := [_, v]) rfl

theorem sim_bi {b : BI} {id : Str} {np pos : Pos} {l : List Expr} {ps : PEs} (ok : CxOk cx) (E : EnvOk cx env) (hid : id = biName b) (hg : isGlob env.scope id = true) (hs : SimEs cx n env nms l ps) : SimE cx n env nms (.Call (.Name id np) l [] pos) (.bi b ps) := by
  intro A s ρ H Q rm S hl F w
  refine wpAny_Call_NameR ((hid ▸ ok.bi b).load E S (hid ▸ hg) ?_)
  rw [star_plain hs]
  refine callWith_val (fun a => by cases b <;> simp [biVal]) hs rm S hl F w fun vs xs s₁ H₁ S₁ E₁ rs q => ?_
  exact post_ext E₁ (biW_sound ok (by have := rm.units; omega) rm.handled S₁ rs q)

set_option maxHeartbeats 2000000 in
theorem getMethod_bm {m : BM} {x : V} {v : Value} {H : AH} {s : Shared} {A : Around} {pl : Sem Bool} {Q : Value × List Value → Shared → Prop} (S : St cx H s) (r : Rep s.heap x v) (hk : bmK m x H) (q : Q (.builtin (bmId m), [v]) s) :
    wpAny (model cx.prog cx.w) A (getMethod v (bmName m) pl) Q NoE s := by
  have lst : ∀ {a xs}, H a = some (.list xs) → ∃ vs n, s.heap.get? a = some (lstObj vs n) := fun e => by obtain ⟨vs, n, e1, _⟩ := S.objs _ _ e; exact ⟨vs, n, e1⟩
  have dct : ∀ {a es}, H a = some (.dict es) → ∃ ds n, s.heap.get? a = some (dctObj ds n) := fun e => by obtain ⟨vs, n, e1, _⟩ := S.objs _ _ e; exact ⟨vs, n, e1⟩
  cases m <;> dsimp only [bmName, bmId] at q ⊢
  · obtain ⟨a, xs, rfl, e⟩ := hk
    obtain ⟨vs, n, e1⟩ := lst e
    cases r
    exact getMethod_builtin ⟨_, e1, rfl⟩ PySem.F.plainAttrs_list PySem.F.slot_list_append PySem.F.type_list_append (fun a h => by cases h; exact ⟨_, e1, rfl⟩) q
  · obtain ⟨a, xs, rfl, e⟩ := hk
    obtain ⟨vs, n, e1⟩ := lst e
    cases r
    exact getMethod_builtin ⟨_, e1, rfl⟩ PySem.F.plainAttrs_list PySem.F.slot_list_pop PySem.F.type_list_pop (fun a h => by cases h; exact ⟨_, e1, rfl⟩) q
  · obtain ⟨a, xs, rfl, e⟩ := hk
    obtain ⟨vs, n, e1⟩ := lst e
    cases r
    exact getMethod_builtin ⟨_, e1, rfl⟩ PySem.F.plainAttrs_list PySem.F.slot_list_reverse PySem.F.type_list_reverse (fun a h => by cases h; exact ⟨_, e1, rfl⟩) q
  · obtain ⟨a, xs, rfl, e⟩ := hk
    obtain ⟨vs, n, e1⟩ := dct e
    cases r
    exact getMethod_builtin ⟨_, e1, rfl⟩ PySem.F.plainAttrs_dict PySem.F.slot_dict_get PySem.F.type_dict_get (fun a h => by cases h; exact ⟨_, e1, rfl⟩) q
  all_goals
    obtain ⟨l, rfl⟩ := hk
    cases r
  · exact getMethod_builtin (typeIs_str _ _ _) PySem.F.plainAttrs_str PySem.F.slot_str_join PySem.F.type_str_join (fun a h => by cases h) q
theorem sim_bm {m : BM} {o : Expr} {nm : Str} {ap pos : Pos} {l : List Expr} {a : PE} {ps : PEs} (ok : CxOk cx) (hnm : nm = bmName m) (hc : notCall o = true) (hline : (ap.endLine == pos.line) = true) (hlen : l.length < 30) (ha : SimE cx n env nms o a) (hs : SimEs cx n env nms l ps) :
    SimE cx n env nms (.Call (.Attribute o nm ap) l [] pos) (.bm m a ps) := by
  intro A s ρ H Q rm S hl F w
  refine methCall_sound hs hc hline hlen (wpAny_mono (ha A s ρ H _ rm S hl F w) (fun ov s₁ ⟨x, H₁, S₁, E₁, r₁, hk, w₁⟩ pl => ?_) fun _ _ e => e)
  subst hnm
  refine getMethod_bm S₁ r₁ hk (callWith_val (first := [ov]) (fun a => by cases m <;> simp [bmId]) hs rm S₁ hl (F.ext S E₁) w₁ fun vs xs s₂ H₂ S₂ E₂ rs q => ?_)
  exact post_ext (E₁.trans E₂) (bmW_sound ok (by have := rm.units; omega) S₂ (r₁.ext S₁ E₂) rs q)

theorem callOk_run {f : Addr} {args : List V} {vs : List Value} {A : Around} {s : Shared} {H : AH} {Q : V → AH → Prop} (rm : Room n A) (S : St cx H s) (r : Reps s.heap args vs) (h : CallOk cx n f args H Q) :
    wpAny (model cx.prog cx.w) A (call (.ref f) vs) (Post cx H s.heap Q) NoE s :=
  wpAny_call (codeAny_mono (h.2 A s vs rm S r) fun r s' ⟨v, e, p⟩ => by subst e; exact p)

theorem sim_call {f : Nat} {id : Str} {np pos : Pos} {l : List Expr} {ps : PEs} (ok : CxOk cx) (E : EnvOk cx env) (hid : cx.gn[f]? = some id) (hg : isGlob env.scope id = true) (hr : (∃ a, cx.gl f = .ref a)) (hs : SimEs cx n env nms l ps) : SimE cx n env nms (.Call (.Name id np) l [] pos) (.call f ps) := by
  intro A s ρ H Q rm S hl F w
  obtain ⟨a, ha⟩ := hr
  replace w : wpEs cx n ps ρ H (fun vs H₁ => callW cx n (cx.gl f) vs H₁ Q) := w
  rw [ha] at w
  obtain ⟨v, g, rv⟩ := ok.glob f id hid
  rw [ha] at rv
  cases rv
  refine wpAny_Call_NameR (g.load E S hg ?_)
  rw [star_plain hs]
  refine callWith_ref ok hs rm S hl F w fun vs xs s₁ H₁ S₁ E₁ rs q => ⟨q.1, ?_⟩
  exact post_ext E₁ (callOk_run rm S₁ rs q)

theorem Room.make {C : Addr} {rest : List Value} {kw : List (Str × Value)} {m : Nat} {A : Around} (r : Room (m + 1) A) : Room m (A.under (.builtin "type.__call__" ⟨.ref C :: rest, kw⟩)) := by
  have e1 : (Code.builtin "type.__call__" ⟨.ref C :: rest, kw⟩).weight = 1 := rfl
  have e2 : (Code.builtin "type.__call__" ⟨.ref C :: rest, kw⟩).cUnits = 1 := rfl
  have h1 := r.depth
  have h2 := r.units
  refine ⟨?_, ?_, r.handled⟩
  · show A.depth + (Code.builtin "type.__call__" ⟨.ref C :: rest, kw⟩).weight + 2 * m + 20 ≤ recursionLimit
    rw [e1]; omega
  · show A.units + (Code.builtin "type.__call__" ⟨.ref C :: rest, kw⟩).cUnits + 8 * m + 200 ≤ cLine
    rw [e2]; omega

theorem sim_new {f : Nat} {id : Str} {np pos : Pos} {l : List Expr} {ps : PEs} (ok : CxOk cx) (E : EnvOk cx env) (hid : cx.gn[f]? = some id) (hg : isGlob env.scope id = true) (hr : (∃ a, cx.gl f = .ref a)) (hs : SimEs cx n env nms l ps) : SimE cx n env nms (.Call (.Name id np) l [] pos) (.new f ps) := by
  intro A s ρ H Q rm S hl F w
  obtain ⟨C, ha⟩ := hr
  replace w : wpEs cx n ps ρ H (fun vs H₁ => newW cx n (cx.gl f) vs H₁ Q) := w
  rw [ha] at w
  obtain ⟨v, g, rv⟩ := ok.glob f id hid
  rw [ha] at rv
  cases rv
  refine wpAny_Call_NameR (g.load E S hg ?_)
  rw [star_plain hs]
  refine callWith_ref ok hs rm S hl F w fun vs xs s₁ H₁ S₁ E₁ rs q => ?_
  obtain ⟨fI, m, rfl, hmk, q⟩ := q
  unfold makes at hmk
  split at hmk
  · rename_i f' hf
    split at hmk
    · rename_i hb
      cases hmk
      simp only [Bool.and_eq_true] at hb
      obtain ⟨⟨b1, b2⟩, b3⟩ := hb
      refine ⟨b3, wpAny_call ?_⟩
      have X : cx.K.In s₁.heap := ok.K_in.keeps fun b o e => (S₁.keep b o e).1
      obtain ⟨hh, gg, d, t, os⟩ := s₁
      refine make_core (makes_of X b1) (looks_findIn X hf) (fun self => bind_fn X self ?_) (.inl rfl) ?_
      · obtain ⟨ob, ho, hc⟩ := Option.map_eq_some_iff.mp (beq_iff_eq.mp b2)
        show Option.map (fun x => x.cls) (List.lookup fI cx.K) = _; rw [ho, ← hc]; rfl
      have fd : H₁ hh.objs.size = none := S₁.fresh (Nat.le_refl _)
      have fx : H₁ (hh.objs.size + 1) = none := S₁.fresh (Nat.le_succ _)
      have ne : hh.objs.size ≠ hh.objs.size + 1 := Nat.ne_of_lt (Nat.lt_succ_self _)
      have q' := q _ _ fd fx ne
      have S2 : St cx (H₁.set hh.objs.size (.ns [])) ⟨hh.push emptyDict, gg, d, t, os⟩ := S₁.alloc emptyDict (.ns []) t rfl fun h' k e => ⟨[], 0, e, .nil, by simp⟩
      have S3 : St cx ((H₁.set hh.objs.size (.ns [])).set (hh.objs.size + 1) (.inst C hh.objs.size)) ⟨(hh.push emptyDict).push (instObj C hh.objs.size), gg, d, t, os⟩ := by
        have := S2.alloc (instObj C hh.objs.size) (.inst C hh.objs.size) t rfl fun h' k e => e
        rwa [show (Shared.heap ⟨hh.push emptyDict, gg, d, t, os⟩).objs.size = hh.objs.size + 1 from Heap.size_push ..] at this
      have E2 : Ext H₁ hh ((H₁.set hh.objs.size (.ns [])).set (hh.objs.size + 1) (.inst C hh.objs.size)) ((hh.push emptyDict).push (instObj C hh.objs.size)) := by
        have := (Ext.alloc (H := H₁) (h := hh) emptyDict (.ns [])).trans (Ext.alloc (instObj C hh.objs.size) (.inst C hh.objs.size))
        rwa [show (hh.push emptyDict).objs.size = hh.objs.size + 1 from Heap.size_push ..] at this
      refine codeAny_mono (q'.2 _ ⟨(hh.push emptyDict).push (instObj C hh.objs.size), gg, d, t, os⟩ (.ref (hh.objs.size + 1) :: vs) rm.make S3 (.cons (.ref _) (rs.ext S₁ E2))) fun r s' ⟨v, e, p⟩ => ?_
      subst e
      obtain ⟨x, H', S', E', rx, hx, hq⟩ := p
      subst hx
      cases rx
      exact ⟨rfl, ⟨_, H', S', (E₁.trans E2).trans E', .ref _, hq⟩⟩
    · cases hmk
  · cases hmk

theorem sim_meth {k : Nat} {o : Expr} {nm : Str} {ap pos : Pos} {l : List Expr} {a : PE} {ps : PEs} (ok : CxOk cx) (hn : cx.an[k]? = some nm) (hc : notCall o = true) (hline : (ap.endLine == pos.line) = true) (hlen : l.length < 30) (ha : SimE cx n env nms o a) (hs : SimEs cx n env nms l ps) :
    SimE cx n env nms (.Call (.Attribute o nm ap) l [] pos) (.meth a k ps) := by
  intro A s ρ H Q rm S hl F w
  refine methCall_sound hs hc hline hlen (wpAny_mono (ha A s ρ H _ rm S hl F w) (fun ov s₁ ⟨x, H₁, S₁, E₁, r₁, w₁⟩ pl => ?_) fun _ _ e => e)
  refine meth_get ok ok.an_nd S₁ r₁ hn n w₁ fun f wf _ => ?_
  refine callWith_ref (first := [ov]) ok hs rm S₁ hl (F.ext S E₁) wf fun vs xs s₂ H₂ S₂ E₂ rs q => ⟨q.1, ?_⟩
  exact post_ext (E₁.trans E₂) (callOk_run rm S₂ (.cons (r₁.ext S₁ E₂) rs) q)

theorem sim_list {l : List Expr} {pos : Pos} {ps : PEs} (hs : SimEs cx n env nms l ps) : SimE cx n env nms (.List l pos) (.list ps) := by
  intro A s ρ H Q rm S hl F w
  refine PySem.wpAny_List ?_
  rw [star_plain hs]
  refine spliced_sound hs rm S hl F w fun vs xs s₁ H₁ S₁ E₁ rs ⟨hlen, q⟩ => ⟨by rw [rs.length, ← lim_eq]; exact hlen, ?_⟩
  exact (Post.newList (n := 0) S₁ rs hlen q).ext E₁
theorem sim_tuple {l : List Expr} {k : Nat} {pos : Pos} {ps : PEs} (hs : SimEs cx n env nms l ps) : SimE cx n env nms (.Tuple l k pos) (.tuple ps) := by
  intro A s ρ H Q rm S hl F w
  refine PySem.wpAny_Tuple ?_
  rw [star_plain hs]
  refine spliced_sound hs rm S hl F w fun vs xs s₁ H₁ S₁ E₁ rs ⟨hlen, q⟩ => ⟨by rw [rs.length, ← lim_eq]; exact hlen, ?_⟩
  exact ⟨_, H₁, S₁.push _ s₁.toks, E₁.trans (Ext.push _ _ _), .tup (n := 0) (Heap.get?_push_size _ rfl) (rs.grow fun _ _ e => Heap.get?_push_of_some _ e), q⟩
theorem sim_dict {pos : Pos} : SimE cx n env nms (.Dict [] [] pos) .dict := by
  intro A s ρ H Q rm S hl F w
  refine wpAny_Dict_empty ⟨_, _, S.alloc { cls := .type "dict", data := .dict #[] } (.dict []) s.toks rfl fun h' k e => ⟨[], 0, e, .nil, by simp [lim], by simp⟩, Ext.alloc _ _, .ref _, w _ (S.fresh (Nat.le_refl _))⟩

end
end Mine

namespace Mine

noncomputable def SimSrc (cx : Cx) (n : Nat) (env : Env) (nms : List Str) (iter : Expr) (p : Src) : Prop :=
  ∀ (A : Around) (s : Shared) (ρ : Rho) (H : AH) (K : List V → (AH → Prop) → AH → Prop), Room n A → St cx H s → ρ.length = nms.length → FRel env nms ρ H s.heap → wpSrc cx n p ρ H K →
    wpAny (model cx.prog cx.w) A (eval iter env) (fun xv s₁ => wpAny (model cx.prog cx.w) A (pyIter xv) (SrcAt cx env nms ρ H s.heap K) NoE s₁) NoE s

section
variable {cx : Cx} {n : Nat} {env : Env} {nms : List Str}

theorem foldedSet_of {iter : Expr} (h : notSet iter = true) (x : Value) : foldedSetIterable iter env x = pure x := by
  cases iter <;> first | rfl | cases h

theorem src_val {e : Expr} {p : PE} (h : SimE cx n env nms e p) : SimSrc cx n env nms e (.val p) := by
  intro A s ρ H K rm S hl F w
  refine wpAny_mono (h A s ρ H _ rm S hl F w) (fun v s₁ ⟨x, H₁, S₁, E₁, r, q⟩ => ?_) fun _ _ e => e
  have F₁ := F.ext S E₁
  dsimp only at q
  unfold iterW at q
  split at q
  · cases r with
    | tup e r => exact wpAny_mono (it_tuple S₁ e r) (fun it s₂ h => ⟨_, _, H₁, s₁, q.2, S₁, E₁, F₁, h⟩) fun _ _ e => e
  · cases r with
    | str _ t ok => exact wpAny_mono (it_str S₁ ok) (fun it s₂ h => ⟨_, _, H₁, s₁, q, S₁, E₁, F₁, h⟩) fun _ _ e => e
  · cases r
    obtain ⟨xs, hx, q⟩ := q
    exact wpAny_mono (it_list S₁ hx) (fun it s₂ h => ⟨_, _, H₁, s₁, q, S₁, E₁, F₁, h⟩) fun _ _ e => e
  · exact q.elim

noncomputable def one (P : V → AH → Prop) (xs : List V) (H : AH) : Prop := match xs with
  | [x] => P x H
  | _ => False
theorem wp_one {p : PE} {ρ : Rho} {H : AH} {P : V → AH → Prop} (w : wpE cx n p ρ H P) : wpEs cx n (.cons p .nil) ρ H (one P) := by
  exact w

theorem src_range {id : Str} {np pos : Pos} {a : Expr} {p : PE} (ok : CxOk cx) (E : EnvOk cx env) (hid : id = ("range" : Str)) (hg : isGlob env.scope id = true) (ha : SimEs cx n env nms [a] (.cons p .nil)) :
    SimSrc cx n env nms (.Call (.Name id np) [a] [] pos) (.range p) := by
  intro A s ρ H K rm S hl F w
  subst hid
  refine wpAny_Call_NameR (ok.range.load E S hg ?_)
  rw [star_plain ha]
  refine callWith_val (first := []) (fun a => by simp) ha rm S hl F (wp_one w) fun vs xs s₁ H₁ S₁ E₁ rs q => ?_
  have F₁ := F.ext S E₁
  cases rs with
  | nil => exact q.elim
  | cons r rs => cases rs with
    | cons _ _ => exact q.elim
    | nil =>
      dsimp only [one] at q
      unfold rangeW at q
      split at q
      · cases r
        exact wpAny_mono (it_range S₁ q.1) (fun v s₂ h => wpAny_mono h (fun it s₃ h => ⟨_, _, H₁, s₁, q.2, S₁, E₁, F₁, h⟩) fun _ _ e => e) fun _ _ e => e
      · exact q.elim
theorem src_rev {id : Str} {np pos : Pos} {a : Expr} {p : PE} (ok : CxOk cx) (E : EnvOk cx env) (hid : id = ("reversed" : Str)) (hg : isGlob env.scope id = true) (ha : SimEs cx n env nms [a] (.cons p .nil)) :
    SimSrc cx n env nms (.Call (.Name id np) [a] [] pos) (.rev p) := by
  intro A s ρ H K rm S hl F w
  subst hid
  refine wpAny_Call_NameR (ok.reversed.load E S hg ?_)
  rw [star_plain ha]
  refine callWith_val (first := []) (fun a => by simp) ha rm S hl F (wp_one w) fun vs xs s₁ H₁ S₁ E₁ rs q => ?_
  have F₁ := F.ext S E₁
  cases rs with
  | nil => exact q.elim
  | cons r rs => cases rs with
    | cons _ _ => exact q.elim
    | nil =>
      dsimp only [one] at q
      unfold revW at q
      split at q
      · cases r
        obtain ⟨xs, hx, q⟩ := q
        exact wpAny_mono (it_rev S₁ hx) (fun v s₂ h => wpAny_mono h (fun it s₃ h => ⟨_, _, H₁, s₁, q, S₁, E₁, F₁, h⟩) fun _ _ e => e) fun _ _ e => e
      · exact q.elim
end

theorem chk_notStar {cx : Cx} {sc : Scope} {nms : List Str} {p : PE} {e : Expr} (h : chkE cx sc nms p e = true) : notStar e = true := by
  cases e <;> first | rfl | skip
  cases p <;> exact absurd h Bool.false_ne_true

theorem refIs {v : V} (h : isRefV v = true) : ∃ a, v = .ref a := by cases v <;> first | exact ⟨_, rfl⟩ | cases h

mutual
theorem simE {cx : Cx} (n : Nat) (ok : CxOk cx) : ∀ (p : PE) {e : Expr} {nms : List Str} {env : Env}, EnvOk cx env → chkE cx env.scope nms p e = true → SimE cx n env nms e p ∧ SimB cx n env nms e p
  | .bad, e, nms, env, E, h => by
    refine ⟨fun A s ρ H Q rm S hl F w => ?_, fun A s ρ H R W rm S hl F w => ?_⟩ <;> exact False.elim w
  | .c v, e, nms, env, E, h => by
    replace h := ofConst h; obtain ⟨k, a, b, rfl, h⟩ := h
    have t := sim_c (cx := cx) (n := n) (env := env) (nms := nms) (a := a) (b := b) h
    exact ⟨t, simB_of t fun _ => rfl⟩
  | .x i, e, nms, env, E, h => by
    replace h := ofName h; obtain ⟨id, pos, rfl, h⟩ := h
    simp only [Bool.and_eq_true, beq_iff_eq] at h
    have t := sim_x (cx := cx) (n := n) (pos := pos) E h.1 h.2
    exact ⟨t, simB_of t fun _ => rfl⟩
  | .g i, e, nms, env, E, h => by
    replace h := ofName h; obtain ⟨id, pos, rfl, h⟩ := h
    simp only [Bool.and_eq_true, beq_iff_eq] at h
    have t := sim_g (cx := cx) (n := n) (nms := nms) (pos := pos) ok E h.1 h.2
    exact ⟨t, simB_of t fun _ => rfl⟩
  | .bin op a b, e, nms, env, E, h => by
    replace h := ofBin h; obtain ⟨l, o, r, pos, rfl, h⟩ := h
    simp only [Bool.and_eq_true, decide_eq_true_eq] at h
    obtain ⟨⟨rfl, h1⟩, h2⟩ := h
    have t := sim_bin (op := op) (pos := pos) (simE n ok a E h1).1 (simE n ok b E h2).1
    exact ⟨t, simB_of t fun _ => rfl⟩
  | .neg a, e, nms, env, E, h => by
    replace h := ofUn h; obtain ⟨o, e, pos, rfl, h⟩ := h
    simp only [Bool.and_eq_true, decide_eq_true_eq] at h
    obtain ⟨rfl, h⟩ := h
    have t := sim_neg (pos := pos) (simE n ok a E h).1
    exact ⟨t, simB_of t fun _ => rfl⟩
  | .not a, e, nms, env, E, h => by
    replace h := ofUn h; obtain ⟨o, e, pos, rfl, h⟩ := h
    simp only [Bool.and_eq_true, decide_eq_true_eq] at h
    obtain ⟨rfl, h⟩ := h
    exact ⟨sim_not (simE n ok a E h).1, simB_not (simE n ok a E h).2⟩
  | .bop isAnd es, e, nms, env, E, h => by
    replace h := ofBop h; obtain ⟨op, l, pos, rfl, h⟩ := h
    simp only [Bool.and_eq_true, beq_iff_eq] at h
    have t := simEs n ok es E h.2
    exact ⟨sim_bop h.1 t, simB_bop h.1 t⟩
  | .ite t a b, e, nms, env, E, h => by
    replace h := ofIte h; obtain ⟨t', a', b', pos, rfl, h⟩ := h
    simp only [Bool.and_eq_true] at h
    obtain ⟨⟨h1, h2⟩, h3⟩ := h
    exact ⟨sim_ite (simE n ok t E h1).2 (simE n ok a E h2).1 (simE n ok b E h3).1, simB_ite (simE n ok t E h1).2 (simE n ok a E h2).2 (simE n ok b E h3).2⟩
  | .cmp op a b, e, nms, env, E, h => by
    replace h := ofCmp h; obtain ⟨l, os, rs, pos, rfl, h⟩ := h
    replace h := one1_of h; obtain ⟨o, rfl, h⟩ := h
    replace h := one1_of h; obtain ⟨r, rfl, h⟩ := h
    simp only [Bool.and_eq_true, decide_eq_true_eq, Bool.not_eq_true'] at h
    obtain ⟨⟨⟨rfl, h1⟩, h2⟩, h3⟩ := h
    exact ⟨sim_cmp ok h3 (simE n ok a E h1).1 (simE n ok b E h2).1, simB_cmp ok h3 (simE n ok a E h1).1 (simE n ok b E h2).1⟩
  | .cmp2 o1 o2 a b c, e, nms, env, E, h => by
    replace h := ofCmp h; obtain ⟨l, os, rs, pos, rfl, h⟩ := h
    replace h := two2_of h; obtain ⟨p1, p2, rfl, h⟩ := h
    replace h := two2_of h; obtain ⟨r1, r2, rfl, h⟩ := h
    simp only [Bool.and_eq_true, decide_eq_true_eq, Bool.not_eq_true'] at h
    obtain ⟨⟨⟨⟨⟨rfl, rfl⟩, h1⟩, h2⟩, h3⟩, h4⟩ := h
    exact ⟨sim_cmp2 ok h4 (simE n ok a E h1).1 (simE n ok b E h2).1 (simE n ok c E h3).1, simB_cmp2 ok h4 (simE n ok a E h1).1 (simE n ok b E h2).1 (simE n ok c E h3).1⟩
  | .attr o k, e, nms, env, E, h => by
    replace h := ofAttr h; obtain ⟨e, nm, pos, rfl, h⟩ := h
    simp only [Bool.and_eq_true, beq_iff_eq] at h
    obtain ⟨⟨h1, h2⟩, h3⟩ := h
    have t := sim_attr (pos := pos) ok h1 h3 (simE n ok o E h2).1
    exact ⟨t, simB_of t fun _ => rfl⟩
  | .sub o i, e, nms, env, E, h => by
    replace h := ofSub h; obtain ⟨e, sl, pos, rfl, h⟩ := h
    simp only [Bool.and_eq_true] at h
    obtain ⟨⟨h1, h2⟩, h3⟩ := h
    have t := sim_sub (pos := pos) ok h3 (simE n ok o E h1).1 (simE n ok i E h2).1
    exact ⟨t, simB_of t fun _ => rfl⟩
  | .slice o lo hi, e, nms, env, E, h => by
    replace h := ofSS h; obtain ⟨e, l, u, p, pos, rfl, h⟩ := h
    simp only [Bool.and_eq_true] at h
    obtain ⟨⟨h1, h2⟩, h3⟩ := h
    have g1 : SimPart cx n env nms l lo := by
      cases l with
      | none => dsimp only at h2; split at h2; rfl; cases h2
      | some l => exact (simE n ok lo E h2).1
    have g2 : SimPart cx n env nms u hi := by
      cases u with
      | none => dsimp only at h3; split at h3; rfl; cases h3
      | some u => exact (simE n ok hi E h3).1
    have t := sim_slice (p := p) (pos := pos) ok (simE n ok o E h1).1 g1 g2
    exact ⟨t, simB_of t fun _ => rfl⟩
  | .bi b es, e, nms, env, E, h => by
    replace h := ofCN h; obtain ⟨id, np, args, pos, rfl, h⟩ := h
    simp only [Bool.and_eq_true, beq_iff_eq] at h
    obtain ⟨⟨h1, h2⟩, h3⟩ := h
    have t := sim_bi (np := np) (pos := pos) ok E h1 h2 (simEs n ok es E h3)
    exact ⟨t, simB_of t fun _ => rfl⟩
  | .bm m o es, e, nms, env, E, h => by
    replace h := ofCA h; obtain ⟨e, nm, ap, args, pos, rfl, h⟩ := h
    simp only [Bool.and_eq_true, decide_eq_true_eq, beq_iff_eq] at h
    obtain ⟨⟨⟨⟨⟨h1, h2⟩, h3⟩, h4⟩, h5⟩, h6⟩ := h
    have t := sim_bm ok h1 h4 (by rw [beq_iff_eq]; exact h5) h6 (simE n ok o E h2).1 (simEs n ok es E h3)
    exact ⟨t, simB_of t fun _ => rfl⟩
  | .call f es, e, nms, env, E, h => by
    replace h := ofCN h; obtain ⟨id, np, args, pos, rfl, h⟩ := h
    simp only [Bool.and_eq_true, beq_iff_eq] at h
    obtain ⟨⟨⟨h1, h2⟩, h3⟩, h4⟩ := h
    have t := sim_call (np := np) (pos := pos) ok E h1 h2 (refIs h4) (simEs n ok es E h3)
    exact ⟨t, simB_of t fun _ => rfl⟩
  | .new f es, e, nms, env, E, h => by
    replace h := ofCN h; obtain ⟨id, np, args, pos, rfl, h⟩ := h
    simp only [Bool.and_eq_true, beq_iff_eq] at h
    obtain ⟨⟨⟨h1, h2⟩, h3⟩, h4⟩ := h
    have t := sim_new (np := np) (pos := pos) ok E h1 h2 (refIs h4) (simEs n ok es E h3)
    exact ⟨t, simB_of t fun _ => rfl⟩
  | .meth o k es, e, nms, env, E, h => by
    replace h := ofCA h; obtain ⟨e, nm, ap, args, pos, rfl, h⟩ := h
    simp only [Bool.and_eq_true, decide_eq_true_eq, beq_iff_eq] at h
    obtain ⟨⟨⟨⟨⟨h1, h2⟩, h3⟩, h4⟩, h5⟩, h6⟩ := h
    have t := sim_meth ok h1 h4 (by rw [beq_iff_eq]; exact h5) h6 (simE n ok o E h2).1 (simEs n ok es E h3)
    exact ⟨t, simB_of t fun _ => rfl⟩
  | .list es, e, nms, env, E, h => by
    replace h := ofList h; obtain ⟨l, pos, rfl, h⟩ := h
    have t := sim_list (pos := pos) (simEs n ok es E h)
    exact ⟨t, simB_of t fun _ => rfl⟩
  | .tuple es, e, nms, env, E, h => by
    replace h := ofTup h; obtain ⟨l, k, pos, rfl, h⟩ := h
    have t := sim_tuple (k := k) (pos := pos) (simEs n ok es E h)
    exact ⟨t, simB_of t fun _ => rfl⟩
  | .dict, e, nms, env, E, h => by
    replace h := ofDict h; obtain ⟨k, l, pos, rfl, h⟩ := h
    rw [Bool.and_eq_true] at h
    cases isEmpty_of h.1; cases isEmpty_of h.2
    have t := sim_dict (cx := cx) (n := n) (env := env) (nms := nms) (pos := pos)
    exact ⟨t, simB_of t fun _ => rfl⟩
  | .comp el s, e, nms, env, E, h => by
    replace h := ofComp h; obtain ⟨elt, gs, scope, pos, rfl, h⟩ := h
    replace h := ofGen1 h; obtain ⟨x, px, iter, rfl, h⟩ := h
    simp only [Bool.and_eq_true, beq_iff_eq, decide_eq_true_eq] at h
    obtain ⟨⟨⟨⟨⟨⟨⟨⟨⟨h1, h0⟩, h2⟩, h3⟩, h9⟩, h4⟩, h5⟩, h6⟩, h7⟩, h8⟩ := h
    have t : SimE cx n env nms (.ListComp elt [⟨.Name x px, iter, [], 0⟩] scope pos) (.comp el s) := by
      intro A st ρ H Q rm S hl F w
      exact comp_sound E rm hl h5 h3 h9 h6 h7 h4 h8 (foldedSet_of h0) (simSrc n ok s E h1 A st ρ H _ rm S hl F w) fun env' e1 E' => (simE n ok el E' (by rw [e1]; exact h2)).1
    exact ⟨t, simB_of t fun _ => rfl⟩
theorem simEs {cx : Cx} (n : Nat) (ok : CxOk cx) : ∀ (ps : PEs) {l : List Expr} {nms : List Str} {env : Env}, EnvOk cx env → chkEs cx env.scope nms ps l = true → SimEs cx n env nms l ps
  | .nil, l, nms, env, E, h => by
    cases l with
    | nil => exact .nil
    | cons a b => exact absurd h Bool.false_ne_true
  | .cons p ps, l, nms, env, E, h => by
    cases l with
    | nil => exact absurd h Bool.false_ne_true
    | cons a b =>
      rw [show chkEs cx env.scope nms (.cons p ps) (a :: b) = (chkE cx env.scope nms p a && chkEs cx env.scope nms ps b) from rfl, Bool.and_eq_true] at h
      exact .cons (chk_notStar h.1) (simE n ok p E h.1).1 (simE n ok p E h.1).2 (simEs n ok ps E h.2)
theorem simSrc {cx : Cx} (n : Nat) (ok : CxOk cx) : ∀ (p : Src) {e : Expr} {nms : List Str} {env : Env}, EnvOk cx env → chkSrc cx env.scope nms p e = true → SimSrc cx n env nms e p
  | .val p, e, nms, env, E, h => by
    exact src_val (simE n ok p E h).1
  | .range p, e, nms, env, E, h => by
    replace h := ofCN h; obtain ⟨id, np, args, pos, rfl, h⟩ := h
    replace h := one1_of h; obtain ⟨a, rfl, h⟩ := h
    simp only [Bool.and_eq_true, beq_iff_eq] at h
    obtain ⟨⟨h1, h2⟩, h3⟩ := h
    exact src_range ok E h1 h2 (.cons (chk_notStar h3) (simE n ok p E h3).1 (simE n ok p E h3).2 .nil)
  | .rev p, e, nms, env, E, h => by
    replace h := ofCN h; obtain ⟨id, np, args, pos, rfl, h⟩ := h
    replace h := one1_of h; obtain ⟨a, rfl, h⟩ := h
    simp only [Bool.and_eq_true, beq_iff_eq] at h
    obtain ⟨⟨h1, h2⟩, h3⟩ := h
    exact src_rev ok E h1 h2 (.cons (chk_notStar h3) (simE n ok p E h3).1 (simE n ok p E h3).2 .nil)
end
end Mine

namespace Mine

noncomputable def notComp : Expr → Bool
  | .ListComp .. => false
  | .SetComp .. => false
  | .DictComp .. => false
  | _ => true
noncomputable def isBadS : PS → Bool
  | .bad => true
  | _ => false
mutual
noncomputable def chkS (cx : Cx) (sc : Scope) (nms : List Str) : PS → Stmt → Bool
  | .bad, _ => true
  | .expr e, ee => isExprS (fun x _ => chkE cx sc nms e x && notComp x) ee
  | .asg i e, ee => isAssign (fun ts x _ => one1 (fun t => isName (fun id _ => nms[i]? == some id && isLoc sc id && chkE cx sc nms e x && notComp x) t) ts) ee
  | .setattr o k e, ee => isAssign (fun ts x _ => one1 (fun t => isAttr (fun ox n _ => cx.an[k]? == some n && chkE cx sc nms o ox && chkE cx sc nms e x && notComp x) t) ts) ee
  | .setsub o i e, ee => isAssign (fun ts x _ => one1 (fun t => isSub (fun ox ix _ => chkE cx sc nms o ox && chkE cx sc nms i ix && chkE cx sc nms e x && notComp x) t) ts) ee
  | .aug i op e, ee => isAug (fun t op' x _ => isName (fun id _ => decide (op = op') && nms[i]? == some id && isLoc sc id && chkE cx sc nms e x) t) ee
  | .ite t a b, ee => isIf (fun tx ax bx _ => chkE cx sc nms t tx && chkSs cx sc nms a ax && chkSs cx sc nms b bx) ee
  | .wh t b, ee => isWhile (fun tx bx ox _ => ox.isEmpty && chkE cx sc nms t tx && chkSs cx sc nms b bx) ee
  | .for1 i s b, ee => isFor (fun t iter bx ox _ => ox.isEmpty && isName (fun id _ => nms[i]? == some id && isLoc sc id && chkSrc cx sc nms s iter && notSet iter && chkSs cx sc nms b bx) t) ee
  | .brk, ee => isBrk ee
  | .ret e, ee => isRet (fun x _ => x.any fun x => chkE cx sc nms e x) ee
noncomputable def chkSs (cx : Cx) (sc : Scope) (nms : List Str) : PSs → List Stmt → Bool
  | .nil, l => l.isEmpty
  | .cons p ps, l => (match l with
    | st :: sts => chkS cx sc nms p st && (chkSs cx sc nms ps sts || isBadS p)
    | [] => false)
end

noncomputable def own (env : Env) (b : Addr) : Prop := b = env.locals ∨ ∃ n, env.cells.lookup n = some b
noncomputable def ExtS (env : Env) (H : AH) (h : Heap) (H' : AH) (h' : Heap) : Prop := ∀ b o, ¬ own env b → h.get? b = some o → H b = none → h'.get? b = some o ∧ H' b = none
theorem ExtS.refl (env : Env) (H : AH) (h : Heap) : ExtS env H h H h := fun _ _ _ e n => ⟨e, n⟩
theorem ExtS.trans {env : Env} {H H' H'' : AH} {h h' h'' : Heap} (x : ExtS env H h H' h') (y : ExtS env H' h' H'' h'') : ExtS env H h H'' h'' := fun b o w e n => by
  obtain ⟨e1, n1⟩ := x b o w e n
  exact y b o w e1 n1
theorem Ext.s {env : Env} {H H' : AH} {h h' : Heap} (x : Ext H h H' h') : ExtS env H h H' h' := fun b o _ e n => x b o e n

inductive FlowRel (h : Heap) : FL → Flow → Prop
  | next : FlowRel h .next .next
  | brk : FlowRel h .brk .brk
  | cont : FlowRel h .cont .cont
  | ret {v x} : Rep h v x → FlowRel h (.ret v) (.ret x)
noncomputable def PostS (cx : Cx) (env : Env) (nms : List Str) (H : AH) (h : Heap) (R : FL → Rho → AH → Prop) : Flow → Shared → Prop :=
  fun f s' => ∃ fl ρ' H', FlowRel s'.heap fl f ∧ St cx H' s' ∧ ExtS env H h H' s'.heap ∧ FRel env nms ρ' H' s'.heap ∧ ρ'.length = nms.length ∧ R fl ρ' H'
theorem PostS.ext {cx : Cx} {env : Env} {nms : List Str} {H H₁ : AH} {h h₁ : Heap} {R : FL → Rho → AH → Prop} {f : Flow} {s' : Shared} (x : ExtS env H h H₁ h₁) (p : PostS cx env nms H₁ h₁ R f s') : PostS cx env nms H h R f s' :=
  let ⟨fl, ρ', H', a, b, c, d⟩ := p; ⟨fl, ρ', H', a, b, x.trans c, d⟩

section
variable {cx : Cx} {n : Nat} {A : Around} {H : AH} {s : Shared} {env : Env} {nms : List Str} {ρ : Rho}

theorem FRel.ownTup (F : FRel env nms ρ H s.heap) {b : Addr} (w : own env b) : ∀ vs m, s.heap.get? b ≠ some (tupObj vs m) := fun vs m e => by
  obtain ⟨m0, cm, ⟨o, es, ep, q, d, _⟩, hc, _⟩ := F
  rcases w with rfl | ⟨nn, w⟩
  · rw [q] at e; cases e; simp at d
  · obtain ⟨oc, q2, d2⟩ := hc _ _ w
    rw [q2] at e; cases e; simp at d2
theorem ExtS.tup {H' : AH} {s' : Shared} (x : ExtS env H s.heap H' s'.heap) (S : St cx H s) (F : FRel env nms ρ H s.heap) : KeepsTup s.heap s'.heap := fun a vs m e =>
  (x a _ (fun w => F.ownTup w vs m e) e (S.tupNone e)).1

theorem store_local {i : Nat} {nm : Str} {x : V} {v : Value} {Q : Unit → Shared → Prop} (E : EnvOk cx env) (nd : nms.Nodup) (S : St cx H s) (hl : ρ.length = nms.length) (F : FRel env nms ρ H s.heap) (hi : nms[i]? = some nm) (hk : isLoc env.scope nm = true) (r : Rep s.heap x v)
    (k : ∀ s', St cx H s' → ExtS env H s.heap H s'.heap → FRel env nms (setSlot ρ i x) H s'.heap → (∀ b o, ¬ own env b → s.heap.get? b = some o → s'.heap.get? b = some o) → Q () s') : wpAny (model cx.prog cx.w) A (storeName env nm v) Q NoE s := by
  have ot := fun {b} w => F.ownTup (s := s) (b := b) w
  obtain ⟨m, cm, ns, hc, h1, h2, h3⟩ := F
  simp only [isLoc, Bool.and_eq_true, Bool.or_eq_true, beq_iff_eq, Bool.not_eq_true'] at hk
  obtain ⟨hk, _⟩ := hk
  have hlt : i < ρ.length := by rw [hl]; exact (List.getElem?_eq_some_iff.mp hi).1
  have inj : ∀ {j n'}, nms[j]? = some n' → n' = nm → j = i := fun {j n'} e q => by
    subst q; exact an_inj nd e hi
  rcases hk with hk | hk
  · refine wpAny_storeName_local hk ns (fun h' ns' hs => ?_) (by rw [E.kind]; rfl)
    have kt : KeepsTup s.heap h' := But.tup hs.extBut (ot (.inl rfl))
    refine k _ (S.own h1 E.gL hs (ot (.inl rfl)) _) (fun b o w e q => ⟨hs.extBut b o (fun z => w (.inl z)) e, q⟩) ⟨_, cm, ns', fun n c q => ?_, h1, h2, fun j y n' q1 q2 => ?_⟩ (fun b o w e => hs.extBut b o (fun z => w (.inl z)) e)
    · exact (hc n c q).sameBut hs (E.gC n c q).2
    · rw [slot_setSlot] at q1
      by_cases hj : j = i
      · subst hj
        rw [if_pos ⟨rfl, hlt⟩] at q1
        cases q1
        rw [hi] at q2; cases q2
        refine ⟨fun _ => ⟨v, by simp, r.mono kt⟩, fun q => ?_⟩
        unfold Env.kindOf at q; rw [hk] at q; cases q
      · rw [if_neg (fun z => hj z.1)] at q1
        have ne : n' ≠ nm := fun z => hj (inj q2 z)
        obtain ⟨a1, a2⟩ := h3 j y n' q1 q2
        refine ⟨fun q => ?_, fun q => ?_⟩
        · obtain ⟨w, e1, e2⟩ := a1 q
          exact ⟨w, by rw [if_neg ne]; exact e1, e2.mono kt⟩
        · obtain ⟨c, w, e0, e1, e2⟩ := a2 q
          exact ⟨c, w, e0, e1, e2.mono kt⟩
  · obtain ⟨c, hcl⟩ := E.cellAll nm hk
    refine wpAny_storeName_cell E.kind hk hcl (hc nm c hcl) fun h' hc' hs => ?_
    have kt : KeepsTup s.heap h' := But.tup hs.extBut (ot (.inr ⟨_, hcl⟩))
    have ncL : env.locals ≠ c := fun z => (E.gC nm c hcl).2 z.symm
    refine k _ (S.own (h2 nm c hcl) (E.gC nm c hcl).1 hs (ot (.inr ⟨_, hcl⟩)) s.toks) (fun b o w e q => ⟨hs.extBut b o (fun z => w (.inr ⟨nm, z ▸ hcl⟩)) e, q⟩) ⟨m, fun y => if y = nm then some v else cm y, ns.sameBut hs ncL, fun n c' q => ?_, h1, h2, fun j y n' q1 q2 => ?_⟩ (fun b o w e => hs.extBut b o (fun z => w (.inr ⟨nm, z ▸ hcl⟩)) e)
    · by_cases hn : n = nm
      · subst hn
        rw [hcl] at q; cases q
        simpa using hc'
      · dsimp only; rw [if_neg hn]
        exact (hc n c' q).sameBut hs fun z => hn (E.cellInj n nm c (z ▸ q) hcl)
    · rw [slot_setSlot] at q1
      by_cases hj : j = i
      · subst hj
        rw [if_pos ⟨rfl, hlt⟩] at q1
        cases q1
        rw [hi] at q2; cases q2
        refine ⟨fun q => ?_, fun q => ⟨c, v, hcl, by simp, r.mono kt⟩⟩
        unfold Env.kindOf at q; rw [hk] at q; cases q
      · rw [if_neg (fun z => hj z.1)] at q1
        have ne : n' ≠ nm := fun z => hj (inj q2 z)
        obtain ⟨a1, a2⟩ := h3 j y n' q1 q2
        refine ⟨fun q => ?_, fun q => ?_⟩
        · obtain ⟨w, e1, e2⟩ := a1 q
          exact ⟨w, e1, e2.mono kt⟩
        · obtain ⟨c, w, e0, e1, e2⟩ := a2 q
          exact ⟨c, w, e0, by dsimp only; rw [if_neg ne]; exact e1, e2.mono kt⟩

noncomputable def SimT (cx : Cx) (n : Nat) (env : Env) (nms : List Str) (t : Expr) (st : Rho → V → (Rho → Prop) → Prop) : Prop :=
  ∀ (A : Around) (s : Shared) (ρ : Rho) (H : AH) (x : V) (v : Value) (P : Rho → Prop) (Q : Unit → Shared → Prop), A.handled = none → St cx H s → ρ.length = nms.length → FRel env nms ρ H s.heap → Rep s.heap x v → st ρ x P →
    (∀ s' ρ', St cx H s' → ExtS env H s.heap H s'.heap → FRel env nms ρ' H s'.heap → ρ'.length = nms.length → (∀ b o, ¬ own env b → s.heap.get? b = some o → s'.heap.get? b = some o) → P ρ' → Q () s') → wpAny (model cx.prog cx.w) A (assign t env v) Q NoE s

theorem simT_name {i : Nat} {nm : Str} {pos : Pos} (E : EnvOk cx env) (nd : nms.Nodup) (hi : nms[i]? = some nm) (hk : isLoc env.scope nm = true) : SimT cx n env nms (.Name nm pos) (fun ρ x P => P (setSlot ρ i x)) := by
  intro A s ρ H x v P Q hh S hl F r p k
  exact wpAny_assign_Name (store_local E nd S hl F hi hk r fun s' S' E' F' K => k s' _ S' E' F' (by rw [setSlot_length]; exact hl) K p)

end
end Mine

namespace Mine

noncomputable def SimS (cx : Cx) (n : Nat) (env : Env) (nms : List Str) (st : Stmt) (p : PS) : Prop :=
  ∀ (A : Around) (s : Shared) (ρ : Rho) (H : AH) (R : FL → Rho → AH → Prop), Room n A → St cx H s → ρ.length = nms.length → FRel env nms ρ H s.heap → wpS cx n p ρ H R → wpAny (model cx.prog cx.w) A (exec st env) (PostS cx env nms H s.heap R) NoE s
noncomputable def SimSs (cx : Cx) (n : Nat) (env : Env) (nms : List Str) (sts : List Stmt) (p : PSs) : Prop :=
  ∀ (A : Around) (s : Shared) (ρ : Rho) (H : AH) (R : FL → Rho → AH → Prop), Room n A → St cx H s → ρ.length = nms.length → FRel env nms ρ H s.heap → wpSs cx n p ρ H R → wpAny (model cx.prog cx.w) A (execs sts env) (PostS cx env nms H s.heap R) NoE s

section
variable {cx : Cx} {n : Nat} {env : Env} {nms : List Str}

theorem swaps_no {e : Expr} (h : notComp e = true) (t : Option Expr) (line : Nat) : swapsWith e t line env = pure false := by
  cases e <;> first | rfl | cases h
theorem EnvOk.notInter (E : EnvOk cx env) : interactive env = false := by unfold interactive; rw [E.kind]; rfl

theorem simS_expr {e : Expr} {p : PE} {pos : Pos} (E : EnvOk cx env) (hc : notComp e = true) (he : SimE cx n env nms e p) : SimS cx n env nms (.Expr e pos) (.expr p) := by
  intro A s ρ H R rm S hl F w
  refine wpAny_Expr_any (wpAny_mono (he A s ρ H _ rm S hl F w) (fun v s₁ ⟨x, H₁, S₁, E₁, r, q⟩ => ?_) fun _ _ e => e) E.notInter (swaps_no hc _ _)
  exact ⟨.next, ρ, H₁, .next, S₁, E₁.s, F.ext S E₁, hl, q.2.2.2⟩

theorem simS_asg {i : Nat} {nm : Str} {e : Expr} {p : PE} {np pos : Pos} (E : EnvOk cx env) (nd : nms.Nodup) (hc : notComp e = true) (hi : nms[i]? = some nm) (hk : isLoc env.scope nm = true) (he : SimE cx n env nms e p) : SimS cx n env nms (.Assign [.Name nm np] e pos) (.asg i p) := by
  intro A s ρ H R rm S hl F w
  refine wpAny_Assign_Name (wpAny_mono (he A s ρ H _ rm S hl F w) (fun v s₁ ⟨x, H₁, S₁, E₁, r, q⟩ => ?_) fun _ _ e => e) (swaps_no hc _ _)
  exact store_local E nd S₁ hl (F.ext S E₁) hi hk r fun s' S' E' F' K => ⟨.next, _, H₁, .next, S', E₁.s.trans E', F', by rw [setSlot_length]; exact hl, q⟩

theorem simS_setattr {k : Nat} {nm : Str} {o e : Expr} {po p : PE} {np pos : Pos} (ok : CxOk cx) (hc : notComp e = true) (hk : cx.an[k]? = some nm) (ho : SimE cx n env nms o po) (he : SimE cx n env nms e p) : SimS cx n env nms (.Assign [.Attribute o nm np] e pos) (.setattr po k p) := by
  intro A s ρ H R rm S hl F w
  refine plainObj_wpAny_Assign_Attribute (wpAny_mono (he A s ρ H _ rm S hl F w) (fun v s₁ ⟨x, H₁, S₁, E₁, r, q⟩ => wpAny_mono (ho A s₁ ρ H₁ _ rm S₁ hl (F.ext S E₁) q) (fun ov s₂ ⟨y, H₂, S₂, E₂, r₂, q₂⟩ => ?_) fun _ _ e => e) fun _ _ e => e) (swaps_no hc _ _)
  refine attr_set ok ok.an_nd S₂ r₂ (r.ext S₁ E₂) hk q₂ fun H₃ s₃ q₃ S₃ E₃ => ?_
  exact ⟨.next, ρ, H₃, .next, S₃, ((E₁.trans E₂).trans E₃).s, F.ext S ((E₁.trans E₂).trans E₃), hl, q₃⟩

theorem simS_setsub {o i e : Expr} {po pi p : PE} {np pos : Pos} (ok : CxOk cx) (hc : notComp e = true) (ho : SimE cx n env nms o po) (hi : SimE cx n env nms i pi) (he : SimE cx n env nms e p) : SimS cx n env nms (.Assign [.Subscript o i np] e pos) (.setsub po pi p) := by
  intro A s ρ H R rm S hl F w
  refine PySem.wpAny_Assign_Subscript (wpAny_mono (he A s ρ H _ rm S hl F w) (fun v s₁ ⟨x, H₁, S₁, E₁, r, q⟩ => wpAny_mono (ho A s₁ ρ H₁ _ rm S₁ hl (F.ext S E₁) q) (fun ov s₂ ⟨y, H₂, S₂, E₂, r₂, q₂⟩ =>
    wpAny_mono (hi A s₂ ρ H₂ _ rm S₂ hl (F.ext S (E₁.trans E₂)) q₂) (fun iv s₃ ⟨z, H₃, S₃, E₃, r₃, q₃⟩ => ?_) fun _ _ e => e) fun _ _ e => e) fun _ _ e => e) (swaps_no hc _ _)
  refine setsubW_sound (by have := rm.units; omega) S₃ (r₂.ext S₂ E₃) r₃ ((r.ext S₁ E₂).ext S₂ E₃) q₃ fun H₄ s₄ q₄ S₄ E₄ => ?_
  exact ⟨.next, ρ, H₄, .next, S₄, (((E₁.trans E₂).trans E₃).trans E₄).s, F.ext S (((E₁.trans E₂).trans E₃).trans E₄), hl, q₄⟩

theorem simS_aug {i : Nat} {op : Operator} {nm : Str} {e : Expr} {p : PE} {np pos : Pos} (E : EnvOk cx env) (nd : nms.Nodup) (hi : nms[i]? = some nm) (hk : isLoc env.scope nm = true) (he : SimE cx n env nms e p) : SimS cx n env nms (.AugAssign (.Name nm np) op e pos) (.aug i op p) := by
  intro A s ρ H R rm S hl F w
  obtain ⟨v0, hv, w⟩ := w
  have hnm : ("__debug__" == nm) = ("__debug__" == nm) := rfl
  refine wpAny_AugAssign_Name ?_
  refine wpAny_mono (loadName_local (A := A) E S F hv hi hk (Q := fun x H' => x = v0 ∧ H' = H) ⟨rfl, rfl⟩) (fun old s₀ ⟨x, H0, S0, E0, r0, q0⟩ => ?_) fun _ _ e => e
  obtain ⟨rfl, rfl⟩ := q0
  refine wpAny_mono (he A s₀ ρ H0 _ rm S0 hl (F.ext S E0) w) (fun v s₁ ⟨y, H₁, S₁, E₁, r, q⟩ => ?_) fun _ _ e => e
  obtain ⟨a, b, rfl, rfl, rfl, q⟩ := q
  have r0' := r0.ext S0 E₁
  cases r0'
  cases r
  refine PySem.P.iadd_int ?_
  exact store_local E nd (S₁.toks _) hl (F.ext S (E0.trans E₁)) hi hk (.int _ _) fun s' S' E' F' K => ⟨.next, _, H₁, .next, S', (E0.trans E₁).s.trans E', F', by rw [setSlot_length]; exact hl, q⟩

theorem simS_ite {t : Expr} {a b : List Stmt} {pt : PE} {pa pb : PSs} {pos : Pos} (ht : SimB cx n env nms t pt) (ha : SimSs cx n env nms a pa) (hb : SimSs cx n env nms b pb) : SimS cx n env nms (.If t a b pos) (.ite pt pa pb) := by
  intro A s ρ H R rm S hl F w
  refine wpAny_If (ht A s ρ H _ _ rm S hl F w (fun x H₁ h => truW_true h) fun t x s₁ H₁ S₁ E₁ h ht => ?_)
  have p := truW_at h ht
  cases t
  · simp only [Bool.false_eq_true, if_false] at p ⊢
    exact wpAny_mono (hb A s₁ ρ H₁ _ rm S₁ hl (F.ext S E₁) p) (fun _ _ q => q.ext E₁.s) fun _ _ e => e
  · simp only [if_true] at p ⊢
    exact wpAny_mono (ha A s₁ ρ H₁ _ rm S₁ hl (F.ext S E₁) p) (fun _ _ q => q.ext E₁.s) fun _ _ e => e

theorem simS_ret {e : Expr} {p : PE} {pos : Pos} (he : SimE cx n env nms e p) : SimS cx n env nms (.Return (some e) pos) (.ret p) := by
  intro A s ρ H R rm S hl F w
  exact wpAny_Return_some (wpAny_mono (he A s ρ H _ rm S hl F w) (fun v s₁ ⟨x, H₁, S₁, E₁, r, q⟩ => ⟨.ret x, ρ, H₁, .ret r, S₁, E₁.s, F.ext S E₁, hl, q⟩) fun _ _ e => e)
theorem simS_brk {pos : Pos} : SimS cx n env nms (.Break pos) .brk := by
  intro A s ρ H R rm S hl F w
  exact wpAny_Break ⟨.brk, ρ, H, .brk, S, ExtS.refl _ _ _, F, hl, w⟩

theorem simSs_nil : SimSs cx n env nms [] .nil := by
  intro A s ρ H R rm S hl F w
  exact wpAny_execs_nil ⟨.next, ρ, H, .next, S, ExtS.refl _ _ _, F, hl, w⟩
theorem simSs_cons {st : Stmt} {sts : List Stmt} {p : PS} {ps : PSs} (h1 : SimS cx n env nms st p) (h2 : SimSs cx n env nms sts ps) : SimSs cx n env nms (st :: sts) (.cons p ps) := by
  intro A s ρ H R rm S hl F w
  refine wpAny_execs_cons (wpAny_mono (h1 A s ρ H _ rm S hl F w) (fun f s₁ ⟨fl, ρ', H', fr, S', E', F', hl', q⟩ => ?_) fun _ _ e => e)
  cases fr with
  | next => exact wpAny_mono (h2 A s₁ ρ' H' _ rm S' hl' F' q) (fun _ _ q => q.ext E') fun _ _ e => e
  | brk => exact ⟨.brk, ρ', H', .brk, S', E', F', hl', q⟩
  | cont => exact ⟨.cont, ρ', H', .cont, S', E', F', hl', q⟩
  | ret r => exact ⟨_, ρ', H', .ret r, S', E', F', hl', q⟩

theorem simS_wh {t : Expr} {b : List Stmt} {pt : PE} {pb : PSs} {pos : Pos} (ht : SimB cx n env nms t pt) (hb : SimSs cx n env nms b pb) : SimS cx n env nms (.While t b [] pos) (.wh pt pb) := by
  intro A s ρ H R rm S hl F w
  obtain ⟨k, w⟩ := w
  refine wpAny_While (codeAny_whileLoop (fun m s' => ∃ ρ' H', St cx H' s' ∧ ExtS env H s.heap H' s'.heap ∧ FRel env nms ρ' H' s'.heap ∧ ρ'.length = nms.length ∧
    whC (fun ρ H Q => wpE cx n pt ρ H fun x H₁ => truW x H₁ fun t => Q t H₁) (fun ρ H R => wpSs cx n pb ρ H R) m ρ' H' R) ?_ k ⟨ρ, H, S, ExtS.refl _ _ _, F, hl, w⟩)
  rintro m s' ⟨ρ', H', S', E', F', hl', w'⟩
  cases m with
  | zero => exact w'.elim
  | succ m =>
    unfold whC at w'
    refine wpAny_mono (ht A s' ρ' H' (fun b s₂ => ∃ H₁, St cx H₁ s₂ ∧ Ext H' s'.heap H₁ s₂.heap ∧ if b = true then _ else _) _ rm S' hl' F' w' (fun x H₁ h => truW_true h) fun t x s₁ H₁ S₁ E₁ h ht => ⟨H₁, S₁, E₁, truW_at h ht⟩) (fun t s₁ ⟨H₁, S₁, E₁, p⟩ => ?_) fun _ _ e => e.elim
    have F₁ := F'.ext S' E₁
    cases t
    · simp only [Bool.false_eq_true, if_false] at p ⊢
      exact wpAny_execs_nil ⟨.next, ρ', H₁, .next, S₁, E'.trans E₁.s, F₁, hl', p⟩
    · simp only [if_true] at p ⊢
      refine wpAny_mono (hb A s₁ ρ' H₁ _ rm S₁ hl' F₁ p) (fun f s₂ ⟨fl, ρ₂, H₂, fr, S₂, E₂, F₂, hl₂, q⟩ => ?_) fun _ _ e => e.elim
      have E3 := (E'.trans E₁.s).trans E₂
      cases fr with
      | next => exact ⟨m, Nat.lt_succ_self _, ρ₂, H₂, S₂, E3, F₂, hl₂, q⟩
      | cont => exact ⟨m, Nat.lt_succ_self _, ρ₂, H₂, S₂, E3, F₂, hl₂, q⟩
      | brk => exact ⟨.next, ρ₂, H₂, .next, S₂, E3, F₂, hl₂, q⟩
      | ret r => exact ⟨_, ρ₂, H₂, .ret r, S₂, E3, F₂, hl₂, q⟩

theorem for_core {target : Expr} {body : List Stmt} {pb : PSs} {st : Rho → V → (Rho → Prop) → Prop} {A : Around} {s s₂ : Shared} {ρ : Rho} {H H₁ : AH} {R : FL → Rho → AH → Prop} {I : Addr} {fp : List Addr} {simple : Bool} {xs : List V} {G : AH → Prop} {σ τ}
    (rm : Room n A) (ok : ItOk cx I fp simple xs G σ τ) (hgo : ∀ (A : Around) i v s (Q : Unit → Shared → Prop), τ i v s.heap → (∀ h', σ i h' → Heap.SameBut I s.heap h' → KeepsTup s.heap h' → Q () { s with heap := h' }) → wpAny (model cx.prog cx.w) A (letOwnedTupleGo target (.ref I) v) Q NoE s)
    (hT : SimT cx n env nms target st) (hB : SimSs cx n env nms body pb) (S₂ : St cx H₁ s₂) (E₂ : ExtS env H s.heap H₁ s₂.heap) (F₂ : FRel env nms ρ H₁ s₂.heap) (hl : ρ.length = nms.length) (h0 : σ 0 s₂.heap) (hfp : ∀ b ∈ fp, H₁ b = none ∧ ¬ own env b) (gI : cx.g0.get? I = none)
    (fI : ∀ b o, s.heap.get? b = some o → H b = none → b ≠ I)
    (w : forC (fun ρ H R => wpSs cx n pb ρ H R) st G xs ρ H₁ R) :
    codeAny (model cx.prog cx.w) A (.forLoop target (.ref I) body [] env) (fun r s' => match r with | .ok f => PostS cx env nms H s.heap R f s' | .error e => cameBackBy (model cx.prog cx.w) A env NoE e s') s₂ := by
  refine codeAny_forLoop_any (fun k s' => ∃ i ρ' H', k = xs.length + 1 - i ∧ i ≤ xs.length ∧ St cx H' s' ∧ ExtS env H s.heap H' s'.heap ∧ FRel env nms ρ' H' s'.heap ∧ ρ'.length = nms.length ∧ σ i s'.heap ∧ (∀ b ∈ fp, H' b = none) ∧
    forC (fun ρ H R => wpSs cx n pb ρ H R) st G (xs.drop i) ρ' H' R) ?_ (xs.length + 1) ⟨0, ρ, H₁, rfl, Nat.zero_le _, S₂, E₂, F₂, hl, h0, fun b hb => (hfp b hb).1, w⟩
  rintro k s' ⟨i, ρ', H', rfl, hi, S', E', F', hl', hσ, hfp', w'⟩
  have ntI := ok.noTup i _ hσ
  have nI : ∀ b, own env b → b ≠ I := fun b hb z => (hfp I ok.mem).2 (z ▸ hb)
  have HI := hfp' I ok.mem
  have frBut : ∀ {h'}, But I s'.heap h' → FRel env nms ρ' H' h' := fun {h'} hb => by
    obtain ⟨m, cm, ⟨o, es, ep, e, r⟩, hc, h1, h2, h3⟩ := F'
    have kt := But.tup hb ntI
    refine ⟨m, cm, ⟨o, es, ep, hb _ _ (nI _ (.inl rfl)) e, r⟩, fun n c q => ?_, h1, h2, fun i v n q1 q2 => ⟨fun k => ?_, fun k => ?_⟩⟩
    · obtain ⟨oc, e1, e2⟩ := hc n c q; exact ⟨oc, hb _ _ (nI _ (.inr ⟨_, q⟩)) e1, e2⟩
    · obtain ⟨w, e1, e2⟩ := (h3 i v n q1 q2).1 k; exact ⟨w, e1, e2.mono kt⟩
    · obtain ⟨c, w, e0, e1, e2⟩ := (h3 i v n q1 q2).2 k; exact ⟨c, w, e0, e1, e2.mono kt⟩
  by_cases hlt : i < xs.length
  · have ed : xs.drop i = xs[i] :: xs.drop (i + 1) := List.drop_eq_getElem_cons hlt
    rw [ed] at w'
    obtain ⟨hG, w'⟩ := w'
    refine wpAny_mono (ok.item A i xs[i] s' H' _ rm.handled S' hG (by simp [hlt]) hσ fun v h₁ tk rv hτ hb => ?_) (fun _ _ q => q) (fun _ _ e => e.elim)
    refine wpAny_mono (hgo A _ v { s' with heap := h₁, toks := tk } _ hτ fun h₅ hσ5 hs5 kt5 => ?_) (fun _ _ q => q) (fun _ _ e => e.elim)
    replace hs5 : Heap.SameBut I h₁ h₅ := hs5
    have hb5 : But I s'.heap h₅ := fun b o z e => hs5.extBut b o z (hb b o z e)
    have S5 : St cx H' { s' with heap := h₅, toks := tk } := S'.but HI gI ntI hb5 tk
    have F5 := frBut hb5
    have rv5 : Rep h₅ xs[i] v := rv.mono kt5
    have E5 : ExtS env H s.heap H' h₅ := fun b o w e q => by
      obtain ⟨e2, q2⟩ := E' b o w e q
      exact ⟨hb5 b o (fI b o e q) e2, q2⟩
    refine wpAny_mono (hT A _ ρ' H' xs[i] v _ _ rm.handled S5 hl' F5 rv5 w' fun s₆ ρ₆ S₆ E₆ F₆ hl₆ K₆ w₆ => ?_) (fun _ _ q => q) (fun _ _ e => e.elim)
    have hσ6 := ok.frame _ _ _ hσ5 (fun b hb o e => K₆ b o (hfp b hb).2 e) (E₆.tup S5 F5)
    refine wpAny_mono (hB A s₆ ρ₆ H' _ rm S₆ hl₆ F₆ w₆) (fun f s₇ ⟨fl, ρ₇, H₇, fr, S₇, E₇, F₇, hl₇, q⟩ => ?_) (fun _ _ e => e.elim)
    have E57 := (E5.trans E₆).trans E₇
    have hσ7 := ok.frame _ _ _ hσ6 (fun b hb o e => (E₇ b o (hfp b hb).2 e (hfp' b hb)).1) (E₇.tup S₆ F₆)
    have hfp7 : ∀ b ∈ fp, H₇ b = none := fun b hb => by
      obtain ⟨o, e⟩ := ok.live _ _ hσ6 b hb
      exact (E₇ b o (hfp b hb).2 e (hfp' b hb)).2
    cases fr with
    | next => exact ⟨xs.length + 1 - (i + 1), by omega, i + 1, ρ₇, H₇, rfl, hlt, S₇, E57, F₇, hl₇, hσ7, hfp7, q⟩
    | cont => exact ⟨xs.length + 1 - (i + 1), by omega, i + 1, ρ₇, H₇, rfl, hlt, S₇, E57, F₇, hl₇, hσ7, hfp7, q⟩
    | brk => exact ⟨.next, ρ₇, H₇, .next, S₇, E57, F₇, hl₇, q⟩
    | ret r => exact ⟨_, ρ₇, H₇, .ret r, S₇, E57, F₇, hl₇, q⟩
  · have hin : i = xs.length := Nat.le_antisymm hi (Nat.not_lt.mp hlt)
    subst hin
    rw [List.drop_length] at w'
    obtain ⟨hG, hR⟩ := w'
    refine wpAny_mono (ok.done A s' H' _ rm.handled S' hG hσ fun h₁ tk hb => ?_) (fun _ _ q => q) (fun _ _ e => e.elim)
    refine wpAny_execs_nil ⟨.next, ρ', H', .next, S'.but HI gI ntI hb tk, fun b o w e q => ?_, frBut hb, hl', hR⟩
    obtain ⟨e2, q2⟩ := E' b o w e q
    exact ⟨hb b o (fI b o e q) e2, q2⟩

theorem simS_forIt {target iter : Expr} {body : List Stmt} {ps : Src} {pb : PSs} {st : Rho → V → (Rho → Prop) → Prop} {pos : Pos} {p : PS} (hns : notSet iter = true) (hs : SimSrc cx n env nms iter ps) (hT : SimT cx n env nms target st) (hB : SimSs cx n env nms body pb)
    (hgo : ∀ {I : Addr} {fp : List Addr} {xs : List V} {G : AH → Prop} {σ τ}, ItOk cx I fp true xs G σ τ → ∀ (A : Around) i v s (Q : Unit → Shared → Prop), τ i v s.heap → (∀ h', σ i h' → Heap.SameBut I s.heap h' → KeepsTup s.heap h' → Q () { s with heap := h' }) → wpAny (model cx.prog cx.w) A (letOwnedTupleGo target (.ref I) v) Q NoE s)
    (hw : ∀ ρ H R, wpS cx n p ρ H R → wpSrc cx n ps ρ H fun xs G H₁ => forC (fun ρ H R => wpSs cx n pb ρ H R) st G xs ρ H₁ R) : SimS cx n env nms (.For target iter body [] pos) p := by
  intro A s ρ H R rm S hl F w
  refine wpAny_For (wpAny_mono (hs A s ρ H _ rm S hl F (hw _ _ _ w)) (fun xv s₁ h₁ => wpAny_mono h₁ (fun it s₂ h₂ => ?_) fun _ _ e => e) fun _ _ e => e) (foldedSet_of hns)
  obtain ⟨xs, G, H₁, s₁, hK, S₁, E₁, F₁, I, fp, σ, τ, rfl, ok, fI, hfp, hown, gI, h0, S₂, E₂⟩ := h₂
  have ownLive : ∀ b, own env b → ∃ o, s₁.heap.get? b = some o ∧ ((∃ es ep, o.data = .dict es ep) ∨ ∃ v, o.data = .cell v) := fun b hb => by
    obtain ⟨m, cm, ⟨o, es, ep, e, d, _⟩, hc, _⟩ := F₁
    rcases hb with rfl | ⟨nn, hb⟩
    · exact ⟨o, e, .inl ⟨es, ep, d⟩⟩
    · obtain ⟨oc, e2, d2⟩ := hc _ _ hb; exact ⟨oc, e2, .inr ⟨_, d2⟩⟩
  refine for_core rm ok (hgo ok) hT hB S₂ (E₁.trans E₂).s (F₁.ext S₁ E₂) hl h0 (fun b hb => ⟨hfp b hb, fun hw => ?_⟩) gI (fun b o e q z => ?_) hK
  · obtain ⟨o, e, d⟩ := ownLive b hw
    rcases hown b hb with rfl | ⟨o2, e2, d1, d2⟩
    · rw [fI] at e; cases e
    · rw [e] at e2; cases e2
      rcases d with ⟨es, ep, d⟩ | ⟨v, d⟩
      · exact d1 _ _ d
      · exact d2 _ d
  · subst z
    have := (E₁ b o e q).1
    rw [fI] at this; cases this

theorem simS_for1 {i : Nat} {nm : Str} {iter : Expr} {body : List Stmt} {ps : Src} {pb : PSs} {np pos : Pos} (E : EnvOk cx env) (nd : nms.Nodup) (hi : nms[i]? = some nm) (hk : isLoc env.scope nm = true) (hns : notSet iter = true) (hs : SimSrc cx n env nms iter ps) (hB : SimSs cx n env nms body pb) :
    SimS cx n env nms (.For (.Name nm np) iter body [] pos) (.for1 i ps pb) :=
  simS_forIt hns hs (simT_name E nd hi hk) hB (fun ok A i v s Q t k => wpAny_pure (k s.heap (ok.plain rfl _ _ _ t) (Heap.SameBut.refl ..) fun _ _ _ e => e)) fun ρ H R w => w
end
end Mine

namespace Mine

mutual
theorem simS {cx : Cx} (n : Nat) (ok : CxOk cx) : ∀ (p : PS) {st : Stmt} {nms : List Str} {env : Env}, EnvOk cx env → nms.Nodup → chkS cx env.scope nms p st = true → SimS cx n env nms st p
  | .bad, st, nms, env, E, nd, h => by
    intro A s ρ H R rm S hl F w; exact False.elim w
  | .expr e, st, nms, env, E, nd, h => by
    replace h := ofExprS h; obtain ⟨x, pos, rfl, h⟩ := h
    simp only [Bool.and_eq_true] at h
    exact simS_expr E h.2 (simE n ok e E h.1).1
  | .asg i e, st, nms, env, E, nd, h => by
    replace h := ofAssign h; obtain ⟨ts, x, pos, rfl, h⟩ := h
    replace h := one1_of h; obtain ⟨t, rfl, h⟩ := h
    replace h := ofName h; obtain ⟨id, np, rfl, h⟩ := h
    simp only [Bool.and_eq_true, beq_iff_eq] at h
    obtain ⟨⟨⟨h1, h2⟩, h3⟩, h4⟩ := h
    exact simS_asg E nd h4 h1 h2 (simE n ok e E h3).1
  | .setattr o k e, st, nms, env, E, nd, h => by
    replace h := ofAssign h; obtain ⟨ts, x, pos, rfl, h⟩ := h
    replace h := one1_of h; obtain ⟨t, rfl, h⟩ := h
    replace h := ofAttr h; obtain ⟨ox, nm, np, rfl, h⟩ := h
    simp only [Bool.and_eq_true, beq_iff_eq] at h
    obtain ⟨⟨⟨h1, h2⟩, h3⟩, h4⟩ := h
    exact simS_setattr ok h4 h1 (simE n ok o E h2).1 (simE n ok e E h3).1
  | .setsub o i e, st, nms, env, E, nd, h => by
    replace h := ofAssign h; obtain ⟨ts, x, pos, rfl, h⟩ := h
    replace h := one1_of h; obtain ⟨t, rfl, h⟩ := h
    replace h := ofSub h; obtain ⟨ox, ix, np, rfl, h⟩ := h
    simp only [Bool.and_eq_true] at h
    obtain ⟨⟨⟨h1, h2⟩, h3⟩, h4⟩ := h
    exact simS_setsub ok h4 (simE n ok o E h1).1 (simE n ok i E h2).1 (simE n ok e E h3).1
  | .aug i op e, st, nms, env, E, nd, h => by
    replace h := ofAug h; obtain ⟨t, op', x, pos, rfl, h⟩ := h
    replace h := ofName h; obtain ⟨id, np, rfl, h⟩ := h
    simp only [Bool.and_eq_true, decide_eq_true_eq, beq_iff_eq] at h
    obtain ⟨⟨⟨rfl, h1⟩, h2⟩, h3⟩ := h
    exact simS_aug E nd h1 h2 (simE n ok e E h3).1
  | .ite t a b, st, nms, env, E, nd, h => by
    replace h := ofIf h; obtain ⟨tx, ax, bx, pos, rfl, h⟩ := h
    simp only [Bool.and_eq_true] at h
    obtain ⟨⟨h1, h2⟩, h3⟩ := h
    exact simS_ite (simE n ok t E h1).2 (simSs n ok a E nd h2) (simSs n ok b E nd h3)
  | .wh t b, st, nms, env, E, nd, h => by
    replace h := ofWhile h; obtain ⟨tx, bx, ox, pos, rfl, h⟩ := h
    simp only [Bool.and_eq_true] at h
    obtain ⟨⟨h0, h1⟩, h2⟩ := h
    cases isEmpty_of h0
    exact simS_wh (simE n ok t E h1).2 (simSs n ok b E nd h2)
  | .for1 i s b, st, nms, env, E, nd, h => by
    replace h := ofFor h; obtain ⟨t, iter, bx, ox, pos, rfl, h⟩ := h
    rw [Bool.and_eq_true] at h
    obtain ⟨h0, h⟩ := h
    cases isEmpty_of h0
    replace h := ofName h; obtain ⟨id, np, rfl, h⟩ := h
    simp only [Bool.and_eq_true, beq_iff_eq] at h
    obtain ⟨⟨⟨⟨h1, h2⟩, h3⟩, h4⟩, h5⟩ := h
    exact simS_for1 E nd h1 h2 h4 (simSrc n ok s E h3) (simSs n ok b E nd h5)
  | .brk, st, nms, env, E, nd, h => by
    obtain ⟨p, rfl⟩ := isBrk_eq h
    exact simS_brk
  | .ret e, st, nms, env, E, nd, h => by
    replace h := ofRet h; obtain ⟨x, pos, rfl, h⟩ := h
    cases x with
    | none => cases h
    | some x => exact simS_ret (simE n ok e E h).1
theorem simSs {cx : Cx} (n : Nat) (ok : CxOk cx) : ∀ (p : PSs) {sts : List Stmt} {nms : List Str} {env : Env}, EnvOk cx env → nms.Nodup → chkSs cx env.scope nms p sts = true → SimSs cx n env nms sts p
  | .nil, sts, nms, env, E, nd, h => by
    cases sts with
    | nil => exact simSs_nil
    | cons a b => exact absurd h Bool.false_ne_true
  | .cons p ps, sts, nms, env, E, nd, h => by
    cases sts with
    | nil => exact absurd h Bool.false_ne_true
    | cons st sts =>
      rw [show chkSs cx env.scope nms (.cons p ps) (st :: sts) = (chkS cx env.scope nms p st && (chkSs cx env.scope nms ps sts || isBadS p)) from rfl, Bool.and_eq_true, Bool.or_eq_true] at h
      obtain ⟨h1, h2 | h2⟩ := h
      · exact simSs_cons (simS n ok _ E nd h1) (simSs n ok _ E nd h2)
      · cases p <;> first | cases h2 | skip
        intro A s ρ H R rm S hl F w
        exact False.elim w
end
end Mine

namespace Mine

theorem lookup_zip {α : Type} : ∀ (names : List Str) (vals : List α) (j : Nat) (n : Str), names.Nodup → names[j]? = some n → (names.zip vals).lookup n = vals[j]?
  | [], _, _, _, _, h => by simp at h
  | m :: ms, [], j, n, _, _ => by simp
  | m :: ms, v :: vs, 0, n, nd, h => by simp at h; subst h; simp
  | m :: ms, v :: vs, j + 1, n, nd, h => by
    rw [List.nodup_cons] at nd
    have hm : n ∈ ms := List.mem_of_getElem? (by simpa using h)
    have ne : (n == m) = false := by simp; rintro rfl; exact nd.1 hm
    rw [List.zip_cons_cons, List.lookup_cons, ne]
    simpa using lookup_zip ms vs j n nd.2 (by simpa using h)
theorem lookup_append' {α : Type} (l r : List (Str × α)) (n : Str) : (l ++ r).lookup n = (l.lookup n).or (r.lookup n) := by
  induction l with
  | nil => simp
  | cons p l ih => rw [List.cons_append, List.lookup_cons, List.lookup_cons]; split <;> simp [ih]
theorem fold_lookup {α : Type} (l : List (Str × α)) : ∀ (acc : List (Str × α)) (n : Str), (l.foldl (fun acc p => if (acc.lookup p.1).isNone = true then acc ++ [p] else acc) acc).lookup n = (acc.lookup n).or (l.lookup n) := by
  induction l with
  | nil => intro acc n; simp
  | cons p l ih =>
    intro acc n
    rw [List.foldl_cons, ih]
    obtain ⟨a, b⟩ := p
    by_cases h : (List.lookup a acc).isNone = true
    · rw [if_pos h, lookup_append', List.lookup_cons, List.lookup_cons, List.lookup_nil]
      cases q : n == a
      · cases List.lookup n acc <;> simp
      · have : n = a := eq_of_beq q
        subst this
        simp at h
        simp
    · rw [if_neg h, List.lookup_cons]
      cases q : n == a
      · rfl
      · have : n = a := eq_of_beq q
        subst this
        cases e : List.lookup n acc with
        | none => simp [e] at h
        | some c => simp
theorem forIn_fold {β γ : Type} (l : List γ) (step : β → γ → β) (f : γ → β → Sem (ForInStep β)) (hf : ∀ x b, f x b = pure (.yield (step b x))) : ∀ acc : β, forIn l acc f = (pure (l.foldl step acc) : Sem β) := by
  induction l with
  | nil => intro acc; rfl
  | cons x l ih =>
    intro acc
    rw [List.forIn_cons, hf, List.foldl_cons, ← ih]
    rfl

theorem filterMap_zip {α : Type} : ∀ (names : List Str) (T : List α) (f : Str → Option α), T.length = names.length → (∀ (j : Nat) (n : Str), names[j]? = some n → f n = T[j]?) → names.filterMap (fun n => (f n).map fun x => (n, x)) = names.zip T
  | [], T, f, hl, h => by cases T <;> simp
  | n :: ns, [], f, hl, h => by simp at hl
  | n :: ns, t :: T, f, hl, h => by
    have h0 : f n = some t := h 0 n rfl
    rw [List.filterMap_cons, h0, List.zip_cons_cons]
    simp only [Option.map_some]
    rw [filterMap_zip ns T f (by simpa using hl) fun j m e => by simpa using h (j + 1) m (by simpa using e)]

theorem bind_sound {fd : FuncData} {as : List Arg} {kd : List (Option Expr)} {de : List Expr} {vals : List Value} {s : Shared} {o : Option (Array Value)} (hp : fd.params = ⟨[], as, none, [], kd, none, de⟩) (nd : (as.map (·.arg)).Nodup) (hl : vals.length ≤ as.length)
    (hs : ∀ (M : Model) (A : Around) (E : Value → Shared → Prop) (Q : Option (Array Value) → Shared → Prop), Q o s → wpAny M A (seqItems? fd.defaults) Q E s) (h1 : (o.getD #[]).toList.length ≤ as.length) (h2 : as.length ≤ vals.length + (o.getD #[]).toList.length) :
    BindsTo s fd ⟨vals, []⟩ ((as.map (·.arg)).zip (vals ++ (o.getD #[]).toList.drop ((o.getD #[]).toList.length - (as.length - vals.length)))) := by
  intro M A E Q hq
  unfold bindArgs
  simp only [hp, List.map_nil, List.nil_append, List.forIn_nil, pure_bind]
  refine wpAny_bind (hs _ _ _ _ ?_)
  generalize hds : (o.getD #[]).toList = ds at h1 h2 hq ⊢
  have c1 : ¬ (vals.length > as.length) := by omega
  simp only [List.length_map, List.append_nil, c1, decide_false, Bool.false_and, Bool.false_eq_true, if_false]
  have e0 : ds.length - as.length = 0 := by omega
  simp only [e0, List.drop_zero]
  generalize hn : as.map (·.arg) = names at nd hq ⊢
  have hnl : names.length = as.length := by rw [← hn, List.length_map]
  have hm : List.filter (fun n => (List.lookup n (names.zip vals)).isNone) (List.take (as.length - ds.length) names) = [] := by
    rw [List.filter_eq_nil_iff]
    intro a ha
    obtain ⟨j, hj, e⟩ := List.getElem_of_mem ha
    rw [List.length_take] at hj
    rw [List.getElem_take] at e
    have q : names[j]? = some a := by rw [List.getElem?_eq_getElem (by omega), e]
    rw [lookup_zip names vals j a nd q, List.getElem?_eq_getElem (by omega)]
    simp
  rw [hm]
  simp only [List.isEmpty_nil, Bool.not_true, Bool.false_eq_true, if_false]
  rw [forIn_fold _ (fun acc p => if (acc.lookup p.1).isNone = true then acc ++ [p] else acc) _ (fun x b => by split <;> rfl)]
  rw [pure_bind]
  refine wpAny_pure ?_
  rw [filterMap_zip names (vals ++ ds.drop (ds.length - (as.length - vals.length))) _ (by rw [List.length_append, List.length_drop]; omega)]
  · exact hq
  · intro j n q
    have hj := (List.getElem?_eq_some_iff.mp q).1
    rw [fold_lookup, lookup_zip names vals j n nd q]
    by_cases c : j < vals.length
    · rw [List.getElem?_append_left c, List.getElem?_eq_getElem c]; simp
    · rw [List.getElem?_append_right (by omega), List.getElem?_eq_none (l := vals) (by omega), Option.none_or]
      have q2 : (names.drop (as.length - ds.length))[j - (as.length - ds.length)]? = some n := by
        rw [List.getElem?_drop, ← q]; congr 1; omega
      rw [lookup_zip _ ds (j - (as.length - ds.length)) n (nd.sublist (List.drop_sublist ..)) q2, List.getElem?_drop]
      congr 1; omega
end Mine

namespace Mine

noncomputable def valIs : V → Value → Bool
  | .none, .none => true
  | .bool a, .bool b => a == b
  | .int a, .int b _ => decide (a = b)
  | .str a, .str b _ => okS a && (b.cps.toList == a)
  | _, _ => false
theorem valIs_rep {v : V} {x : Value} {h : Heap} (e : valIs v x = true) : Rep h v x := by
  unfold valIs at e
  split at e
  · exact .none
  · simp at e; subst e; exact .bool _
  · simp at e; subst e; exact .int _ _
  · simp only [Bool.and_eq_true, beq_iff_eq] at e
    obtain ⟨h1, h2⟩ := e
    subst h2
    rename_i b t
    have := Rep.str (h := h) _ t h1
    rwa [mkS_cps] at this
  · cases e
noncomputable def valsIs : List V → List Value → Bool
  | [], [] => true
  | v :: vs, x :: xs => valIs v x && valsIs vs xs
  | _, _ => false
theorem valsIs_reps {h : Heap} : ∀ {vs : List V} {xs : List Value}, valsIs vs xs = true → Reps h vs xs
  | [], [], _ => .nil
  | v :: vs, x :: xs, e => by
    unfold valsIs at e
    simp only [Bool.and_eq_true] at e
    exact .cons (valIs_rep e.1) (valsIs_reps e.2)
  | [], _ :: _, e => by unfold valsIs at e; cases e
  | _ :: _, [], e => by unfold valsIs at e; cases e
noncomputable def dfltIs (K : Frag) (dv : List V) : Value → Bool
  | .none => dv.isEmpty
  | .ref T => (match K.lookup T with
    | some ⟨_, _, .seq items _, _⟩ => valsIs dv items.toList
    | _ => false)
  | _ => false
noncomputable def parOk (sc : Scope) (p : Str) : Bool := sc.names.lookup p == some .local || sc.names.lookup p == some .cell

noncomputable def fnChk (cx : Cx) (f : Addr) (np : Nat) (nms : List Str) (dv : List V) (body : PSs) : Bool := match cx.K.lookup f with
  | some ⟨_, _, .func fd, _⟩ => (match fd.body, fd.params with
    | .stmts b, ⟨[], as, none, [], _, none, _⟩ => chkSs cx fd.scope nms body b && decide (fd.scope.kind = .function) && !fd.scope.isCoroutine && !fd.scope.isGenerator && fd.globals == mainGlobals && fd.builtins == builtinsNs &&
        fd.closure.isEmpty && codeIn cx.K fd.code fd.qualname && decide (as.map (·.arg) = nms.take np) && decide (np ≤ nms.length) && decide nms.Nodup && (as.map (·.arg)).all (parOk fd.scope) && dfltIs cx.K dv fd.defaults && decide (dv.length ≤ np) &&
        decide (fd.scope.names.map (·.1)).Nodup
    | _, _ => false)
  | _ => false

theorem cellsFrom_lookup {x : Str} : ∀ (names : List (Str × NameKind)) (m : Nat) (acc : List (Str × Addr)), (names.map (·.1)).Nodup → (names.lookup x = some .cell → ∃ c, (cellsFrom m names acc).lookup x = some c) ∧ (∀ c, acc.lookup x = some c → ∃ c, (cellsFrom m names acc).lookup x = some c)
  | [], m, acc, nd => ⟨fun h => by simp at h, fun c h => ⟨c, h⟩⟩
  | (n, k) :: r, m, acc, nd => by
    rw [List.map_cons, List.nodup_cons] at nd
    unfold cellsFrom
    split
    · rename_i hk
      obtain ⟨a, b⟩ := cellsFrom_lookup r (m + 1) ((n, m) :: acc) nd.2
      refine ⟨fun h => ?_, fun c h => ?_⟩
      · rw [List.lookup_cons] at h
        cases q : x == n
        · rw [q] at h; exact a h
        · exact b m (by rw [List.lookup_cons, q])
      · cases q : x == n
        · exact b c (by rw [List.lookup_cons, q]; exact h)
        · exact b m (by rw [List.lookup_cons, q])
    · rename_i hk
      obtain ⟨a, b⟩ := cellsFrom_lookup r m acc nd.2
      refine ⟨fun h => ?_, b⟩
      rw [List.lookup_cons] at h
      cases q : x == n
      · rw [q] at h; exact a h
      · rw [q] at h; simp at hk h; exact absurd h hk

theorem bindL_get (kind : Str → Option NameKind) : ∀ (names : List Str) (vals : List Value) (m : Str → Option Value) (j : Nat) (n : Str) (v : Value), names.Nodup → names[j]? = some n → vals[j]? = some v → kind n = some .local → bindL kind (names.zip vals) m n = some v := by
  have keep : ∀ (names : List Str) (vals : List Value) (m : Str → Option Value) (n : Str), n ∉ names → bindL kind (names.zip vals) m n = m n := by
    intro names
    induction names with
    | nil => intro vals m n _; rfl
    | cons a names ih =>
      intro vals m n hn
      cases vals with
      | nil => rfl
      | cons v vals =>
        rw [List.zip_cons_cons]
        unfold bindL
        rw [ih _ _ _ (fun h => hn (List.mem_cons_of_mem _ h))]
        split
        · dsimp only; rw [if_neg (fun (z : n = a) => hn (by rw [z]; exact List.mem_cons_self))]
        · rfl
  intro names
  induction names with
  | nil => intro vals m j n v _ h; simp at h
  | cons a names ih =>
    intro vals m j n v nd h hv hk
    rw [List.nodup_cons] at nd
    cases vals with
    | nil => simp at hv
    | cons w vals =>
      rw [List.zip_cons_cons]
      unfold bindL
      cases j with
      | zero =>
        simp at h hv
        subst h hv
        rw [keep _ _ _ _ nd.1, if_pos hk]
        simp
      | succ j => exact ih _ _ j n v nd.2 (by simpa using h) (by simpa using hv) hk
theorem bindC_get (kind : Str → Option NameKind) : ∀ (names : List Str) (vals : List Value) (m : Str → Option Value) (j : Nat) (n : Str) (v : Value), names.Nodup → names[j]? = some n → vals[j]? = some v → kind n ≠ some .local → bindC kind (names.zip vals) m n = some v := by
  have keep : ∀ (names : List Str) (vals : List Value) (m : Str → Option Value) (n : Str), n ∉ names → bindC kind (names.zip vals) m n = m n := by
    intro names
    induction names with
    | nil => intro vals m n _; rfl
    | cons a names ih =>
      intro vals m n hn
      cases vals with
      | nil => rfl
      | cons v vals =>
        rw [List.zip_cons_cons]
        unfold bindC
        rw [ih _ _ _ (fun h => hn (List.mem_cons_of_mem _ h))]
        split
        · rfl
        · dsimp only; rw [if_neg (fun (z : n = a) => hn (by rw [z]; exact List.mem_cons_self))]
  intro names
  induction names with
  | nil => intro vals m j n v _ h; simp at h
  | cons a names ih =>
    intro vals m j n v nd h hv hk
    rw [List.nodup_cons] at nd
    cases vals with
    | nil => simp at hv
    | cons w vals =>
      rw [List.zip_cons_cons]
      unfold bindC
      cases j with
      | zero =>
        simp at h hv
        subst h hv
        rw [keep _ _ _ _ nd.1, if_neg hk]
        simp
      | succ j => exact ih _ _ j n v nd.2 (by simpa using h) (by simpa using hv) hk

noncomputable def rho0 (np nl : Nat) (dv args : List V) : Rho := (args ++ dv.drop (dv.length - (np - args.length))).map some ++ List.replicate (nl - np) none
theorem slot_map (l : List V) (k : Nat) (i : Nat) : slot (l.map some ++ List.replicate k none) i = l[i]? := by
  induction l generalizing i with
  | nil =>
    simp only [List.map_nil, List.nil_append, List.getElem?_nil]
    induction k generalizing i with
    | zero => rfl
    | succ k ih => cases i with
      | zero => rfl
      | succ i => exact ih i
  | cons a l ih => cases i with
    | zero => rfl
    | succ i => exact ih i

noncomputable def doneW (Q : V → AH → Prop) : FL → Rho → AH → Prop := fun fl _ H' => match fl with
  | .ret v => Q v H'
  | .next => Q .none H'
  | _ => False

theorem callOk_def {cx : Cx} {n : Nat} {f : Addr} {np : Nat} {nms : List Str} {dv : List V} {body : PSs} {args : List V} {H : AH} {Q : V → AH → Prop} (ok : CxOk cx) (hf : fnChk cx f np nms dv body = true) (hk : keepIn cx.K (.ref f) = true) (h1 : args.length ≤ np) (h2 : np ≤ args.length + dv.length)
    (w : wpSs cx n body (rho0 np nms.length dv args) H (doneW Q)) : CallOk cx (n + 1) f args H Q := by
  refine ⟨hk, fun A s vs rm S r => ?_⟩
  unfold fnChk at hf
  split at hf
  · rename_i oc od fd osl hlook
    split at hf
    · rename_i b as kd de hbody hparams
      simp only [Bool.and_eq_true, decide_eq_true_eq, Bool.not_eq_true', beq_iff_eq] at hf
      obtain ⟨⟨⟨⟨⟨⟨⟨⟨⟨⟨⟨⟨⟨⟨c1, c2⟩, c3⟩, c4⟩, c5⟩, c6⟩, c7⟩, c8⟩, c9⟩, c10⟩, c11⟩, c12⟩, c13⟩, c14⟩, c15⟩ := hf
      have X : cx.K.In s.heap := ok.K_in.keeps fun b o e => (S.keep b o e).1
      have ho := X _ _ hlook
      have hal : as.length = np := by have := congrArg List.length c9; rw [List.length_map, List.length_take] at this; omega
      have ndp : (as.map (·.arg)).Nodup := by rw [c9]; exact c11.sublist (List.take_sublist ..)
      have hD : ∃ o : Option (Array Value), valsIs dv (o.getD #[]).toList = true ∧ ∀ (M : Model) (A : Around) (E : Value → Shared → Prop) (Q : Option (Array Value) → Shared → Prop), Q o s → wpAny M A (seqItems? fd.defaults) Q E s := by
        unfold dfltIs at c13
        split at c13
        · rename_i q
          refine ⟨none, ?_, fun M A E Q hq => ?_⟩
          · cases dv with
            | nil => rfl
            | cons a b => simp at c13
          · rw [q]; exact wpAny_pure hq
        · rename_i T q
          split at c13
          · rename_i items m _ hT
            refine ⟨some items, c13, fun M A E Q hq => ?_⟩
            rw [q]
            exact wpAny_seqItems (X _ _ hT) rfl hq
          · cases c13
        · cases c13
      obtain ⟨o, hdv, hseq⟩ := hD
      have rd : Reps s.heap dv (o.getD #[]).toList := valsIs_reps hdv
      have hdl := rd.length
      have hvl := r.length
      have hb := bind_sound (vals := vs) (o := o) hparams ndp (by omega) hseq (by omega) (by omega)
      have rall : Reps s.heap (args ++ dv.drop (dv.length - (np - args.length))) (vs ++ (o.getD #[]).toList.drop ((o.getD #[]).toList.length - (as.length - vs.length))) := by
        rw [hdl, hal, hvl]
        exact r.append (rd.drop _)
      have hlim : s.heap.NoLimit := ok.nolimit.keeps fun b o e => (S.keep b o e).1
      refine codeAny_mono (R := fun r s' => ∃ v, r = .ok (.ret v) ∧ Post cx H s.heap Q v s') (codeAny_call_function (by have := rm.depth; unfold recursionLimit at *; omega) ho rfl c3 c4 hbody (codeRec_of X c8) (hb _ _ _ _ ?_)) fun _ _ q => q
      have hclo : fd.closure = [] := by cases q : fd.closure with
        | nil => rfl
        | cons a b => rw [q] at c7; cases c7
      rw [hclo]
      have parK : ∀ p ∈ as.map (·.arg), fd.scope.names.lookup p = some .local ∨ fd.scope.names.lookup p = some .cell := fun p hp => by
        have := List.all_eq_true.mp c12 p hp
        unfold parOk at this
        simp only [Bool.or_eq_true, beq_iff_eq] at this
        exact this
      have cellL : ∀ x, fd.scope.names.lookup x = some .cell → ∃ c, (cellsFrom (s.heap.objs.size + 1) fd.scope.names []).lookup x = some c := fun x h => (cellsFrom_lookup _ _ _ c15).1 h
      refine wpAny_newFunctionEnv_cells c2 (fun x hx => ?_) fun env he s' hx => ?_
      · have hx1 : x.1 ∈ as.map (·.arg) := (List.of_mem_zip (a := x.1) (b := x.2) hx).1
        rcases parK _ hx1 with h | h
        · exact .inl h
        · obtain ⟨c, hc⟩ := cellL _ h
          exact .inr ⟨h, by rw [hc]; rfl⟩
      have e1 : env.scope = fd.scope := by subst he; rfl
      have e2 : env.locals = s.heap.objs.size := by subst he; rfl
      have e3 : env.cells = cellsFrom (s.heap.objs.size + 1) fd.scope.names [] := by subst he; rfl
      have e4 : env.globals = mainGlobals := by subst he; exact c5
      have e5 : env.builtins = builtinsNs := by subst he; exact c6
      have kp := hx.toInCall.keep
      obtain ⟨hh, tk, hs'⟩ := hx.toInCall.same
      have hS : St cx H s' := by
        subst hs'
        exact S.grow kp tk
      have hE : Ext H s.heap H s'.heap := Ext.grow kp
      have ownFresh : ∀ b, own env b → s.heap.objs.size ≤ b := fun b hb => by
        rcases hb with rfl | ⟨nn, hb⟩
        · rw [e2]; exact Nat.le_refl _
        · have := hx.above nn b (mem_of_lookup hb)
          rw [e2] at this
          exact Nat.le_of_lt this
      have fresh : ∀ b, s.heap.objs.size ≤ b → s.heap.get? b = none := fun b hb => by
        cases q : s.heap.get? b with
        | none => rfl
        | some o' => exact absurd (Heap.lt_size q) (Nat.not_lt.mpr hb)
      have E' : EnvOk cx env := ⟨by rw [e1]; exact c2, e4, e5, S.g0_fresh (fresh _ (ownFresh _ (.inl rfl))), fun nn c q => ⟨S.g0_fresh (fresh _ (ownFresh _ (.inr ⟨nn, q⟩))), fun z => by
          have := hx.above nn c (mem_of_lookup q)
          rw [z] at this; exact Nat.lt_irrefl _ this⟩, fun nn q => by rw [e3]; exact cellL nn (by rw [← e1]; exact q), fun n1 n2 c q1 q2 => name_of_addr hx.apart (mem_of_lookup q1) (mem_of_lookup q2)⟩
      have hrl : (rho0 np nms.length dv args).length = nms.length := by
        unfold rho0
        rw [List.length_append, List.length_map, List.length_replicate, List.length_append, List.length_drop]
        omega
      have F : FRel env nms (rho0 np nms.length dv args) H s'.heap := by
        refine ⟨_, _, hx.toInCall.ns, hx.cell, S.fresh (ownFresh _ (.inl rfl)), fun nn c q => S.fresh (ownFresh _ (.inr ⟨nn, q⟩)), fun i x nm q1 q2 => ?_⟩
        unfold rho0 at q1
        rw [slot_map] at q1
        obtain ⟨v, hv, rv⟩ := (rall.ext (s' := s') S hE).get q1
        have hi : i < np := by
          have := (List.getElem?_eq_some_iff.mp q1).1
          rw [List.length_append, List.length_drop] at this
          omega
        have q3 : (as.map (·.arg))[i]? = some nm := by rw [c9, List.getElem?_take_of_lt hi]; exact q2
        refine ⟨fun hk => ⟨v, bindL_get _ _ _ _ i nm v ndp q3 hv hk, rv⟩, fun hk => ?_⟩
        obtain ⟨c, hc⟩ := E'.cellAll nm hk
        exact ⟨c, v, hc, bindC_get _ _ _ _ i nm v ndp q3 hv (by rw [hk]; decide), rv⟩
      have rm' : Room n (A.deeper env) := by
        have g1 := rm.depth
        have g2 := rm.units
        refine ⟨?_, ?_, rm.handled⟩
        · show A.depth + 1 + 2 * n + 20 ≤ recursionLimit; omega
        · show A.units + 3 + 8 * n + 200 ≤ cLine; omega
      refine ⟨hlim.keeps kp, codeAny_func (wpAny_mono (simSs n ok body E' c11 (by rw [e1]; exact c1) (A.deeper env) s' _ H _ rm' hS hrl F w) (fun fl s'' p => ?_) fun _ _ e => e.elim)⟩
      obtain ⟨fl', ρ', H', fr, S'', E'', F'', hl'', q⟩ := p
      have X' : Ext H s.heap H' s''.heap := fun b o e nn => E'' b o (fun hb => by have := Heap.lt_size e; exact absurd this (Nat.not_lt.mpr (ownFresh b hb))) (kp b o e) nn
      cases fr with
      | next => exact ⟨_, rfl, _, H', S'', X', .none, q⟩
      | brk => exact q.elim
      | cont => exact q.elim
      | ret r => exact ⟨_, rfl, _, H', S'', X', r, q⟩
    · cases hf
  · cases hf
end Mine

namespace Mine

theorem AH.set_eq {H : AH} {a : Addr} {o : AObj} (h : H a = some o) : H.set a o = H := by
  funext b
  unfold AH.set
  split
  · rename_i e; subst e; exact h.symm
  · rfl
theorem AH.set_set (H : AH) (a : Addr) (o o' : AObj) : (H.set a o).set a o' = H.set a o' := by
  funext b
  unfold AH.set
  split <;> rfl
noncomputable def blk (cx : Cx) (n : Nat) (b : PSs) : Rho → AH → (FL → Rho → AH → Prop) → Prop := fun ρ H R => wpSs cx n b ρ H R
noncomputable def tst (cx : Cx) (n : Nat) (t : PE) : Rho → AH → (Bool → AH → Prop) → Prop := fun ρ H Q => wpE cx n t ρ H fun x H₁ => truW x H₁ fun t => Q t H₁
noncomputable def seqK (cx : Cx) (n : Nat) (r : PSs) (R : FL → Rho → AH → Prop) : FL → Rho → AH → Prop := fun fl ρ' H' => match fl with
  | .next => wpSs cx n r ρ' H' R
  | .brk => R .brk ρ' H'
  | .cont => R .cont ρ' H'
  | .ret v => R (.ret v) ρ' H'
noncomputable def forK (B : Rho → AH → (FL → Rho → AH → Prop) → Prop) (st : Rho → V → (Rho → Prop) → Prop) (G : AH → Prop) (xs : List V) (R : FL → Rho → AH → Prop) : FL → Rho → AH → Prop := fun fl ρ' H' => match fl with
  | .next => forC B st G xs ρ' H' R
  | .cont => forC B st G xs ρ' H' R
  | .brk => R .next ρ' H'
  | .ret v => R (.ret v) ρ' H'
noncomputable def st1 (i : Nat) : Rho → V → (Rho → Prop) → Prop := fun ρ x P => P (setSlot ρ i x)
section
variable {cx : Cx} {n : Nat} {ρ : Rho} {H : AH} {R : FL → Rho → AH → Prop} {Q : V → AH → Prop} {r : PSs} {B : Rho → AH → (FL → Rho → AH → Prop) → Prop} {st : Rho → V → (Rho → Prop) → Prop} {G : AH → Prop} {xs : List V} {v x : V}
theorem seqK_next : seqK cx n r R .next ρ H = wpSs cx n r ρ H R := rfl
theorem seqK_brk : seqK cx n r R .brk ρ H = R .brk ρ H := rfl
theorem seqK_ret : seqK cx n r R (.ret v) ρ H = R (.ret v) ρ H := rfl
theorem forK_next : forK B st G xs R .next ρ H = forC B st G xs ρ H R := rfl
theorem forK_brk : forK B st G xs R .brk ρ H = R .next ρ H := rfl
theorem forK_ret : forK B st G xs R (.ret v) ρ H = R (.ret v) ρ H := rfl
theorem for_nil : forC B st G [] ρ H R = (G H ∧ R .next ρ H) := rfl
theorem for_cons : forC B st G (x :: xs) ρ H R = (G H ∧ st ρ x fun ρ₁ => B ρ₁ H (forK B st G xs R)) := rfl
theorem st1_eq {i : Nat} {P : Rho → Prop} : st1 i ρ x P = P (setSlot ρ i x) := rfl
theorem blk_eq {b : PSs} : blk cx n b ρ H R = wpSs cx n b ρ H R := rfl
theorem Ss_nil : wpSs cx n .nil ρ H R = R .next ρ H := rfl
theorem Ss_cons {s : PS} : wpSs cx n (.cons s r) ρ H R = wpS cx n s ρ H (seqK cx n r R) := rfl
theorem S_expr {e : PE} : wpS cx n (.expr e) ρ H R = wpE cx n e ρ H fun x H₁ => (∀ a, x ≠ .ref a) ∧ (∀ a, x ≠ .tup a) ∧ (∀ a, x ≠ .raw a) ∧ R .next ρ H₁ := rfl
theorem S_asg {i : Nat} {e : PE} : wpS cx n (.asg i e) ρ H R = wpE cx n e ρ H fun x H₁ => R .next (setSlot ρ i x) H₁ := rfl
theorem S_setattr {o e : PE} {k : Nat} : wpS cx n (.setattr o k e) ρ H R = wpE cx n e ρ H fun x H₁ => wpE cx n o ρ H₁ fun y H₂ => setattrW cx y k x H₂ fun H₃ => R .next ρ H₃ := rfl
theorem S_setsub {o i e : PE} : wpS cx n (.setsub o i e) ρ H R = wpE cx n e ρ H fun x H₁ => wpE cx n o ρ H₁ fun y H₂ => wpE cx n i ρ H₂ fun z H₃ => setsubW y z x H₃ fun H₄ => R .next ρ H₄ := rfl
theorem S_ite {t : PE} {a b : PSs} : wpS cx n (.ite t a b) ρ H R = wpE cx n t ρ H fun x H₁ => truW x H₁ fun t => if t = true then wpSs cx n a ρ H₁ R else wpSs cx n b ρ H₁ R := rfl
theorem S_wh {t : PE} {b : PSs} : wpS cx n (.wh t b) ρ H R = ∃ k, whC (tst cx n t) (blk cx n b) k ρ H R := rfl
theorem S_for1 {i : Nat} {s : Src} {b : PSs} : wpS cx n (.for1 i s b) ρ H R = wpSrc cx n s ρ H fun xs G H₁ => forC (blk cx n b) (st1 i) G xs ρ H₁ R := rfl
theorem S_brk : wpS cx n .brk ρ H R = R .brk ρ H := rfl
theorem S_ret {e : PE} : wpS cx n (.ret e) ρ H R = wpE cx n e ρ H fun x H₁ => R (.ret x) ρ H₁ := rfl
theorem slotE {P : V → Prop} : (∃ v', some v = some v' ∧ P v') = P v := by simp
end

noncomputable def Keep (H H' : AH) : Prop := ∀ b o, H b = some o → H' b = some o
theorem Keep.refl (H : AH) : Keep H H := fun _ _ e => e
theorem Keep.trans {H H' H'' : AH} (x : Keep H H') (y : Keep H' H'') : Keep H H'' := fun b o e => y b o (x b o e)
theorem Keep.fresh {H : AH} {a : Addr} (h : H a = none) (o : AObj) : Keep H (H.set a o) := fun b x e => by
  rw [AH.set_ne _ _ (fun z => by subst z; rw [h] at e; cases e)]; exact e
theorem ne_of_obj {H : AH} {a b : Addr} {x y : AObj} (h1 : H a = some x) (h2 : H b = some y) (h : x ≠ y) : a ≠ b := fun z => by
  subst z; rw [h1] at h2; cases h2; exact h rfl
theorem ne_of_none {H : AH} {a b : Addr} {x : AObj} (h1 : H a = some x) (h2 : H b = none) : a ≠ b := fun z => by
  subst z; rw [h1] at h2; cases h2

noncomputable def attrAt (cx : Cx) (C : Addr) (k : Nat) : Bool := match cx.an[k]? with
  | some n => attrOk cx.K C n
  | none => false
theorem attrW_of {cx : Cx} {H : AH} {a C d k : Nat} {fs : List (Nat × V)} {x : V} {Q : V → AH → Prop} (h1 : H a = some (.inst C d)) (h2 : H d = some (.ns fs)) (ho : attrAt cx C k = true) (hl : lookN fs k = some x) (q : Q x H) : attrW cx (.ref a) k H Q := by
  unfold attrAt at ho
  split at ho
  · rename_i n hn
    exact ⟨C, d, fs, n, x, h1, h2, hn, ho, hl, q⟩
  · cases ho
theorem setattrW_of {cx : Cx} {H : AH} {a C d k : Nat} {fs : List (Nat × V)} {x : V} {Q : AH → Prop} (h1 : H a = some (.inst C d)) (h2 : H d = some (.ns fs)) (ho : attrAt cx C k = true) (hl : fs.length ≤ 100) (q : Q (H.set d (.ns (putN' fs k x)))) : setattrW cx (.ref a) k x H Q := by
  unfold attrAt at ho
  split at ho
  · rename_i n hn
    exact ⟨C, d, fs, n, h1, h2, hn, ho, hl, q⟩
  · cases ho
noncomputable def methAt (cx : Cx) (C : Addr) (k : Nat) : Option Addr := match cx.an[k]? with
  | some n => methIn cx.K C n
  | none => none
theorem methW_of {cx : Cx} {n : Nat} {H : AH} {a C d k f : Nat} {fs : List (Nat × V)} {P : Addr → Prop} (h1 : H a = some (.inst C d)) (h2 : H d = some (.ns fs)) (ho : methAt cx C k = some f) (hl : lookN fs k = none) (q : P f) : methW cx n (.ref a) k H P := by
  unfold methAt at ho
  split at ho
  · rename_i nm hn
    exact ⟨C, d, fs, nm, f, h1, h2, hn, ho, hl, q⟩
  · cases ho
end Mine

namespace Mine

section
variable {cx : Cx} {n : Nat} {ρ : Rho} {H : AH} {Q : V → AH → Prop} {QL : List V → AH → Prop}
theorem E_c {v : V} : wpE cx n (.c v) ρ H Q = Q v H := rfl
theorem E_x {i : Nat} : wpE cx n (.x i) ρ H Q = ∃ v, slot ρ i = some v ∧ Q v H := rfl
theorem E_xs {i : Nat} {v : V} (e : slot ρ i = some v) : wpE cx n (.x i) ρ H Q = Q v H := by rw [E_x, e]; simp
theorem E_g {i : Nat} : wpE cx n (.g i) ρ H Q = Q (cx.gl i) H := rfl
theorem E_bin {op : Operator} {a b : PE} : wpE cx n (.bin op a b) ρ H Q = wpE cx n a ρ H fun x H₁ => wpE cx n b ρ H₁ fun y H₂ => binW op x y H₂ Q := rfl
theorem E_neg {a : PE} : wpE cx n (.neg a) ρ H Q = wpE cx n a ρ H fun x H₁ => ∃ i, x = .int i ∧ Q (.int (-i)) H₁ := rfl
theorem E_not {a : PE} : wpE cx n (.not a) ρ H Q = wpE cx n a ρ H fun x H₁ => truW x H₁ fun t => Q (.bool (!t)) H₁ := rfl
theorem E_bop {a : Bool} {es : PEs} : wpE cx n (.bop a es) ρ H Q = wpBop cx n a es ρ H Q := rfl
theorem B_one {a : Bool} {e : PE} : wpBop cx n a (.cons e .nil) ρ H Q = wpE cx n e ρ H Q := rfl
theorem B_more {a : Bool} {e e' : PE} {es : PEs} : wpBop cx n a (.cons e (.cons e' es)) ρ H Q = wpE cx n e ρ H fun x H₁ => truW x H₁ fun t => if t = a then wpBop cx n a (.cons e' es) ρ H₁ Q else Q x H₁ := rfl
theorem E_ite {t a b : PE} : wpE cx n (.ite t a b) ρ H Q = wpE cx n t ρ H fun x H₁ => truW x H₁ fun t => if t = true then wpE cx n a ρ H₁ Q else wpE cx n b ρ H₁ Q := rfl
theorem E_cmp {op : CmpOp} {a b : PE} : wpE cx n (.cmp op a b) ρ H Q = wpE cx n a ρ H fun x H₁ => wpE cx n b ρ H₁ fun y H₂ => cmpW op x y H₂ fun t => Q (.bool t) H₂ := rfl
theorem E_cmp2 {o1 o2 : CmpOp} {a b c : PE} : wpE cx n (.cmp2 o1 o2 a b c) ρ H Q = wpE cx n a ρ H fun x H₁ => wpE cx n b ρ H₁ fun y H₂ => cmpW o1 x y H₂ fun t =>
      if t = true then wpE cx n c ρ H₂ fun z H₃ => cmpW o2 y z H₃ fun t => Q (.bool t) H₃ else Q (.bool false) H₂ := rfl
theorem E_attr {o : PE} {k : Nat} : wpE cx n (.attr o k) ρ H Q = wpE cx n o ρ H fun x H₁ => attrW cx x k H₁ Q := rfl
theorem E_sub {o i : PE} : wpE cx n (.sub o i) ρ H Q = wpE cx n o ρ H fun x H₁ => wpE cx n i ρ H₁ fun y H₂ => subW x y H₂ Q := rfl
theorem E_slice {o lo hi : PE} : wpE cx n (.slice o lo hi) ρ H Q = wpE cx n o ρ H fun x H₁ => wpE cx n lo ρ H₁ fun a H₂ => wpE cx n hi ρ H₂ fun b H₃ => sliceW x a b cx H₃ Q := rfl
theorem E_bi {b : BI} {es : PEs} : wpE cx n (.bi b es) ρ H Q = wpEs cx n es ρ H fun vs H₁ => biW b vs H₁ Q := rfl
theorem E_bm {m : BM} {o : PE} {es : PEs} : wpE cx n (.bm m o es) ρ H Q = wpE cx n o ρ H fun x H₁ => bmK m x H₁ ∧ wpEs cx n es ρ H₁ fun vs H₂ => bmW m x vs H₂ Q := rfl
theorem E_call {f : Nat} {es : PEs} : wpE cx n (.call f es) ρ H Q = wpEs cx n es ρ H fun vs H₁ => callW cx n (cx.gl f) vs H₁ Q := rfl
theorem E_new {f : Nat} {es : PEs} : wpE cx n (.new f es) ρ H Q = wpEs cx n es ρ H fun vs H₁ => newW cx n (cx.gl f) vs H₁ Q := rfl
theorem E_meth {o : PE} {k : Nat} {es : PEs} : wpE cx n (.meth o k es) ρ H Q = wpE cx n o ρ H fun x H₁ => methW cx n x k H₁ fun f => wpEs cx n es ρ H₁ fun vs H₂ => CallOk cx n f (x :: vs) H₂ Q := rfl
theorem E_list {es : PEs} : wpE cx n (.list es) ρ H Q = wpEs cx n es ρ H fun vs H₁ => vs.length ≤ lim ∧ ∀ c, H₁ c = none → Q (.ref c) (H₁.set c (.list vs)) := rfl
theorem E_tuple {es : PEs} : wpE cx n (.tuple es) ρ H Q = wpEs cx n es ρ H fun vs H₁ => vs.length ≤ lim ∧ Q (.tup vs) H₁ := rfl
theorem E_dict : wpE cx n .dict ρ H Q = ∀ c, H c = none → Q (.ref c) (H.set c (.dict [])) := rfl
theorem E_comp {e : PE} {s : Src} : wpE cx n (.comp e s) ρ H Q = wpSrc cx n s ρ H fun xs G H₁ => compC (fun x H' Q' => wpE cx n e (ρ ++ [some x]) H' Q') G xs [] H₁ fun ys H₂ => ∀ c, H₂ c = none → Q (.ref c) (H₂.set c (.list ys)) := rfl
theorem Es_nil : wpEs cx n .nil ρ H QL = QL [] H := rfl
theorem Es_cons {e : PE} {es : PEs} : wpEs cx n (.cons e es) ρ H QL = wpE cx n e ρ H fun x H₁ => wpEs cx n es ρ H₁ fun xs H₂ => QL (x :: xs) H₂ := rfl
theorem Src_val {e : PE} {Q : List V → (AH → Prop) → AH → Prop} : wpSrc cx n (.val e) ρ H Q = wpE cx n e ρ H fun x H₁ => iterW x H₁ fun xs G => Q xs G H₁ := rfl
theorem Src_range {e : PE} {Q : List V → (AH → Prop) → AH → Prop} : wpSrc cx n (.range e) ρ H Q = wpE cx n e ρ H fun x H₁ => rangeW x fun xs G => Q xs G H₁ := rfl
theorem Src_rev {e : PE} {Q : List V → (AH → Prop) → AH → Prop} : wpSrc cx n (.rev e) ρ H Q = wpE cx n e ρ H fun x H₁ => revW x H₁ fun xs G => Q xs G H₁ := rfl
variable {i j : Int} {P : Bool → Prop}
theorem W_add : binW .Add (.int i) (.int j) H Q = Q (.int (i + j)) H := rfl
theorem W_sub : binW .Sub (.int i) (.int j) H Q = Q (.int (i - j)) H := rfl
theorem W_mul : binW .Mult (.int i) (.int j) H Q = (-(2 ^ 62) < i ∧ i < 2 ^ 62 ∧ Q (.int (i * j)) H) := rfl
theorem W_cat {s t : List Nat} : binW .Add (.str s) (.str t) H Q = (s.length + t.length ≤ lim ∧ Q (.str (s ++ t)) H) := rfl
theorem W_lt : cmpW .Lt (.int i) (.int j) H P = P (decide (i < j)) := rfl
theorem W_gt : cmpW .Gt (.int i) (.int j) H P = P (decide (j < i)) := rfl
theorem W_ge : cmpW .GtE (.int i) (.int j) H P = P (decide (j ≤ i)) := rfl
theorem W_le : cmpW .LtE (.int i) (.int j) H P = P (decide (i ≤ j)) := rfl
theorem W_leS {s t : List Nat} : cmpW .LtE (.str s) (.str t) H P = P (leS s t) := rfl
theorem W_eqI : cmpW .Eq (.int i) (.int j) H P = P (decide (i = j)) := by simp [cmpW, eqW, isScalar, veq]
theorem W_neI : cmpW .NotEq (.int i) (.int j) H P = P (!decide (i = j)) := by simp [cmpW, eqW, isScalar, veq]
theorem W_eqS {s t : List Nat} : cmpW .Eq (.str s) (.str t) H P = P (decide (s = t)) := by simp [cmpW, eqW, isScalar, veq]
theorem W_neS {s t : List Nat} : cmpW .NotEq (.str s) (.str t) H P = P (!decide (s = t)) := by simp [cmpW, eqW, isScalar, veq]
theorem W_inS {s : List Nat} {c : Nat} : cmpW .In (.str [c]) (.str s) H P = P (decide (c ∈ s)) := rfl
theorem W_isN : cmpW .Is .none .none H P = P true := rfl
theorem W_isR {a : Addr} : cmpW .Is (.ref a) .none H P = P false := rfl
theorem W_isT {vs : List V} : cmpW .Is (.tup vs) .none H P = P false := rfl
theorem W_isnN : cmpW .IsNot .none .none H P = P false := rfl
theorem W_isnR {a : Addr} : cmpW .IsNot (.ref a) .none H P = P true := rfl
theorem W_isnT {vs : List V} : cmpW .IsNot (.tup vs) .none H P = P true := rfl
theorem T_b {b : Bool} : truW (.bool b) H P = P b := rfl
theorem T_i : truW (.int i) H P = P (decide (i ≠ 0)) := rfl
theorem T_s {s : List Nat} : truW (.str s) H P = P (!s.isEmpty) := rfl
theorem T_n : truW .none H P = P false := rfl
theorem or_F {b : Bool} {A : Prop} {B : Bool → Prop} (h : b = false) (q : A) : truW (.bool b) H (fun t => if t = false then A else B t) := by subst h; exact q
theorem or_T {b : Bool} {A : Prop} {B : Bool → Prop} (h : b = true) (q : B true) : truW (.bool b) H (fun t => if t = false then A else B t) := by subst h; exact q
theorem and_T {b : Bool} {A : Prop} {B : Bool → Prop} (h : b = true) (q : A) : truW (.bool b) H (fun t => if t = true then A else B t) := by subst h; exact q
theorem and_F {b : Bool} {A : Prop} {B : Bool → Prop} (h : b = false) (q : B false) : truW (.bool b) H (fun t => if t = true then A else B t) := by subst h; exact q
variable {A B : Prop}
theorem if_T (q : A) : (if true = true then A else B) := q
theorem if_F (q : B) : (if false = true then A else B) := q
theorem if_d {p : Prop} [Decidable p] (h1 : p → A) (h2 : ¬p → B) : (if decide p = true then A else B) := by
  by_cases h : p
  · rw [if_pos (decide_eq_true h)]; exact h1 h
  · rw [if_neg (by simpa using h)]; exact h2 h
theorem if_b {b : Bool} (h1 : b = true → A) (h2 : b = false → B) : (if b = true then A else B) := by
  cases b
  · exact h2 rfl
  · exact h1 rfl
end
end Mine

namespace Mine

theorem mg_non {K : Frag} {h : Heap} {mg : Str → Option Value} {n : Str} (X : K.In h) (G : h.Ns mainGlobals mg) (e : nsIn K mainGlobals n = some none) : mg n = none := by
  obtain ⟨o, es, ep, ho, hd, _, hf⟩ := G
  unfold nsIn at e
  split at e
  · rename_i c d es' n' sl q
    have := X _ _ q
    rw [ho] at this
    cases this
    cases hd
    split at e
    · cases e
    · rename_i en
      rw [← hf]
      unfold nsFind findBy
      rw [← Array.find?_toList, en]
      rfl
  · cases e

noncomputable def globRep (K : Frag) : V → Value → Bool
  | .ref a, .ref b => a == b
  | .tup ls, .ref a => (match K.lookup a with
    | some ⟨.type t, none, .seq items _, sl⟩ => t == "tuple" && sl.isEmpty && valsIs ls items.toList
    | _ => false)
  | v, x => valIs v x
theorem globRep_rep {K : Frag} {h : Heap} (X : K.In h) {v : V} {x : Value} (e : globRep K v x = true) : Rep h v x := by
  unfold globRep at e
  split at e
  · simp at e; subst e; exact .ref _
  · rename_i ls a
    split at e
    · rename_i t items n sl q
      simp only [Bool.and_eq_true, beq_iff_eq] at e
      obtain ⟨⟨e1, e2⟩, e3⟩ := e
      have := X _ _ q
      have hs : sl = #[] := by simpa using e2
      subst e1 hs
      exact .tup (vs := items.toList) (n := n) (by simpa using this) (valsIs_reps e3)
    · cases e
  · exact valIs_rep e
noncomputable def glChk (K : Frag) : List Str → List V → Bool
  | [], [] => true
  | x :: xs, v :: vs => (match nsIn K mainGlobals x with
    | some (some y) => globRep K v y
    | _ => false) && glChk K xs vs
  | _, _ => false
theorem glChk_at {K : Frag} : ∀ {gn : List Str} {gl : List V}, glChk K gn gl = true → ∀ i x, gn[i]? = some x → ∃ y, nsIn K mainGlobals x = some (some y) ∧ globRep K (gl.getD i .none) y = true
  | [], _, _, i, x, h => by simp at h
  | y :: gn, [], e, i, x, h => by unfold glChk at e; cases e
  | y :: gn, v :: gl, e, i, x, h => by
    unfold glChk at e
    rw [Bool.and_eq_true] at e
    obtain ⟨e1, e2⟩ := e
    cases i with
    | zero =>
      simp at h; subst h
      split at e1
      · rename_i z q; exact ⟨z, q, e1⟩
      · cases e1
    | succ i => exact glChk_at e2 i x (by simpa using h)

noncomputable def bltNames : List Str := ["len", "str", "int", "chr", "ord", "abs", "divmod", "min", "dict", "tuple", "range", "list", "reversed"]
noncomputable def bltChk (K : Frag) : Bool := bltNames.all fun x => nsIn K mainGlobals x == some none

theorem cxOk_of {prog : Program} {w : World} {g0 : Heap} {os : OsState} {K : Frag} {an gn : List Str} {gl : List V} {mg mb : Str → Option Value} (X : K.In g0) (g : g0.Ns mainGlobals mg) (b : g0.Ns builtinsNs mb) (hb : ∀ x : Str, x ≠ "__name__" → mb x = bootBuiltins x)
    (nl : g0.NoLimit) (sm : ∃ o, g0.get? sysModules = some o) (nd : an.Nodup) (hg : glChk K gn gl = true) (hbl : bltChk K = true) : CxOk ⟨prog, w, g0, os, K, an, gn, fun i => gl.getD i .none⟩ := by
  have blt : ∀ (x : Str) (v : Value), x ∈ bltNames → x ≠ "__name__" → bootBuiltins x = some v → GlobIs g0 x v := fun x v hx hn e => by
    have := List.all_eq_true.mp hbl x hx
    exact ⟨mg, mb, g, b, .inr ⟨mg_non X g (by simpa using this), (hb x hn).trans e⟩⟩
  refine ⟨X, sm, nl, nd, fun i x hx => ?_, fun bi => ?_, ?_, ?_, ?_⟩
  · obtain ⟨y, h1, h2⟩ := glChk_at hg i x hx
    exact ⟨y, ⟨mg, mb, g, b, .inl (mg_of X g h1)⟩, globRep_rep X h2⟩
  · cases bi <;> exact blt _ _ (by simp [bltNames, biName]) (by decide +kernel) (by kernel_rfl)
  · exact blt _ _ (by simp [bltNames]) (by decide +kernel) (by kernel_rfl)
  · exact blt _ _ (by simp [bltNames]) (by decide +kernel) (by kernel_rfl)
  · exact blt _ _ (by simp [bltNames]) (by decide +kernel) (by kernel_rfl)

theorem ints_reps {h : Heap} {vs : List Value} {ns : List Int} (i : IntsAre vs ns) : Reps h (ns.map .int) vs := by
  induction i with
  | nil => exact .nil
  | cons n t _ ih => exact .cons (.int n t) ih

theorem law_good {cx : Cx} {n : Nat} {f sa : Addr} {s₁ : Shared} {cl : Str → Option Addr} {mean : ExcName → Option Value} {args : List WData} {c : ClaimW} (hn : n ≤ 300) (h0 : cx.g0 = s₁.heap) (h1 : cx.os0 = s₁.os) (hg : s₁.gens = #[])
    (hr : ∀ cls, c.raises args cls = false) (hp : c.post args (.bool true) args = true)
    (h : CallOk cx n f [.ref sa] (fun _ => none) fun v _ => v = .bool true) : codeAny (model cx.prog cx.w) callerA (.call (.ref f) ⟨[.ref sa], []⟩) (GoodWG c cl mean args s₁) s₁ := by
  have S : St cx (fun _ => none) s₁ := ⟨fun a o e => ⟨h0 ▸ e, rfl⟩, fun a ao e => (by cases e), hg, h1.symm⟩
  refine codeAny_mono (h.2 callerA s₁ [.ref sa] ⟨?_, ?_, rfl⟩ S (.cons (.ref _) .nil)) fun r s' q => ?_
  · show 1 + claimMargin + 2 * n + 20 ≤ recursionLimit
    unfold claimMargin recursionLimit; omega
  · show 4 + 8 * n + 200 ≤ cLine
    unfold cLine; omega
  · obtain ⟨v, rfl, x, H', S', E, r, rfl⟩ := q
    cases r
    refine ⟨.inl ⟨_, _, [], rfl, hr, ReadsW.bool true, hp, fun _ => ⟨List.nodup_nil, fun _ hm => (nomatch hm)⟩⟩, .of_keep fun b o e => (S'.keep b o (h0 ▸ e)).1, S'.os.trans h1, .of_eq S'.gens⟩
end Mine

namespace Mine
theorem tru_f {b : Bool} {H : AH} {A B : Prop} (h : b = false) (q : B) : truW (.bool b) H (fun t => if t = true then A else B) := by subst h; exact q
theorem tru_t {b : Bool} {H : AH} {A B : Prop} (h : b = true) (q : A) : truW (.bool b) H (fun t => if t = true then A else B) := by subst h; exact q
end Mine

namespace Mine.PJ
open Mine
noncomputable def n_fixed_atoms : List Str := []
noncomputable def b_fixed_atoms : PSs := (.cons (.ret (.tuple (.cons (.c (.str [91, 93])) (.cons (.c (.str [46])) (.cons (.c (.str [123, 125])) (.cons (.c (.str [45])) (.cons (.c (.str [43])) (.cons (.c (.str [42])) (.cons (.c (.str [47])) (.cons (.c (.str [44])) (.cons (.c (.str [124])) (.cons (.c (.str [59])) (.cons (.c (.str [45, 62])) (.cons (.c (.str [92, 43])) (.cons (.c (.str [58, 45])) (.cons (.c (.str [63, 45])) (.cons (.c (.str [45, 45, 62])) (.cons (.c (.str [33])) (.cons (.c (.str [116, 114, 117, 101])) (.cons (.c (.str [102, 97, 105, 108])) (.cons (.c (.str [102, 97, 108, 115, 101])) (.cons (.c (.str [99, 97, 108, 108])) (.cons (.c (.str [61])) (.cons (.c (.str [94])) (.cons (.c (.str [101, 114, 114, 111, 114])) (.cons (.c (.str [])) (.cons (.c (.str [101, 110, 100, 95, 111, 102, 95, 102, 105, 108, 101])) (.cons (.c (.str [115, 121, 115, 116, 101, 109])) (.cons (.c (.str [36, 86, 65, 82])) (.cons (.c (.str [99, 97, 116, 99, 104])) (.cons (.c (.str [116, 104, 114, 111, 119])) .nil)))))))))))))))))))))))))))))))
 .nil)
noncomputable def n_fixed_functors : List Str := []
noncomputable def b_fixed_functors : PSs := (.cons (.ret (.tuple (.cons (.tuple (.cons (.c (.str [46])) (.cons (.c (.int 2)) .nil))) (.cons (.tuple (.cons (.c (.str [44])) (.cons (.c (.int 2)) .nil))) (.cons (.tuple (.cons (.c (.str [59])) (.cons (.c (.int 2)) .nil))) (.cons (.tuple (.cons (.c (.str [45, 62])) (.cons (.c (.int 2)) .nil))) (.cons (.tuple (.cons (.c (.str [92, 43])) (.cons (.c (.int 1)) .nil))) (.cons (.tuple (.cons (.c (.str [58, 45])) (.cons (.c (.int 2)) .nil))) (.cons (.tuple (.cons (.c (.str [58, 45])) (.cons (.c (.int 1)) .nil))) (.cons (.tuple (.cons (.c (.str [63, 45])) (.cons (.c (.int 1)) .nil))) (.cons (.tuple (.cons (.c (.str [45, 45, 62])) (.cons (.c (.int 2)) .nil))) (.cons (.tuple (.cons (.c (.str [123, 125])) (.cons (.c (.int 1)) .nil))) (.cons (.tuple (.cons (.c (.str [61])) (.cons (.c (.int 2)) .nil))) (.cons (.tuple (.cons (.c (.str [94])) (.cons (.c (.int 2)) .nil))) (.cons (.tuple (.cons (.c (.str [45])) (.cons (.c (.int 1)) .nil))) (.cons (.tuple (.cons (.c (.str [45])) (.cons (.c (.int 2)) .nil))) (.cons (.tuple (.cons (.c (.str [43])) (.cons (.c (.int 2)) .nil))) (.cons (.tuple (.cons (.c (.str [47])) (.cons (.c (.int 2)) .nil))) (.cons (.tuple (.cons (.c (.str [101, 114, 114, 111, 114])) (.cons (.c (.int 2)) .nil))) (.cons (.tuple (.cons (.c (.str [36, 86, 65, 82])) (.cons (.c (.int 1)) .nil))) (.cons (.tuple (.cons (.c (.str [99, 97, 116, 99, 104])) (.cons (.c (.int 3)) .nil))) (.cons (.tuple (.cons (.c (.str [116, 104, 114, 111, 119])) (.cons (.c (.int 1)) .nil))) (.cons (.tuple (.cons (.c (.str [33])) (.cons (.c (.int 0)) .nil))) (.cons (.tuple (.cons (.c (.str [116, 114, 117, 101])) (.cons (.c (.int 0)) .nil))) (.cons (.tuple (.cons (.c (.str [102, 97, 105, 108])) (.cons (.c (.int 0)) .nil))) (.cons (.tuple (.cons (.c (.str [102, 97, 108, 115, 101])) (.cons (.c (.int 0)) .nil))) (.cons (.tuple (.cons (.c (.str [99, 97, 108, 108])) (.cons (.c (.int 1)) .nil))) (.cons (.tuple (.cons (.c (.str [99, 97, 108, 108])) (.cons (.c (.int 2)) .nil))) (.cons (.tuple (.cons (.c (.str [99, 97, 108, 108])) (.cons (.c (.int 3)) .nil))) (.cons (.tuple (.cons (.c (.str [99, 97, 108, 108])) (.cons (.c (.int 4)) .nil))) (.cons (.tuple (.cons (.c (.str [99, 97, 108, 108])) (.cons (.c (.int 5)) .nil))) (.cons (.tuple (.cons (.c (.str [99, 97, 108, 108])) (.cons (.c (.int 6)) .nil))) (.cons (.tuple (.cons (.c (.str [99, 97, 108, 108])) (.cons (.c (.int 7)) .nil))) (.cons (.tuple (.cons (.c (.str [99, 97, 108, 108])) (.cons (.c (.int 8)) .nil))) .nil))))))))))))))))))))))))))))))))))
 .nil)
noncomputable def n_Symbols___init__ : List Str := ["self", "text", "row"]
noncomputable def b_Symbols___init__ : PSs := (.cons (.setattr (.x 0) 5 (.list .nil))
 (.cons (.setattr (.x 0) 4 .dict)
 (.cons (.setattr (.x 0) 3 (.list .nil))
 (.cons (.setattr (.x 0) 2 .dict)
 (.cons (.for1 1 (.val (.call 1 .nil)) (.cons (.expr (.meth (.x 0) 1 (.cons (.x 1) .nil)))
 .nil))
 (.cons (.for1 2 (.val (.call 0 .nil)) (.cons (.expr (.meth (.x 0) 0 (.cons (.sub (.x 2) (.c (.int 0))) (.cons (.sub (.x 2) (.c (.int 1))) .nil))))
 .nil))
 .nil))))))
noncomputable def n_Symbols_atom : List Str := ["self", "text", "found", "number"]
noncomputable def b_Symbols_atom : PSs := (.cons (.asg 2 (.bm .get (.attr (.x 0) 4) (.cons (.x 1) (.cons (.neg (.c (.int 1))) .nil))))
 (.cons (.ite (.cmp .GtE (.x 2) (.c (.int 0))) (.cons (.ret (.x 2))
 .nil) .nil)
 (.cons (.asg 3 (.bi .len (.cons (.attr (.x 0) 5) .nil)))
 (.cons (.expr (.bm .append (.attr (.x 0) 5) (.cons (.x 1) .nil)))
 (.cons (.setsub (.attr (.x 0) 4) (.x 1) (.x 3))
 (.cons (.ret (.x 3))
 .nil))))))
noncomputable def n_Symbols_functor : List Str := ["self", "atom", "arity", "key", "found", "number"]
noncomputable def b_Symbols_functor : PSs := (.cons (.asg 3 (.tuple (.cons (.x 1) (.cons (.x 2) .nil))))
 (.cons (.asg 4 (.bm .get (.attr (.x 0) 2) (.cons (.x 3) (.cons (.neg (.c (.int 1))) .nil))))
 (.cons (.ite (.cmp .GtE (.x 4) (.c (.int 0))) (.cons (.ret (.x 4))
 .nil) .nil)
 (.cons (.asg 5 (.bi .len (.cons (.attr (.x 0) 3) .nil)))
 (.cons (.expr (.bm .append (.attr (.x 0) 3) (.cons (.x 3) .nil)))
 (.cons (.setsub (.attr (.x 0) 2) (.x 3) (.x 5))
 (.cons (.ret (.x 5))
 .nil)))))))
noncomputable def n_Symbols_func : List Str := ["self", "text", "arity"]
noncomputable def b_Symbols_func : PSs := (.cons (.ret (.meth (.x 0) 6 (.cons (.meth (.x 0) 1 (.cons (.x 1) .nil)) (.cons (.x 2) .nil))))
 .nil)
noncomputable def n_is_digit : List Str := ["code"]
noncomputable def b_is_digit : PSs := (.cons (.ret (.bop true (.cons (.cmp .LtE (.c (.int 48)) (.x 0)) (.cons (.cmp .LtE (.x 0) (.c (.int 57))) .nil))))
 .nil)
noncomputable def n_is_small : List Str := ["code"]
noncomputable def b_is_small : PSs := (.cons (.ret (.bop true (.cons (.cmp .LtE (.c (.int 97)) (.x 0)) (.cons (.cmp .LtE (.x 0) (.c (.int 122))) .nil))))
 .nil)
noncomputable def n_is_capital : List Str := ["code"]
noncomputable def b_is_capital : PSs := (.cons (.ret (.bop true (.cons (.cmp .LtE (.c (.int 65)) (.x 0)) (.cons (.cmp .LtE (.x 0) (.c (.int 90))) .nil))))
 .nil)
noncomputable def n_is_alnum : List Str := ["code"]
noncomputable def b_is_alnum : PSs := (.cons (.ret (.bop false (.cons (.call 5 (.cons (.x 0) .nil)) (.cons (.call 4 (.cons (.x 0) .nil)) (.cons (.call 3 (.cons (.x 0) .nil)) (.cons (.cmp .Eq (.x 0) (.c (.int 95))) .nil))))))
 .nil)
noncomputable def n_is_symbol : List Str := ["code"]
noncomputable def b_is_symbol : PSs := (.cons (.ret (.bop true (.cons (.cmp .LtE (.c (.int 0)) (.x 0)) (.cons (.cmp .Lt (.x 0) (.c (.int 128))) (.cons (.cmp .In (.bi .chr (.cons (.x 0) .nil)) (.c (.str [43, 45, 42, 47, 92, 94, 60, 62, 61, 126, 58, 46, 63, 64, 35, 38, 36]))) .nil)))))
 .nil)
noncomputable def n_fixity : List Str := ["type_text"]
noncomputable def b_fixity : PSs := (.cons (.ite (.cmp .In (.x 0) (.g 12)) (.cons (.ret (.c (.str [112, 114, 101, 102, 105, 120])))
 .nil) .nil)
 (.cons (.ite (.cmp .In (.x 0) (.g 11)) (.cons (.ret (.c (.str [105, 110, 102, 105, 120])))
 .nil) .nil)
 (.cons (.ite (.cmp .In (.x 0) (.g 10)) (.cons (.ret (.c (.str [112, 111, 115, 116, 102, 105, 120])))
 .nil) .nil)
 (.cons (.ret (.c .none))
 .nil))))
noncomputable def n_OperatorTable___init__ : List Str := ["self", "symbols", "standard", "priority", "type_text", "names", "name"]
noncomputable def b_OperatorTable___init__ : PSs := (.cons (.setattr (.x 0) 11 (.x 1))
 (.cons (.setattr (.x 0) 10 .dict)
 (.cons (.setattr (.x 0) 9 .dict)
 (.cons (.setattr (.x 0) 8 .dict)
 (.cons (.expr (.meth (.x 0) 7 (.cons (.g 15) (.cons (.c (.str [120, 102, 121])) (.cons (.g 14) .nil)))))
 (.cons (.ite (.x 2) (.cons .bad
 .nil) .nil)
 .nil))))))
noncomputable def n_OperatorTable_table_of : List Str := ["self", "type_text", "kind"]
noncomputable def b_OperatorTable_table_of : PSs := (.cons (.asg 2 (.call 16 (.cons (.x 1) .nil)))
 (.cons (.ite (.cmp .Eq (.x 2) (.c (.str [112, 114, 101, 102, 105, 120]))) (.cons (.ret (.attr (.x 0) 10))
 .nil) .nil)
 (.cons (.ite (.cmp .Eq (.x 2) (.c (.str [105, 110, 102, 105, 120]))) (.cons (.ret (.attr (.x 0) 9))
 .nil) .nil)
 (.cons (.ret (.attr (.x 0) 8))
 .nil))))
noncomputable def n_OperatorTable_add : List Str := ["self", "priority", "type_text", "a", "table"]
noncomputable def b_OperatorTable_add : PSs := (.cons (.asg 4 (.meth (.x 0) 12 (.cons (.x 2) .nil)))
 (.cons (.ite (.cmp .Gt (.x 1) (.c (.int 0))) (.cons (.setsub (.x 4) (.x 3) (.tuple (.cons (.x 1) (.cons (.x 2) .nil))))
 .nil) (.cons (.ite (.cmp .In (.x 3) (.x 4)) (.cons .bad
 .nil) .nil)
 .nil))
 .nil))
noncomputable def n_is_word : List Str := ["char", "code"]
noncomputable def b_is_word : PSs := (.cons (.asg 1 (.bi .ord (.cons (.x 0) .nil)))
 (.cons (.ret (.bop false (.cons (.call 6 (.cons (.x 1) .nil)) (.cons (.cmp .GtE (.x 1) (.c (.int 128))) .nil))))
 .nil))
noncomputable def n_Writer___init__ : List Str := ["self", "symbols", "operators", "quoted", "ignore_ops", "numbervars", "names", "k", "text"]
noncomputable def b_Writer___init__ : PSs := (.cons (.setattr (.x 0) 11 (.x 1))
 (.cons (.setattr (.x 0) 23 (.x 2))
 (.cons (.setattr (.x 0) 22 (.x 3))
 (.cons (.setattr (.x 0) 21 (.x 4))
 (.cons (.setattr (.x 0) 20 (.x 5))
 (.cons (.setattr (.x 0) 19 .dict)
 (.cons (.setattr (.x 0) 18 .dict)
 (.cons (.ite (.cmp .IsNot (.x 6) (.c .none)) (.cons .bad
 .nil) .nil)
 (.cons (.setattr (.x 0) 17 (.list .nil))
 (.cons (.setattr (.x 0) 16 (.c (.str [])))
 (.cons (.setattr (.x 0) 15 (.c (.bool false)))
 (.cons (.setattr (.x 0) 14 (.list .nil))
 .nil))))))))))))
noncomputable def n_Writer_raw : List Str := ["self", "text"]
noncomputable def b_Writer_raw : PSs := (.cons (.ite (.cmp .NotEq (.x 1) (.c (.str []))) (.cons (.expr (.bm .append (.attr (.x 0) 17) (.cons (.x 1) .nil)))
 (.cons (.setattr (.x 0) 16 (.sub (.x 1) (.bin .Sub (.bi .len (.cons (.x 1) .nil)) (.c (.int 1)))))
 (.cons (.setattr (.x 0) 15 (.c (.bool false)))
 .nil))) .nil)
 .nil)
noncomputable def n_Writer_token : List Str := ["self", "text"]
noncomputable def b_Writer_token : PSs := (.cons (.ite (.cmp .NotEq (.x 1) (.c (.str []))) (.cons (.ite (.meth (.x 0) 28 (.cons (.sub (.x 1) (.c (.int 0))) .nil)) (.cons (.expr (.bm .append (.attr (.x 0) 17) (.cons (.c (.str [32])) .nil)))
 .nil) .nil)
 (.cons (.expr (.meth (.x 0) 27 (.cons (.x 1) .nil)))
 .nil)) .nil)
 .nil)
noncomputable def n_Writer_needs_space : List Str := ["self", "first"]
noncomputable def b_Writer_needs_space : PSs := (.cons (.ite (.bop false (.cons (.cmp .Eq (.attr (.x 0) 16) (.c (.str []))) (.cons (.cmp .Eq (.attr (.x 0) 16) (.c (.str [32]))) .nil))) (.cons (.ret (.c (.bool false)))
 .nil) .nil)
 (.cons (.ite (.bop true (.cons (.attr (.x 0) 15) (.cons (.bop false (.cons (.cmp .Eq (.x 1) (.c (.str [40]))) (.cons (.bop true (.cons (.cmp .Eq (.attr (.x 0) 16) (.c (.str [45]))) (.cons (.call 3 (.cons (.bi .ord (.cons (.x 1) .nil)) .nil)) .nil))) .nil))) .nil))) (.cons (.ret (.c (.bool true)))
 .nil) .nil)
 (.cons (.ite (.call 22 (.cons (.attr (.x 0) 16) .nil)) (.cons (.ret (.bop false (.cons (.call 22 (.cons (.x 1) .nil)) (.cons (.cmp .Eq (.x 1) (.c (.str [39]))) .nil))))
 .nil) .nil)
 (.cons (.ite (.call 7 (.cons (.bi .ord (.cons (.attr (.x 0) 16) .nil)) .nil)) (.cons (.ret (.call 7 (.cons (.bi .ord (.cons (.x 1) .nil)) .nil)))
 .nil) .nil)
 (.cons (.ret (.bop true (.cons (.cmp .Eq (.attr (.x 0) 16) (.c (.str [39]))) (.cons (.cmp .Eq (.x 1) (.c (.str [39]))) .nil))))
 .nil)))))
noncomputable def n__law_row : List Str := ["script", "row", "cell", "rest", "turn"]
noncomputable def b__law_row : PSs := (.cons (.asg 1 (.list .nil))
 (.cons (.for1 2 (.val (.slice (.x 0) (.c .none) (.c (.int 40)))) (.cons (.asg 3 (.bi .int (.cons (.x 2) .nil)))
 (.cons (.for1 4 (.range (.bi .min (.cons (.c (.int 30)) (.cons (.bin .Sub (.c (.int 90)) (.bi .len (.cons (.x 1) .nil))) .nil)))) (.cons (.expr (.bm .append (.x 1) (.cons (.bin .Mod (.x 3) (.c (.int 96))) .nil)))
 (.cons (.asg 3 (.bin .FloorDiv (.x 3) (.c (.int 96))))
 (.cons (.ite (.bop false (.cons (.cmp .Eq (.x 3) (.c (.int 0))) (.cons (.cmp .Eq (.x 3) (.neg (.c (.int 1)))) .nil))) (.cons .brk
 .nil) .nil)
 .nil))))
 .nil)))
 (.cons (.expr (.bm .reverse (.x 1) .nil))
 (.cons (.ret (.x 1))
 .nil))))
noncomputable def n__law_next : List Str := ["row", "many"]
noncomputable def b__law_next : PSs := (.cons (.ret (.ite (.cmp .Gt (.bi .len (.cons (.x 0) .nil)) (.c (.int 0))) (.bin .Mod (.bm .pop (.x 0) .nil) (.x 1)) (.c (.int 0))))
 .nil)
noncomputable def anP : List Str := (["func", "atom", "functor_numbers", "functors", "atom_numbers", "texts", "functor", "add", "postfixes", "infixes", "prefixes", "symbols", "table_of", "text", "work", "prefixed"] : List Str) ++ (["last", "out", "taken", "names", "numbervars", "ignore_ops", "quoted", "operators", "write", "infix_operator", "postfix_operator", "raw", "needs_space", "token", "variable_text", "write_atom"] : List Str) ++ (["write_list", "is_numbered", "later", "write_functional", "write_operation", "shape", "is_operator", "name", "postfix", "prefix", "infix", "prefix_operator", "left_limit"] : List Str)
noncomputable def gnP : List Str := (["fixed_functors", "fixed_atoms", "F_DOT", "is_digit", "is_capital", "is_small", "is_alnum", "is_symbol", "is_symbol_name", "is_alnum_name", "POSTFIX_TYPES", "INFIX_TYPES", "PREFIX_TYPES", "standard_rows", "A_COMMA", "COMMA_PRIORITY"] : List Str) ++ (["fixity", "escaped", "is_plain_name", "quoted_text", "number_text", "WHOLE_PRIORITY", "is_word", "numbered_text", "F_CURLY", "F_VARNAME", "atom_text", "A_NIL", "ARGUMENT_PRIORITY", "list_items", "A_MINUS", "bounds"] : List Str) ++ (["is_tight", "A_BAR"] : List Str)
noncomputable def glP : List V := [.ref 35, .ref 28, (.int 0), .ref 140, .ref 154, .ref 147, .ref 161, .ref 168, .ref 189, .ref 182, (.tup [(.str [120, 102]), (.str [121, 102])]), (.tup [(.str [120, 102, 120]), (.str [120, 102, 121]), (.str [121, 102, 120])]), (.tup [(.str [102, 120]), (.str [102, 121])]), .ref 206, (.int 7), (.int 1000), .ref 213, .ref 298, .ref 196, .ref 305, .ref 175, (.int 1201), .ref 327, .ref 320, (.int 9), (.int 17), .ref 313, (.int 0), (.int 999), .ref 133, (.int 3), .ref 220, .ref 334, (.int 8)]
noncomputable def Def (cx : Cx) (f np : Nat) (nms : List Str) (dv : List V) (b : PSs) : Prop := fnChk cx f np nms dv b = true ∧ keepIn cx.K (.ref f) = true
noncomputable def attrL : List (Nat × Nat) := [(122, 5), (122, 4), (122, 3), (122, 2), (287, 11), (287, 10), (287, 9), (287, 8), (472, 11), (472, 23), (472, 22), (472, 21), (472, 20), (472, 19), (472, 18), (472, 17), (472, 16), (472, 15), (472, 14)]
noncomputable def methL : List (Nat × Nat × Nat) := [(122, 1, 56), (122, 13, 63), (122, 6, 70), (122, 0, 77), (122, 39, 84), (287, 41, 242), (287, 42, 249), (287, 40, 256), (287, 38, 263), (287, 12, 270), (287, 7, 277), (472, 13, 357), (472, 27, 364), (472, 29, 371), (472, 28, 378), (472, 34, 385), (472, 24, 392), (472, 30, 399), (472, 33, 406), (472, 31, 413), (472, 32, 420), (472, 35, 427), (472, 37, 434), (472, 36, 441), (472, 44, 448), (472, 43, 455), (472, 25, 462), (472, 26, 469)]
noncomputable def newL : List (Nat × Nat) := [(122, 49), (287, 235), (472, 349)]
structure Base (cx : Cx) : Prop where
  ok : CxOk cx
  an : ∀ k, k < anP.length → cx.an[k]? = anP[k]?
  gl : ∀ i, i < glP.length → cx.gl i = glP.getD i .none
  at_ : attrL.all (fun p => attrAt cx p.1 p.2) = true
  me_ : methL.all (fun p => methAt cx p.1 p.2.1 == some p.2.2) = true
  nw_ : newL.all (fun p => makes cx p.1 == some p.2) = true
noncomputable abbrev D_fixed_atoms (cx : Cx) : Prop := Def cx 28 0 n_fixed_atoms [] b_fixed_atoms
noncomputable abbrev D_fixed_functors (cx : Cx) : Prop := Def cx 35 0 n_fixed_functors [] b_fixed_functors
noncomputable abbrev D_Symbols___init__ (cx : Cx) : Prop := Def cx 49 1 n_Symbols___init__ [] b_Symbols___init__
noncomputable abbrev D_Symbols_atom (cx : Cx) : Prop := Def cx 56 2 n_Symbols_atom [] b_Symbols_atom
noncomputable abbrev D_Symbols_functor (cx : Cx) : Prop := Def cx 70 3 n_Symbols_functor [] b_Symbols_functor
noncomputable abbrev D_Symbols_func (cx : Cx) : Prop := Def cx 77 3 n_Symbols_func [] b_Symbols_func
noncomputable abbrev D_is_digit (cx : Cx) : Prop := Def cx 140 1 n_is_digit [] b_is_digit
noncomputable abbrev D_is_small (cx : Cx) : Prop := Def cx 147 1 n_is_small [] b_is_small
noncomputable abbrev D_is_capital (cx : Cx) : Prop := Def cx 154 1 n_is_capital [] b_is_capital
noncomputable abbrev D_is_alnum (cx : Cx) : Prop := Def cx 161 1 n_is_alnum [] b_is_alnum
noncomputable abbrev D_is_symbol (cx : Cx) : Prop := Def cx 168 1 n_is_symbol [] b_is_symbol
noncomputable abbrev D_fixity (cx : Cx) : Prop := Def cx 213 1 n_fixity [] b_fixity
noncomputable abbrev D_OperatorTable___init__ (cx : Cx) : Prop := Def cx 235 3 n_OperatorTable___init__ [(.bool true)] b_OperatorTable___init__
noncomputable abbrev D_OperatorTable_table_of (cx : Cx) : Prop := Def cx 270 2 n_OperatorTable_table_of [] b_OperatorTable_table_of
noncomputable abbrev D_OperatorTable_add (cx : Cx) : Prop := Def cx 277 4 n_OperatorTable_add [] b_OperatorTable_add
noncomputable abbrev D_is_word (cx : Cx) : Prop := Def cx 327 1 n_is_word [] b_is_word
noncomputable abbrev D_Writer___init__ (cx : Cx) : Prop := Def cx 349 7 n_Writer___init__ [(.bool true), (.bool false), (.bool false), .none] b_Writer___init__
noncomputable abbrev D_Writer_raw (cx : Cx) : Prop := Def cx 364 2 n_Writer_raw [] b_Writer_raw
noncomputable abbrev D_Writer_token (cx : Cx) : Prop := Def cx 371 2 n_Writer_token [] b_Writer_token
noncomputable abbrev D_Writer_needs_space (cx : Cx) : Prop := Def cx 378 2 n_Writer_needs_space [] b_Writer_needs_space
noncomputable abbrev D__law_row (cx : Cx) : Prop := Def cx 483 1 n__law_row [] b__law_row
noncomputable abbrev D__law_next (cx : Cx) : Prop := Def cx 490 2 n__law_next [] b__law_next
section
variable {cx : Cx}
theorem Base.attr (B : Base cx) {C k : Nat} (h : attrL.contains (C, k) = true) : attrAt cx C k = true := List.all_eq_true.mp B.at_ (C, k) (List.contains_iff_mem.mp h)
theorem Base.meth (B : Base cx) {C k f : Nat} (h : methL.contains (C, k, f) = true) : methAt cx C k = some f := by
  have := List.all_eq_true.mp B.me_ (C, k, f) (List.contains_iff_mem.mp h)
  simpa using this
theorem Base.new (B : Base cx) {C f : Nat} (h : newL.contains (C, f) = true) : makes cx C = some f := by
  have := List.all_eq_true.mp B.nw_ (C, f) (List.contains_iff_mem.mp h)
  simpa using this
theorem Base.glob (B : Base cx) {i : Nat} {v : V} (h : glP[i]? = some v) : cx.gl i = v := by
  obtain ⟨hi, e⟩ := List.getElem?_eq_some_iff.mp h
  rw [B.gl i hi, List.getD_eq_getElem?_getD, h]; rfl
theorem def_call {n f np : Nat} {nms : List Str} {dv : List V} {b : PSs} {args : List V} {H : AH} {Q : V → AH → Prop} (B : Base cx) (D : Def cx f np nms dv b) (h1 : args.length ≤ np) (h2 : np ≤ args.length + dv.length) (w : wpSs cx n b (rho0 np nms.length dv args) H (doneW Q)) : CallOk cx (n + 1) f args H Q :=
  callOk_def B.ok D.1 D.2 h1 h2 w
end
end Mine.PJ

namespace Mine.PJ
open Mine

noncomputable def Mod (A : List Addr) (H H' : AH) : Prop := ∀ b o, b ∉ A → H b = some o → H' b = some o
theorem Mod.refl (A : List Addr) (H : AH) : Mod A H H := fun _ _ _ e => e
theorem Mod.trans {A : List Addr} {H H' H'' : AH} (x : Mod A H H') (y : Mod A H' H'') : Mod A H H'' := fun b o h e => y b o h (x b o h e)
theorem Mod.wide {A B : List Addr} {H H' : AH} (x : Mod A H H') (h : ∀ a ∈ A, a ∈ B) : Mod B H H' := fun b o q e => x b o (fun z => q (h b z)) e
theorem Mod.set {A : List Addr} {H : AH} {a : Addr} {o : AObj} (h : a ∈ A) : Mod A H (H.set a o) := fun b x q e => by
  rw [AH.set_ne _ _ (fun z => q (by rw [z]; exact h))]; exact e
theorem Mod.new {A : List Addr} {H : AH} {a : Addr} {o : AObj} (h : H a = none) : Mod A H (H.set a o) := fun b x q e => by
  rw [AH.set_ne _ _ (ne_of_none e h)]; exact e
theorem Mod.keep {H H' : AH} (x : Mod [] H H') : Keep H H' := fun b o e => x b o (by simp) e
theorem Keep.mod {H H' : AH} (x : Keep H H') : Mod [] H H' := fun b o _ e => x b o e

noncomputable def stL (T : List (List Nat)) : List V := T.map .str
theorem stL_any (T : List (List Nat)) (s : List Nat) : ((stL T).any fun y => veq y (.str s)) = decide (s ∈ T) := by
  unfold stL
  rw [List.any_map, Bool.eq_iff_iff]
  simp [veq]
theorem stL_sc (T : List (List Nat)) : (stL T).all isScalar = true := by unfold stL; simp [isScalar]
theorem stL_len (T : List (List Nat)) : (stL T).length = T.length := List.length_map ..
theorem stL_app (T T' : List (List Nat)) : stL (T ++ T') = stL T ++ stL T' := List.map_append ..
theorem stL_go : ∀ (T T' : List (List Nat)), veq.go (stL T) (stL T') = decide (T = T')
  | [], [] => rfl
  | [], _ :: _ => rfl
  | _ :: _, [] => rfl
  | s :: T, t :: T' => by
    show (veq (.str s) (.str t) && veq.go (stL T) (stL T')) = _
    rw [stL_go T T', Bool.eq_iff_iff]; simp [veq]

section
variable {α : Type} [DecidableEq α]
noncomputable def posn (s : α) : List α → Option Nat
  | [] => none
  | t :: r => if t = s then some 0 else (posn s r).map (· + 1)
theorem posn_get {s : α} : ∀ {T : List α} {i : Nat}, posn s T = some i → T[i]? = some s
  | [], i, h => by cases h
  | t :: r, i, h => by
    unfold posn at h
    split at h
    · cases h; simpa
    · obtain ⟨j, hj, rfl⟩ := Option.map_eq_some_iff.mp h
      simpa using posn_get hj
theorem posn_none {s : α} : ∀ {T : List α}, posn s T = none → s ∉ T
  | [], _ => by simp
  | t :: r, h => by
    unfold posn at h
    split at h
    · cases h
    · rename_i ne
      have := posn_none (Option.map_eq_none_iff.mp h)
      simp only [List.mem_cons, not_or]
      exact ⟨fun z => ne z.symm, this⟩
noncomputable def addP (T : List α) (s : α) : Nat × List α := match posn s T with
  | some i => (i, T)
  | none => (T.length, T ++ [s])
noncomputable def entsOf (f : α → V) : List α → Nat → List (V × V)
  | [], _ => []
  | t :: r, k => (f t, .int (k : Int)) :: entsOf f r (k + 1)
variable {f : α → V} (hf : ∀ a b, veq (f a) (f b) = decide (a = b))
include hf
theorem ents_look (s : α) : ∀ (T : List α) (k : Nat), lookV (entsOf f T k) (f s) = (posn s T).map fun i => V.int ((k + i : Nat) : Int)
  | [], k => rfl
  | t :: r, k => by
    unfold lookV entsOf posn
    rw [List.find?_cons]
    simp only [hf]
    by_cases q : t = s
    · simp [q]
    · simp only [q, decide_false, if_false]
      have := ents_look s r (k + 1)
      unfold lookV at this
      rw [this]
      cases posn s r with
      | none => rfl
      | some i => simp; omega
theorem ents_any (s : α) : ∀ (T : List α) (k : Nat), ((entsOf f T k).any fun e => veq e.1 (f s)) = (posn s T).isSome
  | [], k => rfl
  | t :: r, k => by
    unfold entsOf posn
    rw [List.any_cons, ents_any s r (k + 1)]
    simp only [hf]
    by_cases q : t = s
    · simp [q]
    · simp [q]
theorem ents_put {s : α} {T : List α} (h : posn s T = none) : putV (entsOf f T 0) (f s) (.int (T.length : Int)) = entsOf f (T ++ [s]) 0 := by
  unfold putV
  rw [ents_any hf, h]
  have : ∀ (T : List α) (k : Nat), entsOf f (T ++ [s]) k = entsOf f T k ++ [(f s, .int ((k + T.length : Nat) : Int))] := by
    intro T
    induction T with
    | nil => intro k; simp [entsOf]
    | cons t r ih => intro k; simp only [List.cons_append, entsOf, ih, List.length_cons]; simp; omega
  simp [this]
omit hf
theorem ents_len (f : α → V) : ∀ (T : List α) (k : Nat), (entsOf f T k).length = T.length
  | [], _ => rfl
  | _ :: r, k => by simp [entsOf, ents_len f r (k + 1)]
theorem ents_key (f : α → V) : ∀ (T : List α) (k : Nat), ∀ e ∈ entsOf f T k, ∃ a, e.1 = f a
  | [], _, e, h => by simp [entsOf] at h
  | t :: r, k, e, h => by
    simp only [entsOf, List.mem_cons] at h
    rcases h with rfl | h
    · exact ⟨t, rfl⟩
    · exact ents_key f r (k + 1) e h
end
theorem veq_str (a b : List Nat) : veq (.str a) (.str b) = decide (a = b) := rfl
noncomputable def prV (p : Int × Int) : V := .tup [.int p.1, .int p.2]
theorem veq_pr (a b : Int × Int) : veq (prV a) (prV b) = decide (a = b) := by
  show (decide (a.1 = b.1) && (decide (a.2 = b.2) && true)) = _
  rw [Bool.eq_iff_iff]; simp [Prod.ext_iff]

structure SA where
  (x d lt da lf df : Addr)
structure Sy (H : AH) (a : SA) (T : List (List Nat)) (F : List (Int × Int)) : Prop where
  hx : H a.x = some (.inst 122 a.d)
  hd : H a.d = some (.ns [(5, .ref a.lt), (4, .ref a.da), (3, .ref a.lf), (2, .ref a.df)])
  hlt : H a.lt = some (.list (stL T))
  hda : H a.da = some (.dict (entsOf .str T 0))
  hlf : H a.lf = some (.list (F.map prV))
  hdf : H a.df = some (.dict (entsOf prV F 0))
  n1 : a.lt ≠ a.lf
  n2 : a.da ≠ a.df
  l1 : T.length < 5000
  l2 : F.length < 5000
theorem Sy.mod {H H' : AH} {a : SA} {T : List (List Nat)} {F : List (Int × Int)} {A : List Addr} (S : Sy H a T F) (m : Mod A H H') (h : ∀ b ∈ A, b ≠ a.x ∧ b ≠ a.d ∧ b ≠ a.lt ∧ b ≠ a.da ∧ b ≠ a.lf ∧ b ≠ a.df) : Sy H' a T F :=
  ⟨m _ _ (fun q => (h _ q).1 rfl) S.hx, m _ _ (fun q => (h _ q).2.1 rfl) S.hd, m _ _ (fun q => (h _ q).2.2.1 rfl) S.hlt, m _ _ (fun q => (h _ q).2.2.2.1 rfl) S.hda, m _ _ (fun q => (h _ q).2.2.2.2.1 rfl) S.hlf, m _ _ (fun q => (h _ q).2.2.2.2.2 rfl) S.hdf, S.n1, S.n2, S.l1, S.l2⟩
theorem Sy.keep {H H' : AH} {a : SA} {T : List (List Nat)} {F : List (Int × Int)} (S : Sy H a T F) (m : Keep H H') : Sy H' a T F := S.mod (A := []) (Keep.mod m) (by simp)

section
variable {cx : Cx}
theorem getD_map {o : Option Nat} {f : Nat → V} {d : V} : (o.map f).getD d = match o with | some i => f i | none => d := by cases o <;> rfl

theorem atom_spec {n : Nat} {a : SA} {s : List Nat} {T : List (List Nat)} {F : List (Int × Int)} {Q : V → AH → Prop} {H : AH} (B : Base cx) (D : D_Symbols_atom cx) (S : Sy H a T F) (hl : T.length + 1 < 5000)
    (k : ∀ H' : AH, Mod [a.lt, a.da] H H' → Sy H' a (addP T s).2 F → Q (.int (addP T s).1) H') : CallOk cx (n + 1) 56 [.ref a.x, .str s] H Q := by
  refine def_call B D (by simp) (by simp) ?_
  show wpSs _ n b_Symbols_atom [some (.ref a.x), some (.str s), none, none] H _
  unfold b_Symbols_atom
  have hlim : lim = 16777216 := rfl
  have hk : ∀ e ∈ entsOf (V.str) T 0, ∃ t, e.1 = .str t := ents_key _ _ _
  simp only [Ss_cons, S_asg, wpE, wpEs, slot, setSlot, slotE]
  refine attrW_of S.hx S.hd (B.attr rfl) rfl ⟨⟨_, _, rfl, S.hda⟩, 1, rfl, _, S.hda, .inl ⟨s, rfl, hk⟩, ?_⟩
  rw [ents_look veq_str]
  simp only [seqK_next, Ss_cons, S_ite, wpE, wpEs, slot, setSlot, slotE]
  unfold addP at k
  cases q : posn s T with
  | some i =>
    rw [q] at k
    simp only [Option.map_some, Option.getD_some, Nat.zero_add, W_ge]
    refine tru_t (H := H) (decide_eq_true (by omega)) ?_
    simp only [Ss_cons, S_ret, wpE, slot, slotE, seqK_ret, doneW]
    exact k H (Mod.refl _ _) S
  | none =>
    rw [q] at k
    simp only [Option.map_none, Option.getD_none, W_ge]
    refine tru_f (H := H) (decide_eq_false (by omega)) ?_
    simp only [Ss_nil, seqK_next, Ss_cons, S_asg, S_expr, S_setsub, S_ret, seqK_ret, wpE, wpEs, slot, setSlot, slotE, doneW]
    refine attrW_of S.hx S.hd (B.attr rfl) rfl ⟨_, S.hlt, ?_⟩
    rw [stL_len]
    refine attrW_of S.hx S.hd (B.attr rfl) rfl ⟨⟨_, _, rfl, S.hlt⟩, _, S.hlt, by rw [stL_len]; omega, by simp, by simp, by simp, ?_⟩
    have a1 : a.da ≠ a.lt := ne_of_obj S.hda S.hlt (by simp)
    have a2 : a.x ≠ a.lt := ne_of_obj S.hx S.hlt (by simp)
    have a3 : a.d ≠ a.lt := ne_of_obj S.hd S.hlt (by simp)
    have a4 : a.x ≠ a.da := ne_of_obj S.hx S.hda (by simp)
    have a5 : a.d ≠ a.da := ne_of_obj S.hd S.hda (by simp)
    have a6 : a.df ≠ a.lt := ne_of_obj S.hdf S.hlt (by simp)
    have a7 : a.lf ≠ a.da := ne_of_obj S.hlf S.hda (by simp)
    refine attrW_of (by rw [AH.set_ne _ _ a2]; exact S.hx) (by rw [AH.set_ne _ _ a3]; exact S.hd) (B.attr rfl) rfl ?_
    refine ⟨_, by rw [AH.set_ne _ _ a1]; exact S.hda, .inl ⟨s, rfl, hk⟩, by rw [ents_len]; omega, ?_⟩
    rw [ents_put veq_str q]
    refine k _ ((Mod.set (by simp)).trans (Mod.set (by simp))) ⟨?_, ?_, ?_, AH.set_same .., ?_, ?_, S.n1, S.n2, by simp; omega, S.l2⟩
    · rw [AH.set_ne _ _ a4, AH.set_ne _ _ a2]; exact S.hx
    · rw [AH.set_ne _ _ a5, AH.set_ne _ _ a3]; exact S.hd
    · rw [AH.set_ne _ _ a1.symm, AH.set_same, stL_app]; rfl
    · rw [AH.set_ne _ _ a7, AH.set_ne _ _ S.n1.symm]; exact S.hlf
    · rw [AH.set_ne _ _ S.n2.symm, AH.set_ne _ _ a6]; exact S.hdf

theorem functor_spec {n : Nat} {a : SA} {i r : Int} {T : List (List Nat)} {F : List (Int × Int)} {Q : V → AH → Prop} {H : AH} (B : Base cx) (D : D_Symbols_functor cx) (S : Sy H a T F) (hl : F.length + 1 < 5000)
    (k : ∀ H' : AH, Mod [a.lf, a.df] H H' → Sy H' a T (addP F (i, r)).2 → Q (.int (addP F (i, r)).1) H') : CallOk cx (n + 1) 70 [.ref a.x, .int i, .int r] H Q := by
  refine def_call B D (by simp) (by simp) ?_
  show wpSs _ n b_Symbols_functor [some (.ref a.x), some (.int i), some (.int r), none, none, none] H _
  unfold b_Symbols_functor
  have hlim : lim = 16777216 := rfl
  have hk : ∀ e ∈ entsOf prV F 0, ∃ js : List Int, e.1 = .tup (js.map .int) := fun e he => by obtain ⟨p, hp⟩ := ents_key _ _ _ e he; exact ⟨[p.1, p.2], hp⟩
  simp only [Ss_cons, S_asg, seqK_next, wpE, wpEs, slot, setSlot, slotE]
  refine ⟨by simp [lim], ?_⟩
  refine attrW_of S.hx S.hd (B.attr rfl) rfl ⟨⟨_, _, rfl, S.hdf⟩, 1, rfl, _, S.hdf, .inr (.inr ⟨[i, r], rfl, hk⟩), ?_⟩
  rw [show V.tup [.int i, .int r] = prV (i, r) from rfl, ents_look veq_pr]
  simp only [seqK_next, Ss_cons, S_ite, wpE, wpEs, slot, setSlot, slotE]
  unfold addP at k
  cases q : posn (i, r) F with
  | some j =>
    rw [q] at k
    simp only [Option.map_some, Option.getD_some, Nat.zero_add, W_ge]
    refine tru_t (H := H) (decide_eq_true (by omega)) ?_
    simp only [Ss_cons, S_ret, wpE, slot, slotE, seqK_ret, doneW]
    exact k H (Mod.refl _ _) S
  | none =>
    rw [q] at k
    simp only [Option.map_none, Option.getD_none, W_ge]
    refine tru_f (H := H) (decide_eq_false (by omega)) ?_
    simp only [Ss_nil, seqK_next, Ss_cons, S_asg, S_expr, S_setsub, S_ret, seqK_ret, wpE, wpEs, slot, setSlot, slotE, doneW]
    refine attrW_of S.hx S.hd (B.attr rfl) rfl ⟨_, S.hlf, ?_⟩
    rw [List.length_map]
    refine attrW_of S.hx S.hd (B.attr rfl) rfl ⟨⟨_, _, rfl, S.hlf⟩, _, S.hlf, by rw [List.length_map]; omega, by simp, by simp, by simp, ?_⟩
    have a1 : a.df ≠ a.lf := ne_of_obj S.hdf S.hlf (by simp)
    have a2 : a.x ≠ a.lf := ne_of_obj S.hx S.hlf (by simp)
    have a3 : a.d ≠ a.lf := ne_of_obj S.hd S.hlf (by simp)
    have a4 : a.x ≠ a.df := ne_of_obj S.hx S.hdf (by simp)
    have a5 : a.d ≠ a.df := ne_of_obj S.hd S.hdf (by simp)
    have a6 : a.da ≠ a.lf := ne_of_obj S.hda S.hlf (by simp)
    have a7 : a.lt ≠ a.df := ne_of_obj S.hlt S.hdf (by simp)
    refine attrW_of (by rw [AH.set_ne _ _ a2]; exact S.hx) (by rw [AH.set_ne _ _ a3]; exact S.hd) (B.attr rfl) rfl ?_
    refine ⟨_, by rw [AH.set_ne _ _ a1]; exact S.hdf, .inr (.inr ⟨[i, r], rfl, hk⟩), by rw [ents_len]; omega, ?_⟩
    rw [ents_put veq_pr q]
    refine k _ ((Mod.set (by simp)).trans (Mod.set (by simp))) ⟨?_, ?_, ?_, ?_, ?_, AH.set_same .., S.n1, S.n2, S.l1, by simp; omega⟩
    · rw [AH.set_ne _ _ a4, AH.set_ne _ _ a2]; exact S.hx
    · rw [AH.set_ne _ _ a5, AH.set_ne _ _ a3]; exact S.hd
    · rw [AH.set_ne _ _ a7, AH.set_ne _ _ S.n1]; exact S.hlt
    · rw [AH.set_ne _ _ S.n2, AH.set_ne _ _ a6]; exact S.hda
    · rw [AH.set_ne _ _ a1.symm, AH.set_same]; simp [prV]
end
end Mine.PJ

namespace Mine.PJ
open Mine

section
variable {cx : Cx}
theorem sa_new {H : AH} {a C d c k : Nat} {o : AObj} {fs : List (Nat × V)} {P : AH → Prop} (hx : H a = some (.inst C d)) (hd : H d = some (.ns fs)) (hc : H c = none) (hk : attrAt cx C k = true) (hl : fs.length ≤ 100)
    (h : ∀ H' : AH, H' a = some (.inst C d) → H' d = some (.ns (putN' fs k (.ref c))) → H' c = some o → c ≠ d → Mod [d] H H' → P H') : setattrW cx (.ref a) k (.ref c) (H.set c o) P := by
  have e1 : a ≠ c := ne_of_none hx hc
  have e2 : d ≠ c := ne_of_none hd hc
  have e3 : a ≠ d := ne_of_obj hx hd (by simp)
  refine setattrW_of (by rw [AH.set_ne _ _ e1]; exact hx) (by rw [AH.set_ne _ _ e2]; exact hd) hk hl (h _ ?_ (AH.set_same ..) ?_ e2.symm ((Mod.new hc).trans (Mod.set (by simp))))
  · rw [AH.set_ne _ _ e3, AH.set_ne _ _ e1]; exact hx
  · rw [AH.set_ne _ _ e2.symm]; exact AH.set_same ..
theorem sa_val {H : AH} {a C d k : Nat} {v : V} {fs : List (Nat × V)} {P : AH → Prop} (hx : H a = some (.inst C d)) (hd : H d = some (.ns fs)) (hk : attrAt cx C k = true) (hl : fs.length ≤ 100)
    (h : ∀ H' : AH, H' a = some (.inst C d) → H' d = some (.ns (putN' fs k v)) → Mod [d] H H' → P H') : setattrW cx (.ref a) k v H P :=
  setattrW_of hx hd hk hl (h _ (by rw [AH.set_ne _ _ (ne_of_obj hx hd (by simp))]; exact hx) (AH.set_same ..) (Mod.set (by simp)))
theorem Mod.one {H H' : AH} {d b : Addr} {o : AObj} (m : Mod [d] H H') (n : b ≠ d) (e : H b = some o) : H' b = some o := m b o (by simpa using n) e

noncomputable def atoms0 : List (List Nat) := [[91, 93], [46], [123, 125], [45], [43], [42], [47], [44], [124], [59], [45, 62], [92, 43], [58, 45], [63, 45], [45, 45, 62], [33], [116, 114, 117, 101], [102, 97, 105, 108], [102, 97, 108, 115, 101], [99, 97, 108, 108], [61], [94], [101, 114, 114, 111, 114], [], [101, 110, 100, 95, 111, 102, 95, 102, 105, 108, 101], [115, 121, 115, 116, 101, 109], [36, 86, 65, 82], [99, 97, 116, 99, 104], [116, 104, 114, 111, 119]]
noncomputable def rows0 : List (List Nat × Int) := [([46], 2), ([44], 2), ([59], 2), ([45, 62], 2), ([92, 43], 1), ([58, 45], 2), ([58, 45], 1), ([63, 45], 1), ([45, 45, 62], 2), ([123, 125], 1), ([61], 2), ([94], 2), ([45], 1), ([45], 2), ([43], 2), ([47], 2), ([101, 114, 114, 111, 114], 2), ([36, 86, 65, 82], 1), ([99, 97, 116, 99, 104], 3), ([116, 104, 114, 111, 119], 1), ([33], 0), ([116, 114, 117, 101], 0), ([102, 97, 105, 108], 0), ([102, 97, 108, 115, 101], 0), ([99, 97, 108, 108], 1), ([99, 97, 108, 108], 2), ([99, 97, 108, 108], 3), ([99, 97, 108, 108], 4), ([99, 97, 108, 108], 5), ([99, 97, 108, 108], 6), ([99, 97, 108, 108], 7), ([99, 97, 108, 108], 8)]
noncomputable def rowV (r : List Nat × Int) : V := .tup [.str r.1, .int r.2]
noncomputable abbrev Tab := List (List Nat) × List (Int × Int)
noncomputable def funcP (t : Tab) (s : List Nat) (r : Int) : Nat × Tab := ((addP t.2 (((addP t.1 s).1 : Int), r)).1, ((addP t.1 s).2, (addP t.2 (((addP t.1 s).1 : Int), r)).2))
noncomputable def F0 : List (Int × Int) := [(1, 2), (7, 2), (9, 2), (10, 2), (11, 1), (12, 2), (12, 1), (13, 1), (14, 2), (2, 1), (20, 2), (21, 2), (3, 1), (3, 2), (4, 2), (6, 2), (22, 2), (26, 1), (27, 3), (28, 1), (15, 0), (16, 0), (17, 0), (18, 0), (19, 1), (19, 2), (19, 3), (19, 4), (19, 5), (19, 6), (19, 7), (19, 8)]
theorem fold_atoms : atoms0.foldl (fun T s => (addP T s).2) [] = atoms0 := by decide +kernel
theorem fold_rows : rows0.foldl (fun t r => (funcP t r.1 r.2).2) (atoms0, []) = (atoms0, F0) := by decide +kernel

theorem fixed_atoms_spec {n : Nat} {H : AH} {Q : V → AH → Prop} (B : Base cx) (D : D_fixed_atoms cx) (k : Q (.tup (stL atoms0)) H) : CallOk cx (n + 1) 28 [] H Q := by
  refine def_call B D (by simp) (by simp) ?_
  show wpSs _ n b_fixed_atoms [] H _
  unfold b_fixed_atoms
  simp only [Ss_cons, S_ret, seqK_ret, wpE, wpEs, doneW]
  exact ⟨by simp [lim], k⟩
theorem fixed_functors_spec {n : Nat} {H : AH} {Q : V → AH → Prop} (B : Base cx) (D : D_fixed_functors cx) (k : Q (.tup (rows0.map rowV)) H) : CallOk cx (n + 1) 35 [] H Q := by
  refine def_call B D (by simp) (by simp) ?_
  show wpSs _ n b_fixed_functors [] H _
  unfold b_fixed_functors
  simp only [Ss_cons, S_ret, seqK_ret, wpE, wpEs, doneW]
  simp only [List.length_cons, List.length_nil, show (2 : Nat) ≤ lim by simp [lim], true_and]
  exact ⟨by simp [lim], k⟩

noncomputable def SA.fp (a : SA) : List Addr := [a.lt, a.da, a.lf, a.df]
theorem addP_len {α : Type} [DecidableEq α] (T : List α) (s : α) : (addP T s).2.length ≤ T.length + 1 := by
  unfold addP; split <;> simp

theorem func_spec {n : Nat} {a : SA} {s : List Nat} {r : Int} {T : List (List Nat)} {F : List (Int × Int)} {Q : V → AH → Prop} {H : AH} (B : Base cx) (D : D_Symbols_func cx) (D1 : D_Symbols_atom cx) (D2 : D_Symbols_functor cx) (S : Sy H a T F) (h1 : T.length + 1 < 5000) (h2 : F.length + 1 < 5000)
    (k : ∀ H' : AH, Mod a.fp H H' → Sy H' a (funcP (T, F) s r).2.1 (funcP (T, F) s r).2.2 → Q (.int (funcP (T, F) s r).1) H') : CallOk cx (n + 1 + 1) 77 [.ref a.x, .str s, .int r] H Q := by
  refine def_call B D (by simp) (by simp) ?_
  show wpSs _ (n + 1) b_Symbols_func [some (.ref a.x), some (.str s), some (.int r)] H _
  unfold b_Symbols_func
  simp only [Ss_cons, S_ret, seqK_ret, wpE, wpEs, slot, setSlot, slotE, doneW]
  refine methW_of S.hx S.hd (f := 70) (B.meth rfl) rfl ?_
  refine methW_of S.hx S.hd (f := 56) (B.meth rfl) rfl ?_
  exact atom_spec B D1 S h1 fun H' m S' => functor_spec B D2 S' h2 fun H'' m' S'' => k H'' ((m.wide (by simp [SA.fp])).trans (m'.wide (by simp [SA.fp]))) S''

noncomputable abbrev atomB : PSs := (.cons (.expr (.meth (.x 0) 1 (.cons (.x 1) .nil))) .nil)
theorem atoms_loop {n : Nat} {a : SA} {F : List (Int × Int)} {H0 : AH} {R : FL → Rho → AH → Prop} {c : Option V} (B : Base cx) (D : D_Symbols_atom cx) : ∀ (vs : List (List Nat)) (t : Option V) (T : List (List Nat)) (H : AH), Mod a.fp H0 H → Sy H a T F → T.length + vs.length + 1 < 5000 →
    (∀ t H', Mod a.fp H0 H' → Sy H' a (vs.foldl (fun T s => (addP T s).2) T) F → R .next [some (.ref a.x), t, c] H') → forC (blk cx (n + 1) atomB) (st1 1) (fun _ => True) (stL vs) [some (.ref a.x), t, c] H R
  | [], t, T, H, m, S, hl, k => ⟨trivial, k t H m S⟩
  | s :: vs, t, T, H, m, S, hl, k => by
    refine ⟨trivial, ?_⟩
    show wpSs _ (n + 1) atomB [some (.ref a.x), some (.str s), c] H _
    simp only [atomB, Ss_cons, Ss_nil, S_expr, seqK_next, wpE, wpEs, slot, slotE]
    refine methW_of S.hx S.hd (f := 56) (B.meth rfl) rfl ?_
    refine atom_spec B D S (by simp at hl; omega) fun H' m' S' => ⟨by simp, by simp, by simp, ?_⟩
    exact atoms_loop B D vs _ _ H' (m.trans (m'.wide (by simp [SA.fp]))) S' (by have := addP_len T s; simp at hl; omega) k

noncomputable abbrev funcB : PSs := (.cons (.expr (.meth (.x 0) 0 (.cons (.sub (.x 2) (.c (.int 0))) (.cons (.sub (.x 2) (.c (.int 1))) .nil)))) .nil)
theorem funcs_loop {n : Nat} {a : SA} {H0 : AH} {R : FL → Rho → AH → Prop} {c : Option V} (B : Base cx) (D : D_Symbols_func cx) (D1 : D_Symbols_atom cx) (D2 : D_Symbols_functor cx) : ∀ (vs : List (List Nat × Int)) (t : Option V) (T : Tab) (H : AH), Mod a.fp H0 H → Sy H a T.1 T.2 → T.1.length + vs.length + 1 < 5000 → T.2.length + vs.length + 1 < 5000 →
    (∀ t H', Mod a.fp H0 H' → Sy H' a (vs.foldl (fun t r => (funcP t r.1 r.2).2) T).1 (vs.foldl (fun t r => (funcP t r.1 r.2).2) T).2 → R .next [some (.ref a.x), c, t] H') → forC (blk cx (n + 1 + 1) funcB) (st1 2) (fun _ => True) (vs.map rowV) [some (.ref a.x), c, t] H R
  | [], t, T, H, m, S, h1, h2, k => ⟨trivial, k t H m S⟩
  | (s, r) :: vs, t, T, H, m, S, h1, h2, k => by
    refine ⟨trivial, ?_⟩
    show wpSs _ (n + 1 + 1) funcB [some (.ref a.x), c, some (.tup [.str s, .int r])] H _
    simp only [funcB, Ss_cons, Ss_nil, S_expr, seqK_next, wpE, wpEs, slot, slotE]
    refine methW_of S.hx S.hd (f := 77) (B.meth rfl) rfl ?_
    refine ⟨0, _, rfl, by simp [lim], rfl, ?_⟩
    refine ⟨1, _, rfl, by simp [lim], rfl, ?_⟩
    have l1 := addP_len T.1 s
    have l2 := addP_len T.2 (((addP T.1 s).1 : Int), r)
    refine func_spec B D D1 D2 S (by simp at h1; omega) (by simp at h2; omega) fun H' m' S' => ⟨by simp, by simp, by simp, ?_⟩
    exact funcs_loop B D D1 D2 vs _ (funcP T s r).2 H' (m.trans m') S' (by simp at h1; show (addP T.1 s).2.length + _ + _ < _; omega) (by simp at h2; show (addP T.2 _).2.length + _ + _ < _; omega) k

structure DSy (cx : Cx) : Prop where
  i : D_Symbols___init__ cx
  a : D_Symbols_atom cx
  f : D_Symbols_functor cx
  u : D_Symbols_func cx
  fa : D_fixed_atoms cx
  ff : D_fixed_functors cx

theorem syInit_spec {n : Nat} {x d : Addr} {Q : V → AH → Prop} {H : AH} (B : Base cx) (D : DSy cx) (hx : H x = some (.inst 122 d)) (hd : H d = some (.ns []))
    (k : ∀ (a : SA) (H' : AH), a.x = x → a.d = d → (∀ b ∈ a.fp, H b = none) → Mod [d] H H' → Sy H' a atoms0 F0 → Q .none H') : CallOk cx (n + 1 + 1 + 1) 49 [.ref x] H Q := by
  refine def_call B D.i (by simp) (by simp) ?_
  show wpSs _ (n + 1 + 1) b_Symbols___init__ [some (.ref x), none, none] H _
  unfold b_Symbols___init__
  simp only [Ss_cons, S_setattr, seqK_next, wpE, wpEs, slot, slotE]
  have L0 : (0 : Nat) ≤ lim := Nat.zero_le _
  refine ⟨L0, fun lt hlt => ?_⟩
  refine sa_new hx hd hlt (B.attr rfl) (by simp) fun H1 x1 d1 c1 q1 m1 => ?_
  intro da hda
  refine sa_new x1 d1 hda (B.attr rfl) (by simp [putN']) fun H2 x2 d2 c2 q2 m2 => ?_
  refine ⟨L0, fun lf hlf => ?_⟩
  refine sa_new x2 d2 hlf (B.attr rfl) (by simp [putN']) fun H3 x3 d3 c3 q3 m3 => ?_
  intro df hdf
  refine sa_new x3 d3 hdf (B.attr rfl) (by simp [putN']) fun H4 x4 d4 c4 q4 m4 => ?_
  have c13 := m3.one q1 (m2.one q1 c1)
  have c23 := m3.one q2 c2
  have old : ∀ {K : AH} {c : Addr}, Mod [d] H K → K c = none → c ≠ d → H c = none := fun {K c} m h q => by
    cases e : H c with
    | none => rfl
    | some o => have := m.one q e; rw [h] at this; cases this
  have S : Sy H4 ⟨x, d, lt, da, lf, df⟩ [] [] := ⟨x4, d4, m4.one q1 c13, m4.one q2 c23, m4.one q3 c3, c4, ne_of_none (m2.one q1 c1) hlf, ne_of_none c23 hdf, by simp, by simp⟩
  simp only [S_for1, wpSrc, wpE, wpEs]
  rw [B.glob (i := 1) rfl]
  refine fixed_atoms_spec B D.fa ⟨by simp [stL, atoms0, lim], ?_⟩
  refine atoms_loop B D.a atoms0 none [] H4 (Mod.refl _ _) S (by decide) fun t H5 m5 S5 => ?_
  simp only [seqK_next, Ss_cons, Ss_nil, S_for1, wpSrc, wpE, wpEs]
  rw [B.glob (i := 0) rfl]
  refine fixed_functors_spec B D.ff ⟨by simp [rows0, lim], ?_⟩
  rw [fold_atoms] at S5
  refine funcs_loop B D.u D.a D.f rows0 none (atoms0, []) H5 m5 S5 (by decide) (by decide) fun t H6 m6 S6 => ?_
  rw [fold_rows] at S6
  have m12 := m1.trans m2
  have m13 := m12.trans m3
  have f1 : H lt = none := hlt
  have f2 : H da = none := old m1 hda q2
  have f3 : H lf = none := old m12 hlf q3
  have f4 : H df = none := old m13 hdf q4
  refine k ⟨x, d, lt, da, lf, df⟩ H6 rfl rfl ?_ ?_ S6
  · intro b hb
    simp only [SA.fp, List.mem_cons, List.not_mem_nil, or_false] at hb
    rcases hb with rfl | rfl | rfl | rfl <;> assumption
  · intro b o hb e
    refine m6 b o ?_ ((m13.trans m4) b o hb e)
    simp only [SA.fp, List.mem_cons, List.not_mem_nil, or_false, not_or]
    exact ⟨ne_of_none e f1, ne_of_none e f2, ne_of_none e f3, ne_of_none e f4⟩
end
end Mine.PJ

namespace Mine.PJ
open Mine

noncomputable abbrev OT := List (Int × (Int × List Nat))
noncomputable def otE (T : OT) : List (V × V) := T.map fun e => (.int e.1, .tup [.int e.2.1, .str e.2.2])
noncomputable def otPut (T : OT) (a : Int) (v : Int × List Nat) : OT := if T.any (fun e => decide (e.1 = a)) then T.map (fun e => if decide (e.1 = a) then (e.1, v) else e) else T ++ [(a, v)]
noncomputable def otGet (T : OT) (a : Int) : Option (Int × List Nat) := (T.find? fun e => decide (e.1 = a)).map (·.2)
theorem otE_any (T : OT) (a : Int) : ((otE T).any fun e => veq e.1 (.int a)) = T.any fun e => decide (e.1 = a) := by
  unfold otE; rw [List.any_map]; rfl
theorem otE_put (T : OT) (a : Int) (v : Int × List Nat) : putV (otE T) (.int a) (.tup [.int v.1, .str v.2]) = otE (otPut T a v) := by
  unfold putV otPut
  rw [otE_any]
  split
  · unfold otE
    rw [List.map_map, List.map_map]
    congr 1
    funext e
    simp only [Function.comp, veq]
    by_cases q : e.1 = a <;> simp [q]
  · simp [otE]
theorem otE_look (T : OT) (a : Int) : lookV (otE T) (.int a) = (otGet T a).map fun v => .tup [.int v.1, .str v.2] := by
  unfold lookV otE otGet
  rw [List.find?_map]
  have e : ((fun e : V × V => veq e.1 (.int a)) ∘ fun e : Int × (Int × List Nat) => (V.int e.1, V.tup [.int e.2.1, .str e.2.2])) = fun e => decide (e.1 = a) := rfl
  rw [e]
  cases T.find? fun e => decide (e.1 = a) <;> rfl
theorem otE_key (T : OT) : ∀ e ∈ otE T, ∃ j, e.1 = V.int j := fun e he => by
  unfold otE at he
  obtain ⟨e0, _, rfl⟩ := List.mem_map.mp he
  exact ⟨e0.1, rfl⟩
theorem otE_len (T : OT) : (otE T).length = T.length := List.length_map ..
theorem otPut_len (T : OT) (a : Int) (v : Int × List Nat) : (otPut T a v).length ≤ T.length + 1 := by
  unfold otPut; split <;> simp

noncomputable def kindOf (s : List Nat) : Nat := if s = [102, 120] ∨ s = [102, 121] then 0 else if s = [120, 102, 120] ∨ s = [120, 102, 121] ∨ s = [121, 102, 120] then 1 else 2
theorem kind3 (s : List Nat) : kindOf s = 0 ∨ kindOf s = 1 ∨ kindOf s = 2 := by
  unfold kindOf
  split
  · exact .inl rfl
  · split
    · exact .inr (.inl rfl)
    · exact .inr (.inr rfl)
structure OA where
  (x d sy pf nf po : Addr)
structure Op (H : AH) (a : OA) (P N S : OT) : Prop where
  hx : H a.x = some (.inst 287 a.d)
  hd : H a.d = some (.ns [(11, .ref a.sy), (10, .ref a.pf), (9, .ref a.nf), (8, .ref a.po)])
  hp : H a.pf = some (.dict (otE P))
  hn : H a.nf = some (.dict (otE N))
  hs : H a.po = some (.dict (otE S))
  n1 : a.pf ≠ a.nf
  n2 : a.pf ≠ a.po
  n3 : a.nf ≠ a.po
  l1 : P.length < 5000
  l2 : N.length < 5000
  l3 : S.length < 5000
noncomputable def OA.fp (a : OA) : List Addr := [a.pf, a.nf, a.po]
theorem Op.mod {H H' : AH} {a : OA} {P N S : OT} {A : List Addr} (o : Op H a P N S) (m : Mod A H H') (h : ∀ b ∈ A, b ≠ a.x ∧ b ≠ a.d ∧ b ≠ a.pf ∧ b ≠ a.nf ∧ b ≠ a.po) : Op H' a P N S :=
  ⟨m _ _ (fun q => (h _ q).1 rfl) o.hx, m _ _ (fun q => (h _ q).2.1 rfl) o.hd, m _ _ (fun q => (h _ q).2.2.1 rfl) o.hp, m _ _ (fun q => (h _ q).2.2.2.1 rfl) o.hn, m _ _ (fun q => (h _ q).2.2.2.2 rfl) o.hs, o.n1, o.n2, o.n3, o.l1, o.l2, o.l3⟩
theorem Op.keep {H H' : AH} {a : OA} {P N S : OT} (o : Op H a P N S) (m : Keep H H') : Op H' a P N S := o.mod (A := []) (Keep.mod m) (by simp)

section
variable {cx : Cx}
noncomputable def kindV : Nat → V
  | 0 => .str [112, 114, 101, 102, 105, 120]
  | 1 => .str [105, 110, 102, 105, 120]
  | _ => .str [112, 111, 115, 116, 102, 105, 120]
noncomputable def types : List (List Nat) := [[121, 102, 120], [102, 121], [120, 102, 121], [120, 102, 120], [102, 120], [120, 102], [121, 102]]
theorem fixity_spec {n : Nat} {s : List Nat} {H : AH} {Q : V → AH → Prop} (B : Base cx) (D : D_fixity cx) (hs : s ∈ types) (k : Q (kindV (kindOf s)) H) : CallOk cx (n + 1) 213 [.str s] H Q := by
  refine def_call B D (by simp) (by simp) ?_
  show wpSs _ n b_fixity [some (.str s)] H _
  unfold b_fixity
  simp only [Ss_cons, S_ite, E_cmp, E_x, E_g, slot, slotE]
  rw [B.glob (i := 12) rfl]
  have step : ∀ {b : Bool} {P1 P2 : Prop}, (b = true → P1) → (b = false → P2) → truW (.bool b) H (fun t => if t = true then P1 else P2) := fun {b P1 P2} h1 h2 => by cases b <;> simp [truW, *]
  refine ⟨rfl, rfl, ?_⟩
  dsimp only
  refine step (fun e => ?_) fun e1 => ?_
  · simp only [Ss_cons, S_ret, seqK_ret, wpE, doneW]
    have : kindOf s = 0 := by simp [veq] at e; unfold kindOf; rw [if_pos (by rcases e with h | h <;> simp [← h])]
    rw [this] at k; exact k
  simp only [Ss_nil, seqK_next, Ss_cons, S_ite, E_cmp, E_x, E_g, slot, slotE]
  rw [B.glob (i := 11) rfl]
  refine ⟨rfl, rfl, ?_⟩
  dsimp only
  refine step (fun e => ?_) fun e2 => ?_
  · simp only [Ss_cons, S_ret, seqK_ret, wpE, doneW]
    have : kindOf s = 1 := by
      simp [veq] at e e1; unfold kindOf; rw [if_neg (by rintro (h | h) <;> simp [h] at e1), if_pos (by rcases e with h | h | h <;> simp [← h])]
    rw [this] at k; exact k
  skip
  rw [B.glob (i := 10) rfl]
  refine ⟨rfl, rfl, ?_⟩
  dsimp only
  refine step (fun e => ?_) fun e3 => ?_
  · simp only [Ss_cons, S_ret, seqK_ret, wpE, doneW]
    have : kindOf s = 2 := by
      simp [veq] at e1 e2; unfold kindOf; rw [if_neg (by rintro (h | h) <;> simp [h] at e1), if_neg (by rintro (h | h | h) <;> simp [h] at e2)]
    rw [this] at k; exact k
  · exfalso
    simp [veq] at e1 e2 e3
    simp only [types, List.mem_cons, List.not_mem_nil, or_false] at hs
    rcases hs with rfl | rfl | rfl | rfl | rfl | rfl | rfl <;> simp at e1 e2 e3

noncomputable def pick3 {α : Type} (i : Nat) (a b c : α) : α := match i with | 0 => a | 1 => b | _ => c
theorem tableOf_spec {n : Nat} {a : OA} {s : List Nat} {P N S : OT} {H : AH} {Q : V → AH → Prop} (B : Base cx) (D : D_OperatorTable_table_of cx) (D1 : D_fixity cx) (o : Op H a P N S) (hs : s ∈ types) (k : Q (.ref (pick3 (kindOf s) a.pf a.nf a.po)) H) :
    CallOk cx (n + 1 + 1) 270 [.ref a.x, .str s] H Q := by
  refine def_call B D (by simp) (by simp) ?_
  show wpSs _ (n + 1) b_OperatorTable_table_of [some (.ref a.x), some (.str s), none] H _
  unfold b_OperatorTable_table_of
  simp only [Ss_cons, S_asg, E_call, E_x, Es_cons, Es_nil, slot, setSlot, slotE]
  rw [B.glob (i := 16) rfl]
  refine fixity_spec B D1 hs ?_
  simp only [seqK_next, Ss_cons, S_ite, E_cmp, E_x, E_c, slot, slotE]
  have hk := kind3 s
  rcases hk with e | e | e <;> rw [e] at k ⊢
  · show cmpW .Eq (.str _) (.str _) _ _
    rw [W_eqS]
    refine tru_t (H := H) rfl ?_
    simp only [Ss_cons, S_ret, seqK_ret, wpE, slot, slotE, doneW]
    exact attrW_of o.hx o.hd (B.attr rfl) rfl k
  · show cmpW .Eq (.str _) (.str _) _ _
    rw [W_eqS]
    refine tru_f (H := H) rfl ?_
    simp only [Ss_nil, seqK_next, Ss_cons, S_ite, E_cmp, E_x, E_c, slot, slotE]
    show cmpW .Eq (.str _) (.str _) _ _
    rw [W_eqS]
    refine tru_t (H := H) rfl ?_
    simp only [Ss_cons, S_ret, seqK_ret, wpE, slot, slotE, doneW]
    exact attrW_of o.hx o.hd (B.attr rfl) rfl k
  · show cmpW .Eq (.str _) (.str _) _ _
    rw [W_eqS]
    refine tru_f (H := H) rfl ?_
    simp only [Ss_nil, seqK_next, Ss_cons, S_ite, E_cmp, E_x, E_c, slot, slotE]
    show cmpW .Eq (.str _) (.str _) _ _
    rw [W_eqS]
    refine tru_f (H := H) rfl ?_
    simp only [Ss_nil, seqK_next, Ss_cons, S_ret, seqK_ret, wpE, slot, slotE, doneW]
    exact attrW_of o.hx o.hd (B.attr rfl) rfl k

structure DOp (cx : Cx) : Prop where
  i : D_OperatorTable___init__ cx
  t : D_OperatorTable_table_of cx
  f : D_fixity cx
  a : D_OperatorTable_add cx
theorem add_spec {n : Nat} {a : OA} {i p : Int} {s : List Nat} {P N S : OT} {H : AH} {Q : V → AH → Prop} (B : Base cx) (D : DOp cx) (o : Op H a P N S) (hs : s ∈ types) (hp : 0 < p) (l1 : P.length + 1 < 5000) (l2 : N.length + 1 < 5000) (l3 : S.length + 1 < 5000)
    (k : ∀ H', Mod a.fp H H' → Op H' a (if kindOf s = 0 then otPut P i (p, s) else P) (if kindOf s = 1 then otPut N i (p, s) else N) (if kindOf s = 2 then otPut S i (p, s) else S) → Q .none H') : CallOk cx (n + 1 + 1 + 1) 277 [.ref a.x, .int p, .str s, .int i] H Q := by
  refine def_call B D.a (by simp) (by simp) ?_
  show wpSs _ (n + 1 + 1) b_OperatorTable_add [some (.ref a.x), some (.int p), some (.str s), some (.int i), none] H _
  unfold b_OperatorTable_add
  simp only [Ss_cons, S_asg, wpE, wpEs, slot, setSlot, slotE]
  refine methW_of o.hx o.hd (f := 270) (B.meth rfl) rfl (tableOf_spec B D.t D.f o hs ?_)
  simp only [seqK_next, Ss_cons, S_ite, E_cmp, E_x, E_c, slot, slotE, W_gt]
  refine tru_t (H := H) (decide_eq_true hp) ?_
  simp only [Ss_nil, seqK_next, Ss_cons, S_setsub, wpE, wpEs, slot, slotE, doneW]
  refine ⟨by simp [lim], ?_⟩
  have hlim : lim = 16777216 := rfl
  have x1 : a.x ≠ a.pf := ne_of_obj o.hx o.hp (by simp)
  have x2 : a.x ≠ a.nf := ne_of_obj o.hx o.hn (by simp)
  have x3 : a.x ≠ a.po := ne_of_obj o.hx o.hs (by simp)
  have d1 : a.d ≠ a.pf := ne_of_obj o.hd o.hp (by simp)
  have d2 : a.d ≠ a.nf := ne_of_obj o.hd o.hn (by simp)
  have d3 : a.d ≠ a.po := ne_of_obj o.hd o.hs (by simp)
  have hk := kind3 s
  rcases hk with e | e | e <;> rw [e] at k ⊢
  · refine ⟨otE P, o.hp, .inr (.inl ⟨i, rfl, otE_key P⟩), by rw [otE_len]; omega, ?_⟩
    have e' := otE_put P i (p, s)
    simp only at e'
    rw [e']
    refine k _ (Mod.set (by simp [OA.fp, pick3])) ⟨?_, ?_, AH.set_same .., ?_, ?_, o.n1, o.n2, o.n3, by have := otPut_len P i (p, s); simp; omega, o.l2, o.l3⟩
    · show (H.set a.pf _) a.x = _; rw [AH.set_ne _ _ x1]; exact o.hx
    · show (H.set a.pf _) a.d = _; rw [AH.set_ne _ _ d1]; exact o.hd
    · show (H.set a.pf _) a.nf = _; rw [AH.set_ne _ _ o.n1.symm]; exact o.hn
    · show (H.set a.pf _) a.po = _; rw [AH.set_ne _ _ o.n2.symm]; exact o.hs
  · refine ⟨otE N, o.hn, .inr (.inl ⟨i, rfl, otE_key N⟩), by rw [otE_len]; omega, ?_⟩
    have e' := otE_put N i (p, s)
    simp only at e'
    rw [e']
    refine k _ (Mod.set (by simp [OA.fp, pick3])) ⟨?_, ?_, ?_, AH.set_same .., ?_, o.n1, o.n2, o.n3, o.l1, by have := otPut_len N i (p, s); simp; omega, o.l3⟩
    · show (H.set a.nf _) a.x = _; rw [AH.set_ne _ _ x2]; exact o.hx
    · show (H.set a.nf _) a.d = _; rw [AH.set_ne _ _ d2]; exact o.hd
    · show (H.set a.nf _) a.pf = _; rw [AH.set_ne _ _ o.n1]; exact o.hp
    · show (H.set a.nf _) a.po = _; rw [AH.set_ne _ _ o.n3.symm]; exact o.hs
  · refine ⟨otE S, o.hs, .inr (.inl ⟨i, rfl, otE_key S⟩), by rw [otE_len]; omega, ?_⟩
    have e' := otE_put S i (p, s)
    simp only at e'
    rw [e']
    refine k _ (Mod.set (by simp [OA.fp, pick3])) ⟨?_, ?_, ?_, ?_, AH.set_same .., o.n1, o.n2, o.n3, o.l1, o.l2, by have := otPut_len S i (p, s); simp; omega⟩
    · show (H.set a.po _) a.x = _; rw [AH.set_ne _ _ x3]; exact o.hx
    · show (H.set a.po _) a.d = _; rw [AH.set_ne _ _ d3]; exact o.hd
    · show (H.set a.po _) a.pf = _; rw [AH.set_ne _ _ o.n2]; exact o.hp
    · show (H.set a.po _) a.nf = _; rw [AH.set_ne _ _ o.n3]; exact o.hn

theorem opInit_spec {n : Nat} {x d sy : Addr} {Q : V → AH → Prop} {H : AH} (B : Base cx) (D : DOp cx) (hx : H x = some (.inst 287 d)) (hd : H d = some (.ns []))
    (k : ∀ (a : OA) (H' : AH), a.x = x → a.d = d → (∀ b ∈ a.fp, H b = none) → Mod [d] H H' → Op H' a [] [(7, (1000, [120, 102, 121]))] [] → Q .none H') : CallOk cx (n + 1 + 1 + 1 + 1) 235 [.ref x, .ref sy, .bool false] H Q := by
  refine def_call B D.i (by simp) (by simp) ?_
  show wpSs _ (n + 1 + 1 + 1) b_OperatorTable___init__ [some (.ref x), some (.ref sy), some (.bool false), none, none, none, none] H _
  unfold b_OperatorTable___init__
  simp only [Ss_cons, S_setattr, seqK_next, wpE, wpEs, slot, slotE]
  refine sa_val hx hd (B.attr rfl) (by simp) fun H1 x1 d1 m1 => ?_
  intro pf hpf
  refine sa_new x1 d1 hpf (B.attr rfl) (by simp [putN']) fun H2 x2 d2 c2 q2 m2 => ?_
  intro nf hnf
  refine sa_new x2 d2 hnf (B.attr rfl) (by simp [putN']) fun H3 x3 d3 c3 q3 m3 => ?_
  intro po hpo
  refine sa_new x3 d3 hpo (B.attr rfl) (by simp [putN']) fun H4 x4 d4 c4 q4 m4 => ?_
  have c23 := m3.one q2 c2
  have old : ∀ {K : AH} {c : Addr}, Mod [d] H K → K c = none → c ≠ d → H c = none := fun {K c} m h q => by
    cases e : H c with
    | none => rfl
    | some o => have := m.one q e; rw [h] at this; cases this
  have o : Op H4 ⟨x, d, sy, pf, nf, po⟩ [] [] [] := ⟨x4, d4, m4.one q2 c23, m4.one q3 c3, c4, ne_of_none c2 hnf, ne_of_none c23 hpo, ne_of_none c3 hpo, by simp, by simp, by simp⟩
  simp only [S_expr, E_meth, E_x, slot, slotE]
  refine methW_of x4 d4 (f := 277) (B.meth rfl) rfl ?_
  simp only [Es_cons, Es_nil, E_g, E_c]
  rw [B.glob (i := 15) rfl, B.glob (i := 14) rfl]
  refine add_spec B D o (by decide) (by decide) (by decide) (by decide) (by decide) fun H5 m5 o5 => ⟨by simp, by simp, by simp, ?_⟩
  simp only [seqK_next, Ss_cons, Ss_nil, S_ite, E_x, slot, slotE]
  refine tru_f (H := H5) rfl ?_
  have m13 := (m1.trans m2).trans m3
  have f1 : H pf = none := old m1 hpf q2
  have f2 : H nf = none := old (m1.trans m2) hnf q3
  have f3 : H po = none := old m13 hpo q4
  refine k ⟨x, d, sy, pf, nf, po⟩ H5 rfl rfl ?_ ?_ o5
  · intro b hb
    simp only [OA.fp, List.mem_cons, List.not_mem_nil, or_false] at hb
    rcases hb with rfl | rfl | rfl <;> assumption
  · intro b o' hb e
    refine m5 b o' ?_ ((m13.trans m4) b o' hb e)
    simp only [OA.fp, List.mem_cons, List.not_mem_nil, or_false, not_or]
    exact ⟨ne_of_none e f1, ne_of_none e f2, ne_of_none e f3⟩
end
end Mine.PJ

namespace Mine.PJ
open Mine

noncomputable def isDig (c : Nat) : Bool := decide (48 ≤ c) && decide (c ≤ 57)
noncomputable def isSml (c : Nat) : Bool := decide (97 ≤ c) && decide (c ≤ 122)
noncomputable def isCap (c : Nat) : Bool := decide (65 ≤ c) && decide (c ≤ 90)
noncomputable def isAln (c : Nat) : Bool := isSml c || isCap c || isDig c || decide (c = 95)
noncomputable def symL : List Nat := [43, 45, 42, 47, 92, 94, 60, 62, 61, 126, 58, 46, 63, 64, 35, 38, 36]
noncomputable def isSym (c : Nat) : Bool := decide (c ∈ symL)
noncomputable def isWrd (c : Nat) : Bool := isAln c || decide (128 ≤ c)

section
variable {cx : Cx} {n c : Nat} {H : AH} {Q : V → AH → Prop}
theorem done_ret {r : PSs} {ρ : Rho} {v : V} : seqK cx n r (doneW Q) (.ret v) ρ H = Q v H := rfl
theorem W_ord : biW .ord [.str [c]] H Q = Q (.int (c : Int)) H := rfl
theorem W_lenS {s : List Nat} : biW .len [.str s] H Q = Q (.int (s.length : Int)) H := rfl
theorem step_and {b : Bool} {e : PE} {es : PEs} {ρ : Rho} (h1 : b = true → wpBop cx n true (.cons e es) ρ H Q) (h2 : b = false → Q (.bool false) H) : truW (.bool b) H (fun t => if t = true then wpBop cx n true (.cons e es) ρ H Q else Q (.bool b) H) := by
  cases b
  · exact h2 rfl
  · exact h1 rfl
theorem step_or {b : Bool} {e : PE} {es : PEs} {ρ : Rho} (h1 : b = false → wpBop cx n false (.cons e es) ρ H Q) (h2 : b = true → Q (.bool true) H) : truW (.bool b) H (fun t => if t = false then wpBop cx n false (.cons e es) ρ H Q else Q (.bool b) H) := by
  cases b
  · exact h1 rfl
  · exact h2 rfl
theorem step_if {b : Bool} {A B : Prop} (h1 : b = true → A) (h2 : b = false → B) : truW (.bool b) H (fun t => if t = true then A else B) := by
  cases b
  · exact h2 rfl
  · exact h1 rfl
theorem rng_body {lo hi : Int} {ρ : Rho} {i : Int} (hs : slot ρ 0 = some (.int i)) (k : Q (.bool (decide (lo ≤ i) && decide (i ≤ hi))) H) :
    wpSs cx n (.cons (.ret (.bop true (.cons (.cmp .LtE (.c (.int lo)) (.x 0)) (.cons (.cmp .LtE (.x 0) (.c (.int hi))) .nil)))) .nil) ρ H (doneW Q) := by
  rw [Ss_cons, S_ret, E_bop, B_more, E_cmp, E_c, E_xs hs, W_le]
  refine step_and (fun e => ?_) fun e => ?_
  · rw [B_one, E_cmp, E_xs hs, E_c, W_le, done_ret]
    rw [e, Bool.true_and] at k; exact k
  · rw [done_ret]; rw [e, Bool.false_and] at k; exact k
theorem nat_rng (lo hi c : Nat) : (decide ((lo : Int) ≤ (c : Int)) && decide ((c : Int) ≤ (hi : Int))) = (decide (lo ≤ c) && decide (c ≤ hi)) := by
  rw [Bool.eq_iff_iff]; simp only [Bool.and_eq_true, decide_eq_true_eq]; omega
theorem isDigit_spec (B : Base cx) (D : D_is_digit cx) (k : Q (.bool (isDig c)) H) : CallOk cx (n + 1) 140 [.int c] H Q :=
  def_call B D (by simp) (by simp) (rng_body (lo := 48) (hi := 57) rfl (by rw [show ((48 : Int)) = ((48 : Nat) : Int) from rfl, show ((57 : Int)) = ((57 : Nat) : Int) from rfl, nat_rng]; exact k))
theorem isSmall_spec (B : Base cx) (D : D_is_small cx) (k : Q (.bool (isSml c)) H) : CallOk cx (n + 1) 147 [.int c] H Q :=
  def_call B D (by simp) (by simp) (rng_body (lo := 97) (hi := 122) rfl (by rw [show ((97 : Int)) = ((97 : Nat) : Int) from rfl, show ((122 : Int)) = ((122 : Nat) : Int) from rfl, nat_rng]; exact k))
theorem isCapital_spec (B : Base cx) (D : D_is_capital cx) (k : Q (.bool (isCap c)) H) : CallOk cx (n + 1) 154 [.int c] H Q :=
  def_call B D (by simp) (by simp) (rng_body (lo := 65) (hi := 90) rfl (by rw [show ((65 : Int)) = ((65 : Nat) : Int) from rfl, show ((90 : Int)) = ((90 : Nat) : Int) from rfl, nat_rng]; exact k))

structure DCh (cx : Cx) : Prop where
  d : D_is_digit cx
  s : D_is_small cx
  c : D_is_capital cx
  a : D_is_alnum cx
  y : D_is_symbol cx
theorem isAlnum_spec (B : Base cx) (D : DCh cx) (k : Q (.bool (isAln c)) H) : CallOk cx (n + 1 + 1) 161 [.int c] H Q := by
  refine def_call B D.a (by simp) (by simp) ?_
  show wpSs _ (n + 1) b_is_alnum [some (.int c)] H _
  unfold b_is_alnum
  unfold isAln at k
  rw [Ss_cons, S_ret, E_bop, B_more, E_call, Es_cons, E_xs rfl, Es_nil, B.glob (i := 5) rfl]
  refine isSmall_spec B D.s ?_
  refine step_or (fun e => ?_) fun e => ?_
  rotate_left
  · rw [done_ret]; simpa [e] using k
  rw [B_more, E_call, Es_cons, E_xs rfl, Es_nil, B.glob (i := 4) rfl]
  refine isCapital_spec B D.c ?_
  refine step_or (fun e2 => ?_) fun e2 => ?_
  rotate_left
  · rw [done_ret]; simpa [e, e2] using k
  rw [B_more, E_call, Es_cons, E_xs rfl, Es_nil, B.glob (i := 3) rfl]
  refine isDigit_spec B D.d ?_
  refine step_or (fun e3 => ?_) fun e3 => ?_
  rotate_left
  · rw [done_ret]; simpa [e, e2, e3] using k
  rw [B_one, E_cmp, E_xs rfl, E_c, W_eqI, done_ret]
  have : (decide ((c : Int) = 95)) = decide (c = 95) := by rw [Bool.eq_iff_iff]; simp; omega
  rw [this]
  simpa [e, e2, e3] using k
theorem symL_lt : ∀ c ∈ symL, c < 128 := by decide
theorem isSymbol_spec (B : Base cx) (D : DCh cx) (k : Q (.bool (isSym c)) H) : CallOk cx (n + 1) 168 [.int c] H Q := by
  refine def_call B D.y (by simp) (by simp) ?_
  show wpSs _ n b_is_symbol [some (.int c)] H _
  unfold b_is_symbol
  rw [Ss_cons, S_ret, E_bop, B_more, E_cmp, E_c, E_xs rfl, W_le]
  refine step_and (fun e => ?_) fun e => ?_
  rotate_left
  · exact absurd e (by simp)
  rw [B_more, E_cmp, E_xs rfl, E_c, W_lt]
  refine step_and (fun e2 => ?_) fun e2 => ?_
  rotate_left
  · rw [done_ret]
    have : isSym c = false := by
      unfold isSym; rw [decide_eq_false_iff_not]; intro h; have := symL_lt c h; have := of_decide_eq_false e2; omega
    rw [this] at k; exact k
  have hc : c < 128 := by have := of_decide_eq_true e2; omega
  rw [B_one, E_cmp, E_bi, Es_cons, E_xs rfl, Es_nil]
  refine ⟨by omega, by omega, ?_⟩
  dsimp only
  rw [E_c, Int.toNat_natCast]
  show cmpW .In (.str [c]) (.str symL) H _
  rw [W_inS, done_ret]
  exact k
theorem isWord_spec (B : Base cx) (D : DCh cx) (D1 : D_is_word cx) (k : Q (.bool (isWrd c)) H) : CallOk cx (n + 1 + 1 + 1) 327 [.str [c]] H Q := by
  refine def_call B D1 (by simp) (by simp) ?_
  show wpSs _ (n + 1 + 1) b_is_word [some (.str [c]), none] H _
  unfold b_is_word
  unfold isWrd at k
  rw [Ss_cons, S_asg, E_bi, Es_cons, E_xs rfl, Es_nil]
  rw [W_ord, seqK_next, setSlot, setSlot, Ss_cons, S_ret, E_bop, B_more, E_call, Es_cons, E_xs rfl, Es_nil, B.glob (i := 6) rfl]
  refine isAlnum_spec B D ?_
  refine step_or (fun e => ?_) fun e => ?_
  rotate_left
  · rw [done_ret]; simpa [e] using k
  rw [B_one, E_cmp, E_xs rfl, E_c, W_ge, done_ret]
  have : (decide ((128 : Int) ≤ (c : Int))) = decide (128 ≤ c) := by rw [Bool.eq_iff_iff]; simp; omega
  rw [this]
  simpa [e] using k

structure WA where
  (x d sy op na ta : Addr)
  (quoted ign nv : Bool)
noncomputable def wns (a : WA) (o wk : Addr) (last : List Nat) (pre : Bool) : List (Nat × V) :=
  [(11, .ref a.sy), (23, .ref a.op), (22, .bool a.quoted), (21, .bool a.ign), (20, .bool a.nv), (19, .ref a.na), (18, .ref a.ta), (17, .ref o), (16, .str last), (15, .bool pre), (14, .ref wk)]
noncomputable abbrev WS := List (List Nat) × List Nat × Bool
structure Wr (H : AH) (a : WA) (o wk : Addr) (q : WS) : Prop where
  hx : H a.x = some (.inst 472 a.d)
  hd : H a.d = some (.ns (wns a o wk q.2.1 q.2.2))
  ho : H o = some (.list (stL q.1))
  hl : q.2.1.length ≤ 1
theorem Wr.mod {H H' : AH} {a : WA} {o wk : Addr} {q : WS} {A : List Addr} (w : Wr H a o wk q) (m : Mod A H H') (h : ∀ b ∈ A, b ≠ a.x ∧ b ≠ a.d ∧ b ≠ o) : Wr H' a o wk q :=
  ⟨m _ _ (fun q => (h _ q).1 rfl) w.hx, m _ _ (fun q => (h _ q).2.1 rfl) w.hd, m _ _ (fun q => (h _ q).2.2 rfl) w.ho, w.hl⟩
noncomputable def rawP (q : WS) (t : List Nat) : WS := match t.getLast? with
  | none => q
  | some c => (q.1 ++ [t], [c], false)

noncomputable def needP (last : List Nat) (pre : Bool) (f : Nat) : Bool := match last with
  | [l] => if l = 32 then false else if pre && (decide (f = 40) || (decide (l = 45) && isDig f)) then true else if isWrd l then isWrd f || decide (f = 39) else if isSym l then isSym f else decide (l = 39) && decide (f = 39)
  | _ => false
noncomputable def tokP (q : WS) (t : List Nat) : WS := match t with
  | [] => q
  | f :: _ => rawP (if needP q.2.1 q.2.2 f then (q.1 ++ [[32]], q.2) else q) t
end
end Mine.PJ

namespace Mine.PJ
open Mine

section
variable {cx : Cx} {n : Nat} {H : AH} {Q : V → AH → Prop}
structure DTok (cx : Cx) : Prop where
  ch : DCh cx
  w : D_is_word cx
  n : D_Writer_needs_space cx
  r : D_Writer_raw cx
  t : D_Writer_token cx

theorem nd1 (a b : List Nat) : decide ([a] = [b]) = decide (a = b) := by rw [Bool.eq_iff_iff]; simp
theorem needs_spec {a : WA} {o wk : Addr} {q : WS} {f : Nat} (B : Base cx) (D : DTok cx) (w : Wr H a o wk q) (k : Q (.bool (needP q.2.1 q.2.2 f)) H) : CallOk cx (n + 1 + 1 + 1 + 1) 378 [.ref a.x, .str [f]] H Q := by
  refine def_call B D.n (by simp) (by simp) ?_
  show wpSs _ (n + 1 + 1 + 1) b_Writer_needs_space [some (.ref a.x), some (.str [f])] H _
  unfold b_Writer_needs_space
  have at16 : ∀ {ρ : Rho} {P : V → AH → Prop}, slot ρ 0 = some (.ref a.x) → P (.str q.2.1) H → wpE cx (n + 1 + 1 + 1) (.attr (.x 0) 16) ρ H P := fun e p => by
    rw [E_attr, E_xs e]; exact attrW_of w.hx w.hd (B.attr rfl) rfl p
  have hl := w.hl
  rw [Ss_cons, S_ite, E_bop, B_more, E_cmp]
  refine at16 rfl ?_
  rw [E_c, W_eqS]
  cases hq : q.2.1 with
  | nil =>
    rw [hq] at k
    refine step_or (fun e => by simp at e) fun _ => ?_
    refine tru_t (H := H) rfl ?_
    rw [Ss_cons, S_ret, E_c, seqK_ret]
    exact k
  | cons l r =>
    rw [hq] at hl k
    have : r = [] := by cases r with
      | nil => rfl
      | cons _ _ => simp at hl
    subst this
    have at16 : ∀ {ρ : Rho} {P : V → AH → Prop}, slot ρ 0 = some (.ref a.x) → P (.str [l]) H → wpE cx (n + 1 + 1 + 1) (.attr (.x 0) 16) ρ H P := fun e p => at16 e (by rw [hq]; exact p)
    refine step_or (fun _ => ?_) fun e => by simp at e
    rw [B_one, E_cmp]
    refine at16 rfl ?_
    rw [E_c, W_eqS]
    unfold needP at k
    dsimp only at k
    refine step_if (fun e => ?_) fun e => ?_
    · have : l = 32 := by simpa using e
      rw [Ss_cons, S_ret, E_c, seqK_ret]
      rw [if_pos this] at k; exact k
    have l32 : l ≠ 32 := by simpa using e
    rw [if_neg l32] at k
    rw [Ss_nil, seqK_next, Ss_cons, S_ite, E_bop, B_more, E_attr, E_xs rfl]
    refine attrW_of w.hx w.hd (B.attr rfl) (x := .bool q.2.2) rfl ?_
    have rest : (q.2.2 && (decide (f = 40) || decide (l = 45) && isDig f)) = false → wpSs cx (n + 1 + 1 + 1) .nil [some (.ref a.x), some (.str [f])] H (seqK cx (n + 1 + 1 + 1) (.cons (.ite (.call 22 (.cons (.attr (.x 0) 16) .nil)) (.cons (.ret (.bop false (.cons (.call 22 (.cons (.x 1) .nil)) (.cons (.cmp .Eq (.x 1) (.c (.str [39]))) .nil))))
 .nil) .nil)
 (.cons (.ite (.call 7 (.cons (.bi .ord (.cons (.attr (.x 0) 16) .nil)) .nil)) (.cons (.ret (.call 7 (.cons (.bi .ord (.cons (.x 1) .nil)) .nil)))
 .nil) .nil)
 (.cons (.ret (.bop true (.cons (.cmp .Eq (.attr (.x 0) 16) (.c (.str [39]))) (.cons (.cmp .Eq (.x 1) (.c (.str [39]))) .nil))))
 .nil))) (doneW Q)) := fun hp => by
      rw [hp] at k
      replace k : Q (.bool (if isWrd l then isWrd f || decide (f = 39) else if isSym l then isSym f else decide (l = 39) && decide (f = 39))) H := k
      rw [Ss_nil, seqK_next, Ss_cons, S_ite, E_call, Es_cons]
      refine at16 rfl ?_
      rw [Es_nil, B.glob (i := 22) rfl]
      refine isWord_spec B D.ch D.w ?_
      refine step_if (fun e => ?_) fun e => ?_
      · rw [e] at k
        replace k : Q (.bool (isWrd f || decide (f = 39))) H := k
        rw [Ss_cons, S_ret, E_bop, B_more, E_call, Es_cons, E_xs rfl, Es_nil, B.glob (i := 22) rfl]
        refine isWord_spec B D.ch D.w ?_
        refine step_or (fun e => ?_) fun e => ?_
        · rw [e, Bool.false_or] at k
          rw [B_one, E_cmp, E_xs rfl, E_c, W_eqS]
          show Q _ H
          simpa using k
        · rw [e, Bool.true_or] at k; exact k
      rw [e] at k
      replace k : Q (.bool (if isSym l then isSym f else decide (l = 39) && decide (f = 39))) H := k
      rw [Ss_nil, seqK_next, Ss_cons, S_ite, E_call, Es_cons, E_bi, Es_cons]
      refine at16 rfl ?_
      rw [Es_nil, W_ord, Es_nil, B.glob (i := 7) rfl]
      refine isSymbol_spec B D.ch ?_
      refine step_if (fun e => ?_) fun e => ?_
      · rw [e] at k
        rw [Ss_cons, S_ret, E_call, Es_cons, E_bi, Es_cons, E_xs rfl, Es_nil, W_ord, Es_nil, B.glob (i := 7) rfl]
        exact isSymbol_spec B D.ch k
      rw [e] at k
      replace k : Q (.bool (decide (l = 39) && decide (f = 39))) H := k
      rw [Ss_nil, seqK_next, Ss_cons, S_ret, E_bop, B_more, E_cmp]
      refine at16 rfl ?_
      rw [E_c, W_eqS]
      have e1 : decide ([l] = [39]) = decide (l = 39) := by rw [Bool.eq_iff_iff]; simp
      rw [e1]
      refine step_and (fun e => ?_) fun e => ?_
      · rw [e, Bool.true_and] at k
        rw [B_one, E_cmp, E_xs rfl, E_c, W_eqS]
        show Q _ H
        simpa using k
      · rw [e, Bool.false_and] at k; exact k
    cases hp : q.2.2
    · refine and_F (H := H) rfl ?_
      refine tru_f (H := H) rfl ?_
      exact rest (by rw [hp]; rfl)
    · refine and_T (H := H) rfl ?_
      rw [hp, Bool.true_and] at k rest
      rw [B_one, E_bop, B_more, E_cmp, E_xs rfl, E_c, W_eqS]
      have e1 : decide ([f] = [40]) = decide (f = 40) := by rw [Bool.eq_iff_iff]; simp
      rw [e1]
      refine step_or (fun e => ?_) fun e => ?_
      rotate_left
      · refine tru_t (H := H) rfl ?_
        rw [Ss_cons, S_ret, E_c, seqK_ret]
        rw [e] at k; exact k
      rw [e, Bool.false_or] at k rest
      rw [B_one, E_bop, B_more, E_cmp]
      refine at16 rfl ?_
      rw [E_c, W_eqS]
      have e2 : decide ([l] = [45]) = decide (l = 45) := by rw [Bool.eq_iff_iff]; simp
      rw [e2]
      refine step_and (fun e => ?_) fun e => ?_
      rotate_left
      · refine tru_f (H := H) rfl ?_
        exact rest (by rw [e]; rfl)
      rw [e, Bool.true_and] at k rest
      rw [B_one, E_call, Es_cons, E_bi, Es_cons, E_xs rfl, Es_nil, W_ord, Es_nil, B.glob (i := 3) rfl]
      refine isDigit_spec B D.ch.d ?_
      refine step_if (fun e => ?_) fun e => ?_
      · rw [Ss_cons, S_ret, E_c, seqK_ret]
        rw [e] at k; exact k
      · exact rest e

theorem raw_spec {a : WA} {o wk : Addr} {q : WS} {t : List Nat} (B : Base cx) (D : DTok cx) (w : Wr H a o wk q) (hl : q.1.length + 1 ≤ lim) (k : ∀ H', Mod [a.d, o] H H' → Wr H' a o wk (rawP q t) → Q .none H') : CallOk cx (n + 1) 364 [.ref a.x, .str t] H Q := by
  refine def_call B D.r (by simp) (by simp) ?_
  show wpSs _ n b_Writer_raw [some (.ref a.x), some (.str t)] H _
  unfold b_Writer_raw
  rw [Ss_cons, S_ite, E_cmp, E_xs rfl, E_c, W_neS]
  refine step_if (fun e => ?_) fun e => ?_
  rotate_left
  · have : t = [] := by simpa using e
    subst this
    rw [Ss_nil, seqK_next, Ss_nil]
    exact k H (Mod.refl _ _) w
  have ht : t ≠ [] := by simpa using e
  obtain ⟨u, c, rfl⟩ : ∃ u c, t = u ++ [c] := ⟨t.dropLast, t.getLast ht, (List.dropLast_concat_getLast ht).symm⟩
  have kr : rawP q (u ++ [c]) = (q.1 ++ [u ++ [c]], [c], false) := by unfold rawP; simp
  rw [kr] at k
  rw [Ss_cons, S_expr, E_bm, E_attr, E_xs rfl]
  refine attrW_of w.hx w.hd (B.attr rfl) (x := .ref o) rfl ?_
  have xo : a.x ≠ o := ne_of_obj w.hx w.ho (by simp)
  have dO : a.d ≠ o := ne_of_obj w.hd w.ho (by simp)
  have xd : a.x ≠ a.d := ne_of_obj w.hx w.hd (by simp)
  refine ⟨⟨o, _, rfl, w.ho⟩, ?_⟩
  rw [Es_cons, E_xs rfl, Es_nil]
  refine ⟨_, w.ho, by rw [stL_len]; exact hl, by simp, by simp, by simp, ?_⟩
  rw [seqK_next, Ss_cons, S_setattr, E_sub, E_xs rfl, E_bin, E_bi, Es_cons, E_xs rfl, Es_nil, W_lenS]
  rw [E_c, W_sub]
  refine ⟨u.length, c, by unfold idx; simp; omega, by simp, ?_⟩
  dsimp only
  rw [E_xs rfl]
  have hx1 : (H.set o (.list (stL q.1 ++ [.str (u ++ [c])]))) a.x = some (.inst 472 a.d) := by rw [AH.set_ne _ _ xo]; exact w.hx
  have hd1 : (H.set o (.list (stL q.1 ++ [.str (u ++ [c])]))) a.d = some (.ns (wns a o wk q.2.1 q.2.2)) := by rw [AH.set_ne _ _ dO]; exact w.hd
  refine sa_val hx1 hd1 (B.attr rfl) (by simp [wns]) fun H2 x2 d2 m2 => ?_
  rw [seqK_next, Ss_cons, S_setattr, E_c, E_xs rfl]
  refine sa_val x2 d2 (B.attr rfl) (by simp [wns, putN']) fun H3 x3 d3 m3 => ?_
  rw [seqK_next, Ss_nil, seqK_next, Ss_nil]
  refine k H3 (((Mod.set (by simp)).trans (m2.wide (by simp))).trans (m3.wide (by simp))) ⟨x3, d3, ?_, by simp⟩
  refine m3.one dO.symm (m2.one dO.symm ?_)
  rw [AH.set_same, stL_app]; rfl

theorem token_spec {a : WA} {o wk : Addr} {q : WS} {t : List Nat} (B : Base cx) (D : DTok cx) (w : Wr H a o wk q) (hl : q.1.length + 2 ≤ lim) (k : ∀ H', Mod [a.d, o] H H' → Wr H' a o wk (tokP q t) → Q .none H') : CallOk cx (n + 1 + 1 + 1 + 1 + 1) 371 [.ref a.x, .str t] H Q := by
  refine def_call B D.t (by simp) (by simp) ?_
  show wpSs _ (n + 1 + 1 + 1 + 1) b_Writer_token [some (.ref a.x), some (.str t)] H _
  unfold b_Writer_token
  rw [Ss_cons, S_ite, E_cmp, E_xs rfl, E_c, W_neS]
  cases t with
  | nil =>
    refine tru_f (H := H) rfl ?_
    rw [Ss_nil, seqK_next, Ss_nil]
    exact k H (Mod.refl _ _) w
  | cons f t =>
    refine tru_t (H := H) rfl ?_
    rw [Ss_cons, S_ite, E_meth, E_xs rfl]
    refine methW_of w.hx w.hd (f := 378) (B.meth rfl) rfl ?_
    rw [Es_cons, E_sub, E_xs rfl, E_c]
    refine ⟨0, f, by unfold idx; rw [if_pos (by omega), if_pos (by simp)]; rfl, rfl, ?_⟩
    dsimp only
    rw [Es_nil]
    refine needs_spec B D w ?_
    have xo : a.x ≠ o := ne_of_obj w.hx w.ho (by simp)
    have dO : a.d ≠ o := ne_of_obj w.hd w.ho (by simp)
    unfold tokP at k
    dsimp only at k
    refine step_if (fun e => ?_) fun e => ?_
    · rw [if_pos e] at k
      rw [Ss_cons, S_expr, E_bm, E_attr, E_xs rfl]
      refine attrW_of w.hx w.hd (B.attr rfl) (x := .ref o) rfl ?_
      refine ⟨⟨o, _, rfl, w.ho⟩, ?_⟩
      rw [Es_cons, E_c, Es_nil]
      refine ⟨_, w.ho, by rw [stL_len]; omega, by simp, by simp, by simp, ?_⟩
      have w1 : Wr (H.set o (.list (stL q.1 ++ [.str [32]]))) a o wk (q.1 ++ [[32]], q.2) := ⟨by rw [AH.set_ne _ _ xo]; exact w.hx, by rw [AH.set_ne _ _ dO]; exact w.hd, by rw [AH.set_same, stL_app]; rfl, w.hl⟩
      rw [seqK_next, Ss_nil, seqK_next, Ss_cons, S_expr, E_meth, E_xs rfl]
      refine methW_of w1.hx w1.hd (f := 364) (B.meth rfl) rfl ?_
      rw [Es_cons, E_xs rfl, Es_nil]
      refine raw_spec B D w1 (by simp; omega) fun H' m w' => ⟨by simp, by simp, by simp, ?_⟩
      rw [seqK_next, Ss_nil, seqK_next, Ss_nil]
      exact k H' ((Mod.set (by simp)).trans m) w'
    · rw [if_neg (by rw [e]; simp)] at k
      rw [Ss_nil, seqK_next, Ss_cons, S_expr, E_meth, E_xs rfl]
      refine methW_of w.hx w.hd (f := 364) (B.meth rfl) rfl ?_
      rw [Es_cons, E_xs rfl, Es_nil]
      refine raw_spec B D w (by omega) fun H' m w' => ⟨by simp, by simp, by simp, ?_⟩
      rw [seqK_next, Ss_nil, seqK_next, Ss_nil]
      exact k H' m w'

theorem wrInit_body {x d sy op : Addr} {b1 b2 b3 : Bool} (B : Base cx) (hx : H x = some (.inst 472 d)) (hd : H d = some (.ns []))
    (k : ∀ (a : WA) (o wk : Addr) (H' : AH), a.x = x → a.d = d → a.sy = sy → a.op = op → a.quoted = b1 → a.ign = b2 → a.nv = b3 → H a.na = none → H a.ta = none → H o = none → H wk = none → o ≠ wk → a.na ≠ a.ta → Mod [d] H H' → Wr H' a o wk ([], [], false) → H' a.na = some (.dict []) → H' a.ta = some (.dict []) → H' wk = some (.list []) → Q .none H') :
    wpSs cx n b_Writer___init__ [some (.ref x), some (.ref sy), some (.ref op), some (.bool b1), some (.bool b2), some (.bool b3), some .none, none, none] H (doneW Q) := by
  unfold b_Writer___init__
  have old : ∀ {K : AH} {c : Addr}, Mod [d] H K → K c = none → c ≠ d → H c = none := fun {K c} m h q => by
    cases e : H c with
    | none => rfl
    | some o => have := m.one q e; rw [h] at this; cases this
  simp only [Ss_cons, S_setattr, seqK_next, wpE, wpEs, slot, slotE]
  refine sa_val hx hd (B.attr rfl) (by simp) fun H1 x1 d1 m1 => ?_
  refine sa_val x1 d1 (B.attr rfl) (by simp [putN']) fun H2 x2 d2 m2 => ?_
  refine sa_val x2 d2 (B.attr rfl) (by simp [putN']) fun H3 x3 d3 m3 => ?_
  refine sa_val x3 d3 (B.attr rfl) (by simp [putN']) fun H4 x4 d4 m4 => ?_
  refine sa_val x4 d4 (B.attr rfl) (by simp [putN']) fun H5 x5 d5 m5 => ?_
  have m15 := (((m1.trans m2).trans m3).trans m4).trans m5
  intro na hna
  refine sa_new x5 d5 hna (B.attr rfl) (by simp [putN']) fun H6 x6 d6 c6 q6 m6 => ?_
  have m16 := m15.trans m6
  intro ta hta
  refine sa_new x6 d6 hta (B.attr rfl) (by simp [putN']) fun H7 x7 d7 c7 q7 m7 => ?_
  have m17 := m16.trans m7
  have nat : na ≠ ta := ne_of_none c6 hta
  replace d7 : H7 d = some (.ns [(11, .ref sy), (23, .ref op), (22, .bool b1), (21, .bool b2), (20, .bool b3), (19, .ref na), (18, .ref ta)]) := d7
  simp only [S_ite, wpE, slot, slotE]
  rw [W_isnN]
  refine tru_f (H := H7) rfl ?_
  simp only [Ss_nil, Ss_cons, S_setattr, seqK_next, wpE, wpEs, slot, slotE]
  refine ⟨Nat.zero_le _, fun o ho => ?_⟩
  refine sa_new x7 d7 ho (B.attr rfl) (by simp) fun H8 x8 d8 c8 q8 m8 => ?_
  have m18 := m17.trans m8
  refine sa_val x8 d8 (B.attr rfl) (by simp [putN']) fun H9 x9 d9 m9 => ?_
  refine sa_val x9 d9 (B.attr rfl) (by simp [putN']) fun H10 x10 d10 m10 => ?_
  have m110 := (m18.trans m9).trans m10
  have c10 := m10.one q8 (m9.one q8 c8)
  refine ⟨Nat.zero_le _, fun wk hwk => ?_⟩
  refine sa_new x10 d10 hwk (B.attr rfl) (by simp [putN']) fun H11 x11 d11 c11 q11 m11 => ?_
  have m711 := ((m8.trans m9).trans m10).trans m11
  exact k ⟨x, d, sy, op, na, ta, b1, b2, b3⟩ o wk H11 rfl rfl rfl rfl rfl rfl rfl (old m15 hna q6) (old m16 hta q7) (old m17 ho q8) (old m110 hwk q11) (ne_of_none c10 hwk) nat (m110.trans m11) ⟨x11, d11, m11.one q8 c10, by simp⟩ (m711.one q6 (m7.one q6 c6)) (m711.one q7 c7) c11
end
end Mine.PJ

namespace Mine.PJ
open Mine

section
variable {cx : Cx}
theorem next_spec {n : Nat} {r : Addr} {l : List Int} {m : Int} {Q : V → AH → Prop} {H : AH} (B : Base cx) (D : D__law_next cx) (hr : H r = some (.list (l.map .int))) (hm : 0 < m) (hm2 : m < 2 ^ 63)
    (k : ∀ (v : Int) (l' : List Int), 0 ≤ v → v < m → Q (.int v) (H.set r (.list (l'.map .int)))) : CallOk cx (n + 1) 490 [.ref r, .int m] H Q := by
  refine def_call B D (by simp) (by simp) ?_
  show wpSs _ n b__law_next [some (.ref r), some (.int m)] H _
  unfold b__law_next
  simp only [wpSs, wpS, wpE, wpEs, slot, Option.some.injEq, exists_eq_left']
  refine ⟨_, hr, ?_⟩
  rw [List.length_map]
  rcases List.eq_nil_or_concat l with rfl | ⟨l', x, rfl⟩
  · show Q (.int 0) H
    have := k 0 [] (by omega) hm
    rw [List.map_nil] at this hr
    rwa [AH.set_eq hr] at this
  · rw [List.concat_eq_append, List.map_append] at hr
    have c : decide (((l'.concat x).length : Int) > 0) = true := by simp
    show (if decide ((0 : Int) < ((l'.concat x).length : Int)) = true then _ else _)
    rw [if_pos c]
    exact ⟨⟨r, _, rfl, hr⟩, _, _, hr, hm, hm2, k _ _ (Int.emod_nonneg _ (by omega)) (Int.emod_lt_of_pos _ hm)⟩

noncomputable abbrev rowIn : PSs := (.cons (.expr (.bm .append (.x 1) (.cons (.bin .Mod (.x 3) (.c (.int 96))) .nil)))
 (.cons (.asg 3 (.bin .FloorDiv (.x 3) (.c (.int 96))))
 (.cons (.ite (.bop false (.cons (.cmp .Eq (.x 3) (.c (.int 0))) (.cons (.cmp .Eq (.x 3) (.neg (.c (.int 1)))) .nil))) (.cons .brk
 .nil) .nil)
 .nil)))

theorem row_in {n : Nat} {sa cell : Option V} {r : Addr} {R : FL → Rho → AH → Prop} : ∀ (xs : List V) (t : Option V) (rest : Int) (l : List Int) (H : AH), H r = some (.list (l.map .int)) → l.length + xs.length ≤ 90 →
    (∀ (t : Option V) (rest : Int) (l' : List Int), l'.length ≤ 90 → R .next [sa, some (.ref r), cell, some (.int rest), t] (H.set r (.list (l'.map .int)))) →
    forC (blk cx n rowIn) (st1 4) (fun _ => True) xs [sa, some (.ref r), cell, some (.int rest), t] H R
  | [], t, rest, l, H, hr, hl, k => by
    refine ⟨trivial, ?_⟩
    have := k t rest l (by simpa using hl)
    rwa [AH.set_eq hr] at this
  | x :: xs, t, rest, l, H, hr, hl, k => by
    refine ⟨trivial, ?_⟩
    have hlen : (l ++ [rest % 96]).length + xs.length ≤ 90 := by simp at hl ⊢; omega
    have e : l.map V.int ++ [.int (rest % 96)] = (l ++ [rest % 96]).map .int := by simp
    show wpSs cx n rowIn [sa, some (.ref r), cell, some (.int rest), some x] H _
    simp only [rowIn, wpSs, wpS, wpE, wpEs, wpBop, slot, setSlot, Option.some.injEq, exists_eq_left', V.int.injEq]
    refine ⟨⟨r, _, rfl, hr⟩, by omega, by omega, _, hr, ?_, ?_⟩
    · rw [List.length_map]; simp at hl; unfold lim; omega
    rw [e]
    refine ⟨by simp, by simp, by simp, by omega, by omega, rfl, rfl, ?_⟩
    have hr' : (H.set r (.list ((l ++ [rest % 96]).map .int))) r = some (.list ((l ++ [rest % 96]).map .int)) := AH.set_same ..
    have stop : R .next [sa, some (.ref r), cell, some (.int (rest / 96)), some x] (H.set r (.list ((l ++ [rest % 96]).map .int))) := k _ _ _ (by omega)
    have go := row_in (n := n) (sa := sa) (cell := cell) (R := R) xs (some x) (rest / 96) (l ++ [rest % 96]) _ hr' hlen fun t rest l' hl' => by
      rw [AH.set_set]; exact k t rest l' hl'
    show truW (.bool (decide (rest / 96 = 0))) _ _
    dsimp only [truW]
    by_cases h0 : rest / 96 = 0
    · simp only [h0, decide_true, Bool.true_eq_false, if_false, if_true]
      rw [h0] at stop; exact stop
    · simp only [h0, decide_false, if_true]
      refine ⟨rfl, rfl, ?_⟩
      show (if decide (rest / 96 = -1) = true then _ else _)
      by_cases h1 : rest / 96 = -1
      · simp only [h1, decide_true, if_true]
        rw [h1] at stop; exact stop
      · simp only [h1, decide_false, Bool.false_eq_true, if_false]
        exact go

noncomputable abbrev rowMid : PSs := (.cons (.asg 3 (.bi .int (.cons (.x 2) .nil)))
 (.cons (.for1 4 (.range (.bi .min (.cons (.c (.int 30)) (.cons (.bin .Sub (.c (.int 90)) (.bi .len (.cons (.x 1) .nil))) .nil)))) rowIn)
 .nil))
theorem row_mid {n : Nat} {sa : Option V} {r c : Addr} {all : List V} {R : FL → Rho → AH → Prop} (hcr : c ≠ r) : ∀ (ys : List Int) (cell rest t : Option V) (l : List Int) (H : AH), H r = some (.list (l.map .int)) → H c = some (.list all) → l.length ≤ 90 →
    (∀ (cell rest t : Option V) (l' : List Int), l'.length ≤ 90 → R .next [sa, some (.ref r), cell, rest, t] (H.set r (.list (l'.map .int)))) →
    forC (blk cx n rowMid) (st1 2) (fun H' => H' c = some (.list all)) (ys.map .int) [sa, some (.ref r), cell, rest, t] H R
  | [], cell, rest, t, l, H, hr, hc, hl, k => by
    refine ⟨hc, ?_⟩
    have := k cell rest t l hl
    rwa [AH.set_eq hr] at this
  | y :: ys, cell, rest, t, l, H, hr, hc, hl, k => by
    refine ⟨hc, ?_⟩
    show wpSs cx n rowMid [sa, some (.ref r), some (.int y), rest, t] H _
    simp only [rowMid, Ss_cons, S_asg, S_for1, seqK_next, wpSrc, wpE, wpEs, slot, setSlot, slotE]
    refine ⟨_, hr, ?_⟩
    rw [List.length_map]
    refine ⟨?_, ?_⟩
    · show Int.natAbs (if (90 : Int) - (l.length : Int) < 30 then _ else _) < _; split <;> omega
    refine row_in _ _ _ l H hr ?_ ?_
    · simp only [List.length_map, List.length_range]
      split <;> omega
    intro t' rest' l' hl'
    refine row_mid hcr ys _ _ _ l' _ (AH.set_same ..) (by rw [AH.set_ne _ _ hcr]; exact hc) hl' fun cell rest t l'' hl'' => ?_
    rw [AH.set_set]; exact k _ _ _ l'' hl''

theorem cut_map {α β : Type} (f : α → β) (l : List α) (a b : Option Int) : cut (l.map f) a b = (cut l a b).map f := by
  unfold cut; simp [List.map_take, List.map_drop]

theorem row_spec {n : Nat} {sa : Addr} {ys : List Int} {vs : List Value} {Q : V → AH → Prop} {H : AH} (B : Base cx) (D : D__law_row cx) (hs : cx.g0.IsList sa vs.toArray) (hv : Reps cx.g0 (ys.map .int) vs) (hl : ys.length ≤ lim)
    (k : ∀ (r : Addr) (l : List Int) (H' : AH), Keep H H' → H r = none → H' r = some (.list (l.map .int)) → Q (.ref r) H') : CallOk cx (n + 1) 483 [.ref sa] H Q := by
  refine def_call B D (by simp) (by simp) ?_
  show wpSs _ n b__law_row [some (.ref sa), none, none, none, none] H _
  unfold b__law_row
  simp only [Ss_cons, S_asg, S_for1, seqK_next, wpSrc, wpE, wpEs, slot, setSlot, slotE]
  refine ⟨by simp, fun r hr => ⟨none, some 40, rfl, rfl, ys.map .int, .inr ⟨vs, hs, hv, by simpa using hl⟩, fun c hc => ?_⟩⟩
  have hrc : r ≠ c := fun z => by subst z; rw [AH.set_same] at hc; cases hc
  have hc0 : H c = none := by rw [AH.set_ne _ _ hrc.symm] at hc; exact hc
  refine ⟨_, AH.set_same .., ?_⟩
  rw [cut_map]
  refine row_mid hrc.symm _ none none none [] _ (by rw [AH.set_ne _ _ hrc, AH.set_same]; rfl) (AH.set_same ..) (by simp) fun cell rest t l' hl' => ?_
  simp only [seqK_next, Ss_cons, Ss_nil, S_expr, S_ret, seqK_ret, wpE, wpEs, slot, setSlot, slotE, doneW]
  refine ⟨⟨r, _, rfl, AH.set_same ..⟩, _, AH.set_same .., by simp, by simp, by simp, ?_⟩
  rw [AH.set_set, ← List.map_reverse]
  refine k r l'.reverse _ (fun b o e => ?_) hr (AH.set_same ..)
  rw [AH.set_ne _ _ (ne_of_none e hr), AH.set_ne _ _ (ne_of_none e hc0), AH.set_ne _ _ (ne_of_none e hr)]
  exact e

noncomputable def Rw (H : AH) (r : Addr) : Prop := ∃ l : List Int, H r = some (.list (l.map .int))
theorem Rw.mod {H H' : AH} {r : Addr} {A : List Addr} (h : Rw H r) (m : Mod A H H') (n : r ∉ A) : Rw H' r := by
  obtain ⟨l, h⟩ := h
  exact ⟨l, m _ _ n h⟩
theorem next2 {n : Nat} {r : Addr} {m : Int} {Q : V → AH → Prop} {H : AH} (B : Base cx) (D : D__law_next cx) (hr : Rw H r) (hm : 0 < m) (hm2 : m < 2 ^ 63)
    (k : ∀ (v : Nat) (H' : AH), (v : Int) < m → Rw H' r → Mod [r] H H' → Q (.int (v : Int)) H') : CallOk cx (n + 1) 490 [.ref r, .int m] H Q := by
  obtain ⟨l, hr⟩ := hr
  refine next_spec B D hr hm hm2 fun v l' h1 h2 => ?_
  have := k v.toNat _ (by omega) ⟨l', AH.set_same ..⟩ (Mod.set (by simp))
  rwa [Int.toNat_of_nonneg h1] at this
end
end Mine.PJ

namespace Mine.L1
open Mine Mine.PJ

noncomputable def bh : List Nat → Nat
  | [] => 0
  | [_] => 1
  | c :: d :: r => if c = 92 ∨ (c = 39 ∧ d = 39) then 2 + bh r else if c = 39 then 1 else 1 + bh (d :: r)
noncomputable def run (p : Nat → Bool) : List Nat → Nat
  | [] => 0
  | c :: r => if p c then 1 + run p r else 0
noncomputable def quo : List Nat → Nat
  | 39 :: r => 1 + bh r
  | _ => 0
noncomputable def tokLen : List Nat → Nat
  | [] => 0
  | c :: s => if isWrd c then run isWrd (c :: s) + quo ((c :: s).drop (run isWrd (c :: s))) else if isSym c then run isSym (c :: s) else if c = 39 then 1 + bh s else 1
theorem tokLen_cons (c : Nat) (s : List Nat) : tokLen (c :: s) = if isWrd c then run isWrd (c :: s) + quo ((c :: s).drop (run isWrd (c :: s))) else if isSym c then run isSym (c :: s) else if c = 39 then 1 + bh s else 1 := rfl
noncomputable def emit (t : List Nat) : List (List Nat) := if t = [32] then [] else [t]
noncomputable def cutN : Nat → List Nat → List (List Nat)
  | 0, _ => []
  | _ + 1, [] => []
  | n + 1, c :: s => emit ((c :: s).take (tokLen (c :: s))) ++ cutN n ((c :: s).drop (tokLen (c :: s)))
noncomputable def toks (s : List Nat) : List (List Nat) := cutN s.length s

theorem bh_le : ∀ s, bh s ≤ s.length
  | [] => Nat.le_refl _
  | [_] => Nat.le_refl _
  | c :: d :: r => by
    unfold bh
    have h1 := bh_le r
    have h2 := bh_le (d :: r)
    simp only [List.length_cons] at *
    split
    · omega
    · split <;> omega
theorem run_le (p : Nat → Bool) : ∀ s, run p s ≤ s.length
  | [] => Nat.le_refl _
  | c :: r => by
    unfold run
    have := run_le p r
    simp only [List.length_cons]
    split <;> omega
theorem quo_le (s : List Nat) : quo s ≤ s.length := by
  unfold quo
  split
  · have := bh_le ‹List Nat›; simp only [List.length_cons]; omega
  · omega
theorem run_pos {p : Nat → Bool} {c : Nat} {s : List Nat} (h : p c = true) : 1 ≤ run p (c :: s) := by
  unfold run; rw [if_pos h]; omega
theorem tokLen_pos (c : Nat) (s : List Nat) : 1 ≤ tokLen (c :: s) := by
  rw [tokLen_cons]
  split
  · rename_i h; have := run_pos (s := s) h; omega
  · split
    · rename_i h; exact run_pos h
    · split <;> omega
theorem tokLen_le : ∀ s, tokLen s ≤ s.length
  | [] => Nat.le_refl _
  | c :: s => by
    rw [tokLen_cons]
    split
    · have h1 := run_le isWrd (c :: s)
      have h2 := quo_le ((c :: s).drop (run isWrd (c :: s)))
      rw [List.length_drop] at h2
      omega
    · split
      · exact run_le _ _
      · split
        · have := bh_le s; simp only [List.length_cons]; omega
        · simp
theorem cutN_more : ∀ (n : Nat) (s : List Nat), s.length ≤ n → cutN n s = toks s := by
  have key : ∀ (n m : Nat) (s : List Nat), s.length ≤ n → s.length ≤ m → cutN n s = cutN m s := by
    intro n
    induction n with
    | zero =>
      intro m s h _
      have : s = [] := List.length_eq_zero_iff.mp (by omega)
      subst this
      cases m <;> rfl
    | succ n ih =>
      intro m s h h'
      cases s with
      | nil => cases m <;> rfl
      | cons c s =>
        cases m with
        | zero => simp at h'
        | succ m =>
          unfold cutN
          have h1 := tokLen_pos c s
          have : ((c :: s).drop (tokLen (c :: s))).length ≤ s.length := by rw [List.length_drop]; simp only [List.length_cons]; omega
          simp only [List.length_cons] at h h'
          rw [ih m _ (by omega) (by omega)]
  exact fun n s h => key n _ s h (Nat.le_refl _)
theorem toks_cons (c : Nat) (s : List Nat) : toks (c :: s) = emit ((c :: s).take (tokLen (c :: s))) ++ toks ((c :: s).drop (tokLen (c :: s))) := by
  show cutN (s.length + 1) (c :: s) = _
  unfold cutN
  rw [cutN_more]
  have := tokLen_pos c s
  rw [List.length_drop]; simp only [List.length_cons]; omega
theorem toks_app {t x : List Nat} (ht : t ≠ []) (h : tokLen (t ++ x) = t.length) : toks (t ++ x) = emit t ++ toks x := by
  cases t with
  | nil => exact absurd rfl ht
  | cons c s =>
    rw [List.cons_append, toks_cons, ← List.cons_append, h, List.take_left, List.drop_left]
theorem toks_one {t : List Nat} (ht : t ≠ []) (h : tokLen t = t.length) : toks t = emit t := by
  have := toks_app (t := t) (x := []) ht (by rwa [List.append_nil])
  rwa [List.append_nil, show toks [] = [] from rfl, List.append_nil] at this

noncomputable def touch (l f : Nat) : Bool := needP [l] false f
noncomputable def headT (l : Nat) : List Nat → Bool
  | [] => false
  | f :: _ => touch l f
theorem touch_eq (l f : Nat) : touch l f = if l = 32 then false else if isWrd l then isWrd f || decide (f = 39) else if isSym l then isSym f else decide (l = 39) && decide (f = 39) := by
  unfold touch needP; simp
theorem wrd32 : isWrd 32 = false := by decide
theorem wrd39 : isWrd 39 = false := by decide
theorem sym39 : isSym 39 = false := by decide
theorem wrd45 : isWrd 45 = false := by decide
theorem sym45 : isSym 45 = true := by decide
theorem sym_wrd {c : Nat} (h : isSym c = true) : isWrd c = false := by
  have : c ∈ symL := by simpa [isSym] using h
  revert h
  simp only [symL, List.mem_cons, List.not_mem_nil, or_false] at this
  rcases this with rfl | rfl | rfl | rfl | rfl | rfl | rfl | rfl | rfl | rfl | rfl | rfl | rfl | rfl | rfl | rfl | rfl <;> decide

theorem run_all {p : Nat → Bool} : ∀ {w x : List Nat}, (∀ c ∈ w, p c = true) → (∀ f r, x = f :: r → p f = false) → run p (w ++ x) = w.length
  | [], [], _, _ => rfl
  | [], f :: r, _, h => by unfold run; simp [h f r rfl]
  | c :: w, x, h1, h2 => by
    rw [List.cons_append]
    unfold run
    rw [if_pos (h1 c List.mem_cons_self), run_all (fun c hc => h1 c (List.mem_cons_of_mem _ hc)) h2, List.length_cons]; omega

theorem quo_no {x : List Nat} (h : ∀ f r, x = f :: r → f ≠ 39) : quo x = 0 := by
  unfold quo
  split
  · exact absurd rfl (h _ _ rfl)
  · rfl

theorem len_word {c : Nat} {w x : List Nat} (h : ∀ d ∈ c :: w, isWrd d = true) (hx : ∀ f r, x = f :: r → isWrd f = false) : tokLen (c :: w ++ x) = (c :: w).length + quo x := by
  rw [List.cons_append]
  rw [tokLen_cons]
  rw [if_pos (h c List.mem_cons_self), ← List.cons_append, run_all h hx, List.drop_left]
theorem len_sym {c : Nat} {w x : List Nat} (h : ∀ d ∈ c :: w, isSym d = true) (hx : ∀ f r, x = f :: r → isSym f = false) : tokLen (c :: w ++ x) = (c :: w).length := by
  rw [List.cons_append]
  rw [tokLen_cons]
  have hc := h c List.mem_cons_self
  rw [if_neg (by rw [sym_wrd hc]; decide), if_pos hc, ← List.cons_append, run_all h hx]
theorem len_quo (s : List Nat) : tokLen (39 :: s) = 1 + bh s := by
  rw [tokLen_cons]
  rw [if_neg (by rw [wrd39]; decide), if_neg (by rw [sym39]; decide), if_pos rfl]
theorem len_mark {c : Nat} (h1 : isWrd c = false) (h2 : isSym c = false) (h3 : c ≠ 39) (s : List Nat) : tokLen (c :: s) = 1 := by
  rw [tokLen_cons]
  rw [if_neg (by rw [h1]; decide), if_neg (by rw [h2]; decide), if_neg h3]

noncomputable def items : List (List Nat) := [[97], [32], [92, 39], [92, 92], [43], [40]]
theorem bh_plain {c : Nat} (h1 : c ≠ 92) (h2 : c ≠ 39) (y : List Nat) : bh (c :: y) = 1 + bh y := by
  cases y with
  | nil => rfl
  | cons d y =>
    conv => lhs; unfold bh
    rw [if_neg (fun z => z.elim h1 fun z => h2 z.1), if_neg h2]
theorem bh_esc (d : Nat) (y : List Nat) : bh (92 :: d :: y) = 2 + bh y := by
  conv => lhs; unfold bh
  rw [if_pos (.inl rfl)]
theorem bh_in (y : List Nat) : ∀ (l : List (List Nat)), (∀ t ∈ l, t ∈ items) → bh (l.flatten ++ y) = l.flatten.length + bh y
  | [], _ => by simp
  | t :: l, h => by
    have ih := bh_in y l fun t ht => h t (List.mem_cons_of_mem _ ht)
    have ht := h t List.mem_cons_self
    simp only [items, List.mem_cons, List.not_mem_nil, or_false] at ht
    rcases ht with rfl | rfl | rfl | rfl | rfl | rfl
    all_goals simp only [List.flatten_cons, List.cons_append, List.nil_append, List.length_cons]
    · rw [bh_plain (by decide) (by decide), ih]; omega
    · rw [bh_plain (by decide) (by decide), ih]; omega
    · rw [bh_esc, ih]; omega
    · rw [bh_esc, ih]; omega
    · rw [bh_plain (by decide) (by decide), ih]; omega
    · rw [bh_plain (by decide) (by decide), ih]; omega
theorem bh_end {x : List Nat} (h : ∀ f r, x = f :: r → f ≠ 39) : bh (39 :: x) = 1 := by
  cases x with
  | nil => rfl
  | cons f r =>
    unfold bh
    rw [if_neg (fun z => z.elim (by decide) fun z => h f r rfl z.2), if_pos rfl]
theorem bh_dbl (y : List Nat) : bh (39 :: 39 :: y) = 2 + bh y := by
  conv => lhs; unfold bh
  rw [if_pos (.inr ⟨rfl, rfl⟩)]
end Mine.L1

namespace Mine.L1
open Mine Mine.PJ

inductive Piece : List Nat → Prop
  | word (c : Nat) (w : List Nat) : (∀ d ∈ c :: w, isWrd d = true) → Piece (c :: w)
  | sym (c : Nat) (w : List Nat) : (∀ d ∈ c :: w, isSym d = true) → Piece (c :: w)
  | quo (l : List (List Nat)) : (∀ t ∈ l, t ∈ items) → Piece (39 :: (l.flatten ++ [39]))
  | mark (c : Nat) : isWrd c = false → isSym c = false → c ≠ 39 → Piece [c]
  | num (c : Nat) (w : List Nat) : (∀ d ∈ c :: w, isWrd d = true) → Piece (45 :: c :: w)
noncomputable def lastN (p : List Nat) : Nat := p.getLast?.getD 0
theorem lastN_app (p : List Nat) {q : List Nat} (h : q ≠ []) : lastN (p ++ q) = lastN q := by
  unfold lastN
  rw [List.getLast?_append]
  cases q with
  | nil => exact absurd rfl h
  | cons a q => rw [List.getLast?_cons]; rfl
theorem lastN_mem {c : Nat} {w : List Nat} : lastN (c :: w) ∈ c :: w := by
  unfold lastN
  rw [List.getLast?_cons]
  simp only [Option.getD_some]
  cases h : w.getLast? with
  | none => simp
  | some d => simp only [Option.getD_some]; exact List.mem_cons_of_mem _ (List.mem_of_getLast? h)

theorem wrd_sym {c : Nat} (h : isWrd c = true) : isSym c = false := by
  cases q : isSym c with
  | false => rfl
  | true => rw [sym_wrd q] at h; cases h
theorem wrd_ne32 {c : Nat} (h : isWrd c = true) : c ≠ 32 := by rintro rfl; rw [wrd32] at h; cases h
theorem sym_ne32 {c : Nat} (h : isSym c = true) : c ≠ 32 := by rintro rfl; revert h; decide

theorem no_wrd {l : Nat} {x : List Nat} (h : isWrd l = true) (hx : headT l x = false) : (∀ f r, x = f :: r → isWrd f = false) ∧ quo x = 0 := by
  have key : ∀ f r, x = f :: r → isWrd f = false ∧ f ≠ 39 := by
    rintro f r rfl
    have : touch l f = false := hx
    rw [touch_eq, if_neg (wrd_ne32 h), if_pos h] at this
    simpa using this
  exact ⟨fun f r e => (key f r e).1, quo_no fun f r e => (key f r e).2⟩
theorem no_sym {l : Nat} {x : List Nat} (h : isSym l = true) (hx : headT l x = false) : ∀ f r, x = f :: r → isSym f = false := by
  rintro f r rfl
  have : touch l f = false := hx
  rw [touch_eq, if_neg (sym_ne32 h), if_neg (by rw [sym_wrd h]; decide), if_pos h] at this
  exact this
theorem no_quo {x : List Nat} (hx : headT 39 x = false) : ∀ f r, x = f :: r → f ≠ 39 := by
  rintro f r rfl rfl
  have : touch 39 39 = false := hx
  revert this; decide

theorem lastN_quo (u : List Nat) : lastN (39 :: (u ++ [39])) = 39 := by
  unfold lastN; rw [List.getLast?_cons, List.getLast?_append]; rfl

theorem piece_good {p : List Nat} (h : Piece p) {x : List Nat} (hx : headT (lastN p) x = false) : toks (p ++ x) = toks p ++ toks x := by
  have one : ∀ {t : List Nat}, t ≠ [] → (∀ y, headT (lastN p) y = false → tokLen (t ++ y) = t.length) → toks (t ++ x) = toks t ++ toks x := fun {t} ht k => by
    rw [toks_app ht (k x hx), toks_one ht (by simpa using k [] rfl)]
  cases h with
  | word c w hw =>
    refine one (by simp) fun y hy => ?_
    obtain ⟨h1, h2⟩ := no_wrd (hw _ lastN_mem) hy
    rw [len_word hw h1, h2]; rfl
  | sym c w hw => exact one (by simp) fun y hy => len_sym hw (no_sym (hw _ lastN_mem) hy)
  | quo l hl =>
    rw [lastN_quo] at one
    refine one (by simp) fun y hy => ?_
    rw [List.cons_append, len_quo, List.append_assoc, bh_in _ _ hl]
    show 1 + (l.flatten.length + bh (39 :: y)) = _
    rw [bh_end (no_quo hy)]; simp; omega
  | mark c h1 h2 h3 => exact one (by simp) fun y hy => len_mark h1 h2 h3 _
  | num c w hw =>
    have hl : lastN (45 :: c :: w) = lastN (c :: w) := lastN_app [45] (q := c :: w) (by simp)
    rw [hl] at hx
    obtain ⟨h1, h2⟩ := no_wrd (hw _ lastN_mem) hx
    have hs : ∀ z : List Nat, tokLen ([45] ++ (c :: w ++ z)) = 1 := fun z => len_sym (by simp [sym45]) (by rintro f r e; cases e; exact wrd_sym (hw c List.mem_cons_self))
    have e1 : toks (45 :: c :: w ++ x) = emit [45] ++ (emit (c :: w) ++ toks x) := by
      show toks ([45] ++ (c :: w ++ x)) = _
      rw [toks_app (by simp) (hs x), toks_app (t := c :: w) (by simp) (by rw [len_word hw h1, h2]; rfl)]
    have e2 : toks (45 :: c :: w) = emit [45] ++ emit (c :: w) := by
      have := toks_app (t := [45]) (x := c :: w ++ []) (by simp) (hs [])
      rw [List.append_nil] at this
      rw [show 45 :: c :: w = [45] ++ (c :: w) from rfl, this, toks_one (by simp) (by have := len_word (x := []) hw (by simp); rw [List.append_nil] at this; rw [this]; rfl)]
    rw [e1, e2, List.append_assoc]

theorem emit_len {t : List Nat} (h : t ≠ [32]) : (emit t).length = 1 := by unfold emit; rw [if_neg h]; rfl
theorem emit_le (t : List Nat) : (emit t).length ≤ 1 := by unfold emit; split <;> simp
theorem toks_word {c : Nat} {w : List Nat} (hw : ∀ d ∈ c :: w, isWrd d = true) : toks (c :: w) = [c :: w] := by
  rw [toks_one (by simp) (by have := len_word (x := []) hw (by simp); rw [List.append_nil] at this; rw [this]; rfl)]
  unfold emit; rw [if_neg]; intro z; cases z; exact wrd_ne32 (hw 32 List.mem_cons_self) rfl
theorem toks_sym {c : Nat} {w : List Nat} (hw : ∀ d ∈ c :: w, isSym d = true) : toks (c :: w) = [c :: w] := by
  rw [toks_one (by simp) (by have := len_sym (x := []) hw (by simp); rw [List.append_nil] at this; exact this)]
  unfold emit; rw [if_neg]; intro z; cases z; exact sym_ne32 (hw 32 List.mem_cons_self) rfl
theorem toks_quo {l : List (List Nat)} (hl : ∀ t ∈ l, t ∈ items) : toks (39 :: (l.flatten ++ [39])) = [39 :: (l.flatten ++ [39])] := by
  rw [toks_one (by simp) (by rw [len_quo, bh_in _ _ hl, show bh [39] = 1 from rfl]; simp; omega)]
  unfold emit; rw [if_neg]; intro z; cases z
theorem toks_num {c : Nat} {w : List Nat} (hw : ∀ d ∈ c :: w, isWrd d = true) : toks (45 :: c :: w) = [[45], c :: w] := by
  have := toks_app (t := [45]) (x := c :: w) (by simp) (len_sym (by simp [sym45]) (by rintro f r e; cases e; exact wrd_sym (hw c List.mem_cons_self)))
  rw [show 45 :: c :: w = [45] ++ (c :: w) from rfl, this, toks_word hw]; rfl

theorem piece_bad {p q : List Nat} (h : Piece p) (h' : Piece q) (hx : headT (lastN p) q = true) : toks (p ++ q) ≠ toks p ++ toks q := by
  intro E
  have wrd : ∀ (c : Nat) (w : List Nat), (∀ d ∈ c :: w, isWrd d = true) → headT (lastN (c :: w)) q = true → (toks (c :: w ++ q)).length = 1 ∧ (toks q).length = 1 := fun c w hw hx => by
    have hq : ∀ f r, q = f :: r → isWrd f = true ∨ f = 39 := by
      rintro f r rfl
      have : touch (lastN (c :: w)) f = true := hx
      rw [touch_eq, if_neg (wrd_ne32 (hw _ lastN_mem)), if_pos (hw _ lastN_mem)] at this
      simpa using this
    cases h' with
    | word d v hv =>
      refine ⟨?_, by rw [toks_word hv]; rfl⟩
      rw [List.cons_append, toks_word (c := c) (w := w ++ d :: v) (by
        intro e he
        rcases List.mem_append.mp (show e ∈ (c :: w) ++ d :: v from he) with h | h
        · exact hw e h
        · exact hv e h)]
      rfl
    | sym d v hv => rcases hq _ _ rfl with h | h
                    · rw [sym_wrd (hv d List.mem_cons_self)] at h; cases h
                    · subst h; exact absurd (hv 39 List.mem_cons_self) (by decide)
    | quo l hl =>
      refine ⟨?_, by rw [toks_quo hl]; rfl⟩
      have hlen : tokLen (c :: w ++ 39 :: (l.flatten ++ [39])) = (c :: w ++ 39 :: (l.flatten ++ [39])).length := by
        rw [len_word hw (by rintro f r e; cases e; exact wrd39)]
        show _ + (1 + bh (l.flatten ++ [39])) = _
        rw [bh_in _ _ hl, show bh [39] = 1 from rfl]; simp; omega
      rw [toks_one (by simp) hlen, emit_len (by simp)]
    | mark d h1 h2 h3 => rcases hq _ _ rfl with h | h
                         · rw [h1] at h; cases h
                         · exact absurd h h3
    | num d v hv => rcases hq _ _ rfl with h | h
                    · rw [wrd45] at h; cases h
                    · exact absurd h (by decide)
  cases h with
  | word c w hw =>
    obtain ⟨e1, e2⟩ := wrd c w hw hx
    rw [E, toks_word hw, List.length_append, e2] at e1
    simp at e1
  | num c w hw =>
    rw [show lastN (45 :: c :: w) = lastN (c :: w) from lastN_app [45] (q := c :: w) (by simp)] at hx
    obtain ⟨e1, e2⟩ := wrd c w hw hx
    have := toks_app (t := [45]) (x := c :: w ++ q) (by simp) (len_sym (by simp [sym45]) (by rintro f r e; cases e; exact wrd_sym (hw c List.mem_cons_self)))
    rw [show 45 :: c :: w ++ q = [45] ++ (c :: w ++ q) from rfl, this, toks_num hw] at E
    have := congrArg List.length E
    rw [List.length_append, List.length_append, e1, e2] at this
    simp [emit] at this
  | sym c w hw =>
    have hq : ∀ f r, q = f :: r → isSym f = true := by
      rintro f r rfl
      have : touch (lastN (c :: w)) f = true := hx
      rwa [touch_eq, if_neg (sym_ne32 (hw _ lastN_mem)), if_neg (by rw [sym_wrd (hw _ lastN_mem)]; decide), if_pos (hw _ lastN_mem)] at this
    cases h' with
    | word d v hv => have := hq _ _ rfl; rw [wrd_sym (hv d List.mem_cons_self)] at this; cases this
    | sym d v hv =>
      rw [List.cons_append, toks_sym (c := c) (w := w ++ d :: v) (by
        intro e he
        rcases List.mem_append.mp (show e ∈ (c :: w) ++ d :: v from he) with h | h
        · exact hw e h
        · exact hv e h), toks_sym hw, toks_sym hv] at E
      have := congrArg List.length E; simp at this
    | quo l hl => have := hq _ _ rfl; rw [sym39] at this; cases this
    | mark d h1 h2 h3 => have := hq _ _ rfl; rw [h2] at this; cases this
    | num d v hv =>
      have := toks_app (t := c :: (w ++ [45])) (x := d :: v) (by simp) (len_sym (by
        intro e he
        rcases List.mem_append.mp (show e ∈ (c :: w) ++ [45] from he) with h | h
        · exact hw e h
        · simp at h; subst h; exact sym45) (by rintro f r e; cases e; exact wrd_sym (hv d List.mem_cons_self)))
      rw [show c :: w ++ 45 :: d :: v = c :: (w ++ [45]) ++ d :: v by simp, this, toks_word hv, toks_sym hw, toks_num hv] at E
      have := congrArg List.length E
      have l1 := emit_le (c :: (w ++ [45]))
      simp at this; omega
  | quo l hl =>
    rw [lastN_quo] at hx
    have hq : ∀ f r, q = f :: r → f = 39 := by
      rintro f r rfl
      have : touch 39 f = true := hx
      rw [touch_eq, if_neg (by decide), if_neg (by rw [wrd39]; decide), if_neg (by rw [sym39]; decide)] at this
      simpa using this
    cases h' with
    | word d v hv => have := hq _ _ rfl; subst this; exact absurd (hv 39 List.mem_cons_self) (by decide)
    | sym d v hv => have := hq _ _ rfl; subst this; exact absurd (hv 39 List.mem_cons_self) (by decide)
    | quo l2 hl2 =>
      have hlen : tokLen (39 :: (l.flatten ++ [39]) ++ 39 :: (l2.flatten ++ [39])) = (39 :: (l.flatten ++ [39]) ++ 39 :: (l2.flatten ++ [39])).length := by
        rw [List.cons_append, len_quo, List.append_assoc, bh_in _ _ hl]
        show 1 + (_ + bh (39 :: 39 :: (l2.flatten ++ [39]))) = _
        rw [bh_dbl, bh_in _ _ hl2, show bh [39] = 1 from rfl]; simp; omega
      rw [toks_one (by simp) hlen, toks_quo hl, toks_quo hl2] at E
      have := congrArg List.length E
      have l1 := emit_le (39 :: (l.flatten ++ [39]) ++ 39 :: (l2.flatten ++ [39]))
      simp at this l1; omega
    | mark d h1 h2 h3 => exact absurd (hq _ _ rfl) h3
    | num d v hv => exact absurd (hq _ _ rfl) (by decide)
  | mark c h1 h2 h3 =>
    exfalso
    cases q with
    | nil => cases h'
    | cons f r =>
      have : touch c f = true := hx
      rw [touch_eq] at this
      split at this
      · cases this
      · rw [if_neg (by rw [h1]; decide), if_neg (by rw [h2]; decide)] at this
        simp [h3] at this
end Mine.L1

namespace Mine.L1
open Mine Mine.PJ

noncomputable def Bit (p : List Nat) : Prop := Piece p ∨ p = [32]
theorem Piece.ne {p : List Nat} (h : Piece p) : p ≠ [] := by cases h <;> simp
theorem Bit.ne {p : List Nat} (h : Bit p) : p ≠ [] := h.elim Piece.ne fun e => by simp [e]
theorem toks_blank (y : List Nat) : toks (32 :: y) = toks y := by
  have := toks_app (t := [32]) (x := y) (by simp) (len_mark (by decide) (by decide) (by decide) y)
  rw [show 32 :: y = [32] ++ y from rfl, this]; rfl
theorem touch_b1 (f : Nat) : touch 32 f = false := by rw [touch_eq, if_pos rfl]
theorem touch_b2 (l : Nat) : touch l 32 = false := by
  rw [touch_eq]
  split
  · rfl
  · split
    · decide
    · split
      · decide
      · simp
theorem bit_good {p : List Nat} (h : Bit p) {x : List Nat} (hx : headT (lastN p) x = false) : toks (p ++ x) = toks p ++ toks x := by
  rcases h with h | rfl
  · exact piece_good h hx
  · show toks (32 :: x) = _; rw [toks_blank, show toks [32] = [] from toks_blank []]; rfl
theorem bit_bad {p q : List Nat} (h : Bit p) (h' : Bit q) (hx : headT (lastN p) q = true) : toks (p ++ q) ≠ toks p ++ toks q := by
  rcases h with h | rfl
  · rcases h' with h' | rfl
    · exact piece_bad h h' hx
    · have : touch (lastN p) 32 = true := hx
      rw [touch_b2] at this; cases this
  · cases q with
    | nil => cases hx
    | cons f r => have : touch 32 f = true := hx; rw [touch_b1] at this; cases this
theorem headT_app {l : Nat} {p x : List Nat} (h : p ≠ []) : headT l (p ++ x) = headT l p := by
  cases p with
  | nil => exact absurd rfl h
  | cons _ _ => rfl

noncomputable def apart (prior near : List Nat) : Bool := if prior = [] then false else headT (lastN prior) near
theorem apart_eq {prior near : List Nat} (h : prior = [] ∨ Bit prior) (h' : near = [] ∨ Bit near) : decide (toks (prior ++ near) = toks prior ++ toks near) = !apart prior near := by
  unfold apart
  rcases h with rfl | h
  · rw [List.nil_append, show toks [] = [] from rfl, List.nil_append]; simp
  · rw [if_neg h.ne]
    rcases h' with rfl | h'
    · rw [List.append_nil, show toks [] = [] from rfl, List.append_nil]; simp [headT]
    · cases e : headT (lastN prior) near with
      | false => rw [bit_good h e]; simp
      | true => have := bit_bad h h' e; simp [this]

structure Line (line prior : List Nat) : Prop where
  good : ∀ x, (line ≠ [] → headT (lastN line) x = false) → toks (line ++ x) = toks line ++ toks x
  same : (line = [] ∧ prior = []) ∨ (line ≠ [] ∧ Bit prior ∧ lastN line = lastN prior)
theorem Line.nil : Line [] [] := ⟨fun x _ => rfl, .inl ⟨rfl, rfl⟩⟩
noncomputable def more (ap : Bool) (near : List Nat) : List Nat := if ap then 32 :: near else near
theorem Line.step {line prior near : List Nat} (L : Line line prior) (h : Bit near) : Line (line ++ more (apart prior near) near) near ∧ toks (line ++ more (apart prior near) near) = toks line ++ toks near := by
  have hn := h.ne
  have hlast : ∀ b, lastN (line ++ more b near) = lastN near := fun b => by
    unfold more
    split
    · rw [show line ++ 32 :: near = line ++ [32] ++ near by simp, lastN_app _ hn]
    · rw [lastN_app _ hn]
  have hne : ∀ b, line ++ more b near ≠ [] := fun b z => by
    have := congrArg List.length z
    unfold more at this
    split at this
    · simp at this
    · simp at this; exact hn this.2
  have key : ∀ x, toks (line ++ (more (apart prior near) near ++ x)) = toks line ++ toks (near ++ x) := fun x => by
    unfold apart
    rcases L.same with ⟨rfl, rfl⟩ | ⟨h1, h2, h3⟩
    · rw [if_pos rfl]; rfl
    · rw [if_neg h2.ne, ← h3]
      cases e : headT (lastN line) near with
      | false => exact L.good _ fun _ => by show headT (lastN line) (near ++ x) = false; rw [headT_app hn]; exact e
      | true =>
        show toks (line ++ (32 :: near ++ x)) = _
        rw [List.cons_append, L.good (32 :: (near ++ x)) fun _ => touch_b2 _, toks_blank]
  have tk : toks (line ++ more (apart prior near) near) = toks line ++ toks near := by
    have := key []
    rwa [List.append_nil, List.append_nil] at this
  refine ⟨⟨fun x hx => ?_, .inr ⟨hne _, h, hlast _⟩⟩, tk⟩
  have := hx (hne _)
  rw [hlast] at this
  rw [List.append_assoc, key x, bit_good h this, tk, List.append_assoc]

structure WOk (q : WS) (line : List Nat) : Prop where
  out : q.1.flatten = line
  last : q.2.1 = if line = [] then [] else [lastN line]
  pre : q.2.2 = false
theorem WOk.need {q : WS} {line prior : List Nat} {f : Nat} {r : List Nat} (W : WOk q line) (L : Line line prior) : needP q.2.1 q.2.2 f = apart prior (f :: r) := by
  rw [W.last, W.pre]
  unfold apart
  rcases L.same with ⟨rfl, rfl⟩ | ⟨h1, h2, h3⟩
  · rfl
  · rw [if_neg h1, if_neg h2.ne, ← h3]; rfl
theorem rawP_ok {q : WS} {t : List Nat} (h : t ≠ []) : rawP q t = (q.1 ++ [t], [lastN t], false) := by
  unfold rawP lastN
  cases e : t.getLast? with
  | none => rw [List.getLast?_eq_none_iff] at e; exact absurd e h
  | some c => rfl
theorem WOk.tok {q : WS} {line prior near : List Nat} (W : WOk q line) (L : Line line prior) (h : near ≠ []) : WOk (tokP q near) (line ++ more (apart prior near) near) := by
  cases near with
  | nil => exact absurd rfl h
  | cons f r =>
    show WOk (rawP (if needP q.2.1 q.2.2 f then (q.1 ++ [[32]], q.2) else q) (f :: r)) _
    rw [W.need L (r := r), rawP_ok h]
    have e : ∀ b, line ++ more b (f :: r) ≠ [] := fun b z => by
      have := congrArg List.length z
      unfold more at this
      split at this <;> simp at this
    refine ⟨?_, ?_, rfl⟩
    · cases apart prior (f :: r) with
      | false => simp [W.out, more]
      | true => simp [W.out, more]
    · rw [if_neg (e _)]
      show [lastN (f :: r)] = _
      unfold more
      split
      · rw [show line ++ 32 :: f :: r = line ++ [32] ++ (f :: r) by simp, lastN_app _ h]
      · rw [lastN_app _ h]
end Mine.L1

namespace Mine.L1
open Mine Mine.PJ
noncomputable def n__law_wordy : List Str := ["mark"]
noncomputable def b__law_wordy : PSs := (.cons (.ite (.bop false (.cons (.cmp2 .LtE .LtE (.c (.str [97])) (.x 0) (.c (.str [122]))) (.cons (.cmp2 .LtE .LtE (.c (.str [65])) (.x 0) (.c (.str [90]))) (.cons (.cmp2 .LtE .LtE (.c (.str [48])) (.x 0) (.c (.str [57]))) .nil)))) (.cons (.ret (.c (.bool true)))
 .nil) .nil)
 (.cons (.ret (.bop false (.cons (.cmp .Eq (.x 0) (.c (.str [95]))) (.cons (.cmp .Gt (.bi .ord (.cons (.x 0) .nil)) (.c (.int 127))) .nil))))
 .nil))
noncomputable def n__law_behind_item : List Str := ["line", "spot", "far"]
noncomputable def b__law_behind_item : PSs := (.cons (.asg 2 (.bin .Add (.x 1) (.c (.int 1))))
 (.cons (.wh (.cmp .Lt (.x 2) (.bi .len (.cons (.x 0) .nil))) (.cons (.ite (.bop false (.cons (.cmp .Eq (.sub (.x 0) (.x 2)) (.c (.str [92]))) (.cons (.cmp .Eq (.slice (.x 0) (.x 2) (.bin .Add (.x 2) (.c (.int 2)))) (.c (.str [39, 39]))) .nil))) (.cons (.aug 2 .Add (.c (.int 2)))
 .nil) (.cons (.ite (.cmp .Eq (.sub (.x 0) (.x 2)) (.c (.str [39]))) (.cons (.ret (.bin .Add (.x 2) (.c (.int 1))))
 .nil) (.cons (.aug 2 .Add (.c (.int 1)))
 .nil))
 .nil))
 .nil))
 (.cons (.ret (.bi .len (.cons (.x 0) .nil)))
 .nil)))
noncomputable def n__law_cut : List Str := ["line", "found", "spot", "begun", "wordy"]
noncomputable def b__law_cut : PSs := (.cons (.asg 1 (.list .nil))
 (.cons (.asg 2 (.c (.int 0)))
 (.cons (.wh (.cmp .Lt (.x 2) (.bi .len (.cons (.x 0) .nil))) (.cons (.asg 3 (.x 2))
 (.cons (.asg 4 (.call 35 (.cons (.sub (.x 0) (.x 2)) .nil)))
 (.cons (.ite (.x 4) (.cons (.wh (.bop true (.cons (.cmp .Lt (.x 2) (.bi .len (.cons (.x 0) .nil))) (.cons (.call 35 (.cons (.sub (.x 0) (.x 2)) .nil)) .nil))) (.cons (.aug 2 .Add (.c (.int 1)))
 .nil))
 .nil) (.cons (.ite (.cmp .In (.sub (.x 0) (.x 2)) (.c (.str [43, 45, 42, 47, 92, 94, 60, 62, 61, 126, 58, 46, 63, 64, 35, 38, 36]))) (.cons (.wh (.bop true (.cons (.cmp .Lt (.x 2) (.bi .len (.cons (.x 0) .nil))) (.cons (.cmp .In (.sub (.x 0) (.x 2)) (.c (.str [43, 45, 42, 47, 92, 94, 60, 62, 61, 126, 58, 46, 63, 64, 35, 38, 36]))) .nil))) (.cons (.aug 2 .Add (.c (.int 1)))
 .nil))
 .nil) (.cons (.ite (.cmp .NotEq (.sub (.x 0) (.x 2)) (.c (.str [39]))) (.cons (.aug 2 .Add (.c (.int 1)))
 .nil) .nil)
 .nil))
 .nil))
 (.cons (.ite (.bop true (.cons (.cmp .Eq (.slice (.x 0) (.x 2) (.bin .Add (.x 2) (.c (.int 1)))) (.c (.str [39]))) (.cons (.bop false (.cons (.x 4) (.cons (.cmp .Eq (.x 2) (.x 3)) .nil))) .nil))) (.cons (.asg 2 (.call 34 (.cons (.x 0) (.cons (.x 2) .nil))))
 .nil) .nil)
 (.cons (.ite (.cmp .NotEq (.slice (.x 0) (.x 3) (.x 2)) (.c (.str [32]))) (.cons (.expr (.bm .append (.x 1) (.cons (.slice (.x 0) (.x 3) (.x 2)) .nil)))
 .nil) .nil)
 .nil))))))
 (.cons (.ret (.x 1))
 .nil))))
noncomputable def n__law_piece : List Str := ["row", "way", "letters", "inner"]
noncomputable def b__law_piece : PSs := (.cons (.asg 1 (.call 36 (.cons (.x 0) (.cons (.c (.int 6)) .nil))))
 (.cons (.ite (.cmp .Lt (.x 1) (.c (.int 2))) (.cons (.asg 2 (.sub (.list (.cons (.c (.str [97, 98, 122, 65, 90, 95, 48, 49, 57, 233])) (.cons (.c (.str [43, 45, 42, 47, 92, 94, 60, 62, 61, 126, 58, 46, 63, 64, 35, 38, 36])) .nil))) (.x 1)))
 (.cons (.ret (.bm .join (.c (.str [])) (.cons (.comp (.sub (.x 2) (.call 36 (.cons (.x 0) (.cons (.bi .len (.cons (.x 2) .nil)) .nil)))) (.range (.bin .Add (.c (.int 1)) (.call 36 (.cons (.x 0) (.cons (.c (.int 3)) .nil)))))) .nil)))
 .nil)) .nil)
 (.cons (.ite (.cmp .Eq (.x 1) (.c (.int 2))) (.cons (.asg 3 (.list (.cons (.c (.str [97])) (.cons (.c (.str [32])) (.cons (.c (.str [92, 39])) (.cons (.c (.str [92, 92])) (.cons (.c (.str [43])) (.cons (.c (.str [40])) .nil))))))))
 (.cons (.ret (.bin .Add (.bin .Add (.c (.str [39])) (.bm .join (.c (.str [])) (.cons (.comp (.sub (.x 3) (.call 36 (.cons (.x 0) (.cons (.c (.int 6)) .nil)))) (.range (.call 36 (.cons (.x 0) (.cons (.c (.int 4)) .nil))))) .nil))) (.c (.str [39]))))
 .nil)) .nil)
 (.cons (.ite (.cmp .Eq (.x 1) (.c (.int 3))) (.cons (.ret (.sub (.c (.str [40, 41, 91, 93, 123, 125, 44, 124, 33, 59])) (.call 36 (.cons (.x 0) (.cons (.c (.int 10)) .nil)))))
 .nil) .nil)
 (.cons (.ite (.cmp .Eq (.x 1) (.c (.int 4))) (.cons (.ret (.sub (.list (.cons (.c (.str [])) (.cons (.c (.str [32])) .nil))) (.call 36 (.cons (.x 0) (.cons (.c (.int 2)) .nil)))))
 .nil) .nil)
 (.cons (.ret (.bin .Add (.c (.str [45])) (.bi .str (.cons (.call 36 (.cons (.x 0) (.cons (.c (.int 96)) .nil))) .nil))))
 .nil))))))
noncomputable def n_law : List Str := ["script", "row", "signs", "scribe", "line", "prior", "tokens", "turn", "near", "parts", "apart"]
noncomputable def b_law : PSs := (.cons (.asg 1 (.call 42 (.cons (.x 0) .nil)))
 (.cons (.asg 2 (.new 41 .nil))
 (.cons (.asg 3 (.new 39 (.cons (.x 2) (.cons (.new 40 (.cons (.x 2) (.cons (.c (.bool false)) .nil))) .nil))))
 (.cons (.asg 4 (.c (.str [])))
 (.cons (.asg 5 (.c (.str [])))
 (.cons (.asg 6 (.list .nil))
 (.cons (.for1 7 (.range (.bin .Add (.c (.int 3)) (.call 36 (.cons (.x 1) (.cons (.c (.int 10)) .nil))))) (.cons (.asg 8 (.call 38 (.cons (.x 1) .nil)))
 (.cons (.asg 9 (.call 37 (.cons (.x 8) .nil)))
 (.cons (.asg 10 (.cmp .NotEq (.call 37 (.cons (.bin .Add (.x 5) (.x 8)) .nil)) (.bin .Add (.call 37 (.cons (.x 5) .nil)) (.x 9))))
 (.cons (.ite (.bop true (.cons (.cmp .NotEq (.x 8) (.c (.str []))) (.cons (.cmp .NotEq (.meth (.x 3) 28 (.cons (.sub (.x 8) (.c (.int 0))) .nil)) (.x 10)) .nil))) (.cons (.ret (.c (.bool false)))
 .nil) .nil)
 (.cons (.ite (.bop true (.cons (.cmp .In (.x 8) (.list (.cons (.c (.str [])) (.cons (.c (.str [32])) (.cons (.c (.str [40])) (.cons (.c (.str [41])) (.cons (.c (.str [91])) (.cons (.c (.str [93])) (.cons (.c (.str [123])) (.cons (.c (.str [125])) (.cons (.c (.str [44])) (.cons (.c (.str [124])) (.cons (.c (.str [33])) (.cons (.c (.str [59])) .nil)))))))))))))) (.cons (.cmp .Eq (.call 36 (.cons (.x 1) (.cons (.c (.int 2)) .nil))) (.c (.int 1))) .nil))) (.cons (.expr (.meth (.x 3) 27 (.cons (.x 8) .nil)))
 .nil) (.cons (.expr (.meth (.x 3) 29 (.cons (.x 8) .nil)))
 .nil))
 (.cons (.asg 4 (.bin .Add (.x 4) (.ite (.x 10) (.bin .Add (.c (.str [32])) (.x 8)) (.x 8))))
 (.cons (.asg 6 (.bin .Add (.x 6) (.x 9)))
 (.cons (.asg 5 (.ite (.cmp .NotEq (.x 8) (.c (.str []))) (.x 8) (.x 5)))
 .nil)))))))))
 (.cons (.ret (.bop true (.cons (.cmp .Eq (.bm .join (.c (.str [])) (.cons (.attr (.x 3) 17) .nil)) (.x 4)) (.cons (.cmp .Eq (.attr (.x 3) 16) (.slice (.x 4) (.neg (.c (.int 1))) (.c .none))) (.cons (.cmp .Eq (.call 37 (.cons (.x 4) .nil)) (.x 6)) .nil)))))
 .nil))))))))
noncomputable def anX : List Str := []
noncomputable def gnX : List Str := (["_law_behind_item", "_law_wordy", "_law_next", "_law_cut", "_law_piece", "Writer", "OperatorTable", "Symbols", "_law_row"] : List Str)
noncomputable def glX : List V := [.ref 504, .ref 497, .ref 490, .ref 511, .ref 516, .ref 472, .ref 287, .ref 122, .ref 483]
noncomputable def cxh (h : Params → Frag) (p : Program) (w : World) (g0 : Heap) (os : OsState) : Cx := ⟨p, w, g0, os, h w.params, anP ++ anX, gnP ++ gnX, fun i => (glP ++ glX).getD i .none⟩
structure F1 (h : Params → Frag) : Prop where
  gl : ∀ p, glChk (h p) (gnP ++ gnX) (glP ++ glX) = true
  bl : ∀ p, bltChk (h p) = true
  la : ∀ p, nsIn (h p) mainGlobals "law" = some (some (.ref 523))
  at_ : ∀ p w g0 os, attrL.all (fun q => attrAt (cxh h p w g0 os) q.1 q.2) = true
  me_ : ∀ p w g0 os, methL.all (fun q => methAt (cxh h p w g0 os) q.1 q.2.1 == some q.2.2) = true
  nw_ : ∀ p w g0 os, newL.all (fun q => makes (cxh h p w g0 os) q.1 == some q.2) = true
  d__law_wordy : ∀ p w g0 os, Def (cxh h p w g0 os) 497 1 n__law_wordy [] b__law_wordy
  d__law_behind_item : ∀ p w g0 os, Def (cxh h p w g0 os) 504 2 n__law_behind_item [] b__law_behind_item
  d__law_cut : ∀ p w g0 os, Def (cxh h p w g0 os) 511 1 n__law_cut [] b__law_cut
  d__law_piece : ∀ p w g0 os, Def (cxh h p w g0 os) 516 1 n__law_piece [] b__law_piece
  d_law : ∀ p w g0 os, Def (cxh h p w g0 os) 523 1 n_law [] b_law
  p_fixed_atoms : ∀ p w g0 os, PJ.D_fixed_atoms (cxh h p w g0 os)
  p_fixed_functors : ∀ p w g0 os, PJ.D_fixed_functors (cxh h p w g0 os)
  p_Symbols___init__ : ∀ p w g0 os, PJ.D_Symbols___init__ (cxh h p w g0 os)
  p_Symbols_atom : ∀ p w g0 os, PJ.D_Symbols_atom (cxh h p w g0 os)
  p_Symbols_functor : ∀ p w g0 os, PJ.D_Symbols_functor (cxh h p w g0 os)
  p_Symbols_func : ∀ p w g0 os, PJ.D_Symbols_func (cxh h p w g0 os)
  p_is_digit : ∀ p w g0 os, PJ.D_is_digit (cxh h p w g0 os)
  p_is_small : ∀ p w g0 os, PJ.D_is_small (cxh h p w g0 os)
  p_is_capital : ∀ p w g0 os, PJ.D_is_capital (cxh h p w g0 os)
  p_is_alnum : ∀ p w g0 os, PJ.D_is_alnum (cxh h p w g0 os)
  p_is_symbol : ∀ p w g0 os, PJ.D_is_symbol (cxh h p w g0 os)
  p_fixity : ∀ p w g0 os, PJ.D_fixity (cxh h p w g0 os)
  p_OperatorTable___init__ : ∀ p w g0 os, PJ.D_OperatorTable___init__ (cxh h p w g0 os)
  p_OperatorTable_table_of : ∀ p w g0 os, PJ.D_OperatorTable_table_of (cxh h p w g0 os)
  p_OperatorTable_add : ∀ p w g0 os, PJ.D_OperatorTable_add (cxh h p w g0 os)
  p_is_word : ∀ p w g0 os, PJ.D_is_word (cxh h p w g0 os)
  p_Writer___init__ : ∀ p w g0 os, PJ.D_Writer___init__ (cxh h p w g0 os)
  p_Writer_raw : ∀ p w g0 os, PJ.D_Writer_raw (cxh h p w g0 os)
  p_Writer_token : ∀ p w g0 os, PJ.D_Writer_token (cxh h p w g0 os)
  p_Writer_needs_space : ∀ p w g0 os, PJ.D_Writer_needs_space (cxh h p w g0 os)
  p__law_row : ∀ p w g0 os, PJ.D__law_row (cxh h p w g0 os)
  p__law_next : ∀ p w g0 os, PJ.D__law_next (cxh h p w g0 os)
structure H1 where
  h : Params → Frag
  F : F1 h
noncomputable abbrev cxL (hh : H1) (p : Program) (w : World) (g0 : Heap) (os : OsState) : Cx := cxh hh.h p w g0 os
section
variable (hh : H1) (p : Program) (w : World) (g0 : Heap) (os : OsState)
theorem D__law_wordy : Def (cxL hh p w g0 os) 497 1 n__law_wordy [] b__law_wordy := hh.F.d__law_wordy ..
theorem D__law_behind_item : Def (cxL hh p w g0 os) 504 2 n__law_behind_item [] b__law_behind_item := hh.F.d__law_behind_item ..
theorem D__law_cut : Def (cxL hh p w g0 os) 511 1 n__law_cut [] b__law_cut := hh.F.d__law_cut ..
theorem D__law_piece : Def (cxL hh p w g0 os) 516 1 n__law_piece [] b__law_piece := hh.F.d__law_piece ..
theorem D_law : Def (cxL hh p w g0 os) 523 1 n_law [] b_law := hh.F.d_law ..
theorem base (ok : CxOk (cxL hh p w g0 os)) : Base (cxL hh p w g0 os) := ⟨ok, fun k hk => List.getElem?_append_left hk, fun i hi => by
  show (glP ++ glX).getD i .none = _
  rw [List.getD_eq_getElem?_getD, List.getElem?_append_left hi, List.getD_eq_getElem?_getD], hh.F.at_ .., hh.F.me_ .., hh.F.nw_ ..⟩
theorem P_fixed_atoms : PJ.D_fixed_atoms (cxL hh p w g0 os) := hh.F.p_fixed_atoms ..
theorem P_fixed_functors : PJ.D_fixed_functors (cxL hh p w g0 os) := hh.F.p_fixed_functors ..
theorem P_Symbols___init__ : PJ.D_Symbols___init__ (cxL hh p w g0 os) := hh.F.p_Symbols___init__ ..
theorem P_Symbols_atom : PJ.D_Symbols_atom (cxL hh p w g0 os) := hh.F.p_Symbols_atom ..
theorem P_Symbols_functor : PJ.D_Symbols_functor (cxL hh p w g0 os) := hh.F.p_Symbols_functor ..
theorem P_Symbols_func : PJ.D_Symbols_func (cxL hh p w g0 os) := hh.F.p_Symbols_func ..
theorem P_is_digit : PJ.D_is_digit (cxL hh p w g0 os) := hh.F.p_is_digit ..
theorem P_is_small : PJ.D_is_small (cxL hh p w g0 os) := hh.F.p_is_small ..
theorem P_is_capital : PJ.D_is_capital (cxL hh p w g0 os) := hh.F.p_is_capital ..
theorem P_is_alnum : PJ.D_is_alnum (cxL hh p w g0 os) := hh.F.p_is_alnum ..
theorem P_is_symbol : PJ.D_is_symbol (cxL hh p w g0 os) := hh.F.p_is_symbol ..
theorem P_fixity : PJ.D_fixity (cxL hh p w g0 os) := hh.F.p_fixity ..
theorem P_OperatorTable___init__ : PJ.D_OperatorTable___init__ (cxL hh p w g0 os) := hh.F.p_OperatorTable___init__ ..
theorem P_OperatorTable_table_of : PJ.D_OperatorTable_table_of (cxL hh p w g0 os) := hh.F.p_OperatorTable_table_of ..
theorem P_OperatorTable_add : PJ.D_OperatorTable_add (cxL hh p w g0 os) := hh.F.p_OperatorTable_add ..
theorem P_is_word : PJ.D_is_word (cxL hh p w g0 os) := hh.F.p_is_word ..
theorem P_Writer___init__ : PJ.D_Writer___init__ (cxL hh p w g0 os) := hh.F.p_Writer___init__ ..
theorem P_Writer_raw : PJ.D_Writer_raw (cxL hh p w g0 os) := hh.F.p_Writer_raw ..
theorem P_Writer_token : PJ.D_Writer_token (cxL hh p w g0 os) := hh.F.p_Writer_token ..
theorem P_Writer_needs_space : PJ.D_Writer_needs_space (cxL hh p w g0 os) := hh.F.p_Writer_needs_space ..
theorem P__law_row : PJ.D__law_row (cxL hh p w g0 os) := hh.F.p__law_row ..
theorem P__law_next : PJ.D__law_next (cxL hh p w g0 os) := hh.F.p__law_next ..
end
end Mine.L1

namespace Mine.L1
open Mine Mine.PJ

section
variable {hh : H1} {p : Program} {w : World} {g0 : Heap} {os : OsState} {n : Nat} {H : AH} {Q : V → AH → Prop}
theorem leS1 (a c : Nat) : leS [a] [c] = decide (a ≤ c) := by
  simp [leS]
  rw [Bool.eq_iff_iff]; simp; omega
theorem step_cmp2 {b : Bool} {z : V} {P : V → AH → Prop} {e : PE} {ρ : Rho} {cx : Cx} (h1 : b = true → wpE cx n e ρ H fun z' H₃ => cmpW .LtE z z' H₃ fun t => P (.bool t) H₃) (h2 : b = false → P (.bool false) H) :
    (if b = true then wpE cx n e ρ H fun z' H₃ => cmpW .LtE z z' H₃ fun t => P (.bool t) H₃ else P (.bool false) H) := by
  cases b
  · exact h2 rfl
  · exact h1 rfl
theorem rng2 {a b c : Nat} {ρ : Rho} {P : V → AH → Prop} {cx : Cx} (e : slot ρ 0 = some (.str [c])) (k : P (.bool (decide (a ≤ c) && decide (c ≤ b))) H) : wpE cx n (.cmp2 .LtE .LtE (.c (.str [a])) (.x 0) (.c (.str [b]))) ρ H P := by
  rw [E_cmp2, E_c, E_xs e, W_leS, leS1]
  refine step_cmp2 (fun h => ?_) fun h => ?_
  · rw [E_c, W_leS, leS1]
    rw [h, Bool.true_and] at k; exact k
  · rw [h, Bool.false_and] at k; exact k

theorem wordy_spec {c : Nat} (ok : CxOk (cxL hh p w g0 os)) (k : Q (.bool (isWrd c)) H) : CallOk (cxL hh p w g0 os) (n + 1) 497 [.str [c]] H Q := by
  refine def_call (base _ _ _ _ _ ok) (D__law_wordy ..) (by simp) (by simp) ?_
  show wpSs _ n b__law_wordy [some (.str [c])] H _
  unfold b__law_wordy
  have e0 : isWrd c = ((isSml c || isCap c || isDig c) || (decide (c = 95) || decide (127 < c))) := by
    unfold isWrd isAln
    rw [show decide (128 ≤ c) = decide (127 < c) from rfl]
    simp only [Bool.or_assoc]
  rw [e0] at k
  rw [Ss_cons, S_ite, E_bop, B_more]
  refine rng2 rfl ?_
  have rest : (isSml c || isCap c || isDig c) = false → wpSs (cxL hh p w g0 os) n .nil [some (.str [c])] H (seqK (cxL hh p w g0 os) n (.cons (.ret (.bop false (.cons (.cmp .Eq (.x 0) (.c (.str [95]))) (.cons (.cmp .Gt (.bi .ord (.cons (.x 0) .nil)) (.c (.int 127))) .nil)))) .nil) (doneW Q)) := fun h => by
    rw [h, Bool.false_or] at k
    rw [Ss_nil, seqK_next, Ss_cons, S_ret, E_bop, B_more, E_cmp, E_xs rfl, E_c, W_eqS]
    rw [show decide ([c] = [95]) = decide (c = 95) by rw [Bool.eq_iff_iff]; simp]
    refine step_or (fun e => ?_) fun e => ?_
    · rw [B_one, E_cmp, E_bi, Es_cons, E_xs rfl, Es_nil, W_ord]
      rw [E_c, W_gt, done_ret, show (decide ((127 : Int) < (c : Int))) = decide (127 < c) by rw [Bool.eq_iff_iff]; simp; omega]
      rw [e, Bool.false_or] at k; exact k
    · rw [e, Bool.true_or] at k; exact k
  have yes : (isSml c || isCap c || isDig c) = true → wpSs (cxL hh p w g0 os) n (.cons (.ret (.c (.bool true))) .nil) [some (.str [c])] H (seqK (cxL hh p w g0 os) n (.cons (.ret (.bop false (.cons (.cmp .Eq (.x 0) (.c (.str [95]))) (.cons (.cmp .Gt (.bi .ord (.cons (.x 0) .nil)) (.c (.int 127))) .nil)))) .nil) (doneW Q)) := fun h => by
    rw [h, Bool.true_or] at k
    rw [Ss_cons, S_ret, E_c, seqK_ret]; exact k
  refine step_or (fun e1 => ?_) fun e1 => ?_
  rotate_left
  · exact yes (by unfold isSml; rw [e1]; rfl)
  rw [B_more]
  refine rng2 rfl ?_
  refine step_or (fun e2 => ?_) fun e2 => ?_
  rotate_left
  · exact yes (by unfold isCap; rw [e2]; simp)
  rw [B_one]
  refine rng2 rfl ?_
  refine step_if (fun e3 => ?_) fun e3 => ?_
  · exact yes (by unfold isDig; rw [e3]; simp)
  · exact rest (by unfold isSml isCap isDig; rw [e1, e2, e3]; rfl)

theorem clip_nat (m k : Nat) : clipAt m (k : Int) = min k m := by
  have := clipAt_cast m (k : Int)
  rw [if_neg (by omega)] at this
  omega
theorem cut_nat (l : List Nat) (a b : Nat) : cut l (some (a : Int)) (some (b : Int)) = (l.drop a).take (b - a) := by
  unfold cut
  simp only [Option.elim, clip_nat]
  by_cases h : a ≤ l.length
  · rw [Nat.min_eq_left h]
    by_cases h2 : b ≤ l.length
    · rw [Nat.min_eq_left h2]
    · rw [Nat.min_eq_right (by omega), List.take_of_length_le (by rw [List.length_drop]; omega), List.take_of_length_le (by rw [List.length_drop]; omega)]
  · rw [Nat.min_eq_right (a := a) (b := l.length) (by omega), List.drop_of_length_le (by omega), List.drop_of_length_le (by omega)]
    simp
theorem cut_app (pre r : List Nat) (k : Nat) : cut (pre ++ r) (some (pre.length : Int)) (some ((pre.length : Int) + (k : Int))) = r.take k := by
  have := cut_nat (pre ++ r) pre.length (pre.length + k)
  rw [List.drop_left, Nat.add_sub_cancel_left] at this
  rw [← this]; rfl
theorem idx_app (pre : List Nat) (c : Nat) (r : List Nat) : idx (pre ++ c :: r).length (pre.length : Int) = some pre.length := by
  unfold idx
  rw [if_pos (by omega), if_pos (by simp; omega)]
  rfl
theorem get_app (pre : List Nat) (c : Nat) (r : List Nat) : (pre ++ c :: r)[pre.length]? = some c := by simp

noncomputable abbrev behT : PE := (.cmp .Lt (.x 2) (.bi .len (.cons (.x 0) .nil)))
noncomputable abbrev behB : PSs := (.cons (.ite (.bop false (.cons (.cmp .Eq (.sub (.x 0) (.x 2)) (.c (.str [92]))) (.cons (.cmp .Eq (.slice (.x 0) (.x 2) (.bin .Add (.x 2) (.c (.int 2)))) (.c (.str [39, 39]))) .nil))) (.cons (.aug 2 .Add (.c (.int 2)))
 .nil) (.cons (.ite (.cmp .Eq (.sub (.x 0) (.x 2)) (.c (.str [39]))) (.cons (.ret (.bin .Add (.x 2) (.c (.int 1))))
 .nil) (.cons (.aug 2 .Add (.c (.int 1)))
 .nil))
 .nil))
 .nil)
noncomputable abbrev behR : PSs := (.cons (.ret (.bi .len (.cons (.x 0) .nil))) .nil)
theorem behind_end {L : List Nat} {sp : V} {far m : Nat} (hf : L.length ≤ far) (k : Q (.int (L.length : Int)) H) :
    whC (tst (cxL hh p w g0 os) n behT) (blk (cxL hh p w g0 os) n behB) (m + 1) [some (.str L), some sp, some (.int (far : Int))] H (seqK (cxL hh p w g0 os) n behR (doneW Q)) := by
  unfold whC tst
  rw [E_cmp, E_xs rfl, E_bi, Es_cons, E_xs rfl, Es_nil, W_lenS]
  rw [W_lt, T_b, decide_eq_false (by omega)]
  refine if_F ?_
  rw [seqK_next, Ss_cons, S_ret, E_bi, Es_cons, E_xs rfl, Es_nil, W_lenS]
  exact k
theorem behind_loop {L : List Nat} {sp : V} : ∀ (m : Nat) (pre r : List Nat), r.length < m → L = pre ++ r → Q (.int ((pre.length + bh r : Nat) : Int)) H →
    whC (tst (cxL hh p w g0 os) n behT) (blk (cxL hh p w g0 os) n behB) m [some (.str L), some sp, some (.int (pre.length : Int))] H (seqK (cxL hh p w g0 os) n behR (doneW Q))
  | 0, _, _, h, _, _ => by omega
  | m + 1, pre, [], h, hL, k => behind_end (by simp [hL]) (by subst hL; simpa [bh] using k)
  | m + 1, pre, c :: r, h, hL, k => by
    have aug : ∀ (d : Nat), whC (tst (cxL hh p w g0 os) n behT) (blk (cxL hh p w g0 os) n behB) m [some (.str L), some sp, some (.int ((pre.length + d : Nat) : Int))] H (seqK (cxL hh p w g0 os) n behR (doneW Q)) →
        wpSs (cxL hh p w g0 os) n (.cons (.aug 2 .Add (.c (.int (d : Int)))) .nil) [some (.str L), some sp, some (.int (pre.length : Int))] H (seqK (cxL hh p w g0 os) n .nil fun fl ρ' H' => (match fl with
          | .next => whC (tst (cxL hh p w g0 os) n behT) (blk (cxL hh p w g0 os) n behB) m ρ' H' (seqK (cxL hh p w g0 os) n behR (doneW Q))
          | .cont => whC (tst (cxL hh p w g0 os) n behT) (blk (cxL hh p w g0 os) n behB) m ρ' H' (seqK (cxL hh p w g0 os) n behR (doneW Q))
          | .brk => seqK (cxL hh p w g0 os) n behR (doneW Q) .next ρ' H'
          | .ret v => seqK (cxL hh p w g0 os) n behR (doneW Q) (.ret v) ρ' H')) := fun d q => ⟨_, rfl, _, _, rfl, rfl, rfl, q⟩
    simp only [List.length_cons] at h
    have two : whC (tst (cxL hh p w g0 os) n behT) (blk (cxL hh p w g0 os) n behB) m [some (.str L), some sp, some (.int ((pre.length + 2 : Nat) : Int))] H (seqK (cxL hh p w g0 os) n behR (doneW Q)) ∨ ¬ (c = 92 ∨ (c = 39 ∧ r.head? = some 39)) := by
      by_cases hc : c = 92 ∨ (c = 39 ∧ r.head? = some 39)
      · left
        cases r with
        | nil =>
          obtain ⟨m', rfl⟩ : ∃ m', m = m' + 1 := ⟨m - 1, by omega⟩
          refine behind_end (by subst hL; simp) ?_
          subst hL
          simpa [bh] using k
        | cons d r =>
          have e : bh (c :: d :: r) = 2 + bh r := by
            conv => lhs; unfold bh
            rw [if_pos]
            rcases hc with h | ⟨h1, h2⟩
            · exact .inl h
            · exact .inr ⟨h1, by simpa using h2⟩
          have := behind_loop (L := L) (sp := sp) m (pre ++ [c, d]) r (by simp only [List.length_cons] at h; omega) (by rw [hL]; simp) (by rw [e] at k; rw [List.length_append]; simpa [Nat.add_assoc] using k)
          rw [List.length_append] at this
          exact this
      · exact .inr hc
    unfold whC tst
    rw [E_cmp, E_xs rfl, E_bi, Es_cons, E_xs rfl, Es_nil, W_lenS]
    rw [W_lt, T_b, decide_eq_true (by subst hL; simp; omega)]
    refine if_T ?_
    show wpSs _ n behB _ H _
    rw [behB, Ss_cons, S_ite, E_bop, B_more, E_cmp, E_sub, E_xs rfl, E_xs rfl]
    refine ⟨pre.length, c, by subst hL; exact idx_app .., by subst hL; exact get_app .., ?_⟩
    dsimp only
    rw [E_c, W_eqS, show decide ([c] = [92]) = decide (c = 92) by rw [Bool.eq_iff_iff]; simp]
    refine step_or (fun e1 => ?_) fun e1 => ?_
    rotate_left
    · refine tru_t (H := H) rfl (aug 2 (two.resolve_right fun z => z (.inl (of_decide_eq_true e1))))
    have c92 : c ≠ 92 := of_decide_eq_false e1
    rw [B_one, E_cmp, E_slice, E_xs rfl, E_xs rfl, E_bin, E_xs rfl, E_c, W_add]
    refine ⟨_, _, rfl, rfl, ?_⟩
    dsimp only
    rw [show ((pre.length : Int) + 2) = (pre.length : Int) + ((2 : Nat) : Int) from rfl]
    rw [hL, cut_app, ← hL, E_c, W_eqS]
    have e2 : decide ((c :: r).take 2 = [39, 39]) = decide (c = 39 ∧ r.head? = some 39) := by
      rw [Bool.eq_iff_iff]
      cases r with
      | nil => simp
      | cons d r => simp
    rw [e2]
    refine step_if (fun e2 => ?_) fun e2 => ?_
    · exact aug 2 (two.resolve_right fun z => z (.inr (of_decide_eq_true e2)))
    have nd := of_decide_eq_false e2
    rw [Ss_cons, S_ite, E_cmp, E_sub, E_xs rfl, E_xs rfl]
    refine ⟨pre.length, c, by rw [hL]; exact idx_app .., by rw [hL]; exact get_app .., ?_⟩
    dsimp only
    rw [E_c, W_eqS, show decide ([c] = [39]) = decide (c = 39) by rw [Bool.eq_iff_iff]; simp]
    refine step_if (fun e3 => ?_) fun e3 => ?_
    · have c39 := of_decide_eq_true e3
      subst c39
      rw [bh_end fun f r' e z => nd ⟨rfl, by rw [e, z]; rfl⟩] at k
      rw [Ss_cons, S_ret, E_bin, E_xs rfl, E_c, W_add]
      exact k
    · have c39 := of_decide_eq_false e3
      have := behind_loop (L := L) (sp := sp) m (pre ++ [c]) r (by omega) (by rw [hL]; simp) (by rw [bh_plain c92 c39] at k; rw [List.length_append]; simpa [Nat.add_assoc] using k)
      rw [List.length_append] at this
      exact ⟨_, rfl, _, _, rfl, rfl, rfl, this⟩
theorem behind_spec {L pre r : List Nat} (ok : CxOk (cxL hh p w g0 os)) (hL : L = pre ++ 39 :: r) (k : Q (.int ((pre.length + (1 + bh r) : Nat) : Int)) H) : CallOk (cxL hh p w g0 os) (n + 1) 504 [.str L, .int (pre.length : Int)] H Q := by
  refine def_call (base _ _ _ _ _ ok) (D__law_behind_item ..) (by simp) (by simp) ?_
  show wpSs _ n b__law_behind_item [some (.str L), some (.int (pre.length : Int)), none] H _
  unfold b__law_behind_item
  rw [Ss_cons, S_asg, E_bin, E_xs rfl, E_c, W_add, seqK_next, Ss_cons, S_wh]
  have := behind_loop (hh := hh) (p := p) (w := w) (g0 := g0) (os := os) (n := n) (H := H) (Q := Q) (L := L) (sp := .int (pre.length : Int)) (r.length + 1) (pre ++ [39]) r (by omega) (by rw [hL]; simp) (by rw [List.length_append]; simpa [Nat.add_assoc] using k)
  rw [List.length_append] at this
  exact ⟨_, this⟩
end
end Mine.L1

namespace Mine.L1
open Mine Mine.PJ

section
variable {hh : H1} {p : Program} {w : World} {g0 : Heap} {os : OsState} {n : Nat} {H : AH} {Q : V → AH → Prop}
noncomputable abbrev symE : PE := (.cmp .In (.sub (.x 0) (.x 2)) (.c (.str [43, 45, 42, 47, 92, 94, 60, 62, 61, 126, 58, 46, 63, 64, 35, 38, 36])))
noncomputable abbrev wrdE : PE := (.call 35 (.cons (.sub (.x 0) (.x 2)) .nil))
noncomputable abbrev runT (e : PE) : PE := (.bop true (.cons (.cmp .Lt (.x 2) (.bi .len (.cons (.x 0) .nil))) (.cons e .nil)))
noncomputable abbrev runB : PSs := (.cons (.aug 2 .Add (.c (.int 1))) .nil)
theorem sym_eval {L pre r : List Nat} {c : Nat} {b1 b3 b4 : Option V} {P : V → AH → Prop} (hL : L = pre ++ c :: r) (k : P (.bool (isSym c)) H) : wpE (cxL hh p w g0 os) (n + 1) symE [some (.str L), b1, some (.int (pre.length : Int)), b3, b4] H P := by
  rw [E_cmp, E_sub, E_xs rfl, E_xs rfl]
  refine ⟨pre.length, c, by subst hL; exact idx_app .., by subst hL; exact get_app .., ?_⟩
  dsimp only
  rw [E_c]
  exact k
theorem wrd_eval {L pre r : List Nat} {c : Nat} {b1 b3 b4 : Option V} {P : V → AH → Prop} (ok : CxOk (cxL hh p w g0 os)) (hL : L = pre ++ c :: r) (k : P (.bool (isWrd c)) H) : wpE (cxL hh p w g0 os) (n + 1) wrdE [some (.str L), b1, some (.int (pre.length : Int)), b3, b4] H P := by
  rw [E_call, Es_cons, E_sub, E_xs rfl, E_xs rfl]
  refine ⟨pre.length, c, by subst hL; exact idx_app .., by subst hL; exact get_app .., ?_⟩
  dsimp only
  rw [Es_nil]
  exact wordy_spec ok k
theorem run_loop {L : List Nat} {e : PE} {q : Nat → Bool} {b1 b3 b4 : Option V} {R : FL → Rho → AH → Prop} (he : ∀ (pre r : List Nat) (c : Nat) (P : V → AH → Prop), L = pre ++ c :: r → P (.bool (q c)) H → wpE (cxL hh p w g0 os) n e [some (.str L), b1, some (.int (pre.length : Int)), b3, b4] H P) :
    ∀ (m : Nat) (pre r : List Nat), r.length < m → L = pre ++ r → R .next [some (.str L), b1, some (.int ((pre.length + run q r : Nat) : Int)), b3, b4] H →
    whC (tst (cxL hh p w g0 os) n (runT e)) (blk (cxL hh p w g0 os) n runB) m [some (.str L), b1, some (.int (pre.length : Int)), b3, b4] H R
  | 0, _, _, h, _, _ => by omega
  | m + 1, pre, [], h, hL, k => by
    unfold whC tst
    rw [E_bop, B_more, E_cmp, E_xs rfl, E_bi, Es_cons, E_xs rfl, Es_nil, W_lenS]
    rw [W_lt, hL, decide_eq_false (by simp), ← hL]
    refine and_F (H := H) rfl ?_
    rw [T_b]
    exact if_F (by simpa [run] using k)
  | m + 1, pre, c :: r, h, hL, k => by
    unfold whC tst
    rw [E_bop, B_more, E_cmp, E_xs rfl, E_bi, Es_cons, E_xs rfl, Es_nil, W_lenS]
    rw [W_lt, hL, decide_eq_true (by simp; omega), ← hL]
    refine and_T (H := H) rfl ?_
    rw [B_one]
    refine he pre r c _ hL ?_
    rw [T_b]
    cases hq : q c with
    | false =>
      refine if_F ?_
      unfold run at k
      rw [hq] at k
      exact k
    | true =>
      refine if_T ?_
      unfold run at k
      rw [if_pos hq] at k
      have := run_loop he m (pre ++ [c]) r (by simp only [List.length_cons] at h; omega) (by rw [hL]; simp) (by rw [List.length_append]; simpa [Nat.add_assoc] using k)
      rw [List.length_append] at this
      exact ⟨_, rfl, _, _, rfl, rfl, rfl, this⟩

noncomputable abbrev cutB1 : PS := (.ite (.x 4) (.cons (.wh (runT wrdE) runB) .nil) (.cons (.ite symE (.cons (.wh (runT symE) runB) .nil) (.cons (.ite (.cmp .NotEq (.sub (.x 0) (.x 2)) (.c (.str [39]))) (.cons (.aug 2 .Add (.c (.int 1)))
 .nil) .nil)
 .nil))
 .nil))
noncomputable abbrev cutB2 : PSs := (.cons (.ite (.bop true (.cons (.cmp .Eq (.slice (.x 0) (.x 2) (.bin .Add (.x 2) (.c (.int 1)))) (.c (.str [39]))) (.cons (.bop false (.cons (.x 4) (.cons (.cmp .Eq (.x 2) (.x 3)) .nil))) .nil))) (.cons (.asg 2 (.call 34 (.cons (.x 0) (.cons (.x 2) .nil))))
 .nil) .nil)
 (.cons (.ite (.cmp .NotEq (.slice (.x 0) (.x 3) (.x 2)) (.c (.str [32]))) (.cons (.expr (.bm .append (.x 1) (.cons (.slice (.x 0) (.x 3) (.x 2)) .nil)))
 .nil) .nil)
 .nil))
noncomputable abbrev cutB : PSs := (.cons (.asg 3 (.x 2)) (.cons (.asg 4 (.call 35 (.cons (.sub (.x 0) (.x 2)) .nil))) (.cons cutB1 cutB2)))

noncomputable def run1 (c : Nat) (s : List Nat) : Nat := if isWrd c then run isWrd (c :: s) else if isSym c then run isSym (c :: s) else if c = 39 then 0 else 1
theorem cut1 {L pre s : List Nat} {c : Nat} {b1 : Option V} {R : FL → Rho → AH → Prop} (ok : CxOk (cxL hh p w g0 os)) (hL : L = pre ++ c :: s) (k : R .next [some (.str L), b1, some (.int ((pre.length + run1 c s : Nat) : Int)), some (.int (pre.length : Int)), some (.bool (isWrd c))] H) :
    wpS (cxL hh p w g0 os) (n + 1) cutB1 [some (.str L), b1, some (.int (pre.length : Int)), some (.int (pre.length : Int)), some (.bool (isWrd c))] H R := by
  rw [cutB1, S_ite, E_xs rfl]
  unfold run1 at k
  refine step_if (fun e => ?_) fun e => ?_
  · rw [if_pos e] at k
    rw [Ss_cons, S_wh]
    refine ⟨_, run_loop (q := isWrd) (fun pre r c P h q => wrd_eval ok h q) ((c :: s).length + 1) pre (c :: s) (by omega) hL ?_⟩
    rw [seqK_next, Ss_nil]; exact k
  rw [if_neg (by rw [e]; decide)] at k
  rw [Ss_cons, S_ite]
  refine sym_eval hL ?_
  refine step_if (fun e => ?_) fun e => ?_
  · rw [if_pos e] at k
    rw [Ss_cons, S_wh]
    refine ⟨_, run_loop (q := isSym) (fun pre r c P h q => sym_eval h q) ((c :: s).length + 1) pre (c :: s) (by omega) hL ?_⟩
    rw [seqK_next, Ss_nil, seqK_next, Ss_nil]; exact k
  rw [if_neg (by rw [e]; decide)] at k
  rw [Ss_cons, S_ite, E_cmp, E_sub, E_xs rfl, E_xs rfl]
  refine ⟨pre.length, c, by subst hL; exact idx_app .., by subst hL; exact get_app .., ?_⟩
  dsimp only
  rw [E_c, W_neS, show decide ([c] = [39]) = decide (c = 39) by rw [Bool.eq_iff_iff]; simp]
  refine step_if (fun e => ?_) fun e => ?_
  · rw [if_neg (by simpa using e)] at k
    exact ⟨_, rfl, _, _, rfl, rfl, rfl, k⟩
  · rw [if_pos (by simpa using e)] at k
    rw [Ss_nil, seqK_next, Ss_nil, seqK_next, Ss_nil]; exact k

theorem tok_run (c : Nat) (s : List Nat) : tokLen (c :: s) = run1 c s + (if (c :: s).drop (run1 c s) ≠ [] ∧ ((c :: s).drop (run1 c s)).head? = some 39 ∧ (isWrd c = true ∨ run1 c s = 0) then quo ((c :: s).drop (run1 c s)) else 0) := by
  rw [tokLen_cons]
  unfold run1
  by_cases h1 : isWrd c = true
  · rw [if_pos h1, if_pos h1]
    split
    · rfl
    · rename_i h
      have : quo ((c :: s).drop (run isWrd (c :: s))) = 0 := quo_no fun f r e z => h ⟨by rw [e]; simp, by rw [e, z]; rfl, .inl h1⟩
      rw [this]
  · rw [if_neg h1, if_neg h1]
    by_cases h2 : isSym c = true
    · rw [if_pos h2, if_pos h2, if_neg]
      · omega
      · rintro ⟨_, _, h | h⟩
        · exact h1 h
        · have := run_pos (s := s) h2; omega
    · rw [if_neg h2, if_neg h2]
      by_cases h3 : c = 39
      · subst h3
        rw [if_pos rfl, if_pos rfl, if_pos ⟨by simp, rfl, .inr rfl⟩]
        show _ = 0 + (1 + bh s); omega
      · rw [if_neg h3, if_neg h3, if_neg]
        rintro ⟨_, _, h | h⟩
        · exact h1 h
        · omega

theorem cut2 {L pre s : List Nat} {c j : Nat} {fd : Addr} {acc : List (List Nat)} {R : FL → Rho → AH → Prop} (ok : CxOk (cxL hh p w g0 os)) (hj : j = run1 c s) (hL : L = pre ++ c :: s) (hl : L.length ≤ 100000) (hf : H fd = some (.list (stL acc))) (ha : acc.length ≤ 100000)
    (k : ∀ b3 b4, R .next [some (.str L), some (.ref fd), some (.int ((pre.length + tokLen (c :: s) : Nat) : Int)), b3, b4] (H.set fd (.list (stL (acc ++ emit ((c :: s).take (tokLen (c :: s)))))))) :
    wpSs (cxL hh p w g0 os) (n + 1) cutB2 [some (.str L), some (.ref fd), some (.int ((pre.length + j : Nat) : Int)), some (.int (pre.length : Int)), some (.bool (isWrd c))] H R := by
  have hlim : lim = 16777216 := rfl
  have hjl : j ≤ (c :: s).length := by
    subst hj; have := tok_run c s; have := tokLen_le (c :: s); omega
  have last : ∀ t, t = tokLen (c :: s) → wpSs (cxL hh p w g0 os) (n + 1) (.cons (.ite (.cmp .NotEq (.slice (.x 0) (.x 3) (.x 2)) (.c (.str [32]))) (.cons (.expr (.bm .append (.x 1) (.cons (.slice (.x 0) (.x 3) (.x 2)) .nil))) .nil) .nil) .nil) [some (.str L), some (.ref fd), some (.int ((pre.length + t : Nat) : Int)), some (.int (pre.length : Int)), some (.bool (isWrd c))] H R := fun t ht => by
    subst ht
    have sl : ∀ {P : V → AH → Prop}, P (.str ((c :: s).take (tokLen (c :: s)))) H → wpE (cxL hh p w g0 os) (n + 1) (.slice (.x 0) (.x 3) (.x 2)) [some (.str L), some (.ref fd), some (.int ((pre.length + tokLen (c :: s) : Nat) : Int)), some (.int (pre.length : Int)), some (.bool (isWrd c))] H P := fun {P} q => by
      rw [E_slice, E_xs rfl, E_xs rfl, E_xs rfl]
      refine ⟨_, _, rfl, rfl, ?_⟩
      dsimp only
      rw [hL, show ((pre.length + tokLen (c :: s) : Nat) : Int) = (pre.length : Int) + (tokLen (c :: s) : Int) by omega, cut_app]
      exact q
    rw [Ss_cons, S_ite, E_cmp]
    refine sl ?_
    rw [E_c, W_neS]
    unfold emit at k
    refine step_if (fun e => ?_) fun e => ?_
    · rw [if_neg (by simpa using e)] at k
      rw [Ss_cons, S_expr, E_bm, E_xs rfl]
      refine ⟨⟨fd, _, rfl, hf⟩, ?_⟩
      rw [Es_cons]
      refine sl ?_
      rw [Es_nil]
      refine ⟨_, hf, by rw [stL_len]; omega, by simp, by simp, by simp, ?_⟩
      rw [seqK_next, Ss_nil, seqK_next, Ss_nil]
      have := k (some (.int (pre.length : Int))) (some (.bool (isWrd c)))
      rw [stL_app] at this
      exact this
    · rw [if_pos (by simpa using e), List.append_nil, AH.set_eq hf] at k
      rw [Ss_nil, seqK_next, Ss_nil]
      exact k _ _
  rw [cutB2, Ss_cons, S_ite, E_bop, B_more, E_cmp, E_slice, E_xs rfl, E_xs rfl, E_bin, E_xs rfl, E_c, W_add]
  refine ⟨_, _, rfl, rfl, ?_⟩
  dsimp only
  have hr : L = (pre ++ (c :: s).take j) ++ (c :: s).drop j := by rw [hL, List.append_assoc, List.take_append_drop]
  have hpl : (pre ++ (c :: s).take j).length = pre.length + j := by rw [List.length_append, List.length_take]; omega
  have hc := cut_app (pre ++ (c :: s).take j) ((c :: s).drop j) 1
  rw [← hr, hpl] at hc
  rw [show (((pre.length + j : Nat) : Int) + 1) = ((pre.length + j : Nat) : Int) + ((1 : Nat) : Int) from rfl, hc, E_c, W_eqS]
  have tr := tok_run c s
  rw [← hj] at tr
  have noQ : (¬ (((c :: s).drop j) ≠ [] ∧ ((c :: s).drop j).head? = some 39 ∧ (isWrd c = true ∨ j = 0))) → wpSs (cxL hh p w g0 os) (n + 1) .nil [some (.str L), some (.ref fd), some (.int ((pre.length + j : Nat) : Int)), some (.int (pre.length : Int)), some (.bool (isWrd c))] H (seqK (cxL hh p w g0 os) (n + 1) (.cons (.ite (.cmp .NotEq (.slice (.x 0) (.x 3) (.x 2)) (.c (.str [32]))) (.cons (.expr (.bm .append (.x 1) (.cons (.slice (.x 0) (.x 3) (.x 2)) .nil))) .nil) .nil) .nil) R) := fun h => by
    rw [if_neg h] at tr
    rw [Ss_nil, seqK_next]
    exact last j (by omega)
  have e39 : decide (((c :: s).drop j).take 1 = [39]) = decide (((c :: s).drop j).head? = some 39) := by
    rw [Bool.eq_iff_iff]
    cases (c :: s).drop j <;> simp
  rw [e39]
  refine step_and (fun e => ?_) fun e => ?_
  rotate_left
  · refine tru_f (H := H) rfl (noQ fun z => (of_decide_eq_false e) z.2.1)
  have h39 := of_decide_eq_true e
  have yes : (isWrd c = true ∨ j = 0) → wpSs (cxL hh p w g0 os) (n + 1) (.cons (.asg 2 (.call 34 (.cons (.x 0) (.cons (.x 2) .nil)))) .nil) [some (.str L), some (.ref fd), some (.int ((pre.length + j : Nat) : Int)), some (.int (pre.length : Int)), some (.bool (isWrd c))] H (seqK (cxL hh p w g0 os) (n + 1) (.cons (.ite (.cmp .NotEq (.slice (.x 0) (.x 3) (.x 2)) (.c (.str [32]))) (.cons (.expr (.bm .append (.x 1) (.cons (.slice (.x 0) (.x 3) (.x 2)) .nil))) .nil) .nil) .nil) R) := fun h => by
    cases hd : (c :: s).drop j with
    | nil => rw [hd] at h39; cases h39
    | cons f r =>
      rw [hd] at h39
      have : f = 39 := by simpa using h39
      subst this
      rw [hd] at hr tr
      rw [if_pos ⟨by simp, rfl, h⟩] at tr
      rw [Ss_cons, S_asg, E_call, Es_cons, E_xs rfl, Es_cons, E_xs rfl, Es_nil]
      have := behind_spec (hh := hh) (p := p) (w := w) (g0 := g0) (os := os) (n := n) (H := H) (Q := fun v H' => seqK (cxL hh p w g0 os) (n + 1) .nil (seqK (cxL hh p w g0 os) (n + 1) (.cons (.ite (.cmp .NotEq (.slice (.x 0) (.x 3) (.x 2)) (.c (.str [32]))) (.cons (.expr (.bm .append (.x 1) (.cons (.slice (.x 0) (.x 3) (.x 2)) .nil))) .nil) .nil) .nil) R) .next (setSlot [some (.str L), some (.ref fd), some (.int ((pre.length + j : Nat) : Int)), some (.int (pre.length : Int)), some (.bool (isWrd c))] 2 v) H') ok hr (by
        rw [seqK_next, Ss_nil, seqK_next]
        have q := last (j + quo (39 :: r)) (by rw [tr])
        rw [hpl]
        simpa [quo, Nat.add_assoc, setSlot] using q)
      rw [hpl] at this
      exact this
  rw [B_one, E_bop, B_more, E_xs rfl]
  cases hw : isWrd c with
  | true =>
    refine or_T (H := H) rfl ?_
    refine tru_t (H := H) rfl ?_
    have := yes (.inl hw)
    rw [hw] at this; exact this
  | false =>
    refine or_F (H := H) rfl ?_
    rw [B_one, E_cmp, E_xs rfl, E_xs rfl, W_eqI]
    have : decide (((pre.length + j : Nat) : Int) = (pre.length : Int)) = decide (j = 0) := by rw [Bool.eq_iff_iff]; simp; omega
    rw [this]
    refine step_if (fun e => ?_) fun e => ?_
    · have := yes (.inr (of_decide_eq_true e))
      rw [hw] at this; exact this
    · have := noQ fun z => z.2.2.elim (fun q => by rw [hw] at q; cases q) fun q => (of_decide_eq_false e) q
      rw [hw] at this; exact this

noncomputable abbrev cutR : PSs := (.cons (.ret (.x 1)) .nil)
theorem cut_loop {L : List Nat} {fd : Addr} {H0 : AH} (ok : CxOk (cxL hh p w g0 os)) (hl : L.length ≤ 50000) (h0 : H0 fd = none) : ∀ (m : Nat) (pre r : List Nat) (acc : List (List Nat)) (b3 b4 : Option V), r.length < m → L = pre ++ r → acc.length + r.length ≤ L.length → Q (.ref fd) (H0.set fd (.list (stL (acc ++ toks r)))) →
    whC (tst (cxL hh p w g0 os) (n + 1) behT) (blk (cxL hh p w g0 os) (n + 1) cutB) m [some (.str L), some (.ref fd), some (.int (pre.length : Int)), b3, b4] (H0.set fd (.list (stL acc))) (seqK (cxL hh p w g0 os) (n + 1) cutR (doneW Q))
  | 0, _, _, _, _, _, h, _, _, _ => by omega
  | m + 1, pre, [], acc, b3, b4, h, hL, ha, k => by
    unfold whC tst
    rw [E_cmp, E_xs rfl, E_bi, Es_cons, E_xs rfl, Es_nil, W_lenS]
    rw [W_lt, T_b, decide_eq_false (by rw [hL]; simp)]
    refine if_F ?_
    rw [seqK_next, Ss_cons, S_ret, E_xs rfl]
    rw [show toks [] = [] from rfl, List.append_nil] at k
    exact k
  | m + 1, pre, c :: s, acc, b3, b4, h, hL, ha, k => by
    unfold whC tst
    rw [E_cmp, E_xs rfl, E_bi, Es_cons, E_xs rfl, Es_nil, W_lenS]
    rw [W_lt, T_b, decide_eq_true (by rw [hL]; simp; omega)]
    refine if_T ?_
    show wpSs _ _ cutB _ _ _
    rw [cutB, Ss_cons, S_asg, E_xs rfl, seqK_next, Ss_cons, S_asg]
    refine wrd_eval (pre := pre) (r := s) ok hL ?_
    rw [seqK_next, Ss_cons]
    refine cut1 ok hL ?_
    rw [seqK_next]
    refine cut2 ok rfl hL (by omega) (AH.set_same ..) (by omega) fun b3 b4 => ?_
    rw [AH.set_set]
    have hp := tokLen_pos c s
    have hq := tokLen_le (c :: s)
    have he := emit_le ((c :: s).take (tokLen (c :: s)))
    have hd : ((c :: s).drop (tokLen (c :: s))).length = (c :: s).length - tokLen (c :: s) := List.length_drop
    have := cut_loop ok hl h0 m (pre ++ (c :: s).take (tokLen (c :: s))) ((c :: s).drop (tokLen (c :: s))) (acc ++ emit ((c :: s).take (tokLen (c :: s)))) b3 b4 (by rw [hd]; omega) (by rw [hL, List.append_assoc, List.take_append_drop]) (by rw [hd, List.length_append]; omega) (by rw [List.append_assoc, ← toks_cons]; exact k)
    rw [List.length_append, List.length_take, Nat.min_eq_left hq] at this
    exact this

theorem cut_spec {L : List Nat} (ok : CxOk (cxL hh p w g0 os)) (hl : L.length ≤ 50000) (k : ∀ c, H c = none → Q (.ref c) (H.set c (.list (stL (toks L))))) : CallOk (cxL hh p w g0 os) (n + 1 + 1) 511 [.str L] H Q := by
  refine def_call (base _ _ _ _ _ ok) (D__law_cut ..) (by simp) (by simp) ?_
  show wpSs _ (n + 1) b__law_cut [some (.str L), none, none, none, none] H _
  unfold b__law_cut
  rw [Ss_cons, S_asg, E_list, Es_nil]
  refine ⟨by simp, fun fd h0 => ?_⟩
  rw [seqK_next, Ss_cons, S_asg, E_c, seqK_next, Ss_cons, S_wh]
  exact ⟨L.length + 1, cut_loop ok hl h0 (L.length + 1) [] L [] none none (by omega) rfl (by simp) (k fd h0)⟩
end
end Mine.L1

namespace Mine.L1
open Mine Mine.PJ

theorem catS_stL : ∀ T : List (List Nat), catS (stL T) = some T.flatten
  | [] => rfl
  | t :: T => by
    show (catS (stL T)).map (t ++ ·) = _
    rw [catS_stL T]; rfl
theorem idx_nat {m k : Nat} (h : k < m) : idx m (k : Int) = some k := by
  unfold idx; rw [if_pos (by omega), if_pos (by omega)]; rfl
theorem flat_one (T : List Nat) : (T.map fun c => [c]).flatten = T := by
  induction T with
  | nil => rfl
  | cons c T ih => simp [ih]

section
variable {hh : H1} {p : Program} {w : World} {g0 : Heap} {os : OsState} {n : Nat} {H : AH} {Q : V → AH → Prop}
noncomputable abbrev letE : PE := (.sub (.x 2) (.call 36 (.cons (.x 0) (.cons (.bi .len (.cons (.x 2) .nil)) .nil))))
theorem compA {r : Addr} {LT : List Nat} {b1 b3 : Option V} {H0 : AH} {Qc : List V → AH → Prop} (ok : CxOk (cxL hh p w g0 os)) (h0 : LT ≠ []) (hl : LT.length ≤ 1000) : ∀ (xs : List V) (T : List Nat) (H : AH), (∀ c ∈ T, c ∈ LT) → Rw H r → Mod [r] H0 H → T.length + xs.length ≤ 1000 →
    (∀ (T' : List Nat) (H' : AH), (∀ c ∈ T', c ∈ LT) → T'.length = T.length + xs.length → Rw H' r → Mod [r] H0 H' → Qc (stL (T'.map fun c => [c])) H') →
    compC (fun x H' Q' => wpE (cxL hh p w g0 os) (n + 1) letE ([some (.ref r), b1, some (.str LT), b3] ++ [some x]) H' Q') (fun _ => True) xs (stL (T.map fun c => [c])) H Qc
  | [], T, H, hT, hr, m, hn, k => ⟨trivial, k T H hT (by simp) hr m⟩
  | x :: xs, T, H, hT, hr, m, hn, k => by
    refine ⟨trivial, by rw [stL_len, List.length_map]; unfold lim; simp at hn; omega, ?_⟩
    have hp := List.length_pos_iff.mpr h0
    dsimp only
    rw [E_sub, E_xs rfl, E_call, Es_cons, E_xs rfl, Es_cons, E_bi, Es_cons, E_xs rfl, Es_nil, W_lenS, Es_nil]
    refine next2 (base _ _ _ _ _ ok) (P__law_next ..) hr (by omega) (by omega) fun v H' hv hr' m' => ?_
    have hv' : v < LT.length := by omega
    refine ⟨v, LT[v], idx_nat hv', List.getElem?_eq_getElem hv', ?_⟩
    have := compA (b1 := b1) (b3 := b3) ok h0 hl xs (T ++ [LT[v]]) H' (fun c hc => (List.mem_append.mp hc).elim (hT c) fun h => by simp at h; subst h; exact List.getElem_mem hv') hr' (m.trans m') (by simp at hn ⊢; omega) fun T' H' h1 h2 => k T' H' h1 (by rw [h2]; simp; omega)
    rw [List.map_append, stL_app] at this
    exact this
noncomputable abbrev itmE : PE := (.sub (.x 3) (.call 36 (.cons (.x 0) (.cons (.c (.int 6)) .nil))))
theorem compB {r ia : Addr} {b1 b2 : Option V} {H0 : AH} {Qc : List V → AH → Prop} (ok : CxOk (cxL hh p w g0 os)) (hi : H0 ia = some (.list (stL items))) (ne : ia ≠ r) : ∀ (xs : List V) (T : List (List Nat)) (H : AH), (∀ c ∈ T, c ∈ items) → Rw H r → Mod [r] H0 H → T.length + xs.length ≤ 1000 →
    (∀ (T' : List (List Nat)) (H' : AH), (∀ c ∈ T', c ∈ items) → T'.length = T.length + xs.length → Rw H' r → Mod [r] H0 H' → Qc (stL T') H') →
    compC (fun x H' Q' => wpE (cxL hh p w g0 os) (n + 1) itmE ([some (.ref r), b1, b2, some (.ref ia)] ++ [some x]) H' Q') (fun _ => True) xs (stL T) H Qc
  | [], T, H, hT, hr, m, hn, k => ⟨trivial, k T H hT (by simp) hr m⟩
  | x :: xs, T, H, hT, hr, m, hn, k => by
    refine ⟨trivial, by rw [stL_len]; unfold lim; simp at hn; omega, ?_⟩
    dsimp only
    rw [E_sub, E_xs rfl, E_call, Es_cons, E_xs rfl, Es_cons, E_c, Es_nil]
    refine next2 (base _ _ _ _ _ ok) (P__law_next ..) hr (by omega) (by omega) fun v H' hv hr' m' => ?_
    have hv' : v < items.length := by have : items.length = 6 := rfl; omega
    have hi' := (m.trans m') ia _ (by simpa using ne) hi
    refine .inl ⟨_, (v : Int), v, .str items[v], rfl, hi', by rw [stL_len]; exact idx_nat hv', by unfold stL; rw [List.getElem?_map, List.getElem?_eq_getElem hv']; rfl, ?_⟩
    have := compB (b1 := b1) (b2 := b2) ok hi ne xs (T ++ [items[v]]) H' (fun c hc => (List.mem_append.mp hc).elim (hT c) fun h => by simp at h; subst h; exact List.getElem_mem hv') hr' (m.trans m') (by simp at hn ⊢; omega) fun T' H' h1 h2 => k T' H' h1 (by rw [h2]; simp; omega)
    rw [stL_app] at this
    exact this

theorem flat_len : ∀ (l : List (List Nat)), (∀ t ∈ l, t ∈ items) → l.flatten.length ≤ 2 * l.length
  | [], _ => by simp
  | t :: l, h => by
    have ih := flat_len l fun t ht => h t (List.mem_cons_of_mem _ ht)
    have ht : t.length ≤ 2 := by
      have := h t List.mem_cons_self
      simp only [items, List.mem_cons, List.not_mem_nil, or_false] at this
      rcases this with rfl | rfl | rfl | rfl | rfl | rfl <;> decide
    simp only [List.flatten_cons, List.length_append, List.length_cons]; omega
noncomputable def marks : List Nat := [40, 41, 91, 93, 123, 125, 44, 124, 33, 59]
theorem marks_ok : ∀ c ∈ marks, isWrd c = false ∧ isSym c = false ∧ c ≠ 39 := by decide
noncomputable def wordL : List Nat := [97, 98, 122, 65, 90, 95, 48, 49, 57, 233]
theorem wordL_ok : ∀ c ∈ wordL, isWrd c = true := by decide
theorem symL_ok : ∀ c ∈ symL, isSym c = true := by decide
theorem showI_dig {k : Nat} : ∀ c ∈ showI (k : Int), isWrd c = true := by
  unfold showI
  rw [if_neg (by omega)]
  intro c hc
  unfold digits10 at hc
  obtain ⟨ch, h1, rfl⟩ := List.mem_map.mp hc
  have := Nat.isDigit_of_mem_toDigits (by decide) (by decide) h1
  simp only [Char.isDigit, Bool.and_eq_true, decide_eq_true_eq] at this
  have h48 : 48 ≤ ch.toNat := this.1
  have h57 : ch.toNat ≤ 57 := this.2
  unfold isWrd isAln isDig
  simp [h48, h57]
theorem showI_ne (k : Nat) : showI (k : Int) ≠ [] := by
  unfold showI
  rw [if_neg (by omega)]
  unfold digits10
  simp [Nat.toDigits_ne_nil]
theorem showI_l {k : Nat} (h : k < 100) : (showI (k : Int)).length ≤ 2 := by
  unfold showI
  rw [if_neg (by omega)]
  unfold digits10
  rw [List.length_map]
  exact (Nat.length_toDigits_le_iff (by decide) (by decide)).mpr (by omega)

theorem piece_spec {r : Addr} (ok : CxOk (cxL hh p w g0 os)) (hr : Rw H r) (k : ∀ t H', (t = [] ∨ Bit t) → t.length ≤ 8 → Rw H' r → Mod [r] H H' → Q (.str t) H') : CallOk (cxL hh p w g0 os) (n + 1 + 1) 516 [.ref r] H Q := by
  refine def_call (base _ _ _ _ _ ok) (D__law_piece ..) (by simp) (by simp) ?_
  show wpSs _ (n + 1) b__law_piece [some (.ref r), none, none, none] H _
  unfold b__law_piece
  have hlim : lim = 16777216 := rfl
  rw [Ss_cons, S_asg, E_call, Es_cons, E_xs rfl, Es_cons, E_c, Es_nil]
  refine next2 (base _ _ _ _ _ ok) (P__law_next ..) hr (by decide) (by decide) fun v H1 hv hr1 m1 => ?_
  rw [seqK_next, Ss_cons, S_ite, E_cmp, E_xs rfl, E_c, W_lt]
  refine step_if (fun e => ?_) fun e => ?_
  · -- words and symbols
    have hv2 : v < 2 := by have := of_decide_eq_true e; omega
    rw [Ss_cons, S_asg, E_sub, E_list, Es_cons, E_c, Es_cons, E_c, Es_nil]
    refine ⟨by simp [lim], fun la hla => ?_⟩
    rw [E_xs rfl]
    have hlt : ∃ LT, (LT = wordL ∨ LT = symL) ∧ [V.str wordL, V.str symL][v]? = some (.str LT) := by
      have : v = 0 ∨ v = 1 := by omega
      rcases this with rfl | rfl
      · exact ⟨_, .inl rfl, rfl⟩
      · exact ⟨_, .inr rfl, rfl⟩
    obtain ⟨LT, hLT, hget⟩ := hlt
    have m2 : Mod [r] H (H1.set la (.list [V.str wordL, V.str symL])) := m1.trans (Mod.new hla)
    have hr2 : Rw (H1.set la (.list [V.str wordL, V.str symL])) r := hr1.mod (A := []) (Mod.new hla) (by simp)
    refine .inl ⟨_, (v : Int), v, _, rfl, AH.set_same .., idx_nat (by simpa using hv2), hget, ?_⟩
    dsimp only
    rw [seqK_next, Ss_cons, S_ret, E_bm, E_c]
    refine ⟨⟨_, rfl⟩, ?_⟩
    rw [Es_cons, E_comp, Src_range, E_bin, E_c, E_call, Es_cons, E_xs rfl, Es_cons, E_c, Es_nil]
    refine next2 (base _ _ _ _ _ ok) (P__law_next ..) hr2 (by decide) (by decide) fun u H3 hu hr3 m3 => ?_
    rw [W_add]
    refine ⟨by omega, ?_⟩
    have hok : LT ≠ [] ∧ LT.length ≤ 1000 := by rcases hLT with rfl | rfl <;> decide
    refine compA (n := n) (T := []) (H0 := H) ok hok.1 hok.2 _ _ (by simp) hr3 (m2.trans m3) (by simp; omega) fun T H4 hT hTl hr4 m4 => ?_
    intro c hc
    rw [Es_nil]
    have hl1 : T.length = 1 + u := by rw [hTl]; simp; omega
    refine ⟨_, _, AH.set_same .., catS_stL _, by rw [flat_one]; omega, ?_⟩
    rw [flat_one]
    refine k T _ (.inr (.inl ?_)) (by omega) (hr4.mod (A := []) (Mod.new hc) (by simp)) (m4.trans (Mod.new hc))
    cases T with
    | nil => simp at hl1; omega
    | cons c T =>
      rcases hLT with rfl | rfl
      · exact .word c T fun d hd => wordL_ok d (hT d hd)
      · exact .sym c T fun d hd => symL_ok d (hT d hd)
  rw [Ss_nil, seqK_next, Ss_cons, S_ite, E_cmp, E_xs rfl, E_c, W_eqI]
  refine step_if (fun e => ?_) fun e => ?_
  · -- quoted items
    rw [Ss_cons, S_asg, E_list]
    simp only [Es_cons, E_c, Es_nil]
    refine ⟨by simp [lim], fun ia hia => ?_⟩
    have m2 : Mod [r] H (H1.set ia (.list (stL items))) := m1.trans (Mod.new hia)
    have hr2 : Rw (H1.set ia (.list (stL items))) r := hr1.mod (A := []) (Mod.new hia) (by simp)
    have ne : ia ≠ r := by obtain ⟨l, h⟩ := hr1; exact (ne_of_none h hia).symm
    rw [seqK_next, Ss_cons, S_ret, E_bin, E_bin, E_c, E_bm, E_c]
    refine ⟨⟨_, rfl⟩, ?_⟩
    rw [Es_cons, E_comp, Src_range, E_call, Es_cons, E_xs rfl, Es_cons, E_c, Es_nil]
    refine next2 (base _ _ _ _ _ ok) (P__law_next ..) hr2 (by decide) (by decide) fun u H3 hu hr3 m3 => ?_
    refine ⟨by omega, ?_⟩
    refine compB (n := n) (T := []) (H0 := H1.set ia (.list (stL items))) ok (AH.set_same ..) ne _ _ (by simp) hr3 m3 (by simp; omega) fun T H4 hT hTl hr4 m4 => ?_
    intro c hc
    rw [Es_nil]
    have hl1 : T.length = u := by rw [hTl]; simp
    have hfl := flat_len T hT
    refine ⟨_, _, AH.set_same .., catS_stL _, (show T.flatten.length ≤ lim by omega), ?_⟩
    refine ⟨by simp only [List.length_append, List.length_cons, List.length_nil]; omega, ?_⟩
    dsimp only
    rw [E_c]
    refine ⟨by simp only [List.length_append, List.length_cons, List.length_nil]; omega, ?_⟩
    refine k _ _ (.inr (.inl ?_)) (by simp only [List.length_append, List.length_cons, List.length_nil]; omega) (hr4.mod (A := []) (Mod.new hc) (by simp)) ((m2.trans m4).trans (Mod.new hc))
    exact .quo T hT
  rw [Ss_nil, seqK_next, Ss_cons, S_ite, E_cmp, E_xs rfl, E_c, W_eqI]
  refine step_if (fun e => ?_) fun e => ?_
  · -- marks
    rw [Ss_cons, S_ret, E_sub, E_c, E_call, Es_cons, E_xs rfl, Es_cons, E_c, Es_nil]
    refine next2 (base _ _ _ _ _ ok) (P__law_next ..) hr1 (by decide) (by decide) fun u H3 hu hr3 m3 => ?_
    have hu' : u < marks.length := by have : marks.length = 10 := rfl; omega
    refine ⟨u, marks[u], idx_nat hu', List.getElem?_eq_getElem hu', ?_⟩
    obtain ⟨h1, h2, h3⟩ := marks_ok _ (List.getElem_mem hu')
    exact k _ _ (.inr (.inl (.mark _ h1 h2 h3))) (by simp) hr3 (m1.trans m3)
  rw [Ss_nil, seqK_next, Ss_cons, S_ite, E_cmp, E_xs rfl, E_c, W_eqI]
  refine step_if (fun e => ?_) fun e => ?_
  · -- nothing, a blank
    rw [Ss_cons, S_ret, E_sub, E_list, Es_cons, E_c, Es_cons, E_c, Es_nil]
    refine ⟨by simp [lim], fun la hla => ?_⟩
    rw [E_call, Es_cons, E_xs rfl, Es_cons, E_c, Es_nil]
    have hr2 : Rw (H1.set la (.list [V.str [], V.str [32]])) r := hr1.mod (A := []) (Mod.new hla) (by simp)
    have ne : la ≠ r := by obtain ⟨l, h⟩ := hr1; exact (ne_of_none h hla).symm
    refine next2 (base _ _ _ _ _ ok) (P__law_next ..) hr2 (by decide) (by decide) fun u H3 hu hr3 m3 => ?_
    have hg := m3 la _ (by simpa using ne) (AH.set_same H1 la (.list [V.str [], V.str [32]]))
    have m4 := (m1.trans (Mod.new hla)).trans m3
    have : u = 0 ∨ u = 1 := by omega
    rcases this with rfl | rfl
    · exact .inl ⟨_, _, 0, _, rfl, hg, rfl, rfl, k [] _ (.inl rfl) (by simp) hr3 m4⟩
    · exact .inl ⟨_, _, 1, _, rfl, hg, rfl, rfl, k [32] _ (.inr (.inr rfl)) (by simp) hr3 m4⟩
  rw [Ss_nil, seqK_next, Ss_cons, S_ret, E_bin, E_c, E_bi, Es_cons, E_call, Es_cons, E_xs rfl, Es_cons, E_c, Es_nil]
  refine next2 (base _ _ _ _ _ ok) (P__law_next ..) hr1 (by decide) (by decide) fun u H3 hu hr3 m3 => ?_
  rw [Es_nil]
  refine ⟨by omega, ?_⟩
  have hsl := showI_l (k := u) (by omega)
  refine ⟨by simp; omega, ?_⟩
  refine k _ _ (.inr (.inl ?_)) (by simp; omega) hr3 (m1.trans m3)
  have hd := showI_dig (k := u)
  have hne := showI_ne u
  cases hs : showI (u : Int) with
  | nil => exact absurd hs hne
  | cons c t => rw [hs] at hd; exact .num c t hd
end
end Mine.L1

namespace Mine.L1
open Mine Mine.PJ

theorem toks_len : ∀ (m : Nat) (s : List Nat), s.length ≤ m → (toks s).length ≤ s.length
  | _, [], _ => by simp [show toks [] = [] from rfl]
  | 0, c :: s, h => by simp at h
  | m + 1, c :: s, h => by
    rw [toks_cons]
    have h1 := tokLen_pos c s
    have h2 := emit_le ((c :: s).take (tokLen (c :: s)))
    have h3 : ((c :: s).drop (tokLen (c :: s))).length = (c :: s).length - tokLen (c :: s) := List.length_drop
    have h4 := toks_len m ((c :: s).drop (tokLen (c :: s))) (by rw [h3]; simp only [List.length_cons] at h ⊢; omega)
    rw [List.length_append]
    have h5 := tokLen_le (c :: s)
    omega
theorem cut_last (l : List Nat) : cut l (some (-1)) none = if l = [] then [] else [lastN l] := by
  have hc : clipAt l.length (-1) = l.length - 1 := by
    have := clipAt_cast l.length (-1)
    rw [if_pos (by omega)] at this
    omega
  unfold cut
  simp only [Option.elim, hc]
  cases h : l.getLast? with
  | none =>
    rw [List.getLast?_eq_none_iff] at h
    subst h; rfl
  | some c =>
    obtain ⟨u, rfl⟩ := List.getLast?_eq_some_iff.mp h
    rw [if_neg (by simp), lastN_app u (by simp)]
    simp [lastN]

structure Inv (H : AH) (a : WA) (o wk r tk : Addr) (q : WS) (line prior : List Nat) (i : Nat) : Prop where
  rw : Rw H r
  wr : Wr H a o wk q
  wo : WOk q line
  ln : Line line prior
  ht : H tk = some (.list (stL (toks line)))
  n1 : r ≠ o
  n2 : tk ≠ r
  n3 : tk ≠ o
  b1 : line.length ≤ 9 * i
  b2 : q.1.length ≤ 2 * i
  b3 : prior.length ≤ 9
theorem Rw_ne {H : AH} {r b : Addr} (h : Rw H r) {o : AObj} (e : H b = some o) (k : ∀ xs, o ≠ .list xs) : r ≠ b := by
  obtain ⟨l, h⟩ := h
  rintro rfl
  rw [h] at e; cases e; exact k _ rfl
theorem Inv.mod {H H' : AH} {a : WA} {o wk r tk : Addr} {q : WS} {line prior : List Nat} {i : Nat} (I : Inv H a o wk r tk q line prior i) (m : Mod [r] H H') (hr : Rw H' r) : Inv H' a o wk r tk q line prior i :=
  ⟨hr, I.wr.mod m (by simp only [List.mem_singleton]; rintro b rfl; exact ⟨Rw_ne I.rw I.wr.hx (by simp), Rw_ne I.rw I.wr.hd (by simp), I.n1⟩), I.wo, I.ln, m _ _ (by simpa using I.n2) I.ht, I.n1, I.n2, I.n3, I.b1, I.b2, I.b3⟩
theorem Inv.new {H : AH} {a : WA} {o wk r tk c : Addr} {q : WS} {line prior : List Nat} {i : Nat} {x : AObj} (I : Inv H a o wk r tk q line prior i) (h : H c = none) : Inv (H.set c x) a o wk r tk q line prior i :=
  I.mod (Mod.new h) (I.rw.mod (A := []) (Mod.new h) (by simp))

noncomputable def plainL : List (List Nat) := [[], [32], [40], [41], [91], [93], [123], [125], [44], [124], [33], [59]]
theorem plain_no : ∀ t ∈ plainL, ∀ (l f : Nat) (r : List Nat), t = f :: r → touch l f = false := by
  intro t ht l f r e
  subst e
  rw [touch_eq]
  simp only [plainL, List.mem_cons, List.not_mem_nil, or_false] at ht
  have key : isWrd f = false ∧ f ≠ 39 ∧ isSym f = false := by
    rcases ht with h | h | h | h | h | h | h | h | h | h | h | h <;> first | (cases h; done) | (cases h; decide)
  split
  · rfl
  · split
    · simp [key.1, key.2.1]
    · split
      · exact key.2.2
      · simp [key.2.1]
theorem raw_tok {q : WS} {line prior t : List Nat} (W : WOk q line) (L : Line line prior) (h : t ∈ plainL) : rawP q t = tokP q t := by
  cases t with
  | nil => rfl
  | cons f r =>
    show _ = rawP (if needP q.2.1 q.2.2 f then (q.1 ++ [[32]], q.2) else q) (f :: r)
    rw [W.need L (r := r), if_neg]
    unfold apart
    split
    · simp
    · show ¬ touch _ f = true
      rw [plain_no _ h _ f r rfl]; simp

section
variable {hh : H1} {p : Program} {w : World} {g0 : Heap} {os : OsState} {n : Nat} {H : AH} {Q : V → AH → Prop}
theorem tokSt (ok : CxOk (cxL hh p w g0 os)) : DTok (cxL hh p w g0 os) := ⟨⟨P_is_digit .., P_is_small .., P_is_capital .., P_is_alnum .., P_is_symbol ..⟩, P_is_word .., P_Writer_needs_space .., P_Writer_raw .., P_Writer_token ..⟩

noncomputable abbrev T4 : PS := (.ite (.bop true (.cons (.cmp .NotEq (.x 8) (.c (.str []))) (.cons (.cmp .NotEq (.meth (.x 3) 28 (.cons (.sub (.x 8) (.c (.int 0))) .nil)) (.x 10)) .nil))) (.cons (.ret (.c (.bool false))) .nil) .nil)
noncomputable abbrev T5 : PS := (.ite (.bop true (.cons (.cmp .In (.x 8) (.list (.cons (.c (.str [])) (.cons (.c (.str [32])) (.cons (.c (.str [40])) (.cons (.c (.str [41])) (.cons (.c (.str [91])) (.cons (.c (.str [93])) (.cons (.c (.str [123])) (.cons (.c (.str [125])) (.cons (.c (.str [44])) (.cons (.c (.str [124])) (.cons (.c (.str [33])) (.cons (.c (.str [59])) .nil)))))))))))))) (.cons (.cmp .Eq (.call 36 (.cons (.x 1) (.cons (.c (.int 2)) .nil))) (.c (.int 1))) .nil))) (.cons (.expr (.meth (.x 3) 27 (.cons (.x 8) .nil)))
 .nil) (.cons (.expr (.meth (.x 3) 29 (.cons (.x 8) .nil)))
 .nil))
noncomputable abbrev T6 : PSs := (.cons (.asg 4 (.bin .Add (.x 4) (.ite (.x 10) (.bin .Add (.c (.str [32])) (.x 8)) (.x 8))))
 (.cons (.asg 6 (.bin .Add (.x 6) (.x 9)))
 (.cons (.asg 5 (.ite (.cmp .NotEq (.x 8) (.c (.str []))) (.x 8) (.x 5)))
 .nil)))
noncomputable abbrev turnB : PSs := (.cons (.asg 8 (.call 38 (.cons (.x 1) .nil)))
 (.cons (.asg 9 (.call 37 (.cons (.x 8) .nil)))
 (.cons (.asg 10 (.cmp .NotEq (.call 37 (.cons (.bin .Add (.x 5) (.x 8)) .nil)) (.bin .Add (.call 37 (.cons (.x 5) .nil)) (.x 9))))
 (.cons T4 (.cons T5 T6)))))


theorem W_neB {x y : Bool} {P : Bool → Prop} : cmpW .NotEq (.bool x) (.bool y) H P = P (!(x == y)) := by simp [cmpW, eqW, isScalar, veq]
theorem apart_nil (prior : List Nat) : apart prior [] = false := by unfold apart; split <;> rfl
theorem t6 {a : WA} {o wk r tk pa : Addr} {q : WS} {line prior near : List Nat} {i : Nat} {b0 b2 b7 : Option V} {R : FL → Rho → AH → Prop} (hr : Rw H r) (hw : Wr H a o wk (tokP q near)) (hn : near = [] ∨ Bit near) (hl : near.length ≤ 8) (hi : i ≤ 1000)
    (hp : H pa = some (.list (stL (toks near)))) (ht : H tk = some (.list (stL (toks line)))) (W : WOk q line) (L : Line line prior) (n1 : r ≠ o) (b1 : line.length ≤ 9 * i) (b2' : q.1.length ≤ 2 * i) (b3 : prior.length ≤ 9)
    (k : ∀ (q : WS) (line prior : List Nat) (tk : Addr) (b8 b9 b10 : Option V) (H' : AH), Inv H' a o wk r tk q line prior (i + 1) → R .next [b0, some (.ref r), b2, some (.ref a.x), some (.str line), some (.str prior), some (.ref tk), b7, b8, b9, b10] H') :
    wpSs (cxL hh p w g0 os) n T6 [b0, some (.ref r), b2, some (.ref a.x), some (.str line), some (.str prior), some (.ref tk), b7, some (.str near), some (.ref pa), some (.bool (apart prior near))] H R := by
  have hlim : lim = 16777216 := rfl
  rw [T6, Ss_cons, S_asg, E_bin, E_xs rfl, E_ite, E_xs rfl]
  have ml : (more (apart prior near) near).length ≤ 9 := by
    unfold more
    split
    · simp only [List.length_cons]; omega
    · omega
  have put : ∀ {P : V → AH → Prop}, P (.str (line ++ more (apart prior near) near)) H → truW (.bool (apart prior near)) H (fun t => if t = true then wpE (cxL hh p w g0 os) n (.bin .Add (.c (.str [32])) (.x 8)) [b0, some (.ref r), b2, some (.ref a.x), some (.str line), some (.str prior), some (.ref tk), b7, some (.str near), some (.ref pa), some (.bool (apart prior near))] H (fun y H₂ => binW .Add (.str line) y H₂ P) else wpE (cxL hh p w g0 os) n (.x 8) [b0, some (.ref r), b2, some (.ref a.x), some (.str line), some (.str prior), some (.ref tk), b7, some (.str near), some (.ref pa), some (.bool (apart prior near))] H (fun y H₂ => binW .Add (.str line) y H₂ P)) := fun {P} q => by
    refine step_if (fun e => ?_) fun e => ?_
    · rw [e] at q
      rw [E_bin, E_c, E_xs rfl, W_cat]
      exact ⟨by simp; omega, by simp; omega, q⟩
    · rw [e] at q
      rw [E_xs rfl, W_cat]
      exact ⟨by omega, q⟩
  refine put ?_
  rw [seqK_next, Ss_cons, S_asg, E_bin, E_xs rfl, E_xs rfl]
  have tl1 := toks_len _ line (Nat.le_refl _)
  have tl2 := toks_len _ near (Nat.le_refl _)
  refine ⟨_, _, ht, hp, by rw [stL_len, stL_len]; omega, fun t2 h2 => ?_⟩
  rw [← stL_app]
  dsimp only
  rw [seqK_next, Ss_cons, S_asg, E_ite, E_cmp, E_xs rfl, E_c, W_neS]
  have hw2 : Wr (H.set t2 (.list (stL (toks line ++ toks near)))) a o wk (tokP q near) := hw.mod (A := []) (Mod.new h2) (by simp)
  have hr2 : Rw (H.set t2 (.list (stL (toks line ++ toks near)))) r := hr.mod (A := []) (Mod.new h2) (by simp)
  have n2 : t2 ≠ r := by obtain ⟨l, h⟩ := hr; exact (ne_of_none h h2).symm
  have n3 : t2 ≠ o := (ne_of_none hw.ho h2).symm
  have ql : (tokP q near).1.length ≤ 2 * (i + 1) := by
    cases near with
    | nil => show q.1.length ≤ _; omega
    | cons f u =>
      show (rawP (if needP q.2.1 q.2.2 f then (q.1 ++ [[32]], q.2) else q) (f :: u)).1.length ≤ _
      rw [rawP_ok (by simp)]
      split <;> simp <;> omega
  have ll : (line ++ more (apart prior near) near).length ≤ 9 * (i + 1) := by rw [List.length_append]; omega
  refine step_if (fun e => ?_) fun e => ?_
  · have hne : near ≠ [] := by simpa using e
    have hb := hn.resolve_left hne
    obtain ⟨L', e'⟩ := L.step hb
    rw [E_xs rfl, seqK_next, Ss_nil]
    exact k (tokP q near) _ near t2 _ _ _ _ ⟨hr2, hw2, W.tok L hne, L', by rw [e']; exact AH.set_same .., n1, n2, n3, ll, ql, by omega⟩
  · have hne : near = [] := by simpa using e
    subst hne
    rw [E_xs rfl, seqK_next, Ss_nil]
    rw [apart_nil] at ll ⊢
    rw [show more false [] = [] from rfl, List.append_nil] at ll ⊢
    exact k q line prior t2 _ _ _ _ ⟨hr2, hw2, W, L, by rw [AH.set_same, show toks [] = [] from rfl, List.append_nil], n1, n2, n3, ll, ql, b3⟩

theorem turn {a : WA} {o wk r tk : Addr} {q : WS} {line prior : List Nat} {i : Nat} {b0 b2 b7 b8 b9 b10 : Option V} {R : FL → Rho → AH → Prop} (ok : CxOk (cxL hh p w g0 os)) (I : Inv H a o wk r tk q line prior i) (hi : i ≤ 1000)
    (k : ∀ (q : WS) (line prior : List Nat) (tk : Addr) (b8 b9 b10 : Option V) (H' : AH), Inv H' a o wk r tk q line prior (i + 1) → R .next [b0, some (.ref r), b2, some (.ref a.x), some (.str line), some (.str prior), some (.ref tk), b7, b8, b9, b10] H') :
    wpSs (cxL hh p w g0 os) (n + 9) turnB [b0, some (.ref r), b2, some (.ref a.x), some (.str line), some (.str prior), some (.ref tk), b7, b8, b9, b10] H R := by
  have hlim : lim = 16777216 := rfl
  have B := base _ _ _ _ _ ok
  have D := tokSt ok
  rw [turnB, Ss_cons, S_asg, E_call, Es_cons, E_xs rfl, Es_nil]
  refine piece_spec (n := n + 7) ok I.rw fun near H1 hn hl hr1 m1 => ?_
  replace I := I.mod m1 hr1
  rw [seqK_next, Ss_cons, S_asg, E_call, Es_cons, E_xs rfl, Es_nil]
  refine cut_spec (n := n + 7) ok (by omega) fun pa hpa => ?_
  have hp2 : (H1.set pa (.list (stL (toks near)))) pa = some (.list (stL (toks near))) := AH.set_same ..
  have I2 := I.new (x := .list (stL (toks near))) hpa
  have npr : pa ≠ r := by obtain ⟨l, h⟩ := hr1; exact (ne_of_none h hpa).symm
  have npd : pa ≠ a.d := (ne_of_none I.wr.hd hpa).symm
  have npo : pa ≠ o := (ne_of_none I.wr.ho hpa).symm
  generalize H1.set pa (.list (stL (toks near))) = H2 at *
  have b3 := I2.b3
  rw [seqK_next, Ss_cons, S_asg, E_cmp, E_call, Es_cons, E_bin, E_xs rfl, E_xs rfl]
  refine ⟨by omega, ?_⟩
  dsimp only
  rw [Es_nil]
  refine cut_spec (n := n + 7) ok (by rw [List.length_append]; omega) fun c1 h1 => ?_
  have I3 := I2.new (x := .list (stL (toks (prior ++ near)))) h1
  have hp3 : (H2.set c1 (.list (stL (toks (prior ++ near))))) pa = some (.list (stL (toks near))) := by rw [AH.set_ne _ _ (ne_of_none hp2 h1)]; exact hp2
  have hc3 : (H2.set c1 (.list (stL (toks (prior ++ near))))) c1 = some (.list (stL (toks (prior ++ near)))) := AH.set_same ..
  generalize H2.set c1 (.list (stL (toks (prior ++ near)))) = H3 at *
  rw [E_bin, E_call, Es_cons, E_xs rfl, Es_nil]
  refine cut_spec (n := n + 7) ok (by omega) fun c2 h2 => ?_
  have I4 := I3.new (x := .list (stL (toks prior))) h2
  have hp4 : (H3.set c2 (.list (stL (toks prior)))) pa = some (.list (stL (toks near))) := by rw [AH.set_ne _ _ (ne_of_none hp3 h2)]; exact hp3
  have hc4 : (H3.set c2 (.list (stL (toks prior)))) c1 = some (.list (stL (toks (prior ++ near)))) := by rw [AH.set_ne _ _ (ne_of_none hc3 h2)]; exact hc3
  have hd4 : (H3.set c2 (.list (stL (toks prior)))) c2 = some (.list (stL (toks prior))) := AH.set_same ..
  generalize H3.set c2 (.list (stL (toks prior))) = H4 at *
  rw [E_xs rfl]
  have tl1 := toks_len _ prior (Nat.le_refl _)
  have tl2 := toks_len _ near (Nat.le_refl _)
  refine ⟨_, _, hd4, hp4, by rw [stL_len, stL_len]; omega, fun c3 h3 => ?_⟩
  rw [← stL_app]
  have I5 := I4.new (x := .list (stL (toks prior ++ toks near))) h3
  have hp5 : (H4.set c3 (.list (stL (toks prior ++ toks near)))) pa = some (.list (stL (toks near))) := by rw [AH.set_ne _ _ (ne_of_none hp4 h3)]; exact hp4
  have hc5 : (H4.set c3 (.list (stL (toks prior ++ toks near)))) c1 = some (.list (stL (toks (prior ++ near)))) := by rw [AH.set_ne _ _ (ne_of_none hc4 h3)]; exact hc4
  have he5 : (H4.set c3 (.list (stL (toks prior ++ toks near)))) c3 = some (.list (stL (toks prior ++ toks near))) := AH.set_same ..
  generalize H4.set c3 (.list (stL (toks prior ++ toks near))) = H5 at *
  have hprior : prior = [] ∨ Bit prior := by exact I.ln.same.elim (fun h => .inl h.2) fun h => .inr h.2.1
  refine .inl ⟨_, _, hc5, he5, stL_sc _, stL_sc _, ?_⟩
  rw [stL_go, apart_eq hprior hn]
  dsimp only
  rw [Bool.not_not, seqK_next, Ss_cons]
  show wpS _ _ T4 [b0, some (.ref r), b2, some (.ref a.x), some (.str line), some (.str prior), some (.ref tk), b7, some (.str near), some (.ref pa), some (.bool (apart prior near))] H5 _
  have I := I5
  have hp := hp5
  clear hc5 he5 hc4 hd4 hp4 hc3 hp3 I4 I3 I2 h3 h2 h1 I5 hp5
  generalize H5 = H at *
  have out : wpSs (cxL hh p w g0 os) (n + 9) (.cons T5 T6) [b0, some (.ref r), b2, some (.ref a.x), some (.str line), some (.str prior), some (.ref tk), b7, some (.str near), some (.ref pa), some (.bool (apart prior near))] H R := by
    have fin : ∀ (Ha Hb : AH), Inv Ha a o wk r tk q line prior i → Ha pa = some (.list (stL (toks near))) → Mod [a.d, o] Ha Hb → Wr Hb a o wk (tokP q near) → wpSs (cxL hh p w g0 os) (n + 9) T6 [b0, some (.ref r), b2, some (.ref a.x), some (.str line), some (.str prior), some (.ref tk), b7, some (.str near), some (.ref pa), some (.bool (apart prior near))] Hb R := fun Ha Hb I hp m hw => by
      have rd := Rw_ne I.rw I.wr.hd (by simp)
      have td : tk ≠ a.d := ne_of_obj I.ht I.wr.hd (by simp)
      exact t6 (I.rw.mod m (by simp [rd, I.n1])) hw hn hl hi (m _ _ (by simp [npd, npo]) hp) (m _ _ (by simp [td, I.n3]) I.ht) I.wo I.ln I.n1 I.b1 I.b2 I.b3 k
    have tok : ∀ (Ha : AH), Inv Ha a o wk r tk q line prior i → Ha pa = some (.list (stL (toks near))) → wpSs (cxL hh p w g0 os) (n + 9) (.cons (.expr (.meth (.x 3) 29 (.cons (.x 8) .nil))) .nil) [b0, some (.ref r), b2, some (.ref a.x), some (.str line), some (.str prior), some (.ref tk), b7, some (.str near), some (.ref pa), some (.bool (apart prior near))] Ha (seqK (cxL hh p w g0 os) (n + 9) T6 R) := fun Ha I hp => by
      rw [Ss_cons, S_expr, E_meth, E_xs rfl]
      refine methW_of I.wr.hx I.wr.hd (f := 371) (B.meth rfl) rfl ?_
      rw [Es_cons, E_xs rfl, Es_nil]
      refine token_spec (n := n + 4) B D I.wr (by have := I.b2; omega) fun Hb m hw => ⟨by simp, by simp, by simp, ?_⟩
      rw [seqK_next, Ss_nil, seqK_next]
      exact fin Ha Hb I hp m hw
    rw [Ss_cons, T5, S_ite, E_bop, B_more, E_cmp, E_xs rfl, E_list]
    simp only [Es_cons, E_c, Es_nil]
    refine ⟨by simp [lim], fun la hla => ?_⟩
    have Ia := I.new (x := .list (stL plainL)) hla
    have hpa' : (H.set la (.list (stL plainL))) pa = some (.list (stL (toks near))) := by rw [AH.set_ne _ _ (ne_of_none hp hla)]; exact hp
    have hla' : (H.set la (.list (stL plainL))) la = some (.list (stL plainL)) := AH.set_same ..
    refine .inl ⟨stL plainL, hla', rfl, stL_sc _, ?_⟩
    rw [stL_any]
    have hH : (H.set la (.list [V.str [], .str [32], .str [40], .str [41], .str [91], .str [93], .str [123], .str [125], .str [44], .str [124], .str [33], .str [59]])) = H.set la (.list (stL plainL)) := rfl
    rw [hH]
    generalize H.set la (.list (stL plainL)) = Ha at *
    refine step_and (fun e => ?_) fun e => ?_
    rotate_left
    · exact tru_f (H := Ha) rfl (tok Ha Ia hpa')
    rw [B_one, E_cmp, E_call, Es_cons, E_xs rfl, Es_cons, E_c, Es_nil]
    refine next2 (n := n + 8) B (P__law_next ..) Ia.rw (by decide) (by decide) fun v Hb hv hrb mb => ?_
    have Ib := Ia.mod mb hrb
    have hpb := mb pa _ (by simpa using npr) hpa'
    rw [E_c, W_eqI]
    refine step_if (fun e2 => ?_) fun e2 => ?_
    · rw [Ss_cons, S_expr, E_meth, E_xs rfl]
      refine methW_of Ib.wr.hx Ib.wr.hd (f := 364) (B.meth rfl) rfl ?_
      rw [Es_cons, E_xs rfl, Es_nil]
      refine raw_spec (n := n + 8) B D Ib.wr (by have := Ib.b2; omega) fun Hc m hw => ⟨by simp, by simp, by simp, ?_⟩
      rw [seqK_next, Ss_nil, seqK_next]
      rw [raw_tok Ib.wo Ib.ln (of_decide_eq_true e)] at hw
      exact fin Hb Hc Ib hpb m hw
    · exact tok Hb Ib hpb
  rw [T4, S_ite, E_bop, B_more, E_cmp, E_xs rfl, E_c, W_neS]
  refine step_and (fun e => ?_) fun e => ?_
  rotate_left
  · refine tru_f (H := H) rfl ?_
    rw [Ss_nil, seqK_next]; exact out
  rw [B_one, E_cmp, E_meth, E_xs rfl]
  refine methW_of I.wr.hx I.wr.hd (f := 378) (B.meth rfl) rfl ?_
  cases hne : near with
  | nil => rw [hne] at e; simp at e
  | cons f u =>
    rw [Es_cons, E_sub, E_xs rfl, E_c]
    refine ⟨0, f, by unfold idx; rw [if_pos (by omega), if_pos (by simp)]; rfl, rfl, ?_⟩
    dsimp only
    rw [Es_nil]
    refine needs_spec (n := n + 5) B D I.wr ?_
    rw [I.wo.need I.ln (r := u), E_xs rfl, W_neB]
    refine tru_f (H := H) (by simp) ?_
    rw [Ss_nil, seqK_next, ← hne]; exact out
end
end Mine.L1

namespace Mine.L1
open Mine Mine.PJ

section
variable {hh : H1} {p : Program} {w : World} {g0 : Heap} {os : OsState} {n : Nat} {H : AH} {Q : V → AH → Prop}
theorem turns {a : WA} {o wk r : Addr} {b0 b2 : Option V} {R : FL → Rho → AH → Prop} (ok : CxOk (cxL hh p w g0 os)) : ∀ (xs : List V) (q : WS) (line prior : List Nat) (tk : Addr) (i : Nat) (b7 b8 b9 b10 : Option V) (H : AH), Inv H a o wk r tk q line prior i → i + xs.length ≤ 1000 →
    (∀ (q : WS) (line prior : List Nat) (tk : Addr) (b7 b8 b9 b10 : Option V) (H' : AH), Inv H' a o wk r tk q line prior (i + xs.length) → R .next [b0, some (.ref r), b2, some (.ref a.x), some (.str line), some (.str prior), some (.ref tk), b7, b8, b9, b10] H') →
    forC (blk (cxL hh p w g0 os) (n + 9) turnB) (st1 7) (fun _ => True) xs [b0, some (.ref r), b2, some (.ref a.x), some (.str line), some (.str prior), some (.ref tk), b7, b8, b9, b10] H R
  | [], q, line, prior, tk, i, b7, b8, b9, b10, H, I, hi, k => ⟨trivial, k q line prior tk b7 b8 b9 b10 H I⟩
  | x :: xs, q, line, prior, tk, i, b7, b8, b9, b10, H, I, hi, k => by
    refine ⟨trivial, ?_⟩
    show wpSs _ _ turnB [b0, some (.ref r), b2, some (.ref a.x), some (.str line), some (.str prior), some (.ref tk), some x, b8, b9, b10] H _
    simp only [List.length_cons] at hi
    refine turn ok I (by omega) fun q line prior tk b8 b9 b10 H' I' => ?_
    refine turns ok xs q line prior tk (i + 1) _ b8 b9 b10 H' I' (by omega) fun q line prior tk b7 b8 b9 b10 H' I' => k q line prior tk b7 b8 b9 b10 H' ?_
    rw [List.length_cons, show i + (xs.length + 1) = i + 1 + xs.length by omega]; exact I'

theorem law_body {sa : Addr} {ys : List Int} {vs : List Value} (ok : CxOk (cxL hh p w g0 os)) (hs : g0.IsList sa vs.toArray) (hv : Reps g0 (ys.map .int) vs) (hl : ys.length ≤ lim) :
    wpSs (cxL hh p w g0 os) 20 b_law (rho0 1 11 [] [.ref sa]) (fun _ => none) (doneW fun v _ => v = .bool true) := by
  have hlim : lim = 16777216 := rfl
  have B := base _ _ _ _ _ ok
  show wpSs (cxL hh p w g0 os) 20 b_law [some (.ref sa), none, none, none, none, none, none, none, none, none, none] (fun _ => none) _
  unfold b_law
  rw [Ss_cons, S_asg, E_call, Es_cons, E_xs rfl, Es_nil]
  refine row_spec (n := 19) B (P__law_row ..) hs hv hl fun r l H1 _ _ hr1 => ?_
  have R1 : Rw H1 r := ⟨l, hr1⟩
  clear hr1
  rw [seqK_next, Ss_cons, S_asg, E_new, Es_nil]
  refine ⟨49, 19, rfl, B.new rfl, fun d x hd hx ndx => ?_⟩
  have R2 : Rw ((H1.set d (.ns [])).set x (.inst 122 d)) r := R1.mod (A := []) ((Mod.new hd).trans (Mod.new (by rw [AH.set_ne _ _ ndx.symm]; exact hx))) (by simp)
  have nd : r ≠ d := by obtain ⟨l, h⟩ := R1; exact ne_of_none h hd
  refine syInit_spec (n := 16) B ⟨P_Symbols___init__ .., P_Symbols_atom .., P_Symbols_functor .., P_Symbols_func .., P_fixed_atoms .., P_fixed_functors ..⟩ (AH.set_same ..) (by rw [AH.set_ne _ _ ndx]; exact AH.set_same ..) fun sa' H2 _ _ _ m2 _ => ⟨rfl, ?_⟩
  replace R2 := R2.mod m2 (by simpa using nd)
  clear m2 R1 hd hx
  dsimp only
  rw [seqK_next, Ss_cons, S_asg, E_new, Es_cons, E_xs rfl, Es_cons, E_new, Es_cons, E_xs rfl, Es_cons, E_c, Es_nil]
  refine ⟨235, 19, rfl, B.new rfl, fun d1 x1 hd1 hx1 ndx1 => ?_⟩
  have R3 : Rw ((H2.set d1 (.ns [])).set x1 (.inst 287 d1)) r := R2.mod (A := []) ((Mod.new hd1).trans (Mod.new (by rw [AH.set_ne _ _ ndx1.symm]; exact hx1))) (by simp)
  have nd1 : r ≠ d1 := by obtain ⟨l, h⟩ := R2; exact ne_of_none h hd1
  refine opInit_spec (n := 15) B ⟨P_OperatorTable___init__ .., P_OperatorTable_table_of .., P_fixity .., P_OperatorTable_add ..⟩ (AH.set_same ..) (by rw [AH.set_ne _ _ ndx1]; exact AH.set_same ..) fun oa H3 _ _ _ m3 _ => ⟨rfl, ?_⟩
  replace R3 := R3.mod m3 (by simpa using nd1)
  clear m3 R2 hd1 hx1
  dsimp only
  rw [Es_nil]
  refine ⟨349, 19, rfl, B.new rfl, fun d2 x2 hd2 hx2 ndx2 => ?_⟩
  have R4 : Rw ((H3.set d2 (.ns [])).set x2 (.inst 472 d2)) r := R3.mod (A := []) ((Mod.new hd2).trans (Mod.new (by rw [AH.set_ne _ _ ndx2.symm]; exact hx2))) (by simp)
  have nd2 : r ≠ d2 := by obtain ⟨l, h⟩ := R3; exact ne_of_none h hd2
  refine def_call B (P_Writer___init__ ..) (by simp) (by simp) ?_
  refine wrInit_body (b1 := true) (b2 := false) (b3 := false) B (AH.set_same ..) (by rw [AH.set_ne _ _ ndx2]; exact AH.set_same ..) fun a o wk H4 hax _ _ _ _ _ _ _ _ ho _ _ _ m4 hw _ _ _ => ⟨rfl, ?_⟩
  have n1 : r ≠ o := by obtain ⟨l, h⟩ := R4; exact ne_of_none h ho
  replace R4 := R4.mod m4 (by simpa using nd2)
  subst hax
  clear m4 R3 hd2 hx2 ho
  dsimp only
  rw [seqK_next, Ss_cons, S_asg, E_c, seqK_next, Ss_cons, S_asg, E_c, seqK_next, Ss_cons, S_asg, E_list, Es_nil]
  refine ⟨by simp, fun tk htk => ?_⟩
  have I : Inv (H4.set tk (.list [])) a o wk r tk ([], [], false) [] [] 0 := ⟨R4.mod (A := []) (Mod.new htk) (by simp), hw.mod (A := []) (Mod.new htk) (by simp), ⟨rfl, rfl, rfl⟩, Line.nil, AH.set_same .., n1, by obtain ⟨l, h⟩ := R4; exact (ne_of_none h htk).symm, (ne_of_none hw.ho htk).symm, by simp, by simp, by simp⟩
  generalize H4.set tk (.list []) = H5 at *
  rw [seqK_next, Ss_cons, S_for1, Src_range, E_bin, E_c, E_call, Es_cons, E_xs rfl, Es_cons, E_c, Es_nil]
  refine next2 (n := 19) B (P__law_next ..) I.rw (by decide) (by decide) fun v H6 hv hr6 m6 => ?_
  replace I := I.mod m6 hr6
  rw [W_add]
  refine ⟨by omega, ?_⟩
  have hlen : ((List.range (3 + (v : Int)).toNat).map fun (j : Nat) => V.int (j : Int)).length ≤ 12 := by rw [List.length_map, List.length_range]; omega
  refine turns (n := 11) ok _ _ _ _ _ 0 _ _ _ _ H6 I (by omega) fun q line prior tk b7 b8 b9 b10 H7 I => ?_
  generalize ((List.range (3 + (v : Int)).toNat).map fun (j : Nat) => V.int (j : Int)).length = len at *
  have hb := I.b1
  rw [seqK_next, Ss_cons, S_ret, E_bop, B_more, E_cmp, E_bm, E_c]
  refine ⟨⟨_, rfl⟩, ?_⟩
  rw [Es_cons, E_attr, E_xs rfl]
  refine attrW_of I.wr.hx I.wr.hd (B.attr rfl) (x := .ref o) rfl ?_
  rw [Es_nil]
  have hf := I.wo.out
  refine ⟨_, _, I.wr.ho, catS_stL _, (show q.1.flatten.length ≤ lim by rw [hf]; omega), ?_⟩
  dsimp only
  rw [E_xs rfl, W_eqS]
  refine step_and (fun _ => ?_) fun e => absurd hf (of_decide_eq_false e)
  rw [B_more, E_cmp, E_attr, E_xs rfl]
  refine attrW_of I.wr.hx I.wr.hd (B.attr rfl) (x := .str q.2.1) rfl ?_
  rw [E_slice, E_xs rfl, E_neg, E_c]
  refine ⟨1, rfl, ?_⟩
  rw [E_c]
  refine ⟨some (-1), none, rfl, rfl, ?_⟩
  dsimp only
  rw [W_eqS]
  refine step_and (fun _ => ?_) fun e => absurd (by rw [cut_last]; exact I.wo.last) (of_decide_eq_false e)
  rw [B_one, E_cmp, E_call, Es_cons, E_xs rfl, Es_nil]
  refine cut_spec (n := 18) ok (by omega) fun c hc => ?_
  have ht : (H7.set c (.list (stL (toks line)))) tk = some (.list (stL (toks line))) := by rw [AH.set_ne _ _ (ne_of_none I.ht hc)]; exact I.ht
  rw [E_xs rfl]
  refine .inl ⟨_, _, AH.set_same .., ht, stL_sc _, stL_sc _, ?_⟩
  rw [stL_go, decide_eq_true rfl]
  rfl
end
end Mine.L1

set_option maxHeartbeats 8000000
namespace Mine.L1
open Mine Mine.PJ
theorem an_nd : (anP ++ anX).Nodup := by decide +kernel
theorem post_ok (args : List WData) : PySem.Challenge.rw_rh0094_01.row.claim.post args (.bool true) args = true := by kernel_rfl
theorem close {hh : H1} {v : Program} {lo : List Str} {XP : (Str → Option Value) → Heap → Prop} {as0 : List Addr} {e0 : ∀ P, as0 = (hh.h P).map (·.1)} {d : DefRec} (imp_ok : importsNone v = true) (dn : d.name = "law") :
    WalkO v lo XP (kHook hh.h as0 e0).says PySem.Challenge.rw_rh0094_01.row.toRowW d [] (fun f vs => call f vs) := by
  intro w s₀ s₁ mg mb G Y fa o pm cd doc dV kV ho hd hcd hD hmg hg args vals as hpre hlay hrd hwl hlo
  have KX := kIn_of Y
  refine Ground.open G ?_
  intro T B D TE TW
  wrow_args hpre hlay hrd hwl hlo
  refine enter_call ?_
  rename_i ns h1 h2 h3 h4 h5 as1 as2 sa vs as3 hL ra hw r0 hI hr hlen htr
  have hfa : fa = 523 := by
    have e1 := mg_of KX T.g (hh.F.la w.params)
    have e2 : mg "law" = some (.ref fa) := dn ▸ hmg
    rw [e1] at e2; cases e2; rfl
  subst hfa
  have hl : ns.length ≤ lim := by unfold lim; omega
  have ok : CxOk (cxL hh PySem.Challenge.rw_rh0094_01.row.prog w s₁.heap s₁.os) := cxOk_of KX T.g T.b T.builtins T.nolimit (by obtain ⟨mm, ⟨o, es, ep, e, _⟩, _⟩ := (T.seer imp_ok).mods; exact ⟨o, e⟩) an_nd (hh.F.gl _) (hh.F.bl _)
  refine law_good (cx := cxL hh PySem.Challenge.rw_rh0094_01.row.prog w s₁.heap s₁.os) (n := 21) (by decide) rfl rfl hg (fun _ => rfl) (post_ok _) ?_
  exact callOk_def ok (D_law _ _ _ _ _).1 (D_law _ _ _ _ _).2 (by simp) (by simp) (law_body ok hL (ints_reps hI) hl)
end Mine.L1

set_option Elab.async true
set_option maxHeartbeats 8000000
theorem Mine.Q.hd.tw7891218201086646124 : True := trivial
theorem Mine.Q.hd.tw13140465622081023319 : True := trivial
theorem Mine.Q.hd.tw15095506436522783765 : True := trivial
theorem Mine.Q.hd.tw5428495091542029275 : True := trivial
theorem Mine.Q.hd.tw17912446283790122946 : True := trivial
theorem Mine.Q.hd.tw844618051750320741 : True := trivial
theorem Mine.Q.hd.tw17120049605942846252 : True := trivial
theorem Mine.Q.hd.tw15153555735514100310 : True := trivial
theorem Mine.Q.hd.tw4198539270498860642 : True := trivial
theorem Mine.Q.hd.tw5672142311467967860 : True := trivial
theorem Mine.Q.hd.tw6892945282753903749 : True := trivial
theorem Mine.Q.hd.tw15466628785720630401 : True := trivial
theorem Mine.Q.hd.tw11308262968781936872 : True := trivial
theorem Mine.Q.hd.tw2423970043480996683 : True := trivial
theorem Mine.Q.hd.tw8350907874753194219 : True := trivial
theorem Mine.Q.hd.tw14189726509556672563 : True := trivial
theorem Mine.Q.hd.tw14410602094919150560 : True := trivial
theorem Mine.Q.hd.tw11891346453450600533 : True := trivial
theorem Mine.Q.hd.tw7427704488188947965 : True := trivial
theorem Mine.Q.hd.tw17137934240645896065 : True := trivial
theorem Mine.Q.hd.tw3630162596801824278 : True := trivial
theorem Mine.Q.hd.tw8683669107717584998 : True := trivial
theorem Mine.Q.hd.tw8754599213272200841 : True := trivial
theorem Mine.Q.hd.tw7829901326778077549 : True := trivial
theorem Mine.Q.hd.tw15455576389239528154 : True := trivial
theorem Mine.Q.hd.tw11860063319504086129 : True := trivial
theorem Mine.Q.hd.tw7970543028497485785 : True := trivial
theorem Mine.Q.hd.tw2484547763237465362 : True := trivial
theorem Mine.Q.hd.tw5710588153819141613 : True := trivial
theorem Mine.Q.hd.tw10749371292669449073 : True := trivial
theorem Mine.Q.hd.tw3945529342847391001 : True := trivial
theorem Mine.Q.hd.tw16168878730695741458 : True := trivial
theorem Mine.Q.hd.tw15724622752993785473 : True := trivial
theorem Mine.Q.hd.tw10040101164709580851 : True := trivial
theorem Mine.Q.hd.tw12329676559814780593 : True := trivial
theorem Mine.Q.hd.tw829083951094561622 : True := trivial
theorem Mine.Q.hd.tw16685047171141102788 : True := trivial
theorem Mine.Q.hd.tw4756385627426250 : True := trivial
theorem Mine.Q.hd.tw6960198964830238291 : True := trivial
theorem Mine.Q.hd.tw10853923062103217212 : True := trivial
theorem Mine.Q.hd.tw4372082884475381610 : True := trivial
theorem Mine.Q.hd.tw11662285410382365413 : True := trivial
theorem Mine.Q.hd.tw6489837202263195512 : True := trivial
theorem Mine.Q.hd.tw10742978356836535130 : True := trivial
theorem Mine.Q.hd.tw15841882695493030448 : True := trivial
theorem Mine.Q.hd.tw12775759465235793114 : True := trivial
theorem Mine.Q.hd.tw11931234305060403425 : True := trivial
theorem Mine.Q.hd.tw524837261478274431 : True := trivial
theorem Mine.Q.hd.tw3955729112317485849 : True := trivial
theorem Mine.Q.hd.tw8058926224068261280 : True := trivial
theorem Mine.Q.hd.tw205854851003918817 : True := trivial
theorem Mine.Q.hd.tw13742721505542980885 : True := trivial
theorem Mine.Q.hd.tw16527828006916237877 : True := trivial
theorem Mine.Q.hd.tw9165962754066979168 : True := trivial
theorem Mine.Q.hd.tw16680068981569699285 : True := trivial
theorem Mine.Q.hd.tw9616014984975179080 : True := trivial
theorem Mine.Q.hd.tw9579277216869544023 : True := trivial
theorem Mine.Q.hd.tw6831652480784725172 : True := trivial
theorem Mine.Q.hd.tw2975775273769925685 : True := trivial
theorem Mine.Q.hd.tw12221186744293057323 : True := trivial
theorem Mine.Q.hd.tw6156424889414985113 : True := trivial
theorem Mine.Q.hd.tw938492553464377231 : True := trivial
theorem Mine.Q.hd.tw17519101165596381581 : True := trivial
theorem Mine.Q.hd.tw13981015281733614352 : True := trivial
theorem Mine.Q.hd.tw13693453905053076483 : True := trivial
theorem Mine.Q.hd.tw4636917647231441164 : True := trivial
theorem Mine.Q.hd.tw16275587816141384366 : True := trivial
theorem Mine.Q.hd.tw3779207904453295736 : True := trivial
theorem Mine.Q.hd.tw14159472105732870653 : True := trivial
theorem Mine.Q.hd.tw12210687535122251892 : True := trivial
theorem Mine.Q.hd.tw17886450880963914682 : True := trivial
theorem Mine.Q.hd.tw6668794327085692892 : True := trivial
theorem Mine.Q.hd.tw1175881552622464606 : True := trivial
theorem Mine.Q.hd.tw6911339838659411220 : True := trivial
theorem Mine.Q.hd.tw191033512385101244 : True := trivial
theorem Mine.Q.hd.tw17643629950739205176 : True := trivial
theorem Mine.Q.hd.tw3088598485713124149 : True := trivial
theorem Mine.Q.hd.tw14977975331232052470 : True := trivial
theorem Mine.Q.hd.tw207953481913026263 : True := trivial
theorem Mine.Q.hd.tw6681801571312011440 : True := trivial
theorem Mine.Q.hd.tw7482007179326118707 : True := trivial
theorem Mine.Q.hd.tw3279971375570700884 : True := trivial
theorem Mine.Q.hd.tw5145086888359705461 : True := trivial
theorem Mine.Q.hd.tw10129077709450230454 : True := trivial
theorem Mine.Q.hd.tw14942527934276697316 : True := trivial
theorem Mine.Q.hd.tw6712599322937761101 : True := trivial
theorem Mine.Q.hd.tw4065702126436995761 : True := trivial
theorem Mine.Q.hd.tw13585561253232947081 : True := trivial
theorem Mine.Q.hd.tw17005545289864403213 : True := trivial
theorem Mine.Q.hd.tw8478535742720418969 : True := trivial
theorem Mine.Q.hd.tw243187099428620653 : True := trivial
theorem Mine.Q.hd.tw9294797854675641719 : True := trivial
theorem Mine.Q.hd.tw1791223544141239757 : True := trivial
theorem Mine.Q.hd.tw18069825610233619436 : True := trivial
theorem Mine.Q.hd.tw11360069870151763568 : True := trivial
theorem Mine.Q.hd.tw12305834750088058544 : True := trivial
theorem Mine.Q.hd.tw15974840384540945119 : True := trivial
theorem Mine.Q.hd.tw6599618060772509261 : True := trivial
theorem Mine.Q.hd.tw8444446939146443727 : True := trivial
theorem Mine.Q.hd.tw11240324153536059958 : True := trivial
theorem Mine.Q.hd.tw11662302631397519697 : True := trivial
theorem Mine.Q.hd.tw10555853523381395709 : True := trivial
theorem Mine.Q.hd.tw13815615961721026135 : True := trivial
theorem Mine.Q.hd.tw6711098150076160543 : True := trivial
theorem Mine.Q.hd.tw17783154346313961128 : True := trivial
theorem Mine.Q.hd.tw6147518825799543443 : True := trivial
theorem Mine.Q.hd.tw12623425564297287442 : True := trivial
theorem Mine.Q.hd.tw15733961165076114137 : True := trivial
theorem Mine.Q.hd.tw5276480816367069104 : True := trivial
theorem Mine.Q.hd.tw4858725512724795861 : True := trivial
theorem Mine.Q.hd.tw13825281191339626340 : True := trivial
theorem Mine.Q.hd.tw6794796323832459650 : True := trivial
theorem Mine.Q.hd.tw11770759969255813156 : True := trivial
theorem Mine.Q.hd.tw14264151879982906326 : True := trivial
theorem Mine.Q.hd.tw13016092266122299372 : True := trivial
theorem Mine.Q.hd.tw15083881970598027826 : True := trivial
theorem Mine.Q.hd.tw15920892232559103999 : True := trivial
theorem Mine.Q.hd.tw16133522453944578956 : True := trivial
theorem Mine.Q.hd.tw6216807663964364225 : True := trivial
theorem Mine.Q.hd.tw1469020428663365775 : True := trivial
theorem Mine.Q.hd.tw9271109916430313771 : True := trivial
theorem Mine.Q.hd.tw6474673009364490592 : True := trivial
theorem Mine.Q.hd.tw11276731429388903587 : True := trivial
theorem Mine.Q.hd.tw4912005217360379667 : True := trivial
theorem Mine.Q.hd.tw17491369824612196977 : True := trivial
theorem Mine.Q.hd.tw17606814409069879655 : True := trivial
theorem Mine.Q.hd.tw2614304244100806907 : True := trivial
theorem Mine.Q.hd.tw5104595375588942643 : True := trivial
theorem Mine.Q.hd.tw11292441736946379998 : True := trivial
theorem Mine.Q.hd.tw8968586248322219498 : True := trivial
theorem Mine.Q.hd.tw14768961620276172320 : True := trivial
theorem Mine.Q.hd.tw4900458558888630985 : True := trivial
theorem Mine.Q.hd.tw1660969633440103092 : True := trivial
theorem Mine.Q.hd.tw5300958424569009926 : True := trivial
theorem Mine.Q.hd.tw10101971132677290038 : True := trivial
theorem Mine.Q.hd.tw1173499263263454580 : True := trivial
theorem Mine.Q.hd.tw18444039213112763002 : True := trivial
theorem Mine.Q.hd.tw11621006998219349945 : True := trivial
theorem Mine.Q.hd.tw11834762603919710364 : True := trivial
theorem Mine.Q.hd.tw6241377580941669731 : True := trivial
theorem Mine.Q.hd.tw7737896594532365226 : True := trivial
theorem Mine.Q.hd.tw6584309811360339686 : True := trivial
theorem Mine.Q.hd.tw8059276648069834820 : True := trivial
theorem Mine.Q.hd.tw1991115539885762705 : True := trivial
theorem Mine.Q.hd.tw5444496268496314569 : True := trivial
theorem Mine.Q.hd.tw9072546878412915368 : True := trivial
theorem Mine.Q.hd.tw12106486362453881625 : True := trivial
theorem Mine.Q.hd.tw12218483578299935045 : True := trivial
theorem Mine.Q.hd.tw6014933024820217421 : True := trivial
theorem Mine.Q.hd.tw11269339579624949308 : True := trivial
theorem Mine.Q.hd.tw16492539541746816853 : True := trivial
theorem Mine.Q.hd.tw12531004486558306315 : True := trivial
theorem Mine.Q.hd.tw7334799823360690431 : True := trivial
theorem Mine.Q.hd.tw6871383607575853671 : True := trivial
theorem Mine.Q.hd.tw8472468191061148282 : True := trivial
theorem Mine.Q.hd.tw3817988044312618409 : True := trivial
theorem Mine.Q.hd.tw13513105020605646355 : True := trivial
theorem Mine.Q.hd.tw10643614140272937169 : True := trivial
theorem Mine.Q.hd.tw4956991757362829451 : True := trivial
theorem Mine.Q.hd.tw4896461560201020521 : True := trivial
theorem Mine.Q.hd.tw4918309599926353139 : True := trivial
theorem Mine.Q.hd.tw9250617271818679035 : True := trivial
theorem Mine.Q.hd.tw3432979330106578971 : True := trivial
theorem Mine.Q.hd.tw12644963963476691215 : True := trivial
theorem Mine.Q.hd.tw12831458304173177498 : True := trivial
theorem Mine.Q.hd.tw8861959199045429025 : True := trivial
theorem Mine.Q.hd.tw15592965989540277356 : True := trivial
theorem Mine.Q.hd.tw18157425260332429748 : True := trivial
theorem Mine.Q.hd.tw10179434236888645607 : True := trivial
theorem Mine.Q.hd.tw6492228826839697248 : True := trivial
theorem Mine.Q.hd.tw2900512530555286193 : True := trivial
theorem Mine.Q.hd.tw7782138220547585214 : True := trivial
theorem Mine.Q.hd.tw15398408573788360204 : True := trivial
theorem Mine.Q.hd.tw4273038751760193566 : True := trivial
theorem Mine.Q.hd.tw16402252784957876941 : True := trivial
theorem Mine.Q.hd.tw15209713819822343238 : True := trivial
theorem Mine.Q.hd.tw7406274446694274253 : True := trivial
theorem Mine.Q.hd.tw2192154178758381616 : True := trivial
theorem Mine.Q.hd.tw10196723339700401280 : True := trivial
theorem Mine.Q.hd.tw201452942104613641 : True := trivial
theorem Mine.Q.hd.tw8333126890427093064 : True := trivial
theorem Mine.Q.hd.tw2367010654244041017 : True := trivial
theorem Mine.Q.hd.tw11977151725115026163 : True := trivial
theorem Mine.Q.hd.tw15115293366448797685 : True := trivial
theorem Mine.Q.hd.tw2017003803569876488 : True := trivial
theorem Mine.Q.hd.tw10499718284656358546 : True := trivial
theorem Mine.Q.hd.tw1238847111368601814 : True := trivial
theorem Mine.Q.hd.tw12582088908367390034 : True := trivial
theorem Mine.Q.hd.tw8995015149626709214 : True := trivial
theorem Mine.Q.hd.tw13797986779277857950 : True := trivial
theorem Mine.Q.hd.tw9414067965336219822 : True := trivial
theorem Mine.Q.hd.tw7064568808922942916 : True := trivial
theorem Mine.Q.hd.tw2936673365052958243 : True := trivial
theorem Mine.Q.hd.tw10067699556605640185 : True := trivial
theorem Mine.Q.hd.tw10655897461247635607 : True := trivial
theorem Mine.Q.hd.tw1820067607954719646 : True := trivial
theorem Mine.Q.hd.tw15403179356732851779 : True := trivial
theorem Mine.Q.hd.tw1572923382919298415 : True := trivial
theorem Mine.Q.hd.tw13374434531849660480 : True := trivial
theorem Mine.Q.hd.tw3719756977245662873 : True := trivial
theorem Mine.Q.hd.tw7472686092829446192 : True := trivial
theorem Mine.Q.hd.tw12628647675662076796 : True := trivial
theorem Mine.Q.hd.tw11046846713068532102 : True := trivial
theorem Mine.Q.hd.tw2795269348502581718 : True := trivial
theorem Mine.Q.hd.tw3261375959634906957 : True := trivial
theorem Mine.Q.hd.tw17666924836031989624 : True := trivial
theorem Mine.Q.hd.tw14155572456991801078 : True := trivial
theorem Mine.Q.hd.tw3875494800283307896 : True := trivial
theorem Mine.Q.hd.tw14916102404091395481 : True := trivial
theorem Mine.Q.hd.tw7701305140697991224 : True := trivial
theorem Mine.Q.hd.tw1574838220128592570 : True := trivial
theorem Mine.Q.hd.tw13776903131658224748 : True := trivial
theorem Mine.Q.hd.tw10026763171787714938 : True := trivial
theorem Mine.Q.hd.tw16111719539545469936 : True := trivial
theorem Mine.Q.hd.tw10603428521522445647 : True := trivial
theorem Mine.Q.hd.tw3596890209277029240 : True := trivial
theorem Mine.Q.hd.tw7602332049566814656 : True := trivial
theorem Mine.Q.hd.tw15791197676994706556 : True := trivial
theorem Mine.Q.hd.tw15878318974777794982 : True := trivial
theorem Mine.Q.hd.tw14160711472537900341 : True := trivial
theorem Mine.Q.hd.tw7416650824798621252 : True := trivial
theorem Mine.Q.hd.tw16128759153045249107 : True := trivial
theorem Mine.Q.hd.tw12128492383690142956 : True := trivial
theorem Mine.Q.hd.tw12319270352844800027 : True := trivial
theorem Mine.Q.hd.tw18352710037575816802 : True := trivial
theorem Mine.Q.hd.tw774897804068513722 : True := trivial
theorem Mine.Q.hd.tw4587365200336531940 : True := trivial
theorem Mine.Q.hd.tw9215245381863477374 : True := trivial
theorem Mine.Q.hd.tw17328725725405323763 : True := trivial
theorem Mine.Q.hd.tw1750816973494121531 : True := trivial
theorem Mine.Q.hd.tw9389103141884807768 : True := trivial
theorem Mine.Q.hd.tw11055414359329635168 : True := trivial
theorem Mine.Q.hd.tw12066159159979665033 : True := trivial
theorem Mine.Q.hd.tw8904935393530276418 : True := trivial
theorem Mine.Q.hd.tw16151330867012174520 : True := trivial
theorem Mine.Q.hd.tw2755801186265022047 : True := trivial
theorem Mine.Q.hd.tw18392690285002325062 : True := trivial
theorem Mine.Q.hd.tw18147668022513216797 : True := trivial
theorem Mine.Q.hd.tw10899895987517074240 : True := trivial
theorem Mine.Q.hd.tw15874333082773133124 : True := trivial
theorem Mine.Q.hd.tw7534196021242225483 : True := trivial
theorem Mine.Q.hd.tw3008844940786825779 : True := trivial
theorem Mine.Q.hd.tw16597418866121900396 : True := trivial
theorem Mine.Q.hd.tw5883363696661713137 : True := trivial
theorem Mine.Q.hd.tw17275124361755857309 : True := trivial
theorem Mine.Q.hd.tw2773702025700500286 : True := trivial
theorem Mine.Q.hd.tw3218463122415412745 : True := trivial
theorem Mine.Q.hd.tw12317459873554328024 : True := trivial
theorem Mine.Q.hd.tw652836983756841832 : True := trivial
theorem Mine.Q.hd.tw14578290416461094762 : True := trivial
theorem Mine.Q.hd.tw8051839629852666776 : True := trivial
theorem Mine.Q.hd.tw12361423929951711489 : True := trivial
theorem Mine.Q.hd.tw5713891578884469041 : True := trivial
theorem Mine.Q.hd.tw259835737206062315 : True := trivial
theorem Mine.Q.hd.tw1842600103021996791 : True := trivial
theorem Mine.Q.hd.tw13992375144647431698 : True := trivial
theorem Mine.Q.hd.tw6101614332391257910 : True := trivial
theorem Mine.Q.hd.tw15907617698774223247 : True := trivial
theorem Mine.Q.hd.tw16999781484152167800 : True := trivial
theorem Mine.Q.hd.tw9706258368113967240 : True := trivial
theorem Mine.Q.hd.tw3071293502512497523 : True := trivial
theorem Mine.Q.hd.tw3268324914607780729 : True := trivial
theorem Mine.Q.hd.tw11795727877464440723 : True := trivial
theorem Mine.Q.hd.tw13283073027077945181 : True := trivial
theorem Mine.Q.hd.tw15228907963196627197 : True := trivial
theorem Mine.Q.hd.tw11576817264345568800 : True := trivial
theorem Mine.Q.hd.tw1572162113449495650 : True := trivial
theorem Mine.Q.hd.tw3610654293016985230 : True := trivial
theorem Mine.Q.hd.tw7128432973703360624 : True := trivial
theorem Mine.Q.hd.tw320408678595718206 : True := trivial
theorem Mine.Q.hd.tw14352913783710169866 : True := trivial
theorem Mine.Q.hd.tw12454243580769550829 : True := trivial
theorem Mine.Q.hd.tw9588517462936125551 : True := trivial
theorem Mine.Q.hd.tw2513451660941595761 : True := trivial
theorem Mine.Q.hd.tw3787853002274892826 : True := trivial
theorem Mine.Q.hd.tw11181668063793630871 : True := trivial
theorem Mine.Q.hd.tw11601723773159535712 : True := trivial
theorem Mine.Q.hd.tw1056569804148999575 : True := trivial
theorem Mine.Q.hd.tw8822800682720014438 : True := trivial
theorem Mine.Q.hd.tw3336781864973477031 : True := trivial
theorem Mine.Q.hd.tw17186353619562818380 : True := trivial
theorem Mine.Q.hd.tw10564173231057992007 : True := trivial
theorem Mine.Q.hd.tw9945385980759175796 : True := trivial
theorem Mine.Q.hd.tw8258711715653737470 : True := trivial
theorem Mine.Q.hd.tw2835915587024964235 : True := trivial
theorem Mine.Q.hd.tw10608794724352917615 : True := trivial
theorem Mine.Q.hd.tw11610879121830488708 : True := trivial
theorem Mine.Q.hd.tw10602299077372451255 : True := trivial
theorem Mine.Q.hd.tw2633462220244247665 : True := trivial
theorem Mine.Q.hd.tw10805255540523558021 : True := trivial
theorem Mine.Q.hd.tw7296548682244928964 : True := trivial
theorem Mine.Q.hd.tw17630707484343866726 : True := trivial
theorem Mine.Q.hd.tw14489593617293953028 : True := trivial
theorem Mine.Q.hd.tw5508913211625357037 : True := trivial
theorem Mine.Q.hd.tw18055536955238566958 : True := trivial
theorem Mine.Q.hd.tw11666104697628213720 : True := trivial
theorem Mine.Q.hd.tw6593171280111790542 : True := trivial
theorem Mine.Q.hd.tw13878686127171480976 : True := trivial
theorem Mine.Q.hd.tw9265622256324725397 : True := trivial
theorem Mine.Q.hd.tw14366148674275821573 : True := trivial
theorem Mine.Q.hd.tw9472071266257889500 : True := trivial
theorem Mine.Q.hd.tw1422647047191588398 : True := trivial
theorem Mine.Q.hd.tw15306451318190764814 : True := trivial
theorem Mine.Q.hd.tw5974967929675031331 : True := trivial
theorem Mine.Q.hd.tw1912645514674293228 : True := trivial
theorem Mine.Q.hd.tw6947550773722115627 : True := trivial
theorem Mine.Q.hd.tw18315248508184913722 : True := trivial
theorem Mine.Q.hd.tw11017608061799241520 : True := trivial
theorem Mine.Q.hd.tw751553317393373573 : True := trivial
theorem Mine.Q.hd.tw9736936154762548900 : True := trivial
theorem Mine.Q.hd.tw1127438568279753159 : True := trivial
theorem Mine.Q.hd.tw17218843837534946972 : True := trivial
theorem Mine.Q.hd.tw10593747252588949835 : True := trivial
theorem Mine.Q.hd.tw6034907471818238373 : True := trivial
theorem Mine.Q.hd.tw10185420908462610085 : True := trivial
theorem Mine.Q.hd.tw11123047097038164987 : True := trivial
theorem Mine.Q.hd.tw10607439133074829226 : True := trivial
theorem Mine.Q.hd.tw3016626611375163745 : True := trivial
theorem Mine.Q.hd.tw6377584018923693439 : True := trivial
theorem Mine.Q.hd.tw3606856703192268444 : True := trivial
theorem Mine.Q.hd.tw7938452869122528479 : True := trivial
theorem Mine.Q.hd.tw10914565877548680346 : True := trivial
theorem Mine.Q.hd.tw15447243960614738552 : True := trivial
theorem Mine.Q.hd.tw10575295485196379350 : True := trivial
theorem Mine.Q.hd.tw2144777638167694550 : True := trivial
theorem Mine.Q.hd.tw4877860347538053312 : True := trivial
theorem Mine.Q.hd.tw1090533960443113453 : True := trivial
theorem Mine.Q.hd.tw4107549150443196831 : True := trivial
theorem Mine.Q.hd.tw726777159588594108 : True := trivial
theorem Mine.Q.hd.tw5535860032256431958 : True := trivial
theorem Mine.Q.hd.tw2705138907928513570 : True := trivial
theorem Mine.Q.hd.tw15541643890383032936 : True := trivial
theorem Mine.Q.hd.tw12932254233657289870 : True := trivial
theorem Mine.Q.hd.tw3337418730873359550 : True := trivial
theorem Mine.Q.hd.tw7889772857208505579 : True := trivial
theorem Mine.Q.hd.tw6820002183907499436 : True := trivial
theorem Mine.Q.hd.tw2395156514817112252 : True := trivial
theorem Mine.Q.hd.tw9205365851074855951 : True := trivial
theorem Mine.Q.hd.tw828482416239295131 : True := trivial
theorem Mine.Q.hd.tw6798206556718417970 : True := trivial
theorem Mine.Q.hd.tw66152208766896025 : True := trivial
theorem Mine.Q.hd.tw2965855901360751692 : True := trivial
theorem Mine.Q.hd.tw15627553864114485831 : True := trivial
theorem Mine.Q.hd.tw11144587514839342541 : True := trivial
theorem Mine.Q.hd.tw2683898342006042352 : True := trivial
theorem Mine.Q.hd.tw13267505065953748931 : True := trivial
theorem Mine.Q.hd.tw13481692797894371808 : True := trivial
theorem Mine.Q.hd.tw9712341526263511516 : True := trivial
theorem Mine.Q.hd.tw5647356307198066014 : True := trivial
theorem Mine.Q.hd.tw9624501934016928233 : True := trivial
theorem Mine.Q.hd.tw17171549599064438536 : True := trivial
theorem Mine.Q.hd.tw898850295196575306 : True := trivial
theorem Mine.Q.hd.tw16101005595172637542 : True := trivial
theorem Mine.Q.hd.tw17067678687568579545 : True := trivial
theorem Mine.Q.hd.tw14409557019282711908 : True := trivial
theorem Mine.Q.hd.tw3379151216127357930 : True := trivial
theorem Mine.Q.hd.tw11723117612612053512 : True := trivial
theorem Mine.Q.hd.tw13441252756208447463 : True := trivial
theorem Mine.Q.hd.tw6215724557207268629 : True := trivial
theorem Mine.Q.hd.tw6537477807492329985 : True := trivial
theorem Mine.Q.hd.tw4015038958588192427 : True := trivial
theorem Mine.Q.hd.tw16825256719199966118 : True := trivial
theorem Mine.Q.hd.tw10654009241532562613 : True := trivial
theorem Mine.Q.hd.tw13815401493976062961 : True := trivial
theorem Mine.Q.hd.tw8048334903430179409 : True := trivial
theorem Mine.Q.hd.tw1649627424000868967 : True := trivial
theorem Mine.Q.hd.tw595848174287694590 : True := trivial
theorem Mine.Q.hd.tw9006961217000556294 : True := trivial
theorem Mine.Q.hd.tw11426003584447911117 : True := trivial
theorem Mine.Q.hd.tw3151621423567875095 : True := trivial
theorem Mine.Q.hd.tw16387600589263644780 : True := trivial
theorem Mine.Q.hd.tw5225180008293679502 : True := trivial
theorem Mine.Q.hd.tw4594224268365335276 : True := trivial
theorem Mine.Q.hd.tw8416738904268220733 : True := trivial
theorem Mine.Q.hd.tw2474121487783681822 : True := trivial
theorem Mine.Q.hd.tw12379829720951946719 : True := trivial
theorem Mine.Q.hd.tw11582197552588493371 : True := trivial
theorem Mine.Q.hd.tw7765081483035710951 : True := trivial
theorem Mine.Q.hd.tw4824304524935656571 : True := trivial
theorem Mine.Q.hd.tw820107296550293540 : True := trivial
theorem Mine.Q.hd.tw3087887138631532027 : True := trivial
theorem Mine.Q.hd.tw2421177868643206350 : True := trivial
theorem Mine.Q.hd.tw12983544848426057556 : True := trivial
theorem Mine.Q.hd.tw11660197722864796174 : True := trivial
theorem Mine.Q.hd.tw16094894197317299160 : True := trivial
theorem Mine.Q.hd.tw16992963360766345728 : True := trivial
theorem Mine.Q.hd.tw7998887211044715746 : True := trivial
theorem Mine.Q.hd.tw3426437842817968908 : True := trivial
theorem Mine.Q.hd.tw9003544204060976977 : True := trivial
theorem Mine.Q.hd.tw14954648477773975637 : True := trivial
theorem Mine.Q.hd.tw14542377069360597644 : True := trivial
theorem Mine.Q.hd.tw8906612426424969735 : True := trivial
theorem Mine.Q.hd.tw4359337734231814435 : True := trivial
theorem Mine.Q.hd.tw4332680076680680070 : True := trivial
theorem Mine.Q.hd.tw2348406133999000136 : True := trivial
theorem Mine.Q.hd.tw9654838917835371759 : True := trivial
theorem Mine.Q.hd.tw10748767473974586579 : True := trivial
theorem Mine.Q.hd.tw5078457472980346234 : True := trivial
theorem Mine.Q.hd.tw3482473226056634287 : True := trivial
theorem Mine.Q.hd.tw14026055854670692884 : True := trivial
theorem Mine.Q.hd.tw2818027396524912455 : True := trivial
theorem Mine.Q.hd.tw9927268967466996675 : True := trivial
theorem Mine.Q.hd.tw14918105098981379955 : True := trivial
theorem Mine.Q.hd.tw10307506759134984030 : True := trivial
theorem Mine.Q.hd.tw12081072928626583103 : True := trivial
theorem Mine.Q.hd.tw6955321747998046809 : True := trivial
theorem Mine.Q.hd.tw9719863314109982833 : True := trivial
theorem Mine.Q.hd.tw7468033262353456978 : True := trivial
theorem Mine.Q.hd.tw12241927867242071649 : True := trivial
theorem Mine.Q.hd.tw12257014612043979622 : True := trivial
theorem Mine.Q.hd.tw15291817845268023466 : True := trivial
theorem Mine.Q.hd.tw17367927515558499553 : True := trivial
theorem Mine.Q.hd.tw776788611006427673 : True := trivial
theorem Mine.Q.hd.tw17909139558180463915 : True := trivial
theorem Mine.Q.hd.tw7723620323924446664 : True := trivial
theorem Mine.Q.hd.tw4361467935050139502 : True := trivial
theorem Mine.Q.hd.tw1401650825695821826 : True := trivial
theorem Mine.Q.hd.tw1444601312606610489 : True := trivial
theorem Mine.Q.hd.tw15355269064099613301 : True := trivial
theorem Mine.Q.hd.tw15957953805863546362 : True := trivial
theorem Mine.Q.hd.tw10333975555875527593 : True := trivial
theorem Mine.Q.hd.tw7984171266194367970 : True := trivial
theorem Mine.Q.hd.tw8980313592655345904 : True := trivial
theorem Mine.Q.hd.tw16311163538044004020 : True := trivial
theorem Mine.Q.hd.tw9603241793619494194 : True := trivial
theorem Mine.Q.hd.tw17558139887239289626 : True := trivial
theorem Mine.Q.hd.tw13516012112165437460 : True := trivial
theorem Mine.Q.hd.tw4858136247534789959 : True := trivial
theorem Mine.Q.hd.tw5212468065538704704 : True := trivial
theorem Mine.Q.hd.tw2780954358284006232 : True := trivial
theorem Mine.Q.hd.tw11248921170405388127 : True := trivial
theorem Mine.Q.hd.tw14403448172978595827 : True := trivial
theorem Mine.Q.hd.tw9336879599375187781 : True := trivial
theorem Mine.Q.hd.tw1535231180465829762 : True := trivial
theorem Mine.Q.hd.tw5631263900969151634 : True := trivial
theorem Mine.Q.hd.tw8866738408681927787 : True := trivial
theorem Mine.Q.hd.tw1351833596283289153 : True := trivial
theorem Mine.Q.hd.tw17604413060459671602 : True := trivial
theorem Mine.Q.hd.tw11297546845724593501 : True := trivial
theorem Mine.Q.hd.tw9891114696098799137 : True := trivial
theorem Mine.Q.hd.tw1372320381582530654 : True := trivial
theorem Mine.Q.hd.tw8426933443259139144 : True := trivial
theorem Mine.Q.hd.tw10339418980590412130 : True := trivial
theorem Mine.Q.hd.tw1595132055540218572 : True := trivial
theorem Mine.Q.hd.tw13496431834435508260 : True := trivial
theorem Mine.Q.hd.tw10393276803306412422 : True := trivial
theorem Mine.Q.hd.tw15277385954804714630 : True := trivial
theorem Mine.Q.hd.tw13754686859469231902 : True := trivial
theorem Mine.Q.hd.tw18445836414057632183 : True := trivial
theorem Mine.Q.hd.tw16464945041974671424 : True := trivial
theorem Mine.Q.hd.tw5179186476270713065 : True := trivial
theorem Mine.Q.hd.tw13531095033466579156 : True := trivial
theorem Mine.Q.hd.tw9654331209689135374 : True := trivial
theorem Mine.Q.hd.tw16024452008522816955 : True := trivial
theorem Mine.Q.hd.tw2084723084098826008 : True := trivial
theorem Mine.Q.hd.tw10429541573218683785 : True := trivial
theorem Mine.Q.hd.tw5711489716703607833 : True := trivial
theorem Mine.Q.hd.tw7027317152310954218 : True := trivial
theorem Mine.Q.hd.tw17452346556709086548 : True := trivial
theorem Mine.Q.hd.tw9109487208173088580 : True := trivial
theorem Mine.Q.hd.tw7807541369845179673 : True := trivial
theorem Mine.Q.hd.tw16030455954079722217 : True := trivial
theorem Mine.Q.hd.tw1728955853416136418 : True := trivial
theorem Mine.Q.hd.tw8239082449414636256 : True := trivial
theorem Mine.Q.hd.tw2635333122630595880 : True := trivial
theorem Mine.Q.hd.tw8320764905639215358 : True := trivial
theorem Mine.Q.hd.tw11353754606522366778 : True := trivial
theorem Mine.Q.hd.tw8652360671670436017 : True := trivial
theorem Mine.Q.hd.tw17724719830094348746 : True := trivial
theorem Mine.Q.hd.tw12817108252307477060 : True := trivial
theorem Mine.Q.hd.tw18411675381597028170 : True := trivial
theorem Mine.Q.hd.tw2389579518576422017 : True := trivial
theorem Mine.Q.hd.tw12139043420435973794 : True := trivial
theorem Mine.Q.hd.tw143893392850774895 : True := trivial
theorem Mine.Q.hd.tw9495084900718248381 : True := trivial
theorem Mine.Q.hd.tw15994406917996954618 : True := trivial
theorem Mine.Q.hd.tw16584057363753001292 : True := trivial
theorem Mine.Q.hd.tw13740116340756397230 : True := trivial
theorem Mine.Q.hd.tw14902256227288214784 : True := trivial
theorem Mine.Q.hd.tw2003697951086132836 : True := trivial
theorem Mine.Q.hd.tw6544207180810545863 : True := trivial
theorem Mine.Q.hd.tw12855421441116682057 : True := trivial
theorem Mine.Q.hd.tw1702639787250225261 : True := trivial
theorem Mine.Q.hd.tw14199706615527838514 : True := trivial
theorem Mine.Q.hd.tw8364925159378562316 : True := trivial
theorem Mine.Q.hd.tw6064914988600730540 : True := trivial
theorem Mine.Q.hd.tw10545308367643138296 : True := trivial
theorem Mine.Q.hd.tw14457572410276179859 : True := trivial
theorem Mine.Q.hd.tw2105716371930140346 : True := trivial
theorem Mine.Q.hd.tw7241741144917172417 : True := trivial
theorem Mine.Q.hd.tw18325268160912089195 : True := trivial
theorem Mine.Q.hd.tw9406756936193589978 : True := trivial
theorem Mine.Q.hd.tw11482440064819646558 : True := trivial
theorem Mine.Q.hd.tw737953460279389810 : True := trivial
theorem Mine.Q.hd.tw1179993180646371014 : True := trivial
theorem Mine.Q.hd.tw1705959307035821995 : True := trivial
theorem Mine.Q.hd.tw6493125057855691959 : True := trivial
theorem Mine.Q.hd.tw17832818088396936778 : True := trivial
theorem Mine.Q.hd.tw1545872781624098830 : True := trivial
theorem Mine.Q.hd.tw1656839508727902228 : True := trivial
theorem Mine.Q.hd.tw154036583502702755 : True := trivial
theorem Mine.Q.hd.tw6642713172711149085 : True := trivial
theorem Mine.Q.hd.tw16791819922884066807 : True := trivial
theorem Mine.Q.hd.tw6159704389196509282 : True := trivial
theorem Mine.Q.hd.tw9267355493269389291 : True := trivial
theorem Mine.Q.hd.tw14941455537910568331 : True := trivial
theorem Mine.Q.hd.tw9720408855512937728 : True := trivial
theorem Mine.Q.hd.tw11660135444323827354 : True := trivial
theorem Mine.Q.hd.tw9116322315796601023 : True := trivial
theorem Mine.Q.hd.tw3268539618620549676 : True := trivial
theorem Mine.Q.hd.tw9900907135903890152 : True := trivial
theorem Mine.Q.hd.tw12212673173653003000 : True := trivial
theorem Mine.Q.hd.tw3510210144806492259 : True := trivial
theorem Mine.Q.hd.tw8188775512771277488 : True := trivial
theorem Mine.Q.hd.tw5922587478115133409 : True := trivial
theorem Mine.Q.hd.tw4465358990180542299 : True := trivial
theorem Mine.Q.hd.tw9776799858947328789 : True := trivial
theorem Mine.Q.hd.tw8239885145174531634 : True := trivial
theorem Mine.Q.hd.tw16768373498126294101 : True := trivial
theorem Mine.Q.hd.tw4082077966979429888 : True := trivial
theorem Mine.Q.hd.tw11483149856934329680 : True := trivial
theorem Mine.Q.hd.tw1022923430508496914 : True := trivial
theorem Mine.Q.hd.tw11556124621525369366 : True := trivial
theorem Mine.Q.hd.tw4164244853374747118 : True := trivial
theorem Mine.Q.hd.tw4011885445829214056 : True := trivial
theorem Mine.Q.hd.tw18132297994068338938 : True := trivial
theorem Mine.Q.hd.tw18202274461112879184 : True := trivial
theorem Mine.Q.hd.tw5790174495316967436 : True := trivial
theorem Mine.Q.hd.tw11017549874465612638 : True := trivial
theorem Mine.Q.hd.tw16615711966373345316 : True := trivial
theorem Mine.Q.hd.tw15528330068777790305 : True := trivial
theorem Mine.Q.hd.tw13224896276315786096 : True := trivial
theorem Mine.Q.hd.tw1456918054451538628 : True := trivial
theorem Mine.Q.hd.tw11349432098418898729 : True := trivial
theorem Mine.Q.hd.tw7070539425991983249 : True := trivial
theorem Mine.Q.hd.tw16055410596858236496 : True := trivial
theorem Mine.Q.hd.tw3793528668408378878 : True := trivial
theorem Mine.Q.hd.tw4940200048509078448 : True := trivial
theorem Mine.Q.hd.tw1399368510119470399 : True := trivial
theorem Mine.Q.hd.tw3055833750195313067 : True := trivial
theorem Mine.Q.hd.tw3325509586503563081 : True := trivial
theorem Mine.Q.hd.tw12213835358161523966 : True := trivial
theorem Mine.Q.hd.tw1512061087143430034 : True := trivial
theorem Mine.Q.hd.tw2691362162693984125 : True := trivial
theorem Mine.Q.hd : PySem.Challenge.rw_rh0094_01.Holds := by
  w_on; o_law; k_head
  case hw => w_witness2
  exact Mine.L1.close (hh := ⟨_, ⟨fun _ => by kernel_rfl, fun _ => by kernel_rfl, fun _ => by kernel_rfl, fun _ _ _ _ => by kernel_rfl, fun _ _ _ _ => by kernel_rfl, fun _ _ _ _ => by kernel_rfl, fun _ _ _ _ => ⟨by kernel_rfl, by kernel_rfl⟩, fun _ _ _ _ => ⟨by kernel_rfl, by kernel_rfl⟩, fun _ _ _ _ => ⟨by kernel_rfl, by kernel_rfl⟩, fun _ _ _ _ => ⟨by kernel_rfl, by kernel_rfl⟩, fun _ _ _ _ => ⟨by kernel_rfl, by kernel_rfl⟩, fun _ _ _ _ => ⟨by kernel_rfl, by kernel_rfl⟩, fun _ _ _ _ => ⟨by kernel_rfl, by kernel_rfl⟩, fun _ _ _ _ => ⟨by kernel_rfl, by kernel_rfl⟩, fun _ _ _ _ => ⟨by kernel_rfl, by kernel_rfl⟩, fun _ _ _ _ => ⟨by kernel_rfl, by kernel_rfl⟩, fun _ _ _ _ => ⟨by kernel_rfl, by kernel_rfl⟩, fun _ _ _ _ => ⟨by kernel_rfl, by kernel_rfl⟩, fun _ _ _ _ => ⟨by kernel_rfl, by kernel_rfl⟩, fun _ _ _ _ => ⟨by kernel_rfl, by kernel_rfl⟩, fun _ _ _ _ => ⟨by kernel_rfl, by kernel_rfl⟩, fun _ _ _ _ => ⟨by kernel_rfl, by kernel_rfl⟩, fun _ _ _ _ => ⟨by kernel_rfl, by kernel_rfl⟩, fun _ _ _ _ => ⟨by kernel_rfl, by kernel_rfl⟩, fun _ _ _ _ => ⟨by kernel_rfl, by kernel_rfl⟩, fun _ _ _ _ => ⟨by kernel_rfl, by kernel_rfl⟩, fun _ _ _ _ => ⟨by kernel_rfl, by kernel_rfl⟩, fun _ _ _ _ => ⟨by kernel_rfl, by kernel_rfl⟩, fun _ _ _ _ => ⟨by kernel_rfl, by kernel_rfl⟩, fun _ _ _ _ => ⟨by kernel_rfl, by kernel_rfl⟩, fun _ _ _ _ => ⟨by kernel_rfl, by kernel_rfl⟩, fun _ _ _ _ => ⟨by kernel_rfl, by kernel_rfl⟩, fun _ _ _ _ => ⟨by kernel_rfl, by kernel_rfl⟩⟩⟩) (by kernel_rfl) rfl
set_option Elab.async false
theorem PySem.Challenge.cw_rh0094_01_holds : PySem.Challenge.rw_rh0094_01.Holds := by
  exact Mine.Q.hd

import PyProof.Rows.All
import Wide.All
import OpenK.AllK
import Wide.FinOn
import HandS.Base
import HandS.Call
import HandS.List
import HandS.Comp
import HandS.Ends
import HandS.Dict
import HandS.Iter
import HandS.Text
import HandS.More
import HandS.Codes
import PyProof.TwoTypes
import KE.KOpsOwn
import PyProof.InstEq
import PyProof.StrReplace2
import HandS.ForMost
import HandS.Wide
import HandS.IsInst
import HandS.Flow
import HandS.Style
import HandS.Zip
import HandS.Property
import HandS.Defaults
import HandS.ClsMeth
import HandS.Conv
import HandS.WideBits
import HandS.Star
import HandS.Head0
import HandS.Head1
import HandS.Head2
import HandS.HeadEnd
import HandS.HeadHook1
import HandS.HeadHook2
import HandS.MakeKwOnly
import PySem.Challenge.RW_leastworld_k02_ratios_reckoned
set_option Elab.async false
set_option linter.all false
set_option maxRecDepth 100000
set_option maxHeartbeats 0
/-! GX: own rules over the hand layer: static methods, operators of own classes, stores to a pair of attributes. -/
namespace GX
open PySem PySem.Spec PyProof.Rows L2

/-! ### int op own: the reflected method -/
section
open PySem.W PySem.Calls
variable {prog : Program} {w : World} {A : Around} {E : Value → Shared → Prop} {s : Shared} {K : Frag} {x C L f : Addr} {h₀ : Heap} {m : Str → Option Value} {ox : Obj} {od : Option Obj} {nm : String}
theorem fillsR {h : Heap} {cd : ClassData} {rest : List Value} {rf : Option Value} (X : K.In h) (hc : clsIn K C = some cd) (hm : cd.mro = .ref C :: rest) (h1 : findIn K (.ref C) (PySem.dunder nm) = some (some (.ref f))) :
    Looks (model prog w) h (fillsNumberSlot (.ref C) nm) true := fills_K X hc hm h1
/-- the left operand's own slot declines, the right one's reflected def answers -/
theorem bin_refl {T idl : String} {op : Operator} {a : Value} {B : Builtin} {f2 : Addr} {Q : Value → Shared → Prop} (F : Fr h₀ L s.heap m) (X₀ : K.In h₀) (I : InstAt s.heap x ox C od) (ha : typeOf a = pure (.type T)) (ht : ∀ s : Shared, s.TypeIs a T) (hc : selfFirst K C = true)
    (fillsT : fillsNumberSlot (.type T) op.info.2 = pure true) (slot : Slot T (PySem.dunder op.info.2) idl) (entry : entryFor table idl = some B) (args : argsOk idl ⟨[a, .ref x], []⟩)
    {P : Shared → Prop} (g : GivesAt P (B ⟨[a, .ref x], []⟩) (.val .notImplemented)) (hP : P s) (hsub : subIn K (.ref C) (.type T) = some false)
    (h1 : findIn K (.ref C) (PySem.dunder op.info.2) = some (some (.ref f2))) (hs : findIn K (.ref C) (dunderR op.info.2) = some (some (.ref f))) (hf : isFn K (.ref f) = true)
    (h : wpAny (model prog w) A (call (.ref f) [.ref x, a]) (PySem.W.CmpBack Q) E s) : wpAny (model prog w) A (binaryOp op a (.ref x)) Q E s := by
  have X := X₀.keeps F.keep
  obtain ⟨cd, rest, hcd, hm⟩ := ksp_first hc
  rcases hi : op.info with ⟨sym, nm'⟩
  rw [hi] at fillsT slot h1 hs
  dsimp only at fillsT slot h1 hs
  have one := ksp_try X I hs hf h
  have L1 : Looks (model prog w) s.heap (typeOf a) (.type T) := Looks.of_pure ha
  have L2 : Looks (model prog w) s.heap (typeOf (.ref x)) (.ref C) := I.type
  have L4 : Looks (model prog w) s.heap (fillsNumberSlot (.ref C) nm') true := fills_K X hcd hm h1
  have L5 : Looks (model prog w) s.heap (isSubtype (.ref C) (.type T)) false := looks_subIn X hsub
  have hne : (Value.type T == Value.ref C) = false := Bool.eq_false_iff.mpr fun q => by cases beq_iff_eq.mp q
  have hpy : numberSlotInPython (.type T) nm' = pure false := rfl
  simp only [binaryOp, hi]
  refine wpAny_holding (wpAny_bind ?_)
  unfold binaryOp1
  refine wpAny_bind (L1.here (wpAny_bind (L2.here (wpAny_bind (wpAny_of_eq fillsT ?_)))))
  simp only [hne, Bool.false_eq_true, if_false]
  refine wpAny_bind (L4.here ?_)
  simp only [Bool.and_self, if_true]
  refine wpAny_bind (L5.here ?_)
  simp only [Bool.false_eq_true, if_false, pure_bind, Bool.not_false, Bool.and_self, if_true, hpy]
  refine wpAny_bind (wpAny_tryMethod_declines (T := T) (s := s) (ht s) slot (call_givesAt slot (ht s) entry args g hP ⟨rfl, ?_⟩))
  refine wpAny_bind (wpAny_mono one (fun r s' hr' => ?_) fun _ _ e => e)
  obtain ⟨v, rfl, hq⟩ := hr'
  exact wpAny_bind (wpAny_rule (wpAny_pure (wpAny_pure hq)))
end
/-! ### x != y by an own __eq__: object.__ne__ asks it -/
section
open PySem.W PySem.Calls
variable {prog : Program} {w : World} {A : Around} {E : Value → Shared → Prop} {s : Shared} {K : Frag} {x C L f : Addr} {h₀ : Heap} {m : Str → Option Value} {ox : Obj} {od : Option Obj} {b tb : Value}
theorem ifBound_B {M : Model} {name : Str} {id : String} {args : List Value} {Q : Option Value → Shared → Prop} (X : K.In s.heap) (I : InstAt s.heap x ox C od) (hs : findIn K (.ref C) name = some (some (.builtin id)))
    (hbind : bindSpecial (.builtin id) (.ref x) = pure (.builtin id, [.ref x]))
    (h : wpAny M A (call (.builtin id) (.ref x :: args)) (fun v => Q (some v)) E s) : wpAny M A (callSpecialIfBound? (.ref x) name args) Q E s := by
  simp only [callSpecialIfBound?, bindSpecialIfBound?]
  refine wpAny_holding (wpAny_bind (wpAny_bind (wpAny_bind (I.type.here ((looks_findIn X hs).here ?_)))))
  simp only [hbind]
  refine wpAny_bind (wpAny_askSetting (wpAny_ite ?_))
  have fin : wpAny M A (call (.builtin id) ([.ref x] ++ args) >>= fun v => pure (some v)) Q E s := wpAny_bind (wpAny_mono h (fun v s' h' => wpAny_pure h') fun _ _ h' => h')
  split
  · exact wpAny_bind (wpAny_pure (wpAny_pure fin))
  · exact wpAny_tryCatch (wpAny_bind (wpAny_pure (wpAny_pure fin)))
/-- object.__ne__ of an instance whose own __eq__ answers a bool -/
theorem call_ne {Q : Value → Shared → Prop} (hu : A.units + 1 < cLine) (X : K.In s.heap) (I : InstAt s.heap x ox C od) (hm : mroIn K C (.type "object") = some true) (hs : findIn K (.ref C) "__eq__" = some (some (.ref f))) (hf : isFn K (.ref f) = true)
    (h : wpAny (model prog w) A.in1 (call (.ref f) [.ref x, b]) (fun v s' => ∃ k, v = .bool k ∧ Q (.bool (!k)) s') E s) : wpAny (model prog w) A (call (.builtin "object.__ne__") [.ref x, b]) Q E s := by
  have hI : Looks (model prog w) s.heap (isInstance (.ref x) (.type "object")) true := I.type.andThen (looks_mroIn X hm)
  refine wpAny_call (codeAny_call_builtin F.cmp_object.ne.plain F.cmpEntry_ne ?_)
  refine check_slot (i := "object.__ne__") (owner := "object") (n := "__ne__") (self := .ref x) (rest := [b]) (kw := []) F.cmpKind_ne F.cmpSplit_ne hI (F.cmpArgs_ne _ _) ?_
  unfold Builtin.«object.__ne__»
  have one : wpAny (model prog w) A.in1 (callSpecialIfBound? (.ref x) "__eq__" [b]) (fun r s' => ∃ k, r = some (.bool k) ∧ Q (.bool (!k)) s') E s :=
    ifBound_K X I hs hf (wpAny_mono h (fun v s' ⟨k, e, q⟩ => ⟨k, by rw [e], q⟩) fun _ _ z => z)
  repeat (first | (with_reducible refine wpAny_cRoomFor hu ?_) | (with_reducible refine wpAny_mono one (fun r s' hr => ?_) fun _ _ z => z) | wp_step)
  obtain ⟨k, rfl, q⟩ := hr
  show wpAny _ _ (truthy (.bool k) >>= fun r => ret (Value.bool !r)) _ _ _
  exact wpAny_bind (wpAny_truthy_bool (wpAny_pure q))
/-- x != y, y of another class or the same -/
theorem ne_K {Q : Value → Shared → Prop} (hu : A.units + 1 < cLine) (X : K.In s.heap) (I : InstAt s.heap x ox C od) (hb : Looks (model prog w) s.heap (typeOf b) tb) (hn : notFirst K C tb = true)
    (hm : mroIn K C (.type "object") = some true) (hne : findIn K (.ref C) "__ne__" = some (some (.builtin "object.__ne__")))
    (hs : findIn K (.ref C) "__eq__" = some (some (.ref f))) (hf : isFn K (.ref f) = true)
    (h : wpAny (model prog w) A.in1 (call (.ref f) [.ref x, b]) (fun v s' => ∃ k, v = .bool k ∧ Q (.bool (!k)) s') E s) : wpAny (model prog w) A (richCompare .NotEq (.ref x) b) Q E s := by
  have hu0 : A.units < cLine := by omega
  have one : wpAny (model prog w) A (tryCompare (.ref x) (cmpInfo .NotEq).2.1 b) (fun r s' => ∃ v, r = some v ∧ Q v s') E s := by
    unfold tryCompare
    refine wpAny_bind (ifBound_B X I hne (F.cmp_object.ne.bind _) (call_ne hu X I hm hs hf (wpAny_mono h (fun v s' hv => ?_) fun _ _ e => e)))
    obtain ⟨k, e, q⟩ := hv
    exact ⟨k, e, wpAny_pure ⟨_, rfl, q⟩⟩
  unfold richCompare
  simp only [oneThing_ref]
  refine wpAny_holding (wpAny_bind (wpAny_cRoomFor hu0 ?_))
  refine wpAny_bind (I.type.here (wpAny_bind (hb.here ?_)))
  split
  · rename_i q
    have e : subIn K tb (.ref C) = some false := by
      rcases Bool.or_eq_true_iff.mp hn with e | e
      · rw [beq_iff_eq.mp e] at q; simp at q
      · exact beq_iff_eq.mp e
    refine wpAny_bind ((looks_subIn X e).here ?_)
    simp only [Bool.false_eq_true, if_false]
    refine wpAny_bind (wpAny_mono one (fun r s' z => ?_) fun _ _ e => e)
    obtain ⟨v, rfl, hq⟩ := z
    exact wpAny_pure hq
  · refine wpAny_bind (wpAny_pure ?_)
    simp only [Bool.false_eq_true, if_false]
    refine wpAny_bind (wpAny_mono one (fun r s' z => ?_) fun _ _ e => e)
    obtain ⟨v, rfl, hq⟩ := z
    exact wpAny_pure hq
end

/-! ### the type of a value -/
inductive Tp (K : PySem.W.Frag) (H : Hp) : V → Value → Prop where
  | non : Tp K H .non (.type "NoneType")
  | bl (b : Bool) : Tp K H (.bl b) (.type "bool")
  | int (i : Int) : Tp K H (.int i) (.type "int")
  | str (z : Str) : Tp K H (.str z) (.type "str")
  | lst {a : Addr} {xs : List V} (h : SqL K H a xs) : Tp K H (.ref a) (.type "list")
  | tup {a : Addr} {xs : List V} (h : SqT K H a xs) : Tp K H (.ref a) (.type "tuple")
  | dK {a : Addr} {kvs : List (Key × V)} (h : H a = some (.dK kvs)) : Tp K H (.ref a) (.type "dict")
  | ins {a C dx : Addr} {fs : List (Str × V)} (h : H a = some (.ins C dx fs)) : Tp K H (.ref a) (.ref C)
section
variable {X : Cx} {pins : List (Addr × Obj)} {σ : L2.St} {H : Hp} {s : Shared}
theorem looks_cls {M : Model} {h : Heap} {a : Addr} {o : Obj} {c : Value} (e : h.get? a = some o) (hc : o.cls = c) : PySem.W.Looks M h (typeOf (.ref a)) c := hc ▸ (PySem.W.Looks.ld e).andThen .now
theorem Tp.looks {M : Model} {x : V} {u t : Value} (I : Inv X pins σ H s) (r : RelV x u) (ty : Tp X.K H x t) : PySem.W.Looks M s.heap (typeOf u) t := by
  cases ty with
  | non => cases (show u = Value.none from r); exact .of_pure rfl
  | bl b => cases (show u = Value.bool b from r); exact .of_pure rfl
  | int i => obtain ⟨t, q⟩ := (show ∃ t, u = Value.int i t from r); cases q; exact .of_pure rfl
  | str z => obtain ⟨t, q⟩ := (show ∃ t, u = Value.str z t from r); cases q; exact .of_pure rfl
  | @lst a xs h =>
    cases (show u = Value.ref a from r)
    obtain ⟨its, _, ⟨o, n, e, c, _⟩, _⟩ := I.list h
    exact looks_cls e c
  | @tup a xs h =>
    cases (show u = Value.ref a from r)
    obtain ⟨its, _, ⟨o, e, c, _⟩, _⟩ := I.tuple h
    exact looks_cls e c
  | @dK a kvs h =>
    cases (show u = Value.ref a from r)
    obtain ⟨_, _, vs, _, o, es, ep, h1, h2, _⟩ := (show ObjOk X.prog X.w H s.heap a (.dK kvs) from I.hok a _ h)
    exact looks_cls h1 h2.1
  | @ins a C dx fs h =>
    cases (show u = Value.ref a from r)
    obtain ⟨mA, O, _⟩ := ins_get I.hok h
    obtain ⟨od, J, _⟩ := O.look
    exact J.type
end

/-! ### the call of a def at a place, as an operator's -/
section
variable {X : Cx} {CX : CXT} {k : Nat} {f : Addr} {sp : Sp} {E : XK} {pins : List (Addr × Obj)} {σ : L2.St} {H : Hp} {s : Shared}
theorem back_of {Q : VK} {u : Value} {s' : Shared} (h : EP X pins σ Q u s') : PySem.W.CmpBack (EP X pins σ Q) u s' := by
  obtain ⟨v, H', I, r, q⟩ := id h
  cases v with
  | non => cases (show u = Value.none from r); exact h
  | bl b => cases (show u = Value.bool b from r); exact h
  | int i => obtain ⟨t, e⟩ := (show ∃ t, u = Value.int i t from r); cases e; exact h
  | str z => obtain ⟨t, e⟩ := (show ∃ t, u = Value.str z t from r); cases e; exact h
  | byt z => obtain ⟨t, e⟩ := (show ∃ t, u = Value.bytes z t from r); cases e; exact h
  | flt z => obtain ⟨t, e⟩ := (show ∃ t, u = Value.float z t from r); cases e; exact h
  | ref a => cases (show u = Value.ref a from r); exact h
  | ty n => cases (show u = Value.type n from r); exact h
theorem run_at {A : Around} {us : List Value} {vs : List V} {Q : VK} (F : FnR X.prog X.w X.K X.mg X.base CX k f sp) (hr : Room k A) (he : Env0 X.prog X.w X.K X.mg X.base A X.stack s H) (hx : Passes CX X E) (I : Inv X pins σ H s) (r : Vals vs us) (h : sp vs H Q E) :
    wpAny (model X.prog X.w) A (call (.ref f) us) (EP X pins σ Q) X.xe s := by
  refine wpAny_call (codeAny_mono (F A X.stack s H us vs Q E hr he r h) fun r s' hq => ?_)
  cases r with
  | error e => exact hx pins σ H s e s' I hq
  | ok fl =>
    cases fl with
    | ret u => exact I.after hq
    | next => exact False.elim hq
    | brk => exact False.elim hq
    | cont => exact False.elim hq
end

/-! ### the operators of an own class -/
/-- a def of the class at C for an operator; the reflected one, if any, is a def -/
structure OpOf (K : PySem.W.Frag) (C : Addr) (nm : String) (f : Addr) : Prop where
  sf : PySem.W.selfFirst K C = true
  at_ : PySem.W.findIn K (.ref C) (PySem.dunder nm) = some (some (.ref f))
  fn : PySem.W.isFn K (.ref f) = true
  rc : PySem.W.findIn K (.ref C) (dunderR nm) = some none ∨ ∃ g : Addr, PySem.W.findIn K (.ref C) (dunderR nm) = some (some (.ref g))
  i1 : ∃ fo, PySem.W.findIn K (.type "int") (PySem.dunder nm) = some fo
  i2 : ∃ ro, PySem.W.findIn K (.type "int") (dunderR nm) = some ro
  si : PySem.W.subIn K (.type "int") (.ref C) = some false
/-- the reflected def of the class at C -/
structure OpRf (K : PySem.W.Frag) (C : Addr) (nm : String) (f : Addr) : Prop where
  sf : PySem.W.selfFirst K C = true
  at_ : ∃ g : Addr, PySem.W.findIn K (.ref C) (PySem.dunder nm) = some (some (.ref g))
  rf : PySem.W.findIn K (.ref C) (dunderR nm) = some (some (.ref f))
  fn : PySem.W.isFn K (.ref f) = true
  si : PySem.W.subIn K (.ref C) (.type "int") = some false
def rOwn (C : Addr) (sp : Sp) (E : XK) : R2 := fun x y H Q => ∃ a dx fs, x = .ref a ∧ H a = some (.ins C dx fs) ∧ ((∃ b dy gs, y = .ref b ∧ H b = some (.ins C dy gs)) ∨ ∃ i, y = .int i) ∧ sp [x, y] H Q E
def rRef (C : Addr) (sp : Sp) (E : XK) : R2 := fun x y H Q => ∃ i a dx fs, x = .int i ∧ y = .ref a ∧ H a = some (.ins C dx fs) ∧ sp [y, x] H Q E
section
variable {X : Cx} {CX : CXT} {k : Nat} {C f : Addr} {sp : Sp} {E : XK} {op : Operator}
theorem op_own (o : OpOf X.K C op.info.2 f) (F : FnR X.prog X.w X.K X.mg X.base CX k f sp) (hr : Room k X.A) (hx : Passes CX X E) : OpR X (binaryOp op) (rOwn C sp E) := by
  intro pins s σ H x y u v Q I rx ry h
  obtain ⟨a, dx, fs, rfl, ha, hy, q⟩ := h
  cases (show u = Value.ref a from rx)
  obtain ⟨mA, J, _⟩ := ins_get I.hok ha
  obtain ⟨od, J, _⟩ := J.look
  obtain ⟨m, hF⟩ := I.fr
  have go : wpAny (model X.prog X.w) X.A (call (.ref f) [.ref a, v]) (PySem.W.CmpBack (EP X pins σ Q)) X.xe s :=
    wpAny_mono (run_at (us := [.ref a, v]) (vs := [.ref a, y]) F hr I.env0 hx I (.cons rfl (.cons ry .nil)) q) (fun _ _ z => back_of z) fun _ _ z => z
  rcases hy with ⟨b, dy, gs, rfl, hb⟩ | ⟨i, rfl⟩
  · cases (show v = Value.ref b from ry)
    obtain ⟨mB, J', _⟩ := ins_get I.hok hb
    obtain ⟨od', J', _⟩ := J'.look
    exact PySem.W.binop_K hF I.ok.mod.kin J J'.type o.sf o.at_ o.fn go
  · obtain ⟨t, e⟩ := (show ∃ t, v = Value.int i t from ry)
    cases e
    obtain ⟨fo, h1⟩ := o.i1
    obtain ⟨ro, h2⟩ := o.i2
    have h3 : ∃ rc, PySem.W.findIn X.K (.ref C) (dunderR op.info.2) = some rc ∧ (rc = none ∨ ∃ g : Addr, rc = some (.ref g)) := by
      rcases o.rc with h | ⟨g, h⟩
      · exact ⟨none, h, .inl rfl⟩
      · exact ⟨_, h, .inr ⟨g, rfl⟩⟩
    obtain ⟨rc, h3, h4⟩ := h3
    exact PySem.W.ksp_binT (T := "int") hF I.ok.mod.kin J rfl o.sf o.at_ o.fn h3 h4 h1 h2 o.si go
theorem op_ref {idl : String} {B : Builtin} (o : OpRf X.K C op.info.2 f) (F : FnR X.prog X.w X.K X.mg X.base CX k f sp) (hr : Room k X.A) (hx : Passes CX X E)
    (fillsT : fillsNumberSlot (.type "int") op.info.2 = pure true) (slot : Slot "int" (PySem.dunder op.info.2) idl) (entry : entryFor table idl = some B) (args : ∀ a b, argsOk idl ⟨[a, b], []⟩)
    (g : ∀ (i : Int) (t : Tok) (a C dx : Addr), GivesAt (fun s => s.heap.get? a = some (PySem.W.instObj C dx)) (B ⟨[.int i t, .ref a], []⟩) (.val .notImplemented)) : OpR X (binaryOp op) (rRef C sp E) := by
  intro pins s σ H x y u v Q I rx ry h
  obtain ⟨i, a, dx, fs, rfl, rfl, ha, q⟩ := h
  cases (show v = Value.ref a from ry)
  obtain ⟨t, e⟩ := (show ∃ t, u = Value.int i t from rx)
  cases e
  obtain ⟨_, _, _, hob, _⟩ := (show ObjOk X.prog X.w H s.heap a (.ins C dx fs) from I.hok a _ ha)
  obtain ⟨mA, J, _⟩ := ins_get I.hok ha
  obtain ⟨od, J, _⟩ := J.look
  obtain ⟨m, hF⟩ := I.fr
  obtain ⟨f2, h1⟩ := o.at_
  have go : wpAny (model X.prog X.w) X.A (call (.ref f) [.ref a, .int i t]) (PySem.W.CmpBack (EP X pins σ Q)) X.xe s :=
    wpAny_mono (run_at (us := [.ref a, .int i t]) (vs := [.ref a, .int i]) F hr I.env0 hx I (.cons rfl (.cons ⟨t, rfl⟩ .nil)) q) (fun _ _ z => back_of z) fun _ _ z => z
  exact bin_refl (T := "int") hF I.ok.mod.kin J rfl (fun s => typeIs_int s i t) o.sf fillsT slot entry (args _ _) (g i t a C dx) hob o.si h1 o.rf o.fn go
theorem gives_add (i : Int) (t : Tok) (a C dx : Addr) : GivesAt (fun s => s.heap.get? a = some (PySem.W.instObj C dx)) (Builtin.«int.__add__» ⟨[.int i t, .ref a], []⟩) (.val .notImplemented) := by
  intro prog w A R s hP hq
  obtain ⟨hp, g, d, tk, os⟩ := s
  have ho : hp.get? a = some (PySem.W.instObj C dx) := hP
  wp_walk
  exact hq
theorem gives_sub (i : Int) (t : Tok) (a C dx : Addr) : GivesAt (fun s => s.heap.get? a = some (PySem.W.instObj C dx)) (Builtin.«int.__sub__» ⟨[.int i t, .ref a], []⟩) (.val .notImplemented) := by
  intro prog w A R s hP hq
  obtain ⟨hp, g, d, tk, os⟩ := s
  have ho : hp.get? a = some (PySem.W.instObj C dx) := hP
  wp_walk
  exact hq
theorem gives_mul (i : Int) (t : Tok) (a C dx : Addr) : GivesAt (fun s => s.heap.get? a = some (PySem.W.instObj C dx)) (Builtin.«int.__mul__» ⟨[.int i t, .ref a], []⟩) (.val .notImplemented) := by
  intro prog w A R s hP hq
  obtain ⟨hp, g, d, tk, os⟩ := s
  have ho : hp.get? a = some (PySem.W.instObj C dx) := hP
  wp_walk
  exact hq
theorem op_radd (o : OpRf X.K C "add" f) (F : FnR X.prog X.w X.K X.mg X.base CX k f sp) (hr : Room k X.A) (hx : Passes CX X E) : OpR X (binaryOp .Add) (rRef C sp E) :=
  op_ref (op := .Add) o F hr hx PySem.F.fills_int_add PySem.F.slot_int_add PySem.F.entry_int_add (fun a b => PySem.F.args_int_add_2 a b) gives_add
theorem op_rsub (o : OpRf X.K C "sub" f) (F : FnR X.prog X.w X.K X.mg X.base CX k f sp) (hr : Room k X.A) (hx : Passes CX X E) : OpR X (binaryOp .Sub) (rRef C sp E) :=
  op_ref (op := .Sub) o F hr hx PySem.F.fills_int_sub PySem.F.slot_int_sub PySem.F.entry_int_sub (fun a b => PySem.F.args_int_sub_2 a b) gives_sub
theorem op_rmul (o : OpRf X.K C "mul" f) (F : FnR X.prog X.w X.K X.mg X.base CX k f sp) (hr : Room k X.A) (hx : Passes CX X E) : OpR X (binaryOp .Mult) (rRef C sp E) :=
  op_ref (op := .Mult) o F hr hx PySem.F.fills_int_mul PySem.F.slot_int_mul PySem.F.entry_int_mul (fun a b => PySem.F.args_int_mul_2 a b) gives_mul
end
end GX

namespace GX
open PySem PySem.Spec PyProof.Rows L2

/-! ### a static method, read off its class and called -/
structure SMet (K : PySem.W.Frag) (C : Addr) (mc : Value) (m : Str) (p g : Addr) : Prop where
  at_ : PySem.W.findCls K (.ref C) mc m = some (.get (.builtin "staticmethod.__get__") (.ref p) .none (.ref C))
  rc : ∃ rest, PySem.W.recIn K p "staticmethod" = some (.ref g :: rest)
  kp : PySem.W.keepIn K (.ref g) = true
section
variable {X : Cx} {pins : List (Addr × Obj)} {σ : L2.St} {H : Hp} {s : Shared} {C p g : Addr} {mc : Value} {m : Str} {A : Around} {E : Value → Shared → Prop}
theorem getsm_ok {pl : Sem Bool} {Q : Value × List Value → Shared → Prop} (I : Inv X pins σ H s) (r : ClX.CRead X.K C mc) (k : SMet X.K C mc m p g) (h : ∀ s', Inv X pins σ H s' → Q (.ref g, []) s') :
    wpAny (model X.prog X.w) A (getMethod (.ref C) m pl) Q E s := by
  obtain ⟨rest, hp⟩ := k.rc
  refine PySem.W.method_cls I.kIn r.ga ?_
  refine PySem.W.cls_bind I.kIn r.rd k.at_ ?_
  refine wpAny_call (PySem.W.sm_get (s := { s with toks := s.toks + 1 }) I.kIn hp (PySem.W.handed_on rfl ?_))
  exact h _ (I.tok _)
end
/-- e.m(..), e the class at C, m a static method -/
def tStat (C : Addr) (sp : Sp) (E : XK) (ta : TE) (t : TA) : TE := fun σ H Q => ta σ H fun x H1 => x = .ref C ∧ t σ H1 fun vs H2 => sp vs H2 Q E
section
variable {X : Cx} {CX : CXT} {k j : Nat} {C p g : Addr} {mc : Value} {sp : Sp} {E : XK} {o e : Expr} {es : List Expr} {f m : Str} {pos apos : Pos} {ta : TE} {t : TA} {pl : Sem Bool}
theorem pe_stat (he : PE X o ta) (r : ClX.CRead X.K C mc) (c : SMet X.K C mc m p g) (F : FnR X.prog X.w X.K X.mg X.base CX k g sp) (hr : Room k X.A) (hx : Passes CX X E) (ha : PA X (e :: es) t)
    (hst : starEach (e :: es) X.env = (false, eval e X.env) :: starEach es X.env := by rfl) (hpl : (backTo pos (starEach es X.env)).any (·.1) = false := by rfl)
    (ht : eval (.Call (.Attribute o m apos) (e :: es) [] pos) X.env = (do
      let ov ← eval o X.env
      standAt apos.atName
      let (f, first) ← holding [ov] (getMethod ov m pl)
      callWith pos f first (backTo pos (starEach (e :: es) X.env)) (backToKw pos (keywordEach [] X.env))) := by rfl) :
    PE X (.Call (.Attribute o m apos) (e :: es) [] pos) (tStat C sp E ta t) := by
  refine ⟨fun pins s σ H Q I h => ?_⟩
  refine PySem.W.methodCall_KW (pl := pl) (thn (he.run pins s σ H _ I h) fun u s1 ⟨x, H1, I1, rx, ex, q⟩ => ?_) ht
  subst ex
  obtain rfl : u = Value.ref C := rx
  refine getsm_ok I1 r c fun s2 I2 => ?_
  refine PySem.W.callWith_K (first := []) (h₀ := X.base) I.ok.mod.kin c.kp (thn (ha.run pos pins s2 σ H1 _ I2 q) fun us s3 ⟨vs, H2, I3, rv, q2⟩ => ⟨I3.kIn, ?_⟩) hst hpl
  exact run_at F hr I3.env0 hx I3 rv q2
end

/-! ### -x, x == y, x != y, bool by own methods -/
def rNegO (C : Addr) (sp : Sp) (E : XK) : V → Hp → VK → Prop := fun x H Q => ∃ a dx fs, x = .ref a ∧ H a = some (.ins C dx fs) ∧ sp [x] H Q E
def rEqO (K : PySem.W.Frag) (C : Addr) (sp : Sp) (E : XK) : R2 := fun x y H Q => ∃ a dx fs t, x = .ref a ∧ H a = some (.ins C dx fs) ∧ Tp K H y t ∧ PySem.W.notFirst K C t = true ∧ sp [x, y] H Q E
def rNeO (K : PySem.W.Frag) (C : Addr) (sp : Sp) (E : XK) : R2 := fun x y H Q => ∃ a dx fs t, x = .ref a ∧ H a = some (.ins C dx fs) ∧ Tp K H y t ∧ PySem.W.notFirst K C t = true ∧ sp [x, y] H (fun v H' => ∃ k, v = .bl k ∧ Q (.bl (!k)) H') E
structure UnOf (K : PySem.W.Frag) (C : Addr) (m : Str) (f : Addr) : Prop where
  at_ : PySem.W.findIn K (.ref C) m = some (some (.ref f))
  fn : PySem.W.isFn K (.ref f) = true
structure NeOf (K : PySem.W.Frag) (C : Addr) : Prop where
  mo : PySem.W.mroIn K C (.type "object") = some true
  ne : PySem.W.findIn K (.ref C) "__ne__" = some (some (.builtin "object.__ne__"))
section
variable {X : Cx} {CX : CXT} {k : Nat} {C f : Addr} {sp : Sp} {E : XK}
theorem un_negO (o : UnOf X.K C "__neg__" f) (F : FnR X.prog X.w X.K X.mg X.base CX k f sp) (hr : Room k X.A) (hx : Passes CX X E) : UnR X (unaryOp .USub) (rNegO C sp E) := by
  intro pins s σ H x u Q I rx h
  obtain ⟨a, dx, fs, rfl, ha, q⟩ := h
  cases (show u = Value.ref a from rx)
  obtain ⟨mA, J, _⟩ := ins_get I.hok ha
  obtain ⟨od, J, _⟩ := J.look
  obtain ⟨m, hF⟩ := I.fr
  exact PySem.W.ksp_neg hF I.ok.mod.kin J o.at_ o.fn (run_at (us := [.ref a]) (vs := [.ref a]) F hr I.env0 hx I (.cons rfl .nil) q)
theorem op_eqO (o : UnOf X.K C "__eq__" f) (F : FnR X.prog X.w X.K X.mg X.base CX k f sp) (hr : Room k X.A) (hx : Passes CX X E) : OpR X (compareOp .Eq) (rEqO X.K C sp E) := by
  intro pins s σ H x y u v Q I rx ry h
  obtain ⟨a, dx, fs, t, rfl, ha, ty, nf, q⟩ := h
  cases (show u = Value.ref a from rx)
  obtain ⟨mA, J, _⟩ := ins_get I.hok ha
  obtain ⟨od, J, _⟩ := J.look
  obtain ⟨m, hF⟩ := I.fr
  show wpAny (model X.prog X.w) X.A (richCompare .Eq (.ref a) v) (EP X pins σ Q) X.xe s
  refine PySem.W.cmp_K (op := .Eq) hr.units0 hF I.ok.mod.kin J (ty.looks I ry) nf o.at_ o.fn ?_
  exact wpAny_mono (run_at (us := [.ref a, v]) (vs := [.ref a, y]) F hr I.env0 hx I (.cons rfl (.cons ry .nil)) q) (fun _ _ z => back_of z) fun _ _ z => z
theorem op_neO (o : UnOf X.K C "__eq__" f) (n : NeOf X.K C) (F : FnR X.prog X.w X.K X.mg X.base CX k f sp) (hr : Room (k + 1) X.A) (hx : Passes CX X E) : OpR X (compareOp .NotEq) (rNeO X.K C sp E) := by
  intro pins s σ H x y u v Q I rx ry h
  obtain ⟨a, dx, fs, t, rfl, ha, ty, nf, q⟩ := h
  cases (show u = Value.ref a from rx)
  obtain ⟨mA, J, _⟩ := ins_get I.hok ha
  obtain ⟨od, J, _⟩ := J.look
  show wpAny (model X.prog X.w) X.A (richCompare .NotEq (.ref a) v) (EP X pins σ Q) X.xe s
  have hu : X.A.units + 1 < cLine := by
    have := hr.units
    omega
  refine ne_K hu I.kIn J (ty.looks I ry) nf n.mo n.ne o.at_ o.fn ?_
  refine wpAny_mono (run_at (us := [.ref a, v]) (vs := [.ref a, y]) F hr.in1 I.env0.in1 hx I (.cons rfl (.cons ry .nil)) q) (fun w' s' z => ?_) fun _ _ z => z
  obtain ⟨z, H', I', rz, k', ez, q'⟩ := z
  subst ez
  cases (show w' = Value.bool k' from rz)
  exact ⟨k', rfl, .bl (!k'), H', I', rfl, q'⟩
end

/-! ### o.f as a target -/
def gFld (K : PySem.W.Frag) (to : TE) (f : Str) : TG := fun v σ H Q => to σ H fun x H1 => ∃ a C dx fs, x = .ref a ∧ H1 a = some (.ins C dx fs) ∧ Cls K C ∧ NoAttr K C f ∧ fs.length < 1000 ∧ Q σ (upd H1 a (.ins C dx (putF f v fs)))
theorem pg_fld {X : Cx} {o : Expr} {f : Str} {pos : Pos} {to : TE} (ho : PE X o to) : PG X (.Attribute o f pos) (gFld X.K to f) := by
  refine ⟨fun pins s σ H v u Q I r h => ?_⟩
  rw [PySem.assign_Attribute]
  refine wpAny_bind (wpAny_holding (thn (ho.run pins s σ H _ I h) fun ov s1 ⟨x, H1, I1, r1, a, C, dx, fs, ex, ea, c, n, l, q⟩ => ?_))
  subst ex
  obtain rfl : ov = Value.ref a := r1
  refine wpAny_bind (wpAny_standAt (wpAny_bind (wpAny_holding (setattr_ok I1 ea c n l r fun s3 I3 => ?_))))
  exact wpAny_release ⟨σ, _, I3, q⟩
end GX

/-! GX: readings, step by step. -/
namespace GX
open PySem PySem.Spec PyProof.Rows L2

/-! ### what is known, apart from the mutable ones -/
def Kn (Ms : List Addr) (H : Hp) (a : Addr) (o : HO) : Prop := a ∉ Ms ∧ H a = some o
structure Gw (Ms : List Addr) (H H' : Hp) : Prop where
  kp : ∀ a o, a ∉ Ms → H a = some o → H' a = some o
  al : ∀ m, m ∈ Ms → H m ≠ none → H' m ≠ none
def Al (Ms : List Addr) (H : Hp) : Prop := ∀ m, m ∈ Ms → H m ≠ none
section
variable {Ms : List Addr} {H H' H1 H2 : Hp} {a p : Addr} {o : HO} {K : PySem.W.Frag}
theorem Kn.mv (g : Gw Ms H H') (k : Kn Ms H a o) : Kn Ms H' a o := ⟨k.1, g.kp a o k.1 k.2⟩
theorem Al.mv (g : Gw Ms H H') (k : Al Ms H) : Al Ms H' := fun m h => g.al m h (k m h)
theorem Al.nil : Al [] H := fun m h => by cases h
theorem Kn.nil (h : H a = some o) : Kn [] H a o := ⟨by simp, h⟩
theorem some_ne {α : Type} {x : Option α} {o : α} (h : x = some o) : x ≠ none := by rw [h]; exact fun z => nomatch z
theorem gw_same (s : Same H H') : Gw Ms H H' := ⟨fun a o _ h => s a o h, fun m _ h => by
  cases q : H m with
  | none => exact absurd q h
  | some o => exact some_ne (s m o q)⟩
theorem Al.fresh (al : Al Ms H) (h : H p = none) : p ∉ Ms := fun z => al p z h
theorem Kn.new (al : Al Ms H) (hp : H p = none) (h : H' p = some o) : Kn Ms H' p o := ⟨al.fresh hp, h⟩
theorem Kn.at (k : Kn Ms H a o) : H a = some o := k.2
theorem same_new (h : H p = none) : Same H (upd H p o) := fun a u e => by
  rw [upd_ne (ne_of_none e h)]
  exact e
theorem Kn.sqL {xs : List V} (k : Kn Ms H a (.lst xs)) : SqL K H a xs := SqL.of k.2
theorem Kn.sqT {xs : List V} (k : Kn Ms H a (.tup xs)) : SqT K H a xs := SqT.of k.2
theorem same_seqT {xs : List V} (e : Same H H') (h : SqT K H a xs) : SqT K H' a xs := by
  rcases h with (h | ⟨o, h⟩) | h
  · exact .inl (.inl (e _ _ h))
  · exact .inl (.inr ⟨o, e _ _ h⟩)
  · exact .inr h
end
/-- new objects, in a word: what is fresh, what stands -/
theorem g_new {Ms : List Addr} {H : Hp} {o : HO} {Q : Addr → Hp → Prop} (al : Al Ms H) (q : ∀ p H', Same H H' → Gw Ms H H' → H p = none → Kn Ms H' p o → Q p H') : ∀ p, H p = none → Q p (upd H p o) :=
  fun p hp => q p _ (same_new hp) (gw_same (same_new hp)) hp (Kn.new al hp upd_same)

/-! ### bundles: a def by its name, a class, a method, no exception -/
theorem passA {X : Cx} {E : XK} : Passes CX0 X E := fun _ _ _ _ _ _ _ h => h.elim
section
variable (P : Program) (w : World) (K : PySem.W.Frag) (mg : Str → Option Value) (base : Heap)
def Gf (k : Nat) (x : Str) (sp : Sp) : Prop := ∃ f, FnR P w K mg base CX0 k f sp ∧ mg x = some (.ref f) ∧ PySem.W.keepIn K (.ref f) = true
def Gc (k : Nat) (x : Str) (C : Addr) (sp : Sp) : Prop := ∃ f, Mk K C f ∧ FnR P w K mg base CX0 k f sp ∧ mg x = some (.ref C)
def Gm (k : Nat) (C : Addr) (m : Str) (sp : Sp) : Prop := ∃ f, Cls K C ∧ Meth K C m f ∧ FnR P w K mg base CX0 k f sp
def Gs (k : Nat) (C : Addr) (m : Str) (sp : Sp) : Prop := ∃ mc p g, ClX.CRead K C mc ∧ SMet K C mc m p g ∧ FnR P w K mg base CX0 k g sp
def Gp (k : Nat) (C : Addr) (m : Str) (sp : Sp) : Prop := ∃ p g, Cls K C ∧ PropOf K C m p g ∧ FnR P w K mg base CX0 k g sp
def Go (k : Nat) (C : Addr) (nm : String) (sp : Sp) : Prop := ∃ f, OpOf K C nm f ∧ FnR P w K mg base CX0 k f sp
def Gr (k : Nat) (C : Addr) (nm : String) (sp : Sp) : Prop := ∃ f, OpRf K C nm f ∧ FnR P w K mg base CX0 k f sp
def Gu (k : Nat) (C : Addr) (m : Str) (sp : Sp) : Prop := ∃ f, UnOf K C m f ∧ FnR P w K mg base CX0 k f sp
end
/-- the reading of a call -/
def tCa (sp : Sp) (E : XK) (t : TA) : TE := fun σ H Q => t σ H fun vs H1 => sp vs H1 Q E
def tMe (C : Addr) (m : Str) (sp : Sp) (E : XK) (ta : TE) (t : TA) : TE := fun σ H Q => ta σ H fun x H1 => ∃ a dx fs, x = .ref a ∧ H1 a = some (.ins C dx fs) ∧ fs.lookup m = none ∧ t σ H1 fun vs H2 => sp (x :: vs) H2 Q E
def tMk (C : Addr) (sp : Sp) (E : XK) (t : TA) : TE := fun σ H Q => t σ H fun vs H1 => ∀ x dx, H1 x = none → H1 dx = none → dx ≠ x →
  sp (.ref x :: vs) (upd (upd H1 dx (.own x)) x (.ins C dx [])) (fun v H2 => v = .non ∧ Q (.ref x) H2) E
def tPr (C : Addr) (sp : Sp) (E : XK) (ta : TE) : TE := fun σ H Q => ta σ H fun x H1 => ∃ a dx fs, x = .ref a ∧ H1 a = some (.ins C dx fs) ∧ sp [.ref a] H1 Q E
section
variable {X : Cx} {k j : Nat} {C : Addr} {x m : Str} {sp : Sp} {E : XK} {p pos apos : Pos} {e o : Expr} {es : List Expr} {ta te : TE} {t : TA}
theorem pe_g (c : Gf X.prog X.w X.K X.mg X.base k x sp) (hr : Room j X.A) (ha : PA X (e :: es) t) (hk : k ≤ j := by decide) (hg : Gl X x := by rfl)
    (hdb : (x == ("__debug__" : Str)) = false := by decide) (he : starEach (e :: es) X.env = (false, eval e X.env) :: starEach es X.env := by rfl) (hpl : (backTo pos (starEach es X.env)).any (·.1) = false := by rfl) :
    PE X (.Call (.Name x p) (e :: es) [] pos) (tCa sp E0 t) := by
  obtain ⟨f, F, hm, kp⟩ := c
  refine ⟨fun pins s σ H Q I h => ?_⟩
  refine wpAny_Call_Name_kw (ld_glob I hg hm ?_ hdb)
  refine PySem.W.callWith_K (h₀ := X.base) I.ok.mod.kin kp (thn (ha.run pos pins s σ H _ I h) fun us s1 ⟨vs, H1, I1, r, q⟩ => ⟨I1.kIn, ?_⟩) he hpl
  exact run_at F (hr.mono hk) I1.env0 passA I1 r q
theorem pe_g0 (c : Gf X.prog X.w X.K X.mg X.base k x sp) (hr : Room j X.A) (hk : k ≤ j := by decide) (hg : Gl X x := by rfl)
    (hdb : (x == ("__debug__" : Str)) = false := by decide) : PE X (.Call (.Name x p) [] [] pos) (tCa sp E0 tNil) := by
  obtain ⟨f, F, hm, kp⟩ := c
  refine ⟨fun pins s σ H Q I h => ?_⟩
  refine wpAny_Call_Name_kw (ld_glob I hg hm ?_ hdb)
  exact PySem.W.callWith_K0 I.kIn kp (run_at (us := []) (vs := []) F (hr.mono hk) I.env0 passA I .nil h)
theorem pe_c1 (c : Gc X.prog X.w X.K X.mg X.base k x C sp) (hr : Room j X.A) (ha : PA X (e :: es) t) (hk : k + 1 ≤ j := by decide) (hg : Gl X x := by rfl)
    (hdb : (x == ("__debug__" : Str)) = false := by decide) (he : starEach (e :: es) X.env = (false, eval e X.env) :: starEach es X.env := by rfl) (hpl : (backTo pos (starEach es X.env)).any (·.1) = false := by rfl) :
    PE X (.Call (.Name x p) (e :: es) [] pos) (tMk C sp E0 t) := by
  obtain ⟨f, M, F, hm⟩ := c
  exact StX.pe_makeR M F (hr.mono hk) hg hm passA ha hdb he hpl
theorem pe_m (c : Gm X.prog X.w X.K X.mg X.base k C m sp) (hr : Room j X.A) (he : PE X o ta) (ha : PA X (e :: es) t) {pl : Sem Bool} (hk : k ≤ j := by decide)
    (hst : starEach (e :: es) X.env = (false, eval e X.env) :: starEach es X.env := by rfl) (hpl : (backTo pos (starEach es X.env)).any (·.1) = false := by rfl)
    (ht : eval (.Call (.Attribute o m apos) (e :: es) [] pos) X.env = (do
      let ov ← eval o X.env
      standAt apos.atName
      let (f, first) ← holding [ov] (getMethod ov m pl)
      callWith pos f first (backTo pos (starEach (e :: es) X.env)) (backToKw pos (keywordEach [] X.env))) := by rfl) :
    PE X (.Call (.Attribute o m apos) (e :: es) [] pos) (tMe C m sp E0 ta t) := by
  obtain ⟨f, c, hm, F⟩ := c
  refine ⟨fun pins s σ H Q I h => ?_⟩
  refine PySem.W.methodCall_KW (pl := pl) (thn (he.run pins s σ H _ I h) fun u s1 ⟨x, H1, I1, rx, a, dx, fs, ex, ea, l, q⟩ => ?_) ht
  subst ex
  obtain rfl : u = Value.ref a := rx
  refine getmeth_ok I1 ea c hm l ?_
  refine PySem.W.callWith_K (first := [.ref a]) (h₀ := X.base) I.ok.mod.kin hm.kp (thn (ha.run pos pins s1 σ H1 _ I1 q) fun us s2 ⟨vs, H2, I2, r, q2⟩ => ⟨I2.kIn, ?_⟩) hst hpl
  exact run_at (us := .ref a :: us) (vs := .ref a :: vs) F (hr.mono hk) I2.env0 passA I2 (.cons rfl r) q2
theorem pe_m0 (c : Gm X.prog X.w X.K X.mg X.base k C m sp) (hr : Room j X.A) (he : PE X o ta) {pl : Sem Bool} (hk : k ≤ j := by decide)
    (ht : eval (.Call (.Attribute o m apos) [] [] pos) X.env = (do
      let ov ← eval o X.env
      standAt apos.atName
      let (f, first) ← holding [ov] (getMethod ov m pl)
      callWith pos f first (backTo pos (starEach [] X.env)) (backToKw pos (keywordEach [] X.env))) := by rfl) :
    PE X (.Call (.Attribute o m apos) [] [] pos) (tMe C m sp E0 ta tNil) := by
  obtain ⟨f, c, hm, F⟩ := c
  refine ⟨fun pins s σ H Q I h => ?_⟩
  refine PySem.W.methodCall_KW (pl := pl) (thn (he.run pins s σ H _ I h) fun u s1 ⟨x, H1, I1, rx, a, dx, fs, ex, ea, l, q⟩ => ?_) ht
  subst ex
  obtain rfl : u = Value.ref a := rx
  refine getmeth_ok I1 ea c hm l ?_
  exact PySem.W.callWith_K0 (first := [.ref a]) I1.kIn hm.kp (run_at (us := [.ref a]) (vs := [.ref a]) F (hr.mono hk) I1.env0 passA I1 (.cons rfl .nil) q)
theorem pe_s (c : Gs X.prog X.w X.K X.mg X.base k C m sp) (hr : Room j X.A) (hm : X.mg x = some (.ref C)) (ha : PA X (e :: es) t) {pl : Sem Bool} (hk : k ≤ j := by decide) (hg : Gl X x := by rfl) (hdb : (x == ("__debug__" : Str)) = false := by decide)
    (hst : starEach (e :: es) X.env = (false, eval e X.env) :: starEach es X.env := by rfl) (hpl : (backTo pos (starEach es X.env)).any (·.1) = false := by rfl)
    (ht : eval (.Call (.Attribute (.Name x p) m apos) (e :: es) [] pos) X.env = (do
      let ov ← eval (.Name x p) X.env
      standAt apos.atName
      let (f, first) ← holding [ov] (getMethod ov m pl)
      callWith pos f first (backTo pos (starEach (e :: es) X.env)) (backToKw pos (keywordEach [] X.env))) := by rfl) :
    PE X (.Call (.Attribute (.Name x p) m apos) (e :: es) [] pos) (tCa sp E0 t) := by
  obtain ⟨mc, q, g, r, c, F⟩ := c
  have h := pe_stat (E := E0) (pe_glob (v := .ref C) hg hm rfl hdb) r c F (hr.mono hk) passA ha hst hpl ht
  exact ⟨fun pins s σ H Q I q => h.run pins s σ H Q I ⟨rfl, q⟩⟩
theorem pe_p (c : Gp X.prog X.w X.K X.mg X.base k C m sp) (hr : Room j X.A) (he : PE X e ta) (hk : k + 1 ≤ j := by decide) (hb : attributeBase e m X.env (eval e X.env) = eval e X.env := by rfl) : PE X (.Attribute e m pos) (tPr C sp E0 ta) := by
  obtain ⟨p, g, c, hp, F⟩ := c
  refine ⟨fun pins s σ H Q I h => ?_⟩
  refine attr_of hb (thn (he.run pins s σ H _ I h) fun u s1 ⟨x, H1, I1, rx, a, dx, fs, ex, ea, q⟩ => ?_)
  subst ex
  obtain rfl : u = Value.ref a := rx
  obtain ⟨mA, O, _, _, _, _⟩ := ins_get I1.hok ea
  obtain ⟨od, J, _⟩ := O.look
  obtain ⟨rest, hrec⟩ := hp.rec_
  have I2 := I1.tok (s1.toks + 1)
  have hc : (PySem.W.clsIn X.K C).isSome = true := by
    obtain ⟨cd, hc, _⟩ := PySem.W.any_some c.hd
    rw [hc]
    rfl
  refine PySem.W.get_bind I1.kIn J (PySem.W.plainGet_of (c.get m)).1 (PySem.W.findObj_data hc hp.at_ hp.get hp.tak) (PySem.W.plainGet_of (c.get m)).2 (wpAny_call (PySem.W.prop_get (s := { s1 with toks := s1.toks + 1 }) I1.kIn hrec ?_))
  refine codeAny_mono (F X.A.in1 X.stack { s1 with toks := s1.toks + 1 } H1 [.ref a] [.ref a] Q E0 (hr.mono hk).in1 I2.env0.in1 (.cons rfl .nil) q) fun r s' hq => ?_
  cases r with
  | error er => exact False.elim hq
  | ok fl =>
    cases fl with
    | ret u =>
      obtain ⟨v, H', I3, rv, q3⟩ := I2.after hq
      show wpAny _ _ (handedOut u) _ _ _
      rw [PySem.W.handedOut_of (handed_of rv)]
      exact wpAny_pure ⟨v, H', I3, rv, q3⟩
    | next => exact False.elim hq
    | brk => exact False.elim hq
    | cont => exact False.elim hq
theorem opg_own {op : Operator} (c : Go X.prog X.w X.K X.mg X.base k C op.info.2 sp) (hr : Room j X.A) (hk : k ≤ j := by decide) : OpR X (binaryOp op) (rOwn C sp E0) := by
  obtain ⟨f, o, F⟩ := c
  exact op_own o F (hr.mono hk) passA
theorem opg_radd (c : Gr X.prog X.w X.K X.mg X.base k C "add" sp) (hr : Room j X.A) (hk : k ≤ j := by decide) : OpR X (binaryOp .Add) (rRef C sp E0) := by
  obtain ⟨f, o, F⟩ := c
  exact op_radd o F (hr.mono hk) passA
theorem opg_rsub (c : Gr X.prog X.w X.K X.mg X.base k C "sub" sp) (hr : Room j X.A) (hk : k ≤ j := by decide) : OpR X (binaryOp .Sub) (rRef C sp E0) := by
  obtain ⟨f, o, F⟩ := c
  exact op_rsub o F (hr.mono hk) passA
theorem opg_rmul (c : Gr X.prog X.w X.K X.mg X.base k C "mul" sp) (hr : Room j X.A) (hk : k ≤ j := by decide) : OpR X (binaryOp .Mult) (rRef C sp E0) := by
  obtain ⟨f, o, F⟩ := c
  exact op_rmul o F (hr.mono hk) passA
theorem ung_neg (c : Gu X.prog X.w X.K X.mg X.base k C "__neg__" sp) (hr : Room j X.A) (hk : k ≤ j := by decide) : UnR X (unaryOp .USub) (rNegO C sp E0) := by
  obtain ⟨f, o, F⟩ := c
  exact un_negO o F (hr.mono hk) passA
theorem opg_eq (c : Gu X.prog X.w X.K X.mg X.base k C "__eq__" sp) (hr : Room j X.A) (hk : k ≤ j := by decide) : OpR X (compareOp .Eq) (rEqO X.K C sp E0) := by
  obtain ⟨f, o, F⟩ := c
  exact op_eqO o F (hr.mono hk) passA
theorem opg_ne (c : Gu X.prog X.w X.K X.mg X.base k C "__eq__" sp) (n : NeOf X.K C) (hr : Room j X.A) (hk : k + 1 ≤ j := by decide) : OpR X (compareOp .NotEq) (rNeO X.K C sp E0) := by
  obtain ⟨f, o, F⟩ := c
  exact op_neO o n F (hr.mono hk) passA
end
theorem fnOk_of {P : Program} {w : World} {K : PySem.W.Frag} {mg : Str → Option Value} {base : Heap} {x qual : Str} {params : Arguments} {body : List Stmt} {scope : Scope} {dvs : List V} {kws : List (Str × V)} {f : Addr} {fd : FuncData}
    {N ps : List Str} {k : Nat} {sp : Sp} (F : FunD K x qual params body scope dvs kws f fd) (S : FnScope N ps scope) (len : ∀ vs H Q E, sp vs H Q E → vs.length = ps.length)
    (hbody : ∀ (cdv : Value) (A : Around) (outer : List Env) (s : Shared) (H : Hp) (vs : List V) (Q : VK) (E : XK), Room k (A.deeper (envOfC qual scope s.heap.objs.size f cdv)) → sp vs H Q E →
      ∃ t, PSs (cxOf CX0 P w K mg base N qual scope f cdv A outer s H E).nox body t ∧ t { nx := fun _ H' => Q .non H', rt := Q } (start N vs) H) : FnOk P w K mg base CX0 (k + 1) f fd ps sp := F.ok S len fun cdv A outer s H vs Q E hr h => by
  obtain ⟨t, ht, q⟩ := hbody cdv A outer s H vs Q E hr h
  exact ⟨t, ht.nox, q⟩
theorem raw_of {P : Program} {w : World} {K : PySem.W.Frag} {mg : Str → Option Value} {base : Heap} {k : Nat} {f : Addr} {fd : FuncData} {ps : List Str} {sp : Sp} {dv : List V} (G : FnOk P w K mg base CX0 k f fd ps sp) (b : ∃ ds, Vals dv ds ∧ Binds K fd ps ds) :
    FnR P w K mg base CX0 k f (fun vs H Q E => sp (vs ++ dv) H Q E) := by
  obtain ⟨ds, hd, hb⟩ := b
  exact G.raw hb hd
/-- a def's promise, by its body; its defaults are given -/
theorem fnR_of {P : Program} {w : World} {K : PySem.W.Frag} {mg : Str → Option Value} {base : Heap} {x qual : Str} {params : Arguments} {body : List Stmt} {scope : Scope} {dvs : List V} {kws : List (Str × V)} {f : Addr} {fd : FuncData}
    {N ps : List Str} {k : Nat} {sp sp' : Sp} (F : FunD K x qual params body scope dvs kws f fd) (S : FnScope N ps scope) {dv : List V} (b : ∃ ds, Vals dv ds ∧ Binds K fd ps ds) (len : ∀ vs H Q E, sp vs H Q E → vs.length = ps.length) (imp : ∀ vs H Q E, sp' vs H Q E → sp (vs ++ dv) H Q E)
    (hbody : ∀ (cdv : Value) (A : Around) (outer : List Env) (s : Shared) (H : Hp) (vs : List V) (Q : VK) (E : XK), Room k (A.deeper (envOfC qual scope s.heap.objs.size f cdv)) → sp vs H Q E →
      ∃ t, PSs (cxOf CX0 P w K mg base N qual scope f cdv A outer s H E).nox body t ∧ t { nx := fun _ H' => Q .non H', rt := Q } (start N vs) H) : FnR P w K mg base CX0 (k + 1) f sp' := by
  obtain ⟨ds, hd, hb⟩ := b
  have G : FnOk P w K mg base CX0 (k + 1) f fd ps sp := F.ok S len fun cdv A outer s H vs Q E hr h => by
    obtain ⟨t, ht, q⟩ := hbody cdv A outer s H vs Q E hr h
    exact ⟨t, ht.nox, q⟩
  exact (G.raw hb hd).imp imp
theorem fnR0 {P : Program} {w : World} {K : PySem.W.Frag} {mg : Str → Option Value} {base : Heap} {x qual : Str} {params : Arguments} {body : List Stmt} {scope : Scope} {f : Addr} {fd : FuncData}
    {N ps : List Str} {k : Nat} {sp : Sp} (F : FunD K x qual params body scope [] [] f fd) (S : FnScope N ps scope) (b : Binds K fd ps []) (len : ∀ vs H Q E, sp vs H Q E → vs.length = ps.length)
    (hbody : ∀ (cdv : Value) (A : Around) (outer : List Env) (s : Shared) (H : Hp) (vs : List V) (Q : VK) (E : XK), Room k (A.deeper (envOfC qual scope s.heap.objs.size f cdv)) → sp vs H Q E →
      ∃ t, PSs (cxOf CX0 P w K mg base N qual scope f cdv A outer s H E).nox body t ∧ t { nx := fun _ H' => Q .non H', rt := Q } (start N vs) H) : FnR P w K mg base CX0 (k + 1) f sp :=
  fnR_of F S ⟨[], .nil, b⟩ len (fun vs H Q E h => by rw [List.append_nil]; exact h) hbody
end GX

namespace GX
open PySem PySem.Spec PyProof.Rows L2
/-! ### named readings of built-ins -/
def rAbs : List V → Hp → VK → Prop := fun xs H Q => ∃ i, xs = [.int i] ∧ Q (.int (if i < 0 then -i else i)) H
def rInt : List V → Hp → VK → Prop := fun xs H Q => (∃ i, xs = [.int i] ∧ Q (.int i) H) ∨ ∃ k, xs = [.bl k] ∧ Q (.int (if k then 1 else 0)) H
def rBool : List V → Hp → VK → Prop := fun xs H Q => (∃ i, xs = [.int i] ∧ Q (.bl (i != 0)) H) ∨ ∃ k, xs = [.bl k] ∧ Q (.bl k) H
def rLenS (K : PySem.W.Frag) : List V → Hp → VK → Prop := fun xs H Q => ∃ p ys, xs = [.ref p] ∧ (SqL K H p ys ∨ SqT K H p ys) ∧ Q (.int ys.length) H
def rLenZ : List V → Hp → VK → Prop := fun xs H Q => ∃ z, xs = [.str z] ∧ z.length ≤ sizeLine ∧ Q (.int z.length) H
def rListS (K : PySem.W.Frag) : List V → Hp → VK → Prop := fun xs H Q => ∃ p ys, xs = [.ref p] ∧ (SqL K H p ys ∨ SqT K H p ys) ∧ ∀ l, H l = none → Q (.ref l) (upd H l (.lst ys))
section
variable {X : Cx}
theorem c_abs : CallR X (.builtin "abs") rAbs := call_abs
theorem c_int : CallR X (.type "int") rInt := call_int1
theorem c_bool : CallR X (.type "bool") rBool := call_bool1
theorem c_len : CallR X (.builtin "len") (rLenS X.K) := call_len_seq
theorem c_lenZ : CallR X (.builtin "len") rLenZ := call_len_str
theorem c_list : CallR X (.type "list") (rListS X.K) := call_list_of
theorem c_isi : CallR X (.builtin "isinstance") (rIsi X.K) := call_isi
theorem c_isiT : CallR X (.builtin "isinstance") (rIsiT X.K) := call_isiT
end
theorem bt_abs : bootBuiltins (Str.ofString "abs") = some (.builtin "abs") := by kernel_rfl
theorem bt_int : bootBuiltins (Str.ofString "int") = some (.type "int") := by kernel_rfl
theorem bt_bool : bootBuiltins (Str.ofString "bool") = some (.type "bool") := by kernel_rfl
theorem bt_len : bootBuiltins (Str.ofString "len") = some (.builtin "len") := by kernel_rfl
theorem bt_list : bootBuiltins (Str.ofString "list") = some (.type "list") := by kernel_rfl
theorem bt_isi : bootBuiltins (Str.ofString "isinstance") = some (.builtin "isinstance") := by kernel_rfl
theorem bt_all : bootBuiltins (Str.ofString "all") = some (.builtin "all") := by kernel_rfl
theorem bt_any : bootBuiltins (Str.ofString "any") = some (.builtin "any") := by kernel_rfl
theorem bt_str : bootBuiltins (Str.ofString "str") = some (.type "str") := by kernel_rfl
theorem bt_tuple : bootBuiltins (Str.ofString "tuple") = some (.type "tuple") := by kernel_rfl
/-- * of any two numbers whose product is not too long -/
theorem op_mulG {X : Cx} : OpR X (binaryOp .Mult) (rI IntMulOk fun i j => .int (i * j)) := opI fun _ _ _ _ _ _ _ hc q => mul_int q hc
/-! ### steps -/
def parK (n : L2.St → Hp → Prop) (σ : L2.St) (k l : Nat) : List V → Hp → Prop := fun vs H1 => ∃ v w, vs = [v, w] ∧ n ((σ.set k (some v)).set l (some w)) H1
def parK3 (n : L2.St → Hp → Prop) (σ : L2.St) (k l m : Nat) : List V → Hp → Prop := fun vs H1 => ∃ u v w, vs = [u, v, w] ∧ n (((σ.set k (some u)).set l (some v)).set m (some w)) H1
def gconsK (ug : TGs) (rest : List V) (QS : L2.St → Hp → Prop) : L2.St → Hp → Prop := fun σ' H' => ug rest σ' H' QS
def fldSK (K : PySem.W.Frag) (f : Str) (v : V) (σ : L2.St) (QS : L2.St → Hp → Prop) : VK := fun x H1 => ∃ a C dx fs, x = .ref a ∧ H1 a = some (.ins C dx fs) ∧ Cls K C ∧ NoAttr K C f ∧ fs.length < 1000 ∧ QS σ (upd H1 a (.ins C dx (putF f v fs)))
def mkK (C : Addr) (sp : Sp) (E : XK) (Q : VK) : List V → Hp → Prop := fun vs H1 => ∀ x dx, H1 x = none → H1 dx = none → dx ≠ x →
  sp (.ref x :: vs) (upd (upd H1 dx (.own x)) x (.ins C dx [])) (fun v H2 => v = .non ∧ Q (.ref x) H2) E
def meK (C : Addr) (m : Str) (sp : Sp) (E : XK) (t : TA) (σ : L2.St) (Q : VK) : VK := fun x H1 => ∃ a dx fs, x = .ref a ∧ H1 a = some (.ins C dx fs) ∧ fs.lookup m = none ∧ t σ H1 fun vs H2 => sp (x :: vs) H2 Q E
def prK (C : Addr) (sp : Sp) (E : XK) (Q : VK) : VK := fun x H1 => ∃ a dx fs, x = .ref a ∧ H1 a = some (.ins C dx fs) ∧ sp [.ref a] H1 Q E
def fldK (K : PySem.W.Frag) (f : Str) (Q : VK) : VK := fun x H1 => ∃ a C dx fs v, x = .ref a ∧ H1 a = some (.ins C dx fs) ∧ Cls K C ∧ NoAttr K C f ∧ fs.lookup f = some v ∧ Q v H1
def subK (ti : TE) (ts : TSet) (v : V) (σ : L2.St) (QS : L2.St → Hp → Prop) : VK := fun o H1 => ti σ H1 fun i H2 => ts o i v H2 fun H3 => QS σ H3
def subK2 (ts : TSet) (o v : V) (σ : L2.St) (QS : L2.St → Hp → Prop) : VK := fun i H2 => ts o i v H2 fun H3 => QS σ H3
def tupK (Q : VK) : List V → Hp → Prop := fun xs H1 => xs.length ≤ sizeLine ∧ ∀ p, H1 p = none → Q (.ref p) (upd H1 p (.tup xs))
def lstK (Q : VK) : List V → Hp → Prop := fun xs H1 => xs.length ≤ sizeLine ∧ ∀ p, H1 p = none → Q (.ref p) (upd H1 p (.lst xs))
section
variable {n b c : L2.St → Hp → Prop} {r : VK} {σ σ' : L2.St} {H : Hp} {Q : VK} {QT : Bool → Hp → Prop} {QA : List V → Hp → Prop} {QS : L2.St → Hp → Prop} {t u : TS} {te ta tb : TE} {tt tu : TT} {tl : TA} {g : TG} {D : Ends} {v x y : V} {i j : Int} {K : PySem.W.Frag} {E : XK}
theorem g_start {N : List Str} {vs : List V} {tt : TS} (e : L2.start N vs = σ) (h : tt D σ H) : tt D (L2.start N vs) H := by
  rw [e]
  exact h
theorem g_seq (h : t ⟨u ⟨n, r, b, c⟩, r, b, c⟩ σ H) : tSeq t u ⟨n, r, b, c⟩ σ H := h
theorem g_nx (h : n σ H) : Ends.nx ⟨n, r, b, c⟩ σ H := h
theorem g_rt (h : r v H) : Ends.rt ⟨n, r, b, c⟩ v H := h
theorem g_bk (h : b σ H) : Ends.bk ⟨n, r, b, c⟩ σ H := h
theorem g_ct (h : c σ H) : Ends.ct ⟨n, r, b, c⟩ σ H := h
theorem g_next (h : n σ H) : tNext ⟨n, r, b, c⟩ σ H := h
theorem g_asg (h : te σ H fun x H1 => g x σ H1 n) : tAsg te g ⟨n, r, b, c⟩ σ H := h
theorem g_ret (h : te σ H r) : tRet te ⟨n, r, b, c⟩ σ H := h
theorem g_retN (h : r .non H) : tRetN ⟨n, r, b, c⟩ σ H := h
theorem g_drop (h : te σ H fun _ H1 => n σ H1) : tDrop te ⟨n, r, b, c⟩ σ H := h
theorem g_ifS (h : tt σ H fun k H1 => if k = true then t ⟨n, r, b, c⟩ σ H1 else u ⟨n, r, b, c⟩ σ H1) : tIfS tt t u ⟨n, r, b, c⟩ σ H := h
theorem g_par {k l : Nat} (h : tl σ H (parK n σ k l)) : tPar k l tl ⟨n, r, b, c⟩ σ H := h
theorem g_par3 {k l m : Nat} (h : tl σ H (parK3 n σ k l m)) : tPar3 k l m tl ⟨n, r, b, c⟩ σ H := h
theorem g_par' {k l : Nat} {v w : V} (e : (σ.set k (some v)).set l (some w) = σ') (h : n σ' H) : parK n σ k l [v, w] H := ⟨v, w, rfl, by rw [e]; exact h⟩
theorem g_par3' {k l m : Nat} {u v w : V} (e : ((σ.set k (some u)).set l (some v)).set m (some w) = σ') (h : n σ' H) : parK3 n σ k l m [u, v, w] H := ⟨u, v, w, rfl, by rw [e]; exact h⟩
theorem g_name {k : Nat} (e : σ.set k (some v) = σ') (h : QS σ' H) : gName k v σ H QS := by
  show QS (σ.set k (some v)) H
  rw [e]
  exact h
theorem g_var {k : Nat} (e : σ[k]? = some (some v)) (h : Q v H) : tVar k σ H Q := ⟨v, e, h⟩
theorem g_c (h : Q v H) : tC v σ H Q := h
theorem g_op {rr : R2} (h : ta σ H fun x H1 => tb σ H1 fun y H2 => rr x y H2 Q) : tOp rr ta tb σ H Q := h
theorem g_un {rr : V → Hp → VK → Prop} (h : ta σ H fun x H1 => rr x H1 Q) : tUn rr ta σ H Q := h
theorem g_cb {rr : List V → Hp → VK → Prop} (h : tl σ H fun vs H1 => rr vs H1 Q) : tCB rr tl σ H Q := h
theorem g_ca {sp : Sp} (h : tl σ H fun vs H1 => sp vs H1 Q E) : tCa sp E tl σ H Q := h
theorem g_tup (h : tl σ H (tupK Q)) : tTup tl σ H Q := h
theorem g_lst (h : tl σ H (lstK Q)) : tLst tl σ H Q := h
theorem g_tupK {Ms : List Addr} {xs : List V} (e : Nat.ble xs.length sizeLine = true) (al : Al Ms H) (q : ∀ p H', Same H H' → Gw Ms H H' → H p = none → Kn Ms H' p (.tup xs) → Q (.ref p) H') : tupK Q xs H := ⟨Nat.le_of_ble_eq_true e, g_new (Q := fun p H' => Q (.ref p) H') al q⟩
theorem g_lstK {Ms : List Addr} {xs : List V} (e : Nat.ble xs.length sizeLine = true) (al : Al Ms H) (q : ∀ p H', Same H H' → Gw Ms H H' → H p = none → Kn Ms H' p (.lst xs) → Q (.ref p) H') : lstK Q xs H := ⟨Nat.le_of_ble_eq_true e, g_new (Q := fun p H' => Q (.ref p) H') al q⟩
theorem g_gtup {k : Nat} {tg : TGs} {p : Addr} {xs : List V} (s : SqT K H p xs) (e : xs.length = k) (h : tg xs σ H QS) : gTup K k tg (.ref p) σ H QS := ⟨p, xs, rfl, s, e, h⟩
theorem g_gcons {tg : TG} {ug : TGs} {rest : List V} (h : tg v σ H (gconsK ug rest QS)) : gCons tg ug (v :: rest) σ H QS := ⟨v, rest, rfl, h⟩
theorem g_gconsK {ug : TGs} {rest : List V} (h : ug rest σ H QS) : gconsK ug rest QS σ H := h
theorem g_gnil (h : QS σ H) : gNil [] σ H QS := ⟨rfl, h⟩
theorem g_gfld {to : TE} {f : Str} (h : to σ H (fldSK K f v σ QS)) : gFld K to f v σ H QS := h
theorem g_fldSK {p C dx : Addr} {fs : List (Str × V)} {f : Str} (hp : H p = some (.ins C dx fs)) (c : Cls K C) (m : NoAttr K C f) (l : Nat.ble (fs.length + 1) 1000 = true)
    (q : ∀ H', Gw [p] H H' → (∀ a o, a ≠ p → H a = some o → H' a = some o) → H' p = some (.ins C dx (putF f v fs)) → QS σ H') : fldSK K f v σ QS (.ref p) H := by
  refine ⟨p, C, dx, fs, rfl, hp, c, m, Nat.lt_of_succ_le (Nat.le_of_ble_eq_true l), ?_⟩
  have z : ∀ a o, a ≠ p → H a = some o → upd H p (.ins C dx (putF f v fs)) a = some o := fun a o ne e => by
    rw [upd_ne ne]
    exact e
  refine q _ ⟨fun a o ha e => z a o (fun q => ha (by rw [q]; exact List.mem_cons_self)) e, fun a ha _ => ?_⟩ z upd_same
  have e : a = p := by simpa using ha
  rw [e, upd_same]
  exact fun q => nomatch q
theorem g_cut (Mid : L2.St → Hp → Prop) (h : t ⟨Mid, r, b, c⟩ σ H) (k : ∀ σ' H', Mid σ' H' → u ⟨n, r, b, c⟩ σ' H') : C8.tCut t u ⟨n, r, b, c⟩ σ H := ⟨Mid, h, k⟩
theorem g_gsub {to ti : TE} {ts : TSet} (h : to σ H (subK ti ts v σ QS)) : gSub to ti ts v σ H QS := h
theorem g_subK {ti : TE} {ts : TSet} (h : ti σ H (subK2 ts x v σ QS)) : subK ti ts v σ QS x H := h
theorem g_subK2 {p : Addr} {xs xs' : List V} {k : Nat} (hp : H p = some (.lst xs)) (e : ixN xs.length i = some k) (e2 : xs.set k v = xs') (q : ∀ H', Gw [p] H H' → (∀ a o, a ≠ p → H a = some o → H' a = some o) → H' p = some (.lst xs') → QS σ H') : subK2 rSetL (.ref p) v σ QS (.int i) H := by
  refine ⟨p, xs, i, k, rfl, rfl, hp, e, ?_⟩
  rw [e2]
  have z : ∀ a o, a ≠ p → H a = some o → upd H p (.lst xs') a = some o := fun a o ne e => by
    rw [upd_ne ne]
    exact e
  refine q _ ⟨fun a o ha e => z a o (fun q => ha (by rw [q]; exact List.mem_cons_self)) e, fun a ha _ => ?_⟩ z upd_same
  have e : a = p := by simpa using ha
  rw [e, upd_same]
  exact fun q => nomatch q
theorem g_if (h : tt σ H fun k H1 => if k = true then ta σ H1 Q else tb σ H1 Q) : tIf tt ta tb σ H Q := h
theorem g_andV (h : ta σ H fun x H1 => ∃ k, x = .bl k ∧ if k = true then tb σ H1 Q else Q (.bl false) H1) : tAndV ta tb σ H Q := h
theorem g_orV (h : ta σ H fun x H1 => ∃ k, x = .bl k ∧ if k = true then Q (.bl true) H1 else tb σ H1 Q) : tOrV ta tb σ H Q := h
theorem g_notV (h : ta σ H fun x H1 => ∃ k, x = .bl k ∧ Q (.bl (!k)) H1) : tNotV ta σ H Q := h
theorem g_bl {k : Bool} {P : Bool → Prop} (h : P k) : ∃ k', V.bl k = .bl k' ∧ P k' := ⟨k, rfl, h⟩
theorem g_test (h : te σ H fun x H' => ∃ k, x = .bl k ∧ QT k H') : tTest te σ H QT := h
theorem g_B (h : te σ H fun x H' => ∃ k, x = .bl k ∧ QT k H') : tB te σ H QT := h
theorem g_and (h : tt σ H fun k H1 => if k = true then tu σ H1 QT else QT false H1) : tAnd tt tu σ H QT := h
theorem g_or (h : tt σ H fun k H1 => if k = true then QT true H1 else tu σ H1 QT) : tOr tt tu σ H QT := h
theorem g_not (h : tt σ H fun k H1 => QT (!k) H1) : tNot tt σ H QT := h
theorem g_nil (h : QA [] H) : tNil σ H QA := h
theorem g_cons (h : te σ H fun x H1 => tl σ H1 fun xs H2 => QA (x :: xs) H2) : tCons te tl σ H QA := h
theorem g_I0 {f : Int → Int → V} (h : Q (f i j) H) : rI0 f (.int i) (.int j) H Q := ⟨i, j, rfl, rfl, h⟩
theorem g_I {C : Int → Int → Prop} {f : Int → Int → V} (hc : C i j) (h : Q (f i j) H) : rI C f (.int i) (.int j) H Q := ⟨i, j, rfl, rfl, hc, h⟩
theorem g_U {f : Int → V} (h : Q (f i) H) : rU f (.int i) H Q := ⟨i, rfl, h⟩
theorem g_eqI (h : Q (.bl (decide (i = j))) H) : rEq (.int i) (.int j) H Q := ⟨rfl, by
  have e : decide (V.int i = V.int j) = decide (i = j) := by
    by_cases z : i = j
    · rw [decide_eq_true z, decide_eq_true (by rw [z])]
    · rw [decide_eq_false z, decide_eq_false fun q => z (V.int.inj q)]
  rw [e]
  exact h⟩
theorem g_neI (h : Q (.bl (!decide (i = j))) H) : rNe (.int i) (.int j) H Q := ⟨rfl, by
  have e : decide (V.int i = V.int j) = decide (i = j) := by
    by_cases z : i = j
    · rw [decide_eq_true z, decide_eq_true (by rw [z])]
    · rw [decide_eq_false z, decide_eq_false fun q => z (V.int.inj q)]
  rw [e]
  exact h⟩
theorem g_eqB {k l : Bool} (h : Q (.bl (k == l)) H) : rEq (.bl k) (.bl l) H Q := ⟨rfl, by
  have e : decide (V.bl k = V.bl l) = (k == l) := by cases k <;> cases l <;> decide
  rw [e]
  exact h⟩
theorem g_neB {k l : Bool} (h : Q (.bl (k != l)) H) : rNe (.bl k) (.bl l) H Q := ⟨rfl, by
  have e : (!decide (V.bl k = V.bl l)) = (k != l) := by cases k <;> cases l <;> decide
  rw [e]
  exact h⟩
theorem g_eqS {a z : Str} (h : Q (.bl (decide (a = z))) H) : rEq (.str a) (.str z) H Q := ⟨rfl, by
  have e : decide (V.str a = V.str z) = decide (a = z) := by
    by_cases q : a = z
    · rw [decide_eq_true q, decide_eq_true (by rw [q])]
    · rw [decide_eq_false q, decide_eq_false fun w => q (V.str.inj w)]
  rw [e]
  exact h⟩
theorem g_neS {a z : Str} (h : Q (.bl (!decide (a = z))) H) : rNe (.str a) (.str z) H Q := ⟨rfl, by
  have e : decide (V.str a = V.str z) = decide (a = z) := by
    by_cases q : a = z
    · rw [decide_eq_true q, decide_eq_true (by rw [q])]
    · rw [decide_eq_false q, decide_eq_false fun w => q (V.str.inj w)]
  rw [e]
  exact h⟩
/-- is None, is not None -/
def nonV : V → Bool
  | .non => true
  | _ => false
theorem nonV_eq (x : V) : decide (x = .non) = nonV x := by cases x <;> first | rfl | exact decide_eq_false (fun z => nomatch z)
theorem g_isN (h : ta σ H fun x H1 => Q (.bl (nonV x)) H1) : tIsN ta σ H Q := by
  show ta σ H fun x H1 => Q (.bl (decide (x = .non))) H1
  have e : (fun (x : V) (H1 : Hp) => Q (.bl (decide (x = .non))) H1) = fun x H1 => Q (.bl (nonV x)) H1 := by
    funext x H1
    rw [nonV_eq]
  rw [e]
  exact h
theorem g_notN (h : ta σ H fun x H1 => Q (.bl (!nonV x)) H1) : tNotN ta σ H Q := by
  show ta σ H fun x H1 => Q (.bl (!decide (x = .non))) H1
  have e : (fun (x : V) (H1 : Hp) => Q (.bl (!decide (x = .non))) H1) = fun x H1 => Q (.bl (!nonV x)) H1 := by
    funext x H1
    rw [nonV_eq]
  rw [e]
  exact h
theorem g_abs (h : Q (.int (i.natAbs : Int)) H) : rAbs [.int i] H Q := ⟨i, rfl, by
  have e : (if i < 0 then -i else i) = (i.natAbs : Int) := by split <;> omega
  rw [e]
  exact h⟩
theorem g_int (h : Q (.int i) H) : rInt [.int i] H Q := .inl ⟨i, rfl, h⟩
theorem g_bool {k : Bool} (h : Q (.bl k) H) : rBool [.bl k] H Q := .inr ⟨k, rfl, h⟩
theorem g_boolI (h : Q (.bl (i != 0)) H) : rBool [.int i] H Q := .inl ⟨i, rfl, h⟩
theorem g_lenL {p : Addr} {ys : List V} (s : SqL K H p ys) (h : Q (.int ys.length) H) : rLenS K [.ref p] H Q := ⟨p, ys, rfl, .inl s, h⟩
theorem g_lenT {p : Addr} {ys : List V} (s : SqT K H p ys) (h : Q (.int ys.length) H) : rLenS K [.ref p] H Q := ⟨p, ys, rfl, .inr s, h⟩
theorem g_listL {Ms : List Addr} {p : Addr} {ys : List V} (s : SqL K H p ys) (al : Al Ms H) (q : ∀ p H', Same H H' → Gw Ms H H' → H p = none → Kn Ms H' p (.lst ys) → Q (.ref p) H') : rListS K [.ref p] H Q := ⟨p, ys, rfl, .inl s, g_new (Q := fun p H' => Q (.ref p) H') al q⟩
theorem g_listT {Ms : List Addr} {p : Addr} {ys : List V} (s : SqT K H p ys) (al : Al Ms H) (q : ∀ p H', Same H H' → Gw Ms H H' → H p = none → Kn Ms H' p (.lst ys) → Q (.ref p) H') : rListS K [.ref p] H Q := ⟨p, ys, rfl, .inr s, g_new (Q := fun p H' => Q (.ref p) H') al q⟩
theorem g_ixL {p : Addr} {xs : List V} (s : SqL K H p xs) (e : atI xs i = some v) (h : Q v H) : rIxL K (.ref p) (.int i) H Q := ⟨p, xs, i, v, rfl, rfl, s, e, h⟩
theorem g_ixT {p : Addr} {xs : List V} (s : SqT K H p xs) (e : atI xs i = some v) (h : Q v H) : rIxT K (.ref p) (.int i) H Q := ⟨p, xs, i, v, rfl, rfl, s, e, h⟩
theorem g_iteT {P R : Prop} {k : Bool} (e : k = true) (h : P) : if k = true then P else R := by rw [e]; exact iteT h
theorem g_iteF {P R : Prop} {k : Bool} (e : k = false) (h : R) : if k = true then P else R := by rw [e]; exact iteF h
theorem g_ite {P R : Prop} {k : Bool} (h1 : k = true → P) (h2 : k = false → R) : if k = true then P else R := by
  cases k with
  | true => exact iteT (h1 rfl)
  | false => exact iteF (h2 rfl)
theorem g_fld {f : Str} (h : ta σ H (fldK K f Q)) : tFld K ta f σ H Q := h
theorem g_fldK {a C dx : Addr} {fs : List (Str × V)} {f : Str} (ha : H a = some (.ins C dx fs)) (c : Cls K C) (m : NoAttr K C f) (l : fs.lookup f = some v) (q : Q v H) : fldK K f Q (.ref a) H := ⟨a, C, dx, fs, v, rfl, ha, c, m, l, q⟩
theorem g_mk {C : Addr} {sp : Sp} (h : tl σ H (mkK C sp E Q)) : tMk C sp E tl σ H Q := h
theorem g_me {C : Addr} {m : Str} {sp : Sp} (h : ta σ H (meK C m sp E tl σ Q)) : tMe C m sp E ta tl σ H Q := h
theorem g_meK {C a dx : Addr} {m : Str} {sp : Sp} {fs : List (Str × V)} (ha : H a = some (.ins C dx fs)) (l : fs.lookup m = none) (h : tl σ H fun vs H2 => sp (.ref a :: vs) H2 Q E) : meK C m sp E tl σ Q (.ref a) H := ⟨a, dx, fs, rfl, ha, l, h⟩
theorem g_pr {C : Addr} {sp : Sp} (h : ta σ H (prK C sp E Q)) : tPr C sp E ta σ H Q := h
theorem g_prK {C a dx : Addr} {sp : Sp} {fs : List (Str × V)} (ha : H a = some (.ins C dx fs)) (h : sp [.ref a] H Q E) : prK C sp E Q (.ref a) H := ⟨a, dx, fs, rfl, ha, h⟩
theorem g_isi {t : Value} {cv : V} {cu : Value} {k : Bool} (kc : ClsV cv cu) (ty : TyX K H x t) (e : PySem.W.kitOne K t cu = some k) (h : Q (.bl k) H) : rIsi K [x, cv] H Q := ⟨x, cv, t, cu, k, rfl, kc, ty, e, h⟩
end
end GX
namespace GX
open PySem PySem.Spec PyProof.Rows L2 GM
section
variable {σ : L2.St} {H : Hp} {Q : VK} {QO : Option Int → Hp → Prop} {te : TE} {tl th : TO} {K : PySem.W.Frag}
def slK (r : V → Option Int → Option Int → Hp → VK → Prop) (tl th : TO) (σ : L2.St) (Q : VK) : VK := fun x H1 => tl σ H1 fun l H2 => th σ H2 fun u H3 => r x l u H3 Q
def partK (QO : Option Int → Hp → Prop) : VK := fun x H1 => ∃ i, x = .int i ∧ QO (some i) H1
theorem g_sl {r : V → Option Int → Option Int → Hp → VK → Prop} (h : te σ H (slK r tl th σ Q)) : tSl r te tl th σ H Q := h
theorem g_slK {r : V → Option Int → Option Int → Hp → VK → Prop} {x : V} (h : tl σ H fun l H2 => th σ H2 fun u H3 => r x l u H3 Q) : slK r tl th σ Q x H := h
theorem g_noPart (h : QO none H) : tNoPart σ H QO := h
theorem g_part (h : te σ H (partK QO)) : tPart te σ H QO := h
theorem g_partK {i : Int} (h : QO (some i) H) : partK QO (.int i) H := ⟨i, rfl, h⟩
theorem g_slL {Ms : List Addr} {p : Addr} {xs ys : List V} {lo hi : Option Int} (s : SqL K H p xs) (e : cutV xs lo hi = ys) (al : Al Ms H) (q : ∀ p H', Same H H' → Gw Ms H H' → H p = none → Kn Ms H' p (.lst ys) → Q (.ref p) H') : rSlL K (.ref p) lo hi H Q := by
  refine ⟨p, xs, rfl, s, ?_⟩
  rw [e]
  exact g_new (Q := fun p H' => Q (.ref p) H') al q
end
theorem cut_take (xs : List V) (k : Nat) : cutV xs none (some (k : Int)) = xs.take k := by
  unfold cutV
  rw [HT.sIx_none, HT.sIx_nat, List.drop_zero, Nat.sub_zero]
  by_cases h : k ≤ xs.length
  · rw [Nat.min_eq_left h]
  · rw [Nat.min_eq_right (by omega), List.take_of_length_le (Nat.le_refl _), List.take_of_length_le (by omega)]
end GX

/-! GX: what the top has left, read by a Hook of facts and defs at addresses of one's own. -/
namespace GX
open PySem PySem.Spec PyProof.Rows L2
abbrev Fg := PySem.W.Frag
/-- a def: where its function stands, its statement, its names, its defaults -/
structure DG where
  ad : Fg → Addr
  nm : Str
  ql : Str
  st : Stmt
  df : List He.Dv := []
def argsOfS (s : Stmt) : Arguments := defArgs s
def DG.seen (d : DG) (K : Fg) : He.FnW := match K.lookup (d.ad K) with
  | some o => (match o.data with
    | .func z => some (z.name, z.qualname, z.params, z.body, z.scope, z.globals, z.closure, z.builtins)
    | _ => none)
  | none => none
def DG.due (d : DG) : He.FnW := some (d.nm, d.ql, defArgs d.st, .stmts (defBody d.st), defScope d.st, mainGlobals, [], builtinsNs)
def DG.dv (d : DG) (K : Fg) : List V := d.df.map (He.Dv.v K)
def DG.good (d : DG) (K : Fg) : Bool := PySem.W.keepIn K (.ref (d.ad K)) && (match K.lookup (d.ad K) with
  | some o => (match o.data with
    | .func z => PySem.W.codeIn K z.code d.ql && He.dflB K z.defaults (d.dv K)
    | _ => false)
  | none => false)
abbrev FD (K : Fg) (d : DG) (fd : FuncData) : Prop := FunD K d.nm d.ql (defArgs d.st) (defBody d.st) (defScope d.st) (d.dv K) [] (d.ad K) fd
theorem DG.fd {K : Fg} {d : DG} (e : d.seen K = d.due) (c : d.good K = true) : ∃ fd, FD K d fd := by
  obtain ⟨kp, c2⟩ := Bool.and_eq_true_iff.mp c
  unfold DG.seen at e
  cases q : K.lookup (d.ad K) with
  | none =>
    rw [q] at c2
    cases c2
  | some o =>
    obtain ⟨oc, od, dt, osl⟩ := o
    rw [q] at c2 e
    cases dt with
    | func z =>
      obtain ⟨a1, a2, a3, a4, a5, a6, a7, a8, a9, b1, b2, b3, b4, b5, b6⟩ := z
      have e2 : (some (a1, a2, a3, a4, a5, a6, a7, b6) : He.FnW) = some (d.nm, d.ql, defArgs d.st, .stmts (defBody d.st), defScope d.st, mainGlobals, [], builtinsNs) := e
      simp only [Option.some.injEq, Prod.mk.injEq] at e2
      obtain ⟨h1, h2, h3, h4, h5, h6, h7, h8⟩ := e2
      subst h1 h2 h3 h4 h5 h6 h7 h8
      obtain ⟨k1, k2⟩ := Bool.and_eq_true_iff.mp (show (PySem.W.codeIn K b4 d.ql && He.dflB K a8 (d.dv K)) = true from c2)
      exact ⟨_, ⟨oc, od, a8, a9, b1, b2, b3, b4, b5, osl, rfl, q, k1, He.dflB_ok k2, .inl rfl⟩, kp⟩
    | _ => cases c2
abbrev AlG : Type := Bool × List He.FnW
def obsF (bs : List (Fg → Bool)) (ds : List DG) (K : Fg) : AlG := ((bs.all fun b => b K) && ds.all fun d => d.good K, ds.map fun d => d.seen K)
def valF (ds : List DG) : AlG := (true, ds.map DG.due)
def SaysF (bs : List (Fg → Bool)) (ds : List DG) (K : Fg) : Prop := obsF bs ds K = valF ds
def obsGG (n : Nat) (bs : List (Fg → Bool)) (ds : List DG) (g : Addr → Option Obj) : AlG := obsF bs ds (He.frG g (He.asD g n ++ [PySem.cStatics]))
def hookG (n : Nat) (bs : List (Fg → Bool)) (ds : List DG) : PySem.W.Hook where
  α := AlG
  obs := fun s => obsGG n bs ds s.heap.get?
  val := fun _ => valF ds
  says := fun _ h => ∃ K : Fg, K.In h ∧ SaysF bs ds K
  of := fun _ _ e => ⟨_, He.frG_in, e⟩
  keeps := fun _ _ _ ⟨K, hK, c⟩ k => ⟨K, PySem.W.Frag.In.keeps hK k, c⟩
theorem obsGG_eq {n : Nat} {bs : List (Fg → Bool)} {ds : List DG} {g : Addr → Option Obj} {s : Shared} (h : ∀ a, g a = s.heap.get? a) : obsGG n bs ds g = (hookG n bs ds).obs s := by
  have e : g = s.heap.get? := funext h
  subst e
  rfl
section
variable {bs : List (Fg → Bool)} {ds : List DG} {K : Fg}
theorem SaysF.b (c : SaysF bs ds K) (i : Nat) {b : Fg → Bool} (h : bs[i]? = some b := by rfl) : b K = true := by
  have c1 : ((bs.all fun b => b K) && ds.all fun d => d.good K) = true := congrArg (fun z : AlG => z.1) c
  exact List.all_eq_true.mp (Bool.and_eq_true_iff.mp c1).1 b (List.mem_of_getElem? h)
theorem SaysF.d (c : SaysF bs ds K) (i : Nat) {d : DG} (h : ds[i]? = some d := by rfl) : ∃ fd, FD K d fd := by
  have c1 : ((bs.all fun b => b K) && ds.all fun d => d.good K) = true := congrArg (fun z : AlG => z.1) c
  have e : (ds.map fun d => d.seen K) = ds.map DG.due := congrArg (fun z : AlG => z.2) c
  have e2 : (ds.map fun d => d.seen K)[i]? = (ds.map DG.due)[i]? := by rw [e]
  rw [List.getElem?_map, List.getElem?_map, h] at e2
  exact DG.fd (Option.some.inj e2) (List.all_eq_true.mp (Bool.and_eq_true_iff.mp c1).2 d (List.mem_of_getElem? h))
end
/-! ### the facts as Bools -/
/-- the function of a static method: through its record -/
def smA (x m : Str) (K : Fg) : Addr := match PySem.W.recIn K (He.ma K (He.ga K x) m) "staticmethod" with
  | some (.ref g :: _) => g
  | _ => 0
/-- the getter of a property -/
def prA (x m : Str) (K : Fg) : Addr := match PySem.W.recIn K (He.ma K (He.ga K x) m) "property" with
  | some (.ref g :: _) => g
  | _ => 0
def isSomeRef (o : Option (Option Value)) : Bool := match o with
  | some (some (.ref _)) => true
  | _ => false
def recHead (o : Option (List Value)) (g : Addr) : Bool := match o with
  | some (.ref h :: _) => decide (h = g)
  | _ => false
theorem recHead_ok {o : Option (List Value)} {g : Addr} (h : recHead o g = true) : ∃ rest, o = some (.ref g :: rest) := by
  cases o with
  | none => cases h
  | some l =>
    cases l with
    | nil => cases h
    | cons v r =>
      cases v with
      | ref b =>
        have e : b = g := of_decide_eq_true h
        exact ⟨r, by rw [e]⟩
      | _ => cases h
def staticB (x m : Str) (K : Fg) : Bool := PySem.W.readsIn K (He.ga K x) (.type "type") && (decide (PySem.W.specialIn K (.ref (He.ga K x)) "__getattribute__" = some (some (.builtin "type.__getattribute__"))) &&
  ((match PySem.W.findCls K (.ref (He.ga K x)) (.type "type") m with
    | some (.get (.builtin i) (.ref p) .none (.ref c)) => decide (i = "staticmethod.__get__") && (decide (p = He.ma K (He.ga K x) m) && decide (c = He.ga K x))
    | _ => false) && (recHead (PySem.W.recIn K (He.ma K (He.ga K x) m) "staticmethod") (smA x m K) && PySem.W.keepIn K (.ref (smA x m K)))))
theorem staticB_ok {x m : Str} {K : Fg} (h : staticB x m K = true) : ClX.CRead K (He.ga K x) (.type "type") ∧ SMet K (He.ga K x) (.type "type") m (He.ma K (He.ga K x) m) (smA x m K) := by
  obtain ⟨h1, h⟩ := Bool.and_eq_true_iff.mp h
  obtain ⟨h2, h⟩ := Bool.and_eq_true_iff.mp h
  obtain ⟨h3, h⟩ := Bool.and_eq_true_iff.mp h
  obtain ⟨h4, h5⟩ := Bool.and_eq_true_iff.mp h
  refine ⟨⟨h1, of_decide_eq_true h2⟩, ⟨?_, recHead_ok h4, h5⟩⟩
  split at h3
  · rename_i i p c e
    obtain ⟨q1, h3⟩ := Bool.and_eq_true_iff.mp h3
    obtain ⟨q2, q3⟩ := Bool.and_eq_true_iff.mp h3
    rw [e, of_decide_eq_true q1, of_decide_eq_true q2, of_decide_eq_true q3]
  · cases h3
def propB (x m : Str) (K : Fg) : Bool := decide (PySem.W.findIn K (.ref (He.ga K x)) m = some (some (.ref (He.ma K (He.ga K x) m)))) && (decide (PySem.W.specialIn K (.ref (He.ma K (He.ga K x) m)) "__get__" = some (some (.builtin "property.__get__"))) &&
  (decide (PySem.W.takesIn K (.ref (He.ma K (He.ga K x) m)) = some true) && recHead (PySem.W.recIn K (He.ma K (He.ga K x) m) "property") (prA x m K)))
theorem propB_ok {x m : Str} {K : Fg} (h : propB x m K = true) : PropOf K (He.ga K x) m (He.ma K (He.ga K x) m) (prA x m K) := by
  obtain ⟨h1, h⟩ := Bool.and_eq_true_iff.mp h
  obtain ⟨h2, h⟩ := Bool.and_eq_true_iff.mp h
  obtain ⟨h3, h4⟩ := Bool.and_eq_true_iff.mp h
  exact ⟨of_decide_eq_true h1, of_decide_eq_true h2, of_decide_eq_true h3, recHead_ok h4⟩
def someB {α : Type} (o : Option α) : Bool := o.isSome
/-- an operator's def in the class x; nm: add, sub .. -/
def opB (x : Str) (nm : String) (K : Fg) : Bool := PySem.W.selfFirst K (He.ga K x) && (decide (PySem.W.findIn K (.ref (He.ga K x)) (PySem.dunder nm) = some (some (.ref (He.ma K (He.ga K x) (PySem.dunder nm))))) &&
  (PySem.W.isFn K (.ref (He.ma K (He.ga K x) (PySem.dunder nm))) && ((decide (PySem.W.findIn K (.ref (He.ga K x)) (dunderR nm) = some none) || isSomeRef (PySem.W.findIn K (.ref (He.ga K x)) (dunderR nm))) &&
  ((PySem.W.findIn K (.type "int") (PySem.dunder nm)).isSome && ((PySem.W.findIn K (.type "int") (dunderR nm)).isSome && decide (PySem.W.subIn K (.type "int") (.ref (He.ga K x)) = some false))))))
theorem opB_ok {x : Str} {nm : String} {K : Fg} (h : opB x nm K = true) : OpOf K (He.ga K x) nm (He.ma K (He.ga K x) (PySem.dunder nm)) := by
  obtain ⟨h1, h⟩ := Bool.and_eq_true_iff.mp h
  obtain ⟨h2, h⟩ := Bool.and_eq_true_iff.mp h
  obtain ⟨h3, h⟩ := Bool.and_eq_true_iff.mp h
  obtain ⟨h4, h⟩ := Bool.and_eq_true_iff.mp h
  obtain ⟨h5, h⟩ := Bool.and_eq_true_iff.mp h
  obtain ⟨h6, h7⟩ := Bool.and_eq_true_iff.mp h
  refine ⟨h1, of_decide_eq_true h2, h3, ?_, Option.isSome_iff_exists.mp h5, Option.isSome_iff_exists.mp h6, of_decide_eq_true h7⟩
  rcases Bool.or_eq_true_iff.mp h4 with q | q
  · exact .inl (of_decide_eq_true q)
  · refine .inr ?_
    unfold isSomeRef at q
    split at q
    · rename_i a e
      exact ⟨a, e⟩
    · cases q
/-- the reflected def -/
def rfB (x : Str) (nm : String) (K : Fg) : Bool := PySem.W.selfFirst K (He.ga K x) && (isSomeRef (PySem.W.findIn K (.ref (He.ga K x)) (PySem.dunder nm)) && (decide (PySem.W.findIn K (.ref (He.ga K x)) (dunderR nm) = some (some (.ref (He.ma K (He.ga K x) (dunderR nm))))) &&
  (PySem.W.isFn K (.ref (He.ma K (He.ga K x) (dunderR nm))) && decide (PySem.W.subIn K (.ref (He.ga K x)) (.type "int") = some false))))
theorem rfB_ok {x : Str} {nm : String} {K : Fg} (h : rfB x nm K = true) : OpRf K (He.ga K x) nm (He.ma K (He.ga K x) (dunderR nm)) := by
  obtain ⟨h1, h⟩ := Bool.and_eq_true_iff.mp h
  obtain ⟨h2, h⟩ := Bool.and_eq_true_iff.mp h
  obtain ⟨h3, h⟩ := Bool.and_eq_true_iff.mp h
  obtain ⟨h4, h5⟩ := Bool.and_eq_true_iff.mp h
  refine ⟨h1, ?_, of_decide_eq_true h3, h4, of_decide_eq_true h5⟩
  unfold isSomeRef at h2
  split at h2
  · rename_i a e
    exact ⟨a, e⟩
  · cases h2
def unB (x m : Str) (K : Fg) : Bool := decide (PySem.W.findIn K (.ref (He.ga K x)) m = some (some (.ref (He.ma K (He.ga K x) m)))) && PySem.W.isFn K (.ref (He.ma K (He.ga K x) m))
theorem unB_ok {x m : Str} {K : Fg} (h : unB x m K = true) : UnOf K (He.ga K x) m (He.ma K (He.ga K x) m) := by
  obtain ⟨h1, h2⟩ := Bool.and_eq_true_iff.mp h
  exact ⟨of_decide_eq_true h1, h2⟩
def neB (x : Str) (K : Fg) : Bool := decide (PySem.W.mroIn K (He.ga K x) (.type "object") = some true) && decide (PySem.W.findIn K (.ref (He.ga K x)) "__ne__" = some (some (.builtin "object.__ne__")))
theorem neB_ok {x : Str} {K : Fg} (h : neB x K = true) : NeOf K (He.ga K x) := by
  obtain ⟨h1, h2⟩ := Bool.and_eq_true_iff.mp h
  exact ⟨of_decide_eq_true h1, of_decide_eq_true h2⟩
/-- isinstance of its instances: what of the class it asks -/
def insB (x : Str) (K : Fg) : Bool := decide (PySem.W.findIn K (.ref (He.ga K x)) "__class__" = some (some (.builtin "object.__class__"))) && (decide (PySem.W.specialIn K (.builtin "object.__class__") "__get__" = some (some (.builtin "getset_descriptor.__get__"))) &&
  (decide (PySem.W.takesIn K (.builtin "object.__class__") = some true) && decide (PySem.W.mroIn K (He.ga K x) (.type "object") = some true)))
structure InsF (K : Fg) (C : Addr) : Prop where
  ha : PySem.W.findIn K (.ref C) "__class__" = some (some (.builtin "object.__class__"))
  hn : PySem.W.specialIn K (.builtin "object.__class__") "__get__" = some (some (.builtin "getset_descriptor.__get__"))
  ht : PySem.W.takesIn K (.builtin "object.__class__") = some true
  hm : PySem.W.mroIn K C (.type "object") = some true
theorem insB_ok {x : Str} {K : Fg} (h : insB x K = true) : InsF K (He.ga K x) := by
  obtain ⟨h1, h⟩ := Bool.and_eq_true_iff.mp h
  obtain ⟨h2, h⟩ := Bool.and_eq_true_iff.mp h
  obtain ⟨h3, h4⟩ := Bool.and_eq_true_iff.mp h
  exact ⟨of_decide_eq_true h1, of_decide_eq_true h2, of_decide_eq_true h3, of_decide_eq_true h4⟩
theorem InsF.ty {K : Fg} {C a dx : Addr} {H : Hp} {fs : List (Str × V)} (i : InsF K C) (c : Cls K C) (h : H a = some (.ins C dx fs)) : TyX K H (.ref a) (.ref C) := .base (.ins h c i.ha i.hn i.ht i.hm)
/-- isinstance of own instances against a class of the text or a built-in type -/
def kitG (x y : Str) (b : Bool) (K : Fg) : Bool := decide (PySem.W.kitOne K (.ref (He.ga K x)) (.ref (He.ga K y)) = some b)
def kitT (x : Str) (T : String) (b : Bool) (K : Fg) : Bool := decide (PySem.W.kitOne K (.ref (He.ga K x)) (.type T) = some b)
/-- a built-in value against a class of the text -/
def kitS (T : String) (y : Str) (b : Bool) (K : Fg) : Bool := decide (PySem.W.kitOne K (.type T) (.ref (He.ga K y)) = some b)
def nfS (x : Str) (T : String) (K : Fg) : Bool := PySem.W.notFirst K (He.ga K x) (.type T)
def nfC (x y : Str) (K : Fg) : Bool := PySem.W.notFirst K (He.ga K x) (.ref (He.ga K y))
/-- a constant of a class, read off the class -/
def cvalI (x m : Str) (i : Int) (K : Fg) : Bool := PySem.W.readsIn K (He.ga K x) (.type "type") && (decide (PySem.W.specialIn K (.ref (He.ga K x)) "__getattribute__" = some (some (.builtin "type.__getattribute__"))) &&
  (match PySem.W.findCls K (.ref (He.ga K x)) (.type "type") m with
    | some (.val (.int j _)) => decide (j = i)
    | _ => false))
theorem cvalI_ok {x m : Str} {i : Int} {K : Fg} (h : cvalI x m i K = true) : ClX.CRead K (He.ga K x) (.type "type") ∧ ∃ u, ClX.CVal K (He.ga K x) (.type "type") m (.int i) u := by
  obtain ⟨h1, h⟩ := Bool.and_eq_true_iff.mp h
  obtain ⟨h2, h3⟩ := Bool.and_eq_true_iff.mp h
  refine ⟨⟨h1, of_decide_eq_true h2⟩, ?_⟩
  split at h3
  · rename_i j t e
    have ej : j = i := of_decide_eq_true h3
    exact ⟨.int j t, e, by rw [ej]; exact ⟨t, rfl⟩⟩
  · cases h3
end GX

/-! GM: plain arithmetic of fractions in lowest terms. -/
namespace GM
/-- one turn of the law's loop for the greatest common divisor -/
def eust (p : Nat × Nat) : Nat × Nat := if 0 < p.2 then (p.2, p.1 % p.2) else p
def eu : Nat → Nat × Nat → Nat × Nat
  | 0, p => p
  | n + 1, p => eust (eu n p)
theorem eu_st : ∀ (n : Nat) (p : Nat × Nat), eu n (eust p) = eust (eu n p)
  | 0, _ => rfl
  | n + 1, p => by
    show eust (eu n (eust p)) = eust (eust (eu n p))
    rw [eu_st n p]
theorem gcd_st (p : Nat × Nat) : Nat.gcd (eust p).1 (eust p).2 = Nat.gcd p.1 p.2 := by
  unfold eust
  split
  · show Nat.gcd p.2 (p.1 % p.2) = _
    rw [Nat.gcd_comm p.1 p.2, Nat.gcd_rec p.2 p.1, Nat.gcd_comm]
  · rfl
theorem gcd_eu : ∀ (n : Nat) (p : Nat × Nat), Nat.gcd (eu n p).1 (eu n p).2 = Nat.gcd p.1 p.2
  | 0, _ => rfl
  | n + 1, p => by
    show Nat.gcd (eust (eu n p)).1 (eust (eu n p)).2 = _
    rw [gcd_st, gcd_eu n p]
theorem eu_add (p : Nat × Nat) : ∀ (m n : Nat), eu (n + m) p = eu n (eu m p)
  | m, 0 => by
    show eu (0 + m) p = eu m p
    rw [Nat.zero_add]
  | m, n + 1 => by
    have e : n + 1 + m = (n + m) + 1 := by omega
    rw [e]
    show eust (eu (n + m) p) = eust (eu n (eu m p))
    rw [eu_add p m n]
theorem eu_zero : ∀ (n : Nat) (p : Nat × Nat), p.2 = 0 → eu n p = p
  | 0, _, _ => rfl
  | n + 1, p, h => by
    show eust (eu n p) = p
    rw [eu_zero n p h]
    unfold eust
    rw [if_neg (by omega)]
theorem eu_two (m : Nat) : ∀ (a b : Nat), b < 2 ^ m → (eu (2 * m) (a, b)).2 = 0 := by
  induction m with
  | zero =>
    intro a b h
    have e : b = 0 := by simpa using h
    show b = 0
    exact e
  | succ m ih =>
    intro a b h
    by_cases hb : b = 0
    · subst hb
      rw [eu_zero _ _ rfl]
    · have e : 2 * (m + 1) = 2 * m + 2 := by omega
      rw [e, eu_add]
      have h2 : eu 2 (a, b) = eust (eust (a, b)) := rfl
      have h1 : eust (a, b) = (b, a % b) := by
        unfold eust
        rw [if_pos (by show 0 < b; omega)]
      rw [h2, h1]
      by_cases hr : a % b = 0
      · rw [hr]
        have h3 : eust (b, 0) = (b, 0) := rfl
        rw [h3, eu_zero _ _ rfl]
      · have h3 : eust (b, a % b) = (a % b, b % (a % b)) := by
          unfold eust
          rw [if_pos (by show 0 < a % b; omega)]
        rw [h3]
        refine ih _ _ ?_
        have l1 : a % b < b := Nat.mod_lt _ (by omega)
        have l2 : b % (a % b) < a % b := Nat.mod_lt _ (by omega)
        have l3 : b % (a % b) ≤ b - (a % b) := by
          have := Nat.div_add_mod b (a % b)
          have hq : 1 ≤ b / (a % b) := (Nat.one_le_div_iff (by omega)).mpr (Nat.le_of_lt l1)
          have : (a % b) * 1 ≤ (a % b) * (b / (a % b)) := Nat.mul_le_mul_left _ hq
          omega
        have l4 : 2 ^ (m + 1) = 2 * 2 ^ m := by rw [Nat.pow_succ, Nat.mul_comm]
        omega
/-- behind enough turns: the greatest common divisor and 0 -/
theorem eu_end {n m a b : Nat} (h : b < 2 ^ m) (hn : 2 * m ≤ n) : eu n (a, b) = (Nat.gcd a b, 0) := by
  obtain ⟨k, rfl⟩ := Nat.le.dest hn
  rw [Nat.add_comm, eu_add]
  have z := eu_two m a b h
  rw [eu_zero _ _ z]
  have g := gcd_eu (2 * m) (a, b)
  rw [z, Nat.gcd_zero_right] at g
  exact Prod.ext g z

/-! ### lowest terms -/
def rt (t b : Int) : Int := t / (Int.gcd t b : Int)
def rb (t b : Int) : Int := b / (Int.gcd t b : Int)
theorem gpos {t b : Int} (hb : 0 < b) : 0 < (Int.gcd t b : Int) := by
  have : Int.gcd t b ≠ 0 := by
    intro z
    have := (Int.gcd_eq_zero_iff.mp z).2
    omega
  omega
theorem gle {t b : Int} (hb : 0 < b) : (Int.gcd t b : Int) ≤ b := Int.le_of_dvd hb (Int.gcd_dvd_right t b)
theorem rb_pos {t b : Int} (hb : 0 < b) : 0 < rb t b := by
  unfold rb
  exact Int.ediv_pos_of_pos_of_dvd hb (Int.le_of_lt (gpos hb)) (Int.gcd_dvd_right t b)
theorem rt_mul {t b : Int} : rt t b * (Int.gcd t b : Int) = t := Int.ediv_mul_cancel (Int.gcd_dvd_left t b)
theorem rb_mul {t b : Int} : rb t b * (Int.gcd t b : Int) = b := Int.ediv_mul_cancel (Int.gcd_dvd_right t b)
theorem rt_le {t b : Int} (hb : 0 < b) : (rt t b).natAbs ≤ t.natAbs := by
  have e := congrArg Int.natAbs (rt_mul (t := t) (b := b))
  rw [Int.natAbs_mul] at e
  have h1 : 1 ≤ ((Int.gcd t b : Int)).natAbs := by
    have := gpos (t := t) hb
    omega
  calc (rt t b).natAbs = (rt t b).natAbs * 1 := (Nat.mul_one _).symm
    _ ≤ (rt t b).natAbs * ((Int.gcd t b : Int)).natAbs := Nat.mul_le_mul_left _ h1
    _ = t.natAbs := e
theorem rb_le {t b : Int} (hb : 0 < b) : (rb t b).natAbs ≤ b.natAbs := by
  have e := congrArg Int.natAbs (rb_mul (t := t) (b := b))
  rw [Int.natAbs_mul] at e
  have h1 : 1 ≤ ((Int.gcd t b : Int)).natAbs := by
    have := gpos (t := t) hb
    omega
  calc (rb t b).natAbs = (rb t b).natAbs * 1 := (Nat.mul_one _).symm
    _ ≤ (rb t b).natAbs * ((Int.gcd t b : Int)).natAbs := Nat.mul_le_mul_left _ h1
    _ = b.natAbs := e
/-- the pair is in lowest terms -/
def Low (t b : Int) : Prop := 0 < b ∧ Int.gcd t b = 1
theorem low_red {t b : Int} (hb : 0 < b) : Low (rt t b) (rb t b) := by
  refine ⟨rb_pos hb, ?_⟩
  unfold rt rb
  have h : 0 < Int.gcd t b := by
    have := gpos (t := t) hb
    omega
  exact Int.gcd_ediv_gcd_ediv_gcd h
theorem low_rt {t b : Int} (h : Low t b) : rt t b = t := by
  unfold rt
  rw [h.2]
  exact Int.ediv_one t
theorem low_rb {t b : Int} (h : Low t b) : rb t b = b := by
  unfold rb
  rw [h.2]
  exact Int.ediv_one b
theorem scale_g {m t b : Int} (hm : 0 < m) : (Int.gcd (t * m) (b * m) : Int) = (Int.gcd t b : Int) * m := by
  rw [Int.gcd_mul_right]
  have : ((m.natAbs : Nat) : Int) = m := Int.natAbs_of_nonneg (Int.le_of_lt hm)
  rw [Int.natCast_mul, this]
theorem rt_scale {m t b : Int} (hm : 0 < m) : rt (t * m) (b * m) = rt t b := by
  unfold rt
  rw [scale_g hm, Int.mul_ediv_mul_of_pos_left _ _ hm]
theorem rb_scale {m t b : Int} (hm : 0 < m) : rb (t * m) (b * m) = rb t b := by
  unfold rb
  rw [scale_g hm, Int.mul_ediv_mul_of_pos_left _ _ hm]
theorem low_neg {t b : Int} (h : Low t b) : Low (-t) b := by
  refine ⟨h.1, ?_⟩
  have e : Int.gcd (-t) b = Int.gcd t b := by simp [Int.gcd]
  rw [e]
  exact h.2
theorem low_one (t : Int) : Low t 1 := ⟨by omega, by simp⟩
/-! ### sizes -/
def Sz (i : Int) (n : Nat) : Prop := i.natAbs < 2 ^ n
theorem Sz.mono {i : Int} {m n : Nat} (h : Sz i m) (hn : m ≤ n) : Sz i n := Nat.lt_of_lt_of_le h (Nat.pow_le_pow_right (by omega) hn)
theorem Sz.mul {i j : Int} {m n : Nat} (h : Sz i m) (k : Sz j n) : Sz (i * j) (m + n) := by
  unfold Sz
  rw [Int.natAbs_mul, Nat.pow_add]
  exact Nat.mul_lt_mul'' h k
theorem Sz.add {i j : Int} {m n : Nat} (h : Sz i m) (k : Sz j n) : Sz (i + j) (m + n + 1) := by
  have h1 := h.mono (n := m + n) (by omega)
  have k1 := k.mono (n := m + n) (by omega)
  unfold Sz at *
  have e : 2 ^ (m + n + 1) = 2 * 2 ^ (m + n) := by rw [Nat.pow_succ, Nat.mul_comm]
  omega
theorem Sz.neg {i : Int} {m : Nat} (h : Sz i m) : Sz (-i) m := by
  unfold Sz at *
  omega
theorem Sz.sub {i j : Int} {m n : Nat} (h : Sz i m) (k : Sz j n) : Sz (i - j) (m + n + 1) := h.add k.neg
theorem Sz.rt {t b : Int} {m : Nat} (h : Sz t m) (hb : 0 < b) : Sz (rt t b) m := Nat.lt_of_le_of_lt (rt_le hb) h
theorem Sz.rb {t b : Int} {m : Nat} (h : Sz b m) (hb : 0 < b) : Sz (rb t b) m := Nat.lt_of_le_of_lt (rb_le hb) h
theorem Sz.gcd {t b : Int} {m : Nat} (h : Sz b m) (hb : 0 < b) : Sz (Int.gcd t b : Int) m := by
  have := gle (t := t) hb
  have := gpos (t := t) hb
  unfold Sz at *
  omega
theorem Sz.nat {k : Nat} {m : Nat} (h : k < 2 ^ m) : Sz (k : Int) m := by
  unfold Sz
  simpa using h
end GM

open PySem PySem.Spec PyProof.Rows L2 GX GM
local macro_rules | `(tactic| walk_at "kn") => `(tactic| first | assumption | (refine Kn.mv (by assumption) ?_; walk_at "kn"))
local macro_rules | `(tactic| walk_at "al") => `(tactic| first | assumption | (refine Al.mv (by assumption) ?_; walk_at "al") | exact Al.nil)
theorem GX.same_at {H H' : Hp} {a : Addr} {o : HO} (s : Same H H') (h : H a = some o) : H' a = some o := s a o h
local macro_rules | `(tactic| walk_at "hs") => `(tactic| first | assumption | (refine same_at (by assumption) ?_; walk_at "hs"))
local macro_rules | `(tactic| walk_at "hp") => `(tactic| first | assumption | (exact Kn.at (by walk_at "kn")) | walk_at "hs")
theorem GX.cdivw {i j : Int} {n : Nat} (h : 0 < j) (s : Sz j n) (h9 : Nat.ble n 9000 = true) : CDivW i j := by
  refine ⟨h, ?_⟩
  have h2 : j.natAbs < 2 ^ 9000 := Nat.lt_of_lt_of_le s (Nat.pow_le_pow_right (by omega) (Nat.le_of_ble_eq_true h9))
  exact PySem.Flt.log2_lt_of (by omega) h2
theorem GX.cmulw {i j : Int} {m n : Nat} (h : Sz i m) (k : Sz j n) (h9 : Nat.ble (m + n) 900000 = true) : IntMulOk i j :=
  (wide_mul (a := m + 1) (b := n + 1) (h.mono (by omega)) (k.mono (by omega)) (by omega) (by omega) (by have := Nat.le_of_ble_eq_true h9; omega)).ok
local macro_rules | `(tactic| walk_at "sm") => `(tactic| first | exact Same.refl _ | assumption | (refine Same.trans ?_ (by assumption); walk_at "sm"))
local macro_rules | `(tactic| walk_at "sqL") => `(tactic| first | assumption | (exact Kn.sqL (by walk_at "kn")) | (exact SqL.of (by assumption)) | (refine Same.seq (by assumption) ?_; walk_at "sqL"))
local macro_rules | `(tactic| walk_at "sqT") => `(tactic| first | assumption | (exact Kn.sqT (by walk_at "kn")) | (exact SqT.of (by assumption)) | (refine same_seqT (by assumption) ?_; walk_at "sqT"))
local macro_rules | `(tactic| walk_at "bd") => `(tactic| first | assumption | (exact (Sz.nat (by decide))) | (refine Sz.mul ?_ ?_ <;> walk_at "bd") | (refine Sz.add ?_ ?_ <;> walk_at "bd") | (refine Sz.sub ?_ ?_ <;> walk_at "bd") | (refine Sz.neg ?_; walk_at "bd") | (exact (show Int.natAbs _ < 2 ^ 64 by decide)))
/-- by a small number -/
theorem GX.cmulr {i j : Int} (h1 : -(2 ^ 64) < j) (h2 : j < 2 ^ 64) : IntMulOk i j := .of_right (intBits_le_64 h1 h2)
/-- one step of a reading -/
local macro_rules | `(tactic| walk_at "gs") => `(tactic| first
  | with_reducible refine g_seq ?_
  | with_reducible refine g_nx ?_
  | with_reducible refine g_rt ?_
  | with_reducible refine g_bk ?_
  | with_reducible refine g_ct ?_
  | with_reducible refine g_var rfl ?_
  | with_reducible refine g_c ?_
  | with_reducible refine g_cons ?_
  | with_reducible refine g_nil ?_
  | with_reducible refine g_op ?_
  | with_reducible refine g_un ?_
  | with_reducible refine g_cb ?_
  | with_reducible refine g_ca ?_
  | with_reducible refine g_asg ?_
  | with_reducible refine g_ret ?_
  | with_reducible refine g_ifS ?_
  | with_reducible refine g_test ?_
  | with_reducible refine g_B ?_
  | with_reducible refine g_and ?_
  | with_reducible refine g_or ?_
  | with_reducible refine g_not ?_
  | with_reducible refine g_if ?_
  | with_reducible refine g_andV ?_
  | with_reducible refine g_orV ?_
  | with_reducible refine g_notV ?_
  | with_reducible refine g_bl ?_
  | with_reducible refine g_drop ?_
  | with_reducible refine g_next ?_
  | with_reducible refine g_retN ?_
  | with_reducible refine g_I0 ?_
  | with_reducible refine g_U ?_
  | with_reducible refine g_eqI ?_
  | with_reducible refine g_neI ?_
  | with_reducible refine g_eqB ?_
  | with_reducible refine g_neB ?_
  | with_reducible refine g_eqS ?_
  | with_reducible refine g_neS ?_
  | with_reducible refine g_isN ?_
  | with_reducible refine g_notN ?_
  | with_reducible refine g_abs ?_
  | with_reducible refine g_int ?_
  | with_reducible refine g_bool ?_
  | with_reducible refine g_tup ?_
  | with_reducible refine g_lst ?_
  | with_reducible refine g_par ?_
  | with_reducible refine g_gsub ?_
  | with_reducible refine g_sl ?_
  | with_reducible refine g_slK ?_
  | with_reducible refine g_noPart ?_
  | with_reducible refine g_part ?_
  | with_reducible refine g_partK ?_
  | ((with_reducible show rLenS _ [V.ref _] _ _); first | refine g_lenL (by walk_at "sqL") ?_ | refine g_lenT (by walk_at "sqT") ?_)
  | with_reducible refine g_subK ?_
  | with_reducible refine g_fld ?_
  | with_reducible refine g_mk ?_
  | with_reducible refine g_me ?_
  | with_reducible refine g_pr ?_
  | ((with_reducible show gTup _ _ _ (V.ref _) _ _ _); refine g_gtup (by walk_at "sqT") (by exact rfl) ?_)
  | with_reducible refine g_gcons ?_
  | with_reducible refine g_gconsK ?_
  | with_reducible refine g_gnil ?_
  | with_reducible refine g_gfld ?_
  | with_reducible refine g_par3 ?_
  | ((with_reducible show rIxL _ (V.ref _) (V.int _) _ _); refine g_ixL (by walk_at "sqL") (by exact rfl) ?_)
  | ((with_reducible show rIxT _ (V.ref _) (V.int _) _ _); refine g_ixT (by walk_at "sqT") (by exact rfl) ?_)
  | (refine g_name (by dsimp only [List.set] <;> exact rfl) ?_)
  | (refine g_par' (by dsimp only [List.set] <;> exact rfl) ?_)
  | (refine g_par3' (by dsimp only [List.set] <;> exact rfl) ?_)
  | (with_reducible refine g_tupK rfl (by walk_at "al") fun _ _ _ _ _ _ => ?_)
  | (with_reducible refine g_lstK rfl (by walk_at "al") fun _ _ _ _ _ _ => ?_))
local macro_rules | `(tactic| walk_at "go") => `(tactic| repeat walk_at "gs")

namespace GX
open PySem PySem.Spec PyProof.Rows L2 GM
theorem gcS {mg : Str → Option Value} {x z : Str} (h : ∃ t, mg x = some (.str z t)) : ∃ u, mg x = some u ∧ RelV (.str z) u := let ⟨t, e⟩ := h; ⟨_, e, ⟨t, rfl⟩⟩
theorem gcI {mg : Str → Option Value} {x : Str} {i : Int} (h : ∃ t, mg x = some (.int i t)) : ∃ u, mg x = some u ∧ RelV (.int i) u := let ⟨t, e⟩ := h; ⟨_, e, ⟨t, rfl⟩⟩
/-! ### the same data: numbers, texts, truth values, lists and tuples of them, n deep -/
def isSc : V → Bool
  | .non => true
  | .bl _ => true
  | .int _ => true
  | .str _ => true
  | _ => false
def Sm : Nat → Hp → V → V → Prop
  | 0, _, x, y => x = y ∧ isSc x = true
  | n + 1, H, x, y => (x = y ∧ isSc x = true) ∨ (∃ a b xs ys, x = .ref a ∧ y = .ref b ∧ ((H a = some (.lst xs) ∧ H b = some (.lst ys)) ∨ (H a = some (.tup xs) ∧ H b = some (.tup ys))) ∧ Nat.ble (xs.length + 1) 5000 = true ∧ xs.length = ys.length ∧
      ∀ (i : Nat) x' y', xs[i]? = some x' → ys[i]? = some y' → Sm n H x' y')
theorem Sm.mv {n : Nat} {H H' : Hp} (s : Same H H') : ∀ {x y : V}, Sm n H x y → Sm n H' x y := by
  induction n with
  | zero => exact fun h => h
  | succ n ih =>
    intro x y h
    rcases h with h | ⟨a, b, xs, ys, e1, e2, h, hz, hl, k⟩
    · exact .inl h
    · refine .inr ⟨a, b, xs, ys, e1, e2, ?_, hz, hl, fun i x' y' p q => ih (k i x' y' p q)⟩
      rcases h with ⟨h1, h2⟩ | ⟨h1, h2⟩
      · exact .inl ⟨s _ _ h1, s _ _ h2⟩
      · exact .inr ⟨s _ _ h1, s _ _ h2⟩
def Sms (n : Nat) (H : Hp) (xs ys : List V) : Prop := xs.length = ys.length ∧ ∀ (i : Nat) x' y', xs[i]? = some x' → ys[i]? = some y' → Sm n H x' y'
theorem Sms.nil {n : Nat} {H : Hp} : Sms n H [] [] := ⟨rfl, fun i x y h _ => by simp at h⟩
theorem Sms.cons {n : Nat} {H : Hp} {x y : V} {xs ys : List V} (h : Sm n H x y) (k : Sms n H xs ys) : Sms n H (x :: xs) (y :: ys) := by
  refine ⟨by rw [List.length_cons, List.length_cons, k.1], fun i a b h1 h2 => ?_⟩
  cases i with
  | zero =>
    simp at h1 h2
    subst h1 h2
    exact h
  | succ i =>
    simp at h1 h2
    exact k.2 i a b h1 h2
theorem Sm.sc {n : Nat} {H : Hp} {x : V} (h : isSc x = true) : Sm n H x x := by
  cases n with
  | zero => exact ⟨rfl, h⟩
  | succ n => exact .inl ⟨rfl, h⟩
theorem Sm.tup {n : Nat} {H : Hp} {a b : Addr} {xs ys : List V} (h1 : H a = some (.tup xs)) (h2 : H b = some (.tup ys)) (k : Sms n H xs ys) (hz : Nat.ble (xs.length + 1) 5000 = true := by rfl) : Sm (n + 1) H (.ref a) (.ref b) := .inr ⟨a, b, xs, ys, rfl, rfl, .inr ⟨h1, h2⟩, hz, k.1, k.2⟩
theorem Sm.lst {n : Nat} {H : Hp} {a b : Addr} {xs ys : List V} (h1 : H a = some (.lst xs)) (h2 : H b = some (.lst ys)) (k : Sms n H xs ys) (hz : Nat.ble (xs.length + 1) 5000 = true := by rfl) : Sm (n + 1) H (.ref a) (.ref b) := .inr ⟨a, b, xs, ys, rfl, rfl, .inl ⟨h1, h2⟩, hz, k.1, k.2⟩
/-- the law's look at two values that are the same -/
def spSame (n : Nat) : Sp := fun vs H Q _ => ∃ x y, vs = [x, y] ∧ Sm n H x y ∧ ∀ H', Same H H' → Q (.bl true) H'
/-! ### a comprehension over zip of two lists whose every element answers True -/
end GX

namespace GX
open PySem PySem.Spec PyProof.Rows L2 GM
def zipK (K : PySem.W.Frag) (R : It → Hp → Prop) : List V → Hp → Prop := fun vs H1 => ∃ a b xs ys, vs = [.ref a, .ref b] ∧ ((SqL K H1 a xs ∧ SqL K H1 b ys ∧ R (Itz K a b) H1) ∨ (SqT K H1 a xs ∧ SqT K H1 b ys ∧ R (RZ.ItzT K a b) H1))
def lcK (g : TG) (tt : TT) (te : TE) (vs : List Nat) (σ : L2.St) (Q : VK) : It → Hp → Prop := fun J H1 => ∀ D, H1 D = none → ∃ W : Nat → Nat → Hp → Prop, (∃ m, W 0 m (upd H1 D (.lst []))) ∧ ∀ i m H, W i m H →
  (J.stop i H ∧ Q (.ref D) H) ∨ (J.go i H ∧ ∃ Nx : Hp → Prop, (∀ H', Nx H' → ∃ m', m' < m ∧ W (i + 1) m' H') ∧ ∀ x H', J.yld i H x H' → g x (wipe σ vs) H' fun σ2 H2 => wipe σ2 vs = wipe σ vs ∧ tt σ2 H2 fun b H3 =>
    if b = true then te σ2 H3 fun y H4 => ∃ acc, H4 D = some (.lst acc) ∧ acc.length < sizeLine ∧ Nx (upd H4 D (.lst (acc ++ [y]))) else Nx H3)
theorem kq_NoneType_bool : kitB "NoneType" "bool" = some false := by decide +kernel
theorem kq_NoneType_int : kitB "NoneType" "int" = some false := by decide +kernel
theorem kq_NoneType_str : kitB "NoneType" "str" = some false := by decide +kernel
theorem kq_NoneType_list : kitB "NoneType" "list" = some false := by decide +kernel
theorem kq_NoneType_tuple : kitB "NoneType" "tuple" = some false := by decide +kernel
theorem kq_NoneType_dict : kitB "NoneType" "dict" = some false := by decide +kernel
theorem kq_bool_bool : kitB "bool" "bool" = some true := by decide +kernel
theorem kq_bool_int : kitB "bool" "int" = some true := by decide +kernel
theorem kq_bool_str : kitB "bool" "str" = some false := by decide +kernel
theorem kq_bool_list : kitB "bool" "list" = some false := by decide +kernel
theorem kq_bool_tuple : kitB "bool" "tuple" = some false := by decide +kernel
theorem kq_bool_dict : kitB "bool" "dict" = some false := by decide +kernel
theorem kq_int_bool : kitB "int" "bool" = some false := by decide +kernel
theorem kq_int_int : kitB "int" "int" = some true := by decide +kernel
theorem kq_int_str : kitB "int" "str" = some false := by decide +kernel
theorem kq_int_list : kitB "int" "list" = some false := by decide +kernel
theorem kq_int_tuple : kitB "int" "tuple" = some false := by decide +kernel
theorem kq_int_dict : kitB "int" "dict" = some false := by decide +kernel
theorem kq_str_bool : kitB "str" "bool" = some false := by decide +kernel
theorem kq_str_int : kitB "str" "int" = some false := by decide +kernel
theorem kq_str_str : kitB "str" "str" = some true := by decide +kernel
theorem kq_str_list : kitB "str" "list" = some false := by decide +kernel
theorem kq_str_tuple : kitB "str" "tuple" = some false := by decide +kernel
theorem kq_str_dict : kitB "str" "dict" = some false := by decide +kernel
theorem kq_list_bool : kitB "list" "bool" = some false := by decide +kernel
theorem kq_list_int : kitB "list" "int" = some false := by decide +kernel
theorem kq_list_str : kitB "list" "str" = some false := by decide +kernel
theorem kq_list_list : kitB "list" "list" = some true := by decide +kernel
theorem kq_list_tuple : kitB "list" "tuple" = some false := by decide +kernel
theorem kq_list_dict : kitB "list" "dict" = some false := by decide +kernel
theorem kq_tuple_bool : kitB "tuple" "bool" = some false := by decide +kernel
theorem kq_tuple_int : kitB "tuple" "int" = some false := by decide +kernel
theorem kq_tuple_str : kitB "tuple" "str" = some false := by decide +kernel
theorem kq_tuple_list : kitB "tuple" "list" = some false := by decide +kernel
theorem kq_tuple_tuple : kitB "tuple" "tuple" = some true := by decide +kernel
theorem kq_tuple_dict : kitB "tuple" "dict" = some false := by decide +kernel
theorem kq_dict_bool : kitB "dict" "bool" = some false := by decide +kernel
theorem kq_dict_int : kitB "dict" "int" = some false := by decide +kernel
theorem kq_dict_str : kitB "dict" "str" = some false := by decide +kernel
theorem kq_dict_list : kitB "dict" "list" = some false := by decide +kernel
theorem kq_dict_tuple : kitB "dict" "tuple" = some false := by decide +kernel
theorem kq_dict_dict : kitB "dict" "dict" = some true := by decide +kernel
section
variable {σ σ' : L2.St} {H : Hp} {Q : VK} {K : PySem.W.Frag} {te : TE} {ta : TA}
theorem g_lcZ {g : TG} {tt : TT} {vs : List Nat} (h : ta σ H (zipK K (lcK g tt te vs σ Q))) : tLc (RZ.iZipA K ta) g tt te vs σ H Q := h
/-- a comprehension over zip of two known lists, or tuples, whose every element answers True and leaves all as it was -/
theorem g_zipT {Ms : List Addr} {p q : Addr} {xs ys : List V} {i j : Nat} {vs : List Nat} (hz : Nat.ble (xs.length + 1) 5000 = true) (hl : xs.length = ys.length) (hs : (H p = some (.lst xs) ∧ H q = some (.lst ys)) ∨ (H p = some (.tup xs) ∧ H q = some (.tup ys))) (al : Al Ms H)
    (hw : ∀ x y, wipe (((wipe σ vs).set i (some x)).set j (some y)) vs = wipe σ vs)
    (hb : ∀ (n : Nat) (x y : V) (H' : Hp) (Q2 : VK), xs[n]? = some x → ys[n]? = some y → Same H H' → Gw Ms H H' → (∀ H2, Same H' H2 → Q2 (.bl true) H2) → te (((wipe σ vs).set i (some x)).set j (some y)) H' Q2)
    (k : ∀ D H', Same H H' → Gw Ms H H' → H D = none → Kn Ms H' D (.lst (List.replicate xs.length (.bl true))) → Q (.ref D) H') :
    zipK K (lcK (gTup K 2 (gCons (gName i) (gCons (gName j) gNil))) tYes te vs σ Q) [.ref p, .ref q] H := by
  have sz : xs.length < sizeLine := by
    have := Nat.le_of_ble_eq_true hz
    rw [sizeLine_eq]
    omega
  have body : ∀ (D : Addr), H D = none → ∀ (n : Nat) (x y : V) (T : Addr) (H0 : Hp), xs[n]? = some x → ys[n]? = some y → (Same H H0 ∧ H0 D = some (.lst (List.replicate n (.bl true)))) → H0 T = none →
      gTup K 2 (gCons (gName i) (gCons (gName j) gNil)) (.ref T) (wipe σ vs) (upd H0 T (.tup [x, y])) fun σ2 H2 => wipe σ2 vs = wipe σ vs ∧ tYes σ2 H2 fun b H3 =>
        if b = true then te σ2 H3 fun y H4 => ∃ acc, H4 D = some (.lst acc) ∧ acc.length < sizeLine ∧ (fun H' => Same H H' ∧ H' D = some (.lst (List.replicate (n + 1) (.bl true)))) (upd H4 D (.lst (acc ++ [y]))) else (fun H' => Same H H' ∧ H' D = some (.lst (List.replicate (n + 1) (.bl true)))) H3 := by
    intro D hD n x y T H0 hx hy ⟨s0, d0⟩ hT
    refine ⟨T, [x, y], rfl, SqT.of upd_same, rfl, x, [y], rfl, y, [], rfl, rfl, hw x y, ?_⟩
    dsimp only [tYes]
    rw [if_pos rfl]
    have s1 : Same H0 (upd H0 T (.tup [x, y])) := same_new hT
    obtain ⟨hn, _⟩ := List.getElem?_eq_some_iff.mp hx
    refine hb n x y _ _ hx hy (s0.trans s1) (gw_same (s0.trans s1)) fun H2 s2 => ?_
    refine ⟨_, s2 _ _ (s1 _ _ d0), by rw [List.length_replicate]; omega, fun a o e => ?_, ?_⟩
    · rw [upd_ne (ne_of_none e hD)]
      exact s2 _ _ (s1 _ _ (s0 _ _ e))
    · rw [upd_same, List.replicate_succ']
  rcases hs with ⟨h1, h2⟩ | ⟨h1, h2⟩
  · refine ⟨p, q, xs, ys, rfl, .inl ⟨SqL.of h1, SqL.of h2, fun D hD => ?_⟩⟩
    refine ⟨fun n m H' => m = xs.length - n ∧ n ≤ xs.length ∧ Same H H' ∧ H' D = some (.lst (List.replicate n (.bl true))), ⟨xs.length, rfl, Nat.zero_le _, same_new hD, upd_same⟩, ?_⟩
    rintro n m H' ⟨rfl, hn, s0, d0⟩
    have g1 : SqL K H' p xs := SqL.of (s0 _ _ h1)
    have g2 : SqL K H' q ys := SqL.of (s0 _ _ h2)
    by_cases hlt : n < xs.length
    · have hx : xs[n]? = some xs[n] := List.getElem?_eq_getElem hlt
      have hlt2 : n < ys.length := by omega
      have hy : ys[n]? = some ys[n] := List.getElem?_eq_getElem hlt2
      refine .inr ⟨⟨xs, ys, _, _, g1, g2, hx, hy⟩, fun H' => Same H H' ∧ H' D = some (.lst (List.replicate (n + 1) (.bl true))), fun H' p' => ⟨xs.length - (n + 1), by omega, rfl, hlt, p'⟩, fun v H' z => ?_⟩
      obtain ⟨T, x', y', rfl, hT, rfl, f1, f2⟩ := z
      exact body D hD n x' y' T _ (f1 xs g1) (f2 ys g2) ⟨s0, d0⟩ hT
    · have e : n = xs.length := by omega
      subst e
      exact .inl ⟨⟨xs, ys, g1, g2, Or.inl (Nat.le_refl _)⟩, k D H' s0 (gw_same s0) hD (Kn.new al hD d0)⟩
  · refine ⟨p, q, xs, ys, rfl, .inr ⟨SqT.of h1, SqT.of h2, fun D hD => ?_⟩⟩
    refine ⟨fun n m H' => m = xs.length - n ∧ n ≤ xs.length ∧ Same H H' ∧ H' D = some (.lst (List.replicate n (.bl true))), ⟨xs.length, rfl, Nat.zero_le _, same_new hD, upd_same⟩, ?_⟩
    rintro n m H' ⟨rfl, hn, s0, d0⟩
    have g1 : SqT K H' p xs := SqT.of (s0 _ _ h1)
    have g2 : SqT K H' q ys := SqT.of (s0 _ _ h2)
    by_cases hlt : n < xs.length
    · have hx : xs[n]? = some xs[n] := List.getElem?_eq_getElem hlt
      have hlt2 : n < ys.length := by omega
      have hy : ys[n]? = some ys[n] := List.getElem?_eq_getElem hlt2
      refine .inr ⟨⟨xs, ys, _, _, g1, g2, hx, hy⟩, fun H' => Same H H' ∧ H' D = some (.lst (List.replicate (n + 1) (.bl true))), fun H' p' => ⟨xs.length - (n + 1), by omega, rfl, hlt, p'⟩, fun v H' z => ?_⟩
      obtain ⟨T, x', y', rfl, hT, rfl, f1, f2⟩ := z
      exact body D hD n x' y' T _ (f1 xs g1) (f2 ys g2) ⟨s0, d0⟩ hT
    · have e : n = xs.length := by omega
      subst e
      exact .inl ⟨⟨xs, ys, g1, g2, Or.inl (Nat.le_refl _)⟩, k D H' s0 (gw_same s0) hD (Kn.new al hD d0)⟩
theorem g_allR {a : Addr} {n : Nat} (h : H a = some (.lst (List.replicate n (.bl true)))) (q : Q (.bl true) H) : rAll K [.ref a] H Q := by
  refine ⟨a, List.replicate n true, rfl, ?_, ?_⟩
  · rw [List.map_replicate]
    exact SqL.of h
  · have e : (List.replicate n true).all id = true := by
      rw [List.all_eq_true]
      intro x hx
      exact (List.mem_replicate.mp hx).2
    rw [e]
    exact q
/-- a loop over range(n) -/
def rngK (wf : It → Hp → Prop) : List V → Hp → Prop := fun vs H1 => ∃ j : Int, vs = [.int j] ∧ -(2 ^ 62) ≤ j ∧ j < 2 ^ 62 ∧ wf (Itr 0 j.toNat) H1
def forK (g : TG) (tb : TS) (D : Ends) (σ : L2.St) : It → Hp → Prop := fun J H1 => ∃ W : Nat → Nat → L2.St → Hp → Prop, (∃ m, W 0 m σ H1) ∧ ∀ i m σ H, W i m σ H →
  (J.stop i H ∧ D.nx σ H) ∨ (J.go i H ∧ ∃ N : L2.St → Hp → Prop, (∀ σ' H', N σ' H' → ∃ m', m' < m ∧ W (i + 1) m' σ' H') ∧ ∀ x H', J.yld i H x H' → g x σ H' fun σ2 H2 => tb { D with nx := N, ct := N, bk := D.nx } σ2 H2)
theorem g_for {wi : TI} {g : TG} {tb : TS} {D : Ends} (h : wi σ H (forK g tb D σ)) : tFor wi g tb D σ H := h
theorem g_rng {R : It → Hp → Prop} (h : ta σ H (rngK R)) : iRng1 ta σ H R := h
theorem g_rngK {n : Nat} {j : Nat} {tb : TS} {D : Ends} (hn : n < 2 ^ 62) (Pv : Nat → L2.St → Hp → Prop) (h0 : Pv 0 σ H)
    (hs : ∀ (i : Nat) σ' H', i < n → Pv i σ' H' → tb { D with nx := Pv (i + 1), ct := Pv (i + 1), bk := D.nx } (σ'.set j (some (.int (i : Int)))) H') (hd : ∀ σ' H', Pv n σ' H' → D.nx σ' H') : rngK (forK (gName j) tb D σ) [.int (n : Int)] H := by
  refine ⟨n, rfl, by omega, by omega, ?_⟩
  exact for_range (lo := 0) (n := (n : Int).toNat) Pv h0 (fun i σ' H' hi p => by
    have e0 : (0 : Int) + (i : Int) = (i : Int) := Int.zero_add _
    show tb { D with nx := Pv (i + 1), ct := Pv (i + 1), bk := D.nx } (σ'.set j (some (.int ((0 : Int) + (i : Int))))) H'
    rw [e0]
    exact hs i σ' H' (by omega) p) fun σ' H' p => hd σ' H' (by simpa using p)
def bitsK (Q : VK) : VK := fun x H1 => ∃ i, x = .int i ∧ Q (.int (Builtin.Int.intBits i : Nat)) H1
theorem g_bits {to : TE} (h : to σ H (bitsK Q)) : tBits to σ H Q := h
theorem g_bitsK {i : Int} (h : Q (.int (Builtin.Int.intBits i : Nat)) H) : bitsK Q (.int i) H := ⟨i, rfl, h⟩
theorem g_isiT {x : V} {tp : Addr} {cs : List V} {t : Value} {us : List Value} {b : Bool} (h : H tp = some (.tup cs)) (p : Paired ClsV cs us) (ty : TyX K H x t) (e : PySem.W.kitAny K t us = some b) (q : Q (.bl b) H) : rIsiT K [x, .ref tp] H Q := ⟨x, tp, cs, t, us, b, rfl, h, p, ty, e, q⟩
theorem g_isiB {x : V} {a b : String} {r : Bool} (ty : TyX K H x (.type a)) (h : kitB a b = some r) (q : Q (.bl r) H) : rIsi K [x, .ty b] H Q := ⟨x, .ty b, .type a, .type b, r, rfl, .ty _, ty, kit_ty h, q⟩
theorem g_isiLT {x : V} {a : String} {tp : Addr} (h : H tp = some (.tup [.ty "list", .ty "tuple"])) (ty : TyX K H x (.type a)) (h1 : kitB a "list" = some false) (h2 : kitB a "tuple" = some false) (q : Q (.bl false) H) : rIsiT K [x, .ref tp] H Q :=
  g_isiT h (.cons (.ty _) (.cons (.ty _) .nil)) ty (kitAny_cons (kit_ty h1) (fun _ => kitAny_cons (kit_ty h2) (fun _ => rfl) fun z => Bool.noConfusion z) fun z => Bool.noConfusion z) q
theorem g_isiL {x : V} {tp : Addr} (h : H tp = some (.tup [.ty "list", .ty "tuple"])) (ty : TyX K H x (.type "list")) (q : Q (.bl true) H) : rIsiT K [x, .ref tp] H Q :=
  g_isiT h (.cons (.ty _) (.cons (.ty _) .nil)) ty (kitAny_cons (kit_ty kq_list_list) (fun z => Bool.noConfusion z) fun _ => rfl) q
theorem g_isiU {x : V} {tp : Addr} (h : H tp = some (.tup [.ty "list", .ty "tuple"])) (ty : TyX K H x (.type "tuple")) (q : Q (.bl true) H) : rIsiT K [x, .ref tp] H Q :=
  g_isiT h (.cons (.ty _) (.cons (.ty _) .nil)) ty (kitAny_cons (kit_ty kq_tuple_list) (fun _ => kitAny_cons (kit_ty kq_tuple_tuple) (fun z => Bool.noConfusion z) fun _ => rfl) fun z => Bool.noConfusion z) q
end
end GX
open PySem PySem.Spec PyProof.Rows L2 GX GM
local macro_rules | `(tactic| walk_at "kq") => `(tactic| first
  | with_reducible exact GX.kq_NoneType_bool
  | with_reducible exact GX.kq_NoneType_int
  | with_reducible exact GX.kq_NoneType_str
  | with_reducible exact GX.kq_NoneType_list
  | with_reducible exact GX.kq_NoneType_tuple
  | with_reducible exact GX.kq_NoneType_dict
  | with_reducible exact GX.kq_bool_bool
  | with_reducible exact GX.kq_bool_int
  | with_reducible exact GX.kq_bool_str
  | with_reducible exact GX.kq_bool_list
  | with_reducible exact GX.kq_bool_tuple
  | with_reducible exact GX.kq_bool_dict
  | with_reducible exact GX.kq_int_bool
  | with_reducible exact GX.kq_int_int
  | with_reducible exact GX.kq_int_str
  | with_reducible exact GX.kq_int_list
  | with_reducible exact GX.kq_int_tuple
  | with_reducible exact GX.kq_int_dict
  | with_reducible exact GX.kq_str_bool
  | with_reducible exact GX.kq_str_int
  | with_reducible exact GX.kq_str_str
  | with_reducible exact GX.kq_str_list
  | with_reducible exact GX.kq_str_tuple
  | with_reducible exact GX.kq_str_dict
  | with_reducible exact GX.kq_list_bool
  | with_reducible exact GX.kq_list_int
  | with_reducible exact GX.kq_list_str
  | with_reducible exact GX.kq_list_list
  | with_reducible exact GX.kq_list_tuple
  | with_reducible exact GX.kq_list_dict
  | with_reducible exact GX.kq_tuple_bool
  | with_reducible exact GX.kq_tuple_int
  | with_reducible exact GX.kq_tuple_str
  | with_reducible exact GX.kq_tuple_list
  | with_reducible exact GX.kq_tuple_tuple
  | with_reducible exact GX.kq_tuple_dict
  | with_reducible exact GX.kq_dict_bool
  | with_reducible exact GX.kq_dict_int
  | with_reducible exact GX.kq_dict_str
  | with_reducible exact GX.kq_dict_list
  | with_reducible exact GX.kq_dict_tuple
  | with_reducible exact GX.kq_dict_dict)
local macro_rules | `(tactic| walk_at "gs") => `(tactic| first
  | with_reducible refine GX.g_lcZ ?_
  | with_reducible refine GX.g_for ?_
  | with_reducible refine GX.g_rng ?_
  | with_reducible refine GX.g_bits ?_
  | with_reducible refine GX.g_bitsK ?_
  | ((with_reducible show rIsi _ [V.int _, V.ty _] _ _); refine GX.g_isiB (.base (.int _)) (by walk_at "kq") ?_)
  | ((with_reducible show rIsi _ [V.str _, V.ty _] _ _); refine GX.g_isiB (.base (.str _)) (by walk_at "kq") ?_)
  | ((with_reducible show rIsi _ [V.bl _, V.ty _] _ _); refine GX.g_isiB (.base (.bl _)) (by walk_at "kq") ?_)
  | ((with_reducible show rIsi _ [V.non, V.ty _] _ _); refine GX.g_isiB (.base .non) (by walk_at "kq") ?_))

namespace GX
open PySem PySem.Spec PyProof.Rows L2 GM
section
variable {K : PySem.W.Frag} {x qual : Str} {params : Arguments} {body : List Stmt} {scope : Scope} {dvs : List V} {kws : List (Str × V)} {f : Addr} {fd : FuncData} {ps : List Str}
/-- keywords at a call of a def with positional defaults -/
theorem kb1 (F : FunD K x qual params body scope dvs kws f fd) (n : Nat) (ks : List Str) (g : {α : Type} → List α → List α → List α → List α) (hd : dvs ≠ [])
    (hrel : ∀ {vs ds zs : List V} {us its ws : List Value}, Vals vs us → Vals ds its → Vals zs ws → Vals (g vs ds zs) (g us its ws))
    (h : ∀ (T : Addr) (kV doc pm : Value) (an : Option Addr) (cdv ct : Value) (us its ws : List Value), us.length = n → its.length = dvs.length → ws.length = ks.length →
      ∃ k, bindArgs (PySem.W.fnOf x qual params body scope (.ref T) kV doc pm an cdv ct) ⟨us, ks.zip ws⟩ = seqItems? (.ref T) >>= k ∧ k (some its.toArray) = pure (ps.zip (g us its ws))) :
    ∃ its, KBn K fd ps n ks (fun us ws => g us its ws) (fun vs zs => g vs dvs zs) := by
  obtain ⟨oc, od, dV, kV, doc, pm, an, cdv, ct, osl, rfl, lk, hcd, hD, hK⟩ := F.ex
  rcases hD with ⟨e, _⟩ | ⟨_, T, o, its, m, rfl, lT, oT, rT⟩
  · exact absurd e hd
  · refine ⟨its, ⟨fun s us ws X l1 l2 => ?_, fun r1 r2 => hrel r1 rT r2⟩⟩
    obtain ⟨k, e1, e2⟩ := h T kV doc pm an cdv ct us its ws l1 rT.length.symm l2
    refine BindsTo.of_looks fun M => ?_
    rw [e1]
    exact looks_items X lT oT (.of_pure e2)
end
def Gk (P : Program) (w : World) (K : PySem.W.Frag) (mg : Str → Option Value) (base : Heap) (k : Nat) (x : Str) (C : Addr) (n : Nat) (ks : List Str) (sp : Sp) (gV : List V → List V → List V) : Prop :=
  ∃ f fd ps g, Mk K C f ∧ FnOk P w K mg base CX0 k f fd ps sp ∧ KBn K fd ps (n + 1) ks g gV ∧ mg x = some (.ref C)
def mkKK (C : Addr) (m : Nat) (sp : Sp) (gV : List V → List V → List V) (E : XK) (Q : VK) (vs : List V) : List V → Hp → Prop := fun zs H2 => vs.length = 0 ∧ zs.length = m ∧ ∀ x dx, H2 x = none → H2 dx = none → dx ≠ x →
  sp (gV (.ref x :: vs) zs) (upd (upd H2 dx (.own x)) x (.ins C dx [])) (fun v H3 => v = .non ∧ Q (.ref x) H3) E
section
variable {X : Cx} {k j : Nat} {C : Addr} {x : Str} {sp : Sp} {E : XK} {p pos : Pos} {tk : TA} {ks : List Str} {kws : List Keyword} {gV : List V → List V → List V} {σ : L2.St} {H : Hp} {Q : VK}
theorem pe_k0 (c : Gk X.prog X.w X.K X.mg X.base k x C 0 ks sp gV) (hr : Room j X.A) (hkw : PK X kws tk) (hk : k + 1 ≤ j := by decide) (hg : Gl X x := by rfl)
    (hall : (backToKw pos (keywordEach kws X.env)).all (·.1.isSome) = true := by rfl) (hks : (backToKw pos (keywordEach kws X.env)).filterMap (·.1) = ks := by rfl) (hdb : (x == ("__debug__" : Str)) = false := by decide)
    (hpl : ((backTo pos (starEach [] X.env)).any (·.1) || (backToKw pos (keywordEach kws X.env)).any (·.1.isNone)) = false := by rfl) :
    PE X (.Call (.Name x p) [] kws pos) (tMakeK C 0 ks.length sp gV E0 tNil tk) := by
  obtain ⟨f, fd, ps, g, M, F, hb, hm⟩ := c
  exact pe_makeK0 M F (hr.mono hk) hg hm hb passA hkw hall hks hdb hpl
theorem g_mkK0 {m : Nat} (h : tk σ H (mkKK C m sp gV E Q [])) : tMakeK C 0 m sp gV E tNil tk σ H Q := h
theorem g_mkKK {m : Nat} {zs : List V} (zs' : List V) (l : zs.length = m) (e : ∀ x, gV [.ref x] zs = .ref x :: zs') (h : mkK C sp E Q zs' H) : mkKK C m sp gV E Q [] zs H := ⟨rfl, l, fun x dx nx nd ne => by
  rw [e]
  exact h x dx nx nd ne⟩
def cvalK (K : PySem.W.Frag) (f : Str) (Q : VK) : VK := fun x H1 => ∃ C mc v u, x = .ref C ∧ ClX.CRead K C mc ∧ ClX.CVal K C mc f v u ∧ Q v H1
theorem g_cval {K : PySem.W.Frag} {ta : TE} {f : Str} (h : ta σ H (cvalK K f Q)) : ClX.tCVal K ta f σ H Q := h
theorem g_cvalK {K : PySem.W.Frag} {C : Addr} {f : Str} {v : V} {mc : Value} (h : ClX.CRead K C mc ∧ ∃ u, ClX.CVal K C mc f v u) (q : Q v H) : cvalK K f Q (.ref C) H := ⟨C, mc, v, _, rfl, h.1, h.2.choose_spec, q⟩
end
theorem pair_eqv {t d t2 d2 : Int} : PyData.eqv (.tuple [.int t, .int d]) (.tuple [.int t2, .int d2]) = (decide (t = t2) && decide (d = d2)) := by
  have e : PyData.eqv (.tuple [.int t, .int d]) (.tuple [.int t2, .int d2]) = ((t == t2) && ((d == d2) && true)) := by
    simp [PyData.eqv, PyData.eqvAll]
  rw [e, Bool.and_true]
  rfl
theorem pair_shaped {t d : Int} : SeqAt.shaped (.tuple [.int t, .int d]) = true := by
  rfl
theorem g_eqPair {K : PySem.W.Frag} {H : Hp} {Q : VK} {p q : Addr} {t d t2 d2 : Int} (hp : H p = some (.tup [.int t, .int d])) (hq : H q = some (.tup [.int t2, .int d2])) (k : Q (.bl (decide (t = t2) && decide (d = d2))) H) : rEqD K (.ref p) (.ref q) H Q := by
  refine ⟨.tuple [.int t, .int d], .tuple [.int t2, .int d2], .tup (SqT.of hp) (.cons (.int _) (.cons (.int _) .nil)), .tup (SqT.of hq) (.cons (.int _) (.cons (.int _) .nil)), pair_shaped, pair_shaped, ?_⟩
  rw [pair_eqv]
  exact k
end GX
open PySem PySem.Spec PyProof.Rows L2 GX GM
local macro_rules | `(tactic| walk_at "gs") => `(tactic| first
  | with_reducible refine GX.g_mkK0 ?_
  | with_reducible refine GX.g_cval ?_)

namespace LW
open PySem PySem.Spec PyProof.Rows L2 GX GM
def top (i : Nat) : Stmt := PySem.Challenge.pw_leastworld_k02_ratios_reckoned.main.body.getD i (.Pass ⟨0, 0, 0, 0⟩)
abbrev s_is_whole : Stmt := top 7
abbrev s_common_divisor : Stmt := top 8
abbrev s_Ratio_init : Stmt := inClass (top 10) 1
abbrev s_Ratio_of : Stmt := inClass (top 10) 2
abbrev s_Ratio_over : Stmt := inClass (top 10) 5
abbrev s_Ratio_add : Stmt := inClass (top 10) 8
abbrev s_Ratio_radd : Stmt := inClass (top 10) 9
abbrev s_Ratio_sub : Stmt := inClass (top 10) 10
abbrev s_Ratio_rsub : Stmt := inClass (top 10) 11
abbrev s_Ratio_mul : Stmt := inClass (top 10) 12
abbrev s_Ratio_rmul : Stmt := inClass (top 10) 13
abbrev s_Ratio_neg : Stmt := inClass (top 10) 14
abbrev s_Ratio_eq : Stmt := inClass (top 10) 16
abbrev s_law_bag : Stmt := top 13
abbrev s_law_pull : Stmt := top 14
abbrev s_law_same : Stmt := top 15
abbrev s_law_cut : Stmt := top 16
abbrev s_law_plus : Stmt := top 17
abbrev s_law_minus : Stmt := top 18
abbrev s_law_times : Stmt := top 19
abbrev s_law_over : Stmt := top 20
abbrev s_law_is : Stmt := top 21
abbrev s_law_signed : Stmt := top 22
abbrev s_law : Stmt := top 23
def d_is_whole : DG := ⟨fun K => He.ga K "is_whole", "is_whole", "is_whole", s_is_whole, []⟩
def d_common_divisor : DG := ⟨fun K => He.ga K "common_divisor", "common_divisor", "common_divisor", s_common_divisor, []⟩
def d_Ratio_init : DG := ⟨fun K => He.ma K (He.ga K "Ratio") "__init__", "__init__", "Ratio.__init__", s_Ratio_init, [.int 1]⟩
def d_Ratio_of : DG := ⟨smA "Ratio" "of", "of", "Ratio.of", s_Ratio_of, []⟩
def d_Ratio_over : DG := ⟨fun K => He.ma K (He.ga K "Ratio") "over", "over", "Ratio.over", s_Ratio_over, []⟩
def d_Ratio_add : DG := ⟨fun K => He.ma K (He.ga K "Ratio") "__add__", "__add__", "Ratio.__add__", s_Ratio_add, []⟩
def d_Ratio_radd : DG := ⟨fun K => He.ma K (He.ga K "Ratio") "__radd__", "__radd__", "Ratio.__radd__", s_Ratio_radd, []⟩
def d_Ratio_sub : DG := ⟨fun K => He.ma K (He.ga K "Ratio") "__sub__", "__sub__", "Ratio.__sub__", s_Ratio_sub, []⟩
def d_Ratio_rsub : DG := ⟨fun K => He.ma K (He.ga K "Ratio") "__rsub__", "__rsub__", "Ratio.__rsub__", s_Ratio_rsub, []⟩
def d_Ratio_mul : DG := ⟨fun K => He.ma K (He.ga K "Ratio") "__mul__", "__mul__", "Ratio.__mul__", s_Ratio_mul, []⟩
def d_Ratio_rmul : DG := ⟨fun K => He.ma K (He.ga K "Ratio") "__rmul__", "__rmul__", "Ratio.__rmul__", s_Ratio_rmul, []⟩
def d_Ratio_neg : DG := ⟨fun K => He.ma K (He.ga K "Ratio") "__neg__", "__neg__", "Ratio.__neg__", s_Ratio_neg, []⟩
def d_Ratio_eq : DG := ⟨fun K => He.ma K (He.ga K "Ratio") "__eq__", "__eq__", "Ratio.__eq__", s_Ratio_eq, []⟩
def d_law_bag : DG := ⟨fun K => He.ga K "_law_bag", "_law_bag", "_law_bag", s_law_bag, []⟩
def d_law_pull : DG := ⟨fun K => He.ga K "_law_pull", "_law_pull", "_law_pull", s_law_pull, []⟩
def d_law_same : DG := ⟨fun K => He.ga K "_law_same", "_law_same", "_law_same", s_law_same, []⟩
def d_law_cut : DG := ⟨fun K => He.ga K "_law_cut", "_law_cut", "_law_cut", s_law_cut, []⟩
def d_law_plus : DG := ⟨fun K => He.ga K "_law_plus", "_law_plus", "_law_plus", s_law_plus, []⟩
def d_law_minus : DG := ⟨fun K => He.ga K "_law_minus", "_law_minus", "_law_minus", s_law_minus, []⟩
def d_law_times : DG := ⟨fun K => He.ga K "_law_times", "_law_times", "_law_times", s_law_times, []⟩
def d_law_over : DG := ⟨fun K => He.ga K "_law_over", "_law_over", "_law_over", s_law_over, []⟩
def d_law_is : DG := ⟨fun K => He.ga K "_law_is", "_law_is", "_law_is", s_law_is, []⟩
def d_law_signed : DG := ⟨fun K => He.ga K "_law_signed", "_law_signed", "_law_signed", s_law_signed, []⟩
def d_law : DG := ⟨fun K => He.ga K "law", "law", "law", s_law, []⟩
def ds : List DG := [d_is_whole, d_common_divisor, d_Ratio_init, d_Ratio_of, d_Ratio_over, d_Ratio_add, d_Ratio_radd, d_Ratio_sub, d_Ratio_rsub, d_Ratio_mul, d_Ratio_rmul, d_Ratio_neg, d_Ratio_eq, d_law_bag, d_law_pull, d_law_same, d_law_cut, d_law_plus, d_law_minus, d_law_times, d_law_over, d_law_is, d_law_signed, d_law]
def bs : List (Fg → Bool) := [
  (fun K => (He.Fa.cls "Ratio").ok K),
  (fun K => (He.Fa.noat "Ratio" "top").ok K),
  (fun K => (He.Fa.noat "Ratio" "below").ok K),
  (fun K => (He.Fa.mkr "Ratio").ok K),
  (staticB "Ratio" "of"),
  (fun K => (He.Fa.meth "Ratio" "over").ok K),
  (opB "Ratio" "add"),
  (opB "Ratio" "sub"),
  (opB "Ratio" "mul"),
  (rfB "Ratio" "add"),
  (rfB "Ratio" "sub"),
  (rfB "Ratio" "mul"),
  (unB "Ratio" "__neg__"),
  (unB "Ratio" "__eq__"),
  (neB "Ratio"),
  (insB "Ratio"),
  (kitG "Ratio" "Ratio" true),
  (kitS "int" "Ratio" false),
  (kitS "tuple" "Ratio" false),
  (kitS "NoneType" "Ratio" false),
  (nfS "Ratio" "int"),
  (nfS "Ratio" "tuple"),
  (nfS "Ratio" "NoneType"),
  (nfC "Ratio" "Ratio"),
  (cvalI "Ratio" "MOST_DIGITS" 12),
  (fun K => (He.Fa.glo "Ratio").ok K),
  (fun K => (He.Fa.glo "is_whole").ok K),
  (fun K => (He.Fa.glo "common_divisor").ok K),
  (fun K => (He.Fa.glo "_law_bag").ok K),
  (fun K => (He.Fa.glo "_law_pull").ok K),
  (fun K => (He.Fa.glo "_law_same").ok K),
  (fun K => (He.Fa.glo "_law_cut").ok K),
  (fun K => (He.Fa.glo "_law_plus").ok K),
  (fun K => (He.Fa.glo "_law_minus").ok K),
  (fun K => (He.Fa.glo "_law_times").ok K),
  (fun K => (He.Fa.glo "_law_over").ok K),
  (fun K => (He.Fa.glo "_law_is").ok K),
  (fun K => (He.Fa.glo "_law_signed").ok K),
  (fun K => (He.Fa.glo "law").ok K),
  (fun K => (He.Fa.free "isinstance").ok K),
  (fun K => (He.Fa.free "int").ok K),
  (fun K => (He.Fa.free "bool").ok K),
  (fun K => (He.Fa.free "abs").ok K),
  (fun K => (He.Fa.free "list").ok K),
  (fun K => (He.Fa.free "len").ok K),
  (fun K => (He.Fa.free "tuple").ok K),
  (fun K => (He.Fa.free "all").ok K),
  (fun K => (He.Fa.free "zip").ok K),
  (fun K => (He.Fa.free "str").ok K),
  (fun K => (He.Fa.free "range").ok K)]
structure Raw (K : Fg) (mg : Str → Option Value) : Prop where
  says : SaysF bs ds K
  in_ : ∃ h : Heap, K.In h ∧ h.Ns mainGlobals mg
section
variable {K : Fg} {mg : Str → Option Value}
theorem f_cls_Ratio (R : Raw K mg) : Cls K (He.ga K "Ratio") := He.cls_ok (R.says.b 0)
theorem f_noat_Ratio_top (R : Raw K mg) : NoAttr K (He.ga K "Ratio") "top" := He.noat_ok (R.says.b 1)
theorem f_noat_Ratio_below (R : Raw K mg) : NoAttr K (He.ga K "Ratio") "below" := He.noat_ok (R.says.b 2)
theorem f_mkr_Ratio (R : Raw K mg) : Mk K (He.ga K "Ratio") (He.ma K (He.ga K "Ratio") "__init__") := He.mkr_ok (R.says.b 3)
theorem f_stat_Ratio_of (R : Raw K mg) : ClX.CRead K (He.ga K "Ratio") (.type "type") ∧ SMet K (He.ga K "Ratio") (.type "type") "of" (He.ma K (He.ga K "Ratio") "of") (smA "Ratio" "of" K) := staticB_ok (R.says.b 4)
theorem f_meth_Ratio_over (R : Raw K mg) : Meth K (He.ga K "Ratio") "over" (He.ma K (He.ga K "Ratio") "over") := He.meth_ok (R.says.b 5)
theorem f_op_Ratio_add (R : Raw K mg) : OpOf K (He.ga K "Ratio") "add" (He.ma K (He.ga K "Ratio") (PySem.dunder "add")) := opB_ok (R.says.b 6)
theorem f_op_Ratio_sub (R : Raw K mg) : OpOf K (He.ga K "Ratio") "sub" (He.ma K (He.ga K "Ratio") (PySem.dunder "sub")) := opB_ok (R.says.b 7)
theorem f_op_Ratio_mul (R : Raw K mg) : OpOf K (He.ga K "Ratio") "mul" (He.ma K (He.ga K "Ratio") (PySem.dunder "mul")) := opB_ok (R.says.b 8)
theorem f_rf_Ratio_add (R : Raw K mg) : OpRf K (He.ga K "Ratio") "add" (He.ma K (He.ga K "Ratio") (dunderR "add")) := rfB_ok (R.says.b 9)
theorem f_rf_Ratio_sub (R : Raw K mg) : OpRf K (He.ga K "Ratio") "sub" (He.ma K (He.ga K "Ratio") (dunderR "sub")) := rfB_ok (R.says.b 10)
theorem f_rf_Ratio_mul (R : Raw K mg) : OpRf K (He.ga K "Ratio") "mul" (He.ma K (He.ga K "Ratio") (dunderR "mul")) := rfB_ok (R.says.b 11)
theorem f_un_Ratio___neg__ (R : Raw K mg) : UnOf K (He.ga K "Ratio") "__neg__" (He.ma K (He.ga K "Ratio") "__neg__") := unB_ok (R.says.b 12)
theorem f_un_Ratio___eq__ (R : Raw K mg) : UnOf K (He.ga K "Ratio") "__eq__" (He.ma K (He.ga K "Ratio") "__eq__") := unB_ok (R.says.b 13)
theorem f_ne_Ratio (R : Raw K mg) : NeOf K (He.ga K "Ratio") := neB_ok (R.says.b 14)
theorem f_ins_Ratio (R : Raw K mg) : InsF K (He.ga K "Ratio") := insB_ok (R.says.b 15)
theorem f_kitG_Ratio_Ratio_true (R : Raw K mg) : PySem.W.kitOne K (.ref (He.ga K "Ratio")) (.ref (He.ga K "Ratio")) = some true := of_decide_eq_true (R.says.b 16)
theorem f_kitS_int_Ratio_false (R : Raw K mg) : PySem.W.kitOne K (.type "int") (.ref (He.ga K "Ratio")) = some false := of_decide_eq_true (R.says.b 17)
theorem f_kitS_tuple_Ratio_false (R : Raw K mg) : PySem.W.kitOne K (.type "tuple") (.ref (He.ga K "Ratio")) = some false := of_decide_eq_true (R.says.b 18)
theorem f_kitS_NoneType_Ratio_false (R : Raw K mg) : PySem.W.kitOne K (.type "NoneType") (.ref (He.ga K "Ratio")) = some false := of_decide_eq_true (R.says.b 19)
theorem f_nfS_Ratio_int (R : Raw K mg) : PySem.W.notFirst K (He.ga K "Ratio") (.type "int") = true := R.says.b 20
theorem f_nfS_Ratio_tuple (R : Raw K mg) : PySem.W.notFirst K (He.ga K "Ratio") (.type "tuple") = true := R.says.b 21
theorem f_nfS_Ratio_NoneType (R : Raw K mg) : PySem.W.notFirst K (He.ga K "Ratio") (.type "NoneType") = true := R.says.b 22
theorem f_nfC_Ratio_Ratio (R : Raw K mg) : PySem.W.notFirst K (He.ga K "Ratio") (.ref (He.ga K "Ratio")) = true := R.says.b 23
theorem f_cvalI_Ratio_MOST_DIGITS_12 (R : Raw K mg) : ClX.CRead K (He.ga K "Ratio") (.type "type") ∧ ∃ u, ClX.CVal K (He.ga K "Ratio") (.type "type") "MOST_DIGITS" (.int 12) u := cvalI_ok (R.says.b 24)
theorem f_glo_Ratio (R : Raw K mg) : mg "Ratio" = some (.ref (He.ga K "Ratio")) := let ⟨_, X, G⟩ := R.in_; He.glo_ok X G (R.says.b 25)
theorem f_glo_is_whole (R : Raw K mg) : mg "is_whole" = some (.ref (He.ga K "is_whole")) := let ⟨_, X, G⟩ := R.in_; He.glo_ok X G (R.says.b 26)
theorem f_glo_common_divisor (R : Raw K mg) : mg "common_divisor" = some (.ref (He.ga K "common_divisor")) := let ⟨_, X, G⟩ := R.in_; He.glo_ok X G (R.says.b 27)
theorem f_glo__law_bag (R : Raw K mg) : mg "_law_bag" = some (.ref (He.ga K "_law_bag")) := let ⟨_, X, G⟩ := R.in_; He.glo_ok X G (R.says.b 28)
theorem f_glo__law_pull (R : Raw K mg) : mg "_law_pull" = some (.ref (He.ga K "_law_pull")) := let ⟨_, X, G⟩ := R.in_; He.glo_ok X G (R.says.b 29)
theorem f_glo__law_same (R : Raw K mg) : mg "_law_same" = some (.ref (He.ga K "_law_same")) := let ⟨_, X, G⟩ := R.in_; He.glo_ok X G (R.says.b 30)
theorem f_glo__law_cut (R : Raw K mg) : mg "_law_cut" = some (.ref (He.ga K "_law_cut")) := let ⟨_, X, G⟩ := R.in_; He.glo_ok X G (R.says.b 31)
theorem f_glo__law_plus (R : Raw K mg) : mg "_law_plus" = some (.ref (He.ga K "_law_plus")) := let ⟨_, X, G⟩ := R.in_; He.glo_ok X G (R.says.b 32)
theorem f_glo__law_minus (R : Raw K mg) : mg "_law_minus" = some (.ref (He.ga K "_law_minus")) := let ⟨_, X, G⟩ := R.in_; He.glo_ok X G (R.says.b 33)
theorem f_glo__law_times (R : Raw K mg) : mg "_law_times" = some (.ref (He.ga K "_law_times")) := let ⟨_, X, G⟩ := R.in_; He.glo_ok X G (R.says.b 34)
theorem f_glo__law_over (R : Raw K mg) : mg "_law_over" = some (.ref (He.ga K "_law_over")) := let ⟨_, X, G⟩ := R.in_; He.glo_ok X G (R.says.b 35)
theorem f_glo__law_is (R : Raw K mg) : mg "_law_is" = some (.ref (He.ga K "_law_is")) := let ⟨_, X, G⟩ := R.in_; He.glo_ok X G (R.says.b 36)
theorem f_glo__law_signed (R : Raw K mg) : mg "_law_signed" = some (.ref (He.ga K "_law_signed")) := let ⟨_, X, G⟩ := R.in_; He.glo_ok X G (R.says.b 37)
theorem f_glo_law (R : Raw K mg) : mg "law" = some (.ref (He.ga K "law")) := let ⟨_, X, G⟩ := R.in_; He.glo_ok X G (R.says.b 38)
theorem f_free_isinstance (R : Raw K mg) : mg "isinstance" = none := let ⟨_, X, G⟩ := R.in_; He.free_ok X G (R.says.b 39)
theorem f_free_int (R : Raw K mg) : mg "int" = none := let ⟨_, X, G⟩ := R.in_; He.free_ok X G (R.says.b 40)
theorem f_free_bool (R : Raw K mg) : mg "bool" = none := let ⟨_, X, G⟩ := R.in_; He.free_ok X G (R.says.b 41)
theorem f_free_abs (R : Raw K mg) : mg "abs" = none := let ⟨_, X, G⟩ := R.in_; He.free_ok X G (R.says.b 42)
theorem f_free_list (R : Raw K mg) : mg "list" = none := let ⟨_, X, G⟩ := R.in_; He.free_ok X G (R.says.b 43)
theorem f_free_len (R : Raw K mg) : mg "len" = none := let ⟨_, X, G⟩ := R.in_; He.free_ok X G (R.says.b 44)
theorem f_free_tuple (R : Raw K mg) : mg "tuple" = none := let ⟨_, X, G⟩ := R.in_; He.free_ok X G (R.says.b 45)
theorem f_free_all (R : Raw K mg) : mg "all" = none := let ⟨_, X, G⟩ := R.in_; He.free_ok X G (R.says.b 46)
theorem f_free_zip (R : Raw K mg) : mg "zip" = none := let ⟨_, X, G⟩ := R.in_; He.free_ok X G (R.says.b 47)
theorem f_free_str (R : Raw K mg) : mg "str" = none := let ⟨_, X, G⟩ := R.in_; He.free_ok X G (R.says.b 48)
theorem f_free_range (R : Raw K mg) : mg "range" = none := let ⟨_, X, G⟩ := R.in_; He.free_ok X G (R.says.b 49)
theorem fd_is_whole (R : Raw K mg) : ∃ fd, FD K d_is_whole fd := R.says.d 0
theorem fd_common_divisor (R : Raw K mg) : ∃ fd, FD K d_common_divisor fd := R.says.d 1
theorem fd_Ratio_init (R : Raw K mg) : ∃ fd, FD K d_Ratio_init fd := R.says.d 2
theorem fd_Ratio_of (R : Raw K mg) : ∃ fd, FD K d_Ratio_of fd := R.says.d 3
theorem fd_Ratio_over (R : Raw K mg) : ∃ fd, FD K d_Ratio_over fd := R.says.d 4
theorem fd_Ratio_add (R : Raw K mg) : ∃ fd, FD K d_Ratio_add fd := R.says.d 5
theorem fd_Ratio_radd (R : Raw K mg) : ∃ fd, FD K d_Ratio_radd fd := R.says.d 6
theorem fd_Ratio_sub (R : Raw K mg) : ∃ fd, FD K d_Ratio_sub fd := R.says.d 7
theorem fd_Ratio_rsub (R : Raw K mg) : ∃ fd, FD K d_Ratio_rsub fd := R.says.d 8
theorem fd_Ratio_mul (R : Raw K mg) : ∃ fd, FD K d_Ratio_mul fd := R.says.d 9
theorem fd_Ratio_rmul (R : Raw K mg) : ∃ fd, FD K d_Ratio_rmul fd := R.says.d 10
theorem fd_Ratio_neg (R : Raw K mg) : ∃ fd, FD K d_Ratio_neg fd := R.says.d 11
theorem fd_Ratio_eq (R : Raw K mg) : ∃ fd, FD K d_Ratio_eq fd := R.says.d 12
theorem fd_law_bag (R : Raw K mg) : ∃ fd, FD K d_law_bag fd := R.says.d 13
theorem fd_law_pull (R : Raw K mg) : ∃ fd, FD K d_law_pull fd := R.says.d 14
theorem fd_law_same (R : Raw K mg) : ∃ fd, FD K d_law_same fd := R.says.d 15
theorem fd_law_cut (R : Raw K mg) : ∃ fd, FD K d_law_cut fd := R.says.d 16
theorem fd_law_plus (R : Raw K mg) : ∃ fd, FD K d_law_plus fd := R.says.d 17
theorem fd_law_minus (R : Raw K mg) : ∃ fd, FD K d_law_minus fd := R.says.d 18
theorem fd_law_times (R : Raw K mg) : ∃ fd, FD K d_law_times fd := R.says.d 19
theorem fd_law_over (R : Raw K mg) : ∃ fd, FD K d_law_over fd := R.says.d 20
theorem fd_law_is (R : Raw K mg) : ∃ fd, FD K d_law_is fd := R.says.d 21
theorem fd_law_signed (R : Raw K mg) : ∃ fd, FD K d_law_signed fd := R.says.d 22
theorem fd_law (R : Raw K mg) : ∃ fd, FD K d_law fd := R.says.d 23
end
abbrev N_is_whole : List Str := ["value"]
theorem sc_is_whole : FnScope N_is_whole ["value"] (defScope s_is_whole) := ⟨rfl, rfl, rfl, by decide +kernel, rfl, by decide +kernel, by decide +kernel⟩
abbrev N_common_divisor : List Str := ["one", "other"]
theorem sc_common_divisor : FnScope N_common_divisor ["one", "other"] (defScope s_common_divisor) := ⟨rfl, rfl, rfl, by decide +kernel, rfl, by decide +kernel, by decide +kernel⟩
abbrev N_Ratio_init : List Str := ["self", "top", "below", "shared"]
theorem sc_Ratio_init : FnScope N_Ratio_init ["self", "top", "below"] (defScope s_Ratio_init) := ⟨rfl, rfl, rfl, by decide +kernel, rfl, by decide +kernel, by decide +kernel⟩
abbrev N_Ratio_of : List Str := ["amount"]
theorem sc_Ratio_of : FnScope N_Ratio_of ["amount"] (defScope s_Ratio_of) := ⟨rfl, rfl, rfl, by decide +kernel, rfl, by decide +kernel, by decide +kernel⟩
abbrev N_Ratio_over : List Str := ["self", "other", "low"]
theorem sc_Ratio_over : FnScope N_Ratio_over ["self", "other"] (defScope s_Ratio_over) := ⟨rfl, rfl, rfl, by decide +kernel, rfl, by decide +kernel, by decide +kernel⟩
abbrev N_Ratio_add : List Str := ["self", "other", "late"]
theorem sc_Ratio_add : FnScope N_Ratio_add ["self", "other"] (defScope s_Ratio_add) := ⟨rfl, rfl, rfl, by decide +kernel, rfl, by decide +kernel, by decide +kernel⟩
abbrev N_Ratio_radd : List Str := ["self", "other"]
theorem sc_Ratio_radd : FnScope N_Ratio_radd ["self", "other"] (defScope s_Ratio_radd) := ⟨rfl, rfl, rfl, by decide +kernel, rfl, by decide +kernel, by decide +kernel⟩
abbrev N_Ratio_sub : List Str := ["self", "other", "late"]
theorem sc_Ratio_sub : FnScope N_Ratio_sub ["self", "other"] (defScope s_Ratio_sub) := ⟨rfl, rfl, rfl, by decide +kernel, rfl, by decide +kernel, by decide +kernel⟩
abbrev N_Ratio_rsub : List Str := ["self", "other"]
theorem sc_Ratio_rsub : FnScope N_Ratio_rsub ["self", "other"] (defScope s_Ratio_rsub) := ⟨rfl, rfl, rfl, by decide +kernel, rfl, by decide +kernel, by decide +kernel⟩
abbrev N_Ratio_mul : List Str := ["self", "other", "late"]
theorem sc_Ratio_mul : FnScope N_Ratio_mul ["self", "other"] (defScope s_Ratio_mul) := ⟨rfl, rfl, rfl, by decide +kernel, rfl, by decide +kernel, by decide +kernel⟩
abbrev N_Ratio_rmul : List Str := ["self", "other"]
theorem sc_Ratio_rmul : FnScope N_Ratio_rmul ["self", "other"] (defScope s_Ratio_rmul) := ⟨rfl, rfl, rfl, by decide +kernel, rfl, by decide +kernel, by decide +kernel⟩
abbrev N_Ratio_neg : List Str := ["self"]
theorem sc_Ratio_neg : FnScope N_Ratio_neg ["self"] (defScope s_Ratio_neg) := ⟨rfl, rfl, rfl, by decide +kernel, rfl, by decide +kernel, by decide +kernel⟩
abbrev N_Ratio_eq : List Str := ["self", "other"]
theorem sc_Ratio_eq : FnScope N_Ratio_eq ["self", "other"] (defScope s_Ratio_eq) := ⟨rfl, rfl, rfl, by decide +kernel, rfl, by decide +kernel, by decide +kernel⟩
abbrev N_law_bag : List Str := ["_law_script"]
theorem sc_law_bag : FnScope N_law_bag ["_law_script"] (defScope s_law_bag) := ⟨rfl, rfl, rfl, by decide +kernel, rfl, by decide +kernel, by decide +kernel⟩
abbrev N_law_pull : List Str := ["_law_bag_here", "_law_many", "_law_cell", "_law_digit", "_law_seed"]
theorem sc_law_pull : FnScope N_law_pull ["_law_bag_here", "_law_many"] (defScope s_law_pull) := ⟨rfl, rfl, rfl, by decide +kernel, rfl, by decide +kernel, by decide +kernel⟩
abbrev N_law_same : List Str := ["_law_found", "_law_due", "_law_one_y", "_law_two"]
theorem sc_law_same : FnScope N_law_same ["_law_found", "_law_due"] (defScope s_law_same) := ⟨rfl, rfl, rfl, by decide +kernel, rfl, by decide +kernel, by decide +kernel⟩
abbrev N_law_cut : List Str := ["_law_top_y", "_law_below_y", "_law_one_y", "_law_other_y", "_law_k"]
theorem sc_law_cut : FnScope N_law_cut ["_law_top_y", "_law_below_y"] (defScope s_law_cut) := ⟨rfl, rfl, rfl, by decide +kernel, rfl, by decide +kernel, by decide +kernel⟩
abbrev N_law_plus : List Str := ["_law_one_y", "_law_two"]
theorem sc_law_plus : FnScope N_law_plus ["_law_one_y", "_law_two"] (defScope s_law_plus) := ⟨rfl, rfl, rfl, by decide +kernel, rfl, by decide +kernel, by decide +kernel⟩
abbrev N_law_minus : List Str := ["_law_one_y", "_law_two"]
theorem sc_law_minus : FnScope N_law_minus ["_law_one_y", "_law_two"] (defScope s_law_minus) := ⟨rfl, rfl, rfl, by decide +kernel, rfl, by decide +kernel, by decide +kernel⟩
abbrev N_law_times : List Str := ["_law_one_y", "_law_two"]
theorem sc_law_times : FnScope N_law_times ["_law_one_y", "_law_two"] (defScope s_law_times) := ⟨rfl, rfl, rfl, by decide +kernel, rfl, by decide +kernel, by decide +kernel⟩
abbrev N_law_over : List Str := ["_law_one_y", "_law_two"]
theorem sc_law_over : FnScope N_law_over ["_law_one_y", "_law_two"] (defScope s_law_over) := ⟨rfl, rfl, rfl, by decide +kernel, rfl, by decide +kernel, by decide +kernel⟩
abbrev N_law_is : List Str := ["_law_found", "_law_due"]
theorem sc_law_is : FnScope N_law_is ["_law_found", "_law_due"] (defScope s_law_is) := ⟨rfl, rfl, rfl, by decide +kernel, rfl, by decide +kernel, by decide +kernel⟩
abbrev N_law_signed : List Str := ["_law_bag_here"]
theorem sc_law_signed : FnScope N_law_signed ["_law_bag_here"] (defScope s_law_signed) := ⟨rfl, rfl, rfl, by decide +kernel, rfl, by decide +kernel, by decide +kernel⟩
abbrev N_law : List Str := ["_law_script", "_law_bag_here", "_law_turn", "_law_top_y", "_law_below_y", "_law_times_here", "_law_one_y", "_law_two", "_law_whole", "_law_a", "_law_b", "_law_found", "_law_number", "_law_due", "_law_same_here", "_law_made", "_law_pair"]
theorem sc_law : FnScope N_law ["_law_script"] (defScope s_law) := ⟨rfl, rfl, rfl, by decide +kernel, rfl, by decide +kernel, by decide +kernel⟩
theorem b_is_whole {K : Fg} {fd : FuncData} (F : FD K d_is_whole fd) : Binds K fd ["value"] [] := FunD.bindsN F fun _ _ _ _ _ _ us hl => match us, hl with | [_], _ => rfl
theorem b_common_divisor {K : Fg} {fd : FuncData} (F : FD K d_common_divisor fd) : Binds K fd ["one", "other"] [] := FunD.bindsN F fun _ _ _ _ _ _ us hl => match us, hl with | [_, _], _ => rfl
theorem b2_Ratio_init {K : Fg} {fd : FuncData} (F : FD K d_Ratio_init fd) : ∃ ds, Vals ((d_Ratio_init.dv K).drop 0) ds ∧ Binds K fd ["self", "top", "below"] ds := FunD.binds1 (ps := ["self", "top", "below"]) F 2 0 (by intro z; cases z) rfl fun T kV doc pm an cdv ct us its h1 h2 => match us, its, h1, h2 with | [_, _], [_], _, _ => ⟨_, rfl, rfl⟩
theorem b3_Ratio_init {K : Fg} {fd : FuncData} (F : FD K d_Ratio_init fd) : ∃ ds, Vals ((d_Ratio_init.dv K).drop 1) ds ∧ Binds K fd ["self", "top", "below"] ds := FunD.binds1 (ps := ["self", "top", "below"]) F 3 1 (by intro z; cases z) rfl fun T kV doc pm an cdv ct us its h1 h2 => match us, its, h1, h2 with | [_, _, _], [_], _, _ => ⟨_, rfl, rfl⟩
theorem b_Ratio_of {K : Fg} {fd : FuncData} (F : FD K d_Ratio_of fd) : Binds K fd ["amount"] [] := FunD.bindsN F fun _ _ _ _ _ _ us hl => match us, hl with | [_], _ => rfl
theorem b_Ratio_over {K : Fg} {fd : FuncData} (F : FD K d_Ratio_over fd) : Binds K fd ["self", "other"] [] := FunD.bindsN F fun _ _ _ _ _ _ us hl => match us, hl with | [_, _], _ => rfl
theorem b_Ratio_add {K : Fg} {fd : FuncData} (F : FD K d_Ratio_add fd) : Binds K fd ["self", "other"] [] := FunD.bindsN F fun _ _ _ _ _ _ us hl => match us, hl with | [_, _], _ => rfl
theorem b_Ratio_radd {K : Fg} {fd : FuncData} (F : FD K d_Ratio_radd fd) : Binds K fd ["self", "other"] [] := FunD.bindsN F fun _ _ _ _ _ _ us hl => match us, hl with | [_, _], _ => rfl
theorem b_Ratio_sub {K : Fg} {fd : FuncData} (F : FD K d_Ratio_sub fd) : Binds K fd ["self", "other"] [] := FunD.bindsN F fun _ _ _ _ _ _ us hl => match us, hl with | [_, _], _ => rfl
theorem b_Ratio_rsub {K : Fg} {fd : FuncData} (F : FD K d_Ratio_rsub fd) : Binds K fd ["self", "other"] [] := FunD.bindsN F fun _ _ _ _ _ _ us hl => match us, hl with | [_, _], _ => rfl
theorem b_Ratio_mul {K : Fg} {fd : FuncData} (F : FD K d_Ratio_mul fd) : Binds K fd ["self", "other"] [] := FunD.bindsN F fun _ _ _ _ _ _ us hl => match us, hl with | [_, _], _ => rfl
theorem b_Ratio_rmul {K : Fg} {fd : FuncData} (F : FD K d_Ratio_rmul fd) : Binds K fd ["self", "other"] [] := FunD.bindsN F fun _ _ _ _ _ _ us hl => match us, hl with | [_, _], _ => rfl
theorem b_Ratio_neg {K : Fg} {fd : FuncData} (F : FD K d_Ratio_neg fd) : Binds K fd ["self"] [] := FunD.bindsN F fun _ _ _ _ _ _ us hl => match us, hl with | [_], _ => rfl
theorem b_Ratio_eq {K : Fg} {fd : FuncData} (F : FD K d_Ratio_eq fd) : Binds K fd ["self", "other"] [] := FunD.bindsN F fun _ _ _ _ _ _ us hl => match us, hl with | [_, _], _ => rfl
theorem b_law_bag {K : Fg} {fd : FuncData} (F : FD K d_law_bag fd) : Binds K fd ["_law_script"] [] := FunD.bindsN F fun _ _ _ _ _ _ us hl => match us, hl with | [_], _ => rfl
theorem b_law_pull {K : Fg} {fd : FuncData} (F : FD K d_law_pull fd) : Binds K fd ["_law_bag_here", "_law_many"] [] := FunD.bindsN F fun _ _ _ _ _ _ us hl => match us, hl with | [_, _], _ => rfl
theorem b_law_same {K : Fg} {fd : FuncData} (F : FD K d_law_same fd) : Binds K fd ["_law_found", "_law_due"] [] := FunD.bindsN F fun _ _ _ _ _ _ us hl => match us, hl with | [_, _], _ => rfl
theorem b_law_cut {K : Fg} {fd : FuncData} (F : FD K d_law_cut fd) : Binds K fd ["_law_top_y", "_law_below_y"] [] := FunD.bindsN F fun _ _ _ _ _ _ us hl => match us, hl with | [_, _], _ => rfl
theorem b_law_plus {K : Fg} {fd : FuncData} (F : FD K d_law_plus fd) : Binds K fd ["_law_one_y", "_law_two"] [] := FunD.bindsN F fun _ _ _ _ _ _ us hl => match us, hl with | [_, _], _ => rfl
theorem b_law_minus {K : Fg} {fd : FuncData} (F : FD K d_law_minus fd) : Binds K fd ["_law_one_y", "_law_two"] [] := FunD.bindsN F fun _ _ _ _ _ _ us hl => match us, hl with | [_, _], _ => rfl
theorem b_law_times {K : Fg} {fd : FuncData} (F : FD K d_law_times fd) : Binds K fd ["_law_one_y", "_law_two"] [] := FunD.bindsN F fun _ _ _ _ _ _ us hl => match us, hl with | [_, _], _ => rfl
theorem b_law_over {K : Fg} {fd : FuncData} (F : FD K d_law_over fd) : Binds K fd ["_law_one_y", "_law_two"] [] := FunD.bindsN F fun _ _ _ _ _ _ us hl => match us, hl with | [_, _], _ => rfl
theorem b_law_is {K : Fg} {fd : FuncData} (F : FD K d_law_is fd) : Binds K fd ["_law_found", "_law_due"] [] := FunD.bindsN F fun _ _ _ _ _ _ us hl => match us, hl with | [_, _], _ => rfl
theorem b_law_signed {K : Fg} {fd : FuncData} (F : FD K d_law_signed fd) : Binds K fd ["_law_bag_here"] [] := FunD.bindsN F fun _ _ _ _ _ _ us hl => match us, hl with | [_], _ => rfl
theorem b_law {K : Fg} {fd : FuncData} (F : FD K d_law fd) : Binds K fd ["_law_script"] [] := FunD.bindsN F fun _ _ _ _ _ _ us hl => match us, hl with | [_], _ => rfl

open PySem PySem.Spec PyProof.Rows L2 GX GM
section
variable {P : Program} {w : World} {K : Fg} {mg : Str → Option Value} {base : Heap}
/-- whether a value is a number: by its kind -/
def spWhole (K : Fg) : Sp := fun vs H Q _ => ∃ x t b1 b2, vs = [x] ∧ TyX K H x t ∧ PySem.W.kitOne K t (.type "int") = some b1 ∧ PySem.W.kitOne K t (.type "bool") = some b2 ∧ Q (.bl (b1 && !b2)) H
theorem g_is_whole (R : Raw K mg) : Gf P w K mg base 1 "is_whole" (spWhole K) := by
  obtain ⟨fd, F⟩ := fd_is_whole R
  refine ⟨_, fnR0 F sc_is_whole (b_is_whole F) (fun vs H Q E h => by obtain ⟨_, _, _, _, rfl, _⟩ := h; rfl) (fun cdv A outer s H vs Q E hr h => ?_), f_glo_is_whole R, F.kp⟩
  obtain ⟨x, t, b1, b2, rfl, ty, k1, k2, q⟩ := h
  refine ⟨_, (pss_one (ps_ret (pe_and (pe_callB c_isi rfl (f_free_isinstance R) bt_isi (pa_cons (pv 0) (pa_cons (pe_bltn (v := .ty "int") rfl (f_free_int R) bt_int rfl) pa_nil))) (pe_one (pe_not (pe_callB c_isi rfl (f_free_isinstance R) bt_isi (pa_cons (pv 0) (pa_cons (pe_bltn (v := .ty "bool") rfl (f_free_bool R) bt_bool rfl) pa_nil)))))))), ?_⟩
  walk_at "go"
  refine g_isi (.ty _) ty k1 ?_
  walk_at "go"
  cases b1 with
  | false => exact iteF q
  | true =>
    refine iteT ?_
    walk_at "go"
    refine g_isi (.ty _) ty k2 ?_
    walk_at "go"
    exact q
theorem g_wholeI {i : Int} {H : Hp} {Q : VK} {E : XK} (q : Q (.bl true) H) : spWhole K [.int i] H Q E := ⟨_, _, true, false, rfl, .base (.int i), kit_ty (by decide +kernel), kit_ty (by decide +kernel), q⟩
end
local macro_rules | `(tactic| walk_at "gs") => `(tactic| with_reducible refine g_wholeI ?_)
section
variable {P : Program} {w : World} {K : Fg} {mg : Str → Option Value} {base : Heap}
def spCd : Sp := fun vs H Q _ => ∃ a b : Int, vs = [.int a, .int b] ∧ Q (.int (Int.gcd a b : Int)) H
theorem g_common_divisor (R : Raw K mg) : Gf P w K mg base 1 "common_divisor" spCd := by
  obtain ⟨fd, F⟩ := fd_common_divisor R
  refine ⟨_, fnR0 F sc_common_divisor (b_common_divisor F) (fun vs H Q E h => by obtain ⟨_, _, rfl, _⟩ := h; rfl) (fun cdv A outer s H vs Q E hr h => ?_), f_glo_common_divisor R, F.kp⟩
  obtain ⟨a, b, rfl, q⟩ := h
  refine ⟨_, (pss_cons (ps_par (i := 0) (j := 1) rfl sc_common_divisor.nd rfl rfl (by decide) rfl rfl (pa_cons (pe_callB c_abs rfl (f_free_abs R) bt_abs (pa_cons (pv 0) pa_nil)) (pa_cons (pe_callB c_abs rfl (f_free_abs R) bt_abs (pa_cons (pv 1) pa_nil)) pa_nil)) rfl)
      (pss_cons (ps_while PassesOwn.never (pt_cmpR op_gt (pv 1) pe_int (nomark _)) (pss_one (ps_par (i := 0) (j := 1) rfl sc_common_divisor.nd rfl rfl (by decide) rfl rfl (pa_cons (pv 1) (pa_cons (pe_op op_mod (pv 0) (pv 1)) pa_nil)) rfl)))
      (pss_one (ps_ret (pv 0))))), ?_⟩
  refine g_start (σ := [some (.int a), some (.int b)]) rfl ?_
  walk_at "go"
  refine while_by (fun σ H1 => ∃ x y : Nat, σ = [some (.int (x : Int)), some (.int (y : Int))] ∧ H1 = H ∧ Nat.gcd x y = Int.gcd a b) (fun σ _ => match σ with
    | [_, some (.int y)] => y.toNat
    | _ => 0) ⟨_, _, rfl, rfl, rfl⟩ ?_ ?_
  · rintro σ H1 ⟨x, y, rfl, rfl, hg⟩
    walk_at "go"
    refine g_ite (fun h => ?_) (fun h => ?_)
    · have hy : 0 < y := by simpa using h
      walk_at "go"
      refine g_I (by omega) ?_
      walk_at "go"
      refine ⟨⟨y, x % y, by simp, rfl, ?_⟩, ?_⟩
      · rw [← hg, Nat.gcd_comm x y, Nat.gcd_rec y x, Nat.gcd_comm]
      · show ((x : Int) % (y : Int)).toNat < ((y : Nat) : Int).toNat
        have e : ((x : Int) % (y : Int)) = ((x % y : Nat) : Int) := by simp
        rw [e, Int.toNat_natCast, Int.toNat_natCast]
        exact Nat.mod_lt _ hy
    · have hy : y = 0 := by
        have : ¬ (0 < y) := by simpa using h
        omega
      subst hy
      walk_at "go"
      rw [Nat.gcd_zero_right] at hg
      rw [hg]
      exact q
  · rintro σ H1 Q1 Q2 hq ⟨v, e, i, j, e1, e2, k, e3, q1⟩
    exact ⟨v, e, i, j, e1, e2, k, e3, hq _ _ q1⟩
theorem g_cd {a b : Int} {H : Hp} {Q : VK} {E : XK} (q : Q (.int (Int.gcd a b : Int)) H) : spCd [.int a, .int b] H Q E := ⟨_, _, rfl, q⟩
end
local macro_rules | `(tactic| walk_at "gs") => `(tactic| with_reducible refine g_cd ?_)
section
variable {P : Program} {w : World} {K : Fg} {mg : Str → Option Value} {base : Heap}
/-! ### ratios -/
def ratF (t b : Int) : List (Str × V) := [(("top" : Str), V.int t), (("below" : Str), V.int b)]
theorem ratF_top {t b : Int} : (ratF t b).lookup ("top" : Str) = some (V.int t) := rfl
theorem ratF_below {t b : Int} : (ratF t b).lookup ("below" : Str) = some (V.int b) := by
  show (match ("below" : Str) == ("top" : Str) with | true => some (V.int t) | false => _) = _
  have e : (("below" : Str) == ("top" : Str)) = false := by decide +kernel
  rw [e]
  rfl
abbrev CR (K : Fg) : Addr := He.ga K "Ratio"
/-- the ratio t / b stands at a -/
abbrev RatO (K : Fg) (dx : Addr) (t b : Int) : HO := .ins (CR K) dx (ratF t b)
def spRInit (K : Fg) : Sp := fun vs H Q _ => ∃ (p dx : Addr) (t b : Int), vs = [.ref p, .int t, .int b] ∧ H p = some (.ins (CR K) dx []) ∧ 0 < b ∧ Sz b 9000 ∧
  ∀ H', (∀ a o, a ≠ p → H a = some o → H' a = some o) → H' p = some (RatO K dx (rt t b) (rb t b)) → Q .non H'
theorem fo_Ratio_init (R : Raw K mg) : ∃ fd, FD K d_Ratio_init fd ∧ FnOk P w K mg base CX0 2 (He.ma K (CR K) "__init__") fd ["self", "top", "below"] (spRInit K) := by
  obtain ⟨fd, F⟩ := fd_Ratio_init R
  refine ⟨fd, F, fnOk_of F sc_Ratio_init (fun vs H Q E h => by obtain ⟨_, _, _, _, rfl, _⟩ := h; rfl) (fun cdv A outer s H vs Q E hr h => ?_)⟩
  obtain ⟨p, dx, t, b, rfl, hp, hb, hz, k⟩ := h
  refine ⟨_, (pss_cons (ps_if (pt_not (pt_val (pe_g (g_is_whole R) hr (pa_cons (pv 1) pa_nil)))) (pss_one ps_never) pss_nil)
      (pss_cons (ps_if (PW.pt (pw_or (pt_not (pt_val (pe_g (g_is_whole R) hr (pa_cons (pv 2) pa_nil)))) (pw_or1 (pt_cmpR op_lt (pv 2) pe_int (nomark _))))) (pss_one ps_never) pss_nil)
      (pss_cons (ps_set (i := 3) sc_Ratio_init.nd rfl (Or.inl rfl) (pe_g (g_common_divisor R) hr (pa_cons (pv 1) (pa_cons (pv 2) pa_nil))))
      (pss_one (ps_asg (pe_tup (pa_cons (pe_op op_fdivW (pv 1) (pv 3)) (pa_cons (pe_op op_fdivW (pv 2) (pv 3)) pa_nil))) (pg_tup rfl (pgs_cons (pg_fld (pv 0)) (pgs_cons (pg_fld (pv 0)) pgs_nil)))))))), ?_⟩
  refine g_start (σ := [some (.ref p), some (.int t), some (.int b), none]) rfl ?_
  dsimp only [cxOf, Cx.nox]
  have al : Al [p] H := fun m hm => by
    have e : m = p := by simpa using hm
    rw [e]
    exact some_ne hp
  have hb1 : decide (b < 1) = false := decide_eq_false (by omega)
  walk_at "go"
  refine iteF ?_
  walk_at "go"
  refine iteF ?_
  walk_at "go"
  rw [hb1]
  refine iteF ?_
  walk_at "go"
  refine g_I (cdivw (gpos hb) (hz.gcd hb) (by decide)) ?_
  walk_at "go"
  refine g_I (cdivw (gpos hb) (hz.gcd hb) (by decide)) ?_
  walk_at "go"
  refine g_fldSK (by walk_at "hs") (f_cls_Ratio R) (f_noat_Ratio_top R) rfl fun H2 w2 z2 h2 => ?_
  walk_at "go"
  refine g_fldSK h2 (f_cls_Ratio R) (f_noat_Ratio_below R) rfl fun H3 w3 z3 h3 => ?_
  walk_at "go"
  rename_i s1 _ _ _
  refine k H3 (fun a o ne e => z3 a o ne (z2 a o ne (s1 a o e))) ?_
  have e : putF ("below" : Str) (V.int (b / (t.gcd b : Int))) (putF ("top" : Str) (V.int (t / (t.gcd b : Int))) []) = ratF (rt t b) (rb t b) := by
    show (if ("top" : Str) = ("below" : Str) then _ else (("top" : Str), V.int (t / (t.gcd b : Int))) :: putF ("below" : Str) (V.int (b / (t.gcd b : Int))) []) = ratF (rt t b) (rb t b)
    rw [if_neg (by decide +kernel)]
    rfl
  rw [e] at h3
  exact h3
end

open PySem PySem.Spec PyProof.Rows L2 GX GM
section
variable {P : Program} {w : World} {K : Fg} {mg : Str → Option Value} {base : Heap}
theorem g_Ratio (R : Raw K mg) : Gc P w K mg base 2 "Ratio" (CR K) (spRInit K) := by
  obtain ⟨fd, F, G⟩ := fo_Ratio_init (P := P) (w := w) (base := base) R
  refine ⟨_, f_mkr_Ratio R, (raw_of G (b3_Ratio_init F)).imp (fun vs H Q E h => ?_), f_glo_Ratio R⟩
  show spRInit K (vs ++ []) H Q E
  rw [List.append_nil]
  exact h
def spRInit1 (K : Fg) : Sp := fun vs H Q E => spRInit K (vs ++ [.int 1]) H Q E
theorem g_Ratio1 (R : Raw K mg) : Gc P w K mg base 2 "Ratio" (CR K) (spRInit1 K) := by
  obtain ⟨fd, F, G⟩ := fo_Ratio_init (P := P) (w := w) (base := base) R
  exact ⟨_, f_mkr_Ratio R, raw_of G (b2_Ratio_init F), f_glo_Ratio R⟩
/-- a new ratio -/
theorem g_mkR {Ms : List Addr} {t b : Int} {H : Hp} {Q : VK} {E : XK} (al : Al Ms H) (hb : 0 < b) (hz : Sz b 9000)
    (q : ∀ p dx H', Same H H' → Gw Ms H H' → H p = none → Kn Ms H' p (RatO K dx (rt t b) (rb t b)) → Q (.ref p) H') : mkK (CR K) (spRInit K) E Q [.int t, .int b] H := by
  intro x dx nx nd ne
  refine ⟨x, dx, t, b, rfl, upd_same, hb, hz, fun H' hk hx => ⟨rfl, ?_⟩⟩
  have s : Same H H' := fun a o e => by
    have h1 : a ≠ x := ne_of_none e nx
    have h2 : a ≠ dx := ne_of_none e nd
    refine hk a o h1 ?_
    rw [upd_ne h1, upd_ne h2]
    exact e
  exact q x dx H' s (gw_same s) nx (Kn.new al nx hx)
theorem g_mkR1 {Ms : List Addr} {t : Int} {H : Hp} {Q : VK} {E : XK} (al : Al Ms H)
    (q : ∀ p dx H', Same H H' → Gw Ms H H' → H p = none → Kn Ms H' p (RatO K dx t 1) → Q (.ref p) H') : mkK (CR K) (spRInit1 K) E Q [.int t] H := by
  have h := g_mkR (K := K) (t := t) (b := 1) (E := E) (Q := Q) al (by omega) (Sz.mono (m := 1) (by show 1 < 2; omega) (by omega)) fun p dx H' s g n k => by
    rw [low_rt (low_one t), low_rb (low_one t)] at k
    exact q p dx H' s g n k
  exact h
/-- an amount: a ratio, or a number -/
def Am (K : Fg) (H : Hp) (y : V) (t b : Int) : Prop := (∃ a dx, y = .ref a ∧ H a = some (RatO K dx t b)) ∨ (y = .int t ∧ b = 1)
def spOf (K : Fg) : Sp := fun vs H Q _ => (∃ a dx t b, vs = [.ref a] ∧ H a = some (RatO K dx t b) ∧ Q (.ref a) H) ∨ ∃ i, vs = [.int i] ∧ ∀ p dx H', Same H H' → H p = none → H' p = some (RatO K dx i 1) → Q (.ref p) H'
theorem g_Ratio_of (R : Raw K mg) : Gs P w K mg base 4 (CR K) "of" (spOf K) := by
  obtain ⟨fd, F⟩ := fd_Ratio_of R
  obtain ⟨c1, c2⟩ := f_stat_Ratio_of R
  refine ⟨_, _, _, c1, c2, fnR0 F sc_Ratio_of (b_Ratio_of F) (fun vs H Q E h => by rcases h with ⟨_, _, _, _, rfl, _⟩ | ⟨_, rfl, _⟩ <;> rfl) (fun cdv A outer s H vs Q E hr h => ?_)⟩
  refine ⟨_, (pss_cons (ps_if (pt_val (pe_callB c_isi rfl (f_free_isinstance R) bt_isi (pa_cons (pv 0) (pa_cons (pe_glob (v := .ref (He.ga K "Ratio")) rfl (f_glo_Ratio R) rfl) pa_nil)))) (pss_one (ps_ret (pv 0))) pss_nil)
      (pss_one (ps_ret (pe_c1 (g_Ratio1 R) hr (pa_cons (pv 0) pa_nil))))), ?_⟩
  rcases h with ⟨a, dx, t, b, rfl, ha, q⟩ | ⟨i, rfl, q⟩
  · refine g_start (σ := [some (.ref a)]) rfl ?_
    dsimp only [cxOf, Cx.nox]
    walk_at "go"
    refine g_isi (.own _) ((f_ins_Ratio R).ty (f_cls_Ratio R) ha) (f_kitG_Ratio_Ratio_true R) ?_
    walk_at "go"
    refine iteT ?_
    walk_at "go"
    exact q
  · refine g_start (σ := [some (.int i)]) rfl ?_
    dsimp only [cxOf, Cx.nox]
    walk_at "go"
    refine g_isi (.own _) (.base (.int i)) (f_kitS_int_Ratio_false R) ?_
    walk_at "go"
    refine iteF ?_
    walk_at "go"
    refine g_mkR1 Al.nil fun p dx H' s g n k => ?_
    walk_at "go"
    exact q p dx H' s n k.2
theorem g_of {H : Hp} {y : V} {t b : Int} {Q : VK} {E : XK} (am : Am K H y t b) (q : ∀ p dx H', Same H H' → H' p = some (RatO K dx t b) → Q (.ref p) H') : spOf K [y] H Q E := by
  rcases am with ⟨a, dx, rfl, ha⟩ | ⟨rfl, rfl⟩
  · exact .inl ⟨a, dx, t, b, rfl, ha, q a dx H (Same.refl H) ha⟩
  · exact .inr ⟨t, rfl, fun p dx H' s _ h => q p dx H' s h⟩
theorem g_top {a dx : Addr} {t b : Int} {H : Hp} {Q : VK} (R : Raw K mg) (h : H a = some (RatO K dx t b)) (q : Q (.int t) H) : fldK K "top" Q (.ref a) H := g_fldK h (f_cls_Ratio R) (f_noat_Ratio_top R) ratF_top q
theorem g_below {a dx : Addr} {t b : Int} {H : Hp} {Q : VK} (R : Raw K mg) (h : H a = some (RatO K dx t b)) (q : Q (.int b) H) : fldK K "below" Q (.ref a) H := g_fldK h (f_cls_Ratio R) (f_noat_Ratio_below R) ratF_below q
end
local macro_rules | `(tactic| walk_at "gs") => `(tactic| first
  | ((with_reducible show fldK _ _ _ (V.ref _) _); refine g_top (by assumption) (by walk_at "hp") ?_)
  | ((with_reducible show fldK _ _ _ (V.ref _) _); refine g_below (by assumption) (by walk_at "hp") ?_))
section
variable {P : Program} {w : World} {K : Fg} {mg : Str → Option Value} {base : Heap}
/-- an operator on a ratio and an amount: the pair that is brought into lowest terms -/
def spBin (K : Fg) (f g : Int → Int → Int → Int → Int) : Sp := fun vs H Q _ => ∃ a dx y t b t2 b2 n, vs = [.ref a, y] ∧ H a = some (RatO K dx t b) ∧ Am K H y t2 b2 ∧ 0 < b ∧ 0 < b2 ∧ Sz t n ∧ Sz b n ∧ Sz t2 n ∧ Sz b2 n ∧ n + n ≤ 9000 ∧
  ∀ p dx H', Same H H' → H p = none → H' p = some (RatO K dx (rt (f t b t2 b2) (g t b t2 b2)) (rb (f t b t2 b2) (g t b t2 b2))) → Q (.ref p) H'
abbrev fAdd : Int → Int → Int → Int → Int := fun t b t2 b2 => t * b2 + t2 * b
abbrev fSub : Int → Int → Int → Int → Int := fun t b t2 b2 => t * b2 - t2 * b
abbrev fMul : Int → Int → Int → Int → Int := fun t _ t2 _ => t * t2
abbrev fBel : Int → Int → Int → Int → Int := fun _ b _ b2 => b * b2
theorem len_bin {f g : Int → Int → Int → Int → Int} : ∀ vs H Q E, spBin K f g vs H Q E → vs.length = 2 := fun vs H Q E h => by
  obtain ⟨_, _, _, _, _, _, _, _, rfl, _⟩ := h
  rfl
theorem cm {i j : Int} {n : Nat} (h : Sz i n) (k : Sz j n) (l : n + n ≤ 9000) : IntMulOk i j := (wide_mul (a := n + 1) (b := n + 1) (h.mono (by omega)) (k.mono (by omega)) (by omega) (by omega) (by omega)).ok
theorem g_Ratio_Add (R : Raw K mg) : Go P w K mg base 5 (CR K) "add" (spBin K fAdd fBel) := by
  obtain ⟨fd, F⟩ := fd_Ratio_add R
  refine ⟨_, f_op_Ratio_add R, fnR0 F sc_Ratio_add (b_Ratio_add F) len_bin (fun cdv A outer s H vs Q E hr h => ?_)⟩
  refine ⟨_, (pss_cons (ps_set (i := 2) sc_Ratio_add.nd rfl (Or.inl rfl) (pe_s (g_Ratio_of R) hr (f_glo_Ratio R) (pa_cons (pv 1) pa_nil)))
      (pss_one (ps_ret (pe_c1 (g_Ratio R) hr (pa_cons (pe_op op_add (pe_op op_mulG (pe_fld (pv 0) rfl) (pe_fld (pv 2) rfl)) (pe_op op_mulG (pe_fld (pv 2) rfl) (pe_fld (pv 0) rfl))) (pa_cons (pe_op op_mulG (pe_fld (pv 0) rfl) (pe_fld (pv 2) rfl)) pa_nil)))))), ?_⟩
  obtain ⟨a, dx, y, t, b, t2, b2, n, rfl, ha, am, hb, hb2, z1, z2, z3, z4, hn, q⟩ := h
  refine g_start (σ := [some (.ref a), some (y), none]) rfl ?_
  dsimp only [cxOf, Cx.nox]
  walk_at "go"
  refine g_of am fun p dx2 H2 s2 h2 => ?_
  walk_at "go"
  refine g_I (cm z1 z4 hn) ?_
  walk_at "go"
  refine g_I (cm z3 z2 hn) ?_
  walk_at "go"
  refine g_I (cm z2 z4 hn) ?_
  walk_at "go"
  refine g_mkR Al.nil (Int.mul_pos hb hb2) ((z2.mul z4).mono hn) fun p dx3 H3 s3 g3 n3 k3 => ?_
  walk_at "go"
  exact q p dx3 H3 (s2.trans s3) (s2.free n3) k3.2
theorem g_Ratio_Sub (R : Raw K mg) : Go P w K mg base 5 (CR K) "sub" (spBin K fSub fBel) := by
  obtain ⟨fd, F⟩ := fd_Ratio_sub R
  refine ⟨_, f_op_Ratio_sub R, fnR0 F sc_Ratio_sub (b_Ratio_sub F) len_bin (fun cdv A outer s H vs Q E hr h => ?_)⟩
  refine ⟨_, (pss_cons (ps_set (i := 2) sc_Ratio_sub.nd rfl (Or.inl rfl) (pe_s (g_Ratio_of R) hr (f_glo_Ratio R) (pa_cons (pv 1) pa_nil)))
      (pss_one (ps_ret (pe_c1 (g_Ratio R) hr (pa_cons (pe_op op_sub (pe_op op_mulG (pe_fld (pv 0) rfl) (pe_fld (pv 2) rfl)) (pe_op op_mulG (pe_fld (pv 2) rfl) (pe_fld (pv 0) rfl))) (pa_cons (pe_op op_mulG (pe_fld (pv 0) rfl) (pe_fld (pv 2) rfl)) pa_nil)))))), ?_⟩
  obtain ⟨a, dx, y, t, b, t2, b2, n, rfl, ha, am, hb, hb2, z1, z2, z3, z4, hn, q⟩ := h
  refine g_start (σ := [some (.ref a), some (y), none]) rfl ?_
  dsimp only [cxOf, Cx.nox]
  walk_at "go"
  refine g_of am fun p dx2 H2 s2 h2 => ?_
  walk_at "go"
  refine g_I (cm z1 z4 hn) ?_
  walk_at "go"
  refine g_I (cm z3 z2 hn) ?_
  walk_at "go"
  refine g_I (cm z2 z4 hn) ?_
  walk_at "go"
  refine g_mkR Al.nil (Int.mul_pos hb hb2) ((z2.mul z4).mono hn) fun p dx3 H3 s3 g3 n3 k3 => ?_
  walk_at "go"
  exact q p dx3 H3 (s2.trans s3) (s2.free n3) k3.2
theorem g_Ratio_Mult (R : Raw K mg) : Go P w K mg base 5 (CR K) "mul" (spBin K fMul fBel) := by
  obtain ⟨fd, F⟩ := fd_Ratio_mul R
  refine ⟨_, f_op_Ratio_mul R, fnR0 F sc_Ratio_mul (b_Ratio_mul F) len_bin (fun cdv A outer s H vs Q E hr h => ?_)⟩
  refine ⟨_, (pss_cons (ps_set (i := 2) sc_Ratio_mul.nd rfl (Or.inl rfl) (pe_s (g_Ratio_of R) hr (f_glo_Ratio R) (pa_cons (pv 1) pa_nil)))
      (pss_one (ps_ret (pe_c1 (g_Ratio R) hr (pa_cons (pe_op op_mulG (pe_fld (pv 0) rfl) (pe_fld (pv 2) rfl)) (pa_cons (pe_op op_mulG (pe_fld (pv 0) rfl) (pe_fld (pv 2) rfl)) pa_nil)))))), ?_⟩
  obtain ⟨a, dx, y, t, b, t2, b2, n, rfl, ha, am, hb, hb2, z1, z2, z3, z4, hn, q⟩ := h
  refine g_start (σ := [some (.ref a), some (y), none]) rfl ?_
  dsimp only [cxOf, Cx.nox]
  walk_at "go"
  refine g_of am fun p dx2 H2 s2 h2 => ?_
  walk_at "go"
  refine g_I (cm z1 z3 hn) ?_
  walk_at "go"
  refine g_I (cm z2 z4 hn) ?_
  walk_at "go"
  refine g_mkR Al.nil (Int.mul_pos hb hb2) ((z2.mul z4).mono hn) fun p dx3 H3 s3 g3 n3 k3 => ?_
  walk_at "go"
  exact q p dx3 H3 (s2.trans s3) (s2.free n3) k3.2
/-- a number on the left -/
def spRef (K : Fg) (f g : Int → Int → Int → Int → Int) : Sp := fun vs H Q _ => ∃ a dx i t b n, vs = [.ref a, .int i] ∧ H a = some (RatO K dx t b) ∧ 0 < b ∧ Sz t n ∧ Sz b n ∧ Sz i n ∧ 0 < n ∧ n + n ≤ 9000 ∧
  ∀ p dx H', Same H H' → H p = none → H' p = some (RatO K dx (rt (f i 1 t b) (g i 1 t b)) (rb (f i 1 t b) (g i 1 t b))) → Q (.ref p) H'
theorem len_ref {f g : Int → Int → Int → Int → Int} : ∀ vs H Q E, spRef K f g vs H Q E → vs.length = 2 := fun vs H Q E h => by
  obtain ⟨_, _, _, _, _, _, rfl, _⟩ := h
  rfl
/-- the operator of two ratios, by values -/
theorem g_own2 {f g : Int → Int → Int → Int → Int} {H : Hp} {Q : VK} {E : XK} {a b dx dy : Addr} {t b1 t2 b2 : Int} (n : Nat) (ha : H a = some (RatO K dx t b1)) (hb : H b = some (RatO K dy t2 b2)) (h1 : 0 < b1) (h2 : 0 < b2) (z1 : Sz t n) (z2 : Sz b1 n) (z3 : Sz t2 n) (z4 : Sz b2 n) (hn : n + n ≤ 9000)
    (q : ∀ p dx H', Same H H' → H p = none → H' p = some (RatO K dx (rt (f t b1 t2 b2) (g t b1 t2 b2)) (rb (f t b1 t2 b2) (g t b1 t2 b2))) → Q (.ref p) H') : rOwn (CR K) (spBin K f g) E (.ref a) (.ref b) H Q :=
  ⟨a, dx, _, rfl, ha, .inl ⟨b, dy, _, rfl, hb⟩, a, dx, .ref b, t, b1, t2, b2, n, rfl, ha, .inl ⟨b, dy, rfl, hb⟩, h1, h2, z1, z2, z3, z4, hn, q⟩
theorem g_own1 {f g : Int → Int → Int → Int → Int} {H : Hp} {Q : VK} {E : XK} {a dx : Addr} {t b1 i : Int} (n : Nat) (ha : H a = some (RatO K dx t b1)) (h1 : 0 < b1) (z1 : Sz t n) (z2 : Sz b1 n) (z3 : Sz i n) (h0 : 0 < n) (hn : n + n ≤ 9000)
    (q : ∀ p dx H', Same H H' → H p = none → H' p = some (RatO K dx (rt (f t b1 i 1) (g t b1 i 1)) (rb (f t b1 i 1) (g t b1 i 1))) → Q (.ref p) H') : rOwn (CR K) (spBin K f g) E (.ref a) (.int i) H Q :=
  ⟨a, dx, _, rfl, ha, .inr ⟨i, rfl⟩, a, dx, .int i, t, b1, i, 1, n, rfl, ha, .inr ⟨rfl, rfl⟩, h1, by omega, z1, z2, z3, Sz.mono (m := 1) (by show 1 < 2; omega) h0, hn, q⟩
theorem g_Ratio_rAdd (R : Raw K mg) : Gr P w K mg base 6 (CR K) "add" (spRef K fAdd fBel) := by
  obtain ⟨fd, F⟩ := fd_Ratio_radd R
  refine ⟨_, f_rf_Ratio_add R, fnR0 F sc_Ratio_radd (b_Ratio_radd F) len_ref (fun cdv A outer s H vs Q E hr h => ?_)⟩
  refine ⟨_, (pss_one (ps_ret (pe_op (opg_own (op := .Add) (g_Ratio_Add R) hr) (pe_s (g_Ratio_of R) hr (f_glo_Ratio R) (pa_cons (pv 1) pa_nil)) (pv 0)))), ?_⟩
  obtain ⟨a, dx, i, t, b, n, rfl, ha, hb, z1, z2, z3, h0, hn, q⟩ := h
  refine g_start (σ := [some (.ref a), some (.int i)]) rfl ?_
  dsimp only [cxOf, Cx.nox]
  walk_at "go"
  refine g_of (t := i) (b := 1) (.inr ⟨rfl, rfl⟩) fun p dx2 H2 s2 h2 => ?_
  walk_at "go"
  refine g_own2 n h2 (s2 _ _ ha) (by omega) hb z3 (Sz.mono (m := 1) (by show 1 < 2; omega) h0) z1 z2 hn fun p3 dx3 H3 s3 n3 k3 => ?_
  walk_at "go"
  exact q p3 dx3 H3 (s2.trans s3) (s2.free n3) k3
theorem g_Ratio_rSub (R : Raw K mg) : Gr P w K mg base 6 (CR K) "sub" (spRef K fSub fBel) := by
  obtain ⟨fd, F⟩ := fd_Ratio_rsub R
  refine ⟨_, f_rf_Ratio_sub R, fnR0 F sc_Ratio_rsub (b_Ratio_rsub F) len_ref (fun cdv A outer s H vs Q E hr h => ?_)⟩
  refine ⟨_, (pss_one (ps_ret (pe_op (opg_own (op := .Sub) (g_Ratio_Sub R) hr) (pe_s (g_Ratio_of R) hr (f_glo_Ratio R) (pa_cons (pv 1) pa_nil)) (pv 0)))), ?_⟩
  obtain ⟨a, dx, i, t, b, n, rfl, ha, hb, z1, z2, z3, h0, hn, q⟩ := h
  refine g_start (σ := [some (.ref a), some (.int i)]) rfl ?_
  dsimp only [cxOf, Cx.nox]
  walk_at "go"
  refine g_of (t := i) (b := 1) (.inr ⟨rfl, rfl⟩) fun p dx2 H2 s2 h2 => ?_
  walk_at "go"
  refine g_own2 n h2 (s2 _ _ ha) (by omega) hb z3 (Sz.mono (m := 1) (by show 1 < 2; omega) h0) z1 z2 hn fun p3 dx3 H3 s3 n3 k3 => ?_
  walk_at "go"
  exact q p3 dx3 H3 (s2.trans s3) (s2.free n3) k3
theorem g_Ratio_rMult (R : Raw K mg) : Gr P w K mg base 6 (CR K) "mul" (spRef K fMul fBel) := by
  obtain ⟨fd, F⟩ := fd_Ratio_rmul R
  refine ⟨_, f_rf_Ratio_mul R, fnR0 F sc_Ratio_rmul (b_Ratio_rmul F) len_ref (fun cdv A outer s H vs Q E hr h => ?_)⟩
  refine ⟨_, (pss_one (ps_ret (pe_op (opg_own (op := .Mult) (g_Ratio_Mult R) hr) (pe_s (g_Ratio_of R) hr (f_glo_Ratio R) (pa_cons (pv 1) pa_nil)) (pv 0)))), ?_⟩
  obtain ⟨a, dx, i, t, b, n, rfl, ha, hb, z1, z2, z3, h0, hn, q⟩ := h
  refine g_start (σ := [some (.ref a), some (.int i)]) rfl ?_
  dsimp only [cxOf, Cx.nox]
  walk_at "go"
  refine g_of (t := i) (b := 1) (.inr ⟨rfl, rfl⟩) fun p dx2 H2 s2 h2 => ?_
  walk_at "go"
  refine g_own2 n h2 (s2 _ _ ha) (by omega) hb z3 (Sz.mono (m := 1) (by show 1 < 2; omega) h0) z1 z2 hn fun p3 dx3 H3 s3 n3 k3 => ?_
  walk_at "go"
  exact q p3 dx3 H3 (s2.trans s3) (s2.free n3) k3
end

open PySem PySem.Spec PyProof.Rows L2 GX GM
section
variable {P : Program} {w : World} {K : Fg} {mg : Str → Option Value} {base : Heap}
def spNeg (K : Fg) : Sp := fun vs H Q _ => ∃ a dx t b, vs = [.ref a] ∧ H a = some (RatO K dx t b) ∧ 0 < b ∧ Sz b 9000 ∧ ∀ p dx H', Same H H' → H p = none → H' p = some (RatO K dx (rt (-t) b) (rb (-t) b)) → Q (.ref p) H'
theorem g_Ratio_neg (R : Raw K mg) : Gu P w K mg base 4 (CR K) "__neg__" (spNeg K) := by
  obtain ⟨fd, F⟩ := fd_Ratio_neg R
  refine ⟨_, f_un_Ratio___neg__ R, fnR0 F sc_Ratio_neg (b_Ratio_neg F) (fun vs H Q E h => by obtain ⟨_, _, _, _, rfl, _⟩ := h; rfl) (fun cdv A outer s H vs Q E hr h => ?_)⟩
  refine ⟨_, (pss_one (ps_ret (pe_c1 (g_Ratio R) hr (pa_cons (pe_un un_neg (pe_fld (pv 0) rfl)) (pa_cons (pe_fld (pv 0) rfl) pa_nil))))), ?_⟩
  obtain ⟨a, dx, t, b, rfl, ha, hb, hz, q⟩ := h
  refine g_start (σ := [some (.ref a)]) rfl ?_
  dsimp only [cxOf, Cx.nox]
  walk_at "go"
  refine g_mkR Al.nil hb hz fun p dx3 H3 s3 g3 n3 k3 => ?_
  walk_at "go"
  exact q p dx3 H3 s3 n3 k3.2
def spEq (K : Fg) : Sp := fun vs H Q _ => ∃ a dx t b y, vs = [.ref a, y] ∧ H a = some (RatO K dx t b) ∧
  ((∃ p dy t2 b2, y = .ref p ∧ H p = some (RatO K dy t2 b2) ∧ Q (.bl (decide (t = t2) && decide (b = b2))) H) ∨ (∃ ty, TyX K H y ty ∧ PySem.W.kitOne K ty (.ref (CR K)) = some false ∧ Q (.bl false) H))
theorem g_Ratio_eq (R : Raw K mg) : Gu P w K mg base 2 (CR K) "__eq__" (spEq K) := by
  obtain ⟨fd, F⟩ := fd_Ratio_eq R
  refine ⟨_, f_un_Ratio___eq__ R, fnR0 F sc_Ratio_eq (b_Ratio_eq F) (fun vs H Q E h => by obtain ⟨_, _, _, _, _, rfl, _⟩ := h; rfl) (fun cdv A outer s H vs Q E hr h => ?_)⟩
  refine ⟨_, (pss_one (ps_ret (pe_and (pe_callB c_isi rfl (f_free_isinstance R) bt_isi (pa_cons (pv 1) (pa_cons (pe_glob (v := .ref (He.ga K "Ratio")) rfl (f_glo_Ratio R) rfl) pa_nil))) (pe_and (pe_cmpR op_eq (pe_fld (pv 0) rfl) (pe_fld (pv 1) rfl) (nomark _)) (pe_one (pe_cmpR op_eq (pe_fld (pv 0) rfl) (pe_fld (pv 1) rfl) (nomark _))))))), ?_⟩
  obtain ⟨a, dx, t, b, y, rfl, ha, h⟩ := h
  refine g_start (σ := [some (.ref a), some (y)]) rfl ?_
  dsimp only [cxOf, Cx.nox]
  walk_at "go"
  rcases h with ⟨p, dy, t2, b2, rfl, hp, q⟩ | ⟨ty, ht, hk, q⟩
  · refine g_isi (.own _) ((f_ins_Ratio R).ty (f_cls_Ratio R) hp) (f_kitG_Ratio_Ratio_true R) ?_
    walk_at "go"
    refine iteT ?_
    walk_at "go"
    by_cases e : t = t2
    · rw [decide_eq_true e] at q ⊢
      refine iteT ?_
      walk_at "go"
      exact q
    · rw [decide_eq_false e] at q ⊢
      exact iteF q
  · refine g_isi (.own _) ht hk ?_
    walk_at "go"
    exact iteF q
def spOver (K : Fg) : Sp := fun vs H Q _ => ∃ a dx y t b t2 b2 n, vs = [.ref a, y] ∧ H a = some (RatO K dx t b) ∧ Am K H y t2 b2 ∧ 0 < b ∧ 0 < b2 ∧ t2 ≠ 0 ∧ Sz t n ∧ Sz b n ∧ Sz t2 n ∧ Sz b2 n ∧ n + n ≤ 9000 ∧
  ∀ p dx H', Same H H' → H p = none → (t2 < 0 → H' p = some (RatO K dx (rt (-t * b2) (-b * t2)) (rb (-t * b2) (-b * t2)))) → (0 < t2 → H' p = some (RatO K dx (rt (t * b2) (b * t2)) (rb (t * b2) (b * t2)))) → Q (.ref p) H'
theorem g_Ratio_over (R : Raw K mg) : Gm P w K mg base 5 (CR K) "over" (spOver K) := by
  obtain ⟨fd, F⟩ := fd_Ratio_over R
  refine ⟨_, f_cls_Ratio R, f_meth_Ratio_over R, fnR0 F sc_Ratio_over (b_Ratio_over F) (fun vs H Q E h => by obtain ⟨_, _, _, _, _, _, _, _, rfl, _⟩ := h; rfl) (fun cdv A outer s H vs Q E hr h => ?_)⟩
  refine ⟨_, (pss_cons (ps_set (i := 2) sc_Ratio_over.nd rfl (Or.inl rfl) (pe_s (g_Ratio_of R) hr (f_glo_Ratio R) (pa_cons (pv 1) pa_nil)))
      (pss_cons (ps_if (pt_cmpR op_eq (pe_fld (pv 2) rfl) pe_int (nomark _)) (pss_one ps_never) pss_nil)
      (pss_cons (ps_if (pt_cmpR op_lt (pe_fld (pv 2) rfl) pe_int (nomark _)) (pss_one (ps_ret (pe_c1 (g_Ratio R) hr (pa_cons (pe_op op_mulG (pe_un un_neg (pe_fld (pv 0) rfl)) (pe_fld (pv 2) rfl)) (pa_cons (pe_op op_mulG (pe_un un_neg (pe_fld (pv 0) rfl)) (pe_fld (pv 2) rfl)) pa_nil))))) pss_nil)
      (pss_one (ps_ret (pe_c1 (g_Ratio R) hr (pa_cons (pe_op op_mulG (pe_fld (pv 0) rfl) (pe_fld (pv 2) rfl)) (pa_cons (pe_op op_mulG (pe_fld (pv 0) rfl) (pe_fld (pv 2) rfl)) pa_nil)))))))), ?_⟩
  obtain ⟨a, dx, y, t, b, t2, b2, n, rfl, ha, am, hb, hb2, h0, z1, z2, z3, z4, hn, q⟩ := h
  refine g_start (σ := [some (.ref a), some (y), none]) rfl ?_
  dsimp only [cxOf, Cx.nox]
  walk_at "go"
  refine g_of am fun p dx2 H2 s2 h2 => ?_
  walk_at "go"
  rw [decide_eq_false h0]
  refine iteF ?_
  walk_at "go"
  by_cases hn0 : t2 < 0
  · rw [decide_eq_true hn0]
    refine iteT ?_
    walk_at "go"
    refine g_I (cm z1.neg z4 hn) ?_
    walk_at "go"
    refine g_I (cm z2.neg z3 hn) ?_
    walk_at "go"
    have hp : 0 < -b * t2 := Int.mul_pos_of_neg_of_neg (by omega) hn0
    refine g_mkR Al.nil hp ((z2.neg.mul z3).mono hn) fun p dx3 H3 s3 g3 n3 k3 => ?_
    walk_at "go"
    exact q p dx3 H3 (s2.trans s3) (s2.free n3) (fun _ => k3.2) fun z => absurd hn0 (by omega)
  · rw [decide_eq_false hn0]
    refine iteF ?_
    walk_at "go"
    refine g_I (cm z1 z4 hn) ?_
    walk_at "go"
    refine g_I (cm z2 z3 hn) ?_
    walk_at "go"
    have hp : 0 < b * t2 := Int.mul_pos hb (by omega)
    refine g_mkR Al.nil hp ((z2.mul z3).mono hn) fun p dx3 H3 s3 g3 n3 k3 => ?_
    walk_at "go"
    exact q p dx3 H3 (s2.trans s3) (s2.free n3) (fun z => absurd z hn0) fun _ => k3.2
/-! ### the law's bag of cells -/
structure BagC (H : Hp) (b c : Addr) (cells : List Int) (i r m k : Int) : Prop where
  at_ : H b = some (.lst [.ref c, .int i, .int r, .int m, .int k])
  cs : H c = some (.lst (cells.map V.int))
  ne : c ≠ b
  ln : cells.length ≤ 63
  i0 : 0 ≤ i
  r0 : 0 ≤ r
  m0 : 0 ≤ m
  m1 : m < 2147483587
  k0 : 0 ≤ k
def BagAt (H : Hp) (b : Addr) : Prop := ∃ c cells i r m k, BagC H b c cells i r m k
theorem BagAt.mv {H H' : Hp} {b : Addr} (s : Same H H') (h : BagAt H b) : BagAt H' b := by
  obtain ⟨c, cells, i, r, m, k, h⟩ := h
  exact ⟨c, cells, i, r, m, k, s _ _ h.at_, s _ _ h.cs, h.ne, h.ln, h.i0, h.r0, h.m0, h.m1, h.k0⟩
theorem BagAt.al {H : Hp} {b : Addr} (h : BagAt H b) : Al [b] H := fun m hm => by
  obtain ⟨c, cells, i, r, m', k, h⟩ := h
  have e : m = b := by simpa using hm
  rw [e]
  exact some_ne h.at_
def spBag (K : Fg) : Sp := fun vs H Q _ => ∃ (a : Addr) (ns : List Int), vs = [.ref a] ∧ SqL K H a (ns.map V.int) ∧ ∀ b H', Same H H' → H b = none → BagAt H' b → Q (.ref b) H'
theorem g_law_bag (R : Raw K mg) : Gf P w K mg base 1 "_law_bag" (spBag K) := by
  obtain ⟨fd, F⟩ := fd_law_bag R
  refine ⟨_, fnR0 F sc_law_bag (b_law_bag F) (fun vs H Q E h => by obtain ⟨_, _, rfl, _⟩ := h; rfl) (fun cdv A outer s H vs Q E hr h => ?_), f_glo__law_bag R, F.kp⟩
  refine ⟨_, (pss_one (ps_ret (pe_lst (pa_cons (pe_callTy c_list rfl (f_free_list R) bt_list (pa_cons (pe_slice sl_list (pv 0) po_none (po_some pe_int)) pa_nil)) (pa_cons pe_int (pa_cons pe_int (pa_cons pe_int (pa_cons pe_int pa_nil)))))))), ?_⟩
  obtain ⟨a, ns, rfl, hS, q⟩ := h
  refine g_start (σ := [some (.ref a)]) rfl ?_
  dsimp only [cxOf, Cx.nox]
  walk_at "go"
  refine g_slL hS (cut_take _ 63) Al.nil fun c H1 s1 w1 n1 k1 => ?_
  walk_at "go"
  refine g_listL k1.sqL Al.nil fun d H2 s2 w2 n2 k2 => ?_
  walk_at "go"
  rename_i b H3 s3 _ n3 k3
  have e : (ns.map V.int).take 63 = (ns.take 63).map V.int := by rw [List.map_take]
  rw [e] at k2
  exact q b H3 ((s1.trans s2).trans s3) ((s1.trans s2).free n3) ⟨d, ns.take 63, 0, 0, 10046, 0, k3.2, s3 _ _ k2.2, ne_of_none k2.2 n3, by rw [List.length_take]; omega, by omega, by omega, by omega, by omega, by omega⟩
/-- all but the bag as it was -/
structure Dr (b : Addr) (H H' : Hp) : Prop where
  kp : ∀ a o, a ≠ b → H a = some o → H' a = some o
  bag : BagAt H' b
theorem Dr.gw {b : Addr} {H H' : Hp} (d : Dr b H H') : Gw [b] H H' := ⟨fun a o ha e => d.kp a o (fun q => ha (by rw [q]; exact List.mem_cons_self)) e, fun m hm _ => d.bag.al m hm⟩
def spPull : Sp := fun vs H Q _ => ∃ b n, vs = [.ref b, .int n] ∧ BagAt H b ∧ 0 < n ∧ Sz n 9000 ∧ ∀ r H', 0 ≤ r → r < n → Dr b H H' → Q (.int r) H'
theorem g_law_pull (R : Raw K mg) : Gf P w K mg base 1 "_law_pull" spPull := by
  obtain ⟨fd, F⟩ := fd_law_pull R
  refine ⟨_, fnR0 F sc_law_pull (b_law_pull F) (fun vs H Q E h => by obtain ⟨_, _, rfl, _⟩ := h; rfl) (fun cdv A outer s H vs Q E hr h => ?_), f_glo__law_pull R, F.kp⟩
  refine ⟨_, (C8.pss_cut (ps_if (PW.pt (pw_and (pt_cmpR op_eq (pe_ix ix_list (pv 0) pe_int (fun _ _ => rfl)) pe_int (nomark _)) (pw_and1 (pt_cmpR op_lt (pe_ix ix_list (pv 0) pe_int (fun _ _ => rfl)) (pe_callB c_len rfl (f_free_len R) bt_len (pa_cons (pe_ix ix_list (pv 0) pe_int (fun _ _ => rfl)) pa_nil)) (nomark _))))) (pss_cons (ps_set (i := 2) sc_law_pull.nd rfl (Or.inl rfl) (pe_ix ix_list (pe_ix ix_list (pv 0) pe_int (fun _ _ => rfl)) (pe_ix ix_list (pv 0) pe_int (fun _ _ => rfl)) (fun _ _ => rfl)))
      (pss_cons (ps_asg (pe_op op_add (pe_ix ix_list (pv 0) pe_int (fun _ _ => rfl)) pe_int) (pg_sub (pv 0) pe_int set_list))
      (pss_one (ps_if (pt_cmpR op_ge (pv 2) (pe_op op_pow pe_int pe_int) (nomark _)) (pss_one (ps_asg (pv 2) (pg_sub (pv 0) pe_int set_list))) (pss_one (ps_asg (pe_op op_mod (pe_callTy c_int rfl (f_free_int R) bt_int (pa_cons (pe_op op_add (pe_op op_add (pe_op op_mulG (pe_ix ix_list (pv 0) pe_int (fun _ _ => rfl)) pe_int) (pe_op op_mulG (pe_op op_mod (pe_callTy c_int rfl (f_free_int R) bt_int (pa_cons (pv 2) pa_nil)) pe_int) pe_int)) pe_int) pa_nil)) pe_int) (pg_sub (pv 0) pe_int set_list))))))) pss_nil)
      (pss_cons (ps_if (pt_cmpR op_gt (pe_ix ix_list (pv 0) pe_int (fun _ _ => rfl)) pe_int (nomark _)) (pss_cons (ps_set (i := 3) sc_law_pull.nd rfl (Or.inl rfl) (pe_op op_mod (pe_callTy c_int rfl (f_free_int R) bt_int (pa_cons (pe_ix ix_list (pv 0) pe_int (fun _ _ => rfl)) pa_nil)) (pv 1)))
      (pss_cons (ps_asg (pe_op op_fdivW (pe_callTy c_int rfl (f_free_int R) bt_int (pa_cons (pe_ix ix_list (pv 0) pe_int (fun _ _ => rfl)) pa_nil)) (pv 1)) (pg_sub (pv 0) pe_int set_list))
      (pss_one (ps_ret (pv 3))))) pss_nil)
      (pss_cons (ps_asg (pe_op op_add (pe_ix ix_list (pv 0) pe_int (fun _ _ => rfl)) pe_int) (pg_sub (pv 0) pe_int set_list))
      (pss_cons (ps_set (i := 4) sc_law_pull.nd rfl (Or.inl rfl) (pe_ix ix_list (pv 0) pe_int (fun _ _ => rfl)))
      (pss_cons (ps_asg (pe_op op_mod (pe_callTy c_int rfl (f_free_int R) bt_int (pa_cons (pe_op op_add (pe_op op_add (pe_op op_add (pe_op op_mulG (pv 4) (pv 4)) (pe_op op_mulG (pv 4) pe_int)) (pe_op op_mulG (pe_ix ix_list (pv 0) pe_int (fun _ _ => rfl)) pe_int)) pe_int) pa_nil)) pe_int) (pg_sub (pv 0) pe_int set_list))
      (pss_one (ps_ret (pe_op op_mod (pe_callTy c_int rfl (f_free_int R) bt_int (pa_cons (pe_op op_add (pe_op op_fdivW (pe_ix ix_list (pv 0) pe_int (fun _ _ => rfl)) pe_int) (pe_op op_mulG (pe_op op_mod (pe_callTy c_int rfl (f_free_int R) bt_int (pa_cons (pe_ix ix_list (pv 0) pe_int (fun _ _ => rfl)) pa_nil)) pe_int) pe_int)) pa_nil)) (pv 1))))))))), ?_⟩
  obtain ⟨b, n, rfl, hB, hn, hz, q⟩ := h
  refine g_start (σ := [some (.ref b), some (.int n), none, none, none]) rfl ?_
  dsimp only [cxOf, Cx.nox]
  refine g_cut (fun σ' H' => ∃ v, σ' = [some (.ref b), some (.int n), v, none, none] ∧ Dr b H H') ?_ ?_
  · obtain ⟨c, cells, i, r, m, k, B⟩ := hB
    have hb := B.at_
    have hc := B.cs
    have done : ∀ H', (∀ a o, a ≠ b → H a = some o → H' a = some o) → BagAt H' b → ∃ v, ([some (.ref b), some (.int n), none, none, none] : L2.St) = [some (.ref b), some (.int n), v, none, none] ∧ Dr b H H' := fun H' z hb' => ⟨none, rfl, z, hb'⟩
    walk_at "go"
    refine g_ite (fun hr0 => ?_) (fun _ => ?_)
    · walk_at "go"
      refine g_ite (fun hl => ?_) (fun _ => ?_)
      · have hl2 : i < cells.length := by simpa using hl
        obtain ⟨j, rfl⟩ : ∃ j : Nat, i = (j : Int) := ⟨i.toNat, by have := B.i0; omega⟩
        have hj : j < cells.length := by omega
        have hat : atI (cells.map V.int) (j : Int) = some (.int cells[j]) := atI_nat (by rw [List.getElem?_map, List.getElem?_eq_getElem hj] <;> rfl)
        walk_at "go"
        refine g_ixL (SqL.of hc) hat ?_
        walk_at "go"
        refine g_subK2 hb rfl rfl fun H1 w1 z1 h1 => ?_
        have hc1 := z1 c _ B.ne hc
        walk_at "go"
        refine g_I ⟨by omega, by omega, by decide⟩ ?_
        walk_at "go"
        refine g_ite (fun hbig => ?_) (fun _ => ?_)
        · walk_at "go"
          refine g_subK2 h1 rfl rfl fun H2 w2 z2 h2 => ?_
          walk_at "go"
          have hp : (0 : Int) ≤ cells[j] := by
            have : (10 : Int) ^ (18 : Int).toNat ≤ cells[j] := by simpa using hbig
            have e : (10 : Int) ^ (18 : Int).toNat = 1000000000000000000 := by decide
            omega
          exact ⟨_, rfl, fun a o ne e => z2 a o ne (z1 a o ne e), c, cells, (j : Int) + 1, cells[j], m, k, h2, z2 c _ B.ne hc1, B.ne, B.ln, by omega, hp, B.m0, B.m1, B.k0⟩
        · walk_at "go"
          refine g_I (cmulw (m := 31) (n := 17) ?_ (Sz.nat (by decide)) (by decide)) ?_
          · have := B.m0
            have := B.m1
            show m.natAbs < 2 ^ 31
            omega
          walk_at "go"
          refine g_I (by decide) ?_
          walk_at "go"
          refine g_I (cmulw (m := 31) (n := 17) ?_ (Sz.nat (by decide)) (by decide)) ?_
          · have := Int.emod_nonneg cells[j] (show (2147483543 : Int) ≠ 0 by decide)
            have := Int.emod_lt_of_pos cells[j] (show (0 : Int) < 2147483543 by decide)
            show (cells[j] % 2147483543).natAbs < 2 ^ 31
            omega
          walk_at "go"
          refine g_I (by decide) ?_
          walk_at "go"
          refine g_subK2 h1 rfl rfl fun H2 w2 z2 h2 => ?_
          walk_at "go"
          exact ⟨_, rfl, fun a o ne e => z2 a o ne (z1 a o ne e), c, cells, (j : Int) + 1, r, _, k, h2, z2 c _ B.ne hc1, B.ne, B.ln, by omega, B.r0, Int.emod_nonneg _ (by decide), Int.emod_lt_of_pos _ (by decide), B.k0⟩
      · walk_at "go"
        exact done H (fun _ _ _ e => e) ⟨c, cells, i, r, m, k, B⟩
    · refine iteF ?_
      walk_at "go"
      exact done H (fun _ _ _ e => e) ⟨c, cells, i, r, m, k, B⟩
  · rintro σ' H0 ⟨v, rfl, hD⟩
    obtain ⟨c, cells, i, r, m, k, B⟩ := hD.bag
    have hb := B.at_
    walk_at "go"
    refine g_ite (fun hr0 => ?_) (fun _ => ?_)
    · have hr : 0 < r := by simpa using hr0
      walk_at "go"
      refine g_I hn ?_
      walk_at "go"
      refine g_I (cdivw hn hz (by decide)) ?_
      walk_at "go"
      refine g_subK2 hb rfl rfl fun H2 w2 z2 h2 => ?_
      walk_at "go"
      refine q _ H2 (Int.emod_nonneg _ (by omega)) (Int.emod_lt_of_pos _ hn) ⟨fun a o ne e => z2 a o ne (hD.kp a o ne e), c, cells, i, r / n, m, k, h2, z2 c _ B.ne B.cs, B.ne, B.ln, B.i0, Int.ediv_nonneg (by omega) (by omega), B.m0, B.m1, B.k0⟩
    · walk_at "go"
      refine g_subK2 hb rfl rfl fun H2 w2 z2 h2 => ?_
      have hc2 := z2 c _ B.ne B.cs
      have m0 := B.m0
      have m1 := B.m1
      have zm : Sz m 31 := by
        show m.natAbs < 2 ^ 31
        omega
      walk_at "go"
      refine g_I (cmulw zm zm (by decide)) ?_
      walk_at "go"
      refine g_I (cmulr (by decide) (by decide)) ?_
      walk_at "go"
      refine g_I (cmulr (by decide) (by decide)) ?_
      walk_at "go"
      refine g_I (by decide) ?_
      walk_at "go"
      refine g_subK2 h2 rfl rfl fun H3 w3 z3 h3 => ?_
      have hc3 := z3 c _ B.ne hc2
      have k0 := B.k0
      walk_at "go"
      refine g_I (cdivw (n := 10) (by decide) (Sz.nat (by decide)) (by decide)) ?_
      walk_at "go"
      refine g_I (by decide) ?_
      walk_at "go"
      refine g_I (cmulr (by decide) (by decide)) ?_
      walk_at "go"
      refine g_I hn ?_
      walk_at "go"
      exact q _ H3 (Int.emod_nonneg _ (by omega)) (Int.emod_lt_of_pos _ hn) ⟨fun a o ne e => z3 a o ne (z2 a o ne (hD.kp a o ne e)), c, cells, i, r, _, k + 1, h3, hc3, B.ne, B.ln, B.i0, B.r0, Int.emod_nonneg _ (by decide), Int.emod_lt_of_pos _ (by decide), by omega⟩
end

open PySem PySem.Spec PyProof.Rows L2 GX GM
section
variable {P : Program} {w : World} {K : Fg} {mg : Str → Option Value} {base : Heap}
def spSameN : Nat → Sp
  | 0 => fun _ _ _ _ => False
  | n + 1 => spSame n
theorem same_cases {n : Nat} {H : Hp} {x y : V} (h : Sm n H x y) : (x = y ∧ isSc x = true) ∨ ∃ m, n = m + 1 ∧ ∃ a b xs ys, x = .ref a ∧ y = .ref b ∧ ((H a = some (.lst xs) ∧ H b = some (.lst ys)) ∨ (H a = some (.tup xs) ∧ H b = some (.tup ys))) ∧ Nat.ble (xs.length + 1) 5000 = true ∧ xs.length = ys.length ∧
      ∀ (i : Nat) x' y', xs[i]? = some x' → ys[i]? = some y' → Sm m H x' y' := by
  cases n with
  | zero => exact .inl h
  | succ m => exact h.imp id fun h => ⟨m, rfl, h⟩
theorem g_law_sameN (R : Raw K mg) : ∀ n, Gf P w K mg base n "_law_same" (spSameN n)
  | 0 => by
    obtain ⟨fd, F⟩ := fd_law_same R
    exact ⟨_, fun _ _ _ _ _ _ _ _ _ _ _ h => h.elim, f_glo__law_same R, F.kp⟩
  | n + 1 => by
    have ih := g_law_sameN R n
    obtain ⟨fd, F⟩ := fd_law_same R
    refine ⟨_, fnR0 F sc_law_same (b_law_same F) (fun vs H Q E h => by obtain ⟨_, _, rfl, _⟩ := h; rfl) (fun cdv A outer s H vs Q E hr h => ?_), f_glo__law_same R, F.kp⟩
    refine ⟨_, (pss_cons (ps_if (pt_val (pe_callB c_isiT rfl (f_free_isinstance R) bt_isi (pa_cons (pv 1) (pa_cons (pe_tup (pa_cons (pe_bltn (v := .ty "list") rfl (f_free_list R) bt_list rfl) (pa_cons (pe_bltn (v := .ty "tuple") rfl (f_free_tuple R) bt_tuple rfl) pa_nil))) pa_nil)))) (pss_cons (ps_if (PW.pt (pw_or (pt_cmpR op_ne (pe_callB c_isi rfl (f_free_isinstance R) bt_isi (pa_cons (pv 0) (pa_cons (pe_bltn (v := .ty "list") rfl (f_free_list R) bt_list rfl) pa_nil))) (pe_callB c_isi rfl (f_free_isinstance R) bt_isi (pa_cons (pv 1) (pa_cons (pe_bltn (v := .ty "list") rfl (f_free_list R) bt_list rfl) pa_nil))) (nomark _)) (pw_or1 (pt_cmpR op_ne (pe_callB c_isi rfl (f_free_isinstance R) bt_isi (pa_cons (pv 0) (pa_cons (pe_bltn (v := .ty "tuple") rfl (f_free_tuple R) bt_tuple rfl) pa_nil))) (pe_callB c_isi rfl (f_free_isinstance R) bt_isi (pa_cons (pv 1) (pa_cons (pe_bltn (v := .ty "tuple") rfl (f_free_tuple R) bt_tuple rfl) pa_nil))) (nomark _))))) (pss_one (ps_ret pe_bl)) pss_nil)
      (pss_one (ps_ret (pe_and (pe_cmpR op_eq (pe_callB c_len rfl (f_free_len R) bt_len (pa_cons (pv 0) pa_nil)) (pe_callB c_len rfl (f_free_len R) bt_len (pa_cons (pv 1) pa_nil)) (nomark _)) (pe_one (pe_callB (cr_all rfl) rfl (f_free_all R) bt_all (pa_cons (pe_lc (own := [("_law_one_y", 2), ("_law_two", 3)]) (g := gTup K 2 (gCons (gName 2) (gCons (gName 3) gNil))) (tt := tYes) rfl sc_law_same.nd (RZ.pi_zipA rfl (f_free_zip R) (pa_cons (pv 0) (pa_cons (pv 1) pa_nil))) (blkOk_by (own := [("_law_one_y", 2), ("_law_two", 3)]) (N := N_law_same) (sc := defScope s_law_same) (by decide +kernel)) (fun _ _ _ _ _ => (pg_tup rfl (pgs_cons (pg_name (i := 2) sc_law_same.nd rfl (Or.inl rfl)) (pgs_cons (pg_name (i := 3) sc_law_same.nd rfl (Or.inl rfl)) pgs_nil)))) (fun _ _ _ _ _ => pts_nil) (fun _ _ _ _ _ => (pe_g (hk := Nat.le_refl _) ih hr (pa_cons (pv 2) (pa_cons (pv 3) pa_nil))))) pa_nil))))))) pss_nil)
      (pss_cons (ps_if (PW.pt (pw_or (pt_cmp (pc_isN (pv 1))) (pw_or1 (pt_cmp (pc_isN (pv 0)))))) (pss_one (ps_ret (pe_and (pe_cmp (pc_isN (pv 1)) rfl) (pe_one (pe_cmp (pc_isN (pv 0)) rfl))))) pss_nil)
      (pss_cons (ps_if (PW.pt (pw_or (pt_cmpR op_ne (pe_callB c_isi rfl (f_free_isinstance R) bt_isi (pa_cons (pv 0) (pa_cons (pe_bltn (v := .ty "bool") rfl (f_free_bool R) bt_bool rfl) pa_nil))) (pe_callB c_isi rfl (f_free_isinstance R) bt_isi (pa_cons (pv 1) (pa_cons (pe_bltn (v := .ty "bool") rfl (f_free_bool R) bt_bool rfl) pa_nil))) (nomark _)) (pw_or1 (pt_cmpR op_ne (pe_callB c_isi rfl (f_free_isinstance R) bt_isi (pa_cons (pv 0) (pa_cons (pe_bltn (v := .ty "int") rfl (f_free_int R) bt_int rfl) pa_nil))) (pe_callB c_isi rfl (f_free_isinstance R) bt_isi (pa_cons (pv 1) (pa_cons (pe_bltn (v := .ty "int") rfl (f_free_int R) bt_int rfl) pa_nil))) (nomark _))))) (pss_one (ps_ret pe_bl)) pss_nil)
      (pss_one (ps_ret (pe_and (pe_cmpR op_eq (pe_callB c_isi rfl (f_free_isinstance R) bt_isi (pa_cons (pv 0) (pa_cons (pe_bltn (v := .ty "str") rfl (f_free_str R) bt_str rfl) pa_nil))) (pe_callB c_isi rfl (f_free_isinstance R) bt_isi (pa_cons (pv 1) (pa_cons (pe_bltn (v := .ty "str") rfl (f_free_str R) bt_str rfl) pa_nil))) (nomark _)) (pe_one (pe_cmpR op_eq (pv 0) (pv 1) (nomark _))))))))), ?_⟩
    obtain ⟨x, y, rfl, hS, q⟩ := h
    refine g_start (σ := [some (x), some (y), none, none]) rfl ?_
    dsimp only [cxOf, Cx.nox]
    rcases same_cases hS with ⟨rfl, hx⟩ | ⟨m, rfl, a, b, xs, ys, rfl, rfl, hh, hz, hl, hk⟩
    · walk_at "go"
      rename_i c H1 s1 w1 n1 k1
      cases x with
      | non =>
        refine g_isiLT k1.2 (.base (.non)) (by walk_at "kq") (by walk_at "kq") ?_
        walk_at "go"
        refine iteF ?_
        walk_at "go"
        refine iteT ?_
        walk_at "go"
        refine iteT ?_
        walk_at "go"
        refine iteT ?_
        walk_at "go"
        exact q _ s1
      | bl k =>
        refine g_isiLT k1.2 (.base (.bl k)) (by walk_at "kq") (by walk_at "kq") ?_
        walk_at "go"
        refine iteF ?_
        walk_at "go"
        refine iteF ?_
        walk_at "go"
        refine iteF ?_
        walk_at "go"
        refine iteF ?_
        walk_at "go"
        refine iteF ?_
        walk_at "go"
        refine iteT ?_
        walk_at "go"
        rw [show (k == k) = true from beq_self_eq_true k]
        exact q _ s1
      | int k =>
        refine g_isiLT k1.2 (.base (.int k)) (by walk_at "kq") (by walk_at "kq") ?_
        walk_at "go"
        refine iteF ?_
        walk_at "go"
        refine iteF ?_
        walk_at "go"
        refine iteF ?_
        walk_at "go"
        refine iteF ?_
        walk_at "go"
        refine iteF ?_
        walk_at "go"
        refine iteT ?_
        walk_at "go"
        rw [decide_eq_true rfl]
        exact q _ s1
      | str k =>
        refine g_isiLT k1.2 (.base (.str k)) (by walk_at "kq") (by walk_at "kq") ?_
        walk_at "go"
        refine iteF ?_
        walk_at "go"
        refine iteF ?_
        walk_at "go"
        refine iteF ?_
        walk_at "go"
        refine iteF ?_
        walk_at "go"
        refine iteF ?_
        walk_at "go"
        refine iteT ?_
        walk_at "go"
        rw [decide_eq_true rfl]
        exact q _ s1
      | _ => cases hx
    · rcases hh with ⟨h1, h2⟩ | ⟨h1, h2⟩
      · walk_at "go"
        rename_i c H1 s1 w1 n1 k1
        have e1 := s1 _ _ h1
        have e2 := s1 _ _ h2
        refine g_isiL k1.2 (.base (.lst (s1 _ _ h2))) ?_
        walk_at "go"
        refine iteT ?_
        walk_at "go"
        refine g_isiB (.base (.lst (s1 _ _ h1))) (by walk_at "kq") ?_
        walk_at "go"
        refine g_isiB (.base (.lst (s1 _ _ h2))) (by walk_at "kq") ?_
        walk_at "go"
        refine iteF ?_
        walk_at "go"
        refine g_isiB (.base (.lst (s1 _ _ h1))) (by walk_at "kq") ?_
        walk_at "go"
        refine g_isiB (.base (.lst (s1 _ _ h2))) (by walk_at "kq") ?_
        walk_at "go"
        refine iteF ?_
        walk_at "go"
        rw [decide_eq_true (by rw [hl])]
        refine iteT ?_
        walk_at "go"
        refine g_zipT hz hl (.inl ⟨s1 _ _ h1, s1 _ _ h2⟩) Al.nil (fun _ _ => rfl) (fun i x y H2 Q2 ex ey s2 w2 q2 => ?_) fun D H2 s2 w2 n2 k2 => ?_
        · dsimp only [wipe, List.map, List.foldl, List.set]
          walk_at "go"
          exact ⟨x, y, rfl, (hk i x y ex ey).mv (s1.trans s2), q2⟩
        · refine g_allR k2.2 ?_
          exact q _ (s1.trans s2)
      · walk_at "go"
        rename_i c H1 s1 w1 n1 k1
        have e1 := s1 _ _ h1
        have e2 := s1 _ _ h2
        refine g_isiU k1.2 (.base (.tup (s1 _ _ h2))) ?_
        walk_at "go"
        refine iteT ?_
        walk_at "go"
        refine g_isiB (.base (.tup (s1 _ _ h1))) (by walk_at "kq") ?_
        walk_at "go"
        refine g_isiB (.base (.tup (s1 _ _ h2))) (by walk_at "kq") ?_
        walk_at "go"
        refine iteF ?_
        walk_at "go"
        refine g_isiB (.base (.tup (s1 _ _ h1))) (by walk_at "kq") ?_
        walk_at "go"
        refine g_isiB (.base (.tup (s1 _ _ h2))) (by walk_at "kq") ?_
        walk_at "go"
        refine iteF ?_
        walk_at "go"
        rw [decide_eq_true (by rw [hl])]
        refine iteT ?_
        walk_at "go"
        refine g_zipT hz hl (.inr ⟨s1 _ _ h1, s1 _ _ h2⟩) Al.nil (fun _ _ => rfl) (fun i x y H2 Q2 ex ey s2 w2 q2 => ?_) fun D H2 s2 w2 n2 k2 => ?_
        · dsimp only [wipe, List.map, List.foldl, List.set]
          walk_at "go"
          exact ⟨x, y, rfl, (hk i x y ex ey).mv (s1.trans s2), q2⟩
        · refine g_allR k2.2 ?_
          exact q _ (s1.trans s2)
theorem g_law_same (R : Raw K mg) : Gf P w K mg base 2 "_law_same" (spSame 1) := g_law_sameN R 2
end

open PySem PySem.Spec PyProof.Rows L2 GX GM
section
variable {P : Program} {w : World} {K : Fg} {mg : Str → Option Value} {base : Heap}
/-- the pair t, b stands at p -/
def Pr (H : Hp) (p : Addr) (t b : Int) : Prop := H p = some (.tup [.int t, .int b])
def spCut : Sp := fun vs H Q _ => ∃ a b : Int, vs = [.int a, .int b] ∧ 0 < b ∧ Sz b 9000 ∧ ∀ p H', Same H H' → H p = none → Pr H' p (rt a b) (rb a b) → Q (.ref p) H'
theorem g_law_cut (R : Raw K mg) : Gf P w K mg base 1 "_law_cut" spCut := by
  obtain ⟨fd, F⟩ := fd_law_cut R
  refine ⟨_, fnR0 F sc_law_cut (b_law_cut F) (fun vs H Q E h => by obtain ⟨_, _, rfl, _⟩ := h; rfl) (fun cdv A outer s H vs Q E hr h => ?_), f_glo__law_cut R, F.kp⟩
  refine ⟨_, (pss_cons (ps_par (i := 2) (j := 3) rfl sc_law_cut.nd rfl rfl (by decide) rfl rfl (pa_cons (pe_callB c_abs rfl (f_free_abs R) bt_abs (pa_cons (pe_callTy c_int rfl (f_free_int R) bt_int (pa_cons (pv 0) pa_nil)) pa_nil)) (pa_cons (pe_callTy c_int rfl (f_free_int R) bt_int (pa_cons (pv 1) pa_nil)) pa_nil)) rfl)
      (pss_cons (ps_for PassesOwn.never rfl (pi_range1 rfl (f_free_range R) (pa_cons (pe_op op_add (pe_op op_mulG pe_int (pe_bits (pe_callTy c_int rfl (f_free_int R) bt_int (pa_cons (pv 1) pa_nil)))) pe_int) pa_nil)) (pg_name (i := 4) sc_law_cut.nd rfl (Or.inl rfl)) (pss_one (ps_if (pt_cmpR op_gt (pv 3) pe_int (nomark _)) (pss_one (ps_par (i := 2) (j := 3) rfl sc_law_cut.nd rfl rfl (by decide) rfl rfl (pa_cons (pv 3) (pa_cons (pe_op op_mod (pe_callTy c_int rfl (f_free_int R) bt_int (pa_cons (pv 2) pa_nil)) (pv 3)) pa_nil)) rfl)) pss_nil)))
      (pss_one (ps_ret (pe_tup (pa_cons (pe_op op_fdivW (pe_callTy c_int rfl (f_free_int R) bt_int (pa_cons (pv 0) pa_nil)) (pv 2)) (pa_cons (pe_op op_fdivW (pe_callTy c_int rfl (f_free_int R) bt_int (pa_cons (pv 1) pa_nil)) (pv 2)) pa_nil))))))), ?_⟩
  obtain ⟨a, b, rfl, hb, hz, q⟩ := h
  have hbits : Builtin.Int.intBits b ≤ 9000 := PySem.intBits_le_iff.mpr hz
  refine g_start (σ := [some (.int a), some (.int b), none, none, none]) rfl ?_
  try dsimp only [cxOf, Cx.nox]
  walk_at "go"
  refine g_I (cmulr (by have := hbits; omega) (by have := hbits; omega)) ?_
  walk_at "go"
  have en : (2 * ((Builtin.Int.intBits b : Nat) : Int) + 4) = ((2 * Builtin.Int.intBits b + 4 : Nat) : Int) := by omega
  rw [en]
  have hlog : b.natAbs < 2 ^ Builtin.Int.intBits b := PySem.intBits_le_iff.mp (Nat.le_refl _)
  refine g_rngK (by have := hbits; omega) (fun i σ' H' => ∃ k, σ' = [some (.int a), some (.int b), some (.int ((eu i (a.natAbs, b.natAbs)).1 : Int)), some (.int ((eu i (a.natAbs, b.natAbs)).2 : Int)), k] ∧ H' = H) ?_ ?_ ?_
  · refine ⟨none, ?_, rfl⟩
    have e : ((b.natAbs : Nat) : Int) = b := by omega
    show [some (V.int a), some (V.int b), some (V.int (a.natAbs : Int)), some (V.int b), none] = [some (V.int a), some (V.int b), some (V.int (a.natAbs : Int)), some (V.int (b.natAbs : Int)), none]
    rw [e]
  · rintro i σ' H' hi ⟨k, rfl, rfl⟩
    have es : eu (i + 1) (a.natAbs, b.natAbs) = eust (eu i (a.natAbs, b.natAbs)) := rfl
    rw [es]
    dsimp only [List.set]
    generalize eu i (a.natAbs, b.natAbs) = p
    obtain ⟨x, y⟩ := p
    walk_at "go"
    refine g_ite (fun h => ?_) (fun h => ?_)
    · have hy : 0 < y := by simpa using h
      walk_at "go"
      refine g_I (by omega) ?_
      walk_at "go"
      refine ⟨some (.int (i : Int)), ?_, rfl⟩
      have e : eust (x, y) = (y, x % y) := by
        unfold eust
        exact if_pos hy
      rw [e]
      simp
    · have hy : ¬ 0 < y := by simpa using h
      walk_at "go"
      refine ⟨some (.int (i : Int)), ?_, rfl⟩
      have e : eust (x, y) = (x, y) := by
        unfold eust
        exact if_neg hy
      rw [e]
  · rintro σ' H' ⟨k, rfl, rfl⟩
    rw [eu_end hlog (by omega)]
    have eg : ((Nat.gcd a.natAbs b.natAbs : Nat) : Int) = (Int.gcd a b : Int) := rfl
    walk_at "go"
    refine g_I (cdivw (gpos hb) (hz.gcd hb) (by decide)) ?_
    walk_at "go"
    refine g_I (cdivw (gpos hb) (hz.gcd hb) (by decide)) ?_
    walk_at "go"
    rename_i p H2 s2 w2 n2 k2
    exact q p H2 s2 n2 k2.2
theorem g_cut2 {Ms : List Addr} {a b : Int} {H : Hp} {Q : VK} {E : XK} (al : Al Ms H) (hb : 0 < b) (hz : Sz b 9000) (q : ∀ p H', Same H H' → Gw Ms H H' → H p = none → Kn Ms H' p (.tup [.int (rt a b), .int (rb a b)]) → Q (.ref p) H') : spCut [.int a, .int b] H Q E :=
  ⟨a, b, rfl, hb, hz, fun p H' s n k => q p H' s (gw_same s) n (Kn.new al n k)⟩
/-- two pairs -/
def spTwo (f g : Int → Int → Int → Int → Int) : Sp := fun vs H Q _ => ∃ p q t b t2 b2 n, vs = [.ref p, .ref q] ∧ Pr H p t b ∧ Pr H q t2 b2 ∧ 0 < g t b t2 b2 ∧ Sz t n ∧ Sz b n ∧ Sz t2 n ∧ Sz b2 n ∧ n + n ≤ 8999 ∧
  ∀ r H', Same H H' → H r = none → Pr H' r (rt (f t b t2 b2) (g t b t2 b2)) (rb (f t b t2 b2) (g t b t2 b2)) → Q (.ref r) H'
theorem cm2 {x y : Int} {n : Nat} (h : Sz x n) (k : Sz y n) (hn : n + n ≤ 8999) : IntMulOk x y := cmulw (m := 4499) (n := 4499) (h.mono (by omega)) (k.mono (by omega)) (by decide)
theorem g_law_plus (R : Raw K mg) : Gf P w K mg base 2 "_law_plus" (spTwo (fun t b t2 b2 => t * b2 + t2 * b) fun _ b _ b2 => b * b2) := by
  obtain ⟨fd, F⟩ := fd_law_plus R
  refine ⟨_, fnR0 F sc_law_plus (b_law_plus F) (fun vs H Q E h => by obtain ⟨_, _, _, _, _, _, _, rfl, _⟩ := h; rfl) (fun cdv A outer s H vs Q E hr h => ?_), f_glo__law_plus R, F.kp⟩
  refine ⟨_, (pss_one (ps_ret (pe_g (g_law_cut R) hr (pa_cons (pe_op op_add (pe_op op_mulG (pe_ix ix_tup (pv 0) pe_int (fun _ _ => rfl)) (pe_ix ix_tup (pv 1) pe_int (fun _ _ => rfl))) (pe_op op_mulG (pe_ix ix_tup (pv 1) pe_int (fun _ _ => rfl)) (pe_ix ix_tup (pv 0) pe_int (fun _ _ => rfl)))) (pa_cons (pe_op op_mulG (pe_ix ix_tup (pv 0) pe_int (fun _ _ => rfl)) (pe_ix ix_tup (pv 1) pe_int (fun _ _ => rfl))) pa_nil))))), ?_⟩
  obtain ⟨p, q, t, b, t2, b2, n, rfl, hp, hq, hg, z1, z2, z3, z4, hn, k⟩ := h
  refine g_start (σ := [some (.ref p), some (.ref q)]) rfl ?_
  try dsimp only [cxOf, Cx.nox]
  walk_at "go"
  refine g_I (cm2 z1 z4 hn) ?_
  walk_at "go"
  refine g_I (cm2 z3 z2 hn) ?_
  walk_at "go"
  refine g_I (cm2 z2 z4 hn) ?_
  walk_at "go"
  exact ⟨_, _, rfl, hg, (z2.mul z4).mono (by omega), k⟩
theorem g_law_minus (R : Raw K mg) : Gf P w K mg base 2 "_law_minus" (spTwo (fun t b t2 b2 => t * b2 - t2 * b) fun _ b _ b2 => b * b2) := by
  obtain ⟨fd, F⟩ := fd_law_minus R
  refine ⟨_, fnR0 F sc_law_minus (b_law_minus F) (fun vs H Q E h => by obtain ⟨_, _, _, _, _, _, _, rfl, _⟩ := h; rfl) (fun cdv A outer s H vs Q E hr h => ?_), f_glo__law_minus R, F.kp⟩
  refine ⟨_, (pss_one (ps_ret (pe_g (g_law_cut R) hr (pa_cons (pe_op op_sub (pe_op op_mulG (pe_ix ix_tup (pv 0) pe_int (fun _ _ => rfl)) (pe_ix ix_tup (pv 1) pe_int (fun _ _ => rfl))) (pe_op op_mulG (pe_ix ix_tup (pv 1) pe_int (fun _ _ => rfl)) (pe_ix ix_tup (pv 0) pe_int (fun _ _ => rfl)))) (pa_cons (pe_op op_mulG (pe_ix ix_tup (pv 0) pe_int (fun _ _ => rfl)) (pe_ix ix_tup (pv 1) pe_int (fun _ _ => rfl))) pa_nil))))), ?_⟩
  obtain ⟨p, q, t, b, t2, b2, n, rfl, hp, hq, hg, z1, z2, z3, z4, hn, k⟩ := h
  refine g_start (σ := [some (.ref p), some (.ref q)]) rfl ?_
  try dsimp only [cxOf, Cx.nox]
  walk_at "go"
  refine g_I (cm2 z1 z4 hn) ?_
  walk_at "go"
  refine g_I (cm2 z3 z2 hn) ?_
  walk_at "go"
  refine g_I (cm2 z2 z4 hn) ?_
  walk_at "go"
  exact ⟨_, _, rfl, hg, (z2.mul z4).mono (by omega), k⟩
theorem g_law_times (R : Raw K mg) : Gf P w K mg base 2 "_law_times" (spTwo (fun t _ t2 _ => t * t2) fun _ b _ b2 => b * b2) := by
  obtain ⟨fd, F⟩ := fd_law_times R
  refine ⟨_, fnR0 F sc_law_times (b_law_times F) (fun vs H Q E h => by obtain ⟨_, _, _, _, _, _, _, rfl, _⟩ := h; rfl) (fun cdv A outer s H vs Q E hr h => ?_), f_glo__law_times R, F.kp⟩
  refine ⟨_, (pss_one (ps_ret (pe_g (g_law_cut R) hr (pa_cons (pe_op op_mulG (pe_ix ix_tup (pv 0) pe_int (fun _ _ => rfl)) (pe_ix ix_tup (pv 1) pe_int (fun _ _ => rfl))) (pa_cons (pe_op op_mulG (pe_ix ix_tup (pv 0) pe_int (fun _ _ => rfl)) (pe_ix ix_tup (pv 1) pe_int (fun _ _ => rfl))) pa_nil))))), ?_⟩
  obtain ⟨p, q, t, b, t2, b2, n, rfl, hp, hq, hg, z1, z2, z3, z4, hn, k⟩ := h
  refine g_start (σ := [some (.ref p), some (.ref q)]) rfl ?_
  try dsimp only [cxOf, Cx.nox]
  walk_at "go"
  refine g_I (cm2 z1 z3 hn) ?_
  walk_at "go"
  refine g_I (cm2 z2 z4 hn) ?_
  walk_at "go"
  exact ⟨_, _, rfl, hg, (z2.mul z4).mono (by omega), k⟩
/-- a quotient: by the sign of the divisor's top -/
def ovT (t b t2 b2 : Int) : Int := if t2 < 0 then -t * b2 else t * b2
def ovB (t b t2 b2 : Int) : Int := if t2 < 0 then -b * t2 else b * t2
theorem ovB_pos {t b t2 b2 : Int} (hb : 0 < b) (h : t2 ≠ 0) : 0 < ovB t b t2 b2 := by
  unfold ovB
  by_cases z : t2 < 0
  · rw [if_pos z]
    exact Int.mul_pos_of_neg_of_neg (by omega) z
  · rw [if_neg z]
    exact Int.mul_pos hb (by omega)
theorem g_law_over (R : Raw K mg) : Gf P w K mg base 2 "_law_over" (spTwo ovT ovB) := by
  obtain ⟨fd, F⟩ := fd_law_over R
  refine ⟨_, fnR0 F sc_law_over (b_law_over F) (fun vs H Q E h => by obtain ⟨_, _, _, _, _, _, _, rfl, _⟩ := h; rfl) (fun cdv A outer s H vs Q E hr h => ?_), f_glo__law_over R, F.kp⟩
  refine ⟨_, (pss_cons (ps_if (pt_cmpR op_lt (pe_ix ix_tup (pv 1) pe_int (fun _ _ => rfl)) pe_int (nomark _)) (pss_one (ps_ret (pe_g (g_law_cut R) hr (pa_cons (pe_op op_sub pe_int (pe_op op_mulG (pe_ix ix_tup (pv 0) pe_int (fun _ _ => rfl)) (pe_ix ix_tup (pv 1) pe_int (fun _ _ => rfl)))) (pa_cons (pe_op op_sub pe_int (pe_op op_mulG (pe_ix ix_tup (pv 0) pe_int (fun _ _ => rfl)) (pe_ix ix_tup (pv 1) pe_int (fun _ _ => rfl)))) pa_nil))))) pss_nil)
      (pss_one (ps_ret (pe_g (g_law_cut R) hr (pa_cons (pe_op op_mulG (pe_ix ix_tup (pv 0) pe_int (fun _ _ => rfl)) (pe_ix ix_tup (pv 1) pe_int (fun _ _ => rfl))) (pa_cons (pe_op op_mulG (pe_ix ix_tup (pv 0) pe_int (fun _ _ => rfl)) (pe_ix ix_tup (pv 1) pe_int (fun _ _ => rfl))) pa_nil)))))), ?_⟩
  obtain ⟨p, q, t, b, t2, b2, n, rfl, hp, hq, hg, z1, z2, z3, z4, hn, k⟩ := h
  refine g_start (σ := [some (.ref p), some (.ref q)]) rfl ?_
  try dsimp only [cxOf, Cx.nox]
  walk_at "go"
  unfold ovT ovB at k
  unfold ovB at hg
  by_cases z : t2 < 0
  · rw [decide_eq_true z]
    rw [if_pos z] at hg
    rw [if_pos z, if_pos z] at k
    refine iteT ?_
    walk_at "go"
    refine g_I (cm2 z1 z4 hn) ?_
    walk_at "go"
    refine g_I (cm2 z2 z3 hn) ?_
    walk_at "go"
    have e1 : 0 - t * b2 = -t * b2 := by rw [Int.neg_mul]; omega
    have e2 : 0 - b * t2 = -b * t2 := by rw [Int.neg_mul]; omega
    rw [e1, e2]
    exact ⟨_, _, rfl, hg, (z2.neg.mul z3).mono (by omega), k⟩
  · rw [decide_eq_false z]
    rw [if_neg z] at hg
    rw [if_neg z, if_neg z] at k
    refine iteF ?_
    walk_at "go"
    refine g_I (cm2 z1 z4 hn) ?_
    walk_at "go"
    refine g_I (cm2 z2 z3 hn) ?_
    walk_at "go"
    exact ⟨_, _, rfl, hg, (z2.mul z3).mono (by omega), k⟩
theorem g_two {f g : Int → Int → Int → Int → Int} {Ms : List Addr} {p q : Addr} {t b t2 b2 : Int} {n : Nat} {H : Hp} {Q : VK} {E : XK} (hp : Kn Ms H p (.tup [.int t, .int b])) (hq : Kn Ms H q (.tup [.int t2, .int b2])) (hg : 0 < g t b t2 b2) (z1 : Sz t n) (z2 : Sz b n) (z3 : Sz t2 n) (z4 : Sz b2 n) (hn : n + n ≤ 8999) (al : Al Ms H)
    (k : ∀ r H', Same H H' → Gw Ms H H' → H r = none → Kn Ms H' r (.tup [.int (rt (f t b t2 b2) (g t b t2 b2)), .int (rb (f t b t2 b2) (g t b t2 b2))]) → Q (.ref r) H') : spTwo f g [.ref p, .ref q] H Q E :=
  ⟨p, q, t, b, t2, b2, n, rfl, hp.2, hq.2, hg, z1, z2, z3, z4, hn, fun r H' s n k' => k r H' s (gw_same s) n (Kn.new al n k')⟩
/-- the ratio of the pair -/
def spIs (K : Fg) : Sp := fun vs H Q _ => ∃ a dx p t b, vs = [.ref a, .ref p] ∧ H a = some (RatO K dx t b) ∧ Pr H p t b ∧ ∀ H', Same H H' → Q (.bl true) H'
theorem g_law_is (R : Raw K mg) : Gf P w K mg base 3 "_law_is" (spIs K) := by
  obtain ⟨fd, F⟩ := fd_law_is R
  refine ⟨_, fnR0 F sc_law_is (b_law_is F) (fun vs H Q E h => by obtain ⟨_, _, _, _, _, rfl, _⟩ := h; rfl) (fun cdv A outer s H vs Q E hr h => ?_), f_glo__law_is R, F.kp⟩
  refine ⟨_, (pss_one (ps_ret (pe_and (pe_callB c_isi rfl (f_free_isinstance R) bt_isi (pa_cons (pv 0) (pa_cons (pe_glob (v := .ref (He.ga K "Ratio")) rfl (f_glo_Ratio R) rfl) pa_nil))) (pe_one (pe_g (g_law_same R) hr (pa_cons (pe_tup (pa_cons (pe_fld (pv 0) rfl) (pa_cons (pe_fld (pv 0) rfl) pa_nil))) (pa_cons (pv 1) pa_nil))))))), ?_⟩
  obtain ⟨a, dx, p, t, b, rfl, ha, hp, q⟩ := h
  refine g_start (σ := [some (.ref a), some (.ref p)]) rfl ?_
  try dsimp only [cxOf, Cx.nox]
  walk_at "go"
  refine g_isi (.own _) ((f_ins_Ratio R).ty (f_cls_Ratio R) ha) (f_kitG_Ratio_Ratio_true R) ?_
  walk_at "go"
  refine iteT ?_
  walk_at "go"
  rename_i c H1 s1 w1 n1 k1
  exact ⟨_, _, rfl, Sm.tup k1.2 (s1 _ _ hp) (.cons (.sc rfl) (.cons (.sc rfl) .nil)), fun H' s => q H' (s1.trans s)⟩
theorem g_isR {Ms : List Addr} {a dx p : Addr} {t b : Int} {H : Hp} {Q : VK} {E : XK} (ha : Kn Ms H a (RatO K dx t b)) (hp : Kn Ms H p (.tup [.int t, .int b])) (q : ∀ H', Same H H' → Gw Ms H H' → Q (.bl true) H') : spIs K [.ref a, .ref p] H Q E :=
  ⟨a, dx, p, t, b, rfl, ha.2, hp.2, fun H' s => q H' s (gw_same s)⟩
/-- a pull, once the bag is the mutable one -/
theorem g_pullR {b : Addr} {n : Int} {H : Hp} {Q : VK} {E : XK} (hB : BagAt H b) (hn : 0 < n) (hz : Sz n 9000) (q : ∀ r H', 0 ≤ r → r < n → Gw [b] H H' → BagAt H' b → Al [b] H' → Q (.int r) H') : spPull [.ref b, .int n] H Q E :=
  ⟨b, n, rfl, hB, hn, hz, fun r H' h1 h2 d => q r H' h1 h2 d.gw d.bag d.bag.al⟩
def spSigned : Sp := fun vs H Q _ => ∃ b, vs = [.ref b] ∧ BagAt H b ∧ ∀ p t d H', Low t d → Sz t 5 → Sz d 3 → Gw [b] H H' → BagAt H' b → Kn [b] H' p (.tup [.int t, .int d]) → Q (.ref p) H'
theorem g_law_signed (R : Raw K mg) : Gf P w K mg base 2 "_law_signed" spSigned := by
  obtain ⟨fd, F⟩ := fd_law_signed R
  refine ⟨_, fnR0 F sc_law_signed (b_law_signed F) (fun vs H Q E h => by obtain ⟨_, rfl, _⟩ := h; rfl) (fun cdv A outer s H vs Q E hr h => ?_), f_glo__law_signed R, F.kp⟩
  refine ⟨_, (pss_one (ps_ret (pe_g (g_law_cut R) hr (pa_cons (pe_op op_sub (pe_g (g_law_pull R) hr (pa_cons (pv 0) (pa_cons pe_int pa_nil))) pe_int) (pa_cons (pe_op op_add pe_int (pe_g (g_law_pull R) hr (pa_cons (pv 0) (pa_cons pe_int pa_nil)))) pa_nil))))), ?_⟩
  obtain ⟨b, rfl, hB, q⟩ := h
  refine g_start (σ := [some (.ref b)]) rfl ?_
  try dsimp only [cxOf, Cx.nox]
  walk_at "go"
  refine g_pullR hB (by decide) (Sz.mono (m := 5) (by show Int.natAbs 25 < 2 ^ 5; decide) (by decide)) fun r H1 r0 r1 w1 b1 al1 => ?_
  walk_at "go"
  refine g_pullR b1 (by decide) (Sz.mono (m := 5) (by show Int.natAbs 3 < 2 ^ 5; decide) (by decide)) fun r2 H2 r20 r21 w2 b2 al2 => ?_
  walk_at "go"
  have z1 : Sz (r - 12) 5 := by
    show (r - 12).natAbs < 2 ^ 5
    omega
  have z2 : Sz (1 + r2) 3 := by
    show (1 + r2).natAbs < 2 ^ 3
    omega
  refine g_cut2 al2 (by omega) (z2.mono (by decide)) fun p H3 s3 w3 n3 k3 => ?_
  exact q p _ _ H3 (low_red (by omega)) (z1.rt (by omega)) (z2.rb (by omega)) ⟨fun a o h e => w3.kp a o h (w2.kp a o h (w1.kp a o h e)), fun m hm h => w3.al m hm (w2.al m hm (w1.al m hm h))⟩ (b2.mv s3) k3
end

open PySem PySem.Spec PyProof.Rows L2 GX GM
section
variable {P : Program} {w : World} {K : Fg} {mg : Str → Option Value} {base : Heap}
theorem g_RatioK (R : Raw K mg) : Gk P w K mg base 2 "Ratio" (CR K) 0 ["below", "top"] (spRInit K) (fun vs zs => vs ++ zs.reverse) := by
  obtain ⟨fd, F, G⟩ := fo_Ratio_init (P := P) (w := w) (base := base) R
  obtain ⟨its, hb⟩ := kb1 (ps := ["self", "top", "below"]) F 1 ["below", "top"] (fun vs _ zs => vs ++ zs.reverse) (by intro z; cases z) (fun r1 _ r3 => by
    refine r1.append ?_
    exact r3.reverse) fun T kV doc pm an cdv ct us its ws h1 h2 h3 => match us, its, ws, h1, h2, h3 with | [_], [_], [_, _], _, _, _ => ⟨_, rfl, rfl⟩
  exact ⟨_, fd, _, _, f_mkr_Ratio R, G, hb, f_glo_Ratio R⟩
end

open PySem PySem.Spec PyProof.Rows L2 GX GM
section
variable {P : Program} {w : World} {K : Fg} {mg : Str → Option Value} {base : Heap}
/-- the results of the operators, in the law's words -/
theorem g_o2 {f g : Int → Int → Int → Int → Int} {Ms : List Addr} {H : Hp} {Q : VK} {E : XK} {a b dx dy : Addr} {t b1 t2 b2 : Int} (n : Nat) (ha : Kn Ms H a (RatO K dx t b1)) (hb : Kn Ms H b (RatO K dy t2 b2)) (al : Al Ms H) (h1 : 0 < b1) (h2 : 0 < b2) (z1 : Sz t n) (z2 : Sz b1 n) (z3 : Sz t2 n) (z4 : Sz b2 n) (hn : n + n ≤ 9000)
    (q : ∀ p dx H', Same H H' → Gw Ms H H' → H p = none → Kn Ms H' p (RatO K dx (rt (f t b1 t2 b2) (g t b1 t2 b2)) (rb (f t b1 t2 b2) (g t b1 t2 b2))) → Q (.ref p) H') : rOwn (CR K) (spBin K f g) E (.ref a) (.ref b) H Q :=
  g_own2 n ha.2 hb.2 h1 h2 z1 z2 z3 z4 hn fun p dx H' s e k => q p dx H' s (gw_same s) e (Kn.new al e k)
theorem g_o1 {f g : Int → Int → Int → Int → Int} {Ms : List Addr} {H : Hp} {Q : VK} {E : XK} {a dx : Addr} {t b1 i : Int} (n : Nat) (ha : Kn Ms H a (RatO K dx t b1)) (al : Al Ms H) (h1 : 0 < b1) (z1 : Sz t n) (z2 : Sz b1 n) (z3 : Sz i n) (h0 : 0 < n) (hn : n + n ≤ 9000)
    (q : ∀ p dx H', Same H H' → Gw Ms H H' → H p = none → Kn Ms H' p (RatO K dx (rt (f t b1 i 1) (g t b1 i 1)) (rb (f t b1 i 1) (g t b1 i 1))) → Q (.ref p) H') : rOwn (CR K) (spBin K f g) E (.ref a) (.int i) H Q :=
  g_own1 n ha.2 h1 z1 z2 z3 h0 hn fun p dx H' s e k => q p dx H' s (gw_same s) e (Kn.new al e k)
theorem g_oR {f g : Int → Int → Int → Int → Int} {Ms : List Addr} {H : Hp} {Q : VK} {E : XK} {a dx : Addr} {t b1 i : Int} (n : Nat) (ha : Kn Ms H a (RatO K dx t b1)) (al : Al Ms H) (h1 : 0 < b1) (z1 : Sz t n) (z2 : Sz b1 n) (z3 : Sz i n) (h0 : 0 < n) (hn : n + n ≤ 9000)
    (q : ∀ p dx H', Same H H' → Gw Ms H H' → H p = none → Kn Ms H' p (RatO K dx (rt (f i 1 t b1) (g i 1 t b1)) (rb (f i 1 t b1) (g i 1 t b1))) → Q (.ref p) H') : rRef (CR K) (spRef K f g) E (.int i) (.ref a) H Q :=
  ⟨i, a, dx, _, rfl, rfl, ha.2, a, dx, i, t, b1, n, rfl, ha.2, h1, z1, z2, z3, h0, hn, fun p dx H' s e k => q p dx H' s (gw_same s) e (Kn.new al e k)⟩
theorem g_oN {Ms : List Addr} {H : Hp} {Q : VK} {E : XK} {a dx : Addr} {t b : Int} (ha : Kn Ms H a (RatO K dx t b)) (al : Al Ms H) (hl : Low t b) (hz : Sz b 9000) (q : ∀ p dx H', Same H H' → Gw Ms H H' → H p = none → Kn Ms H' p (RatO K dx (-t) b) → Q (.ref p) H') : rNegO (CR K) (spNeg K) E (.ref a) H Q := by
  refine ⟨a, dx, _, rfl, ha.2, a, dx, t, b, rfl, ha.2, hl.1, hz, fun p dx H' s e k => q p dx H' s (gw_same s) e (Kn.new al e ?_)⟩
  rw [low_rt (low_neg hl), low_rb (low_neg hl)] at k
  exact k
theorem g_ov {Ms : List Addr} {H : Hp} {Q : VK} {E : XK} {a dx : Addr} {y : V} {t b t2 b2 : Int} (n : Nat) (ha : Kn Ms H a (RatO K dx t b)) (am : Am K H y t2 b2) (al : Al Ms H) (h1 : 0 < b) (h2 : 0 < b2) (h0 : t2 ≠ 0) (z1 : Sz t n) (z2 : Sz b n) (z3 : Sz t2 n) (z4 : Sz b2 n) (hn : n + n ≤ 9000)
    (q : ∀ p dx H', Same H H' → Gw Ms H H' → H p = none → Kn Ms H' p (RatO K dx (rt (ovT t b t2 b2) (ovB t b t2 b2)) (rb (ovT t b t2 b2) (ovB t b t2 b2))) → Q (.ref p) H') : spOver K [.ref a, y] H Q E := by
  refine ⟨a, dx, y, t, b, t2, b2, n, rfl, ha.2, am, h1, h2, h0, z1, z2, z3, z4, hn, fun p dx H' s e k1 k2 => q p dx H' s (gw_same s) e (Kn.new al e ?_)⟩
  unfold ovT ovB
  by_cases z : t2 < 0
  · rw [if_pos z, if_pos z]
    exact k1 z
  · rw [if_neg z, if_neg z]
    exact k2 (by omega)
/-- two ratios compared -/
theorem g_eqR {H : Hp} {Q : VK} {E : XK} {a b dx dy : Addr} {t d t2 d2 : Int} (R : Raw K mg) (ha : H a = some (RatO K dx t d)) (hb : H b = some (RatO K dy t2 d2)) (q : Q (.bl (decide (t = t2) && decide (d = d2))) H) : rEqO K (CR K) (spEq K) E (.ref a) (.ref b) H Q :=
  ⟨a, dx, _, _, rfl, ha, .ins hb, f_nfC_Ratio_Ratio R, a, dx, t, d, .ref b, rfl, ha, .inl ⟨b, dy, t2, d2, rfl, hb, q⟩⟩
theorem g_neR {H : Hp} {Q : VK} {E : XK} {a b dx dy : Addr} {t d t2 d2 : Int} (R : Raw K mg) (ha : H a = some (RatO K dx t d)) (hb : H b = some (RatO K dy t2 d2)) (q : Q (.bl (!(decide (t = t2) && decide (d = d2)))) H) : rNeO K (CR K) (spEq K) E (.ref a) (.ref b) H Q :=
  ⟨a, dx, _, _, rfl, ha, .ins hb, f_nfC_Ratio_Ratio R, a, dx, t, d, .ref b, rfl, ha, .inl ⟨b, dy, t2, d2, rfl, hb, _, rfl, q⟩⟩
theorem g_eqT {H : Hp} {Q : VK} {E : XK} {a b dx : Addr} {t d : Int} {xs : List V} (R : Raw K mg) (ha : H a = some (RatO K dx t d)) (hb : H b = some (.tup xs)) (q : Q (.bl false) H) : rEqO K (CR K) (spEq K) E (.ref a) (.ref b) H Q :=
  ⟨a, dx, _, _, rfl, ha, .tup (SqT.of hb), f_nfS_Ratio_tuple R, a, dx, t, d, .ref b, rfl, ha, .inr ⟨_, .base (.tup hb), f_kitS_tuple_Ratio_false R, q⟩⟩
theorem g_eqN {H : Hp} {Q : VK} {E : XK} {a dx : Addr} {t d i : Int} (R : Raw K mg) (ha : H a = some (RatO K dx t d)) (q : Q (.bl false) H) : rEqO K (CR K) (spEq K) E (.ref a) (.int i) H Q :=
  ⟨a, dx, _, _, rfl, ha, .int i, f_nfS_Ratio_int R, a, dx, t, d, .int i, rfl, ha, .inr ⟨_, .base (.int i), f_kitS_int_Ratio_false R, q⟩⟩
theorem g_eqO {H : Hp} {Q : VK} {E : XK} {a dx : Addr} {t d : Int} (R : Raw K mg) (ha : H a = some (RatO K dx t d)) (q : Q (.bl false) H) : rEqO K (CR K) (spEq K) E (.ref a) .non H Q :=
  ⟨a, dx, _, _, rfl, ha, .non, f_nfS_Ratio_NoneType R, a, dx, t, d, .non, rfl, ha, .inr ⟨_, .base .non, f_kitS_NoneType_Ratio_false R, q⟩⟩
/-- every pair of items: a ratio and its pair -/
def IsAll (K : Fg) (H : Hp) (xs ys : List V) : Prop := ∀ (n : Nat) x y, xs[n]? = some x → ys[n]? = some y → ∃ a dx p t b, x = .ref a ∧ y = .ref p ∧ H a = some (RatO K dx t b) ∧ Pr H p t b
theorem IsAll.nil {H : Hp} : IsAll K H [] [] := fun n x y h => by simp at h
theorem IsAll.cons {Ms : List Addr} {H : Hp} {a dx p : Addr} {t b : Int} {xs ys : List V} (ha : Kn Ms H a (RatO K dx t b)) (hp : Kn Ms H p (.tup [.int t, .int b])) (k : IsAll K H xs ys) : IsAll K H (.ref a :: xs) (.ref p :: ys) := fun n x y h1 h2 => by
  cases n with
  | zero =>
    simp at h1 h2
    subst h1 h2
    exact ⟨a, dx, p, t, b, rfl, rfl, ha.2, hp.2⟩
  | succ n =>
    simp at h1 h2
    exact k n x y h1 h2
theorem g_oRs {f g : Int → Int → Int → Int → Int} {Ms : List Addr} {H : Hp} {Q : VK} {E : XK} {a dx : Addr} {t b1 i : Int} (n : Nat) (e1 : f i 1 t b1 = f t b1 i 1) (e2 : g i 1 t b1 = g t b1 i 1) (ha : Kn Ms H a (RatO K dx t b1)) (al : Al Ms H) (h1 : 0 < b1) (z1 : Sz t n) (z2 : Sz b1 n) (z3 : Sz i n) (h0 : 0 < n) (hn : n + n ≤ 9000)
    (q : ∀ p dx H', Same H H' → Gw Ms H H' → H p = none → Kn Ms H' p (RatO K dx (rt (f t b1 i 1) (g t b1 i 1)) (rb (f t b1 i 1) (g t b1 i 1))) → Q (.ref p) H') : rRef (CR K) (spRef K f g) E (.int i) (.ref a) H Q :=
  g_oR n ha al h1 z1 z2 z3 h0 hn fun p dx H' s w e k => q p dx H' s w e (by
    rw [e1, e2] at k
    exact k)
theorem ratF_over {t b : Int} : (ratF t b).lookup ("over" : Str) = none := by
  show (match ("over" : Str) == ("top" : Str) with | true => some (V.int t) | false => _) = _
  have e : (("over" : Str) == ("top" : Str)) = false := by decide +kernel
  rw [e]
  show (match ("over" : Str) == ("below" : Str) with | true => some (V.int b) | false => _) = _
  have e : (("over" : Str) == ("below" : Str)) = false := by decide +kernel
  rw [e]
  rfl
theorem g_cutS {t u : TS} {σ : L2.St} {H : Hp} {n b c : L2.St → Hp → Prop} {r : VK} (h : t ⟨fun σ' H' => σ' = σ ∧ Same H H', r, b, c⟩ σ H) (k : ∀ H', Same H H' → u ⟨n, r, b, c⟩ σ H') : C8.tCut t u ⟨n, r, b, c⟩ σ H :=
  g_cut _ h fun σ' H' m => by
    obtain ⟨rfl, s⟩ := m
    exact k H' s
theorem g_zipIs {Ms : List Addr} {p q : Addr} {xs ys : List V} {x0 x1 x2 x3 x4 x5 x6 x7 x8 x9 x10 x11 x12 x13 x14 : Option V} {H : Hp} {Q : VK} (h1 : Kn Ms H p (.lst xs)) (h2 : Kn Ms H q (.lst ys)) (hall : IsAll K H xs ys) (al : Al Ms H) (hz : Nat.ble (xs.length + 1) 5000 = true) (hl : xs.length = ys.length)
    (k : ∀ D H', Same H H' → Gw Ms H H' → H D = none → Kn Ms H' D (.lst (List.replicate xs.length (.bl true))) → Q (.ref D) H') :
    zipK K (lcK (gTup K 2 (gCons (gName 15) (gCons (gName 16) gNil))) tYes (tCa (spIs K) E0 (tCons (tVar 15) (tCons (tVar 16) tNil))) [15, 16] [x0, x1, x2, x3, x4, x5, x6, x7, x8, x9, x10, x11, x12, x13, x14, none, none] Q) [.ref p, .ref q] H := by
  refine g_zipT hz hl (.inl ⟨h1.2, h2.2⟩) al (fun _ _ => rfl) (fun n x y H' Q2 e1 e2 s w q2 => ?_) k
  obtain ⟨a', dx', p', t', b', rfl, rfl, h1, h2⟩ := hall n x y e1 e2
  dsimp only [wipe, List.map, List.foldl, List.set]
  walk_at "go"
  exact ⟨a', dx', p', t', b', rfl, s _ _ h1, s _ _ h2, q2⟩
end

open PySem PySem.Spec PyProof.Rows L2 GX GM
section
variable {P : Program} {w : World} {K : Fg} {mg : Str → Option Value} {base : Heap}
def spLaw (K : Fg) : Sp := fun vs H Q _ => ∃ (a : Addr) (ns : List Int), vs = [.ref a] ∧ SqL K H a (ns.map V.int) ∧ ∀ H', Q (.bl true) H'
theorem fo_law (R : Raw K mg) : ∃ fd, FD K d_law fd ∧ FnOk P w K mg base CX0 9 (He.ga K "law") fd ["_law_script"] (spLaw K) := by
  obtain ⟨fd, F⟩ := fd_law R
  refine ⟨fd, F, fnOk_of F sc_law (fun vs H Q E h => by obtain ⟨_, _, rfl, _⟩ := h; rfl) (fun cdv A outer s H vs Q E hr h => ?_)⟩
  refine ⟨_, (pss_cons (ps_set (i := 1) sc_law.nd rfl (Or.inl rfl) (pe_g (g_law_bag R) hr (pa_cons (pv 0) pa_nil)))
      (pss_cons (ps_for PassesOwn.never rfl (pi_range1 rfl (f_free_range R) (pa_cons pe_int pa_nil)) (pg_name (i := 2) sc_law.nd rfl (Or.inl rfl)) (pss_cons (ps_par3 (i := 3) (j := 4) (l := 5) rfl sc_law.nd rfl rfl rfl (by decide) (by decide) (by decide) rfl rfl rfl (pa_cons (pe_op op_sub (pe_g (g_law_pull R) hr (pa_cons (pv 1) (pa_cons (pe_op op_pow pe_int pe_int) pa_nil))) pe_int) (pa_cons (pe_op op_add pe_int (pe_g (g_law_pull R) hr (pa_cons (pv 1) (pa_cons (pe_op op_pow pe_int pe_int) pa_nil)))) (pa_cons (pe_op op_add pe_int (pe_g (g_law_pull R) hr (pa_cons (pv 1) (pa_cons pe_int pa_nil)))) pa_nil))) rfl)
      (pss_cons (ps_par3 (i := 6) (j := 7) (l := 8) rfl sc_law.nd rfl rfl rfl (by decide) (by decide) (by decide) rfl rfl rfl (pa_cons (pe_g (g_law_cut R) hr (pa_cons (pv 3) (pa_cons (pv 4) pa_nil))) (pa_cons (pe_g (g_law_signed R) hr (pa_cons (pv 1) pa_nil)) (pa_cons (pe_op op_sub (pe_g (g_law_pull R) hr (pa_cons (pv 1) (pa_cons pe_int pa_nil))) pe_int) pa_nil))) rfl)
      (pss_cons (ps_par (i := 9) (j := 10) rfl sc_law.nd rfl rfl (by decide) rfl rfl (pa_cons (pe_c1 (g_Ratio R) hr (pa_cons (pe_op op_mulG (pv 3) (pv 5)) (pa_cons (pe_op op_mulG (pv 4) (pv 5)) pa_nil))) (pa_cons (pe_c1 (g_Ratio R) hr (pa_cons (pe_ix ix_tup (pv 7) pe_int (fun _ _ => rfl)) (pa_cons (pe_ix ix_tup (pv 7) pe_int (fun _ _ => rfl)) pa_nil))) pa_nil)) rfl)
      (pss_cons (ps_set (i := 11) sc_law.nd rfl (Or.inl rfl) (pe_lst (pa_cons (pv 9) (pa_cons (pe_op (opg_own (op := .Add) (g_Ratio_Add R) hr) (pv 9) (pv 10)) (pa_cons (pe_op (opg_own (op := .Sub) (g_Ratio_Sub R) hr) (pv 9) (pv 10)) (pa_cons (pe_op (opg_own (op := .Mult) (g_Ratio_Mult R) hr) (pv 9) (pv 10)) (pa_cons (pe_op (opg_own (op := .Add) (g_Ratio_Add R) hr) (pv 9) (pv 8)) (pa_cons (pe_op (opg_radd (g_Ratio_rAdd R) hr) (pv 8) (pv 9)) (pa_cons (pe_op (opg_own (op := .Sub) (g_Ratio_Sub R) hr) (pv 9) (pv 8)) (pa_cons (pe_op (opg_rsub (g_Ratio_rSub R) hr) (pv 8) (pv 9)) (pa_cons (pe_op (opg_own (op := .Mult) (g_Ratio_Mult R) hr) (pv 9) (pv 8)) (pa_cons (pe_op (opg_rmul (g_Ratio_rMult R) hr) (pv 8) (pv 9)) (pa_cons (pe_un (ung_neg (g_Ratio_neg R) hr) (pv 9)) pa_nil)))))))))))))
      (pss_cons (ps_set (i := 12) sc_law.nd rfl (Or.inl rfl) (pe_tup (pa_cons (pv 8) (pa_cons pe_int pa_nil))))
      (pss_cons (ps_set (i := 13) sc_law.nd rfl (Or.inl rfl) (pe_lst (pa_cons (pv 6) (pa_cons (pe_g (g_law_plus R) hr (pa_cons (pv 6) (pa_cons (pv 7) pa_nil))) (pa_cons (pe_g (g_law_minus R) hr (pa_cons (pv 6) (pa_cons (pv 7) pa_nil))) (pa_cons (pe_g (g_law_times R) hr (pa_cons (pv 6) (pa_cons (pv 7) pa_nil))) (pa_cons (pe_g (g_law_plus R) hr (pa_cons (pv 6) (pa_cons (pv 12) pa_nil))) (pa_cons (pe_g (g_law_plus R) hr (pa_cons (pv 6) (pa_cons (pv 12) pa_nil))) (pa_cons (pe_g (g_law_minus R) hr (pa_cons (pv 6) (pa_cons (pv 12) pa_nil))) (pa_cons (pe_g (g_law_minus R) hr (pa_cons (pv 12) (pa_cons (pv 6) pa_nil))) (pa_cons (pe_g (g_law_times R) hr (pa_cons (pv 6) (pa_cons (pv 12) pa_nil))) (pa_cons (pe_g (g_law_times R) hr (pa_cons (pv 6) (pa_cons (pv 12) pa_nil))) (pa_cons (pe_tup (pa_cons (pe_op op_sub pe_int (pe_ix ix_tup (pv 6) pe_int (fun _ _ => rfl))) (pa_cons (pe_ix ix_tup (pv 6) pe_int (fun _ _ => rfl)) pa_nil))) pa_nil)))))))))))))
      (pss_cons (ps_if (pt_not (pt_val (pe_callB (cr_all rfl) rfl (f_free_all R) bt_all (pa_cons (pe_lc (own := [("_law_made", 15), ("_law_pair", 16)]) (g := gTup K 2 (gCons (gName 15) (gCons (gName 16) gNil))) (tt := tYes) rfl sc_law.nd (RZ.pi_zipA rfl (f_free_zip R) (pa_cons (pv 11) (pa_cons (pv 13) pa_nil))) (blkOk_by (own := [("_law_made", 15), ("_law_pair", 16)]) (N := N_law) (sc := defScope s_law) (by decide +kernel)) (fun _ _ _ _ _ => (pg_tup rfl (pgs_cons (pg_name (i := 15) sc_law.nd rfl (Or.inl rfl)) (pgs_cons (pg_name (i := 16) sc_law.nd rfl (Or.inl rfl)) pgs_nil)))) (fun _ _ _ _ _ => pts_nil) (fun _ _ _ _ _ => (pe_g (g_law_is R) hr (pa_cons (pv 15) (pa_cons (pv 16) pa_nil))))) pa_nil)))) (pss_one (ps_ret pe_bl)) pss_nil)
      (C8.pss_cut (ps_if (PW.pt (pw_and (pt_cmpR op_ne (pe_ix ix_tup (pv 7) pe_int (fun _ _ => rfl)) pe_int (nomark _)) (pw_and1 (pt_not (pt_val (pe_g (g_law_is R) hr (pa_cons (pe_m (g_Ratio_over R) hr (pv 9) (pa_cons (pv 10) pa_nil)) (pa_cons (pe_g (g_law_over R) hr (pa_cons (pv 6) (pa_cons (pv 7) pa_nil))) pa_nil)))))))) (pss_one (ps_ret pe_bl)) pss_nil)
      (C8.pss_cut (ps_if (PW.pt (pw_and (pt_cmpR op_ne (pv 8) pe_int (nomark _)) (pw_and1 (pt_not (pt_val (pe_g (g_law_is R) hr (pa_cons (pe_m (g_Ratio_over R) hr (pv 9) (pa_cons (pv 8) pa_nil)) (pa_cons (pe_g (g_law_over R) hr (pa_cons (pv 6) (pa_cons (pv 12) pa_nil))) pa_nil)))))))) (pss_one (ps_ret pe_bl)) pss_nil)
      (pss_cons (ps_set (i := 14) sc_law.nd rfl (Or.inl rfl) (pe_lst (pa_cons (pe_cmpR (opg_eq (g_Ratio_eq R) hr) (pv 9) (pe_c1 (g_Ratio R) hr (pa_cons (pe_ix ix_tup (pv 6) pe_int (fun _ _ => rfl)) (pa_cons (pe_ix ix_tup (pv 6) pe_int (fun _ _ => rfl)) pa_nil))) (nomark _)) (pa_cons (pe_cmpR (opg_ne (g_Ratio_eq R) (f_ne_Ratio R) hr) (pv 9) (pe_c1 (g_Ratio R) hr (pa_cons (pe_ix ix_tup (pv 6) pe_int (fun _ _ => rfl)) (pa_cons (pe_ix ix_tup (pv 6) pe_int (fun _ _ => rfl)) pa_nil))) (nomark _)) (pa_cons (pe_cmpR (opg_eq (g_Ratio_eq R) hr) (pv 9) (pv 10) (nomark _)) (pa_cons (pe_cmpR (opg_eq (g_Ratio_eq R) hr) (pv 9) (pv 6) (nomark _)) (pa_cons (pe_cmpR (opg_eq (g_Ratio_eq R) hr) (pe_c1 (g_Ratio1 R) hr (pa_cons (pv 8) pa_nil)) (pv 8) (nomark _)) (pa_cons (pe_cmpR (opg_eq (g_Ratio_eq R) hr) (pv 9) pe_non (nomark _)) pa_nil))))))))
      (pss_cons (ps_if (pt_not (pt_val (pe_g (g_law_same R) hr (pa_cons (pv 14) (pa_cons (pe_lst (pa_cons pe_bl (pa_cons pe_bl (pa_cons (pe_cmpR (op_eqD hr.units) (pv 6) (pv 7) (nomark _)) (pa_cons pe_bl (pa_cons pe_bl (pa_cons pe_bl pa_nil))))))) pa_nil))))) (pss_one (ps_ret pe_bl)) pss_nil)
      (pss_one (ps_if (PW.pt (pw_or (pt_not (pt_val (pe_g (g_law_is R) hr (pa_cons (pv 9) (pa_cons (pv 6) pa_nil))))) (pw_or1 (pt_not (pt_val (pe_g (g_law_is R) hr (pa_cons (pv 10) (pa_cons (pv 7) pa_nil)))))))) (pss_one (ps_ret pe_bl)) pss_nil))))))))))))))
      (pss_one (ps_ret (pe_and (pe_g (g_law_is R) hr (pa_cons (pe_k0 (g_RatioK R) hr (pk_cons pe_int (pk_cons (pe_un un_neg pe_int) pk_nil))) (pa_cons (pe_tup (pa_cons (pe_un un_neg pe_int) (pa_cons pe_int pa_nil))) pa_nil))) (pe_and (pe_g (g_law_is R) hr (pa_cons (pe_c1 (g_Ratio R) hr (pa_cons pe_int (pa_cons pe_int pa_nil))) (pa_cons (pe_tup (pa_cons pe_int (pa_cons pe_int pa_nil))) pa_nil))) (pe_one (pe_cmpR op_eq (ClX.pe_cval (pe_glob (v := .ref (He.ga K "Ratio")) rfl (f_glo_Ratio R) rfl) rfl) pe_int (nomark _))))))))), ?_⟩
  obtain ⟨a, ns, rfl, hS, q⟩ := h
  refine g_start (σ := [some (.ref a), none, none, none, none, none, none, none, none, none, none, none, none, none, none, none, none]) rfl ?_
  dsimp only [cxOf, Cx.nox]
  walk_at "go"
  refine ⟨a, ns, rfl, hS, fun b H1 s1 n1 b1 => ?_⟩
  have al1 := b1.al
  walk_at "go"
  refine g_rngK (n := 6) (by decide) (fun i σ' H' => ∃ v2 v3 v4 v5 v6 v7 v8 v9 v10 v11 v12 v13 v14, σ' = [some (.ref a), some (.ref b), v2, v3, v4, v5, v6, v7, v8, v9, v10, v11, v12, v13, v14, none, none] ∧ BagAt H' b) ?_ ?_ ?_
  · exact ⟨none, none, none, none, none, none, none, none, none, none, none, none, none, rfl, b1⟩
  · clear q hS s1 n1 b1 al1
    rintro i σ' H0 hi ⟨v2, v3, v4, v5, v6, v7, v8, v9, v10, v11, v12, v13, v14, rfl, bag0⟩
    have al0 := bag0.al
    dsimp only [List.set]
    walk_at "go"
    refine g_I ⟨by omega, by omega, by decide⟩ ?_
    walk_at "go"
    refine g_pullR bag0 (by decide) (Sz.mono (m := 30) (by show Int.natAbs (10 ^ Int.toNat 6) < 2 ^ 30; decide) (by decide)) fun r1 H1 r10 r11 w1 bag1 al1 => ?_
    have r11' : r1 < 1000000 := Int.lt_of_lt_of_le r11 (by decide)
    clear r11
    walk_at "go"
    refine g_I ⟨by omega, by omega, by decide⟩ ?_
    walk_at "go"
    refine g_pullR bag1 (by decide) (Sz.mono (m := 30) (by show Int.natAbs (10 ^ Int.toNat 5) < 2 ^ 30; decide) (by decide)) fun r2 H2 r20 r21 w2 bag2 al2 => ?_
    have r21' : r2 < 100000 := Int.lt_of_lt_of_le r21 (by decide)
    clear r21
    walk_at "go"
    refine g_pullR bag2 (by decide) (Sz.mono (m := 30) (by show Int.natAbs 30 < 2 ^ 30; decide) (by decide)) fun r3 H3 r30 r31 w3 bag3 al3 => ?_
    walk_at "go"
    have zt : Sz (r1 - 500000) 19 := by
      show (r1 - 500000).natAbs < 2 ^ 19
      omega
    have zb : Sz (1 + r2) 17 := by
      show (1 + r2).natAbs < 2 ^ 17
      omega
    have pb : 0 < 1 + r2 := by omega
    have zm : Sz (1 + r3) 5 := by
      show (1 + r3).natAbs < 2 ^ 5
      omega
    have pm : 0 < 1 + r3 := by omega
    clear r10 r11' r20 r21' r30 r31
    generalize r1 - 500000 = t0 at *
    generalize 1 + r2 = d0 at *
    generalize 1 + r3 = m0 at *
    refine g_cut2 al3 pb (zb.mono (by decide)) fun p1 H4 s4 w4 n4 k4 => ?_
    have bag4 := bag3.mv s4
    have lo : Low (rt t0 d0) (rb t0 d0) := low_red pb
    have z1 : Sz (rt t0 d0) 19 := zt.rt pb
    have z2 : Sz (rb t0 d0) 19 := (zb.rb pb).mono (by decide)
    have hsc1 : rt (t0 * m0) (d0 * m0) = rt t0 d0 := rt_scale pm
    have hsc2 : rb (t0 * m0) (d0 * m0) = rb t0 d0 := rb_scale pm
    have hm0 : IntMulOk t0 m0 := cmulw zt zm (by decide)
    have hm1 : IntMulOk d0 m0 := cmulw zb zm (by decide)
    have hp : 0 < d0 * m0 := Int.mul_pos pb pm
    have hpz : Sz (d0 * m0) 9000 := (zb.mul zm).mono (by decide)
    generalize rt t0 d0 = t at *
    generalize rb t0 d0 = d at *
    walk_at "go"
    refine ⟨b, rfl, bag4, fun p2 t2 d2 H5 lo2 z5 z6 w5 bag5 k5 => ?_⟩
    have z3 : Sz t2 19 := z5.mono (by decide)
    have z4 : Sz d2 19 := z6.mono (by decide)
    clear z5 z6
    walk_at "go"
    refine g_pullR bag5 (by decide) (Sz.mono (m := 30) (by show Int.natAbs 41 < 2 ^ 30; decide) (by decide)) fun r4 H6 r40 r41 w6 bag6 al6 => ?_
    have zw : Sz (r4 - 20) 19 := by
      show (r4 - 20).natAbs < 2 ^ 19
      omega
    clear r40 r41
    walk_at "go"
    generalize r4 - 20 = u at *
    refine g_I hm0 ?_
    walk_at "go"
    refine g_I hm1 ?_
    walk_at "go"
    refine g_mkR al6 hp hpz fun a1 dx1 H7 s7 w7 n7 k7 => ?_
    rw [hsc1, hsc2] at k7
    clear hm0 hm1 hp hpz hsc1 hsc2 zt zb pb zm pm
    have bag7 := bag6.mv s7
    walk_at "go"
    refine g_mkR (bag7.al) lo2.1 (z4.mono (by decide)) fun a2 dx2 H8 s8 w8 n8 k8 => ?_
    rw [low_rt lo2, low_rb lo2] at k8
    have bag8 := bag7.mv s8
    have hd1 : 0 < d := lo.1
    have hd2 : 0 < d2 := lo2.1
    have zo : Sz (1 : Int) 19 := by
      show Int.natAbs 1 < 2 ^ 19
      decide
    walk_at "go"
    refine g_o2 19 (by walk_at "kn") (by walk_at "kn") (by walk_at "al") hd1 hd2 z1 z2 z3 z4 (by decide) fun q9 e9 H9 s9 w9 n9 k9 => ?_
    walk_at "go"
    refine g_o2 19 (by walk_at "kn") (by walk_at "kn") (by walk_at "al") hd1 hd2 z1 z2 z3 z4 (by decide) fun q10 e10 H10 s10 w10 n10 k10 => ?_
    walk_at "go"
    refine g_o2 19 (by walk_at "kn") (by walk_at "kn") (by walk_at "al") hd1 hd2 z1 z2 z3 z4 (by decide) fun q11 e11 H11 s11 w11 n11 k11 => ?_
    walk_at "go"
    refine g_o1 19 (by walk_at "kn") (by walk_at "al") hd1 z1 z2 zw (by decide) (by decide) fun q12 e12 H12 s12 w12 n12 k12 => ?_
    walk_at "go"
    refine g_oRs 19 (Int.add_comm _ _) (Int.mul_comm _ _) (by walk_at "kn") (by walk_at "al") hd1 z1 z2 zw (by decide) (by decide) fun q13 e13 H13 s13 w13 n13 k13 => ?_
    walk_at "go"
    refine g_o1 19 (by walk_at "kn") (by walk_at "al") hd1 z1 z2 zw (by decide) (by decide) fun q14 e14 H14 s14 w14 n14 k14 => ?_
    walk_at "go"
    refine g_oR 19 (by walk_at "kn") (by walk_at "al") hd1 z1 z2 zw (by decide) (by decide) fun q15 e15 H15 s15 w15 n15 k15 => ?_
    walk_at "go"
    refine g_o1 19 (by walk_at "kn") (by walk_at "al") hd1 z1 z2 zw (by decide) (by decide) fun q16 e16 H16 s16 w16 n16 k16 => ?_
    walk_at "go"
    refine g_oRs 19 (Int.mul_comm _ _) (Int.mul_comm _ _) (by walk_at "kn") (by walk_at "al") hd1 z1 z2 zw (by decide) (by decide) fun q17 e17 H17 s17 w17 n17 k17 => ?_
    walk_at "go"
    refine g_oN (by walk_at "kn") (by walk_at "al") lo (z2.mono (by decide)) fun q18 e18 H18 s18 w18 n18 k18 => ?_
    walk_at "go"
    rename_i cF HF sF wF nF kF cN HN sN wN nN kN
    refine g_two (n := 19) (by walk_at "kn") (by walk_at "kn") (Int.mul_pos hd1 hd2) z1 z2 z3 z4 (by decide) (by walk_at "al") fun q19 H19 s19 w19 n19 k19 => ?_
    walk_at "go"
    refine g_two (n := 19) (by walk_at "kn") (by walk_at "kn") (Int.mul_pos hd1 hd2) z1 z2 z3 z4 (by decide) (by walk_at "al") fun q20 H20 s20 w20 n20 k20 => ?_
    walk_at "go"
    refine g_two (n := 19) (by walk_at "kn") (by walk_at "kn") (Int.mul_pos hd1 hd2) z1 z2 z3 z4 (by decide) (by walk_at "al") fun q21 H21 s21 w21 n21 k21 => ?_
    walk_at "go"
    refine g_two (n := 19) (by walk_at "kn") (by walk_at "kn") (Int.mul_pos hd1 (by decide)) z1 z2 zw zo (by decide) (by walk_at "al") fun q22 H22 s22 w22 n22 k22 => ?_
    walk_at "go"
    refine g_two (n := 19) (by walk_at "kn") (by walk_at "kn") (Int.mul_pos hd1 (by decide)) z1 z2 zw zo (by decide) (by walk_at "al") fun q23 H23 s23 w23 n23 k23 => ?_
    walk_at "go"
    refine g_two (n := 19) (by walk_at "kn") (by walk_at "kn") (Int.mul_pos hd1 (by decide)) z1 z2 zw zo (by decide) (by walk_at "al") fun q24 H24 s24 w24 n24 k24 => ?_
    walk_at "go"
    refine g_two (n := 19) (by walk_at "kn") (by walk_at "kn") (Int.mul_pos (by decide) hd1) zw zo z1 z2 (by decide) (by walk_at "al") fun q25 H25 s25 w25 n25 k25 => ?_
    walk_at "go"
    refine g_two (n := 19) (by walk_at "kn") (by walk_at "kn") (Int.mul_pos hd1 (by decide)) z1 z2 zw zo (by decide) (by walk_at "al") fun q26 H26 s26 w26 n26 k26 => ?_
    walk_at "go"
    refine g_two (n := 19) (by walk_at "kn") (by walk_at "kn") (Int.mul_pos hd1 (by decide)) z1 z2 zw zo (by decide) (by walk_at "al") fun q27 H27 s27 w27 n27 k27 => ?_
    walk_at "go"
    rename_i cT HT sT wT nT kT cD HD sD wD nD kD
    rw [Int.zero_sub] at kT
    refine g_zipIs (by walk_at "kn") (by walk_at "kn") (by exact (IsAll.cons (by walk_at "kn") (by walk_at "kn") (IsAll.cons (by walk_at "kn") (by walk_at "kn") (IsAll.cons (by walk_at "kn") (by walk_at "kn") (IsAll.cons (by walk_at "kn") (by walk_at "kn") (IsAll.cons (by walk_at "kn") (by walk_at "kn") (IsAll.cons (by walk_at "kn") (by walk_at "kn") (IsAll.cons (by walk_at "kn") (by walk_at "kn") (IsAll.cons (by walk_at "kn") (by walk_at "kn") (IsAll.cons (by walk_at "kn") (by walk_at "kn") (IsAll.cons (by walk_at "kn") (by walk_at "kn") (IsAll.cons (by walk_at "kn") (by walk_at "kn") IsAll.nil)))))))))))) (by walk_at "al") (by rfl) (by rfl) fun D HZ sZ wZ nZ kZ => ?_
    walk_at "go"
    refine g_allR kZ.2 ?_
    walk_at "go"
    refine iteF ?_
    walk_at "go"
    refine g_cutS ?_ fun HA sA => ?_
    · walk_at "go"
      by_cases z : t2 = 0
      · rw [decide_eq_true z]
        refine iteF ?_
        walk_at "go"
        refine iteF ?_
        walk_at "go"
        exact ⟨rfl, Same.refl _⟩
      · rw [decide_eq_false z]
        refine iteT ?_
        walk_at "go"
        refine g_meK (by walk_at "hp") ratF_over ?_
        walk_at "go"
        refine g_ov 19 (by walk_at "kn") (.inl ⟨a2, dx2, rfl, by walk_at "hp"⟩) (by walk_at "al") hd1 hd2 z z1 z2 z3 z4 (by decide) fun pv ev HV sV wV nV kV => ?_
        walk_at "go"
        refine g_two (n := 19) (by walk_at "kn") (by walk_at "kn") (ovB_pos hd1 z) z1 z2 z3 z4 (by decide) (by walk_at "al") fun pw HW sW wW nW kW => ?_
        walk_at "go"
        refine g_isR (by walk_at "kn") (by walk_at "kn") fun HX sX wX => ?_
        walk_at "go"
        refine iteF ?_
        walk_at "go"
        exact ⟨rfl, by walk_at "sm"⟩
    have wA : Gw [b] _ HA := gw_same sA
    refine g_cutS ?_ fun HB sB => ?_
    · walk_at "go"
      by_cases z : u = 0
      · rw [decide_eq_true z]
        refine iteF ?_
        walk_at "go"
        refine iteF ?_
        walk_at "go"
        exact ⟨rfl, Same.refl _⟩
      · rw [decide_eq_false z]
        refine iteT ?_
        walk_at "go"
        refine g_meK (by walk_at "hp") ratF_over ?_
        walk_at "go"
        refine g_ov 19 (by walk_at "kn") (.inr ⟨rfl, rfl⟩) (by walk_at "al") hd1 (by decide) z z1 z2 zw zo (by decide) fun pv ev HV sV wV nV kV => ?_
        walk_at "go"
        refine g_two (n := 19) (by walk_at "kn") (by walk_at "kn") (ovB_pos hd1 z) z1 z2 zw zo (by decide) (by walk_at "al") fun pw HW sW wW nW kW => ?_
        walk_at "go"
        refine g_isR (by walk_at "kn") (by walk_at "kn") fun HX sX wX => ?_
        walk_at "go"
        refine iteF ?_
        walk_at "go"
        exact ⟨rfl, by walk_at "sm"⟩
    have wB : Gw [b] _ HB := gw_same sB
    walk_at "go"
    have et : (decide (t = t) && decide (d = d)) = true := by simp
    refine g_mkR (by walk_at "al") hd1 (z2.mono (by decide)) fun y1 f1 J1 sj1 wj1 nj1 kj1 => ?_
    rw [low_rt lo, low_rb lo] at kj1
    walk_at "go"
    refine g_eqR R (by walk_at "hp") (by walk_at "hp") ?_
    rw [et]
    walk_at "go"
    refine g_mkR (by walk_at "al") hd1 (z2.mono (by decide)) fun y2 f2 J2 sj2 wj2 nj2 kj2 => ?_
    rw [low_rt lo, low_rb lo] at kj2
    walk_at "go"
    refine g_neR R (by walk_at "hp") (by walk_at "hp") ?_
    rw [et]
    walk_at "go"
    refine g_eqR R (by walk_at "hp") (by walk_at "hp") ?_
    walk_at "go"
    refine g_eqT R (by walk_at "hp") (by walk_at "hp") ?_
    walk_at "go"
    refine g_mkR1 (by walk_at "al") fun y3 f3 J3 sj3 wj3 nj3 kj3 => ?_
    walk_at "go"
    refine g_eqN R (by walk_at "hp") ?_
    walk_at "go"
    refine g_eqO R (by walk_at "hp") ?_
    walk_at "go"
    refine g_eqPair (by walk_at "hp") (by walk_at "hp") ?_
    walk_at "go"
    refine ⟨_, _, rfl, Sm.lst (by walk_at "hp") (by walk_at "hp") (by exact (.cons (.sc rfl) (.cons (.sc rfl) (.cons (.sc rfl) (.cons (.sc rfl) (.cons (.sc rfl) (.cons (.sc rfl) .nil))))))), fun HS sS => ?_⟩
    have wS : Gw [b] _ HS := gw_same sS
    walk_at "go"
    refine iteF ?_
    walk_at "go"
    refine g_isR (by walk_at "kn") (by walk_at "kn") fun HX sX wX => ?_
    walk_at "go"
    refine iteF ?_
    walk_at "go"
    refine g_isR (by walk_at "kn") (by walk_at "kn") fun HY sY wY => ?_
    walk_at "go"
    refine iteF ?_
    walk_at "go"
    exact ⟨_, _, _, _, _, _, _, _, _, _, _, _, _, rfl, bag8.mv (by walk_at "sm")⟩
  · rintro σ' H0 ⟨v2, v3, v4, v5, v6, v7, v8, v9, v10, v11, v12, v13, v14, rfl, bag0⟩
    walk_at "go"
    refine g_mkKK [.int (-6), .int 4] rfl (fun _ => rfl) (g_mkR (t := -6) (b := 4) Al.nil (by decide) (Sz.mono (m := 4) (by show Int.natAbs 4 < 2 ^ 4; decide) (by decide)) fun p dx H1 s1 w1 n1 k1 => ?_)
    rw [show rt (-6) 4 = -3 by decide, show rb (-6) 4 = 2 by decide] at k1
    walk_at "go"
    refine g_isR (by walk_at "kn") (by walk_at "kn") fun H2 s2 w2 => ?_
    walk_at "go"
    refine iteT ?_
    walk_at "go"
    refine g_mkR (t := 0) (b := 7) Al.nil (by decide) (Sz.mono (m := 4) (by show Int.natAbs 7 < 2 ^ 4; decide) (by decide)) fun p dx H3 s3 w3 n3 k3 => ?_
    rw [show rt 0 7 = 0 by decide, show rb 0 7 = 1 by decide] at k3
    walk_at "go"
    refine g_isR (by walk_at "kn") (by walk_at "kn") fun H4 s4 w4 => ?_
    walk_at "go"
    refine iteT ?_
    walk_at "go"
    refine g_cvalK (f_cvalI_Ratio_MOST_DIGITS_12 R) ?_
    walk_at "go"
    exact q _
end

open PySem PySem.Spec PyProof.Rows L2 GX
abbrev RW : PySem.W.OpenRow := PySem.W.OpenLaw.row PySem.Challenge.rw_leastworld_k02_ratios_reckoned
abbrev hk : PySem.W.Hook := hookG 6 bs ds
def ob (s : PySem.W.SharedT) : AlG := obsGG 6 bs ds (HandSHeadRun.getT s)
theorem ob_eq (s : PySem.W.SharedT) : ob s = hk.obs s.abs := obsGG_eq (HandSHeadRun.getT_eq s)
theorem run (w : World) : HandSHeadRun.RunEq RW (PySem.W.view RW.prog [23]) hk ob 8000 ["_wall", "__name__", "WorldError", "InvalidRatio", "InvalidText", "DIGITS", "is_whole", "common_divisor", "number_in", "Ratio", "ratio_in", "_law_bag", "_law_pull", "_law_same", "_law_cut", "_law_plus", "_law_minus", "_law_times", "_law_over", "_law_is", "_law_signed"] w := by
  intro os
  kernel_rfl
theorem facts {P : Program} {w : World} {K : PySem.W.Frag} {h : Heap} {mg : Str → Option Value} {f : Addr} (X : K.In h) (G : h.Ns mainGlobals mg) (hfa : mg ("law" : Str) = some (.ref f)) (c : SaysF bs ds K) :
    ∃ fd : FuncData, (∀ (s : Shared) (v : Value), BindsTo s fd ⟨[v], []⟩ [("_law_script", v)]) ∧ ∀ base : Heap, K.In base → base.Ns mainGlobals mg → FnOk P w K mg base CX0 9 f fd ["_law_script"] (spLaw K) := by
  have R : Raw K mg := ⟨c, h, X, G⟩
  obtain ⟨fd, F⟩ := fd_law R
  have e := hfa.symm.trans (f_glo_law R)
  cases e
  have b := FunD.bindsA (ps := ["_law_script"]) F fun _ _ _ _ _ _ us hl => match us, hl with | [_], _ => rfl
  refine ⟨fd, fun s v => b s [v] rfl, fun base _ _ => ?_⟩
  obtain ⟨fd2, F2, G2⟩ := fo_law (P := P) (w := w) (base := base) R
  obtain ⟨oc, od, dV, kV, doc, pm, an, cdv, ct, osl, e1, lk, _⟩ := F.ex
  obtain ⟨oc2, od2, dV2, kV2, doc2, pm2, an2, cdv2, ct2, osl2, e2, lk2, _⟩ := F2.ex
  have e3 := lk.symm.trans lk2
  injection e3 with e3
  injection e3 with _ _ e4 _
  injection e4 with e4
  rw [e4]
  exact G2
end LW
open PySem PySem.W PySem.Calls PyProof.Rows
theorem PySem.Challenge.cw_leastworld_k02_ratios_reckoned_holds : PySem.Challenge.rw_leastworld_k02_ratios_reckoned.Holds := by
  w_on; o_law
  refine HandSHeadRun.head_any (r := OpenLaw.row PySem.Challenge.rw_leastworld_k02_ratios_reckoned) (q := view (OpenLaw.row PySem.Challenge.rw_leastworld_k02_ratios_reckoned).prog [23]) (H := LW.hk) (ob := LW.ob) (M := 8000) (loose := ["_wall", "__name__", "WorldError", "InvalidRatio", "InvalidText", "DIGITS", "is_whole", "common_divisor", "number_in", "Ratio", "ratio_in", "_law_bag", "_law_pull", "_law_same", "_law_cut", "_law_plus", "_law_minus", "_law_times", "_law_over", "_law_is", "_law_signed"]) (d := HandSHeadRun.topDef (OpenLaw.row PySem.Challenge.rw_leastworld_k02_ratios_reckoned).prog 23) (kwd := []) LW.ob_eq
    (by kernel_rfl) (fun s => by kernel_rfl) LW.run (by kernel_rfl) (by kernel_rfl) (by kernel_rfl) (by rfl) (by first | assumption | decide +kernel) (by decide +kernel) ⟨rfl, rfl, rfl, rfl, rfl, by decide +kernel⟩ ?hw ?hc
  case hw => w_witness2
  case hc =>
    refine L2.walk_ofE (l := PySem.Challenge.rw_leastworld_k02_ratios_reckoned) (n := 63) (k := 9) (x := "_law_script") (CX := L2.CX0) rfl (by decide) (by kernel_rfl) ⟨rfl, by decide, by decide⟩ ?F (fun _ _ _ _ z => z)
    intro w mg fa h Y G hmg0
    obtain ⟨K, KX, c⟩ := Y
    have hmg : mg ("law" : PySem.Str) = some (.ref fa) := by
      have e : (HandSHeadRun.topDef (OpenLaw.row PySem.Challenge.rw_leastworld_k02_ratios_reckoned).prog 23).name = ("law" : PySem.Str) := by kernel_rfl
      rw [← e]
      exact hmg0
    obtain ⟨fd, hb, hF⟩ := LW.facts (P := (PySem.Challenge.rw_leastworld_k02_ratios_reckoned).prog) (w := w) KX G hmg c
    exact ⟨K, fd, LW.spLaw K, KX, hb, fun H a ns hl _ hS => ⟨a, ns, rfl, hS, fun _ => rfl⟩, hF⟩

